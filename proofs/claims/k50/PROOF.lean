import PyProof.Rows.All
import Wide.All
import OpenK.AllK
import Wide.FinOn
import HandS.Lambda
import HandS.EndTab
import HandS.ForMost
import HandS.ForExc
import HandS.TryMany
import HandS.Wide
import HandS.IsInst
import HandS.Defaults
import HandS.FStr
import HandS.StrMore
import HandS.TupAny
import HandS.ExcIs
import HandS.EndBits
import HandS.Style
import HandS.Deep
import HandS.Steps
import HandS.Conv
import HandS.More
import KE.KFmtOwn
import HandS.RaiseMore
import HandS.SortRule
import HandS.SortInts
import HandS.TryOnly
import HandS.ExcInit
import HandS.ExcField
import HandS.ClsMeth
import HandS.GenList
import HandS.Keys
import KE.KDictZip
import HandS.SetFor
import HandS.Zip
import HandS.Dict
import HandS.Set
import HandS.Strs
import HandS.OwnEq
import KE.GoesMore
import KE.GoesZip
import KE.GoesEnum
import PyProof.Rows.SetFrom
import HandS.Flt
import HandS.HeadWalk
import HandS.Head0
import HandS.Head1
import HandS.Head2
import HandS.HeadEnd
import HandS.HeadHook1
import HandS.HeadHook2
import HandS.HeadHook3
import HandS.HeadHook4
import PyProof.Rows.StrDigitsNeg
import PyProof.Rows.ReprOcc
import PySem.Challenge.RW_halfcrumb_k50_whole_pieces_refused
set_option Elab.async false
set_option linter.all false
set_option maxRecDepth 100000
set_option exponentiation.threshold 5000
set_option maxHeartbeats 40000000
namespace LamP
open PySem PySem.Spec PyProof.Rows L2 LamX
structure LamN (sc scope : Scope) (a b : Str) : Prop where
  kind : scope.kind = .function
  co : scope.isCoroutine = false
  gen : scope.isGenerator = false
  own : ∀ y ∈ scope.names, y.2 ≠ .cell ∧ (y.2 = .local → y.1 = a ∨ y.1 = b)
  pa : scope.names.lookup a = some .local
  pb : scope.names.lookup b = some .local
  ne : a ≠ b
  free : ∀ y ∈ scope.names, y.2 = .free → sc.names.lookup y.1 = some .cell ∨ sc.names.lookup y.1 = some .free
theorem nd_ix {N : List Str} (h : N.Nodup) {i j : Nat} {y : Str} (hi : N[i]? = some y) (hj : N[j]? = some y) : i = j := by
  have hil := (List.getElem?_eq_some_iff.mp hi).1
  have e := hi.trans hj.symm
  exact (List.getElem?_inj hil h).mp e
end LamP
namespace Dn
open PySem PySem.Spec PyProof.Rows L2
inductive D where
  | non | bl (b : Bool) | int (i : Int) | str (x : Str) | tup (l : List D) | lst (l : List D) | obj (c : Nat) (l : List D) | scr (l : List Int) | ptr (n : Nat)
inductive Ob where | lst (l : List D) | ins (c : Nat) (l : List D) | tbl (q : Str) | dct (l : List (Str × D))
abbrev Sto := List Ob
structure Gm where
  K : PySem.W.Frag
  ca : Nat → Addr
  fn : Nat → List Str
  ea : Addr
  cl : List (Option V) := []
  cc : Addr := 0
  cq : Str := Str.empty
  tb : List Addr := []
  ed : Option Addr := none
  en : List Str := []
  el : List D := []
structure Hs where
  as : List Addr
  f : Hp
  h : Hp
mutual
inductive Is (G : Gm) (as : List Addr) (H : Hp) : V → D → Prop
  | non : Is G as H .non .non
  | bl (b : Bool) : Is G as H (.bl b) (.bl b)
  | int (i : Int) : Is G as H (.int i) (.int i)
  | str (x : Str) : Is G as H (.str x) (.str x)
  | tup {a : Addr} {xs : List V} {ds : List D} : SqT G.K H a xs → IsL G as H xs ds → Is G as H (.ref a) (.tup ds)
  | lst {a : Addr} {xs : List V} {ds : List D} : H a = some (.lst xs) → IsL G as H xs ds → Is G as H (.ref a) (.lst ds)
  | obj {a dx : Addr} {c : Nat} {xs : List V} {ds : List D} : H a = some (.ins (G.ca c) dx ((G.fn c).zip xs)) → (G.fn c).length = xs.length → IsL G as H xs ds → Is G as H (.ref a) (.obj c ds)
  | scr {a : Addr} {l : List Int} : SqL G.K H a (l.map V.int) → Is G as H (.ref a) (.scr l)
  | ptr {a : Addr} {n : Nat} : as[n]? = some a → Is G as H (.ref a) (.ptr n)
inductive IsL (G : Gm) (as : List Addr) (H : Hp) : List V → List D → Prop
  | nil : IsL G as H [] []
  | cons {v : V} {vs : List V} {d : D} {ds : List D} : Is G as H v d → IsL G as H vs ds → IsL G as H (v :: vs) (d :: ds)
end
def Ext (as bs : List Addr) : Prop := ∀ (n : Nat) (a : Addr), as[n]? = some a → bs[n]? = some a
theorem Ext.refl (as : List Addr) : Ext as as := fun _ _ h => h
theorem Ext.trans {as bs cs : List Addr} (x : Ext as bs) (y : Ext bs cs) : Ext as cs := fun n a h => y n a (x n a h)
theorem Ext.mem {as bs : List Addr} (x : Ext as bs) {a : Addr} (h : a ∈ as) : a ∈ bs := by
  obtain ⟨n, hn⟩ := List.mem_iff_getElem?.mp h
  exact List.mem_iff_getElem?.mpr ⟨n, x n a hn⟩
theorem Ext.app (as bs : List Addr) : Ext as (as ++ bs) := fun n a h => by
  rw [List.getElem?_append_left (List.getElem?_eq_some_iff.mp h).1]; exact h
theorem same_t {K : PySem.W.Frag} {H H' : Hp} {a : Addr} {xs : List V} (e : Same H H') (h : SqT K H a xs) : SqT K H' a xs := by
  rcases h with (h | ⟨o, h⟩) | h
  · exact .inl (.inl (e _ _ h))
  · exact .inl (.inr ⟨o, e _ _ h⟩)
  · exact .inr h
mutual
theorem Is.mono {G : Gm} {as bs : List Addr} {H H' : Hp} (x : Ext as bs) (e : Same H H') : ∀ (d : D) {v : V}, Is G as H v d → Is G bs H' v d
  | .non, _, h => by cases h; exact .non
  | .bl _, _, h => by cases h; exact .bl _
  | .int _, _, h => by cases h; exact .int _
  | .str _, _, h => by cases h; exact .str _
  | .tup ds, _, h => by cases h with | tup a b => exact .tup (same_t e a) (IsL.mono x e ds b)
  | .lst ds, _, h => by cases h with | lst a b => exact .lst (e _ _ a) (IsL.mono x e ds b)
  | .scr l, _, h => by cases h with | scr a => exact .scr (e.seq a)
  | .ptr n, _, h => by cases h with | ptr a => exact .ptr (x _ _ a)
  | .obj c ds, _, h => by cases h with | obj a l b => exact .obj (e _ _ a) l (IsL.mono x e ds b)
theorem IsL.mono {G : Gm} {as bs : List Addr} {H H' : Hp} (x : Ext as bs) (e : Same H H') : ∀ (ds : List D) {vs : List V}, IsL G as H vs ds → IsL G bs H' vs ds
  | [], _, h => by cases h; exact .nil
  | d :: ds, _, h => by cases h with | cons a b => exact .cons (Is.mono x e d a) (IsL.mono x e ds b)
end
def Gm.at_ (G : Gm) (a : Addr) : Gm := { G with ea := a }
mutual
theorem Is.ea {G : Gm} {as : List Addr} {H : Hp} (x : Addr) : ∀ (d : D) {v : V}, Is G as H v d → Is (G.at_ x) as H v d
  | .non, _, h => by cases h; exact .non
  | .bl _, _, h => by cases h; exact .bl _
  | .int _, _, h => by cases h; exact .int _
  | .str _, _, h => by cases h; exact .str _
  | .tup ds, _, h => by cases h with | tup a b => exact .tup a (IsL.ea x ds b)
  | .lst ds, _, h => by cases h with | lst a b => exact .lst a (IsL.ea x ds b)
  | .scr l, _, h => by cases h with | scr a => exact .scr a
  | .ptr n, _, h => by cases h with | ptr a => exact .ptr a
  | .obj c ds, _, h => by cases h with | obj a l b => exact .obj a l (IsL.ea x ds b)
theorem IsL.ea {G : Gm} {as : List Addr} {H : Hp} (x : Addr) : ∀ (ds : List D) {vs : List V}, IsL G as H vs ds → IsL (G.at_ x) as H vs ds
  | [], _, h => by cases h; exact .nil
  | d :: ds, _, h => by cases h with | cons a b => exact .cons (Is.ea x d a) (IsL.ea x ds b)
end
section
variable {G : Gm} {as bs : List Addr} {H H' : Hp}
theorem Is.up {v : V} {d : D} (h : Is G as H v d) (x : Ext as bs) (e : Same H H') : Is G bs H' v d := Is.mono x e d h
theorem IsL.up {v : List V} {d : List D} (h : IsL G as H v d) (x : Ext as bs) (e : Same H H') : IsL G bs H' v d := IsL.mono x e d h
theorem IsL.len : ∀ {ds : List D} {vs : List V}, IsL G as H vs ds → vs.length = ds.length
  | [], _, h => by cases h; rfl
  | d :: ds, _, h => by cases h with | cons a b => exact congrArg Nat.succ b.len
theorem IsL.get : ∀ {ds : List D} {vs : List V} {i : Nat} {d : D}, IsL G as H vs ds → ds[i]? = some d → ∃ v, vs[i]? = some v ∧ Is G as H v d
  | [], _, _, _, _, e => by simp at e
  | d :: ds, _, 0, _, h, e => by cases h with | cons a b => simp at e; subst e; exact ⟨_, rfl, a⟩
  | d :: ds, _, i + 1, _, h, e => by
    cases h with
    | cons a b =>
      obtain ⟨v, h1, h2⟩ := IsL.get (i := i) b (by simpa using e)
      exact ⟨v, by simpa using h1, h2⟩
theorem IsL.getV {ds : List D} {vs : List V} {i : Nat} {v : V} (h : IsL G as H vs ds) (e : vs[i]? = some v) : ∃ d, ds[i]? = some d ∧ Is G as H v d := by
  have hl := h.len
  have hi : i < vs.length := (List.getElem?_eq_some_iff.mp e).1
  have : ds[i]? = some (ds[i]'(by omega)) := List.getElem?_eq_getElem (by omega)
  obtain ⟨w, h1, h2⟩ := h.get this
  rw [e] at h1
  cases h1
  exact ⟨_, this, h2⟩
theorem IsL.append : ∀ {ds es : List D} {vs ws : List V}, IsL G as H vs ds → IsL G as H ws es → IsL G as H (vs ++ ws) (ds ++ es)
  | [], _, _, _, h, k => by cases h; exact k
  | d :: ds, _, _, _, h, k => by cases h with | cons a b => exact .cons a (IsL.append b k)
theorem IsL.one {v : V} {d : D} (h : Is G as H v d) : IsL G as H [v] [d] := .cons h .nil
theorem IsL.take : ∀ (n : Nat) {ds : List D} {vs : List V}, IsL G as H vs ds → IsL G as H (vs.take n) (ds.take n)
  | 0, _, _, _ => .nil
  | n + 1, [], _, h => by cases h; exact .nil
  | n + 1, d :: ds, _, h => by cases h with | cons a b => exact .cons a (IsL.take n b)
theorem IsL.drop : ∀ (n : Nat) {ds : List D} {vs : List V}, IsL G as H vs ds → IsL G as H (vs.drop n) (ds.drop n)
  | 0, _, _, h => h
  | n + 1, [], _, h => by cases h; exact .nil
  | n + 1, d :: ds, _, h => by cases h with | cons a b => exact IsL.drop n b
theorem IsL.set {v : V} {d : D} (q : Is G as H v d) : ∀ (n : Nat) {ds : List D} {vs : List V}, IsL G as H vs ds → IsL G as H (vs.set n v) (ds.set n d)
  | _, [], _, h => by cases h; exact .nil
  | 0, _ :: ds, _, h => by cases h with | cons a b => exact .cons q b
  | n + 1, _ :: ds, _, h => by cases h with | cons a b => exact .cons a (IsL.set q n b)
theorem IsL.eraseIdx : ∀ (n : Nat) {ds : List D} {vs : List V}, IsL G as H vs ds → IsL G as H (vs.eraseIdx n) (ds.eraseIdx n)
  | _, [], _, h => by cases h; exact .nil
  | 0, _ :: ds, _, h => by cases h with | cons a b => exact b
  | n + 1, _ :: ds, _, h => by cases h with | cons a b => exact .cons a (IsL.eraseIdx n b)
theorem IsL.reverse : ∀ {ds : List D} {vs : List V}, IsL G as H vs ds → IsL G as H vs.reverse ds.reverse
  | [], _, h => by cases h; exact .nil
  | d :: ds, _, h => by
    cases h with
    | cons a b =>
      rw [List.reverse_cons, List.reverse_cons]
      exact (IsL.reverse b).append (.one a)
inductive KsR (G : Gm) (as : List Addr) (H : Hp) : List (Key × V) → List (Str × D) → Prop
  | nil : KsR G as H [] []
  | cons {x : Str} {v : V} {d : D} {ps : List (Key × V)} {ds : List (Str × D)} : Is G as H v d → KsR G as H ps ds → KsR G as H ((.inr x, v) :: ps) ((x, d) :: ds)
theorem KsR.up {ps : List (Key × V)} {ds : List (Str × D)} (h : KsR G as H ps ds) (x : Ext as bs) (e : Same H H') : KsR G bs H' ps ds := by
  induction h with
  | nil => exact .nil
  | cons a b ih => exact .cons (a.up x e) ih
theorem KsR.ea {ps : List (Key × V)} {ds : List (Str × D)} (x : Addr) (h : KsR G as H ps ds) : KsR (G.at_ x) as H ps ds := by
  induction h with
  | nil => exact .nil
  | cons a b ih => exact .cons (Is.ea x _ a) ih
def flat : D → Bool
  | .non | .bl _ | .int _ | .str _ => true
  | _ => false
theorem Is.flat (bs : List Addr) (H' : Hp) {v : V} {d : D} (h : Is G as H v d) (f : flat d = true) : Is G bs H' v d := by
  cases h <;> first | exact .non | exact .bl _ | exact .int _ | exact .str _ | cases f
end
theorem same_new {H : Hp} {p : Addr} {o : HO} (h : H p = none) : Same H (upd H p o) := fun a u e => by
  rw [upd_ne (ne_of_none e h)]
  exact e
structure Gro (s t : Hs) : Prop where
  a : Ext s.as t.as
  f : Same s.f t.f
  h : ∀ p o, s.h p = some o → p ∉ s.as → t.h p = some o
  sf : Same t.f t.h
  n : ∀ p o, s.h p = some o → s.f p = none → t.f p = none
  w : ∀ x, x ∈ t.as → x ∈ s.as ∨ s.h x = none
  z : ∀ x, x ∈ t.as → t.f x = none
theorem Gro.trans {s t u : Hs} (x : Gro s t) (y : Gro t u) : Gro s u where
  a := x.a.trans y.a
  f := x.f.trans y.f
  h := fun p o e q => y.h p o (x.h p o e q) fun m => (x.w p m).elim q fun z => by rw [e] at z; cases z
  sf := y.sf
  n := fun p o e q => by
    by_cases m : p ∈ s.as
    · exact y.z p (y.a.mem (x.a.mem m))
    · exact y.n p o (x.h p o e m) (x.n p o e q)
  w := fun p m => (y.w p m).elim (fun m => x.w p m) fun z => by
    by_cases m : p ∈ s.as
    · exact .inl m
    · cases e : s.h p with
      | none => exact .inr rfl
      | some o => rw [x.h p o e m] at z; cases z
  z := y.z
def ObOk (G : Gm) (s : Hs) (a : Addr) : Ob → Prop
  | .lst ds => ∃ vs, s.h a = some (.lst vs) ∧ IsL G s.as s.f vs ds
  | .ins c ds => ∃ dx vs, s.h a = some (.ins (G.ca c) dx ((G.fn c).zip vs)) ∧ vs.length ≤ (G.fn c).length ∧ IsL G s.as s.f vs ds
  | .tbl q => ∃ ps : Array Value, s.h a = some (.tbl ps) ∧ TriplesOk ps.toList ∧ ∀ (pos : Pos) (cv : Value), codeAmong pos ps.toList = some cv → ∃ c, cv = .ref c ∧ s.f c = some (LamX.CodeO c q)
  | .dct l => ∃ kvs : List (Key × V), s.h a = some (.dK kvs) ∧ KsR G s.as s.f kvs l
def ExF (G : Gm) (s : Hs) : Prop := ∀ da, G.ed = some da → ∃ xs, s.f da = some (.xd (G.en.zip xs)) ∧ G.en.length = xs.length ∧ IsL G s.as s.f xs G.el
theorem ExF.up {G : Gm} {s t : Hs} (k : ExF G s) (a : Ext s.as t.as) (f : Same s.f t.f) : ExF G t := fun da h => by
  obtain ⟨xs, h1, h2, h3⟩ := k da h
  exact ⟨xs, f _ _ h1, h2, h3.up a f⟩
structure StOk (G : Gm) (s : Hs) (st : Sto) : Prop where
  sf : Same s.f s.h
  len : s.as.length = st.length
  nd : s.as.Nodup
  ob : ∀ (n : Nat) (a : Addr) (o : Ob), s.as[n]? = some a → st[n]? = some o → ObOk G s a o
  nf : ∀ x, x ∈ s.as → s.f x = none
  tb : ∀ (n : Nat) (P : Addr), G.tb[n]? = some P → s.as[n]? = some P
  ex : ExF G s
theorem Gro.refl {G : Gm} {s : Hs} {st : Sto} (o : StOk G s st) : Gro s s := ⟨Ext.refl _, Same.refl _, fun _ _ e _ => e, o.sf, fun _ _ _ q => q, fun _ m => .inl m, o.nf⟩
theorem StOk.in_ {G : Gm} {s : Hs} {st : Sto} (o : StOk G s st) {x : Addr} (m : x ∈ s.as) : ∃ u, s.h x = some u := by
  obtain ⟨n, hn⟩ := List.mem_iff_getElem?.mp m
  have hl : n < st.length := by rw [← o.len]; exact (List.getElem?_eq_some_iff.mp hn).1
  have q := o.ob n x st[n] hn (List.getElem?_eq_getElem hl)
  cases e : st[n] with
  | lst ds => rw [e] at q; obtain ⟨vs, h, _⟩ := q; exact ⟨_, h⟩
  | ins c ds => rw [e] at q; obtain ⟨dx, vs, h, _⟩ := q; exact ⟨_, h⟩
  | tbl w => rw [e] at q; obtain ⟨ps, h, _⟩ := q; exact ⟨_, h⟩
  | dct l => rw [e] at q; obtain ⟨ps, h, _⟩ := q; exact ⟨_, h⟩
theorem StOk.new {G : Gm} {s : Hs} {st : Sto} (o : StOk G s st) {p : Addr} (h : s.h p = none) : p ∉ s.as := fun m => by
  obtain ⟨u, e⟩ := o.in_ m
  rw [h] at e; cases e
theorem ObOk.keep {G : Gm} {s t : Hs} {a : Addr} {o : Ob} (q : ObOk G s a o) (x : Ext s.as t.as) (f : Same s.f t.f) (h : ∀ u, s.h a = some u → t.h a = some u) : ObOk G t a o := by
  cases o with
  | lst ds => obtain ⟨vs, h1, h2⟩ := q; exact ⟨vs, h _ h1, h2.up x f⟩
  | ins c ds => obtain ⟨dx, vs, h1, hl, h2⟩ := q; exact ⟨dx, vs, h _ h1, hl, h2.up x f⟩
  | tbl w =>
    obtain ⟨ps, h1, h2, h3⟩ := q
    refine ⟨ps, h _ h1, h2, fun pos cv hc => ?_⟩
    obtain ⟨c, e1, e2⟩ := h3 pos cv hc
    exact ⟨c, e1, f _ _ e2⟩
  | dct l => obtain ⟨kvs, h1, h2⟩ := q; exact ⟨kvs, h _ h1, h2.up x f⟩
theorem Gro.new {G : Gm} {s : Hs} {st : Sto} {p : Addr} {o : HO} (k : StOk G s st) (h : s.h p = none) : Gro s ⟨s.as, upd s.f p o, upd s.h p o⟩ := by
  refine ⟨Ext.refl _, same_new (k.sf.free h), fun a u e _ => ?_, fun a u e => ?_, fun a u e q => ?_, fun _ m => .inl m, fun x m => ?_⟩
  · show upd s.h p o a = some u
    rw [upd_ne (ne_of_none e h)]; exact e
  · have e' : upd s.f p o a = some u := e
    show upd s.h p o a = some u
    by_cases z : a = p
    · subst z; rw [upd_same] at e' ⊢; exact e'
    · rw [upd_ne z] at e' ⊢; exact k.sf _ _ e'
  · show upd s.f p o a = none
    rw [upd_ne (ne_of_none e h)]; exact q
  · show upd s.f p o x = none
    have : x ≠ p := fun z => by subst z; exact k.new h m
    rw [upd_ne this]; exact k.nf x m
theorem Gro.loose {G : Gm} {s : Hs} {st : Sto} {p : Addr} {o : HO} (k : StOk G s st) (h : s.h p = none) : Gro s ⟨s.as, s.f, upd s.h p o⟩ :=
  ⟨Ext.refl _, Same.refl _, fun a u e _ => by show upd s.h p o a = some u; rw [upd_ne (ne_of_none e h)]; exact e, k.sf.trans (same_new h), fun _ _ _ q => q, fun _ m => .inl m, k.nf⟩
theorem StOk.grow {G : Gm} {s : Hs} {st : Sto} {p : Addr} {o : HO} (k : StOk G s st) (h : s.h p = none) : StOk G ⟨s.as, upd s.f p o, upd s.h p o⟩ st := by
  have g := Gro.new (o := o) k h
  refine ⟨g.sf, k.len, k.nd, fun n a b e1 e2 => (k.ob n a b e1 e2).keep g.a g.f fun u e => ?_, g.z, k.tb, k.ex.up g.a g.f⟩
  show upd s.h p o a = some u
  rw [upd_ne (ne_of_none e h)]; exact e
theorem StOk.loose {G : Gm} {s : Hs} {st : Sto} {p : Addr} {o : HO} (k : StOk G s st) (h : s.h p = none) : StOk G ⟨s.as, s.f, upd s.h p o⟩ st := by
  have g := Gro.loose (o := o) k h
  refine ⟨g.sf, k.len, k.nd, fun n a b e1 e2 => (k.ob n a b e1 e2).keep g.a g.f fun u e => ?_, g.z, k.tb, k.ex.up g.a g.f⟩
  show upd s.h p o a = some u
  rw [upd_ne (ne_of_none e h)]; exact e
theorem Gro.ice {G : Gm} {s t : Hs} {st : Sto} {p : Addr} {o : HO} (g : Gro s t) (k : StOk G t st) (hp : t.h p = some o) (hs : s.h p = none) (hf : t.f p = none) (ha : p ∉ t.as) : Gro s ⟨t.as, upd t.f p o, t.h⟩ := by
  refine ⟨g.a, g.f.trans (same_new hf), g.h, fun a u e => ?_, fun a u e q => ?_, g.w, fun x m => ?_⟩
  · have e' : upd t.f p o a = some u := e
    show t.h a = some u
    by_cases z : a = p
    · subst z; rw [upd_same] at e'; rw [← e']; exact hp
    · rw [upd_ne z] at e'; exact g.sf _ _ e'
  · show upd t.f p o a = none
    rw [upd_ne (ne_of_none e hs)]; exact g.n _ _ e q
  · show upd t.f p o x = none
    have : x ≠ p := fun z => by subst z; exact ha m
    rw [upd_ne this]; exact g.z x m
theorem StOk.ice {G : Gm} {t : Hs} {st : Sto} {p : Addr} {o : HO} (k : StOk G t st) (hp : t.h p = some o) (hf : t.f p = none) (ha : p ∉ t.as) : StOk G ⟨t.as, upd t.f p o, t.h⟩ st := by
  refine ⟨fun a u e => ?_, k.len, k.nd, fun n a b e1 e2 => (k.ob n a b e1 e2).keep (Ext.refl _) (same_new hf) fun u e => e, fun x m => ?_, k.tb, k.ex.up (Ext.refl _) (same_new hf)⟩
  · have e' : upd t.f p o a = some u := e
    show t.h a = some u
    by_cases z : a = p
    · subst z; rw [upd_same] at e'; rw [← e']; exact hp
    · rw [upd_ne z] at e'; exact k.sf _ _ e'
  · show upd t.f p o x = none
    have : x ≠ p := fun z => by subst z; exact ha m
    rw [upd_ne this]; exact k.nf x m
theorem Gro.chg {s t : Hs} {p : Addr} {o : HO} (g : Gro s t) (h : s.h p = none) (hf : t.f p = none) : Gro s ⟨t.as, t.f, upd t.h p o⟩ :=
  ⟨g.a, g.f, fun a u e q => by show upd t.h p o a = some u; rw [upd_ne (ne_of_none e h)]; exact g.h _ _ e q, fun a u e => by show upd t.h p o a = some u; rw [upd_ne (ne_of_none e hf)]; exact g.sf _ _ e, g.n, g.w, g.z⟩
theorem StOk.chg {G : Gm} {t : Hs} {st : Sto} {p : Addr} {o : HO} (k : StOk G t st) (hf : t.f p = none) (ha : p ∉ t.as) : StOk G ⟨t.as, t.f, upd t.h p o⟩ st := by
  refine ⟨fun a u e => by show upd t.h p o a = some u; rw [upd_ne (ne_of_none e hf)]; exact k.sf _ _ e, k.len, k.nd, fun n a b e1 e2 => (k.ob n a b e1 e2).keep (Ext.refl _) (Same.refl _) fun u e => ?_, k.nf, k.tb, k.ex.up (Ext.refl _) (Same.refl _)⟩
  show upd t.h p o a = some u
  have : a ≠ p := fun z => by subst z; exact ha (List.mem_iff_getElem?.mpr ⟨n, e1⟩)
  rw [upd_ne this]; exact e
theorem Gro.put {G : Gm} {s t : Hs} {st : Sto} {p : Addr} (g : Gro s t) (k : StOk G t st) (hs : s.h p = none) (hf : t.f p = none) : Gro s ⟨t.as ++ [p], t.f, t.h⟩ := by
  refine ⟨g.a.trans (Ext.app _ _), g.f, g.h, g.sf, g.n, fun x m => ?_, fun x m => ?_⟩
  · rcases List.mem_append.mp m with m | m
    · exact g.w x m
    · have : x = p := by simpa using m
      subst this; exact .inr hs
  · rcases List.mem_append.mp m with m | m
    · exact g.z x m
    · have : x = p := by simpa using m
      subst this; exact hf
theorem StOk.put {G : Gm} {t : Hs} {st : Sto} {p : Addr} {o : Ob} (k : StOk G t st) (hf : t.f p = none) (ha : p ∉ t.as) (ho : ObOk G ⟨t.as ++ [p], t.f, t.h⟩ p o) : StOk G ⟨t.as ++ [p], t.f, t.h⟩ (st ++ [o]) := by
  refine ⟨k.sf, by simp [k.len], ?_, fun n a b e1 e2 => ?_, fun x m => ?_, fun n P h => Ext.app _ _ n P (k.tb n P h), k.ex.up (Ext.app _ _) (Same.refl _)⟩
  · show (t.as ++ [p]).Nodup
    rw [List.nodup_append]
    refine ⟨k.nd, by simp, fun a h1 b h2 z => ?_⟩
    have : b = p := by simpa using h2
    subst this; subst z; exact ha h1
  · have e1' : (t.as ++ [p])[n]? = some a := e1
    by_cases hn : n < t.as.length
    · rw [List.getElem?_append_left hn] at e1'
      rw [List.getElem?_append_left (by rw [← k.len]; exact hn)] at e2
      exact (k.ob n a b e1' e2).keep (Ext.app _ _) (Same.refl _) fun u e => e
    · have hn' : n = t.as.length := by
        have := (List.getElem?_eq_some_iff.mp e1').1
        simp at this; omega
      subst hn'
      rw [List.getElem?_append_right (Nat.le_refl _)] at e1'
      rw [k.len, List.getElem?_append_right (Nat.le_refl _)] at e2
      simp at e1' e2
      subst e1'; subst e2
      exact ho
  · rcases List.mem_append.mp m with m | m
    · exact k.nf x m
    · have : x = p := by simpa using m
      subst this; exact hf
theorem Gro.mod {G : Gm} {s t : Hs} {st : Sto} {n : Nat} {a : Addr} {o : HO} (g : Gro s t) (k : StOk G t st) (ha : t.as[n]? = some a) : Gro s ⟨t.as, t.f, upd t.h a o⟩ := by
  have m : a ∈ t.as := List.mem_iff_getElem?.mpr ⟨n, ha⟩
  refine ⟨g.a, g.f, fun p u e q => ?_, fun p u e => ?_, g.n, g.w, g.z⟩
  · show upd t.h a o p = some u
    have : p ≠ a := fun z => by
      subst z
      exact (g.w p m).elim q fun z => by rw [e] at z; cases z
    rw [upd_ne this]; exact g.h _ _ e q
  · show upd t.h a o p = some u
    have : p ≠ a := fun z => by
      subst z
      have := k.nf p m
      rw [show t.f p = some u from e] at this; cases this
    rw [upd_ne this]; exact k.sf _ _ e
theorem StOk.mod {G : Gm} {t : Hs} {st : Sto} {n : Nat} {a : Addr} {o : HO} {b : Ob} (k : StOk G t st) (ha : t.as[n]? = some a) (ho : ObOk G ⟨t.as, t.f, upd t.h a o⟩ a b) : StOk G ⟨t.as, t.f, upd t.h a o⟩ (st.set n b) := by
  have m : a ∈ t.as := List.mem_iff_getElem?.mpr ⟨n, ha⟩
  refine ⟨fun p u e => ?_, by simp [k.len], k.nd, fun j x c e1 e2 => ?_, k.nf, k.tb, k.ex.up (Ext.refl _) (Same.refl _)⟩
  · show upd t.h a o p = some u
    have : p ≠ a := fun z => by
      subst z
      have := k.nf p m
      rw [show t.f p = some u from e] at this; cases this
    rw [upd_ne this]; exact k.sf _ _ e
  · by_cases z : n = j
    · subst z
      rw [List.getElem?_set_self (by rw [← k.len]; exact (List.getElem?_eq_some_iff.mp ha).1)] at e2
      cases e2
      have e1' : t.as[n]? = some x := e1
      rw [ha] at e1'; cases e1'
      exact ho
    · rw [List.getElem?_set_ne z] at e2
      refine (k.ob j x c e1 e2).keep (Ext.refl _) (Same.refl _) fun u e => ?_
      show upd t.h a o x = some u
      have : x ≠ a := fun y => by
        subst y
        have e1' : t.as[j]? = some x := e1
        exact z (nd_ix k.nd ha e1')
      rw [upd_ne this]; exact e
inductive Md where | P | B | N
  deriving DecidableEq
def VOk (G : Gm) (s t : Hs) : Md → V → D → Prop
  | .P, v, d => Is G t.as t.f v d
  | .B, v, d => ∃ p vs l, v = .ref p ∧ d = .lst l ∧ t.h p = some (.lst vs) ∧ IsL G t.as t.f vs l ∧ p ∉ t.as
  | .N, v, d => ∃ p vs l, v = .ref p ∧ d = .lst l ∧ t.h p = some (.lst vs) ∧ IsL G t.as t.f vs l ∧ p ∉ t.as ∧ s.h p = none ∧ t.f p = none
def U (G : Gm) (t : Hs) (v : V) (d : D) : Prop := Is G t.as t.f v d ∨ ∃ p vs l, v = .ref p ∧ d = .lst l ∧ t.h p = some (.lst vs) ∧ IsL G t.as t.f vs l ∧ p ∉ t.as
section
variable {G : Gm} {s t t' : Hs} {v : V} {d : D} {m : Md}
theorem VOk.u (h : VOk G s t m v d) : U G t v d := by
  cases m with
  | P => exact .inl h
  | B => exact .inr h
  | N => obtain ⟨p, vs, l, a, b, c, e, f, _⟩ := h; exact .inr ⟨p, vs, l, a, b, c, e, f⟩
theorem U.up (h : U G t v d) (g : Gro t t') : U G t' v d := by
  rcases h with h | ⟨p, vs, l, a, b, c, e, f⟩
  · exact .inl (h.up g.a g.f)
  · exact .inr ⟨p, vs, l, a, b, g.h _ _ c f, e.up g.a g.f, fun m => (g.w p m).elim f fun z => by rw [c] at z; cases z⟩
theorem U.lst {l : List D} (h : U G t v (.lst l)) (s : Same t.f t.h) : ∃ p vs, v = .ref p ∧ t.h p = some (.lst vs) ∧ IsL G t.as t.f vs l := by
  rcases h with h | ⟨p, vs, l', rfl, e, c, q, _⟩
  · cases h with | lst a b => exact ⟨_, _, rfl, s _ _ a, b⟩
  · cases e; exact ⟨p, vs, rfl, c, q⟩
theorem U.scr {l : List Int} (h : U G t v (.scr l)) (s : Same t.f t.h) : ∃ p, v = .ref p ∧ SqL G.K t.h p (l.map V.int) := by
  rcases h with h | ⟨p, vs, l', rfl, e, c, q, _⟩
  · cases h with | scr a => exact ⟨_, rfl, s.seq a⟩
  · cases e
theorem U.tup {l : List D} (h : U G t v (.tup l)) (s : Same t.f t.h) : ∃ p vs, v = .ref p ∧ SqT G.K t.h p vs ∧ IsL G t.as t.f vs l := by
  rcases h with h | ⟨p, vs, l', rfl, e, c, q, _⟩
  · cases h with | tup a b => exact ⟨_, _, rfl, same_t s a, b⟩
  · cases e
theorem U.tupI {l : List D} (h : U G t v (.tup l)) : Is G t.as t.f v (.tup l) := by
  rcases h with h | ⟨p, vs, l', a, b, _⟩
  · exact h
  · cases b
theorem U.ptr {n : Nat} (h : U G t v (.ptr n)) : ∃ p, v = .ref p ∧ t.as[n]? = some p := by
  rcases h with h | ⟨p, vs, l', rfl, e, c, q, _⟩
  · cases h with | ptr a => exact ⟨_, rfl, a⟩
  · cases e
theorem U.obj {c : Nat} {l : List D} (h : U G t v (.obj c l)) (s : Same t.f t.h) : ∃ p dx vs, v = .ref p ∧ t.h p = some (.ins (G.ca c) dx ((G.fn c).zip vs)) ∧ (G.fn c).length = vs.length ∧ IsL G t.as t.f vs l := by
  rcases h with h | ⟨p, vs, l', rfl, e, c, q, _⟩
  · cases h with | obj a l b => exact ⟨_, _, _, rfl, s _ _ a, l, b⟩
  · cases e
theorem U.int {i : Int} (h : U G t v (.int i)) : v = .int i := by
  rcases h with h | ⟨p, vs, l', rfl, e, _⟩
  · cases h; rfl
  · cases e
theorem U.bl {i : Bool} (h : U G t v (.bl i)) : v = .bl i := by
  rcases h with h | ⟨p, vs, l', rfl, e, _⟩
  · cases h; rfl
  · cases e
theorem U.str {i : Str} (h : U G t v (.str i)) : v = .str i := by
  rcases h with h | ⟨p, vs, l', rfl, e, _⟩
  · cases h; rfl
  · cases e
theorem U.non (h : U G t v .non) : v = .non := by
  rcases h with h | ⟨p, vs, l', rfl, e, _⟩
  · cases h; rfl
  · cases e
theorem VOk.up (h : VOk G s t m v d) (g : Gro t t') : VOk G s t' m v d := by
  have na : ∀ {p : Addr} {o : HO}, t.h p = some o → p ∉ t.as → p ∉ t'.as := fun {p o} c f m => (g.w p m).elim f fun z => by rw [c] at z; cases z
  cases m with
  | P => exact Is.up h g.a g.f
  | B => obtain ⟨p, vs, l, a, b, c, e, f⟩ := h; exact ⟨p, vs, l, a, b, g.h _ _ c f, e.up g.a g.f, na c f⟩
  | N => obtain ⟨p, vs, l, a, b, c, e, f, n, z⟩ := h; exact ⟨p, vs, l, a, b, g.h _ _ c f, e.up g.a g.f, na c f, n, g.n _ _ c z⟩
theorem VOk.back {r : Hs} {st : Sto} (h : VOk G s t m v d) (g : Gro r s) (k : StOk G s st) : VOk G r t m v d := by
  cases m with
  | P => exact h
  | B => exact h
  | N =>
    obtain ⟨p, vs, l, a, b, c, e, f, n, z⟩ := h
    refine ⟨p, vs, l, a, b, c, e, f, ?_, z⟩
    cases q : r.h p with
    | none => rfl
    | some o =>
      by_cases i : p ∈ r.as
      · exact absurd (g.a.mem i) (k.new n)
      · rw [g.h p o q i] at n; cases n
theorem VOk.freeze {st : Sto} (h : VOk G s t m v d) (g : Gro s t) (k : StOk G t st) (hm : m ≠ .B) : ∃ f, Gro s ⟨t.as, f, t.h⟩ ∧ StOk G ⟨t.as, f, t.h⟩ st ∧ Same t.f f ∧ Is G t.as f v d := by
  cases m with
  | P => exact ⟨t.f, g, k, Same.refl _, h⟩
  | B => exact absurd rfl hm
  | N =>
    obtain ⟨p, vs, l, rfl, rfl, c, e, f, n, z⟩ := h
    exact ⟨upd t.f p (.lst vs), g.ice k c n z f, k.ice c z f, same_new z, .lst upd_same (e.up (Ext.refl _) (same_new z))⟩
end
inductive SL where | emp | val (d : D) | own (l : List D) | exn | clo (ds : List (Option D))
abbrev DE := List SL
structure En where
  e : DE
  st : Sto
def SlotOk (G : Gm) (s t : Hs) : Option V → SL → Prop
  | _, .emp => True
  | o, .exn => o = some (.ref G.ea)
  | o, .clo ds => o = some (.ref G.ea) ∧ G.cl.length = ds.length ∧ t.f G.cc = some (LamX.CodeO G.cc G.cq) ∧ ∀ (i : Nat) (d : D), ds[i]? = some (some d) → ∃ v, G.cl[i]? = some (some v) ∧ Is G t.as t.f v d
  | o, .val d => ∃ v, o = some v ∧ Is G t.as t.f v d
  | o, .own l => ∃ p vs, o = some (.ref p) ∧ s.h p = none ∧ t.f p = none ∧ t.h p = some (.lst vs) ∧ IsL G t.as t.f vs l ∧ p ∉ t.as
structure EnvOk (G : Gm) (s t : Hs) (σ : L2.St) (e : DE) : Prop where
  gr : Gro s t
  len : σ.length = e.length
  at_ : ∀ (i : Nat) (o : Option V) (x : SL), σ[i]? = some o → e[i]? = some x → SlotOk G s t o x
  dis : ∀ (i j : Nat) (p : Addr) (l m : List D), i ≠ j → σ[i]? = some (some (.ref p)) → e[i]? = some (.own l) → σ[j]? = some (some (.ref p)) → e[j]? = some (.own m) → False
section
variable {G : Gm} {s t t' : Hs} {σ : L2.St} {e : DE} {st : Sto}
theorem SlotOk.up {o : Option V} {x : SL} (h : SlotOk G s t o x) (g : Gro t t') : SlotOk G s t' o x := by
  cases x with
  | emp => trivial
  | exn => exact h
  | clo ds =>
    obtain ⟨h1, h2, h3, h4⟩ := h
    refine ⟨h1, h2, g.f _ _ h3, fun i d hd => ?_⟩
    obtain ⟨v, a, b⟩ := h4 i d hd
    exact ⟨v, a, b.up g.a g.f⟩
  | val d => obtain ⟨v, a, b⟩ := h; exact ⟨v, a, b.up g.a g.f⟩
  | own l => obtain ⟨p, vs, a, b, c, d, e, f⟩ := h; exact ⟨p, vs, a, b, g.n _ _ d c, g.h _ _ d f, e.up g.a g.f, fun m => (g.w p m).elim f fun z => by rw [d] at z; cases z⟩
theorem EnvOk.up (h : EnvOk G s t σ e) (g : Gro t t') : EnvOk G s t' σ e :=
  ⟨h.gr.trans g, h.len, fun i o s a b => (h.at_ i o s a b).up g, h.dis⟩
theorem EnvOk.slot {i : Nat} {x : SL} (h : EnvOk G s t σ e) (hs : e[i]? = some x) : ∃ o, σ[i]? = some o ∧ SlotOk G s t o x := by
  have hi : i < e.length := (List.getElem?_eq_some_iff.mp hs).1
  have e1 : σ[i]? = some (σ[i]'(by have := h.len; omega)) := List.getElem?_eq_getElem _
  exact ⟨_, e1, h.at_ i _ x e1 hs⟩
theorem EnvOk.set {i : Nat} {o : Option V} {x : SL} (h : EnvOk G s t σ e) (hs : SlotOk G s t o x) (hn : ∀ l, x ≠ .own l) : EnvOk G s t (σ.set i o) (e.set i x) := by
  refine ⟨h.gr, by simp [h.len], fun j o' s' a b => ?_, fun j k p l m hjk a b c d => ?_⟩
  · by_cases z : i = j
    · subst z
      have hi : i < σ.length := by
        have := (List.getElem?_eq_some_iff.mp a).1
        simpa using this
      rw [List.getElem?_set_self hi] at a
      rw [List.getElem?_set_self (by rw [← h.len]; exact hi)] at b
      cases a; cases b; exact hs
    · rw [List.getElem?_set_ne z] at a b
      exact h.at_ j o' s' a b
  · by_cases z : i = j
    · subst z
      have hi : i < e.length := by
        have := (List.getElem?_eq_some_iff.mp b).1
        simpa using this
      rw [List.getElem?_set_self hi] at b
      cases b
      exact absurd rfl (hn l)
    · by_cases z2 : i = k
      · subst z2
        have hi : i < e.length := by
          have := (List.getElem?_eq_some_iff.mp d).1
          simpa using this
        rw [List.getElem?_set_self hi] at d
        cases d
        exact absurd rfl (hn m)
      · rw [List.getElem?_set_ne z] at a b
        rw [List.getElem?_set_ne z2] at c d
        exact h.dis j k p l m hjk a b c d
theorem EnvOk.setOwn {i : Nat} {p : Addr} {vs : List V} {l : List D} (h : EnvOk G s t σ e) (h0 : s.h p = none) (hf : t.f p = none) (hp : t.h p = some (.lst vs)) (hl : IsL G t.as t.f vs l) (ha : p ∉ t.as)
    (hne : ∀ (j : Nat) (m : List D), j ≠ i → σ[j]? = some (some (.ref p)) → e[j]? = some (.own m) → False) : EnvOk G s t (σ.set i (some (.ref p))) (e.set i (.own l)) := by
  refine ⟨h.gr, by simp [h.len], fun j o' s' a b => ?_, fun j k q l1 m hjk a b c d => ?_⟩
  · by_cases z : i = j
    · subst z
      have hi : i < σ.length := by
        have := (List.getElem?_eq_some_iff.mp a).1
        simpa using this
      rw [List.getElem?_set_self hi] at a
      rw [List.getElem?_set_self (by rw [← h.len]; exact hi)] at b
      cases a; cases b; exact ⟨p, vs, rfl, h0, hf, hp, hl, ha⟩
    · rw [List.getElem?_set_ne z] at a b
      exact h.at_ j o' s' a b
  · by_cases z : i = j
    · subst z
      have hi : i < σ.length := by
        have := (List.getElem?_eq_some_iff.mp a).1
        simpa using this
      rw [List.getElem?_set_self hi] at a
      rw [List.getElem?_set_ne hjk] at c d
      cases a
      exact hne k m (fun z => hjk z.symm) c d
    · by_cases z2 : i = k
      · subst z2
        have hi : i < σ.length := by
          have := (List.getElem?_eq_some_iff.mp c).1
          simpa using this
        rw [List.getElem?_set_self hi] at c
        rw [List.getElem?_set_ne z] at a b
        cases c
        exact hne j l1 hjk a b
      · rw [List.getElem?_set_ne z] at a b
        rw [List.getElem?_set_ne z2] at c d
        exact h.dis j k q l1 m hjk a b c d
theorem EnvOk.chg {i : Nat} {p : Addr} {vs : List V} {l l' : List D} (h : EnvOk G s t σ e) (hσ : σ[i]? = some (some (.ref p))) (he : e[i]? = some (.own l')) (h0 : s.h p = none) (hf : t.f p = none) (hl : IsL G t.as t.f vs l) (ha : p ∉ t.as) :
    EnvOk G s ⟨t.as, t.f, upd t.h p (.lst vs)⟩ σ (e.set i (.own l)) := by
  refine ⟨h.gr.chg h0 hf, by simp [h.len], fun j o' s' a b => ?_, fun j k q l1 m hjk a b c d => ?_⟩
  · by_cases z : i = j
    · subst z
      have hi : i < e.length := (List.getElem?_eq_some_iff.mp he).1
      rw [List.getElem?_set_self hi] at b
      rw [hσ] at a
      cases a; cases b; exact ⟨p, vs, rfl, h0, hf, upd_same, hl, ha⟩
    · rw [List.getElem?_set_ne z] at b
      have q := h.at_ j o' s' a b
      cases s' with
      | emp => trivial
      | exn => exact q
      | clo ds => exact q
      | val d => exact q
      | own m =>
        obtain ⟨p', vs', rfl, b1, b2, b3, b4, b5⟩ := q
        have : p' ≠ p := fun zz => by subst zz; exact h.dis i j p' l' m z hσ he a b
        exact ⟨p', vs', rfl, b1, b2, by show upd t.h p (.lst vs) p' = _; rw [upd_ne this]; exact b3, b4, b5⟩
  · have own_of : ∀ (j : Nat) (l1 : List D), (e.set i (.own l))[j]? = some (.own l1) → ∃ l2, e[j]? = some (.own l2) := fun j l1 b => by
      by_cases z : i = j
      · subst z; exact ⟨l', he⟩
      · rw [List.getElem?_set_ne z] at b; exact ⟨l1, b⟩
    obtain ⟨l2, b'⟩ := own_of j l1 b
    obtain ⟨l3, d'⟩ := own_of k m d
    exact h.dis j k q l2 l3 hjk a b' c d'
theorem EnvOk.other {p : Addr} {o : HO} (E : EnvOk G s t σ e) (h0 : s.h p = none) (hf : t.f p = none)
    (hne : ∀ (j : Nat) (m : List D), σ[j]? = some (some (.ref p)) → e[j]? = some (.own m) → False) : EnvOk G s ⟨t.as, t.f, upd t.h p o⟩ σ e := by
  refine ⟨E.gr.chg h0 hf, E.len, fun i x y a b => ?_, E.dis⟩
  have ok := E.at_ i x y a b
  cases y with
  | emp => trivial
  | exn => exact ok
  | clo ds => exact ok
  | val d => exact ok
  | own l =>
    obtain ⟨q, vs, rfl, a1, a2, a3, a4, a5⟩ := ok
    have : q ≠ p := fun z => by subst z; exact hne i l a b
    exact ⟨q, vs, rfl, a1, a2, by show upd t.h p o q = _; rw [upd_ne this]; exact a3, a4, a5⟩
end
inductive ER where | val (m : Md) (d : D) (st : Sto) | exc (c : Nat) (l : List D) (st : Sto) | bad
def ExcOk (G : Gm) (s : Hs) (c : Nat) (l : List D) (x : Option Addr) : Prop :=
  (l = [] ∧ x = none) ∨ ∃ da xs, x = some da ∧ l ≠ [] ∧ s.f da = some (.xd ((G.fn c).zip xs)) ∧ (G.fn c).length = xs.length ∧ IsL G s.as s.f xs l
theorem ExcOk.up {G : Gm} {s t : Hs} {c : Nat} {l : List D} {x : Option Addr} (h : ExcOk G s c l x) (g : Gro s t) : ExcOk G t c l x := by
  rcases h with h | ⟨da, xs, a, b, c, d, e⟩
  · exact .inl h
  · exact .inr ⟨da, xs, a, b, g.f _ _ c, d, e.up g.a g.f⟩
def RPost (G : Gm) (W : WX) (s : Hs) (σ : L2.St) (Q : VK) : ER → Prop
  | .val m d st => ∀ t v, Gro s t → StOk G t st → VOk G s t m v d → Q v t.h
  | .exc c l st => ∀ t x, Gro s t → StOk G t st → ExcOk G t c l x → W (.ref (G.ca c)) x σ t.h
  | .bad => False
section
variable {G : Gm} {W : WX} {s t : Hs} {σ : L2.St} {Q Q' : VK} {st : Sto}
theorem RPost.step {r : ER} (g : Gro s t) (k : StOk G t st) (h : RPost G W s σ Q r) : RPost G W t σ Q r := by
  cases r with
  | val m d st' => exact fun u v g' o' o => h u v (g.trans g') o' (o.back g k)
  | exc c l st' => exact fun u x g' o' o => h u x (g.trans g') o' o
  | bad => exact h
def ER.bind (r : ER) (k : D → Sto → ER) : ER := match r with
  | .val _ d st => k d st
  | .exc c l st => .exc c l st
  | .bad => .bad
@[simp] theorem ER.bind_val (m : Md) (d : D) (st : Sto) (k : D → Sto → ER) : (ER.val m d st).bind k = k d st := rfl
@[simp] theorem ER.bind_exc (c : Nat) (l : List D) (st : Sto) (k : D → Sto → ER) : (ER.exc c l st).bind k = .exc c l st := rfl
@[simp] theorem ER.bind_bad (k : D → Sto → ER) : ER.bad.bind k = .bad := rfl
def DEv (G : Gm) (W : WX) (te : TE) (f : En → ER) : Prop :=
  ∀ s t σ e st, EnvOk G s t σ e → StOk G t st → ∀ Q : VK, RPost G W t σ Q (f ⟨e, st⟩) → te σ t.h Q
theorem RPost.bind {r : ER} {k : D → Sto → ER} (h : RPost G W s σ Q (r.bind k))
    (hk : ∀ m d st t v, Gro s t → StOk G t st → VOk G s t m v d → RPost G W t σ Q (k d st) → Q' v t.h) : RPost G W s σ Q' r := by
  cases r with
  | val m d st => exact fun t v g o' o => hk m d st t v g o' o (RPost.step g o' h)
  | exc c l st => exact h
  | bad => exact h
end
end Dn
namespace Dn
open PySem PySem.Spec PyProof.Rows L2
def rOr (r r' : R2) : R2 := fun x y H Q => r x y H Q ∨ r' x y H Q
theorem opOr {X : Cx} {f : Value → Value → Sem Value} {r r' : R2} (h : OpR X f r) (h' : OpR X f r') : OpR X f (rOr r r') := by
  intro pins s σ H x y v u Q I rx ry q
  rcases q with q | q
  · exact h pins s σ H x y v u Q I rx ry q
  · exact h' pins s σ H x y v u Q I rx ry q
def DOp (G : Gm) (r : R2) (o : D → D → Sto → ER) : Prop :=
  ∀ (W : WX) (σ : L2.St) (s : Hs) (st : Sto) (v w : V) (d d' : D), StOk G s st → U G s v d → U G s w d' → ∀ Q : VK, RPost G W s σ Q (o d d' st) → r v w s.h Q
section
variable {G : Gm} {W : WX} {s : Hs} {σ : L2.St} {Q : VK} {st : Sto}
theorem RPost.now {v : V} {d : D} (k : StOk G s st) (h : RPost G W s σ Q (.val .P d st)) (hv : Is G s.as s.f v d) : Q v s.h := h s v (Gro.refl k) k hv
theorem RPost.newL {vs : List V} {l : List D} (k : StOk G s st) (h : RPost G W s σ Q (.val .N (.lst l) st)) (hv : IsL G s.as s.f vs l) {p : Addr} (hp : s.h p = none) : Q (.ref p) (upd s.h p (.lst vs)) :=
  h ⟨s.as, s.f, upd s.h p (.lst vs)⟩ _ (Gro.loose k hp) (k.loose hp) ⟨p, vs, l, rfl, rfl, upd_same, hv, k.new hp, hp, k.sf.free hp⟩
theorem RPost.newT {vs : List V} {l : List D} (k : StOk G s st) (h : RPost G W s σ Q (.val .P (.tup l) st)) (hv : IsL G s.as s.f vs l) {p : Addr} (hp : s.h p = none) : Q (.ref p) (upd s.h p (.tup vs)) :=
  h ⟨s.as, upd s.f p (.tup vs), upd s.h p (.tup vs)⟩ _ (Gro.new k hp) (k.grow hp) (.tup (SqT.of upd_same) (hv.up (Ext.refl _) (same_new (k.sf.free hp))))
theorem RPost.cond (c : Prop) [Decidable c] (r : ER) (h : RPost G W s σ Q (if c then r else .bad)) : c ∧ RPost G W s σ Q r := by
  by_cases q : c
  · rw [if_pos q] at h; exact ⟨q, h⟩
  · rw [if_neg q] at h; exact h.elim
def ofOpt {α : Type} (o : Option α) (k : α → ER) : ER := match o with
  | some d => k d
  | none => .bad
@[simp] theorem ofOpt_some {α : Type} (a : α) (k : α → ER) : ofOpt (some a) k = k a := rfl
@[simp] theorem ofOpt_none {α : Type} (k : α → ER) : ofOpt none k = .bad := rfl
theorem RPost.opt {α : Type} (o : Option α) (k : α → ER) (h : RPost G W s σ Q (ofOpt o k)) : ∃ d, o = some d ∧ RPost G W s σ Q (k d) := by
  cases o with
  | none => exact h.elim
  | some d => exact ⟨d, rfl, h⟩
end
theorem sz {n : Nat} (h : n ≤ 1000000) : n ≤ sizeLine := Nat.le_trans h (by decide)
theorem szlt {n : Nat} (h : n < 1000000) : n < sizeLine := Nat.lt_of_lt_of_le h (by decide)
section
variable {G : Gm}
def oAdd : D → D → Sto → ER
  | .int i, .int j, st => .val .P (.int (i + j)) st
  | .str a, .str b, st => if a.length + b.length ≤ 1000000 then .val .P (.str (a ++ b)) st else .bad
  | .lst a, .lst b, st => if a.length + b.length ≤ 1000000 then .val .N (.lst (a ++ b)) st else .bad
  | .tup a, .tup b, st => if a.length + b.length ≤ 1000000 then .val .P (.tup (a ++ b)) st else .bad
  | _, _, _ => .bad
abbrev rAddS : R2 := fun x y H Q => ∃ i j, x = .str i ∧ y = .str j ∧ i.length + j.length ≤ sizeLine ∧ Q (.str (i ++ j)) H
abbrev rAddA (K : PySem.W.Frag) : R2 := rOr (rI0 fun i j => .int (i + j)) (rOr rAddS (rOr rCat (L2.rCatA K)))
theorem or_add {X : Cx} : OpR X (binaryOp .Add) (rAddA X.K) := opOr op_add (opOr op_add_str (opOr op_cat L2.op_catA))
theorem d_add : DOp G (rAddA G.K) oAdd := by
  intro W σ s st v w d d' k hv hw Q post
  cases d <;> cases d' <;> try exact post.elim
  case int.int i j =>
    obtain rfl := hv.int; obtain rfl := hw.int
    exact .inl ⟨i, j, rfl, rfl, post.now k (.int _)⟩
  case str.str a b =>
    obtain rfl := hv.str; obtain rfl := hw.str
    obtain ⟨h, post⟩ := RPost.cond (a.length + b.length ≤ 1000000) (.val .P (.str (a ++ b)) st) post
    exact .inr (.inl ⟨a, b, rfl, rfl, sz h, post.now k (.str _)⟩)
  case lst.lst a b =>
    obtain ⟨p, vs, rfl, hp, hl⟩ := hv.lst k.sf
    obtain ⟨q, ws, rfl, hq, hm⟩ := hw.lst k.sf
    obtain ⟨h, post⟩ := RPost.cond (a.length + b.length ≤ 1000000) (.val .N (.lst (a ++ b)) st) post
    exact .inr (.inr (.inl ⟨p, q, vs, ws, rfl, rfl, hp, hq, by rw [hl.len, hm.len]; exact sz h, fun r hr => post.newL k (hl.append hm) hr⟩))
  case tup.tup a b =>
    obtain ⟨p, vs, rfl, hp, hl⟩ := hv.tup k.sf
    obtain ⟨q, ws, rfl, hq, hm⟩ := hw.tup k.sf
    obtain ⟨h, post⟩ := RPost.cond (a.length + b.length ≤ 1000000) (.val .P (.tup (a ++ b)) st) post
    refine .inr (.inr (.inr ⟨p, q, vs, ws, rfl, rfl, hp, hq, by rw [hl.len, hm.len]; exact sz h, fun z => ?_, fun _ z => ?_, fun _ _ r hr => post.newT k (hl.append hm) hr⟩))
    · have : a = [] := by have := hl.len; subst z; exact List.length_eq_zero_iff.mp this.symm
      subst this; exact post.now k hw.tupI
    · have : b = [] := by have := hm.len; subst z; exact List.length_eq_zero_iff.mp this.symm
      subst this; rw [List.append_nil] at post; exact post.now k hv.tupI
def oSub : D → D → Sto → ER
  | .int i, .int j, st => .val .P (.int (i - j)) st
  | _, _, _ => .bad
theorem d_sub : DOp G (rI0 fun i j => .int (i - j)) oSub := by
  intro W σ s st v w d d' k hv hw Q post
  cases d <;> cases d' <;> try exact post.elim
  obtain rfl := hv.int; obtain rfl := hw.int
  exact ⟨_, _, rfl, rfl, post.now k (.int _)⟩
theorem IsL.rep {as : List Addr} {H : Hp} {vs : List V} {l : List D} (h : IsL G as H vs l) : ∀ n : Nat, IsL G as H (List.replicate n vs).flatten (List.replicate n l).flatten
  | 0 => .nil
  | n + 1 => by
    rw [List.replicate_succ, List.replicate_succ, List.flatten_cons, List.flatten_cons]
    exact h.append (IsL.rep h n)
def oMul : D → D → Sto → ER
  | .int i, .int j, st => if i.natAbs.log2 + j.natAbs.log2 < 1000000 then .val .P (.int (i * j)) st else .bad
  | .lst a, .int k, st => if -(2 ^ 63) ≤ k ∧ k < 2 ^ 63 ∧ a.length * k.toNat ≤ 1000000 then .val .N (.lst (List.replicate k.toNat a).flatten) st else .bad
  | _, _, _ => .bad
abbrev rMulA : R2 := rOr (rI CMulW fun i j => .int (i * j)) rRep
theorem or_mul {X : Cx} : OpR X (binaryOp .Mult) rMulA := opOr op_mulW op_rep
theorem d_mul : DOp G rMulA oMul := by
  intro W σ s st v w d d' k hv hw Q post
  cases d <;> cases d' <;> try exact post.elim
  case int.int i j =>
    obtain rfl := hv.int; obtain rfl := hw.int
    obtain ⟨h, post⟩ := RPost.cond (i.natAbs.log2 + j.natAbs.log2 < 1000000) (.val .P (.int (i * j)) st) post
    exact .inl ⟨_, _, rfl, rfl, h, post.now k (.int _)⟩
  case lst.int a n =>
    obtain ⟨p, vs, rfl, hp, hl⟩ := hv.lst k.sf
    obtain rfl := hw.int
    obtain ⟨h, post⟩ := RPost.cond (-(2 ^ 63) ≤ n ∧ n < 2 ^ 63 ∧ a.length * n.toNat ≤ 1000000) (.val .N (.lst (List.replicate n.toNat a).flatten) st) post
    exact .inr ⟨p, n, vs, rfl, rfl, hp, h.1, h.2.1, by rw [hl.len]; exact sz h.2.2, fun r hr => post.newL k (hl.rep _) hr⟩
def oDiv : D → D → Sto → ER
  | .int i, .int j, st => if j ≠ 0 ∧ j.natAbs.log2 < 9000 then .val .P (.int (i.fdiv j)) st else .bad
  | _, _, _ => .bad
theorem or_div {X : Cx} : OpR X (binaryOp .FloorDiv) (rI (fun _ j => j ≠ 0 ∧ j.natAbs.log2 < 9000) fun i j => .int (i.fdiv j)) := opI fun i j _ _ _ _ _ hc q => floordiv_int hc.1 q (.inl (PyProof.noPylong_of_log2 hc.2))
theorem d_div : DOp G (rI (fun _ j => j ≠ 0 ∧ j.natAbs.log2 < 9000) fun i j => .int (i.fdiv j)) oDiv := by
  intro W σ s st v w d d' k hv hw Q post
  cases d <;> cases d' <;> try exact post.elim
  rename_i i j
  obtain rfl := hv.int; obtain rfl := hw.int
  obtain ⟨h, post⟩ := RPost.cond (j ≠ 0 ∧ j.natAbs.log2 < 9000) (.val .P (.int (i.fdiv j)) st) post
  exact ⟨_, _, rfl, rfl, h, post.now k (.int _)⟩
def oMod : D → D → Sto → ER
  | .int i, .int j, st => if j ≠ 0 then .val .P (.int (i.fmod j)) st else .bad
  | _, _, _ => .bad
theorem d_mod : DOp G (rI (fun _ j => j ≠ 0) fun i j => .int (i.fmod j)) oMod := by
  intro W σ s st v w d d' k hv hw Q post
  cases d <;> cases d' <;> try exact post.elim
  rename_i i j
  obtain rfl := hv.int; obtain rfl := hw.int
  obtain ⟨h, post⟩ := RPost.cond (j ≠ 0) (.val .P (.int (i.fmod j)) st) post
  exact ⟨_, _, rfl, rfl, h, post.now k (.int _)⟩
def oPow : D → D → Sto → ER
  | .int i, .int j, st => if 0 ≤ j ∧ j ≤ 1000000 ∧ i.natAbs < 2 ^ 64 then .val .P (.int (i ^ j.toNat)) st else .bad
  | _, _, _ => .bad
theorem d_pow : DOp G (rI CPow fun i j => .int (i ^ j.toNat)) oPow := by
  intro W σ s st v w d d' k hv hw Q post
  cases d <;> cases d' <;> try exact post.elim
  rename_i i j
  obtain rfl := hv.int; obtain rfl := hw.int
  obtain ⟨h, post⟩ := RPost.cond (0 ≤ j ∧ j ≤ 1000000 ∧ i.natAbs < 2 ^ 64) (.val .P (.int (i ^ j.toNat)) st) post
  exact ⟨_, _, rfl, rfl, h, post.now k (.int _)⟩
def oCmp (p : Int → Int → Bool) : D → D → Sto → ER
  | .int i, .int j, st => .val .P (.bl (p i j)) st
  | _, _, _ => .bad
theorem d_cmp {p : Int → Int → Bool} : DOp G (rI0 fun i j => .bl (p i j)) (oCmp p) := by
  intro W σ s st v w d d' k hv hw Q post
  cases d <;> cases d' <;> try exact post.elim
  obtain rfl := hv.int; obtain rfl := hw.int
  exact ⟨_, _, rfl, rfl, post.now k (.bl _)⟩
abbrev oLt := oCmp fun i j => decide (i < j)
abbrev oLe := oCmp fun i j => decide (i ≤ j)
abbrev oGt := oCmp fun i j => decide (j < i)
abbrev oGe := oCmp fun i j => decide (j ≤ i)
theorem d_lt : DOp G (rI0 fun i j => .bl (decide (i < j))) oLt := d_cmp
theorem d_le : DOp G (rI0 fun i j => .bl (decide (i ≤ j))) oLe := d_cmp
theorem d_gt : DOp G (rI0 fun i j => .bl (decide (j < i))) oGt := d_cmp
theorem d_ge : DOp G (rI0 fun i j => .bl (decide (j ≤ i))) oGe := d_cmp
def isNon : D → Bool
  | .non => true
  | _ => false
def oIsN (a b : D) (st : Sto) : ER := match b with
  | .non => .val .P (.bl (isNon a)) st
  | _ => .bad
def oNotN (a b : D) (st : Sto) : ER := match b with
  | .non => .val .P (.bl (!isNon a)) st
  | _ => .bad
theorem isN_of {s : Hs} {v : V} {d : D} (h : U G s v d) : decide (v = .non) = isNon d := by
  rcases h with h | ⟨p, vs, l', rfl, rfl, _⟩
  · cases h <;> simp [isNon]
  · simp [isNon]
theorem d_isN : DOp G (fun x y H Q => y = .non ∧ Q (.bl (decide (x = .non))) H) oIsN := by
  intro W σ s st v w d d' k hv hw Q post
  cases d' <;> try exact post.elim
  obtain rfl := hw.non
  exact ⟨rfl, by rw [isN_of hv]; exact RPost.now k post (.bl _)⟩
theorem d_notN : DOp G (fun x y H Q => y = .non ∧ Q (.bl (!decide (x = .non))) H) oNotN := by
  intro W σ s st v w d d' k hv hw Q post
  cases d' <;> try exact post.elim
  obtain rfl := hw.non
  refine ⟨rfl, ?_⟩
  rw [isN_of hv]
  exact RPost.now k post (.bl _)
mutual
def py : D → PyData
  | .non => .none
  | .bl b => .bool b
  | .int i => .int i
  | .str x => .str x
  | .tup l => .tuple (pyL l)
  | .lst l => .list (pyL l)
  | .obj _ _ => .none
  | .scr _ => .none
  | .ptr _ => .none
def pyL : List D → List PyData
  | [] => []
  | d :: l => py d :: pyL l
end
mutual
def isPy : D → Bool
  | .non | .bl _ | .int _ | .str _ => true
  | .tup l => isPyL l
  | .lst l => isPyL l
  | .obj _ _ => false
  | .scr _ => false
  | .ptr _ => false
def isPyL : List D → Bool
  | [] => true
  | d :: l => isPy d && isPyL l
end
mutual
theorem dp_of {as : List Addr} {f H : Hp} (s : Same f H) : ∀ (d : D) {v : V}, isPy d = true → Is G as f v d → Dp G.K H v (py d)
  | .non, _, _, h => by cases h; exact .non
  | .bl _, _, _, h => by cases h; exact .bl _
  | .int _, _, _, h => by cases h; exact .int _
  | .str _, _, _, h => by cases h; exact .str _
  | .tup l, _, q, h => by cases h with | tup a b => exact .tup (same_t s a) (dpL_of s l (by simpa [isPy] using q) b)
  | .lst l, _, q, h => by cases h with | lst a b => exact .lst (SqL.of (s _ _ a)) (dpL_of s l (by simpa [isPy] using q) b)
  | .obj _ _, _, q, _ => by simp [isPy] at q
  | .scr _, _, q, _ => by simp [isPy] at q
  | .ptr _, _, q, _ => by simp [isPy] at q
theorem dpL_of {as : List Addr} {f H : Hp} (s : Same f H) : ∀ (l : List D) {vs : List V}, isPyL l = true → IsL G as f vs l → DpAll G.K H vs (pyL l)
  | [], _, _, h => by cases h; exact .nil
  | d :: l, _, q, h => by
    cases h with
    | cons a b =>
      have q' : isPy d = true ∧ isPyL l = true := by simpa [isPyL] using q
      exact .cons (dp_of s d q'.1 a) (dpL_of s l q'.2 b)
end
theorem dp_u {s : Hs} {v : V} {d : D} (sm : Same s.f s.h) (q : isPy d = true) (h : U G s v d) : Dp G.K s.h v (py d) := by
  rcases h with h | ⟨p, vs, l, rfl, rfl, c, e, _⟩
  · exact dp_of sm d q h
  · exact .lst (SqL.of c) (dpL_of sm l (by simpa [isPy] using q) e)
def scalD : D → D → Bool
  | .non, .non | .non, .int _ | .int _, .non | .non, .bl _ | .bl _, .non | .non, .str _ | .str _, .non => true
  | .int _, .int _ | .bl _, .bl _ | .str _, .str _ | .int _, .str _ | .str _, .int _ | .bl _, .str _ | .str _, .bl _ => true
  | _, _ => false
def eqF : D → D → Bool
  | .non, .non => true
  | .int i, .int j => decide (i = j)
  | .bl i, .bl j => decide (i = j)
  | .str i, .str j => decide (i = j)
  | _, _ => false
def eqAny (a b : D) : Option Bool :=
  if scalD a b = true then some (eqF a b)
  else if isPy a = true ∧ isPy b = true ∧ SeqAt.shaped (py a) = true ∧ SeqAt.shaped (py b) = true then some (PyData.eqv (py a) (py b))
  else none
def oEq (a b : D) (st : Sto) : ER := match eqAny a b with | some r => .val .P (.bl r) st | none => .bad
def oNe (a b : D) (st : Sto) : ER := match eqAny a b with | some r => .val .P (.bl (!r)) st | none => .bad
abbrev rEqA (K : PySem.W.Frag) : R2 := rOr rEq (rEqD K)
abbrev rNeA (K : PySem.W.Frag) : R2 := rOr rNe (rNeD K)
theorem or_eq {X : Cx} (hu : X.A.units + 64 < cLine) : OpR X (compareOp .Eq) (rEqA X.K) := opOr op_eq (op_eqD hu)
theorem or_ne {X : Cx} (hu : X.A.units + 64 < cLine) : OpR X (compareOp .NotEq) (rNeA X.K) := opOr op_ne (op_neD hu)
theorem scal_of {s : Hs} {v w : V} {a b : D} (h : scalD a b = true) (hv : U G s v a) (hw : U G s w b) : scal v w = true ∧ decide (v = w) = eqF a b := by
  cases a <;> cases b <;> simp only [scalD] at h <;> first
    | (exact absurd h Bool.false_ne_true)
    | skip
  all_goals (first | obtain rfl := hv.int | obtain rfl := hv.str | obtain rfl := hv.bl | obtain rfl := hv.non)
  all_goals (first | obtain rfl := hw.int | obtain rfl := hw.str | obtain rfl := hw.bl | obtain rfl := hw.non)
  all_goals (refine ⟨rfl, ?_⟩; simp [eqF])
theorem d_eq : DOp G (rEqA G.K) oEq := by
  intro W σ s st v w d d' k hv hw Q post
  unfold oEq eqAny at post
  by_cases h : scalD d d' = true
  · obtain ⟨h1, h2⟩ := scal_of h hv hw
    rw [if_pos h] at post
    exact .inl ⟨h1, by rw [h2]; exact RPost.now k post (.bl _)⟩
  · rw [if_neg h] at post
    split at post
    · rename_i r hr
      split at hr
      · rename_i q
        cases hr
        exact .inr ⟨py d, py d', dp_u k.sf q.1 hv, dp_u k.sf q.2.1 hw, q.2.2.1, q.2.2.2, post.now k (.bl _)⟩
      · cases hr
    · exact post.elim
theorem d_ne : DOp G (rNeA G.K) oNe := by
  intro W σ s st v w d d' k hv hw Q post
  unfold oNe eqAny at post
  by_cases h : scalD d d' = true
  · obtain ⟨h1, h2⟩ := scal_of h hv hw
    rw [if_pos h] at post
    exact .inl ⟨h1, by rw [h2]; exact RPost.now k post (.bl _)⟩
  · rw [if_neg h] at post
    split at post
    · rename_i r hr
      split at hr
      · rename_i q
        cases hr
        exact .inr ⟨py d, py d', dp_u k.sf q.1 hv, dp_u k.sf q.2.1 hw, q.2.2.1, q.2.2.2, post.now k (.bl _)⟩
      · cases hr
    · exact post.elim
def stLst (st : Sto) (n : Nat) : Option (List D) := match st[n]? with
  | some (.lst l) => some l
  | _ => none
theorem StOk.lst {s : Hs} {st : Sto} {n : Nat} {l : List D} {p : Addr} (k : StOk G s st) (ha : s.as[n]? = some p) (h : stLst st n = some l) : ∃ vs, s.h p = some (.lst vs) ∧ IsL G s.as s.f vs l := by
  unfold stLst at h
  split at h
  · rename_i l' q
    cases h
    exact k.ob n p _ ha q
  · cases h
def oIx : D → D → Sto → ER
  | .lst l, .int i, st => ofOpt (atI l i) fun d => .val .P d st
  | .tup l, .int i, st => ofOpt (atI l i) fun d => .val .P d st
  | .scr l, .int i, st => ofOpt (atI l i) fun d => .val .P (.int d) st
  | .str z, .int i, st => if z.length ≤ 1000000 then ofOpt (atI z.cps.toList i) (fun c => .val .P (.str ⟨#[c]⟩) st) else .bad
  | .ptr n, .int i, st => ofOpt (stLst st n) fun l => ofOpt (atI l i) fun d => .val .P d st
  | _, _, _ => .bad
theorem atI_L {as : List Addr} {H : Hp} {vs : List V} {l : List D} {i : Int} {d : D} (h : IsL G as H vs l) (e : atI l i = some d) : ∃ v, atI vs i = some v ∧ Is G as H v d := by
  unfold atI at e ⊢
  rw [h.len]
  cases q : ixN l.length i with
  | none => rw [q] at e; cases e
  | some j =>
    rw [q] at e
    exact h.get e
theorem atI_map {l : List Int} {i : Int} {d : Int} (e : atI l i = some d) : atI (l.map V.int) i = some (V.int d) := by
  unfold atI at e ⊢
  rw [List.length_map]
  cases q : ixN l.length i with
  | none => rw [q] at e; cases e
  | some j =>
    rw [q] at e
    have e' : l[j]? = some d := e
    show (l.map V.int)[j]? = some (V.int d)
    rw [List.getElem?_map, e']
    rfl
theorem d_ix : DOp G (rIx G.K) oIx := by
  intro W σ s st v w d d' k hv hw Q post
  cases d <;> cases d' <;> try exact post.elim
  case lst.int l i =>
    obtain ⟨p, vs, rfl, hp, hl⟩ := hv.lst k.sf
    obtain rfl := hw.int
    obtain ⟨y, q, post⟩ := RPost.opt (atI l i) (fun d => .val .P d st) post
    obtain ⟨x, h1, h2⟩ := atI_L hl q
    exact .inl ⟨p, vs, i, x, rfl, rfl, SqL.of hp, h1, post.now k h2⟩
  case ptr.int n i =>
    obtain ⟨p, rfl, hp⟩ := hv.ptr
    obtain rfl := hw.int
    obtain ⟨l, ql, post⟩ := RPost.opt (stLst st n) (fun l => ofOpt (atI l i) fun d => .val .P d st) post
    obtain ⟨y, q, post⟩ := RPost.opt (atI l i) (fun d => .val .P d st) post
    obtain ⟨vs, hh, hl⟩ := k.lst hp ql
    obtain ⟨x, h1, h2⟩ := atI_L hl q
    exact .inl ⟨p, vs, i, x, rfl, rfl, SqL.of hh, h1, post.now k h2⟩
  case tup.int l i =>
    obtain ⟨p, vs, rfl, hp, hl⟩ := hv.tup k.sf
    obtain rfl := hw.int
    obtain ⟨y, q, post⟩ := RPost.opt (atI l i) (fun d => .val .P d st) post
    obtain ⟨x, h1, h2⟩ := atI_L hl q
    exact .inr (.inl ⟨p, vs, i, x, rfl, rfl, hp, h1, post.now k h2⟩)
  case scr.int l i =>
    obtain ⟨p, rfl, hp⟩ := hv.scr k.sf
    obtain rfl := hw.int
    obtain ⟨y, q, post⟩ := RPost.opt (atI l i) (fun d => .val .P (.int d) st) post
    exact .inl ⟨p, _, i, _, rfl, rfl, hp, atI_map q, post.now k (.int _)⟩
  case str.int z i =>
    obtain rfl := hv.str; obtain rfl := hw.int
    obtain ⟨h, post⟩ := RPost.cond (z.length ≤ 1000000) (ofOpt (atI z.cps.toList i) (fun c => .val .P (.str ⟨#[c]⟩) st)) post
    obtain ⟨c, q, post⟩ := RPost.opt (atI z.cps.toList i) (fun c => .val .P (.str ⟨#[c]⟩) st) post
    exact .inr (.inr ⟨z, i, c, rfl, rfl, sz h, q, post.now k (.str _)⟩)
end
section
variable {G : Gm} {W : WX}
def dVar (i : Nat) : En → ER := fun E => match E.e[i]? with
  | some (.val d) => .val .P d E.st
  | some (.own l) => .val .B (.lst l) E.st
  | _ => .bad
theorem v_var {i : Nat} : DEv G W (tVar i) (dVar i) := by
  intro s t σ e st E k Q post
  unfold dVar at post
  split at post
  · rename_i d q
    obtain ⟨o, h1, v, rfl, h2⟩ := E.slot q
    exact ⟨v, h1, post.now k h2⟩
  · rename_i l q
    obtain ⟨o, h1, p, vs, rfl, a, b, c, d, f⟩ := E.slot q
    exact ⟨_, h1, post t _ (Gro.refl k) k ⟨p, vs, l, rfl, rfl, c, d, f⟩⟩
  · exact post.elim
def dC (d : D) : En → ER := fun E => .val .P d E.st
theorem v_int {n : Int} : DEv G W (tC (.int n)) (dC (.int n)) := fun _ _ _ _ _ _ k _ post => RPost.now k post (.int _)
theorem v_str {n : Str} : DEv G W (tC (.str n)) (dC (.str n)) := fun _ _ _ _ _ _ k _ post => RPost.now k post (.str _)
theorem v_bl {n : Bool} : DEv G W (tC (.bl n)) (dC (.bl n)) := fun _ _ _ _ _ _ k _ post => RPost.now k post (.bl _)
theorem v_non : DEv G W (tC .non) (dC .non) := fun _ _ _ _ _ _ k _ post => RPost.now k post .non
theorem v_const {v : V} {d : D} (h : ∀ as H, Is G as H v d) : DEv G W (tC v) (dC d) := fun _ _ _ _ _ _ k _ post => RPost.now k post (h _ _)
def dOp (o : D → D → Sto → ER) (f g : En → ER) : En → ER := fun E => (f E).bind fun x st => (g ⟨E.e, st⟩).bind fun y st => o x y st
theorem v_op {r : R2} {o : D → D → Sto → ER} {ta tb : TE} {f g : En → ER} (hr : DOp G r o) (ha : DEv G W ta f) (hb : DEv G W tb g) : DEv G W (tOp r ta tb) (dOp o f g) := by
  intro s t σ e st E k Q post
  refine ha s t σ e st E k _ (RPost.bind post fun m d st1 t1 v g1 k1 o1 p1 => ?_)
  refine hb s t1 σ e st1 (E.up g1) k1 _ (RPost.bind p1 fun m2 d2 st2 t2 w g2 k2 o2 p2 => ?_)
  exact hr W σ t2 st2 v w d d2 k2 ((o1.up g2).u) o2.u Q p2
def DUn (G : Gm) (r : V → Hp → VK → Prop) (o : D → Sto → ER) : Prop :=
  ∀ (W : WX) (σ : L2.St) (s : Hs) (st : Sto) (v : V) (d : D), StOk G s st → U G s v d → ∀ Q : VK, RPost G W s σ Q (o d st) → r v s.h Q
def dUn (o : D → Sto → ER) (f : En → ER) : En → ER := fun E => (f E).bind o
theorem v_un {r : V → Hp → VK → Prop} {o : D → Sto → ER} {ta : TE} {f : En → ER} (hr : DUn G r o) (ha : DEv G W ta f) : DEv G W (tUn r ta) (dUn o f) := by
  intro s t σ e st E k Q post
  refine ha s t σ e st E k _ (RPost.bind post fun m d st1 t1 v g1 k1 o1 p1 => ?_)
  exact hr W σ t1 st1 v d k1 o1.u Q p1
def oNeg : D → Sto → ER
  | .int i, st => .val .P (.int (-i)) st
  | _, _ => .bad
theorem d_neg : DUn G (rU fun i => .int (-i)) oNeg := by
  intro W σ s st v d k hv Q post
  cases d <;> try exact post.elim
  obtain rfl := hv.int
  exact ⟨_, rfl, post.now k (.int _)⟩
def TPost (G : Gm) (W : WX) (s : Hs) (σ : L2.St) (Q : Bool → Hp → Prop) : ER → Prop
  | .val _ (.bl b) st => ∀ t, Gro s t → StOk G t st → Q b t.h
  | .exc c l st => ∀ t x, Gro s t → StOk G t st → ExcOk G t c l x → W (.ref (G.ca c)) x σ t.h
  | _ => False
def DTt (G : Gm) (W : WX) (tt : TT) (f : En → ER) : Prop :=
  ∀ s t σ e st, EnvOk G s t σ e → StOk G t st → ∀ Q : Bool → Hp → Prop, TPost G W t σ Q (f ⟨e, st⟩) → tt σ t.h Q
theorem TPost.step {s t : Hs} {σ : L2.St} {Q : Bool → Hp → Prop} {r : ER} (g : Gro s t) (h : TPost G W s σ Q r) : TPost G W t σ Q r := by
  cases r with
  | val m d st =>
    cases d <;> first | exact h.elim | skip
    exact fun u g' => h u (g.trans g')
  | exc c l st => exact fun u x g' => h u x (g.trans g')
  | bad => exact h
def ER.bindB (r : ER) (k : Bool → Sto → ER) : ER := match r with
  | .val _ (.bl b) st => k b st
  | .exc c l st => .exc c l st
  | _ => .bad
@[simp] theorem ER.bindB_val (m : Md) (b : Bool) (st : Sto) (k : Bool → Sto → ER) : (ER.val m (.bl b) st).bindB k = k b st := rfl
@[simp] theorem ER.bindB_exc (c : Nat) (l : List D) (st : Sto) (k : Bool → Sto → ER) : (ER.exc c l st).bindB k = .exc c l st := rfl
@[simp] theorem ER.bindB_bad (k : Bool → Sto → ER) : ER.bad.bindB k = .bad := rfl
theorem t_val {te : TE} {f : En → ER} (h : DEv G W te f) : DTt G W (tB te) f := by
  intro s t σ e st E k Q post
  refine h s t σ e st E k _ ?_
  cases q : f ⟨e, st⟩ with
  | val m d st' =>
    rw [q] at post
    intro t' v g k' o
    cases d <;> first | exact post.elim | skip
    obtain rfl := o.u.bl
    exact ⟨_, rfl, post t' g k'⟩
  | exc c l st' => rw [q] at post; exact post
  | bad => rw [q] at post; exact post
theorem t_test {te : TE} {f : En → ER} (h : DEv G W te f) : DTt G W (tTest te) f := t_val h
theorem TPost.bindB {s : Hs} {σ : L2.St} {Q Q' : Bool → Hp → Prop} {r : ER} {k : Bool → Sto → ER} (h : TPost G W s σ Q (r.bindB k)) (hk : ∀ b st t, Gro s t → StOk G t st → TPost G W t σ Q (k b st) → Q' b t.h) : TPost G W s σ Q' r := by
  cases r with
  | val m d st =>
    cases d <;> first | exact h.elim | skip
    exact fun t g k' => hk _ st t g k' (TPost.step g h)
  | exc c l st => exact h
  | bad => exact h
def dAnd (f g : En → ER) : En → ER := fun E => (f E).bindB fun b st => if b = true then g ⟨E.e, st⟩ else .val .P (.bl false) st
def dOr (f g : En → ER) : En → ER := fun E => (f E).bindB fun b st => if b = true then .val .P (.bl true) st else g ⟨E.e, st⟩
def dNot (f : En → ER) : En → ER := fun E => (f E).bindB fun b st => .val .P (.bl (!b)) st
theorem TPost.of {s : Hs} {st : Sto} {σ : L2.St} {Q : Bool → Hp → Prop} {b : Bool} (k : StOk G s st) (h : TPost G W s σ Q (.val .P (.bl b) st)) : Q b s.h := h s (Gro.refl k) k
theorem t_and {t u : TT} {f g : En → ER} (ht : DTt G W t f) (hu : DTt G W u g) : DTt G W (tAnd t u) (dAnd f g) := by
  intro s t σ e st E k Q post
  refine ht s t σ e st E k _ (TPost.bindB post fun b st1 t1 g1 k1 p1 => ?_)
  cases b with
  | true => exact iteT (hu s t1 σ e st1 (E.up g1) k1 Q p1)
  | false => exact iteF (TPost.of k1 p1)
theorem t_or {t u : TT} {f g : En → ER} (ht : DTt G W t f) (hu : DTt G W u g) : DTt G W (tOr t u) (dOr f g) := by
  intro s t σ e st E k Q post
  refine ht s t σ e st E k _ (TPost.bindB post fun b st1 t1 g1 k1 p1 => ?_)
  cases b with
  | false => exact iteF (hu s t1 σ e st1 (E.up g1) k1 Q p1)
  | true => exact iteT (TPost.of k1 p1)
theorem t_not {t : TT} {f : En → ER} (ht : DTt G W t f) : DTt G W (tNot t) (dNot f) := by
  intro s t σ e st E k Q post
  exact ht s t σ e st E k _ (TPost.bindB post fun b st1 t1 g1 k1 p1 => TPost.of k1 p1)
theorem RPost.bindB {s : Hs} {σ : L2.St} {Q Q' : VK} {r : ER} {k : Bool → Sto → ER} (h : RPost G W s σ Q (r.bindB k))
    (hk : ∀ b st t, Gro s t → StOk G t st → RPost G W t σ Q (k b st) → Q' (.bl b) t.h) : RPost G W s σ Q' r := by
  cases r with
  | val m d st =>
    cases d <;> first | exact h.elim | skip
    intro t v g k' o
    obtain rfl := o.u.bl
    exact hk _ st t g k' (RPost.step g k' h)
  | exc c l st => exact h
  | bad => exact h
theorem v_and {ta tb : TE} {f g : En → ER} (ha : DEv G W ta f) (hb : DEv G W tb g) : DEv G W (tAndV ta tb) (dAnd f g) := by
  intro s t σ e st E k Q post
  refine ha s t σ e st E k _ (RPost.bindB post fun b st1 t1 g1 k1 p1 => ?_)
  cases b with
  | true => exact ⟨true, rfl, iteT (hb s t1 σ e st1 (E.up g1) k1 Q p1)⟩
  | false => exact ⟨false, rfl, iteF (RPost.now k1 p1 (.bl _))⟩
theorem v_or {ta tb : TE} {f g : En → ER} (ha : DEv G W ta f) (hb : DEv G W tb g) : DEv G W (tOrV ta tb) (dOr f g) := by
  intro s t σ e st E k Q post
  refine ha s t σ e st E k _ (RPost.bindB post fun b st1 t1 g1 k1 p1 => ?_)
  cases b with
  | false => exact ⟨false, rfl, iteF (hb s t1 σ e st1 (E.up g1) k1 Q p1)⟩
  | true => exact ⟨true, rfl, iteT (RPost.now k1 p1 (.bl _))⟩
theorem v_not {ta : TE} {f : En → ER} (ha : DEv G W ta f) : DEv G W (tNotV ta) (dNot f) := by
  intro s t σ e st E k Q post
  exact ha s t σ e st E k _ (RPost.bindB post fun b st1 t1 g1 k1 p1 => ⟨b, rfl, RPost.now k1 p1 (.bl _)⟩)
def dIf (c f g : En → ER) : En → ER := fun E => (c E).bindB fun b st => if b = true then f ⟨E.e, st⟩ else g ⟨E.e, st⟩
theorem TPost.thenR {s : Hs} {σ : L2.St} {Q : VK} {Q' : Bool → Hp → Prop} {r : ER} {k : Bool → Sto → ER} (h : RPost G W s σ Q (r.bindB k)) (hk : ∀ b st t, Gro s t → StOk G t st → RPost G W t σ Q (k b st) → Q' b t.h) : TPost G W s σ Q' r := by
  cases r with
  | val m d st =>
    cases d <;> first | exact h.elim | skip
    exact fun t g k' => hk _ st t g k' (RPost.step g k' h)
  | exc c l st => exact h
  | bad => exact h
theorem v_if {t : TT} {ta tb : TE} {c f g : En → ER} (ht : DTt G W t c) (ha : DEv G W ta f) (hb : DEv G W tb g) : DEv G W (tIf t ta tb) (dIf c f g) := by
  intro s t σ e st E k Q post
  refine ht s t σ e st E k _ (TPost.thenR post fun b st1 t1 g1 k1 p1 => ?_)
  cases b with
  | true => exact iteT (ha s t1 σ e st1 (E.up g1) k1 Q p1)
  | false => exact iteF (hb s t1 σ e st1 (E.up g1) k1 Q p1)
def dChain (o o' : D → D → Sto → ER) (f g h : En → ER) : En → ER := fun E => (f E).bind fun x st => (g ⟨E.e, st⟩).bind fun y st => (o x y st).bindB fun b st => if b = true then (h ⟨E.e, st⟩).bind fun z st => o' y z st else .val .P (.bl false) st
theorem v_chain {r r' : R2} {o o' : D → D → Sto → ER} {ta tb tc : TE} {f g h : En → ER} (hr : DOp G r o) (hr' : DOp G r' o') (ha : DEv G W ta f) (hb : DEv G W tb g) (hc : DEv G W tc h) : DEv G W (tChain r r' ta tb tc) (dChain o o' f g h) := by
  intro s t σ e st E k Q post
  refine ha s t σ e st E k _ (RPost.bind post fun m d st1 t1 v g1 k1 o1 p1 => ?_)
  refine hb s t1 σ e st1 (E.up g1) k1 _ (RPost.bind p1 fun m2 d2 st2 t2 w g2 k2 o2 p2 => ?_)
  refine hr W σ t2 st2 v w d d2 k2 ((o1.up g2).u) o2.u _ (RPost.bindB p2 fun b st3 t3 g3 k3 p3 => ?_)
  cases b with
  | false => exact ⟨false, rfl, iteF (RPost.now k3 p3 (.bl _))⟩
  | true =>
    refine ⟨true, rfl, iteT ?_⟩
    refine hc s t3 σ e st3 (((E.up g1).up g2).up g3) k3 _ (RPost.bind p3 fun m4 d4 st4 t4 u g4 k4 o4 p4 => ?_)
    exact hr' W σ t4 st4 w u d2 d4 k4 (((o2.up g3).up g4).u) o4.u Q p4
end
end Dn
namespace Dn
open PySem PySem.Spec PyProof.Rows L2
inductive UL (G : Gm) (s : Hs) : List V → List D → Prop
  | nil : UL G s [] []
  | cons {v : V} {vs : List V} {d : D} {ds : List D} : U G s v d → UL G s vs ds → UL G s (v :: vs) (d :: ds)
theorem IsL.ul {G : Gm} {s : Hs} : ∀ {ds : List D} {vs : List V}, IsL G s.as s.f vs ds → UL G s vs ds
  | [], _, h => by cases h; exact .nil
  | d :: ds, _, h => by cases h with | cons a b => exact .cons (.inl a) b.ul
theorem UL.len {G : Gm} {s : Hs} : ∀ {ds : List D} {vs : List V}, UL G s vs ds → vs.length = ds.length
  | [], _, h => by cases h; rfl
  | d :: ds, _, h => by cases h with | cons a b => exact congrArg Nat.succ b.len
theorem UL.up {G : Gm} {s t : Hs} (g : Gro s t) : ∀ {ds : List D} {vs : List V}, UL G s vs ds → UL G t vs ds
  | [], _, h => by cases h; exact .nil
  | d :: ds, _, h => by cases h with | cons a b => exact .cons (a.up g) (UL.up g b)
inductive AR where | ok (p : Bool) (l : List D) (st : Sto) | exc (c : Nat) (l : List D) (st : Sto) | bad
def APost (G : Gm) (W : WX) (s : Hs) (σ : L2.St) (Q : List V → Hp → Prop) : AR → Prop
  | .ok p l st => ∀ t vs, Gro s t → StOk G t st → (p = true → IsL G t.as t.f vs l) → UL G t vs l → Q vs t.h
  | .exc c l st => ∀ t x, Gro s t → StOk G t st → ExcOk G t c l x → W (.ref (G.ca c)) x σ t.h
  | .bad => False
theorem APost.step {G : Gm} {W : WX} {s t : Hs} {σ : L2.St} {Q : List V → Hp → Prop} {r : AR} (g : Gro s t) (h : APost G W s σ Q r) : APost G W t σ Q r := by
  cases r with
  | ok p l st => exact fun u v g' => h u v (g.trans g')
  | exc c l st => exact fun u x g' => h u x (g.trans g')
  | bad => exact h
def AR.cons (p : Bool) (d : D) : AR → AR
  | .ok q l st => .ok (p && q) (d :: l) st
  | .exc c l st => .exc c l st
  | .bad => .bad
def ER.cons (r : ER) (a : Sto → AR) : AR := match r with
  | .val .B d st => (a st).cons false d
  | .val .P d st => (a st).cons true d
  | .val .N d st => (a st).cons true d
  | .exc c l st => .exc c l st
  | .bad => .bad
def DAr (G : Gm) (W : WX) (ta : TA) (f : En → AR) : Prop :=
  ∀ s t σ e st, EnvOk G s t σ e → StOk G t st → ∀ Q : List V → Hp → Prop, APost G W t σ Q (f ⟨e, st⟩) → ta σ t.h Q
section
variable {G : Gm} {W : WX}
def aNil : En → AR := fun E => .ok true [] E.st
theorem a_nil : DAr G W tNil aNil := fun _ t _ _ _ _ k _ post => post t [] (Gro.refl k) k (fun _ => .nil) .nil
def aCons (f : En → ER) (g : En → AR) : En → AR := fun E => (f E).cons fun st => g ⟨E.e, st⟩
theorem APost.consP {s : Hs} {σ : L2.St} {Q : List V → Hp → Prop} {d : D} {v : V} {a : AR} (h : APost G W s σ Q (a.cons true d)) (hv : Is G s.as s.f v d) : APost G W s σ (fun xs H2 => Q (v :: xs) H2) a := by
  cases a with
  | ok p l st => exact fun t vs g k q u => h t (v :: vs) g k (fun z => .cons (hv.up g.a g.f) (q (by simpa using z))) (.cons (.inl (hv.up g.a g.f)) u)
  | exc c l st => exact h
  | bad => exact h
theorem APost.consB {s : Hs} {σ : L2.St} {Q : List V → Hp → Prop} {d : D} {v : V} {a : AR} (h : APost G W s σ Q (a.cons false d)) (hv : U G s v d) : APost G W s σ (fun xs H2 => Q (v :: xs) H2) a := by
  cases a with
  | ok p l st => exact fun t vs g k q u => h t (v :: vs) g k (fun z => by simp at z) (.cons (hv.up g) u)
  | exc c l st => exact h
  | bad => exact h
theorem a_cons {te : TE} {tr : TA} {f : En → ER} {g : En → AR} (ha : DEv G W te f) (hr : DAr G W tr g) : DAr G W (tCons te tr) (aCons f g) := by
  intro s t σ e st E k Q post
  refine ha s t σ e st E k _ ?_
  unfold aCons at post
  cases q : f ⟨e, st⟩ with
  | val m d st1 =>
    rw [q] at post
    intro t1 v g1 k1 o1
    cases m with
    | P => exact hr s t1 σ e st1 (E.up g1) k1 _ (APost.consP (APost.step g1 post) o1)
    | B => exact hr s t1 σ e st1 (E.up g1) k1 _ (APost.consB (APost.step g1 post) o1.u)
    | N =>
      obtain ⟨f2, g2, k2, _, i2⟩ := o1.freeze g1 k1 (by decide)
      exact hr s ⟨t1.as, f2, t1.h⟩ σ e st1 (E.up g2) k2 _ (APost.consP (APost.step g2 post) i2)
  | exc c l st1 => rw [q] at post; exact post
  | bad => rw [q] at post; exact post
def dTup (f : En → AR) : En → ER := fun E => match f E with
  | .ok true l st => if l.length ≤ 1000000 then .val .P (.tup l) st else .bad
  | .exc c l st => .exc c l st
  | _ => .bad
theorem v_tup {ta : TA} {f : En → AR} (h : DAr G W ta f) : DEv G W (tTup ta) (dTup f) := by
  intro s t σ e st E k Q post
  refine h s t σ e st E k _ ?_
  unfold dTup at post
  cases q : f ⟨e, st⟩ with
  | ok p l st1 =>
    rw [q] at post
    cases p with
    | false => exact post.elim
    | true =>
      obtain ⟨c, post⟩ := RPost.cond _ _ post
      exact fun t1 vs g1 k1 i1 u1 => ⟨by rw [u1.len]; exact sz c, fun p hp => (RPost.step g1 k1 post).newT k1 (i1 rfl) hp⟩
  | exc c l st1 => rw [q] at post; exact post
  | bad => rw [q] at post; exact post
def dLst (f : En → AR) : En → ER := fun E => match f E with
  | .ok true l st => if l.length ≤ 1000000 then .val .N (.lst l) st else .bad
  | .exc c l st => .exc c l st
  | _ => .bad
theorem v_lst {ta : TA} {f : En → AR} (h : DAr G W ta f) : DEv G W (tLst ta) (dLst f) := by
  intro s t σ e st E k Q post
  refine h s t σ e st E k _ ?_
  unfold dLst at post
  cases q : f ⟨e, st⟩ with
  | ok p l st1 =>
    rw [q] at post
    cases p with
    | false => exact post.elim
    | true =>
      obtain ⟨c, post⟩ := RPost.cond _ _ post
      exact fun t1 vs g1 k1 i1 u1 => ⟨by rw [u1.len]; exact sz c, fun p hp => (RPost.step g1 k1 post).newL k1 (i1 rfl) hp⟩
  | exc c l st1 => rw [q] at post; exact post
  | bad => rw [q] at post; exact post
def dPut (f : En → ER) : En → ER := fun E => match f E with
  | .val .N (.lst l) st => .val .P (.ptr st.length) (st ++ [.lst l])
  | .exc c l st => .exc c l st
  | _ => .bad
theorem v_put {te : TE} {f : En → ER} (h : DEv G W te f) : DEv G W te (dPut f) := by
  intro s t σ e st E k Q post
  refine h s t σ e st E k _ ?_
  unfold dPut at post
  cases q : f ⟨e, st⟩ with
  | val m d st1 =>
    rw [q] at post
    cases m with
    | P => cases d <;> exact post.elim
    | B => cases d <;> exact post.elim
    | N =>
      intro t1 v g1 k1 o1
      obtain ⟨p, vs, l, rfl, rfl, a, b, c, n, z⟩ := o1
      have k2 : StOk G ⟨t1.as ++ [p], t1.f, t1.h⟩ (st1 ++ [.lst l]) := k1.put z c ⟨vs, a, b.up (Ext.app _ _) (Same.refl _)⟩
      refine post ⟨t1.as ++ [p], t1.f, t1.h⟩ _ (g1.put k1 n z) k2 (.ptr ?_)
      show (t1.as ++ [p])[st1.length]? = some p
      rw [← k1.len, List.getElem?_append_right (Nat.le_refl _)]
      simp
  | exc c l st1 => rw [q] at post; exact post
  | bad => rw [q] at post; exact post
def spF (G : Gm) (F : List D → Sto → ER) : Sp := fun vs H Q E => ∃ (s : Hs) (ds : List D) (st : Sto), s.h = H ∧ StOk G s st ∧ IsL G s.as s.f vs ds ∧ RPost G (fun c x _ H' => E c x H') s [] Q (F ds st)
def dCall (F : List D → Sto → ER) (f : En → AR) : En → ER := fun E => match f E with
  | .ok true l st => F l st
  | .exc c l st => .exc c l st
  | _ => .bad
theorem RPost.w {W' : WX} {s : Hs} {σ σ' : L2.St} {Q : VK} {r : ER} (h : RPost G W s σ Q r) (hw : ∀ c x H', W c x σ H' → W' c x σ' H') : RPost G W' s σ' Q r := by
  cases r with
  | val m d st => exact h
  | exc c l st => exact fun t x g k o => hw _ _ _ (h t x g k o)
  | bad => exact h
theorem v_call {F : List D → Sto → ER} {ta : TA} {f : En → AR} (ha : DAr G W ta f) : DEv G W (tCallS (spF G F) (WE W) ta) (dCall F f) := by
  intro s t σ e st E k Q post
  refine ha s t σ e st E k _ ?_
  unfold dCall at post
  cases q : f ⟨e, st⟩ with
  | ok p l st1 =>
    rw [q] at post
    cases p with
    | true => exact fun t1 vs g1 k1 i1 u1 => ⟨t1, l, st1, rfl, k1, i1 rfl, (RPost.step g1 k1 post).w (fun c x H' h => h)⟩
    | false => exact post.elim
  | exc c l st1 => rw [q] at post; exact post
  | bad => rw [q] at post; exact post
def DCal (G : Gm) (r : List V → Hp → VK → Prop) (o : List D → Sto → ER) : Prop :=
  ∀ (W : WX) (σ : L2.St) (s : Hs) (st : Sto) (vs : List V) (ds : List D), StOk G s st → UL G s vs ds → ∀ Q : VK, RPost G W s σ Q (o ds st) → r vs s.h Q
def dCB (o : List D → Sto → ER) (f : En → AR) : En → ER := fun E => match f E with
  | .ok _ l st => o l st
  | .exc c l st => .exc c l st
  | .bad => .bad
theorem v_cb {r : List V → Hp → VK → Prop} {o : List D → Sto → ER} {ta : TA} {f : En → AR} (hr : DCal G r o) (ha : DAr G W ta f) : DEv G W (tCB r ta) (dCB o f) := by
  intro s t σ e st E k Q post
  refine ha s t σ e st E k _ ?_
  unfold dCB at post
  cases q : f ⟨e, st⟩ with
  | ok p l st1 => rw [q] at post; exact fun t1 vs g1 k1 i1 u1 => hr W σ t1 st1 vs l k1 u1 Q (RPost.step g1 k1 post)
  | exc c l st1 => rw [q] at post; exact post
  | bad => rw [q] at post; exact post
theorem UL.one {s : Hs} {vs : List V} {d : D} (h : UL G s vs [d]) : ∃ v, vs = [v] ∧ U G s v d := by
  cases h with | cons a b => cases b; exact ⟨_, rfl, a⟩
theorem UL.two {s : Hs} {vs : List V} {d e : D} (h : UL G s vs [d, e]) : ∃ v w, vs = [v, w] ∧ U G s v d ∧ U G s w e := by
  cases h with | cons a b => cases b with | cons c d => cases d; exact ⟨_, _, rfl, a, c⟩
theorem DCal.one1 {r : List V → Hp → VK → Prop} {o : List D → Sto → ER} (h0 : ∀ st, o [] st = .bad) (h2 : ∀ a b l st, o (a :: b :: l) st = .bad)
    (h : ∀ (W : WX) (σ : L2.St) (s : Hs) (st : Sto) (v : V) (d : D), StOk G s st → U G s v d → ∀ Q : VK, RPost G W s σ Q (o [d] st) → r [v] s.h Q) : DCal G r o := by
  intro W σ s st vs ds k hv Q post
  match ds, hv, post with
  | [], _, post => rw [h0] at post; exact post.elim
  | [d], hv, post => obtain ⟨v, rfl, hv1⟩ := hv.one; exact h W σ s st v d k hv1 Q post
  | a :: b :: l, _, post => rw [h2] at post; exact post.elim
def oAbs : List D → Sto → ER
  | [.int i], st => .val .P (.int (if i < 0 then -i else i)) st
  | _, _ => .bad
theorem c_abs : DCal G (fun xs H Q => ∃ i, xs = [.int i] ∧ Q (.int (if i < 0 then -i else i)) H) oAbs := by
  refine DCal.one1 (fun _ => rfl) (fun a b l _ => by cases a <;> rfl) fun W σ s st v d k hv Q post => ?_
  cases d <;> try exact post.elim
  obtain rfl := hv.int
  exact ⟨_, rfl, post.now k (.int _)⟩
def oLen : List D → Sto → ER
  | [.lst l], st => .val .P (.int l.length) st
  | [.tup l], st => .val .P (.int l.length) st
  | [.scr l], st => .val .P (.int l.length) st
  | [.ptr n], st => ofOpt (stLst st n) fun l => .val .P (.int l.length) st
  | [.str z], st => if z.length ≤ 1000000 then .val .P (.int z.length) st else .bad
  | _, _ => .bad
theorem c_len : DCal G (fun xs H Q => ∃ x n, xs = [x] ∧ LenV G.K x H n ∧ Q (.int n) H) oLen := by
  refine DCal.one1 (fun _ => rfl) (fun a b l _ => by cases a <;> rfl) fun W σ s st v d k hv Q post => ?_
  cases d <;> try exact post.elim
  case lst l =>
    obtain ⟨p, vs, rfl, hp, hl⟩ := hv.lst k.sf
    exact ⟨_, l.length, rfl, .inl ⟨vs, SqL.of hp, hl.len.symm⟩, post.now k (.int _)⟩
  case tup l =>
    obtain ⟨p, vs, rfl, hp, hl⟩ := hv.tup k.sf
    exact ⟨_, l.length, rfl, .inr ⟨vs, hp, hl.len.symm⟩, post.now k (.int _)⟩
  case scr l =>
    obtain ⟨p, rfl, hp⟩ := hv.scr k.sf
    exact ⟨_, l.length, rfl, .inl ⟨_, hp, by rw [List.length_map]⟩, post.now k (.int _)⟩
  case ptr n =>
    obtain ⟨p, rfl, hp⟩ := hv.ptr
    obtain ⟨l, ql, post⟩ := RPost.opt (stLst st n) (fun l => .val .P (.int l.length) st) post
    obtain ⟨vs, hh, hl⟩ := k.lst hp ql
    exact ⟨_, l.length, rfl, .inl ⟨vs, SqL.of hh, hl.len.symm⟩, post.now k (.int _)⟩
  case str z =>
    obtain rfl := hv.str
    obtain ⟨c, post⟩ := RPost.cond (z.length ≤ 1000000) (.val .P (.int z.length) st) post
    exact ⟨_, z.length, rfl, ⟨sz c, rfl⟩, post.now k (.int _)⟩
def oMax2 : List D → Sto → ER
  | [.int i, .int j], st => .val .P (.int (if j > i then j else i)) st
  | _, _ => .bad
def oMin2 : List D → Sto → ER
  | [.int i, .int j], st => .val .P (.int (if j < i then j else i)) st
  | _, _ => .bad
theorem DCal.two2 {r : List V → Hp → VK → Prop} {o : List D → Sto → ER} (h0 : ∀ st, o [] st = .bad) (h1 : ∀ a st, o [a] st = .bad) (h3 : ∀ a b c l st, o (a :: b :: c :: l) st = .bad)
    (h : ∀ (W : WX) (σ : L2.St) (s : Hs) (st : Sto) (v w : V) (d d' : D), StOk G s st → U G s v d → U G s w d' → ∀ Q : VK, RPost G W s σ Q (o [d, d'] st) → r [v, w] s.h Q) : DCal G r o := by
  intro W σ s st vs ds k hv Q post
  match ds, hv, post with
  | [], _, post => rw [h0] at post; exact post.elim
  | [a], _, post => rw [h1] at post; exact post.elim
  | [d, d'], hv, post => obtain ⟨v, w, rfl, hv1, hv2⟩ := hv.two; exact h W σ s st v w d d' k hv1 hv2 Q post
  | a :: b :: c :: l, _, post => rw [h3] at post; exact post.elim
theorem c_max2 : DCal G (fun xs H Q => ∃ i j, xs = [.int i, .int j] ∧ Q (.int (if j > i then j else i)) H) oMax2 := by
  refine DCal.two2 (fun _ => rfl) (fun a _ => by cases a <;> rfl) (fun a b c l _ => by cases a <;> first | rfl | (cases b <;> rfl)) fun W σ s st v w d d' k hv hw Q post => ?_
  cases d <;> cases d' <;> try exact post.elim
  obtain rfl := hv.int; obtain rfl := hw.int
  exact ⟨_, _, rfl, post.now k (.int _)⟩
theorem c_min2 : DCal G (fun xs H Q => ∃ i j, xs = [.int i, .int j] ∧ Q (.int (if j < i then j else i)) H) oMin2 := by
  refine DCal.two2 (fun _ => rfl) (fun a _ => by cases a <;> rfl) (fun a b c l _ => by cases a <;> first | rfl | (cases b <;> rfl)) fun W σ s st v w d d' k hv hw Q post => ?_
  cases d <;> cases d' <;> try exact post.elim
  obtain rfl := hv.int; obtain rfl := hw.int
  exact ⟨_, _, rfl, post.now k (.int _)⟩
def intsOf : List D → Option (List Int)
  | [] => some []
  | .int i :: l => (intsOf l).map (i :: ·)
  | _ => none
theorem intsOf_V {as : List Addr} {H : Hp} : ∀ {l : List D} {vs : List V} {ns : List Int}, intsOf l = some ns → IsL G as H vs l → vs = ns.map V.int
  | [], _, _, h, i => by cases i; cases h; rfl
  | d :: l, _, ns, h, i => by
    cases i with
    | cons a b =>
      cases d <;> first | (cases h; done) | skip
      rename_i i
      have h' : (intsOf l).map (i :: ·) = some ns := h
      cases q : intsOf l with
      | none => rw [q] at h'; cases h'
      | some ms =>
        rw [q] at h'; cases h'
        cases a
        rw [intsOf_V q b]; rfl
def oSum : List D → Sto → ER
  | [.lst l], st => ofOpt (intsOf l) fun ns => .val .P (.int ns.sum) st
  | _, _ => .bad
theorem c_sum : DCal G (rSum G.K) oSum := by
  refine DCal.one1 (fun _ => rfl) (fun a b l _ => by cases a <;> rfl) fun W σ s st v d k hv Q post => ?_
  cases d <;> try exact post.elim
  rename_i l
  obtain ⟨p, vs, rfl, hp, hl⟩ := hv.lst k.sf
  obtain ⟨ns, h, post⟩ := RPost.opt (intsOf l) (fun ns => .val .P (.int ns.sum) st) post
  have := intsOf_V h hl
  subst this
  exact ⟨p, ns, rfl, SqL.of hp, post.now k (.int _)⟩
theorem IsL.ints {as : List Addr} {H : Hp} : ∀ (l : List Int), IsL G as H (l.map V.int) (l.map D.int)
  | [] => .nil
  | i :: l => .cons (.int i) (IsL.ints l)
def oList : List D → Sto → ER
  | [.lst l], st => .val .N (.lst l) st
  | [.tup l], st => .val .N (.lst l) st
  | [.scr l], st => .val .N (.lst (l.map .int)) st
  | [.ptr n], st => ofOpt (stLst st n) fun l => .val .N (.lst l) st
  | _, _ => .bad
theorem c_list : DCal G (fun xs H Q => ∃ p ys, xs = [.ref p] ∧ (SqL G.K H p ys ∨ SqT G.K H p ys) ∧ ∀ l, H l = none → Q (.ref l) (upd H l (.lst ys))) oList := by
  refine DCal.one1 (fun _ => rfl) (fun a b l _ => by cases a <;> rfl) fun W σ s st v d k hv Q post => ?_
  cases d <;> try exact post.elim
  case lst l =>
    obtain ⟨p, vs, rfl, hp, hl⟩ := hv.lst k.sf
    exact ⟨p, vs, rfl, .inl (SqL.of hp), fun r hr => RPost.newL k post hl hr⟩
  case tup l =>
    obtain ⟨p, vs, rfl, hp, hl⟩ := hv.tup k.sf
    exact ⟨p, vs, rfl, .inr hp, fun r hr => RPost.newL k post hl hr⟩
  case scr l =>
    obtain ⟨p, rfl, hp⟩ := hv.scr k.sf
    exact ⟨p, _, rfl, .inl hp, fun r hr => RPost.newL k post (IsL.ints _) hr⟩
  case ptr n =>
    obtain ⟨p, rfl, hp⟩ := hv.ptr
    obtain ⟨l, ql, post⟩ := RPost.opt (stLst st n) (fun l => .val .N (.lst l) st) post
    obtain ⟨vs, hh, hl⟩ := k.lst hp ql
    exact ⟨p, vs, rfl, .inl (SqL.of hh), fun r hr => RPost.newL k post hl hr⟩
def oTuple : List D → Sto → ER
  | [.lst l], st => .val .P (.tup l) st
  | [.tup l], st => .val .P (.tup l) st
  | _, _ => .bad
def cutG {α : Type} (xs : List α) (lo hi : Option Int) : List α := (xs.drop (HT.sIx xs.length 0 lo)).take (HT.sIx xs.length xs.length hi - HT.sIx xs.length 0 lo)
theorem cut_L {as : List Addr} {f : Hp} {vs : List V} {l : List D} (h : IsL G as f vs l) (lo hi : Option Int) : IsL G as f (cutV vs lo hi) (cutG l lo hi) := by
  unfold cutV cutG
  rw [h.len]
  exact (h.drop _).take _
def DTo (G : Gm) (W : WX) (to : TO) (f : En → Option ER) : Prop :=
  ∀ s t σ e st, EnvOk G s t σ e → StOk G t st → ∀ (Q : Option Int → Hp → Prop) (o : Option Int) (st' : Sto),
    (match f ⟨e, st⟩ with
      | none => o = none ∧ st' = st
      | some (.val _ (.int i) st1) => o = some i ∧ st' = st1
      | _ => False) → (∀ t', Gro t t' → StOk G t' st' → Q o t'.h) → to σ t.h Q
theorem o_none : DTo G W tNoPart (fun _ => none) := fun _ t _ _ _ _ k _ _ _ ⟨h1, h2⟩ post => by
  subst h1; subst h2; exact post t (Gro.refl k) k
theorem o_some {te : TE} {f : En → ER} (h : DEv G W te f) : DTo G W (tPart te) (fun E => some (f E)) := by
  intro s t σ e st E k Q o st' c post
  refine h s t σ e st E k _ ?_
  cases q : f ⟨e, st⟩ with
  | val m d st1 =>
    simp only [q] at c
    cases d <;> first | exact c.elim | skip
    obtain ⟨rfl, rfl⟩ := c
    intro t' v g k' o
    obtain rfl := o.u.int
    exact ⟨_, rfl, post t' g k'⟩
  | exc c' l st1 => simp only [q] at c
  | bad => simp only [q] at c
def partI (o : Option ER) (st : Sto) : Option (Option Int × Sto) := match o with
  | none => some (none, st)
  | some (.val _ (.int i) st1) => some (some i, st1)
  | _ => none
def DSl (G : Gm) (r : V → Option Int → Option Int → Hp → VK → Prop) (o : D → Option Int → Option Int → Sto → ER) : Prop :=
  ∀ (W : WX) (σ : L2.St) (s : Hs) (st : Sto) (v : V) (d : D) (lo hi : Option Int), StOk G s st → U G s v d → ∀ Q : VK, RPost G W s σ Q (o d lo hi st) → r v lo hi s.h Q
def dSl (o : D → Option Int → Option Int → Sto → ER) (f : En → ER) (lo hi : En → Option ER) : En → ER := fun E => (f E).bind fun x st => ofOpt (partI (lo ⟨E.e, st⟩) st) fun l => ofOpt (partI (hi ⟨E.e, l.2⟩) l.2) fun u => o x l.1 u.1 u.2
theorem part_post {tl : TO} {lo : En → Option ER} (hl : DTo G W tl lo) {s t : Hs} {σ : L2.St} {e : DE} {st : Sto} (E : EnvOk G s t σ e) (k : StOk G t st) {l : Option Int × Sto} (hp : partI (lo ⟨e, st⟩) st = some l) {Q : Option Int → Hp → Prop} (post : ∀ t', Gro t t' → StOk G t' l.2 → Q l.1 t'.h) : tl σ t.h Q := by
  refine hl s t σ e st E k Q l.1 l.2 ?_ post
  cases q : lo ⟨e, st⟩ with
  | none => rw [q] at hp; cases hp; exact ⟨rfl, rfl⟩
  | some r =>
    rw [q] at hp
    cases r with
    | val m d st1 =>
      cases d <;> first | (cases hp; done) | skip
      cases hp
      exact ⟨rfl, rfl⟩
    | exc c l st1 => cases hp
    | bad => cases hp
theorem v_sl {r : V → Option Int → Option Int → Hp → VK → Prop} {o : D → Option Int → Option Int → Sto → ER} {te : TE} {tl th : TO} {f : En → ER} {lo hi : En → Option ER} (hr : DSl G r o) (he : DEv G W te f) (hl : DTo G W tl lo) (hh : DTo G W th hi) : DEv G W (tSl r te tl th) (dSl o f lo hi) := by
  intro s t σ e st E k Q post
  refine he s t σ e st E k _ (RPost.bind post fun m d st1 t1 v g1 k1 o1 p1 => ?_)
  obtain ⟨l, h1, p1⟩ := RPost.opt _ _ p1
  obtain ⟨u, h2, p1⟩ := RPost.opt _ _ p1
  refine part_post hl (E.up g1) k1 h1 fun t2 g2 k2 => part_post hh ((E.up g1).up g2) k2 h2 fun t3 g3 k3 => ?_
  exact hr W σ t3 u.2 v d l.1 u.1 k3 (((o1.up g2).up g3).u) Q (RPost.step (g2.trans g3) k3 p1)
abbrev rSlA (K : PySem.W.Frag) : V → Option Int → Option Int → Hp → VK → Prop := fun x lo hi H Q => rSlL K x lo hi H Q ∨ (fun x lo hi H Q => L2.rSlA K x lo hi H Q ∨ rSlS x lo hi H Q) x lo hi H Q
theorem sl_any {X : Cx} : SlR X (rSlA X.K) := sl_list.or (L2.sl_tupA.or sl_str)
def oSl (d : D) (lo hi : Option Int) (st : Sto) : ER := match d with
  | .lst l => .val .N (.lst (cutG l lo hi)) st
  | .scr l => .val .N (.lst ((cutG l lo hi).map .int)) st
  | .tup l => .val .P (.tup (cutG l lo hi)) st
  | .str z => if z.length ≤ 1000000 then .val .P (.str (cutS z lo hi)) st else .bad
  | _ => .bad
theorem cut_map (l : List Int) (lo hi : Option Int) : cutV (l.map V.int) lo hi = (cutG l lo hi).map V.int := by
  unfold cutV cutG
  rw [List.length_map, List.map_take, List.map_drop]
theorem d_sl : DSl G (rSlA G.K) oSl := by
  intro W σ s st v d lo hi k hv Q post
  cases d <;> try exact post.elim
  case lst l =>
    obtain ⟨p, vs, rfl, hp, hl⟩ := hv.lst k.sf
    exact .inl ⟨p, vs, rfl, SqL.of hp, fun r hr => RPost.newL k post (cut_L hl lo hi) hr⟩
  case scr l =>
    obtain ⟨p, rfl, hp⟩ := hv.scr k.sf
    exact .inl ⟨p, _, rfl, hp, fun r hr => by rw [cut_map]; exact RPost.newL k post (IsL.ints _) hr⟩
  case tup l =>
    obtain ⟨p, vs, rfl, hp, hl⟩ := hv.tup k.sf
    refine .inr (.inl ⟨p, vs, rfl, hp, fun c => ?_, fun _ r hr => RPost.newT k post (cut_L hl lo hi) hr⟩)
    rw [hl.len] at c
    have e : cutG l lo hi = l := by
      unfold cutG
      rw [c.1, c.2]; simp
    rw [show oSl (.tup l) lo hi st = .val .P (.tup (cutG l lo hi)) st from rfl, e] at post
    exact RPost.now k post hv.tupI
  case str z =>
    obtain rfl := hv.str
    obtain ⟨c, post⟩ := RPost.cond (z.length ≤ 1000000) (.val .P (.str (cutS z lo hi)) st) post
    exact .inr (.inr ⟨z, rfl, sz c, post.now k (.str _)⟩)
end
end Dn
namespace Dn
open PySem PySem.Spec PyProof.Rows L2
structure Up (s t : Hs) : Prop where
  a : Ext s.as t.as
  f : Same s.f t.f
theorem Up.refl (s : Hs) : Up s s := ⟨Ext.refl _, Same.refl _⟩
theorem Up.trans {s t u : Hs} (x : Up s t) (y : Up t u) : Up s u := ⟨x.a.trans y.a, x.f.trans y.f⟩
theorem Gro.up {s t : Hs} (g : Gro s t) : Up s t := ⟨g.a, g.f⟩
def DTg (G : Gm) (g : TG) (js : List Nat) (h : D → DE → Option DE) : Prop :=
  ∀ s t σ e st v d, EnvOk G s t σ e → StOk G t st → Is G t.as t.f v d → ∀ Q : L2.St → Hp → Prop, ∀ e', h d e = some e' →
    (∀ σ', EnvOk G s t σ' e' → σ'.length = σ.length → (∀ i, i ∉ js → σ'[i]? = σ[i]?) → Q σ' t.h) → g v σ t.h Q
def DTgs (G : Gm) (g : TGs) (js : List Nat) (h : List D → DE → Option DE) : Prop :=
  ∀ s t σ e st vs ds, EnvOk G s t σ e → StOk G t st → IsL G t.as t.f vs ds → ∀ Q : L2.St → Hp → Prop, ∀ e', h ds e = some e' →
    (∀ σ', EnvOk G s t σ' e' → σ'.length = σ.length → (∀ i, i ∉ js → σ'[i]? = σ[i]?) → Q σ' t.h) → g vs σ t.h Q
section
variable {G : Gm} {W : WX}
def tgN (i : Nat) : D → DE → Option DE := fun d e => some (e.set i (.val d))
theorem g_name {i : Nat} : DTg G (gName i) [i] (tgN i) := by
  intro s t σ e st v d E k hv Q e' he post
  cases he
  refine post _ (E.set ⟨v, rfl, hv⟩ (fun l z => nomatch z)) (by simp) fun j hj => ?_
  have : i ≠ j := fun z => hj (by simp [z])
  rw [List.getElem?_set_ne this]
def tgsNil : List D → DE → Option DE := fun l e => match l with | [] => some e | _ => none
theorem gs_nil : DTgs G gNil [] tgsNil := by
  intro s t σ e st vs ds E k hv Q e' he post
  cases ds with
  | nil => cases hv; cases he; exact ⟨rfl, post σ E rfl fun _ _ => rfl⟩
  | cons d l => cases he
def tgsCons (t : D → DE → Option DE) (u : List D → DE → Option DE) : List D → DE → Option DE := fun l e => match l with
  | [] => none
  | d :: l => (t d e).bind (u l)
theorem gs_cons {g : TG} {gs : TGs} {js ks : List Nat} {t : D → DE → Option DE} {u : List D → DE → Option DE} (h1 : DTg G g js t) (h2 : DTgs G gs ks u) : DTgs G (gCons g gs) (js ++ ks) (tgsCons t u) := by
  intro s t0 σ e st vs ds E k hv Q e' he post
  cases ds with
  | nil => cases he
  | cons d l =>
    cases hv with
    | cons a b =>
      have he' : (t d e).bind (u l) = some e' := he
      cases q : t d e with
      | none => rw [q] at he'; cases he'
      | some e1 =>
        rw [q] at he'
        refine ⟨_, _, rfl, h1 s t0 σ e st _ d E k a _ e1 q fun σ1 E1 l1 w1 => ?_⟩
        refine h2 s t0 σ1 e1 st _ l E1 k b _ e' he' fun σ2 E2 l2 w2 => ?_
        refine post σ2 E2 (l2.trans l1) fun i hi => ?_
        rw [w2 i (fun z => hi (List.mem_append_right _ z)), w1 i (fun z => hi (List.mem_append_left _ z))]
def tgT (n : Nat) (u : List D → DE → Option DE) : D → DE → Option DE := fun d e => match d with
  | .tup l => if l.length = n then u l e else none
  | .lst l => if l.length = n then u l e else none
  | _ => none
abbrev gTL (K : PySem.W.Frag) (n : Nat) (t : TGs) : TG := fun v σ H Q => gTup K n t v σ H Q ∨ gLst K n t v σ H Q
theorem pg_tl {X : Cx} {pos : Pos} {es : List Expr} {k : Nat} {t : TGs} {n : Nat} (hc : X.calm = true) (h : PGs X es t)
    (hn : (assignEach es X.env).length = n := by rfl) (hst : (assignEach es X.env).findIdx? (·.1) = none := by rfl) : PG X (.Tuple es k pos) (gTL X.K n t) :=
  ⟨fun pins s σ H v u Q I r hw => hw.elim (fun z => (pg_tup hc h hn hst).run pins s σ H v u Q I r z) (fun z => (pg_lst hc h hn hst).run pins s σ H v u Q I r z)⟩
theorem g_tl {n : Nat} {t : TGs} {js : List Nat} {u : List D → DE → Option DE} (h : DTgs G t js u) : DTg G (gTL G.K n t) js (tgT n u) := by
  intro s t0 σ e st v d E k hv Q e' he post
  cases d <;> try (cases he; done)
  case tup l =>
    have he' : (if l.length = n then u l e else none) = some e' := he
    split at he'
    · rename_i hn
      cases hv with
      | tup a b => exact .inl ⟨_, _, rfl, same_t k.sf a, b.len.trans hn, h s t0 σ e st _ l E k b Q e' he' post⟩
    · cases he'
  case lst l =>
    have he' : (if l.length = n then u l e else none) = some e' := he
    split at he'
    · rename_i hn
      cases hv with
      | lst a b => exact .inr ⟨_, _, rfl, SqL.of (k.sf _ _ a), b.len.trans hn, h s t0 σ e st _ l E k b Q e' he' post⟩
    · cases he'
end
inductive SR where | nx (E : En) | rt (m : Md) (d : D) (st : Sto) | bk (E : En) | ct (E : En) | exc (c : Nat) (l : List D) (E : En) | bad
def SPost (G : Gm) (W : WX) (s t : Hs) (N : Ends) : SR → Prop
  | .nx E => ∀ t' σ', Up t t' → EnvOk G s t' σ' E.e → StOk G t' E.st → N.nx σ' t'.h
  | .rt m d st => ∀ t' v, Up t t' → Gro s t' → StOk G t' st → VOk G s t' m v d → N.rt v t'.h
  | .bk E => ∀ t' σ', Up t t' → EnvOk G s t' σ' E.e → StOk G t' E.st → N.bk σ' t'.h
  | .ct E => ∀ t' σ', Up t t' → EnvOk G s t' σ' E.e → StOk G t' E.st → N.ct σ' t'.h
  | .exc c l E => ∀ t' σ' x, Up t t' → EnvOk G s t' σ' E.e → StOk G t' E.st → ExcOk G t' c l x → W (.ref (G.ca c)) x σ' t'.h
  | .bad => False
theorem SPost.mono {G : Gm} {W : WX} {s t t1 : Hs} {N : Ends} {r : SR} (u : Up t t1) (h : SPost G W s t N r) : SPost G W s t1 N r := by
  cases r with
  | nx E => exact fun t' σ' q => h t' σ' (u.trans q)
  | rt m d st => exact fun t' v q => h t' v (u.trans q)
  | bk E => exact fun t' σ' q => h t' σ' (u.trans q)
  | ct E => exact fun t' σ' q => h t' σ' (u.trans q)
  | exc c l E => exact fun t' σ' x q => h t' σ' x (u.trans q)
  | bad => exact h
def DSt (G : Gm) (W : WX) (ts : TS) (g : En → SR) : Prop :=
  ∀ s t σ e st, EnvOk G s t σ e → StOk G t st → ∀ N : Ends, SPost G W s t N (g ⟨e, st⟩) → ts N σ t.h
def SR.bind (r : SR) (k : En → SR) : SR := match r with
  | .nx E => k E
  | r => r
@[simp] theorem SR.bind_nx (E : En) (k : En → SR) : (SR.nx E).bind k = k E := rfl
@[simp] theorem SR.bind_rt (m : Md) (d : D) (st : Sto) (k : En → SR) : (SR.rt m d st).bind k = .rt m d st := rfl
@[simp] theorem SR.bind_bk (E : En) (k : En → SR) : (SR.bk E).bind k = .bk E := rfl
@[simp] theorem SR.bind_ct (E : En) (k : En → SR) : (SR.ct E).bind k = .ct E := rfl
@[simp] theorem SR.bind_exc (c : Nat) (l : List D) (E : En) (k : En → SR) : (SR.exc c l E).bind k = .exc c l E := rfl
@[simp] theorem SR.bind_bad (k : En → SR) : SR.bad.bind k = .bad := rfl
section
variable {G : Gm} {W : WX}
def sSeq (f g : En → SR) : En → SR := fun E => (f E).bind g
theorem s_seq {t u : TS} {f g : En → SR} (h1 : DSt G W t f) (h2 : DSt G W u g) : DSt G W (tSeq t u) (sSeq f g) := by
  intro s t0 σ e st E k N post
  refine h1 s t0 σ e st E k _ ?_
  unfold sSeq at post
  cases q : f ⟨e, st⟩ with
  | nx E1 => rw [q] at post; exact fun t' σ' u E' k' => h2 s t' σ' E1.e E1.st E' k' N (SPost.mono u post)
  | rt m d st => rw [q] at post; exact post
  | bk e => rw [q] at post; exact post
  | ct e => rw [q] at post; exact post
  | exc c l e => rw [q] at post; exact post
  | bad => rw [q] at post; exact post
def sSkip : En → SR := .nx
theorem s_skip : DSt G W tNext sSkip := fun s t σ e st E k N post => post t σ (Up.refl _) E k
def sBreak : En → SR := .bk
def sCont : En → SR := .ct
theorem ev_st {te : TE} {f : En → ER} (h : DEv G W te f) {s t : Hs} {σ : L2.St} {e : DE} {st : Sto} (E : EnvOk G s t σ e) (k : StOk G t st) {N : Ends} {Q : VK} (hx : ∀ c l st1, f ⟨e, st⟩ = .exc c l st1 → SPost G W s t N (.exc c l ⟨e, st1⟩)) (hb : f ⟨e, st⟩ ≠ .bad)
    (hv : ∀ m d st1, f ⟨e, st⟩ = .val m d st1 → ∀ t' v, Gro t t' → StOk G t' st1 → VOk G t t' m v d → Q v t'.h) : te σ t.h Q := by
  refine h s t σ e st E k _ ?_
  cases q : f ⟨e, st⟩ with
  | val m d st1 => exact hv m d st1 q
  | exc c l st1 => exact fun t' x g k' o => hx c l st1 q t' σ x g.up (E.up g) k' o
  | bad => exact absurd q hb
def sSet (i : Nat) (f : En → ER) : En → SR := fun E => match f E with
  | .val .P d st => .nx ⟨E.e.set i (.val d), st⟩
  | .val .N (.lst l) st => .nx ⟨E.e.set i (.own l), st⟩
  | .exc c l st => .exc c l ⟨E.e, st⟩
  | _ => .bad
theorem s_set {i : Nat} {te : TE} {f : En → ER} (h : DEv G W te f) : DSt G W (tAsg te (gName i)) (sSet i f) := by
  intro s t σ e st E k N post
  unfold sSet at post
  refine ev_st (N := N) h E k (fun c l st1 q => by rw [q] at post; exact post) (fun q => by rw [q] at post; exact post) fun m d st1 q t' v g k' o => ?_
  rw [q] at post
  cases m with
  | P => exact post t' _ g.up ((E.up g).set ⟨v, rfl, o⟩ (fun l z => nomatch z)) k'
  | B => cases d <;> exact post.elim
  | N =>
    obtain ⟨p, vs, l, rfl, rfl, a, b, c, n, z⟩ := o
    have n0 : s.h p = none := by
      cases q : s.h p with
      | none => rfl
      | some o =>
        by_cases i : p ∈ s.as
        · exact absurd (E.gr.a.mem i) (k.new n)
        · rw [E.gr.h p o q i] at n; cases n
    refine post t' _ g.up ((E.up g).setOwn n0 z a b c fun j m hj s1 s2 => ?_) k'
    obtain ⟨o, h1, p', vs', h2, _, _, h3, _⟩ := E.slot s2
    rw [s1] at h1; cases h1
    cases h2
    rw [n] at h3; cases h3
def sSetF (i : Nat) (f : En → ER) : En → SR := fun E => match f E with
  | .val .P d st => .nx ⟨E.e.set i (.val d), st⟩
  | .val .N d st => .nx ⟨E.e.set i (.val d), st⟩
  | .exc c l st => .exc c l ⟨E.e, st⟩
  | _ => .bad
theorem s_setF {i : Nat} {te : TE} {f : En → ER} (h : DEv G W te f) : DSt G W (tAsg te (gName i)) (sSetF i f) := by
  intro s t σ e st E k N post
  unfold sSetF at post
  refine ev_st (N := N) h E k (fun c l st1 q => by rw [q] at post; exact post) (fun q => by rw [q] at post; exact post) fun m d st1 q t' v g k' o => ?_
  rw [q] at post
  cases m with
  | P => exact post t' _ g.up ((E.up g).set ⟨v, rfl, o⟩ (fun l z => nomatch z)) k'
  | B => exact post.elim
  | N =>
    obtain ⟨f2, g2, k2, _, i2⟩ := o.freeze g k' (by decide)
    exact post ⟨t'.as, f2, t'.h⟩ _ g2.up ((E.up g2).set ⟨v, rfl, i2⟩ (fun l z => nomatch z)) k2
def sAsg (t : D → DE → Option DE) (f : En → ER) : En → SR := fun E => match f E with
  | .val .B _ _ => .bad
  | .val _ d st => (match t d E.e with | some e' => .nx ⟨e', st⟩ | none => .bad)
  | .exc c l st => .exc c l ⟨E.e, st⟩
  | _ => .bad
theorem s_asg {te : TE} {g : TG} {js : List Nat} {f : En → ER} {tg : D → DE → Option DE} (h : DEv G W te f) (hg : DTg G g js tg) : DSt G W (tAsg te g) (sAsg tg f) := by
  intro s t σ e st E k N post
  unfold sAsg at post
  refine ev_st (N := N) h E k (fun c l st1 q => by rw [q] at post; exact post) (fun q => by rw [q] at post; exact post) fun m d st1 q t' v g1 k' o => ?_
  rw [q] at post
  have fin : ∀ f2, Gro t ⟨t'.as, f2, t'.h⟩ → StOk G ⟨t'.as, f2, t'.h⟩ st1 → Is G t'.as f2 v d → SPost G W s t N (match tg d e with | some e' => .nx ⟨e', st1⟩ | none => .bad) → g v σ t'.h N.nx := fun f2 g2 k2 i2 p => by
    cases q2 : tg d e with
    | none => rw [q2] at p; exact p.elim
    | some e' =>
      rw [q2] at p
      exact hg s ⟨t'.as, f2, t'.h⟩ σ e st1 v d (E.up g2) k2 i2 _ e' q2 fun σ3 E3 _ _ => p _ σ3 g2.up E3 k2
  cases m with
  | P => exact fin t'.f g1 k' o post
  | B => exact post.elim
  | N =>
    obtain ⟨f2, g2, k2, _, i2⟩ := o.freeze g1 k' (by decide)
    exact fin f2 g2 k2 i2 post
def sPar (i j : Nat) (f : En → AR) : En → SR := fun E => match f E with
  | .ok true [a, b] st => .nx ⟨(E.e.set i (.val a)).set j (.val b), st⟩
  | .exc c l st => .exc c l ⟨E.e, st⟩
  | _ => .bad
theorem s_par {i j : Nat} {ta : TA} {f : En → AR} (h : DAr G W ta f) : DSt G W (tPar i j ta) (sPar i j f) := by
  intro s t σ e st E k N post
  unfold sPar at post
  refine h s t σ e st E k _ ?_
  cases q : f ⟨e, st⟩ with
  | ok p l st1 =>
    rw [q] at post
    cases p with
    | false => exact post.elim
    | true =>
      match l, post with
      | [], post => exact post.elim
      | [a], post => exact post.elim
      | [a, b], post =>
        intro t' vs g k' i2 _
        have i2 := i2 rfl
        cases i2 with
        | cons ia ib =>
          cases ib with
          | cons ib ic =>
            cases ic
            exact ⟨_, _, rfl, post t' _ g.up (((E.up g).set (x := .val a) ⟨_, rfl, ia⟩ (fun l z => nomatch z)).set (x := .val b) ⟨_, rfl, ib⟩ (fun l z => nomatch z)) k'⟩
      | a :: b :: c :: l, post => exact post.elim
  | exc c l st1 => rw [q] at post; exact fun t' x g k' o => post t' σ x g.up (E.up g) k' o
  | bad => rw [q] at post; exact post
def sDrop (f : En → ER) : En → SR := fun E => match f E with
  | .val _ _ st => .nx ⟨E.e, st⟩
  | .exc c l st => .exc c l ⟨E.e, st⟩
  | .bad => .bad
theorem s_drop {te : TE} {f : En → ER} (h : DEv G W te f) : DSt G W (tDrop te) (sDrop f) := by
  intro s t σ e st E k N post
  unfold sDrop at post
  refine ev_st (N := N) h E k (fun c l st1 q => by rw [q] at post; exact post) (fun q => by rw [q] at post; exact post) fun m d st1 q t' v g k' o => ?_
  rw [q] at post
  exact post t' σ g.up (E.up g) k'
def sRet (f : En → ER) : En → SR := fun E => match f E with
  | .val .P d st => .rt .P d st
  | .val .N d st => .rt .N d st
  | .exc c l st => .exc c l ⟨E.e, st⟩
  | _ => .bad
theorem s_ret {te : TE} {f : En → ER} (h : DEv G W te f) : DSt G W (tRet te) (sRet f) := by
  intro s t σ e st E k N post
  unfold sRet at post
  refine ev_st (N := N) h E k (fun c l st1 q => by rw [q] at post; exact post) (fun q => by rw [q] at post; exact post) fun m d st1 q t' v g k' o => ?_
  rw [q] at post
  cases m with
  | P => exact post t' v g.up (E.gr.trans g) k' o
  | B => exact post.elim
  | N => exact post t' v g.up (E.gr.trans g) k' (o.back E.gr k)
def sRetV (i : Nat) : En → SR := fun E => match E.e[i]? with
  | some (.val d) => .rt .P d E.st
  | some (.own l) => .rt .N (.lst l) E.st
  | _ => .bad
theorem s_retV {i : Nat} : DSt G W (tRet (tVar i)) (sRetV i) := by
  intro s t σ e st E k N post
  unfold sRetV at post
  split at post
  · rename_i d q
    obtain ⟨o, h1, v, rfl, h2⟩ := E.slot q
    exact ⟨v, h1, post t v (Up.refl _) E.gr k h2⟩
  · rename_i l q
    obtain ⟨o, h1, p, vs, rfl, a, b, c, d, f⟩ := E.slot q
    exact ⟨_, h1, post t _ (Up.refl _) E.gr k ⟨p, vs, l, rfl, rfl, c, d, f, a, b⟩⟩
  · exact post.elim
def sRetN : En → SR := fun E => .rt .P .non E.st
def sIf (c : En → ER) (f g : En → SR) : En → SR := fun E => match c E with
  | .val _ (.bl b) st => if b = true then f ⟨E.e, st⟩ else g ⟨E.e, st⟩
  | .exc c l st => .exc c l ⟨E.e, st⟩
  | _ => .bad
theorem tst_st {tt : TT} {f : En → ER} (h : DTt G W tt f) {s t : Hs} {σ : L2.St} {e : DE} {st : Sto} (E : EnvOk G s t σ e) (k : StOk G t st) {N : Ends} {Q : Bool → Hp → Prop} (hx : ∀ c l st1, f ⟨e, st⟩ = .exc c l st1 → SPost G W s t N (.exc c l ⟨e, st1⟩)) (hb : ∃ m b st1, f ⟨e, st⟩ = .val m (.bl b) st1 ∨ ∃ c l, f ⟨e, st⟩ = .exc c l st1)
    (hv : ∀ m b st1, f ⟨e, st⟩ = .val m (.bl b) st1 → ∀ t', Gro t t' → StOk G t' st1 → Q b t'.h) : tt σ t.h Q := by
  refine h s t σ e st E k _ ?_
  obtain ⟨m, b, st1, q | ⟨c, l, q⟩⟩ := hb
  · rw [q]; exact hv m b st1 q
  · rw [q]; exact fun t' x g k' o => hx c l st1 q t' σ x g.up (E.up g) k' o
theorem s_if {tc : TT} {t u : TS} {c : En → ER} {f g : En → SR} (hc : DTt G W tc c) (ht : DSt G W t f) (hu : DSt G W u g) : DSt G W (tIfS tc t u) (sIf c f g) := by
  intro s t0 σ e st E k N post
  unfold sIf at post
  refine tst_st (N := N) hc E k (fun c l st1 q => by rw [q] at post; exact post) ?_ fun m b st1 q t' g1 k' => ?_
  · cases q : c ⟨e, st⟩ with
    | val m d st1 =>
      rw [q] at post
      cases d <;> first | exact post.elim | exact ⟨m, _, st1, .inl rfl⟩
    | exc k l st1 => exact ⟨.P, true, st1, .inr ⟨k, l, rfl⟩⟩
    | bad => rw [q] at post; exact post.elim
  · rw [q] at post
    have post' : SPost G W s t0 N (if b = true then f ⟨e, st1⟩ else g ⟨e, st1⟩) := post
    cases b with
    | true => exact iteT (ht s t' σ e st1 (E.up g1) k' N (SPost.mono g1.up post'))
    | false => exact iteF (hu s t' σ e st1 (E.up g1) k' N (SPost.mono g1.up post'))
def frz (i : Nat) (e : DE) : DE := match e[i]? with
  | some (.own l) => e.set i (.val (.lst l))
  | _ => e
theorem EnvOk.frz {s t : Hs} {σ : L2.St} {e : DE} {st : Sto} (i : Nat) (E : EnvOk G s t σ e) (k : StOk G t st) : ∃ f, Same t.f f ∧ EnvOk G s ⟨t.as, f, t.h⟩ σ (frz i e) ∧ StOk G ⟨t.as, f, t.h⟩ st := by
  unfold Dn.frz
  split
  · rename_i l q
    obtain ⟨o, h1, p, vs, rfl, a, b, c, d, f⟩ := E.slot q
    have s1 : Same t.f (upd t.f p (.lst vs)) := same_new b
    refine ⟨upd t.f p (.lst vs), s1, ⟨E.gr.ice k c a b f, by simp [E.len], fun j o x y z => ?_, fun j m x l1 l2 hjk y z w u => ?_⟩, k.ice c b f⟩
    · by_cases zz : i = j
      · subst zz
        rw [List.getElem?_set_self (List.getElem?_eq_some_iff.mp q).1] at z
        rw [h1] at y; cases y; cases z
        exact ⟨_, rfl, .lst upd_same (d.up (Ext.refl _) s1)⟩
      · rw [List.getElem?_set_ne zz] at z
        have ok := E.at_ j o x y z
        cases x with
        | emp => trivial
        | exn => exact ok
        | clo ds =>
          obtain ⟨h1, h2, h3, h4⟩ := ok
          refine ⟨h1, h2, s1 _ _ h3, fun i d hd => ?_⟩
          obtain ⟨v, a, b⟩ := h4 i d hd
          exact ⟨v, a, b.up (Ext.refl _) s1⟩
        | val d => obtain ⟨v, a1, a2⟩ := ok; exact ⟨v, a1, a2.up (Ext.refl _) s1⟩
        | own m =>
          obtain ⟨p', vs', rfl, b1, b2, b3, b4, b5⟩ := ok
          have : p' ≠ p := fun zzz => by subst zzz; exact E.dis i j p' l m zz h1 q y z
          exact ⟨p', vs', rfl, b1, by show upd t.f p (.lst vs) p' = none; rw [upd_ne this]; exact b2, b3, b4.up (Ext.refl _) s1, b5⟩
    · have own_of : ∀ (j : Nat) (l1 : List D), (e.set i (.val (.lst l)))[j]? = some (.own l1) → e[j]? = some (.own l1) := fun j l1 z => by
        by_cases zz : i = j
        · subst zz
          rw [List.getElem?_set_self (List.getElem?_eq_some_iff.mp q).1] at z
          cases z
        · rw [List.getElem?_set_ne zz] at z; exact z
      exact E.dis j m x l1 l2 hjk y (own_of j l1 z) w (own_of m l2 u)
  · exact ⟨t.f, Same.refl _, E, k⟩
def sFrz (i : Nat) (g : En → SR) : En → SR := fun E => g ⟨frz i E.e, E.st⟩
theorem SPost.cond {s t : Hs} {N : Ends} (c : Prop) [Decidable c] (r : SR) (h : SPost G W s t N (if c then r else .bad)) : c ∧ SPost G W s t N r := by
  by_cases q : c
  · rw [if_pos q] at h; exact ⟨q, h⟩
  · rw [if_neg q] at h; exact h.elim
def sApp (i : Nat) (f : En → ER) : En → SR := fun E => match E.e[i]? with
  | some (.own l) => (match f E with
    | .val .B _ _ => .bad
    | .val _ d st => if l.length < 1000000 then .nx ⟨E.e.set i (.own (l ++ [d])), st⟩ else .bad
    | .exc c l st => .exc c l ⟨E.e, st⟩
    | .bad => .bad)
  | _ => .bad
theorem EnvOk.modS {s t : Hs} {σ : L2.St} {e : DE} {st : Sto} {n : Nat} {a : Addr} {o : HO} (E : EnvOk G s t σ e) (k : StOk G t st) (ha : t.as[n]? = some a) : EnvOk G s ⟨t.as, t.f, upd t.h a o⟩ σ e := by
  have m : a ∈ t.as := List.mem_iff_getElem?.mpr ⟨n, ha⟩
  refine ⟨E.gr.mod k ha, E.len, fun i x y p q => ?_, E.dis⟩
  have ok := E.at_ i x y p q
  cases y with
  | emp => trivial
  | exn => exact ok
  | clo ds => exact ok
  | val d => exact ok
  | own l =>
    obtain ⟨p', vs, rfl, a1, a2, a3, a4, a5⟩ := ok
    have : p' ≠ a := fun z => by subst z; exact a5 m
    exact ⟨p', vs, rfl, a1, a2, by show upd t.h a o p' = _; rw [upd_ne this]; exact a3, a4, a5⟩
def sSetO (x : Nat) (f fi : En → ER) : En → SR := fun E => match E.e[x]? with
  | some (.own l) => (match f E with
    | .val .B _ _ => .bad
    | .val _ d st => (match fi ⟨E.e, st⟩ with
      | .val _ (.int i) st1 => (match ixN l.length i with | some j => .nx ⟨E.e.set x (.own (l.set j d)), st1⟩ | none => .bad)
      | .exc c l st => .exc c l ⟨E.e, st⟩
      | _ => .bad)
    | .exc c l st => .exc c l ⟨E.e, st⟩
    | .bad => .bad)
  | _ => .bad
theorem s_setO {x : Nat} {te ti : TE} {f fi : En → ER} (h : DEv G W te f) (hi : DEv G W ti fi) : DSt G W (tAsg te (gSub (tVar x) ti rSetL)) (sSetO x f fi) := by
  intro s t σ e st E k N post
  unfold sSetO at post
  split at post
  · rename_i l hx
    have hx : e[x]? = some (.own l) := hx
    obtain ⟨o, hσ, p, vs, rfl, p0, pf, ph, pl, pa⟩ := E.slot hx
    refine ev_st (N := N) h E k (fun c l st1 q => by rw [q] at post; exact post) (fun q => by rw [q] at post; exact post) fun m d st1 q t1 v g1 k1 o1 => ?_
    rw [q] at post
    have fin : ∀ f2, Gro t ⟨t1.as, f2, t1.h⟩ → StOk G ⟨t1.as, f2, t1.h⟩ st1 → Is G t1.as f2 v d → SPost G W s t N (match fi ⟨e, st1⟩ with
      | .val _ (.int i) st1 => (match ixN l.length i with | some j => .nx ⟨e.set x (.own (l.set j d)), st1⟩ | none => .bad)
      | .exc c l st => .exc c l ⟨e, st⟩
      | _ => .bad) → gSub (tVar x) ti rSetL v σ t1.h N.nx := fun f2 g2 k2 i2 post => by
      refine ⟨_, hσ, ?_⟩
      refine ev_st (N := N) hi (E.up g2) k2 (fun c l st3 q3 => ?_) (fun q3 => ?_) fun mi di st3 q3 t3 w g3 k3 o3 => ?_
      · rw [q3] at post; exact SPost.mono g2.up post
      · rw [q3] at post; exact post
      · rw [q3] at post
        cases di <;> try exact post.elim
        rename_i i
        obtain rfl := o3.u.int
        have g23 := g2.trans g3
        cases hj : ixN l.length i with
        | none => simp only [hj] at post; exact post.elim
        | some j =>
          simp only [hj] at post
          have hp' : t3.h p = some (.lst vs) := g23.h _ _ ph pa
          have hf' : t3.f p = none := g23.n _ _ ph pf
          have ha' : p ∉ t3.as := fun m => (g23.w p m).elim pa fun z => by rw [ph] at z; cases z
          refine ⟨p, vs, i, j, rfl, rfl, hp', by rw [pl.len]; exact hj, ?_⟩
          have pl' := (pl.up g23.a g23.f).set (i2.up g3.a g3.f) j
          exact post ⟨t3.as, t3.f, upd t3.h p (.lst (vs.set j v))⟩ σ ⟨g23.a, g23.f⟩ ((E.up g23).chg hσ hx p0 hf' pl' ha') (k3.chg hf' ha')
    cases m with
    | P => exact fin t1.f g1 k1 o1 post
    | B => exact post.elim
    | N =>
      obtain ⟨f2, g2, k2, _, i2⟩ := o1.freeze g1 k1 (by decide)
      exact fin f2 g2 k2 i2 post
  · exact post.elim
def sSetP (fb f fi : En → ER) : En → SR := fun E => match f E with
  | .val .B _ _ => .bad
  | .val _ d st => (match fb ⟨E.e, st⟩ with
    | .val _ (.ptr n) st1 => (match fi ⟨E.e, st1⟩ with
      | .val _ (.int i) st2 => (match stLst st2 n with
        | some l => (match ixN l.length i with | some j => .nx ⟨E.e, st2.set n (.lst (l.set j d))⟩ | none => .bad)
        | none => .bad)
      | .exc c l st => .exc c l ⟨E.e, st⟩
      | _ => .bad)
    | .exc c l st => .exc c l ⟨E.e, st⟩
    | _ => .bad)
  | .exc c l st => .exc c l ⟨E.e, st⟩
  | .bad => .bad
theorem s_setP {tb te ti : TE} {fb f fi : En → ER} (hb : DEv G W tb fb) (h : DEv G W te f) (hi : DEv G W ti fi) : DSt G W (tAsg te (gSub tb ti rSetL)) (sSetP fb f fi) := by
  intro s t σ e st E k N post
  unfold sSetP at post
  refine ev_st (N := N) h E k (fun c l st1 q => by rw [q] at post; exact post) (fun q => by rw [q] at post; exact post) fun m d st1 q t1 v g1 k1 o1 => ?_
  rw [q] at post
  have fin : ∀ f2, Gro t ⟨t1.as, f2, t1.h⟩ → StOk G ⟨t1.as, f2, t1.h⟩ st1 → Is G t1.as f2 v d → SPost G W s t N (match fb ⟨e, st1⟩ with
    | .val _ (.ptr n) st1 => (match fi ⟨e, st1⟩ with
      | .val _ (.int i) st2 => (match stLst st2 n with
        | some l => (match ixN l.length i with | some j => .nx ⟨e, st2.set n (.lst (l.set j d))⟩ | none => .bad)
        | none => .bad)
      | .exc c l st => .exc c l ⟨e, st⟩
      | _ => .bad)
    | .exc c l st => .exc c l ⟨e, st⟩
    | _ => .bad) → gSub tb ti rSetL v σ t1.h N.nx := fun f2 g2 k2 i2 post => by
    refine ev_st (N := N) hb (E.up g2) k2 (fun c l st3 q3 => ?_) (fun q3 => ?_) fun mb db st3 q3 t3 b g3 k3 o3 => ?_
    · rw [q3] at post; exact SPost.mono g2.up post
    · rw [q3] at post; exact post
    · rw [q3] at post
      cases db <;> try exact post.elim
      rename_i n
      obtain ⟨p, rfl, hp⟩ := o3.u.ptr
      have g23 := g2.trans g3
      have post : SPost G W s t N (match fi ⟨e, st3⟩ with
        | .val _ (.int i) st2 => (match stLst st2 n with
          | some l => (match ixN l.length i with | some j => .nx ⟨e, st2.set n (.lst (l.set j d))⟩ | none => .bad)
          | none => .bad)
        | .exc c l st => .exc c l ⟨e, st⟩
        | _ => .bad) := post
      refine ev_st (N := N) hi (E.up g23) k3 (fun c l st4 q4 => ?_) (fun q4 => ?_) fun mi di st4 q4 t4 w g4 k4 o4 => ?_
      · rw [q4] at post; exact SPost.mono g23.up post
      · rw [q4] at post; exact post
      · rw [q4] at post
        cases di <;> try exact post.elim
        rename_i i
        obtain rfl := o4.u.int
        have g24 := g23.trans g4
        have hp4 := g4.a n p hp
        have post : SPost G W s t N (match stLst st4 n with
          | some l => (match ixN l.length i with | some j => .nx ⟨e, st4.set n (.lst (l.set j d))⟩ | none => .bad)
          | none => .bad) := post
        cases hl : stLst st4 n with
        | none => simp only [hl] at post; exact post.elim
        | some l =>
          simp only [hl] at post
          cases hj : ixN l.length i with
          | none => simp only [hj] at post; exact post.elim
          | some j =>
            simp only [hj] at post
            obtain ⟨vs, hh, il⟩ := k4.lst hp4 hl
            refine ⟨p, vs, i, j, rfl, rfl, hh, by rw [il.len]; exact hj, ?_⟩
            have il' := il.set (i2.up (g3.trans g4).a (g3.trans g4).f) j
            exact post ⟨t4.as, t4.f, upd t4.h p (.lst (vs.set j v))⟩ σ ⟨g24.a, g24.f⟩ ((E.up g24).modS k4 hp4) (k4.mod hp4 ⟨_, upd_same, il'⟩)
  cases m with
  | P => exact fin t1.f g1 k1 o1 post
  | B => exact post.elim
  | N =>
    obtain ⟨f2, g2, k2, _, i2⟩ := o1.freeze g1 k1 (by decide)
    exact fin f2 g2 k2 i2 post
def sSetI (x : Nat) (f fi : En → ER) : En → SR := fun E => match E.e[x]? with
  | some (.own _) => sSetO x f fi E
  | _ => sSetP (dVar x) f fi E
theorem s_setI {x : Nat} {te ti : TE} {f fi : En → ER} (h : DEv G W te f) (hi : DEv G W ti fi) : DSt G W (tAsg te (gSub (tVar x) ti rSetL)) (sSetI x f fi) := by
  intro s t σ e st E k N post
  unfold sSetI at post
  split at post
  · exact s_setO h hi s t σ e st E k N post
  · exact s_setP v_var h hi s t σ e st E k N post
end
end Dn
namespace Dn
open PySem PySem.Spec PyProof.Rows L2
def ItOk (G : Gm) (t1 : Hs) (J : It) (l : List D) : Prop := ∀ (i : Nat) (t : Hs) (st : Sto), Up t1 t → StOk G t st → (l.length ≤ i → J.stop i t.h) ∧
  ∀ d, l[i]? = some d → J.go i t.h ∧ ∀ x H', J.yld i t.h x H' → ∃ t', t'.h = H' ∧ Gro t t' ∧ StOk G t' st ∧ Is G t'.as t'.f x d
def IPost (G : Gm) (W : WX) (t : Hs) (σ : L2.St) (R : It → Hp → Prop) : AR → Prop
  | .ok _ l st => ∀ t' J, Gro t t' → StOk G t' st → ItOk G t' J l → R J t'.h
  | .exc c l st => ∀ t' x, Gro t t' → StOk G t' st → ExcOk G t' c l x → W (.ref (G.ca c)) x σ t'.h
  | .bad => False
def DIt (G : Gm) (W : WX) (wi : TI) (f : En → AR) : Prop := ∀ s t σ e st, EnvOk G s t σ e → StOk G t st → ∀ R : It → Hp → Prop, IPost G W t σ R (f ⟨e, st⟩) → wi σ t.h R
section
variable {G : Gm} {W : WX}
def iAny (K : PySem.W.Frag) (te : TE) : TI := fun σ H R => iList K te σ H R ∨ iTup K te σ H R ∨ iStr te σ H R
theorem pi_any {X : Cx} {tg e : Expr} {te : TE} (he : PE X e te) : PI X tg e (iAny X.K te) :=
  ⟨fun pins s σ H R I h => h.elim (fun z => (pi_list he).run pins s σ H R I z) fun z => z.elim (fun z => (pi_tup he).run pins s σ H R I z) (fun z => (pi_str he).run pins s σ H R I z)⟩
def itemsOf : D → Option (List D)
  | .lst l => some l
  | .tup l => some l
  | .scr l => some (l.map .int)
  | .str z => some (z.cps.toList.map fun c => .str ⟨#[c]⟩)
  | _ => none
def dIter (f : En → ER) : En → AR := fun E => match f E with
  | .val .B _ _ => .bad
  | .val _ d st => (match itemsOf d with | some l => .ok true l st | none => .bad)
  | .exc c l st => .exc c l st
  | .bad => .bad
theorem it_list {t1 : Hs} {a : Addr} {vs : List V} {l : List D} (h : ∀ t, Up t1 t → Same t.f t.h → SqL G.K t.h a vs ∧ IsL G t.as t.f vs l) : ItOk G t1 (Itl G.K a) l := by
  intro i t st u k
  obtain ⟨q, il⟩ := h t u k.sf
  refine ⟨fun hi => ⟨vs, q, by rw [il.len]; exact hi⟩, fun d hd => ?_⟩
  obtain ⟨v, h1, h2⟩ := il.get hd
  refine ⟨⟨vs, v, q, h1⟩, fun x H' y => ?_⟩
  obtain ⟨rfl, y⟩ := y
  have := y vs q
  rw [h1] at this; cases this
  exact ⟨t, rfl, Gro.refl k, k, h2⟩
theorem it_tup {t1 : Hs} {a : Addr} {vs : List V} {l : List D} (h : ∀ t, Up t1 t → Same t.f t.h → SqT G.K t.h a vs ∧ IsL G t.as t.f vs l) : ItOk G t1 (Itt G.K a) l := by
  intro i t st u k
  obtain ⟨q, il⟩ := h t u k.sf
  refine ⟨fun hi => ⟨vs, q, by rw [il.len]; exact hi⟩, fun d hd => ?_⟩
  obtain ⟨v, h1, h2⟩ := il.get hd
  refine ⟨⟨vs, v, q, h1⟩, fun x H' y => ?_⟩
  obtain ⟨rfl, y⟩ := y
  have := y vs q
  rw [h1] at this; cases this
  exact ⟨t, rfl, Gro.refl k, k, h2⟩
theorem it_str {t1 : Hs} (z : Str) : ItOk G t1 (Its z) (z.cps.toList.map fun c => .str ⟨#[c]⟩) := by
  intro i t st u k
  refine ⟨fun hi => by (show z.cps.size ≤ i); simpa using hi, fun d hd => ?_⟩
  rw [List.getElem?_map] at hd
  cases q : z.cps.toList[i]? with
  | none => rw [q] at hd; cases hd
  | some c =>
    rw [q] at hd
    cases hd
    have hi : i < z.cps.size := by
      have := (List.getElem?_eq_some_iff.mp q).1
      simpa using this
    refine ⟨hi, fun x H' y => ?_⟩
    obtain ⟨rfl, c', h1, rfl⟩ := y
    have : z.cps[i]? = some c := by rw [← Array.getElem?_toList]; exact q
    rw [this] at h1; cases h1
    exact ⟨t, rfl, Gro.refl k, k, .str _⟩
theorem i_any {te : TE} {f : En → ER} (h : DEv G W te f) : DIt G W (iAny G.K te) (dIter f) := by
  intro s t σ e st E k0 R post
  have hx : ∀ {Q : VK}, (∀ m d st1, f ⟨e, st⟩ = .val m d st1 → m ≠ .B → ∀ l, itemsOf d = some l → ∀ t' v, Gro t t' → StOk G t' st1 → Is G t'.as t'.f v d → Q v t'.h) → te σ t.h Q := fun {Q} k => by
    refine h s t σ e st E k0 _ ?_
    cases q : f ⟨e, st⟩ with
    | val m d st1 =>
      simp only [dIter, q] at post
      intro t' v g k' o
      have nb : m ≠ .B := fun z => by subst z; exact post.elim
      have : ∃ l, itemsOf d = some l := by
        cases m <;> first | exact absurd rfl nb | (cases q2 : itemsOf d <;> first | (simp only [q2] at post; exact post.elim) | exact ⟨_, rfl⟩)
      obtain ⟨l, hl⟩ := this
      obtain ⟨f2, g2, k2, _, i2⟩ := o.freeze g k' nb
      exact k m d st1 q nb l hl ⟨t'.as, f2, t'.h⟩ v g2 k2 i2
    | exc c l st1 => simp only [dIter, q] at post; exact post
    | bad => simp only [dIter, q] at post; exact post
  have hp : ∀ m d l st1, f ⟨e, st⟩ = .val m d st1 → m ≠ .B → itemsOf d = some l → ∀ t' J, Gro t t' → StOk G t' st1 → ItOk G t' J l → R J t'.h := fun m d l st1 q nb hl => by
    simp only [dIter, q] at post
    cases m <;> first | exact absurd rfl nb | (simp only [hl] at post; exact post)
  cases q : f ⟨e, st⟩ with
  | val m d st1 =>
    cases d with
    | tup l0 =>
      refine .inr (.inl (hx fun m' d' st' q' nb l hl t' v g k' i2 => ?_))
      rw [q] at q'; cases q'; cases hl
      cases i2 with
      | tup a b => exact ⟨_, rfl, ⟨_, same_t k'.sf a⟩, hp m (.tup l0) l0 st1 q nb rfl t' _ g k' (it_tup fun t2 u s2 => ⟨same_t (u.f.trans s2) a, b.up u.a u.f⟩)⟩
    | str z =>
      refine .inr (.inr (hx fun m' d' st' q' nb l hl t' v g k' i2 => ?_))
      rw [q] at q'; cases q'; cases hl
      cases i2 with
      | str => exact ⟨z, rfl, hp m (.str z) _ st1 q nb rfl t' _ g k' (it_str z)⟩
    | lst l0 =>
      refine .inl (hx fun m' d' st' q' nb l hl t' v g k' i2 => ?_)
      rw [q] at q'; cases q'; cases hl
      cases i2 with
      | lst a b => exact ⟨_, rfl, ⟨_, SqL.of (k'.sf _ _ a)⟩, hp m (.lst l0) l0 st1 q nb rfl t' _ g k' (it_list fun t2 u s2 => ⟨SqL.of (s2 _ _ (u.f _ _ a)), b.up u.a u.f⟩)⟩
    | scr l0 =>
      refine .inl (hx fun m' d' st' q' nb l hl t' v g k' i2 => ?_)
      rw [q] at q'; cases q'; cases hl
      cases i2 with
      | scr a => exact ⟨_, rfl, ⟨_, k'.sf.seq a⟩, hp m (.scr l0) _ st1 q nb rfl t' _ g k' (it_list fun t2 u s2 => ⟨(u.f.trans s2).seq a, IsL.ints _⟩)⟩
    | _ => refine .inl (hx fun m' d' st' q' nb l hl t' v g k' i2 => ?_); rw [q] at q'; cases q'; cases hl
  | exc c l st1 => refine .inl (hx fun m' d' st' q' => ?_); rw [q] at q'; cases q'
  | bad => refine .inl (hx fun m' d' st' q' => ?_); rw [q] at q'; cases q'
def rangeD (lo : Int) (n : Nat) : List D := (List.range n).map fun (k : Nat) => .int (lo + (k : Int))
theorem rangeD_get {lo : Int} {n i : Nat} {d : D} (h : (rangeD lo n)[i]? = some d) : i < n ∧ d = .int (lo + (i : Int)) := by
  unfold rangeD at h
  rw [List.getElem?_map] at h
  by_cases hi : i < n
  · rw [List.getElem?_range hi] at h; cases h; exact ⟨hi, rfl⟩
  · rw [List.getElem?_eq_none (by simpa using hi)] at h; cases h
theorem it_range {t1 : Hs} (lo : Int) (n : Nat) : ItOk G t1 (Itr lo n) (rangeD lo n) := by
  intro i t st u k
  refine ⟨fun hi => by (show n ≤ i); simpa [rangeD] using hi, fun d hd => ?_⟩
  obtain ⟨hi, rfl⟩ := rangeD_get hd
  refine ⟨hi, fun x H' y => ?_⟩
  obtain ⟨rfl, rfl⟩ := y
  exact ⟨t, rfl, Gro.refl k, k, .int _⟩
def rng1 : List D → Option (Int × Nat)
  | [.int j] => if -(2 ^ 62) ≤ j ∧ j < 2 ^ 62 then some (0, j.toNat) else none
  | _ => none
def rng2 : List D → Option (Int × Nat)
  | [.int i, .int j] => if -(2 ^ 62) ≤ i ∧ i < 2 ^ 62 ∧ -(2 ^ 62) ≤ j ∧ j < 2 ^ 62 then some (i, (j - i).toNat) else none
  | _ => none
def dRng (r : List D → Option (Int × Nat)) (f : En → AR) : En → AR := fun E => match f E with
  | .ok _ l st => (match r l with | some r => .ok true (rangeD r.1 r.2) st | none => .bad)
  | .exc c l st => .exc c l st
  | _ => .bad
theorem i_rng {ta : TA} {f : En → AR} {ro : List D → Option (Int × Nat)} {r : List V → Hp → (It → Hp → Prop) → Prop} (h : DAr G W ta f) (hr : ∀ t vs l p R, UL G t vs l → ro l = some p → R (Itr p.1 p.2) t.h → r vs t.h R) : DIt G W (fun σ H R => ta σ H fun vs H1 => r vs H1 R) (dRng ro f) := by
  intro s t σ e st E k R post
  refine h s t σ e st E k _ ?_
  unfold dRng at post
  cases q : f ⟨e, st⟩ with
  | ok p l st1 =>
    rw [q] at post
    intro t1 vs g1 k1 _ u1
    cases hl : ro l with
    | none => simp only [hl] at post; exact post.elim
    | some p =>
      simp only [hl] at post
      exact hr t1 vs l p R u1 hl (post t1 _ g1 k1 (it_range _ _))
  | exc c l st1 => rw [q] at post; exact post
  | bad => rw [q] at post; exact post
theorem i_range1 {ta : TA} {f : En → AR} (h : DAr G W ta f) : DIt G W (iRng1 ta) (dRng rng1 f) :=
  i_rng (r := fun vs H1 R => ∃ j : Int, vs = [.int j] ∧ -(2 ^ 62) ≤ j ∧ j < 2 ^ 62 ∧ R (Itr 0 j.toNat) H1) h fun t vs l p R u hl hR => by
    unfold rng1 at hl
    split at hl
    · rename_i j
      split at hl
      · rename_i c
        cases hl
        obtain ⟨v, rfl, hv⟩ := u.one
        obtain rfl := hv.int
        exact ⟨j, rfl, c.1, c.2, hR⟩
      · cases hl
    · cases hl
theorem i_range2 {ta : TA} {f : En → AR} (h : DAr G W ta f) : DIt G W (iRng2 ta) (dRng rng2 f) :=
  i_rng (r := fun vs H1 R => ∃ i j : Int, vs = [.int i, .int j] ∧ (-(2 ^ 62) ≤ i ∧ i < 2 ^ 62 ∧ -(2 ^ 62) ≤ j ∧ j < 2 ^ 62) ∧ R (Itr i (j - i).toNat) H1) h fun t vs l p R u hl hR => by
    unfold rng2 at hl
    split at hl
    · rename_i i j
      split at hl
      · rename_i c
        cases hl
        obtain ⟨v, w, rfl, hv, hw⟩ := u.two
        obtain rfl := hv.int
        obtain rfl := hw.int
        exact ⟨i, j, rfl, c, hR⟩
      · cases hl
    · cases hl
def enumD : Nat → List D → List D
  | _, [] => []
  | k, d :: l => .tup [.int (k : Int), d] :: enumD (k + 1) l
theorem enumD_get : ∀ {l : List D} {k i : Nat} {d : D}, (enumD k l)[i]? = some d → ∃ x, l[i]? = some x ∧ d = .tup [.int ((k + i : Nat) : Int), x]
  | [], _, _, _, h => by simp [enumD] at h
  | x :: l, k, 0, d, h => by simp [enumD] at h; subst h; exact ⟨x, rfl, rfl⟩
  | x :: l, k, i + 1, d, h => by
    obtain ⟨y, h1, h2⟩ := enumD_get (l := l) (k := k + 1) (i := i) (d := d) (by simpa [enumD] using h)
    refine ⟨y, by simpa using h1, ?_⟩
    rw [h2]
    have : k + 1 + i = k + (i + 1) := by omega
    rw [this]
theorem enumD_len : ∀ (l : List D) (k : Nat), (enumD k l).length = l.length
  | [], _ => rfl
  | x :: l, k => by simp [enumD, enumD_len l]
theorem it_enum {t1 : Hs} {a : Addr} {vs : List V} {l : List D} (h : ∀ t, Up t1 t → Same t.f t.h → SqL G.K t.h a vs ∧ IsL G t.as t.f vs l) : ItOk G t1 (Ite G.K a) (enumD 0 l) := by
  intro i t st u k
  obtain ⟨q, il⟩ := h t u k.sf
  refine ⟨fun hi => ⟨vs, q, by rw [il.len]; rw [enumD_len] at hi; exact hi⟩, fun d hd => ?_⟩
  obtain ⟨x, h1, rfl⟩ := enumD_get hd
  obtain ⟨v, h2, h3⟩ := il.get h1
  refine ⟨⟨vs, v, q, h2⟩, fun y H' z => ?_⟩
  obtain ⟨T, v', rfl, hT, rfl, z⟩ := z
  have := z vs q
  rw [h2] at this; cases this
  refine ⟨⟨t.as, upd t.f T _, upd t.h T _⟩, rfl, Gro.new k hT, k.grow hT, .tup (SqT.of upd_same) (.cons ?_ (.cons (h3.up (Ext.refl _) (same_new (k.sf.free hT))) .nil))⟩
  rw [Nat.zero_add]
  exact .int _
def dEnum (f : En → AR) : En → AR := fun E => match f E with
  | .ok true [.lst l] st => .ok true (enumD 0 l) st
  | .exc c l st => .exc c l st
  | _ => .bad
theorem i_enum {ta : TA} {f : En → AR} (h : DAr G W ta f) : DIt G W (iEnum G.K ta) (dEnum f) := by
  intro s t σ e st E k R post
  refine h s t σ e st E k _ ?_
  unfold dEnum at post
  cases q : f ⟨e, st⟩ with
  | ok p l st1 =>
    rw [q] at post
    cases p with
    | false => exact post.elim
    | true =>
      match l, post with
      | [], post => exact post.elim
      | [d], post =>
        cases d <;> first | exact post.elim | skip
        intro t' vs g k' i0 _
        have i := i0 rfl
        clear i0
        cases i with
        | cons i j =>
          cases j
          cases i with
          | lst a b => exact ⟨_, _, rfl, SqL.of (k'.sf _ _ a), post t' _ g k' (it_enum fun t2 u s2 => ⟨SqL.of (s2 _ _ (u.f _ _ a)), b.up u.a u.f⟩)⟩
      | a :: b :: l, post => cases a <;> exact post.elim
  | exc c l st1 => rw [q] at post; exact post
  | bad => rw [q] at post; exact post
def zipD : List D → List D → List D
  | a :: l, b :: m => .tup [a, b] :: zipD l m
  | _, _ => []
theorem zipD_get : ∀ {l m : List D} {i : Nat} {d : D}, (zipD l m)[i]? = some d → ∃ x y, l[i]? = some x ∧ m[i]? = some y ∧ d = .tup [x, y]
  | [], _, _, _, h => by simp [zipD] at h
  | _ :: _, [], _, _, h => by simp [zipD] at h
  | a :: l, b :: m, 0, d, h => by simp [zipD] at h; subst h; exact ⟨a, b, rfl, rfl, rfl⟩
  | a :: l, b :: m, i + 1, d, h => by
    obtain ⟨x, y, h1, h2, h3⟩ := zipD_get (l := l) (m := m) (i := i) (d := d) (by simpa [zipD] using h)
    exact ⟨x, y, by simpa using h1, by simpa using h2, h3⟩
theorem zipD_len : ∀ (l m : List D), (zipD l m).length = min l.length m.length
  | [], _ => by simp [zipD]
  | _ :: _, [] => by simp [zipD]
  | a :: l, b :: m => by simp [zipD, zipD_len l m]
theorem it_zip {t1 : Hs} {a b : Addr} {vs ws : List V} {l m : List D} (h : ∀ t, Up t1 t → Same t.f t.h → SqL G.K t.h a vs ∧ IsL G t.as t.f vs l) (h' : ∀ t, Up t1 t → Same t.f t.h → SqL G.K t.h b ws ∧ IsL G t.as t.f ws m) : ItOk G t1 (Itz G.K a b) (zipD l m) := by
  intro i t st u k
  obtain ⟨q, il⟩ := h t u k.sf
  obtain ⟨q', im⟩ := h' t u k.sf
  refine ⟨fun hi => ⟨vs, ws, q, q', by rw [il.len, im.len]; rw [zipD_len] at hi; omega⟩, fun d hd => ?_⟩
  obtain ⟨x, y, h1, h2, rfl⟩ := zipD_get hd
  obtain ⟨v, h3, h4⟩ := il.get h1
  obtain ⟨w, h5, h6⟩ := im.get h2
  refine ⟨⟨vs, ws, v, w, q, q', h3, h5⟩, fun y H' z => ?_⟩
  obtain ⟨T, v', w', rfl, hT, rfl, z, z'⟩ := z
  have := z vs q
  rw [h3] at this; cases this
  have := z' ws q'
  rw [h5] at this; cases this
  have sn := same_new (o := .tup [v, w]) (k.sf.free hT)
  exact ⟨⟨t.as, upd t.f T _, upd t.h T _⟩, rfl, Gro.new k hT, k.grow hT, .tup (SqT.of upd_same) (.cons (h4.up (Ext.refl _) sn) (.cons (h6.up (Ext.refl _) sn) .nil))⟩
def dZip (f : En → AR) : En → AR := fun E => match f E with
  | .ok true [.lst l, .lst m] st => .ok true (zipD l m) st
  | .exc c l st => .exc c l st
  | _ => .bad
theorem i_zip {ta : TA} {f : En → AR} (h : DAr G W ta f) : DIt G W (iZip G.K ta) (dZip f) := by
  intro s t σ e st E k R post
  refine h s t σ e st E k _ ?_
  unfold dZip at post
  cases q : f ⟨e, st⟩ with
  | ok p l st1 =>
    rw [q] at post
    cases p with
    | false => exact post.elim
    | true =>
      match l, post with
      | [], post => exact post.elim
      | [d], post => cases d <;> exact post.elim
      | [d, d'], post =>
        cases d <;> first | exact post.elim | skip
        cases d' <;> first | exact post.elim | skip
        intro t' vs g k' i0 _
        have i := i0 rfl
        clear i0
        cases i with
        | cons i j =>
          cases j with
          | cons j k =>
            cases k
            cases i with
            | lst a b =>
              cases j with
              | lst a' b' => exact ⟨_, _, _, _, rfl, SqL.of (k'.sf _ _ a), SqL.of (k'.sf _ _ a'), post t' _ g k' (it_zip (fun t2 u s2 => ⟨SqL.of (s2 _ _ (u.f _ _ a)), b.up u.a u.f⟩) (fun t2 u s2 => ⟨SqL.of (s2 _ _ (u.f _ _ a')), b'.up u.a u.f⟩))⟩
      | a :: b :: c :: l, post => cases a <;> first | exact post.elim | (cases b <;> exact post.elim)
  | exc c l st1 => rw [q] at post; exact post
  | bad => rw [q] at post; exact post
def forD (b : D → En → SR) : List D → En → SR
  | [], e => .nx e
  | x :: xs, e => match b x e with
    | .nx e' => forD b xs e'
    | .ct e' => forD b xs e'
    | .bk e' => .nx e'
    | r => r
def tgB (t : D → DE → Option DE) (b : En → SR) : D → En → SR := fun d E => match t d E.e with
  | some e' => b ⟨e', E.st⟩
  | none => .bad
def sFor (src : En → AR) (t : D → DE → Option DE) (b : En → SR) : En → SR := fun E => match src E with
  | .ok _ l st => forD (tgB t b) l ⟨E.e, st⟩
  | .exc c l st => .exc c l ⟨E.e, st⟩
  | .bad => .bad
theorem s_for {wi : TI} {g : TG} {tb : TS} {src : En → AR} {js : List Nat} {t : D → DE → Option DE} {b : En → SR} (hi : DIt G W wi src) (hg : DTg G g js t) (hb : DSt G W tb b) : DSt G W (tFor wi g tb) (sFor src t b) := by
  intro s t0 σ e st E k0 N post
  refine hi s t0 σ e st E k0 _ ?_
  unfold sFor at post
  cases q : src ⟨e, st⟩ with
  | ok p l st1 =>
    rw [q] at post
    have post : SPost G W s t0 N (forD (tgB t b) l ⟨e, st1⟩) := post
    intro t1 J g1 k1 it
    refine ⟨fun i m σ H => m = l.length - i ∧ i ≤ l.length ∧ ∃ t2 E2, t2.h = H ∧ Up t1 t2 ∧ EnvOk G s t2 σ E2.e ∧ StOk G t2 E2.st ∧ SPost G W s t2 N (forD (tgB t b) (l.drop i) E2),
      ⟨l.length, by simp, Nat.zero_le _, t1, ⟨e, st1⟩, rfl, Up.refl _, E.up g1, k1, SPost.mono g1.up post⟩, ?_⟩
    rintro i m σ2 H2 ⟨rfl, hi, t2, F2, rfl, s2, E2, k2, p2⟩
    obtain ⟨i1, i2⟩ := it i t2 F2.st s2 k2
    by_cases hlt : i < l.length
    · right
      have hd : l[i]? = some l[i] := List.getElem?_eq_getElem hlt
      obtain ⟨go, y⟩ := i2 _ hd
      rw [List.drop_eq_getElem_cons hlt] at p2
      refine ⟨go, fun σ' H' => i + 1 ≤ l.length ∧ ∃ t2 E2, t2.h = H' ∧ Up t1 t2 ∧ EnvOk G s t2 σ' E2.e ∧ StOk G t2 E2.st ∧ SPost G W s t2 N (forD (tgB t b) (l.drop (i + 1)) E2), fun σ' H' h => ⟨l.length - (i + 1), by omega, rfl, h⟩, fun x H' hy => ?_⟩
      obtain ⟨t3, rfl, g3, k3, i3⟩ := y x H' hy
      cases q3 : t l[i] F2.e with
      | none =>
        have : forD (tgB t b) (l[i] :: l.drop (i + 1)) F2 = .bad := by
          unfold forD tgB; rw [q3]
        rw [this] at p2
        exact p2.elim
      | some e3 =>
        have tgb : tgB t b l[i] F2 = b ⟨e3, F2.st⟩ := by unfold tgB; rw [q3]
        refine hg s t3 σ2 F2.e F2.st x l[i] (E2.up g3) k3 i3 _ e3 q3 fun σ4 E4 _ _ => ?_
        refine hb s t3 σ4 e3 F2.st E4 k3 _ ?_
        have p4 := SPost.mono g3.up p2
        unfold forD at p4
        rw [tgb] at p4
        have s3 := s2.trans g3.up
        cases q5 : b ⟨e3, F2.st⟩ with
        | nx e5 => rw [q5] at p4; exact fun t6 σ6 s6 E6 k6 => ⟨hlt, t6, e5, rfl, s3.trans s6, E6, k6, SPost.mono s6 p4⟩
        | ct e5 => rw [q5] at p4; exact fun t6 σ6 s6 E6 k6 => ⟨hlt, t6, e5, rfl, s3.trans s6, E6, k6, SPost.mono s6 p4⟩
        | bk e5 => rw [q5] at p4; exact p4
        | rt m d st => rw [q5] at p4; exact p4
        | exc c l e => rw [q5] at p4; exact p4
        | bad => rw [q5] at p4; exact p4
    · left
      have : i = l.length := by omega
      subst this
      refine ⟨i1 (Nat.le_refl _), ?_⟩
      rw [List.drop_length] at p2
      exact p2 t2 σ2 (Up.refl _) E2 k2
  | exc c l st1 => rw [q] at post; exact fun t' x g k' o => post t' σ x g.up (E.up g) k' o
  | bad => rw [q] at post; exact post
def whN (c : En → ER) (b : En → SR) : Nat → En → Option SR
  | 0, _ => none
  | n + 1, E => match c E with
    | .val _ (.bl true) st => (match b ⟨E.e, st⟩ with
      | .nx e' => whN c b n e'
      | .ct e' => whN c b n e'
      | .bk e' => some (.nx e')
      | r => some r)
    | .val _ (.bl false) st => some (.nx ⟨E.e, st⟩)
    | .exc k l st => some (.exc k l ⟨E.e, st⟩)
    | _ => some .bad
theorem whN_mono {c : En → ER} {b : En → SR} : ∀ {n m : Nat} {e : En} {r : SR}, whN c b n e = some r → n ≤ m → whN c b m e = some r
  | 0, _, _, _, h, _ => by cases h
  | n + 1, 0, _, _, _, hm => by omega
  | n + 1, m + 1, e, r, h, hm => by
    unfold whN at h ⊢
    split at h
    · split at h
      · rename_i q; exact whN_mono h (by omega)
      · rename_i q; exact whN_mono h (by omega)
      · exact h
      · exact h
    · exact h
    · exact h
    · exact h
open Classical in
noncomputable def sWhile (c : En → ER) (b : En → SR) : En → SR := fun e => if h : ∃ n r, whN c b n e = some r then Classical.choose (Classical.choose_spec h) else .bad
theorem sWhile_eq {c : En → ER} {b : En → SR} {n : Nat} {e : En} {r : SR} (h : whN c b n e = some r) : sWhile c b e = r := by
  have hx : ∃ n r, whN c b n e = some r := ⟨n, r, h⟩
  unfold sWhile
  rw [dif_pos hx]
  have h2 := Classical.choose_spec (Classical.choose_spec hx)
  have h3 := whN_mono h (Nat.le_max_left n (Classical.choose hx))
  have h4 := whN_mono h2 (Nat.le_max_right n (Classical.choose hx))
  rw [h3] at h4
  exact (Option.some.inj h4).symm
theorem s_while {tc : TT} {tb : TS} {c : En → ER} {b : En → SR} (hc : DTt G W tc c) (hb : DSt G W tb b) : DSt G W (tWhile tc tb) (sWhile c b) := by
  intro s t σ e st E k N post
  unfold sWhile at post
  split at post
  · rename_i hx
    have h2 := Classical.choose_spec (Classical.choose_spec hx)
    generalize Classical.choose (Classical.choose_spec hx) = r at post h2
    generalize Classical.choose hx = n at h2
    refine ⟨fun m σ H => ∃ t2 F2, t2.h = H ∧ Up t t2 ∧ EnvOk G s t2 σ F2.e ∧ StOk G t2 F2.st ∧ whN c b m F2 = some r, ⟨n, t, ⟨e, st⟩, rfl, Up.refl _, E, k, h2⟩, ?_⟩
    rintro m σ2 H2 ⟨t2, F2, rfl, s2, E2, k2, w2⟩
    cases m with
    | zero => cases w2
    | succ m =>
      unfold whN at w2
      refine tst_st (N := N) hc E2 k2 (fun k l st1 q => ?_) ?_ fun k bb st1 q t3 g3 k3 => ?_
      · have q : c F2 = .exc k l st1 := q
        rw [q] at w2
        cases w2
        exact SPost.mono s2 post
      · show ∃ m b st1, c F2 = .val m (.bl b) st1 ∨ ∃ k l, c F2 = .exc k l st1
        cases q : c F2 with
        | val k d st1 =>
          rw [q] at w2
          cases d with
          | bl x => exact ⟨k, x, st1, .inl rfl⟩
          | _ => cases w2; exact post.elim
        | exc k l st1 => exact ⟨.P, true, st1, .inr ⟨k, l, rfl⟩⟩
        | bad => rw [q] at w2; cases w2; exact post.elim
      · have q : c F2 = .val k (.bl bb) st1 := q
        rw [q] at w2
        cases bb with
        | false =>
          cases w2
          exact iteF (post t3 σ2 (s2.trans g3.up) (E2.up g3) k3)
        | true =>
          refine iteT ⟨fun σ H => ∃ t4 F4, t4.h = H ∧ Up t t4 ∧ EnvOk G s t4 σ F4.e ∧ StOk G t4 F4.st ∧ whN c b m F4 = some r, fun σ' H' h => ⟨m, Nat.lt_succ_self _, h⟩, ?_⟩
          refine hb s t3 σ2 F2.e st1 (E2.up g3) k3 _ ?_
          have s3 := s2.trans g3.up
          have w3 : (match b ⟨F2.e, st1⟩ with | .nx e' => whN c b m e' | .ct e' => whN c b m e' | .bk e' => some (.nx e') | r => some r) = some r := w2
          cases q5 : b ⟨F2.e, st1⟩ with
          | nx e5 => rw [q5] at w3; exact fun t6 σ6 s6 E6 k6 => ⟨t6, e5, rfl, s3.trans s6, E6, k6, w3⟩
          | ct e5 => rw [q5] at w3; exact fun t6 σ6 s6 E6 k6 => ⟨t6, e5, rfl, s3.trans s6, E6, k6, w3⟩
          | bk e5 => rw [q5] at w3; cases w3; exact SPost.mono s3 post
          | rt k d st => rw [q5] at w3; cases w3; exact SPost.mono s3 post
          | exc k l e => rw [q5] at w3; cases w3; exact SPost.mono s3 post
          | bad => rw [q5] at w3; cases w3; exact post.elim
  · exact post.elim
end
end Dn
namespace Dn
open PySem PySem.Spec PyProof.Rows L2
section
variable {G : Gm} {W : WX}
abbrev W0 : WX := fun _ _ _ _ => False
def wipeE (e : DE) : List Nat → DE
  | [] => e
  | v :: vs => (wipeE e vs).set v .emp
theorem EnvOk.wipe {s t : Hs} {σ : L2.St} {e : DE} (E : EnvOk G s t σ e) : ∀ vs : List Nat, EnvOk G s t (L2.wipe σ vs) (wipeE e vs)
  | [] => E
  | v :: vs => (E.wipe vs).set (x := .emp) trivial (fun l z => nomatch z)
theorem wipe_agree {σ τ : L2.St} {vs js : List Nat} (hl : τ.length = σ.length) (hj : ∀ j ∈ js, j ∈ vs) (h : ∀ i, i ∉ js → τ[i]? = (L2.wipe σ vs)[i]?) (hl2 : τ.length = (L2.wipe σ vs).length) : L2.wipe τ vs = L2.wipe σ vs := by
  have key : ∀ (σ : L2.St) (us : List Nat) (i : Nat), i ∈ us → i < σ.length → (L2.wipe σ us)[i]? = some none := by
    intro σ us
    induction us with
    | nil => intro i h; cases h
    | cons v us ih =>
      intro i h hi
      unfold L2.wipe
      by_cases z : v = i
      · subst z
        rw [List.getElem?_set_self (by rw [L2.wipe_length]; exact hi)]
      · rw [List.getElem?_set_ne z]
        rcases List.mem_cons.mp h with rfl | h
        · exact absurd rfl z
        · exact ih i h hi
  apply List.ext_getElem?
  intro i
  by_cases hi : i ∈ vs
  · by_cases hlt : i < σ.length
    · rw [key τ vs i hi (by omega), key σ vs i hi hlt]
    · rw [List.getElem?_eq_none (by rw [L2.wipe_length]; omega), List.getElem?_eq_none (by rw [L2.wipe_length]; omega)]
  · rw [L2.wipe_out hi, h i (fun z => hi (hj i z))]
def lcStep (t : D → DE → Option DE) (c f : En → ER) (e : DE) (d : D) (st : Sto) : Option (Option D × Sto) := match t d e with
  | none => none
  | some e2 => (match c ⟨e2, st⟩ with
    | .val _ (.bl b) st1 => if b = true then (match f ⟨e2, st1⟩ with | .val .P y st2 => some (some y, st2) | .val .N y st2 => some (some y, st2) | _ => none) else some (none, st1)
    | _ => none)
def lcGo (k : D → Sto → Option (Option D × Sto)) : List D → Sto → Option (List D × Sto)
  | [], st => some ([], st)
  | d :: l, st => (k d st).bind fun o => (lcGo k l o.2).bind fun r => some (o.1.toList ++ r.1, r.2)
def dLc (src : En → AR) (t : D → DE → Option DE) (c f : En → ER) (vs : List Nat) : En → ER := fun E => match src E with
  | .ok _ l st => if l.length ≤ 1000000 then ofOpt (lcGo (lcStep t c f (wipeE E.e vs)) l st) fun r => .val .N (.lst r.1) r.2 else .bad
  | .exc k l st => .exc k l st
  | .bad => .bad
theorem t_yes : DTt G W tYes (fun E => .val .P (.bl true) E.st) := fun s t σ e st E k Q post => post t (Gro.refl k) k
theorem v_lc {wi : TI} {g : TG} {tt : TT} {te : TE} {vs js : List Nat} {src : En → AR} {t : D → DE → Option DE} {c f : En → ER} (hi : DIt G W wi src) (hg : DTg G g js t) (hj : ∀ j ∈ js, j ∈ vs) (ht : DTt G W0 tt c) (he : DEv G W0 te f) : DEv G W (tLc wi g tt te vs) (dLc src t c f vs) := by
  intro s t0 σ e st E k0 Q post
  refine hi s t0 σ e st E k0 _ ?_
  unfold dLc at post
  cases q : src ⟨e, st⟩ with
  | ok p l st1 =>
    rw [q] at post
    obtain ⟨hlen, post⟩ := RPost.cond _ _ post
    obtain ⟨out, hout, post⟩ := RPost.opt _ _ post
    intro t1 J g1 k1 it Dl hD
    have hDH : t0.h Dl = none := by
      cases q : t0.h Dl with
      | none => rfl
      | some o =>
        by_cases i : Dl ∈ t0.as
        · exact absurd (g1.a.mem i) (k1.new hD)
        · rw [g1.h Dl o q i] at hD; cases hD
    have hD0 : s.h Dl = none := by
      cases q : s.h Dl with
      | none => rfl
      | some o =>
        by_cases i : Dl ∈ s.as
        · exact absurd (E.gr.a.mem i) (k0.new hDH)
        · rw [E.gr.h Dl o q i] at hDH; cases hDH
    have hDf : t1.f Dl = none := k1.sf.free hD
    have hDa : Dl ∉ t1.as := k1.new hD
    have Ew := (E.up g1).wipe vs
    have hne : ∀ (j : Nat) (m : List D), (L2.wipe σ vs)[j]? = some (some (.ref Dl)) → (wipeE e vs)[j]? = some (.own m) → False := fun j m a b => by
      obtain ⟨o, h1, p', vs', h2, _, _, h3, _⟩ := Ew.slot b
      rw [a] at h1; cases h1
      cases h2
      rw [hD] at h3; cases h3
    have gd := g1.chg (o := .lst []) hDH hDf
    refine ⟨fun i m H' => m = l.length - i ∧ i ≤ l.length ∧ ∃ t2 st2 acc vacc rest, t2.h = H' ∧ Up t1 t2 ∧ Gro t0 t2 ∧ StOk G t2 st2 ∧ EnvOk G s t2 (L2.wipe σ vs) (wipeE e vs) ∧ t2.h Dl = some (.lst vacc) ∧ IsL G t2.as t2.f vacc acc ∧ t2.f Dl = none ∧ Dl ∉ t2.as ∧ acc.length ≤ i ∧
      lcGo (lcStep t c f (wipeE e vs)) (l.drop i) st2 = some (rest, out.2) ∧ acc ++ rest = out.1, ⟨l.length, by simp, Nat.zero_le _, ⟨t1.as, t1.f, upd t1.h Dl (.lst [])⟩, st1, [], [], out.1, rfl, ⟨Ext.refl _, Same.refl _⟩, gd, k1.chg hDf hDa, Ew.other hD0 hDf hne, upd_same, .nil, hDf, hDa, Nat.zero_le _, hout, rfl⟩, ?_⟩
    rintro i m H2 ⟨rfl, hi, t2, st2, acc, vacc, rest, rfl, s2, g2, k2, E2, d2, a2, n2, na2, l2, r2, o2⟩
    obtain ⟨i1, i2⟩ := it i t2 st2 s2 k2
    by_cases hlt : i < l.length
    · right
      have hd : l[i]? = some l[i] := List.getElem?_eq_getElem hlt
      obtain ⟨go, y⟩ := i2 _ hd
      rw [List.drop_eq_getElem_cons hlt] at r2
      refine ⟨go, fun H' => i + 1 ≤ l.length ∧ ∃ t2 st2 acc vacc rest, t2.h = H' ∧ Up t1 t2 ∧ Gro t0 t2 ∧ StOk G t2 st2 ∧ EnvOk G s t2 (L2.wipe σ vs) (wipeE e vs) ∧ t2.h Dl = some (.lst vacc) ∧ IsL G t2.as t2.f vacc acc ∧ t2.f Dl = none ∧ Dl ∉ t2.as ∧ acc.length ≤ i + 1 ∧
        lcGo (lcStep t c f (wipeE e vs)) (l.drop (i + 1)) st2 = some (rest, out.2) ∧ acc ++ rest = out.1, fun H' h => ⟨l.length - (i + 1), by omega, rfl, h⟩, fun x H' hy => ?_⟩
      obtain ⟨t3, rfl, g3, k3, i3⟩ := y x H' hy
      unfold lcGo at r2
      cases sk : lcStep t c f (wipeE e vs) l[i] st2 with
      | none => rw [sk] at r2; cases r2
      | some o =>
        rw [sk] at r2
        have r2 : ((lcGo (lcStep t c f (wipeE e vs)) (l.drop (i + 1)) o.2).bind fun r => some (o.1.toList ++ r.1, r.2)) = some (rest, out.2) := r2
        cases lg : lcGo (lcStep t c f (wipeE e vs)) (l.drop (i + 1)) o.2 with
        | none => rw [lg] at r2; cases r2
        | some rest' =>
          rw [lg] at r2
          have r3 : (o.1.toList ++ rest'.1, rest'.2) = (rest, out.2) := Option.some.inj r2
          have r4 : o.1.toList ++ rest'.1 = rest := (Prod.mk.inj r3).1
          have r5 : rest'.2 = out.2 := (Prod.mk.inj r3).2
          have lg' : lcGo (lcStep t c f (wipeE e vs)) (l.drop (i + 1)) o.2 = some (rest'.1, out.2) := by rw [lg, ← r5]
          unfold lcStep at sk
          cases q3 : t l[i] (wipeE e vs) with
          | none => rw [q3] at sk; cases sk
          | some e3 =>
            rw [q3] at sk
            refine hg s t3 (L2.wipe σ vs) (wipeE e vs) st2 x l[i] (E2.up g3) k3 i3 _ e3 q3 fun σ4 E4 l4 w4 => ?_
            refine ⟨wipe_agree (by rw [l4, L2.wipe_length]) hj w4 l4, ?_⟩
            refine ht s t3 σ4 e3 st2 E4 k3 _ ?_
            have sk' : (match c ⟨e3, st2⟩ with
              | .val _ (.bl b) st1 => if b = true then (match f ⟨e3, st1⟩ with | .val .P y st2 => some (some y, st2) | .val .N y st2 => some (some y, st2) | _ => none) else some (none, st1)
              | _ => none) = some o := sk
            cases q4 : c ⟨e3, st2⟩ with
            | exc k l st => rw [q4] at sk'; cases sk'
            | bad => rw [q4] at sk'; cases sk'
            | val mm d st4 =>
              rw [q4] at sk'
              cases d with
              | bl b =>
                intro t5 g5 k5
                have gg := g3.trans g5
                cases b with
                | false =>
                  cases sk'
                  refine iteF ⟨hlt, t5, st4, acc, vacc, rest'.1, rfl, s2.trans gg.up, g2.trans gg, k5, E2.up gg, gg.h _ _ d2 na2, a2.up gg.a gg.f, gg.n _ _ d2 n2, (fun m => (gg.w Dl m).elim na2 fun z => by rw [d2] at z; cases z), by omega, lg', ?_⟩
                  rw [← o2, ← r4]; rfl
                | true =>
                  refine iteT (he s t5 σ4 e3 st4 (E4.up g5) k5 _ ?_)
                  have fin : ∀ y st6 t6 v, Gro t5 t6 → StOk G t6 st6 → Is G t6.as t6.f v y → o = (some y, st6) → ∃ acc, t6.h Dl = some (.lst acc) ∧ acc.length < sizeLine ∧ (i + 1 ≤ l.length ∧ ∃ t2 st2 acc_1 vacc rest, t2.h = upd t6.h Dl (.lst (acc ++ [v])) ∧ Up t1 t2 ∧ Gro t0 t2 ∧ StOk G t2 st2 ∧ EnvOk G s t2 (L2.wipe σ vs) (wipeE e vs) ∧
                      t2.h Dl = some (.lst vacc) ∧ IsL G t2.as t2.f vacc acc_1 ∧ t2.f Dl = none ∧ Dl ∉ t2.as ∧ acc_1.length ≤ i + 1 ∧ lcGo (lcStep t c f (wipeE e vs)) (l.drop (i + 1)) st2 = some (rest, out.2) ∧ acc_1 ++ rest = out.1) := fun y st6 t6 v g6 k6 i6 ho => by
                    subst ho
                    have gh := gg.trans g6
                    have nn := gh.n _ _ d2 n2
                    have na : Dl ∉ t6.as := fun m => (gh.w Dl m).elim na2 fun z => by rw [d2] at z; cases z
                    have cl := a2.len
                    refine ⟨vacc, gh.h _ _ d2 na2, by rw [cl]; exact szlt (by omega), hlt, ⟨t6.as, t6.f, upd t6.h Dl (.lst (vacc ++ [v]))⟩, st6, acc ++ [y], vacc ++ [v], rest'.1, rfl, ?_, (g2.trans gh).chg hDH nn, k6.chg nn na, (E2.up gh).other hD0 nn hne, upd_same, (a2.up gh.a gh.f).append (.one i6), nn, na, by simp; omega, lg', ?_⟩
                    · exact ⟨s2.a.trans gh.a, s2.f.trans gh.f⟩
                    · rw [← o2, ← r4]
                      simp
                  have sk2 : (match f ⟨e3, st4⟩ with | .val .P y st2 => some (some y, st2) | .val .N y st2 => some (some y, st2) | _ => none) = some o := sk'
                  cases q6 : f ⟨e3, st4⟩ with
                  | val m6 y st6 =>
                    rw [q6] at sk2
                    intro t6 v g6 k6 o6
                    cases m6 with
                    | P => exact fin y st6 t6 v g6 k6 o6 (Option.some.inj sk2).symm
                    | B => cases sk2
                    | N =>
                      obtain ⟨f7, g7, k7, _, i7⟩ := o6.freeze g6 k6 (by decide)
                      exact fin y st6 ⟨t6.as, f7, t6.h⟩ v g7 k7 i7 (Option.some.inj sk2).symm
                  | exc k l st => rw [q6] at sk2; cases sk2
                  | bad => rw [q6] at sk2; cases sk2
              | _ => cases sk'
    · left
      have : i = l.length := by omega
      subst this
      refine ⟨i1 (Nat.le_refl _), ?_⟩
      rw [List.drop_length] at r2
      have r3 : (([] : List D), st2) = (rest, out.2) := Option.some.inj r2
      have r4 : [] = rest := (Prod.mk.inj r3).1
      have r5 : st2 = out.2 := (Prod.mk.inj r3).2
      subst r4
      rw [List.append_nil] at o2
      rw [← o2, ← r5] at post
      exact post t2 _ g2 k2 ⟨Dl, vacc, acc, rfl, rfl, d2, a2, na2, hDH, n2⟩
  | exc c l st1 => rw [q] at post; exact post
  | bad => rw [q] at post; exact post
def sRaise (c : Nat) : En → SR := fun E => .exc c [] E
theorem s_raise {c : Nat} {C : Addr} (hc : G.ca c = C) : DSt G W (fun _ σ H => (fun (_ : L2.St) (H : Hp) (Q : XK) => Q (.ref C) none H) σ H fun cls d H' => W cls d σ H') (sRaise c) := by
  intro s t σ e st E k N post
  subst hc
  exact post t σ none (Up.refl _) E k (.inl ⟨rfl, rfl⟩)
def SR.ret : SR → ER
  | .nx E => .val .P .non E.st
  | .rt m d st => .val m d st
  | .exc c l E => .exc c l E.st
  | _ => .bad
def startE (n : Nat) (ds : List D) : DE := ds.map .val ++ List.replicate (n - ds.length) .emp
def fnD (n N : Nat) (g : En → SR) : List D → Sto → ER := fun ds st => if ds.length = n then (g ⟨startE N ds, st⟩).ret else .bad
theorem start_ok {N : List Str} {t : Hs} {st : Sto} {vs : List V} {ds : List D} (k : StOk G t st) (h : IsL G t.as t.f vs ds) : EnvOk G t t (L2.start N vs) (startE N.length ds) := by
  have hl := h.len
  have noown : ∀ (j : Nat) (m : List D), (startE N.length ds)[j]? ≠ some (.own m) := fun j m z => by
    unfold startE at z
    rw [List.getElem?_append] at z
    split at z
    · rw [List.getElem?_map] at z
      cases q : ds[j]? <;> rw [q] at z <;> cases z
    · rw [List.getElem?_replicate] at z
      split at z <;> cases z
  refine ⟨Gro.refl k, by simp [L2.start, startE, hl], fun i o sl a b => ?_, fun i j p l m hij a b => absurd b (noown i l)⟩
  unfold L2.start at a
  unfold startE at b
  rw [List.getElem?_append] at a b
  rw [List.length_map] at a b
  split at a
  · rename_i hi
    rw [if_pos (by omega)] at b
    rw [List.getElem?_map] at a b
    cases q : vs[i]? with
    | none => rw [q] at a; cases a
    | some v =>
      obtain ⟨d, h1, h2⟩ := h.getV q
      rw [q] at a; rw [h1] at b
      cases a; cases b
      exact ⟨v, rfl, h2⟩
  · rename_i hi
    rw [if_neg (by omega)] at b
    rw [List.getElem?_replicate] at b
    split at b
    · cases b; trivial
    · cases b
theorem body_ok {N : List Str} {vs : List V} {H : Hp} {Q : VK} {E : XK} {ts : TS} {g : En → SR} {n : Nat} {D0 : Ends} (h2 : DSt G (fun c x _ H => E c x H) ts g) (hnx : D0.nx = fun _ H => Q .non H) (hrt : D0.rt = Q)
    (h : spF G (fnD n N.length g) vs H Q E) : ts D0 (L2.start N vs) H := by
  obtain ⟨t, ds, st, rfl, k, i, p⟩ := h
  obtain ⟨hl, p⟩ := RPost.cond _ _ p
  refine h2 t t _ _ st (start_ok k i) k _ ?_
  cases q : g ⟨startE N.length ds, st⟩ with
  | nx e => rw [q] at p; exact fun t' σ' s' E' k' => by rw [hnx]; exact p t' .non E'.gr k' .non
  | rt m d st1 => rw [q] at p; exact fun t' v s' g' k' o => by rw [hrt]; exact p t' v g' k' o
  | bk e => rw [q] at p; exact p.elim
  | ct e => rw [q] at p; exact p.elim
  | exc c l e => rw [q] at p; exact fun t' σ' x s' E' k' o => p t' x E'.gr k' o
  | bad => rw [q] at p; exact p.elim
theorem sp_len {n N : Nat} {g : En → SR} {vs : List V} {H : Hp} {Q : VK} {E : XK} (h : spF G (fnD n N g) vs H Q E) : vs.length = n := by
  obtain ⟨t, ds, st, rfl, k, i, p⟩ := h
  unfold fnD at p
  split at p
  · rename_i hl; rw [i.len]; exact hl
  · exact p.elim
theorem fn_ok {P : Program} {w : World} {K : PySem.W.Frag} {mg : Str → Option Value} {base : Heap} {x qual : Str} {st : Stmt} {f : Addr} {fd : FuncData} {N ps : List Str} {k : Nat} {g : En → SR} {n : Nat} (hn : ps.length = n) {m : Nat} (hm : N.length = m)
    (F : Fun K x qual st f fd) (S : FnScope N ps (defScope st))
    (hbody : ∀ (cdv : Value) (A : Around) (outer : List Env) (s : Shared) (H : Hp) (E : XK), Room k (A.deeper (envOfC qual (defScope st) s.heap.objs.size f cdv)) →
      ∃ t, PSs (cxOf (L2.CX P w) P w K mg base N qual (defScope st) f cdv A outer s H E) (defBody st) t ∧ DSt G (fun c x _ H => E c x H) t g) : FnOk P w K mg base (L2.CX P w) (k + 1) f fd ps (spF G (fnD n m g)) := by
  subst hn hm
  refine F.okX S (fun vs H Q E h => sp_len h) fun cdv A outer s H vs Q E hr h => ?_
  obtain ⟨t, h1, h2⟩ := hbody cdv A outer s H E hr
  exact ⟨t, h1, body_ok h2 rfl rfl h⟩
end
end Dn
namespace Dn
open PySem PySem.Spec PyProof.Rows L2
def pickL {α : Type} (idx : List Nat) (l : List α) : List α := idx.filterMap fun k => l[k]?
structure CallB (K : PySem.W.Frag) (fd : FuncData) (ps : List Str) (n : Nat) (ks : List Str) (idx : List Nat) (dvs : List V) : Prop where
  ex : ∃ its : List Value, Vals dvs its ∧ ∀ (s : Shared) (us ws : List Value), K.In s.heap → us.length = n → ws.length = ks.length → BindsTo s fd ⟨us, ks.zip ws⟩ (ps.zip (pickL idx (us ++ ws ++ its)))
theorem vals_pick {vs : List V} {us : List Value} (h : Vals vs us) : ∀ idx : List Nat, Vals (pickL idx vs) (pickL idx us)
  | [] => .nil
  | k :: idx => by
    have ih := vals_pick h idx
    unfold pickL at ih ⊢
    rw [List.filterMap_cons, List.filterMap_cons]
    cases q : vs[k]? with
    | none => rw [h.none_of q]; exact ih
    | some v => obtain ⟨u, h1, h2⟩ := h.get q; rw [h1]; exact .cons h2 ih
theorem isL_pick {G : Gm} {as : List Addr} {H : Hp} {vs : List V} {ds : List D} (h : IsL G as H vs ds) : ∀ idx : List Nat, IsL G as H (pickL idx vs) (pickL idx ds)
  | [] => .nil
  | k :: idx => by
    have ih := isL_pick h idx
    unfold pickL at ih ⊢
    rw [List.filterMap_cons, List.filterMap_cons]
    cases q : ds[k]? with
    | none =>
      have : vs[k]? = none := by
        rw [List.getElem?_eq_none_iff] at q ⊢
        rw [h.len]; exact q
      rw [this]; exact ih
    | some d => obtain ⟨u, h1, h2⟩ := h.get q; rw [h1]; exact .cons h2 ih
def toV : D → V
  | .bl b => .bl b
  | .int i => .int i
  | .str x => .str x
  | _ => .non
theorem is_toV {G : Gm} {as : List Addr} {H : Hp} {d : D} (h : flat d = true) : Is G as H (toV d) d := by
  cases d <;> first | exact .non | exact .bl _ | exact .int _ | exact .str _ | cases h
theorem isL_toV {G : Gm} {as : List Addr} {H : Hp} : ∀ {ds : List D}, ds.all flat = true → IsL G as H (ds.map toV) ds
  | [], _ => .nil
  | d :: ds, h => by
    have h' : flat d = true ∧ ds.all flat = true := by simpa using h
    exact .cons (is_toV h'.1) (isL_toV h'.2)
def tCallG (n m : Nat) (idx : List Nat) (dvs : List V) (sp : Sp) (E : L2.St → XK) (t tk : TA) : TE := fun σ H Q => t σ H fun vs H1 => tk σ H1 fun zs H2 => vs.length = n ∧ zs.length = m ∧ sp (pickL idx (vs ++ zs ++ dvs)) H2 Q (E σ)
section
variable {X : Cx} {CX : CXT} {k n : Nat} {f : Addr} {fd : FuncData} {ps ks : List Str} {idx : List Nat} {dvs : List V} {sp : Sp} {E : L2.St → XK} {x : Str} {p pos : Pos} {e : Expr} {es : List Expr} {kws : List Keyword} {t tk : TA}
theorem run_fnG {pins : List (Addr × Obj)} {σ : L2.St} {H : Hp} {s : Shared} {Q : VK} {us ws : List Value} {vs zs : List V} (F : FnOk X.prog X.w X.K X.mg X.base CX k f fd ps sp) (hr : Room k X.A) (hb : CallB X.K fd ps n ks idx dvs) (hx : PassesAt CX X σ (E σ))
    (I : Inv X pins σ H s) (r : Vals vs us) (rz : Vals zs ws) (l1 : vs.length = n) (l2 : zs.length = ks.length) (h : sp (pickL idx (vs ++ zs ++ dvs)) H Q (E σ)) : wpAny (model X.prog X.w) X.A (call (.ref f) us (ks.zip ws)) (EP X pins σ Q) X.xe s := by
  obtain ⟨its, rd, hb⟩ := hb.ex
  refine wpAny_call (codeAny_mono (F.run X.A X.stack s H ⟨us, ks.zip ws⟩ (pickL idx (us ++ ws ++ its)) (pickL idx (vs ++ zs ++ dvs)) Q (E σ) hr I.env0 (hb s us ws I.kIn (r.length.symm.trans l1) (rz.length.symm.trans l2)) (vals_pick ((r.append rz).append rd) idx) h) fun r s' hq => ?_)
  cases r with
  | error e => exact hx pins H s e s' I hq
  | ok fl =>
    cases fl with
    | ret u => exact I.after hq
    | next => exact False.elim hq
    | brk => exact False.elim hq
    | cont => exact False.elim hq
theorem pe_gN (F : FnOk X.prog X.w X.K X.mg X.base CX k f fd ps sp) (hr : Room k X.A) (hg : Gl X x) (hm : X.mg x = some (.ref f)) (hk : PySem.W.keepIn X.K (.ref f) = true) (hb : CallB X.K fd ps n [] idx dvs) (hx : ∀ σ, PassesAt CX X σ (E σ))
    (ha : PA X (e :: es) t) (hdb : (x == ("__debug__" : Str)) = false := by decide) (he : starEach (e :: es) X.env = (false, eval e X.env) :: starEach es X.env := by rfl) (hpl : (backTo pos (starEach es X.env)).any (·.1) = false := by rfl) :
    PE X (.Call (.Name x p) (e :: es) [] pos) (tCallG n 0 idx dvs sp E t tNil) := by
  refine ⟨fun pins s σ H Q I h => ?_⟩
  refine wpAny_Call_Name_kw (ld_glob I hg hm ?_ hdb)
  refine PySem.W.callWith_K (h₀ := X.base) I.ok.mod.kin hk (thn (ha.run pos pins s σ H _ I h) fun us s1 ⟨vs, H1, I1, r, l1, l2, q⟩ => ⟨I1.kIn, ?_⟩) he hpl
  exact run_fnG (ks := []) (ws := []) (zs := []) F hr hb (hx σ) I1 r .nil l1 rfl q
end
end Dn
namespace Dn
open PySem PySem.Spec PyProof.Rows L2
section
variable {G : Gm} {W : WX}
def dCallG (F : List D → Sto → ER) (n m : Nat) (idx : List Nat) (dd : List D) (f g : En → AR) : En → ER := fun E => match f E with
  | .ok true l st => (match g ⟨E.e, st⟩ with
    | .ok true z st1 => if l.length = n ∧ z.length = m then F (pickL idx (l ++ z ++ dd)) st1 else .bad
    | .exc c l st => .exc c l st
    | _ => .bad)
  | .exc c l st => .exc c l st
  | _ => .bad
theorem v_callG {F : List D → Sto → ER} {n m : Nat} {idx : List Nat} {dd : List D} {ta tk : TA} {f g : En → AR} (hd : dd.all flat = true) (ha : DAr G W ta f) (hk : DAr G W tk g) : DEv G W (tCallG n m idx (dd.map toV) (spF G F) (WE W) ta tk) (dCallG F n m idx dd f g) := by
  intro s t σ e st E k Q post
  refine ha s t σ e st E k _ ?_
  unfold dCallG at post
  cases q : f ⟨e, st⟩ with
  | ok p l st1 =>
    rw [q] at post
    cases p with
    | false => exact post.elim
    | true =>
      have post : RPost G W t σ Q (match g ⟨e, st1⟩ with
        | .ok true z st1 => if l.length = n ∧ z.length = m then F (pickL idx (l ++ z ++ dd)) st1 else .bad
        | .exc c l st => .exc c l st
        | _ => .bad) := post
      intro t1 vs g1 k1 i1 u1
      have i1 := i1 rfl
      refine hk s t1 σ e st1 (E.up g1) k1 _ ?_
      cases q2 : g ⟨e, st1⟩ with
      | ok p2 z st2 =>
        rw [q2] at post
        cases p2 with
        | false => exact post.elim
        | true =>
          obtain ⟨c, post⟩ := RPost.cond (l.length = n ∧ z.length = m) (F (pickL idx (l ++ z ++ dd)) st2) post
          intro t2 zs g2 k2 i2 u2
          have i2 := i2 rfl
          refine ⟨by rw [u1.len]; exact c.1, by rw [u2.len]; exact c.2, t2, _, st2, rfl, k2, isL_pick (((i1.up g2.a g2.f).append i2).append (isL_toV hd)) idx, (RPost.step (g1.trans g2) k2 post).w (fun c x H' h => h)⟩
      | exc c l st2 => rw [q2] at post; exact fun t' x g' => post t' x (g1.trans g')
      | bad => rw [q2] at post; exact post
  | exc c l st1 => rw [q] at post; exact post
  | bad => rw [q] at post; exact post
def tyN : D → String
  | .non => "NoneType"
  | .bl _ => "bool"
  | .int _ => "int"
  | .str _ => "str"
  | .tup _ => "tuple"
  | .lst _ => "list"
  | .scr _ => "list"
  | .obj _ _ => "object"
  | .ptr _ => "object"
def isT (T : String) : D → Sto → ER
  | .obj _ _, _ => .bad
  | .scr _, _ => .bad
  | .ptr _, _ => .bad
  | d, st => ofOpt (kitB (tyN d) T) fun b => .val .P (.bl b) st
def plainT : D → Prop
  | .obj _ _ => False
  | .scr _ => False
  | .ptr _ => False
  | _ => True
theorem tyX_of {t : Hs} {v : V} {d : D} (s : Same t.f t.h) (h : U G t v d) (hd : plainT d) : TyX G.K t.h v (.type (tyN d)) := by
  cases d with
  | non => obtain rfl := h.non; exact .base .non
  | bl b => obtain rfl := h.bl; exact .base (.bl b)
  | int i => obtain rfl := h.int; exact .base (.int i)
  | str x => obtain rfl := h.str; exact .base (.str x)
  | tup l =>
    obtain ⟨p, vs, rfl, a, b⟩ := h.tup s
    rcases a with (a | ⟨o, a⟩) | ⟨o, its, n, hk, hc, _⟩
    · exact .base (.tup a)
    · exact .fTuple a
    · exact .kTuple hk hc
  | lst l => obtain ⟨p, vs, rfl, a, b⟩ := h.lst s; exact .base (.lst a)
  | obj c l => exact hd.elim
  | scr a => exact hd.elim
  | ptr n => exact hd.elim
def dIsi (T : String) (f : En → ER) : En → ER := fun E => (f E).bind (isT T)
theorem v_isi {T : String} {te : TE} {f : En → ER} (h : DEv G W te f) : DEv G W (tCB (rIsi G.K) (tCons te (tCons (tC (.ty T)) tNil))) (dIsi T f) := by
  intro s t σ e st E k Q post
  refine h s t σ e st E k _ (RPost.bind post fun m d st1 t1 v g1 k1 o1 p1 => ?_)
  have key : ∀ (hd : plainT d) (p1 : RPost G W t1 σ Q (ofOpt (kitB (tyN d) T) fun b => .val .P (.bl b) st1)), rIsi G.K [v, .ty T] t1.h Q := fun hd p1 => by
    obtain ⟨b, hb, p1⟩ := RPost.opt _ _ p1
    exact ⟨v, .ty T, _, _, b, rfl, .ty T, tyX_of k1.sf o1.u hd, kit_ty hb, p1.now k1 (.bl _)⟩
  cases d <;> first | exact key trivial p1 | exact p1.elim
def clr (e : DE) : DE := e.map fun s => match s with | .exn => .emp | .clo _ => .emp | s => s
theorem SlotOk.ea {s t : Hs} {o : Option V} {sl : SL} (x : Addr) (h : SlotOk G s t o sl) (hs : sl ≠ .exn ∧ ∀ ds, sl ≠ .clo ds) : SlotOk (G.at_ x) s t o sl := by
  cases sl with
  | emp => trivial
  | exn => exact absurd rfl hs.1
  | clo ds => exact absurd rfl (hs.2 ds)
  | val d => obtain ⟨v, a, b⟩ := h; exact ⟨v, a, b.ea x⟩
  | own l => obtain ⟨p, vs, a, b, c, d, e, f⟩ := h; exact ⟨p, vs, a, b, c, d, e.ea x, f⟩
theorem clr_get {e : DE} {i : Nat} {s : SL} (h : (clr e)[i]? = some s) : (s ≠ .exn ∧ ∀ ds, s ≠ .clo ds) ∧ (s = .emp ∨ e[i]? = some s) := by
  unfold clr at h
  rw [List.getElem?_map] at h
  cases q : e[i]? with
  | none => rw [q] at h; cases h
  | some s' =>
    rw [q] at h
    cases s' <;> cases h <;> first | exact ⟨⟨(fun z => nomatch z), fun _ z => nomatch z⟩, .inl rfl⟩ | exact ⟨⟨(fun z => nomatch z), fun _ z => nomatch z⟩, .inr rfl⟩
theorem EnvOk.ea {s t : Hs} {σ : L2.St} {e : DE} (x : Addr) (E : EnvOk G s t σ e) : EnvOk (G.at_ x) s t σ (clr e) := by
  refine ⟨E.gr, by rw [E.len]; simp [clr], fun i o s a b => ?_, fun i j p l m hij a b c d => ?_⟩
  · obtain ⟨h1, h2 | h2⟩ := clr_get b
    · subst h2; trivial
    · exact (E.at_ i o s a h2).ea x h1
  · obtain ⟨_, h2 | h2⟩ := clr_get b
    · cases h2
    · obtain ⟨_, h3 | h3⟩ := clr_get d
      · cases h3
      · exact E.dis i j p l m hij a h2 c h3
theorem ObOk.ea {s : Hs} {a : Addr} {o : Ob} (x : Addr) (h : ObOk G s a o) : ObOk (G.at_ x) s a o := by
  cases o with
  | lst l => obtain ⟨vs, h1, h2⟩ := h; exact ⟨vs, h1, h2.ea x⟩
  | ins c l => obtain ⟨dx, vs, h1, h2, h3⟩ := h; exact ⟨dx, vs, h1, h2, h3.ea x⟩
  | tbl q => exact h
  | dct l => obtain ⟨kvs, h1, h2⟩ := h; exact ⟨kvs, h1, h2.ea x⟩
theorem StOk.ea {s : Hs} {st : Sto} (x : Addr) (k : StOk G s st) : StOk (G.at_ x) s st := ⟨k.sf, k.len, k.nd, fun n a o h1 h2 => (k.ob n a o h1 h2).ea x, k.nf, k.tb, fun da h => by
  obtain ⟨xs, h1, h2, h3⟩ := k.ex da h
  exact ⟨xs, h1, h2, h3.ea x⟩⟩
def sTryAs (i : Nat) (catch? : Nat → Option Bool) (g : En → SR) (h : Nat → List D → En → SR) : En → SR := fun E => match g E with
  | .exc c l E1 => (match catch? c with
    | some true => (match h c l ⟨(clr E1.e).set i .exn, E1.st⟩ with
      | .nx E2 => .nx ⟨(clr E2.e).set i .emp, E2.st⟩
      | .bk E2 => .bk ⟨(clr E2.e).set i .emp, E2.st⟩
      | .ct E2 => .ct ⟨(clr E2.e).set i .emp, E2.st⟩
      | .rt m d st => .rt m d st
      | _ => .bad)
    | some false => .exc c l E1
    | none => .bad)
  | r => r
theorem VOk.ea {s t : Hs} {m : Md} {v : V} {d : D} (x : Addr) (h : VOk G s t m v d) : VOk (G.at_ x) s t m v d := by
  cases m with
  | P => exact Is.ea x _ h
  | B => obtain ⟨p, vs, l, a, b, c, e, f⟩ := h; exact ⟨p, vs, l, a, b, c, e.ea x, f⟩
  | N => obtain ⟨p, vs, l, a, b, c, e, f, n, z⟩ := h; exact ⟨p, vs, l, a, b, c, e.ea x, f, n, z⟩
def rIsEx (K : PySem.W.Frag) (a : Addr) (cls : Value) (d : Option Addr) : List V → Hp → VK → Prop := fun xs H Q => ∃ D, cls = .ref D ∧ d = none ∧ ExcC K D ∧ rIsE K D a xs H Q
theorem call_isEx {X : Cx} {a : Addr} {cls : Value} {d : Option Addr} {oe : Obj} {pn : List (Addr × Obj)} (hz : Zc cls d oe) (hf : ∃ vs, oe.data = .fields vs) : CallR (X.suite a ((a, oe) :: pn)) (.builtin "isinstance") (rIsEx X.K a cls d) := by
  intro pins s σ H xs us Q I r h
  obtain ⟨D, rfl, rfl, C, h⟩ := h
  exact call_isE C hz hf pins s σ H xs us Q I r h
def dIsE (i : Nat) (b : Option Bool) : En → ER := fun E => match E.e[i]? with
  | some .exn => ofOpt b fun b => .val .P (.bl b) E.st
  | _ => .bad
end
theorem fn_okD {G : Gm} {P : Program} {w : World} {K : PySem.W.Frag} {mg : Str → Option Value} {base : Heap} {x qual : Str} {params : Arguments} {body : List Stmt} {scope : Scope} {dvs : List V} {f : Addr} {fd : FuncData} {N ps : List Str} {k : Nat} {g : En → SR} {n : Nat} (hn : ps.length = n) {m : Nat} (hm : N.length = m)
    (F : FunD K x qual params body scope dvs [] f fd) (S : FnScope N ps scope)
    (hbody : ∀ (cdv : Value) (A : Around) (outer : List Env) (s : Shared) (H : Hp) (E : XK), Room k (A.deeper (envOfC qual scope s.heap.objs.size f cdv)) →
      ∃ t, PSs (cxOf (L2.CX P w) P w K mg base N qual scope f cdv A outer s H E) body t ∧ DSt G (fun c x _ H => E c x H) t g) : FnOk P w K mg base (L2.CX P w) (k + 1) f fd ps (spF G (fnD n m g)) := by
  subst hn hm
  refine F.ok S (fun vs H Q E h => sp_len h) fun cdv A outer s H vs Q E hr h => ?_
  obtain ⟨t, h1, h2⟩ := hbody cdv A outer s H E hr
  exact ⟨t, h1, body_ok h2 rfl rfl h⟩
theorem callB_d {K : PySem.W.Frag} {x qual : Str} {params : Arguments} {body : List Stmt} {scope : Scope} {T : Addr} {kV doc pm : Value} {an : Option Addr} {cdv ct : Value} {o : Obj} {its : List Value} {m : Nat} {dvs : List V} {ps ks : List Str} {n : Nat} {idx : List Nat} (lT : K.lookup T = some o) (oT : o.data = .seq its.toArray m) (rd : Vals dvs its)
    (h : ∀ (us ws : List Value), us.length = n → ws.length = ks.length → ∃ k, bindArgs (PySem.W.fnOf x qual params body scope (.ref T) kV doc pm an cdv ct) ⟨us, ks.zip ws⟩ = seqItems? (.ref T) >>= k ∧ k (some its.toArray) = pure (ps.zip (pickL idx (us ++ ws ++ its)))) :
    CallB K (PySem.W.fnOf x qual params body scope (.ref T) kV doc pm an cdv ct) ps n ks idx dvs :=
  ⟨its, rd, fun s us ws X l1 l2 => BindsTo.of_looks fun M => by
    obtain ⟨k, e1, e2⟩ := h us ws l1 l2
    rw [e1]
    exact looks_items X lT oT (.of_pure e2)⟩
theorem callB_n {K : PySem.W.Frag} {fd : FuncData} {ps ks : List Str} {n : Nat} {idx : List Nat} (h : ∀ (us ws : List Value), us.length = n → ws.length = ks.length → bindArgs fd ⟨us, ks.zip ws⟩ = pure (ps.zip (pickL idx (us ++ ws ++ [])))) : CallB K fd ps n ks idx [] :=
  ⟨[], .nil, fun s us ws X l1 l2 => .of_eq (h us ws l1 l2)⟩
def nilOnly (l : List D) (g : En → SR) : En → SR := fun e => match l with
  | [] => g e
  | _ => .bad
def spLaw (K : PySem.W.Frag) : Sp := fun vs H Q _ => ∃ (a : Addr) (ns : List Int), vs = [.ref a] ∧ SqL K H a (ns.map V.int) ∧ ns.length ≤ 63 ∧ (∀ z ∈ ns, Builtin.Int.intBits z ≤ 1048576) ∧ ∀ H', Q (.bl true) H'
def Yes (r : ER) : Prop := ∃ st, r = .val .P (.bl true) st
theorem law_imp {G : Gm} {F : List D → Sto → ER} (hG : G.tb = []) (hF : ∀ ns : List Int, ns.length ≤ 63 → (∀ z ∈ ns, Builtin.Int.intBits z ≤ 1048576) → Yes (F [.scr ns] [])) (vs : List V) (H : Hp) (Q : VK) (E : XK) (h : spLaw G.K vs H Q E) (hE : G.ed = none := by rfl) : spF G F vs H Q E := by
  obtain ⟨a, ns, rfl, hS, h1, h2, k⟩ := h
  obtain ⟨st, hF⟩ := hF ns h1 h2
  refine ⟨⟨[], H, H⟩, [.scr ns], [], rfl, ⟨Same.refl _, rfl, List.nodup_nil, fun n a o h => by simp at h, fun x m => by simp at m, fun n P h => by rw [hG] at h; simp at h, fun da h => by rw [hE] at h; cases h⟩, .cons (.scr hS) .nil, ?_⟩
  rw [hF]
  intro t v g k' o
  cases o
  exact k t.h
theorem walkL {k : Nat} (hk : Room k callerA) {l : PySem.W.OpenLaw} {q : Program} {loose : List Str} {XP : (Str → Option Value) → Heap → Prop} {YP : World → Heap → Prop} {d : DefRec} {K : Params → PySem.W.Frag} {x : Str} (hn : l.most = some 63) (hdf : d.params.defaults = [])
    (hY : ∀ (w : World) (h : Heap), YP w h → (K w.params).In h)
    (F : ∀ (w : World) (mg : Str → Option Value) (fa : Addr) (h : Heap), (K w.params).In h → h.Ns mainGlobals mg → mg d.name = some (.ref fa) →
      ∃ fd : FuncData, (∀ (s : Shared) (u : Value), BindsTo s fd ⟨[u], []⟩ [(x, u)]) ∧ ∀ base : Heap, (K w.params).In base → base.Ns mainGlobals mg → FnOk l.prog w (K w.params) mg base (L2.CX l.prog w) k fa fd [x] (spLaw (K w.params))) :
    PySem.W.WalkO q loose XP YP l.row.toRowW d [] (fun f vs => PySem.call f vs) :=
  L2.walk_ofB (n := 63) (k := k) (x := x) (CX := fun w => L2.CX l.prog w) (sp := fun w => spLaw (K w.params)) hn (by decide) hdf hk hY F (fun _ _ a ns hl hb _ hS => ⟨a, ns, rfl, hS, hl, hb, fun _ => rfl⟩) fun w H s e s' h => by
    obtain ⟨_, _, _, _, _, _, _, _, _, _, _, _, z⟩ := h
    exact z.elim
end Dn
namespace Dn
open PySem PySem.Spec PyProof.Rows L2
section
variable {G : Gm} {W : WX}
def DMt (G : Gm) (r : V → List V → Hp → VK → Prop) (op : List D → List D → Option (D × List D)) : Prop :=
  ∀ (s : Hs) (p : Addr) (vs : List V) (l : List D) (xs : List V) (ds : List D) (o : D × List D), s.h p = some (.lst vs) → IsL G s.as s.f vs l → IsL G s.as s.f xs ds → op l ds = some o → Same s.f s.h →
    ∃ v vs', Is G s.as s.f v o.1 ∧ IsL G s.as s.f vs' o.2 ∧ ∀ Q : VK, Q v (upd s.h p (.lst vs')) → r (.ref p) xs s.h Q
def mAppend (l ds : List D) : Option (D × List D) := match ds with
  | [d] => if l.length < 1000000 then some (.non, l ++ [d]) else none
  | _ => none
def mInsert (l ds : List D) : Option (D × List D) := match ds with
  | [.int i, d] => if l.length < 1000000 ∧ 0 ≤ i ∧ i < 2 ^ 63 then some (.non, l.take i.toNat ++ [d] ++ l.drop i.toNat) else none
  | _ => none
def mPop (l ds : List D) : Option (D × List D) := match ds with
  | [] => (match l[l.length - 1]? with | some d => some (d, l.dropLast) | none => none)
  | _ => none
def mPopAt (l ds : List D) : Option (D × List D) := match ds with
  | [.int i] => if -(2 ^ 63) ≤ i ∧ i < 2 ^ 63 then (match seqIndex? i l.length with
    | some k => (match l[k]? with | some d => some (d, l.eraseIdx k) | none => none)
    | none => none) else none
  | _ => none
def mReverse (l ds : List D) : Option (D × List D) := match ds with
  | [] => some (.non, l.reverse)
  | _ => none
theorem m_append : DMt G rAppend mAppend := by
  intro s p vs l xs ds o hp il ix ho _sf
  unfold mAppend at ho
  split at ho
  · rename_i d
    split at ho
    · rename_i hl
      cases ho
      cases ix with
      | cons a b => cases b; exact ⟨.non, _, .non, il.append (.one a), fun Q q => ⟨p, vs, _, rfl, rfl, hp, by rw [il.len]; exact szlt hl, q⟩⟩
    · cases ho
  · cases ho
theorem IsL.dropLast {as : List Addr} {H : Hp} {ds : List D} {vs : List V} (h : IsL G as H vs ds) : IsL G as H vs.dropLast ds.dropLast := by
  rw [List.dropLast_eq_take, List.dropLast_eq_take, h.len]
  exact h.take _
def dMtP (op : List D → List D → Option (D × List D)) (fb : En → ER) (fa : En → AR) : En → ER := fun E => match fb E with
  | .val _ (.ptr n) st => (match stLst st n with
    | some _ => (match fa ⟨E.e, st⟩ with
      | .ok true ds st1 => (match stLst st1 n with
        | some l => (match op l ds with | some o => .val .P o.1 (st1.set n (.lst o.2)) | none => .bad)
        | none => .bad)
      | .exc c l st => .exc c l st
      | _ => .bad)
    | none => .bad)
  | .exc c l st => .exc c l st
  | _ => .bad
theorem mt_end {r : V → List V → Hp → VK → Prop} {op : List D → List D → Option (D × List D)} (hm : DMt G r op) {t : Hs} {st : Sto} {n : Nat} {p : Addr} {xs : List V} {ds l : List D} {o : D × List D} (k : StOk G t st) (hp : t.as[n]? = some p) (hl : stLst st n = some l) (ix : IsL G t.as t.f xs ds) (ho : op l ds = some o) {σ : L2.St} {Q : VK}
    (post : RPost G W t σ Q (.val .P o.1 (st.set n (.lst o.2)))) : r (.ref p) xs t.h Q := by
  obtain ⟨vs, hh, il⟩ := k.lst hp hl
  obtain ⟨v, vs', h1, h2, h3⟩ := hm t p vs l xs ds o hh il ix ho k.sf
  exact h3 Q (post ⟨t.as, t.f, upd t.h p (.lst vs')⟩ v (Gro.mod (Gro.refl k) k hp) (k.mod hp ⟨vs', upd_same, h2⟩) h1)
theorem v_mtP {r : V → List V → Hp → VK → Prop} {op : List D → List D → Option (D × List D)} {tb : TE} {ta : TA} {fb : En → ER} {fa : En → AR} (hm : DMt G r op) (hb : DEv G W tb fb) (ha : DAr G W ta fa) : DEv G W (tBM G.K "list" r tb ta) (dMtP op fb fa) := by
  intro s t σ e st E k Q post
  unfold dMtP at post
  refine hb s t σ e st E k _ ?_
  cases q : fb ⟨e, st⟩ with
  | val m d st1 =>
    rw [q] at post
    cases d <;> first | exact post.elim | skip
    rename_i n
    cases hl : stLst st1 n with
    | none => simp only [hl] at post; exact post.elim
    | some l0 =>
      simp only [hl] at post
      intro t1 v g1 k1 o1
      obtain ⟨p, rfl, hp⟩ := o1.u.ptr
      obtain ⟨vs, hh, _⟩ := k1.lst hp hl
      refine ⟨.inl ⟨rfl, vs, SqL.of hh⟩, ha s t1 σ e st1 (E.up g1) k1 _ ?_⟩
      cases q2 : fa ⟨e, st1⟩ with
      | ok b ds st2 =>
        rw [q2] at post
        cases b with
        | false => exact post.elim
        | true =>
          intro t2 xs g2 k2 i2 _
          cases hl2 : stLst st2 n with
          | none => simp only [hl2] at post; exact post.elim
          | some l =>
            simp only [hl2] at post
            cases ho : op l ds with
            | none => simp only [ho] at post; exact post.elim
            | some o =>
              simp only [ho] at post
              exact mt_end hm k2 (g2.a n p hp) hl2 (i2 rfl) ho (RPost.step (g1.trans g2) k2 post)
      | exc c l st2 => rw [q2] at post; exact fun t' x g' => post t' x (g1.trans g')
      | bad => rw [q2] at post; exact post
  | exc c l st1 => rw [q] at post; exact post
  | bad => rw [q] at post; exact post
def putAt (j : Option Nat) (d : D) (e : DE) : DE := match j with
  | some j => e.set j (.val d)
  | none => e
def sMtO (j : Option Nat) (op : List D → List D → Option (D × List D)) (i : Nat) (fa : En → AR) : En → SR := fun E => match E.e[i]? with
  | some (.own l) => (match fa E with
    | .ok true ds st1 => (match op l ds with | some o => .nx ⟨putAt j o.1 (E.e.set i (.own o.2)), st1⟩ | none => .bad)
    | .exc c l st => .exc c l ⟨E.e, st⟩
    | _ => .bad)
  | _ => .bad
theorem mtO_run {r : V → List V → Hp → VK → Prop} {op : List D → List D → Option (D × List D)} {ta : TA} {fa : En → AR} {i : Nat} (hm : DMt G r op) (ha : DAr G W ta fa) {s t : Hs} {σ : L2.St} {e : DE} {st : Sto} {l : List D} (E : EnvOk G s t σ e) (k : StOk G t st) (hx : e[i]? = some (.own l)) {N : Ends} {Q : VK} {j : Option Nat}
    (post : SPost G W s t N (match fa ⟨e, st⟩ with
      | .ok true ds st1 => (match op l ds with | some o => .nx ⟨putAt j o.1 (e.set i (.own o.2)), st1⟩ | none => .bad)
      | .exc c l st => .exc c l ⟨e, st⟩
      | _ => .bad))
    (fin : ∀ t' v d st1 l', Up t t' → EnvOk G s t' σ (e.set i (.own l')) → StOk G t' st1 → Is G t'.as t'.f v d → SPost G W s t N (.nx ⟨putAt j d (e.set i (.own l')), st1⟩) → Q v t'.h) : tBM G.K "list" r (tVar i) ta σ t.h Q := by
  obtain ⟨o, hσ, p, vs, rfl, p0, pf, ph, pl, pa⟩ := E.slot hx
  refine ⟨_, hσ, .inl ⟨rfl, vs, SqL.of ph⟩, ha s t σ e st E k _ ?_⟩
  cases q2 : fa ⟨e, st⟩ with
  | ok b ds st2 =>
    rw [q2] at post
    cases b with
    | false => exact post.elim
    | true =>
      intro t2 xs g2 k2 i2 _
      cases ho : op l ds with
      | none => simp only [ho] at post; exact post.elim
      | some o =>
        simp only [ho] at post
        have hp' : t2.h p = some (.lst vs) := g2.h _ _ ph pa
        have hf' : t2.f p = none := g2.n _ _ ph pf
        have ha' : p ∉ t2.as := fun m => (g2.w p m).elim pa fun z => by rw [ph] at z; cases z
        obtain ⟨v, vs', h1, h2, h3⟩ := hm t2 p vs l xs ds o hp' (pl.up g2.a g2.f) (i2 rfl) ho k2.sf
        exact h3 _ (fin ⟨t2.as, t2.f, upd t2.h p (.lst vs')⟩ v o.1 st2 o.2 ⟨g2.a, g2.f⟩ ((E.up g2).chg hσ hx p0 hf' h2 ha') (k2.chg hf' ha') h1 post)
  | exc c l st2 => rw [q2] at post; exact fun t' x g' k' o => post t' σ x g'.up (E.up g') k' o
  | bad => rw [q2] at post; exact post
theorem s_mtO {r : V → List V → Hp → VK → Prop} {op : List D → List D → Option (D × List D)} {ta : TA} {fa : En → AR} {i : Nat} (hm : DMt G r op) (ha : DAr G W ta fa) : DSt G W (tDrop (tBM G.K "list" r (tVar i) ta)) (sMtO none op i fa) := by
  intro s t σ e st E k N post
  unfold sMtO at post
  split at post
  · rename_i l hx
    exact mtO_run hm ha E k hx post fun t' v d st1 l' u E' k' _ p => p t' σ u E' k'
  · exact post.elim
def sMt (op : List D → List D → Option (D × List D)) (i : Nat) (fa : En → AR) : En → SR := fun E => match E.e[i]? with
  | some (.own _) => sMtO none op i fa E
  | _ => sDrop (dMtP op (dVar i) fa) E
theorem s_mt {r : V → List V → Hp → VK → Prop} {op : List D → List D → Option (D × List D)} {ta : TA} {fa : En → AR} {i : Nat} (hm : DMt G r op) (ha : DAr G W ta fa) : DSt G W (tDrop (tBM G.K "list" r (tVar i) ta)) (sMt op i fa) := by
  intro s t σ e st E k N post
  unfold sMt at post
  split at post
  · exact s_mtO hm ha s t σ e st E k N post
  · exact s_drop (v_mtP hm v_var ha) s t σ e st E k N post
def sMtA (j : Nat) (op : List D → List D → Option (D × List D)) (i : Nat) (fa : En → AR) : En → SR := fun E => match E.e[i]? with
  | some (.own _) => sMtO (some j) op i fa E
  | _ => sSetF j (dMtP op (dVar i) fa) E
end
end Dn
namespace Dn
open PySem PySem.Spec PyProof.Rows L2
def stIns (st : Sto) (n : Nat) : Option (Nat × List D) := match st[n]? with
  | some (.ins c l) => some (c, l)
  | _ => none
section
variable {G : Gm} {W : WX}
theorem StOk.ins {s : Hs} {st : Sto} {n c : Nat} {l : List D} {p : Addr} (k : StOk G s st) (ha : s.as[n]? = some p) (h : stIns st n = some (c, l)) : ∃ dx vs, s.h p = some (.ins (G.ca c) dx ((G.fn c).zip vs)) ∧ vs.length ≤ (G.fn c).length ∧ IsL G s.as s.f vs l := by
  unfold stIns at h
  split at h
  · rename_i c' l' q
    cases h
    exact k.ob n p _ ha q
  · cases h
structure FldOk (G : Gm) (f : Str) (ix : Nat → Option Nat) : Prop where
  ok : ∀ c i, ix c = some i → (G.fn c)[i]? = some f ∧ (G.fn c).Nodup ∧ (G.fn c).length < 1000 ∧ Cls G.K (G.ca c) ∧ NoAttr G.K (G.ca c) f
theorem zip_lookup {f : Str} : ∀ {ns : List Str} {vs : List V} {i : Nat} {v : V}, ns.Nodup → ns[i]? = some f → vs[i]? = some v → (ns.zip vs).lookup f = some v
  | [], _, _, _, _, h, _ => by simp at h
  | n :: ns, [], _, _, _, _, h => by simp at h
  | n :: ns, w :: vs, 0, v, _, h1, h2 => by
    simp at h1 h2
    subst h1; subst h2
    simp [List.zip_cons_cons, List.lookup]
  | n :: ns, w :: vs, i + 1, v, hn, h1, h2 => by
    have hn' := List.nodup_cons.mp hn
    have h1' : ns[i]? = some f := by simpa using h1
    have h2' : vs[i]? = some v := by simpa using h2
    have ne : f ≠ n := fun z => hn'.1 (z ▸ List.mem_of_getElem? h1')
    have : (f == n) = false := by simpa using ne
    simp only [List.zip_cons_cons, List.lookup, this]
    exact zip_lookup hn'.2 h1' h2'
theorem zip_no {f : Str} : ∀ {ns : List Str} (vs : List V), f ∉ ns → (ns.zip vs).lookup f = none
  | [], _, _ => rfl
  | n :: ns, [], _ => rfl
  | n :: ns, w :: vs, h => by
    have h' : f ≠ n ∧ f ∉ ns := by simpa using h
    have : (f == n) = false := by simpa using h'.1
    simp only [List.zip_cons_cons, List.lookup, this]
    exact zip_no vs h'.2
def putI (i : Nat) (d : D) (l : List D) : Option (List D) := if i < l.length then some (l.set i d) else if i = l.length then some (l ++ [d]) else none
theorem zip_put {f : Str} {z : V} : ∀ {ns : List Str} {vs : List V} {i : Nat}, ns.Nodup → ns[i]? = some f → i ≤ vs.length → putF f z (ns.zip vs) = ns.zip (if i < vs.length then vs.set i z else vs ++ [z])
  | [], _, _, _, h, _ => by simp at h
  | n :: ns, [], i, _, h1, h2 => by
    have : i = 0 := by simpa using h2
    subst this
    simp at h1
    subst h1
    simp [putF]
  | n :: ns, w :: vs, 0, _, h1, _ => by
    simp at h1
    subst h1
    simp [putF, List.zip_cons_cons]
  | n :: ns, w :: vs, i + 1, hn, h1, h2 => by
    have hn' := List.nodup_cons.mp hn
    have h1' : ns[i]? = some f := by simpa using h1
    have ne : n ≠ f := fun z => hn'.1 (z ▸ List.mem_of_getElem? h1')
    have ih := zip_put (z := z) hn'.2 h1' (vs := vs) (by simpa using h2)
    simp only [List.zip_cons_cons, putF, if_neg ne, ih]
    by_cases c : i < vs.length
    · simp [c]
    · simp [c]
def dFld (ix : Nat → Option Nat) (fe : En → ER) : En → ER := fun E => (fe E).bind fun x st => match x with
  | .ptr n => (match stIns st n with
    | some (c, l) => (match ix c with
      | some i => ofOpt l[i]? fun d => .val .P d st
      | none => .bad)
    | none => .bad)
  | _ => .bad
theorem v_fld {f : Str} {ix : Nat → Option Nat} {te : TE} {fe : En → ER} (hf : FldOk G f ix) (he : DEv G W te fe) : DEv G W (tFld G.K te f) (dFld ix fe) := by
  intro s t σ e st E k Q post
  refine he s t σ e st E k _ (RPost.bind post fun m d st1 t1 v g1 k1 o1 p1 => ?_)
  cases d <;> first | exact p1.elim | skip
  rename_i n
  obtain ⟨p, rfl, hp⟩ := o1.u.ptr
  cases hi : stIns st1 n with
  | none => simp only [hi] at p1; exact p1.elim
  | some cl =>
    obtain ⟨c, l⟩ := cl
    simp only [hi] at p1
    cases hx : ix c with
    | none => simp only [hx] at p1; exact p1.elim
    | some i =>
      simp only [hx] at p1
      obtain ⟨d, hd, p1⟩ := RPost.opt _ _ p1
      obtain ⟨dx, vs, hh, hl, il⟩ := k1.ins hp hi
      obtain ⟨v, h1, h2⟩ := il.get hd
      obtain ⟨fi, fnd, _, fc, fa⟩ := hf.ok c i hx
      exact ⟨p, _, dx, _, v, rfl, hh, fc, fa, zip_lookup fnd fi h1, p1.now k1 h2⟩
def sFldS (ix : Nat → Option Nat) (fo fe : En → ER) : En → SR := fun E => match fe E with
  | .val .B _ _ => .bad
  | .val _ d st => (match fo ⟨E.e, st⟩ with
    | .val _ (.ptr n) st1 => (match stIns st1 n with
      | some (c, l) => (match ix c with
        | some i => (match putI i d l with
          | some l' => .nx ⟨E.e, st1.set n (.ins c l')⟩
          | none => .bad)
        | none => .bad)
      | none => .bad)
    | .exc c l st => .exc c l ⟨E.e, st⟩
    | _ => .bad)
  | .exc c l st => .exc c l ⟨E.e, st⟩
  | .bad => .bad
theorem s_fldS {f : Str} {ix : Nat → Option Nat} {to te : TE} {fo fe : En → ER} (hf : FldOk G f ix) (ho : DEv G W to fo) (he : DEv G W te fe) : DSt G W (sFld G.K to te f) (sFldS ix fo fe) := by
  intro s t σ e st E k N post
  unfold sFldS at post
  refine ev_st (N := N) he E k (fun c l st1 q => by rw [q] at post; exact post) (fun q => by rw [q] at post; exact post) fun m d st1 q t1 v g1 k1 o1 => ?_
  rw [q] at post
  have fin : ∀ f2, Gro t ⟨t1.as, f2, t1.h⟩ → StOk G ⟨t1.as, f2, t1.h⟩ st1 → Is G t1.as f2 v d → SPost G W s t N (match fo ⟨e, st1⟩ with
    | .val _ (.ptr n) st1 => (match stIns st1 n with
      | some (c, l) => (match ix c with
        | some i => (match putI i d l with
          | some l' => .nx ⟨e, st1.set n (.ins c l')⟩
          | none => .bad)
        | none => .bad)
      | none => .bad)
    | .exc c l st => .exc c l ⟨e, st⟩
    | _ => .bad) → to σ t1.h fun x H2 => ∃ a C dx fs, x = .ref a ∧ H2 a = some (.ins C dx fs) ∧ Cls G.K C ∧ NoAttr G.K C f ∧ fs.length < 1000 ∧ N.nx σ (upd H2 a (.ins C dx (putF f v fs))) := fun f2 g2 k2 i2 post => by
    refine ev_st (N := N) ho (E.up g2) k2 (fun c l st3 q3 => ?_) (fun q3 => ?_) fun mb db st3 q3 t3 b g3 k3 o3 => ?_
    · rw [q3] at post; exact SPost.mono g2.up post
    · rw [q3] at post; exact post
    · rw [q3] at post
      cases db <;> try exact post.elim
      rename_i n
      obtain ⟨p, rfl, hp⟩ := o3.u.ptr
      have g23 := g2.trans g3
      cases hi : stIns st3 n with
      | none => simp only [hi] at post; exact post.elim
      | some cl =>
        obtain ⟨c, l⟩ := cl
        simp only [hi] at post
        cases hx : ix c with
        | none => simp only [hx] at post; exact post.elim
        | some i =>
          simp only [hx] at post
          cases hu : putI i d l with
          | none => simp only [hu] at post; exact post.elim
          | some l' =>
            simp only [hu] at post
            obtain ⟨dx, vs, hh, hl, il⟩ := k3.ins hp hi
            obtain ⟨fi, fnd, flen, fc, fa⟩ := hf.ok c i hx
            have ile := il.len
            have hik : i ≤ vs.length := by
              rw [ile]
              unfold putI at hu
              split at hu
              · omega
              · split at hu
                · omega
                · cases hu
            refine ⟨p, _, dx, _, rfl, hh, fc, fa, by rw [List.length_zip]; omega, ?_⟩
            rw [zip_put fnd fi hik]
            have iv := i2.up g3.a g3.f
            have il' : IsL G t3.as t3.f (if i < vs.length then vs.set i v else vs ++ [v]) l' := by
              unfold putI at hu
              rw [ile]
              split at hu
              · rename_i c1
                cases hu
                rw [if_pos c1]; exact il.set iv i
              · rename_i c1
                split at hu
                · cases hu; rw [if_neg c1]; exact il.append (.one iv)
                · cases hu
            have hlen : (if i < vs.length then vs.set i v else vs ++ [v]).length ≤ (G.fn c).length := by
              have : i < (G.fn c).length := (List.getElem?_eq_some_iff.mp fi).1
              split
              · simpa using hl
              · simp; omega
            exact post ⟨t3.as, t3.f, upd t3.h p (.ins (G.ca c) dx ((G.fn c).zip _))⟩ σ ⟨g23.a, g23.f⟩ ((E.up g23).modS k3 hp) (k3.mod hp ⟨dx, _, upd_same, hlen, il'⟩)
  cases m with
  | P => exact fin t1.f g1 k1 o1 post
  | B => exact post.elim
  | N =>
    obtain ⟨f2, g2, k2, _, i2⟩ := o1.freeze g1 k1 (by decide)
    exact fin f2 g2 k2 i2 post
end
def tMethG (C : Addr) (m : Str) (n r : Nat) (idx : List Nat) (dvs : List V) (sp : Sp) (E : L2.St → XK) (ta : TE) (t tk : TA) : TE := fun σ H Q => ta σ H fun x H1 => ∃ a dx fs, x = .ref a ∧ H1 a = some (.ins C dx fs) ∧ fs.lookup m = none ∧
  t σ H1 fun vs H2 => tk σ H2 fun zs H3 => (x :: vs).length = n ∧ zs.length = r ∧ sp (pickL idx ((x :: vs) ++ zs ++ dvs)) H3 Q (E σ)
section
variable {X : Cx} {CX : CXT} {k n : Nat} {f C : Addr} {fd : FuncData} {ps ks : List Str} {idx : List Nat} {dvs : List V} {sp : Sp} {E : L2.St → XK} {x m : Str} {p pos apos : Pos} {o e : Expr} {es : List Expr} {kws : List Keyword} {ta : TE} {t tk : TA}
theorem pe_mN {pl : Sem Bool} (he : PE X o ta) (c : Cls X.K C) (hm : Meth X.K C m f) (F : FnOk X.prog X.w X.K X.mg X.base CX k f fd ps sp) (hr : Room k X.A) (hb : CallB X.K fd ps n [] idx dvs) (hx : ∀ σ, PassesAt CX X σ (E σ)) (ha : PA X (e :: es) t)
    (hst : starEach (e :: es) X.env = (false, eval e X.env) :: starEach es X.env := by rfl) (hpl : (backTo pos (starEach es X.env)).any (·.1) = false := by rfl)
    (ht : eval (.Call (.Attribute o m apos) (e :: es) [] pos) X.env = (do
      let ov ← eval o X.env
      standAt apos.atName
      let (f, first) ← holding [ov] (getMethod ov m pl)
      callWith pos f first (backTo pos (starEach (e :: es) X.env)) (backToKw pos (keywordEach [] X.env))) := by rfl) :
    PE X (.Call (.Attribute o m apos) (e :: es) [] pos) (tMethG C m n 0 idx dvs sp E ta t tNil) := by
  refine ⟨fun pins s σ H Q I h => ?_⟩
  refine PySem.W.methodCall_KW (pl := pl) (thn (he.run pins s σ H _ I h) fun u s1 ⟨x, H1, I1, rx, a, dx, fs, ex, ea, l, q⟩ => ?_) ht
  subst ex
  obtain rfl : u = Value.ref a := rx
  refine getmeth_ok I1 ea c hm l ?_
  refine PySem.W.callWith_K (first := [.ref a]) (h₀ := X.base) I.ok.mod.kin hm.kp (thn (ha.run pos pins s1 σ H1 _ I1 q) fun us s2 ⟨vs, H2, I2, r, l1, l2, q2⟩ => ⟨I2.kIn, ?_⟩) hst hpl
  exact run_fnG (us := .ref a :: us) (vs := .ref a :: vs) (ks := []) (ws := []) (zs := []) F hr hb (hx σ) I2 (.cons rfl r) .nil l1 rfl q2
theorem pe_m0 {pl : Sem Bool} (he : PE X o ta) (c : Cls X.K C) (hm : Meth X.K C m f) (F : FnOk X.prog X.w X.K X.mg X.base CX k f fd ps sp) (hr : Room k X.A) (hb : CallB X.K fd ps n [] idx dvs) (hx : ∀ σ, PassesAt CX X σ (E σ))
    (ht : eval (.Call (.Attribute o m apos) [] [] pos) X.env = (do
      let ov ← eval o X.env
      standAt apos.atName
      let (f, first) ← holding [ov] (getMethod ov m pl)
      callWith pos f first (backTo pos (starEach [] X.env)) (backToKw pos (keywordEach [] X.env))) := by rfl) :
    PE X (.Call (.Attribute o m apos) [] [] pos) (tMethG C m n 0 idx dvs sp E ta tNil tNil) := by
  refine ⟨fun pins s σ H Q I h => ?_⟩
  refine PySem.W.methodCall_KW (pl := pl) (thn (he.run pins s σ H _ I h) fun u s1 ⟨x, H1, I1, rx, a, dx, fs, ex, ea, l, q⟩ => ?_) ht
  subst ex
  obtain rfl : u = Value.ref a := rx
  refine getmeth_ok I1 ea c hm l ?_
  obtain ⟨l1, l2, q⟩ := q
  exact PySem.W.callWith_K0 (first := [.ref a]) I1.kIn hm.kp (run_fnG (us := [.ref a]) (vs := [.ref a]) (ks := []) (ws := []) (zs := []) F hr hb (hx σ) I1 (.cons rfl .nil) .nil l1 rfl q)
def tMakeG (C : Addr) (n r : Nat) (idx : List Nat) (dvs : List V) (sp : Sp) (E : L2.St → XK) (t tk : TA) : TE := fun σ H Q => t σ H fun vs H1 => tk σ H1 fun zs H2 => vs.length + 1 = n ∧ zs.length = r ∧ ∀ x dx, H2 x = none → H2 dx = none → dx ≠ x →
  sp (pickL idx ((.ref x :: vs) ++ zs ++ dvs)) (upd (upd H2 dx (.own x)) x (.ins C dx [])) (fun v H3 => v = .non ∧ Q (.ref x) H3) (E σ)
theorem run_makeG {pins : List (Addr × Obj)} {σ : L2.St} {H : Hp} {s : Shared} {Q : VK} {us ws : List Value} {vs zs : List V} (M : Mk X.K C f) (F : FnOk X.prog X.w X.K X.mg X.base CX k f fd ps sp) (hr : Room (k + 1) X.A) (hb : CallB X.K fd ps n ks idx dvs)
    (hx : PassesAt CX X σ (E σ)) (I : Inv X pins σ H s) (r : Vals vs us) (rz : Vals zs ws) (l1 : vs.length + 1 = n) (l2 : zs.length = ks.length)
    (h : ∀ x dx, H x = none → H dx = none → dx ≠ x → sp (pickL idx ((.ref x :: vs) ++ zs ++ dvs)) (upd (upd H dx (.own x)) x (.ins C dx [])) (fun v H2 => v = .non ∧ Q (.ref x) H2) (E σ)) :
    wpAny (model X.prog X.w) X.A (call (.ref C) us (ks.zip ws)) (EP X pins σ Q) X.xe s := by
  have hq := h (s.heap.objs.size + 1) s.heap.objs.size (I.hok.fresh (Nat.le_succ _)) (I.hok.fresh (Nat.le_refl _)) (Nat.ne_of_lt (Nat.lt_succ_self _))
  have I2 := Inv.made (C := C) I
  obtain ⟨its, rd, hb⟩ := hb.ex
  have r1 : Vals (V.ref (s.heap.objs.size + 1) :: vs) (Value.ref (s.heap.objs.size + 1) :: us) := .cons rfl r
  have l3 : (Value.ref (s.heap.objs.size + 1) :: us).length = n := by rw [← r1.length]; exact l1
  refine wpAny_call (make_map (f := f) I.kIn M.makes M.init (beq_iff_eq.mp M.fn) (codeAny_mono (F.run _ X.stack _ _ ⟨Value.ref (s.heap.objs.size + 1) :: us, ks.zip ws⟩ (pickL idx ((Value.ref (s.heap.objs.size + 1) :: us) ++ ws ++ its)) _ _ (E σ) (hr.make C us (ks.zip ws))
    (I2.env0.make C us (ks.zip ws)) (hb _ (Value.ref (s.heap.objs.size + 1) :: us) ws I2.kIn l3 (rz.length.symm.trans l2)) (vals_pick ((r1.append rz).append rd) idx) hq) fun r s' hq' => ?_))
  cases r with
  | error e => exact hx pins _ _ e s' I2 hq'
  | ok fl =>
    cases fl with
    | ret u =>
      obtain ⟨v, H', I3, rv, ev, q3⟩ := I2.after hq'
      subst ev
      exact ⟨rv, ⟨V.ref (s.heap.objs.size + 1), H', I3, rfl, q3⟩⟩
    | next => exact False.elim hq'
    | brk => exact False.elim hq'
    | cont => exact False.elim hq'
theorem pe_kN (M : Mk X.K C f) (F : FnOk X.prog X.w X.K X.mg X.base CX k f fd ps sp) (hr : Room (k + 1) X.A) (hg : Gl X x) (hm : X.mg x = some (.ref C)) (hb : CallB X.K fd ps n [] idx dvs) (hx : ∀ σ, PassesAt CX X σ (E σ))
    (ha : PA X (e :: es) t) (hdb : (x == ("__debug__" : Str)) = false := by decide) (he : starEach (e :: es) X.env = (false, eval e X.env) :: starEach es X.env := by rfl) (hpl : (backTo pos (starEach es X.env)).any (·.1) = false := by rfl) :
    PE X (.Call (.Name x p) (e :: es) [] pos) (tMakeG C n 0 idx dvs sp E t tNil) := by
  refine ⟨fun pins s σ H Q I h => ?_⟩
  refine wpAny_Call_Name_kw (ld_glob I hg hm ?_ hdb)
  refine PySem.W.callWith_K (h₀ := X.base) I.ok.mod.kin M.kp (thn (ha.run pos pins s σ H _ I h) fun us s1 ⟨vs, H1, I1, r, l1, l2, q⟩ => ⟨I1.kIn, ?_⟩) he hpl
  exact run_makeG (ks := []) (ws := []) (zs := []) M F hr hb (hx σ) I1 r .nil l1 rfl q
theorem PE.or {X : Cx} {e : Expr} {t u : TE} (h : PE X e t) (h' : PE X e u) : PE X e (fun σ H Q => t σ H Q ∨ u σ H Q) :=
  ⟨fun pins s σ H Q I z => z.elim (fun z => h.run pins s σ H Q I z) (fun z => h'.run pins s σ H Q I z)⟩
end
section
variable {G : Gm} {W : WX}
def dMeth (c : Nat) (F : List D → Sto → ER) (n r : Nat) (idx : List Nat) (dd : List D) (fo : En → ER) (fa fk : En → AR) : En → ER := fun E => (fo E).bind fun x st => match x with
  | .ptr p => (match stIns st p with
    | some (c', _) => if c' = c then (match fa ⟨E.e, st⟩ with
      | .ok true l st1 => (match fk ⟨E.e, st1⟩ with
        | .ok true z st2 => if l.length + 1 = n ∧ z.length = r then F (pickL idx ((.ptr p :: l) ++ z ++ dd)) st2 else .bad
        | .exc c l st => .exc c l st
        | _ => .bad)
      | .exc c l st => .exc c l st
      | _ => .bad) else .bad
    | none => .bad)
  | _ => .bad
theorem v_meth {c n r : Nat} {m : Str} {F : List D → Sto → ER} {idx : List Nat} {dd : List D} {to : TE} {ta tk : TA} {fo : En → ER} {fa fk : En → AR} (hm : m ∉ G.fn c) (hd : dd.all flat = true) (ho : DEv G W to fo) (ha : DAr G W ta fa) (hk : DAr G W tk fk) : DEv G W (tMethG (G.ca c) m n r idx (dd.map toV) (spF G F) (WE W) to ta tk) (dMeth c F n r idx dd fo fa fk) := by
  intro s t σ e st E k Q post
  refine ho s t σ e st E k _ (RPost.bind post fun mo d st1 t1 v g1 k1 o1 p1 => ?_)
  cases d <;> first | exact p1.elim | skip
  rename_i p
  obtain ⟨a, rfl, hp⟩ := o1.u.ptr
  cases hi : stIns st1 p with
  | none => simp only [hi] at p1; exact p1.elim
  | some cl =>
    obtain ⟨c', l0⟩ := cl
    simp only [hi] at p1
    obtain ⟨hc, p2⟩ := RPost.cond _ _ p1
    clear p1
    have p1 := p2
    clear p2
    subst hc
    obtain ⟨dx, fs, hh, hl, il⟩ := k1.ins hp hi
    refine ⟨a, dx, _, rfl, hh, zip_no fs hm, ha s t1 σ e st1 (E.up g1) k1 _ ?_⟩
    cases q : fa ⟨e, st1⟩ with
    | ok b l st2 =>
      rw [q] at p1
      cases b with
      | false => exact p1.elim
      | true =>
        have p1 : RPost G W t1 σ Q (match fk ⟨e, st2⟩ with
          | .ok true z st2 => if l.length + 1 = n ∧ z.length = r then F (pickL idx ((.ptr p :: l) ++ z ++ dd)) st2 else .bad
          | .exc c l st => .exc c l st
          | _ => .bad) := p1
        intro t2 vs g2 k2 i2 u2
        have i2 := i2 rfl
        refine hk s t2 σ e st2 ((E.up g1).up g2) k2 _ ?_
        cases q2 : fk ⟨e, st2⟩ with
        | ok b2 z st3 =>
          rw [q2] at p1
          cases b2 with
          | false => exact p1.elim
          | true =>
            obtain ⟨hc, p1⟩ := RPost.cond (l.length + 1 = n ∧ z.length = r) (F (pickL idx ((.ptr p :: l) ++ z ++ dd)) st3) p1
            intro t3 zs g3 k3 i3 u3
            have i3 := i3 rfl
            have ip : IsL G t3.as t3.f (.ref a :: vs) (.ptr p :: l) := .cons (.ptr (g3.a _ _ (g2.a _ _ hp))) (i2.up g3.a g3.f)
            exact ⟨by rw [← hc.1]; simp [u2.len], by rw [u3.len]; exact hc.2, t3, _, st3, rfl, k3, isL_pick ((ip.append i3).append (isL_toV hd)) idx, (RPost.step (g2.trans g3) k3 p1).w (fun c x H' h => h)⟩
        | exc c l st3 => rw [q2] at p1; exact fun t' x g' => p1 t' x (g2.trans g')
        | bad => rw [q2] at p1; exact p1
    | exc c l st2 => rw [q] at p1; exact p1
    | bad => rw [q] at p1; exact p1
def isC (c : Nat) (fo : En → ER) (E : En) : Bool := match fo E with
  | .val _ (.ptr n) st => (match stIns st n with | some (c', _) => c' == c | none => false)
  | _ => false
def dAlt (p : En → Bool) (f g : En → ER) : En → ER := fun E => if p E = true then f E else g E
def dMake (c : Nat) (F : List D → Sto → ER) (n r : Nat) (idx : List Nat) (dd : List D) (fa fk : En → AR) : En → ER := fun E => match fa E with
  | .ok true l st => (match fk ⟨E.e, st⟩ with
    | .ok true z st1 => if l.length + 1 = n ∧ z.length = r then (match F (pickL idx ((.ptr st1.length :: l) ++ z ++ dd)) (st1 ++ [.ins c []]) with
      | .val _ .non st2 => .val .P (.ptr st1.length) st2
      | .exc c l st => .exc c l st
      | _ => .bad) else .bad
    | .exc c l st => .exc c l st
    | _ => .bad)
  | .exc c l st => .exc c l st
  | _ => .bad
theorem v_make {c n r : Nat} {F : List D → Sto → ER} {idx : List Nat} {dd : List D} {ta tk : TA} {fa fk : En → AR} (hd : dd.all flat = true) (ha : DAr G W ta fa) (hk : DAr G W tk fk) : DEv G W (tMakeG (G.ca c) n r idx (dd.map toV) (spF G F) (WE W) ta tk) (dMake c F n r idx dd fa fk) := by
  intro s t σ e st E k Q post
  unfold dMake at post
  refine ha s t σ e st E k _ ?_
  cases q : fa ⟨e, st⟩ with
  | ok b l st2 =>
    rw [q] at post
    cases b with
    | false => exact post.elim
    | true =>
      have post : RPost G W t σ Q (match fk ⟨e, st2⟩ with
        | .ok true z st1 => if l.length + 1 = n ∧ z.length = r then (match F (pickL idx ((.ptr st1.length :: l) ++ z ++ dd)) (st1 ++ [.ins c []]) with
          | .val _ .non st2 => .val .P (.ptr st1.length) st2
          | .exc c l st => .exc c l st
          | _ => .bad) else .bad
        | .exc c l st => .exc c l st
        | _ => .bad) := post
      intro t2 vs g2 k2 i2 u2
      have i2 := i2 rfl
      refine hk s t2 σ e st2 (E.up g2) k2 _ ?_
      cases q2 : fk ⟨e, st2⟩ with
      | ok b2 z st3 =>
        rw [q2] at post
        cases b2 with
        | false => exact post.elim
        | true =>
          obtain ⟨hc, post⟩ := RPost.cond (l.length + 1 = n ∧ z.length = r) _ post
          intro t3 zs g3 k3 i3 u3
          have i3 := i3 rfl
          refine ⟨by rw [u2.len]; exact hc.1, by rw [u3.len]; exact hc.2, fun x dx hx hdx hne => ?_⟩
          have g4 := Gro.loose (o := .own x) k3 hdx
          have k4 := k3.loose (o := .own x) hdx
          have hx4 : upd t3.h dx (.own x) x = none := by rw [upd_ne (fun z => hne z.symm)]; exact hx
          have g5 := Gro.loose (o := .ins (G.ca c) dx []) k4 hx4
          have k5 := k4.loose (o := .ins (G.ca c) dx []) hx4
          have hf5 : t3.f x = none := k3.sf.free hx
          have hx0 : t.h x = none := by
            cases qx : t.h x with
            | none => rfl
            | some o =>
              by_cases i : x ∈ t.as
              · exact absurd ((g2.trans g3).a.mem i) (k3.new hx)
              · rw [(g2.trans g3).h x o qx i] at hx; cases hx
          have g6 := ((g2.trans g3).trans (g4.trans g5)).put k5 hx0 hf5
          have k6 : StOk G ⟨t3.as ++ [x], t3.f, upd (upd t3.h dx (.own x)) x (.ins (G.ca c) dx [])⟩ (st3 ++ [.ins c []]) :=
            k5.put (o := .ins c []) hf5 (k3.new hx) ⟨dx, [], by show upd _ x _ x = _; rw [upd_same, List.zip_nil_right], Nat.zero_le _, .nil⟩
          have hpx : (t3.as ++ [x])[st3.length]? = some x := by
            rw [← k3.len, List.getElem?_append_right (Nat.le_refl _)]; simp
          have ip : IsL G (t3.as ++ [x]) t3.f (.ref x :: vs) (.ptr st3.length :: l) := .cons (.ptr hpx) ((i2.up g3.a g3.f).up (Ext.app _ _) (Same.refl _))
          refine ⟨⟨t3.as ++ [x], t3.f, upd (upd t3.h dx (.own x)) x (.ins (G.ca c) dx [])⟩, _, st3 ++ [.ins c []], rfl, k6, isL_pick ((ip.append (i3.up (Ext.app _ _) (Same.refl _))).append (isL_toV hd)) idx, ?_⟩
          cases q3 : F (pickL idx ((.ptr st3.length :: l) ++ z ++ dd)) (st3 ++ [.ins c []]) with
          | val m d st4 =>
            rw [q3] at post
            cases d <;> first | exact post.elim | skip
            intro t7 v g7 k7 o7
            obtain rfl := o7.u.non
            exact ⟨rfl, post t7 _ (g6.trans g7) k7 (.ptr (g7.a _ _ hpx))⟩
          | exc c l st4 =>
            rw [q3] at post
            exact fun t7 x7 g7 k7 o7 => post t7 x7 (g6.trans g7) k7 o7
          | bad => rw [q3] at post; exact post.elim
      | exc c l st3 => rw [q2] at post; exact fun t' x g' => post t' x (g2.trans g')
      | bad => rw [q2] at post; exact post
  | exc c l st1 => rw [q] at post; exact post
  | bad => rw [q] at post; exact post
end
end Dn
namespace Dn
open PySem PySem.Spec PyProof.Rows L2
section
variable {G : Gm} {W : WX}
def ItOkE (G : Gm) (s : Hs) (σ : L2.St) (e : DE) (vs : List Nat) (t1 : Hs) (J : It) (l : List D) : Prop := ∀ (i : Nat) (t : Hs) (st : Sto), Up t1 t → EnvOk G s t (L2.wipe σ vs) (wipeE e vs) → StOk G t st → (l.length ≤ i → J.stop i t.h) ∧
  ∀ d, l[i]? = some d → J.go i t.h ∧ ∀ x H', J.yld i t.h x H' → ∃ t', t'.h = H' ∧ Gro t t' ∧ StOk G t' st ∧ Is G t'.as t'.f x d
def IPostE (G : Gm) (W : WX) (s : Hs) (e : DE) (vs : List Nat) (t : Hs) (σ : L2.St) (R : It → Hp → Prop) : AR → Prop
  | .ok _ l st => ∀ t' J, Gro t t' → StOk G t' st → ItOkE G s σ e vs t' J l → R J t'.h
  | .exc c l st => ∀ t' x, Gro t t' → StOk G t' st → ExcOk G t' c l x → W (.ref (G.ca c)) x σ t'.h
  | .bad => False
def DItE (G : Gm) (W : WX) (vs : List Nat) (wi : TI) (f : En → AR) : Prop := ∀ s t σ e st, EnvOk G s t σ e → StOk G t st → ∀ R : It → Hp → Prop, IPostE G W s e vs t σ R (f ⟨e, st⟩) → wi σ t.h R
theorem DIt.e {vs : List Nat} {wi : TI} {f : En → AR} (h : DIt G W wi f) : DItE G W vs wi f := by
  intro s t σ e st E k R post
  refine h s t σ e st E k R ?_
  cases q : f ⟨e, st⟩ with
  | ok p l st1 => rw [q] at post; exact fun t' J g k' it => post t' J g k' fun i t2 st2 u _ k2 => it i t2 st2 u k2
  | exc c l st1 => rw [q] at post; exact post
  | bad => rw [q] at post; exact post
def dIterV (i : Nat) : En → AR := fun E => match E.e[i]? with
  | some (.own l) => .ok false l E.st
  | _ => dIter (dVar i) E
theorem wipe_get {σ : L2.St} {e : DE} {i : Nat} : ∀ {vs : List Nat}, i ∉ vs → (L2.wipe σ vs)[i]? = σ[i]? ∧ (wipeE e vs)[i]? = e[i]?
  | [], _ => ⟨rfl, rfl⟩
  | v :: vs, h => by
    have h' : i ≠ v ∧ i ∉ vs := by simpa using h
    obtain ⟨a, b⟩ := wipe_get (σ := σ) (e := e) h'.2
    refine ⟨L2.wipe_out h, ?_⟩
    unfold wipeE
    rw [List.getElem?_set_ne (Ne.symm h'.1)]
    exact b
theorem i_own {i : Nat} {vs : List Nat} (hi : i ∉ vs) : DItE G W vs (iAny G.K (tVar i)) (dIterV i) := by
  intro s t σ e st E k R post
  unfold dIterV at post
  split at post
  · rename_i l q
    obtain ⟨o, h1, p, ws, rfl, a, b, c, d, f⟩ := E.slot q
    refine .inl ⟨_, h1, p, rfl, ⟨_, SqL.of c⟩, post t _ (Gro.refl k) k ?_⟩
    intro j t2 st2 u E2 k2
    obtain ⟨w1, w2⟩ := wipe_get (σ := σ) (e := e) hi
    obtain ⟨o2, g1, p2, vs2, g2, a2, b2, c2, d2, f2⟩ := E2.slot (w2.trans q)
    have w1' := w1.trans h1
    rw [g1] at w1'
    cases w1'
    cases g2
    refine ⟨fun hj => ⟨vs2, SqL.of c2, by rw [d2.len]; exact hj⟩, fun x hx => ?_⟩
    obtain ⟨v, v1, v2⟩ := d2.get hx
    refine ⟨⟨vs2, v, SqL.of c2, v1⟩, fun y H' z => ?_⟩
    obtain ⟨rfl, z⟩ := z
    have := z vs2 (SqL.of c2)
    rw [v1] at this; cases this
    exact ⟨t2, rfl, Gro.refl k2, k2, v2⟩
  · exact (DIt.e (vs := vs) (i_any v_var)) s t σ e st E k R post
theorem v_lcE {wi : TI} {g : TG} {tt : TT} {te : TE} {vs js : List Nat} {src : En → AR} {t : D → DE → Option DE} {c f : En → ER} (hi : DItE G W vs wi src) (hg : DTg G g js t) (hj : ∀ j ∈ js, j ∈ vs) (ht : DTt G W0 tt c) (he : DEv G W0 te f) : DEv G W (tLc wi g tt te vs) (dLc src t c f vs) := by
  intro s t0 σ e st E k0 Q post
  refine hi s t0 σ e st E k0 _ ?_
  unfold dLc at post
  cases q : src ⟨e, st⟩ with
  | ok p l st1 =>
    rw [q] at post
    obtain ⟨hlen, post⟩ := RPost.cond _ _ post
    obtain ⟨out, hout, post⟩ := RPost.opt _ _ post
    intro t1 J g1 k1 it Dl hD
    have hDH : t0.h Dl = none := by
      cases q : t0.h Dl with
      | none => rfl
      | some o =>
        by_cases i : Dl ∈ t0.as
        · exact absurd (g1.a.mem i) (k1.new hD)
        · rw [g1.h Dl o q i] at hD; cases hD
    have hD0 : s.h Dl = none := by
      cases q : s.h Dl with
      | none => rfl
      | some o =>
        by_cases i : Dl ∈ s.as
        · exact absurd (E.gr.a.mem i) (k0.new hDH)
        · rw [E.gr.h Dl o q i] at hDH; cases hDH
    have hDf : t1.f Dl = none := k1.sf.free hD
    have hDa : Dl ∉ t1.as := k1.new hD
    have Ew := (E.up g1).wipe vs
    have hne : ∀ (j : Nat) (m : List D), (L2.wipe σ vs)[j]? = some (some (.ref Dl)) → (wipeE e vs)[j]? = some (.own m) → False := fun j m a b => by
      obtain ⟨o, h1, p', vs', h2, _, _, h3, _⟩ := Ew.slot b
      rw [a] at h1; cases h1
      cases h2
      rw [hD] at h3; cases h3
    have gd := g1.chg (o := .lst []) hDH hDf
    refine ⟨fun i m H' => m = l.length - i ∧ i ≤ l.length ∧ ∃ t2 st2 acc vacc rest, t2.h = H' ∧ Up t1 t2 ∧ Gro t0 t2 ∧ StOk G t2 st2 ∧ EnvOk G s t2 (L2.wipe σ vs) (wipeE e vs) ∧ t2.h Dl = some (.lst vacc) ∧ IsL G t2.as t2.f vacc acc ∧ t2.f Dl = none ∧ Dl ∉ t2.as ∧ acc.length ≤ i ∧
      lcGo (lcStep t c f (wipeE e vs)) (l.drop i) st2 = some (rest, out.2) ∧ acc ++ rest = out.1, ⟨l.length, by simp, Nat.zero_le _, ⟨t1.as, t1.f, upd t1.h Dl (.lst [])⟩, st1, [], [], out.1, rfl, ⟨Ext.refl _, Same.refl _⟩, gd, k1.chg hDf hDa, Ew.other hD0 hDf hne, upd_same, .nil, hDf, hDa, Nat.zero_le _, hout, rfl⟩, ?_⟩
    rintro i m H2 ⟨rfl, hi, t2, st2, acc, vacc, rest, rfl, s2, g2, k2, E2, d2, a2, n2, na2, l2, r2, o2⟩
    obtain ⟨i1, i2⟩ := it i t2 st2 s2 E2 k2
    by_cases hlt : i < l.length
    · right
      have hd : l[i]? = some l[i] := List.getElem?_eq_getElem hlt
      obtain ⟨go, y⟩ := i2 _ hd
      rw [List.drop_eq_getElem_cons hlt] at r2
      refine ⟨go, fun H' => i + 1 ≤ l.length ∧ ∃ t2 st2 acc vacc rest, t2.h = H' ∧ Up t1 t2 ∧ Gro t0 t2 ∧ StOk G t2 st2 ∧ EnvOk G s t2 (L2.wipe σ vs) (wipeE e vs) ∧ t2.h Dl = some (.lst vacc) ∧ IsL G t2.as t2.f vacc acc ∧ t2.f Dl = none ∧ Dl ∉ t2.as ∧ acc.length ≤ i + 1 ∧
        lcGo (lcStep t c f (wipeE e vs)) (l.drop (i + 1)) st2 = some (rest, out.2) ∧ acc ++ rest = out.1, fun H' h => ⟨l.length - (i + 1), by omega, rfl, h⟩, fun x H' hy => ?_⟩
      obtain ⟨t3, rfl, g3, k3, i3⟩ := y x H' hy
      unfold lcGo at r2
      cases sk : lcStep t c f (wipeE e vs) l[i] st2 with
      | none => rw [sk] at r2; cases r2
      | some o =>
        rw [sk] at r2
        have r2 : ((lcGo (lcStep t c f (wipeE e vs)) (l.drop (i + 1)) o.2).bind fun r => some (o.1.toList ++ r.1, r.2)) = some (rest, out.2) := r2
        cases lg : lcGo (lcStep t c f (wipeE e vs)) (l.drop (i + 1)) o.2 with
        | none => rw [lg] at r2; cases r2
        | some rest' =>
          rw [lg] at r2
          have r3 : (o.1.toList ++ rest'.1, rest'.2) = (rest, out.2) := Option.some.inj r2
          have r4 : o.1.toList ++ rest'.1 = rest := (Prod.mk.inj r3).1
          have r5 : rest'.2 = out.2 := (Prod.mk.inj r3).2
          have lg' : lcGo (lcStep t c f (wipeE e vs)) (l.drop (i + 1)) o.2 = some (rest'.1, out.2) := by rw [lg, ← r5]
          unfold lcStep at sk
          cases q3 : t l[i] (wipeE e vs) with
          | none => rw [q3] at sk; cases sk
          | some e3 =>
            rw [q3] at sk
            refine hg s t3 (L2.wipe σ vs) (wipeE e vs) st2 x l[i] (E2.up g3) k3 i3 _ e3 q3 fun σ4 E4 l4 w4 => ?_
            refine ⟨wipe_agree (by rw [l4, L2.wipe_length]) hj w4 l4, ?_⟩
            refine ht s t3 σ4 e3 st2 E4 k3 _ ?_
            have sk' : (match c ⟨e3, st2⟩ with
              | .val _ (.bl b) st1 => if b = true then (match f ⟨e3, st1⟩ with | .val .P y st2 => some (some y, st2) | .val .N y st2 => some (some y, st2) | _ => none) else some (none, st1)
              | _ => none) = some o := sk
            cases q4 : c ⟨e3, st2⟩ with
            | exc k l st => rw [q4] at sk'; cases sk'
            | bad => rw [q4] at sk'; cases sk'
            | val mm d st4 =>
              rw [q4] at sk'
              cases d with
              | bl b =>
                intro t5 g5 k5
                have gg := g3.trans g5
                cases b with
                | false =>
                  cases sk'
                  refine iteF ⟨hlt, t5, st4, acc, vacc, rest'.1, rfl, s2.trans gg.up, g2.trans gg, k5, E2.up gg, gg.h _ _ d2 na2, a2.up gg.a gg.f, gg.n _ _ d2 n2, (fun m => (gg.w Dl m).elim na2 fun z => by rw [d2] at z; cases z), by omega, lg', ?_⟩
                  rw [← o2, ← r4]; rfl
                | true =>
                  refine iteT (he s t5 σ4 e3 st4 (E4.up g5) k5 _ ?_)
                  have fin : ∀ y st6 t6 v, Gro t5 t6 → StOk G t6 st6 → Is G t6.as t6.f v y → o = (some y, st6) → ∃ acc, t6.h Dl = some (.lst acc) ∧ acc.length < sizeLine ∧ (i + 1 ≤ l.length ∧ ∃ t2 st2 acc_1 vacc rest, t2.h = upd t6.h Dl (.lst (acc ++ [v])) ∧ Up t1 t2 ∧ Gro t0 t2 ∧ StOk G t2 st2 ∧ EnvOk G s t2 (L2.wipe σ vs) (wipeE e vs) ∧
                      t2.h Dl = some (.lst vacc) ∧ IsL G t2.as t2.f vacc acc_1 ∧ t2.f Dl = none ∧ Dl ∉ t2.as ∧ acc_1.length ≤ i + 1 ∧ lcGo (lcStep t c f (wipeE e vs)) (l.drop (i + 1)) st2 = some (rest, out.2) ∧ acc_1 ++ rest = out.1) := fun y st6 t6 v g6 k6 i6 ho => by
                    subst ho
                    have gh := gg.trans g6
                    have nn := gh.n _ _ d2 n2
                    have na : Dl ∉ t6.as := fun m => (gh.w Dl m).elim na2 fun z => by rw [d2] at z; cases z
                    have cl := a2.len
                    refine ⟨vacc, gh.h _ _ d2 na2, by rw [cl]; exact szlt (by omega), hlt, ⟨t6.as, t6.f, upd t6.h Dl (.lst (vacc ++ [v]))⟩, st6, acc ++ [y], vacc ++ [v], rest'.1, rfl, ?_, (g2.trans gh).chg hDH nn, k6.chg nn na, (E2.up gh).other hD0 nn hne, upd_same, (a2.up gh.a gh.f).append (.one i6), nn, na, by simp; omega, lg', ?_⟩
                    · exact ⟨s2.a.trans gh.a, s2.f.trans gh.f⟩
                    · rw [← o2, ← r4]
                      simp
                  have sk2 : (match f ⟨e3, st4⟩ with | .val .P y st2 => some (some y, st2) | .val .N y st2 => some (some y, st2) | _ => none) = some o := sk'
                  cases q6 : f ⟨e3, st4⟩ with
                  | val m6 y st6 =>
                    rw [q6] at sk2
                    intro t6 v g6 k6 o6
                    cases m6 with
                    | P => exact fin y st6 t6 v g6 k6 o6 (Option.some.inj sk2).symm
                    | B => cases sk2
                    | N =>
                      obtain ⟨f7, g7, k7, _, i7⟩ := o6.freeze g6 k6 (by decide)
                      exact fin y st6 ⟨t6.as, f7, t6.h⟩ v g7 k7 i7 (Option.some.inj sk2).symm
                  | exc k l st => rw [q6] at sk2; cases sk2
                  | bad => rw [q6] at sk2; cases sk2
              | _ => cases sk'
    · left
      have : i = l.length := by omega
      subst this
      refine ⟨i1 (Nat.le_refl _), ?_⟩
      rw [List.drop_length] at r2
      have r3 : (([] : List D), st2) = (rest, out.2) := Option.some.inj r2
      have r4 : [] = rest := (Prod.mk.inj r3).1
      have r5 : st2 = out.2 := (Prod.mk.inj r3).2
      subst r4
      rw [List.append_nil] at o2
      rw [← o2, ← r5] at post
      exact post t2 _ g2 k2 ⟨Dl, vacc, acc, rfl, rfl, d2, a2, na2, hDH, n2⟩
  | exc c l st1 => rw [q] at post; exact post
  | bad => rw [q] at post; exact post
end
end Dn
namespace Dn
open PySem PySem.Spec PyProof.Rows L2
section
variable {G : Gm} {W : WX}
def boolsOf : List D → Option (List Bool)
  | [] => some []
  | .bl i :: l => (boolsOf l).map (i :: ·)
  | _ => none
theorem boolsOf_V {as : List Addr} {H : Hp} : ∀ {l : List D} {vs : List V} {ns : List Bool}, boolsOf l = some ns → IsL G as H vs l → vs = ns.map V.bl
  | [], _, _, h, i => by cases i; cases h; rfl
  | d :: l, _, ns, h, i => by
    cases i with
    | cons a b =>
      cases d <;> first | (cases h; done) | skip
      rename_i i
      have h' : (boolsOf l).map (i :: ·) = some ns := h
      cases q : boolsOf l with
      | none => rw [q] at h'; cases h'
      | some ms =>
        rw [q] at h'; cases h'
        cases a
        rw [boolsOf_V q b]; rfl
def oAll : List D → Sto → ER
  | [.lst l], st => ofOpt (boolsOf l) fun ns => .val .P (.bl (ns.all id)) st
  | _, _ => .bad
def oAny : List D → Sto → ER
  | [.lst l], st => ofOpt (boolsOf l) fun ns => .val .P (.bl (ns.any id)) st
  | _, _ => .bad
theorem c_all : DCal G (rAll G.K) oAll := by
  refine DCal.one1 (fun _ => rfl) (fun a b l _ => by cases a <;> rfl) fun W σ s st v d k hv Q post => ?_
  cases d <;> try exact post.elim
  rename_i l
  obtain ⟨p, vs, rfl, hp, hl⟩ := hv.lst k.sf
  obtain ⟨ns, h, post⟩ := RPost.opt (boolsOf l) (fun ns => .val .P (.bl (ns.all id)) st) post
  have := boolsOf_V h hl
  subst this
  exact ⟨p, ns, rfl, SqL.of hp, post.now k (.bl _)⟩
theorem c_any : DCal G (rAny G.K) oAny := by
  refine DCal.one1 (fun _ => rfl) (fun a b l _ => by cases a <;> rfl) fun W σ s st v d k hv Q post => ?_
  cases d <;> try exact post.elim
  rename_i l
  obtain ⟨p, vs, rfl, hp, hl⟩ := hv.lst k.sf
  obtain ⟨ns, h, post⟩ := RPost.opt (boolsOf l) (fun ns => .val .P (.bl (ns.any id)) st) post
  have := boolsOf_V h hl
  subst this
  exact ⟨p, ns, rfl, SqL.of hp, post.now k (.bl _)⟩
def oRev : D → Sto → ER
  | .lst l, st => .val .N (.lst l.reverse) st
  | .ptr n, st => ofOpt (stLst st n) fun l => .val .N (.lst l.reverse) st
  | _, _ => .bad
def dRev (f : En → ER) : En → ER := fun E => (f E).bind oRev
def mClear (l ds : List D) : Option (D × List D) := match ds with
  | [] => some (.non, [])
  | _ => none
def dMtX (op : List D → List D → Option (D × List D)) (fb : En → ER) (fa : En → AR) : En → ER := fun E => match fb E with
  | .val .N (.lst l) st => (match fa ⟨E.e, st⟩ with
    | .ok true ds st1 => (match op l ds with | some o => .val .P o.1 st1 | none => .bad)
    | .exc c l st => .exc c l st
    | _ => .bad)
  | _ => dMtP op fb fa E
end
end Dn
namespace Dn
open PySem PySem.Spec PyProof.Rows L2
section
variable {G : Gm} {W : WX}
def inL (d : D) (l : List D) : Option Bool := if isPy d = true ∧ isPyL l = true ∧ SeqAt.shaped (py d) = true ∧ SeqAt.shaped (.list (pyL l)) = true then some ((pyL l).any fun z => PyData.eqv z (py d)) else none
def oIn (a b : D) (st : Sto) : ER := match b with
  | .lst l => ofOpt (inL a l) fun r => .val .P (.bl r) st
  | .ptr n => ofOpt (stLst st n) fun l => ofOpt (inL a l) fun r => .val .P (.bl r) st
  | .str z => (match a with
    | .str x => (match x.cps.toList with | [c] => .val .P (.bl (decide (c ∈ z.cps.toList))) st | _ => .bad)
    | _ => .bad)
  | _ => .bad
def oNotIn (a b : D) (st : Sto) : ER := match b with
  | .lst l => ofOpt (inL a l) fun r => .val .P (.bl (!r)) st
  | .ptr n => ofOpt (stLst st n) fun l => ofOpt (inL a l) fun r => .val .P (.bl (!r)) st
  | .str z => (match a with
    | .str x => (match x.cps.toList with | [c] => .val .P (.bl (!decide (c ∈ z.cps.toList))) st | _ => .bad)
    | _ => .bad)
  | _ => .bad
end
end Dn
namespace Dn
open PySem PySem.Spec PyProof.Rows L2
section
variable {G : Gm} {W : WX}
def srt (ns : List Int) : List Int := ns.mergeSort (fun a b => decide (a ≤ b))
theorem srt_perm (ns : List Int) : (srt ns).Perm ns := List.mergeSort_perm _ _
theorem srt_pw (ns : List Int) : (srt ns).Pairwise (· ≤ ·) := by
  have := List.pairwise_mergeSort (le := fun a b : Int => decide (a ≤ b)) (by intro a b c; simp; omega) (by intro a b; simp; omega) ns
  simpa [srt] using this
theorem srt_is {ns ms : List Int} (h : ms.Perm ns) (p : ms.Pairwise (· ≤ ·)) : ms = srt ns :=
  List.Perm.eq_of_pairwise (le := (· ≤ ·)) (fun a b _ _ h1 h2 => Int.le_antisymm h1 h2) p (srt_pw ns) (h.trans (srt_perm ns).symm)
def oSorted : List D → Sto → ER
  | [.lst l], st => ofOpt (intsOf l) fun ns => if ns.length < 64 then .val .N (.lst ((srt ns).map .int)) st else .bad
  | _, _ => .bad
def dLr (f : En → ER) : En → ER := fun E => match f E with
  | .val _ (.int n) st => if -4611686018427387904 ≤ n ∧ n ≤ 1000000 then .val .N (.lst (rangeD 0 n.toNat)) st else .bad
  | .exc c l st => .exc c l st
  | _ => .bad
theorem rg_isl {as : List Addr} {H : Hp} (n : Nat) : IsL G as H ((List.range n).map fun i => V.int (0 + (i : Nat))) (rangeD 0 n) := by
  unfold rangeD
  induction List.range n with
  | nil => exact .nil
  | cons i l ih => exact .cons (.int _) ih
theorem v_lr {ta : TE} {f : En → ER} (h : DEv G W ta f) : DEv G W (tLstRg (tRg1 ta)) (dLr f) := by
  intro s t σ e st E k Q post
  refine h s t σ e st E k _ ?_
  unfold dLr at post
  cases q : f ⟨e, st⟩ with
  | val m d st1 =>
    rw [q] at post
    cases d <;> first | exact post.elim | skip
    rename_i n
    obtain ⟨c, post⟩ := RPost.cond (-4611686018427387904 ≤ n ∧ n ≤ 1000000) (.val .N (.lst (rangeD 0 n.toNat)) st1) post
    intro t1 v g1 k1 o1
    obtain rfl := o1.u.int
    refine ⟨n, rfl, ⟨by decide, by decide, by omega, by omega, by omega⟩, fun r hr => ?_⟩
    have : rgV 0 n = (List.range n.toNat).map fun i => V.int (0 + (i : Nat)) := by unfold rgV; rw [Int.sub_zero]
    rw [this]
    exact (RPost.step g1 k1 post).newL k1 (rg_isl _) hr
  | exc c l st1 => rw [q] at post; exact post
  | bad => rw [q] at post; exact post
end
end Dn
namespace Dn
open PySem PySem.Spec PyProof.Rows L2 LamX
structure Alike (G G' : Gm) : Prop where
  K : G'.K = G.K
  ca : G'.ca = G.ca
  fn : G'.fn = G.fn
  tb : G'.tb = G.tb
  ed : G'.ed = G.ed
  en : G'.en = G.en
  el : G'.el = G.el
theorem Alike.symm {G G' : Gm} (a : Alike G G') : Alike G' G := ⟨a.K.symm, a.ca.symm, a.fn.symm, a.tb.symm, a.ed.symm, a.en.symm, a.el.symm⟩
mutual
theorem Is.sw {G G' : Gm} (a : Alike G G') {as : List Addr} {H : Hp} : ∀ (d : D) {v : V}, Is G as H v d → Is G' as H v d
  | .non, _, h => by cases h; exact .non
  | .bl _, _, h => by cases h; exact .bl _
  | .int _, _, h => by cases h; exact .int _
  | .str _, _, h => by cases h; exact .str _
  | .tup ds, _, h => by cases h with | tup p b => exact .tup (by rw [a.K]; exact p) (IsL.sw a ds b)
  | .lst ds, _, h => by cases h with | lst p b => exact .lst p (IsL.sw a ds b)
  | .scr l, _, h => by cases h with | scr p => exact .scr (by rw [a.K]; exact p)
  | .ptr n, _, h => by cases h with | ptr p => exact .ptr p
  | .obj c ds, _, h => by cases h with | obj p l b => exact .obj (by rw [a.ca, a.fn]; exact p) (by rw [a.fn]; exact l) (IsL.sw a ds b)
theorem IsL.sw {G G' : Gm} (a : Alike G G') {as : List Addr} {H : Hp} : ∀ (ds : List D) {vs : List V}, IsL G as H vs ds → IsL G' as H vs ds
  | [], _, h => by cases h; exact .nil
  | d :: ds, _, h => by cases h with | cons p b => exact .cons (Is.sw a d p) (IsL.sw a ds b)
end
section
variable {G G' : Gm} (a : Alike G G')
include a
theorem ObOk.sw {s : Hs} {x : Addr} {o : Ob} (h : ObOk G s x o) : ObOk G' s x o := by
  cases o with
  | lst l => obtain ⟨vs, h1, h2⟩ := h; exact ⟨vs, h1, IsL.sw a _ h2⟩
  | ins c l => obtain ⟨dx, vs, h1, h2, h3⟩ := h; exact ⟨dx, vs, by rw [a.ca, a.fn]; exact h1, by rw [a.fn]; exact h2, IsL.sw a _ h3⟩
  | tbl q => exact h
  | dct l => obtain ⟨kvs, h1, h2⟩ := h; exact ⟨kvs, h1, by
      clear h1
      induction h2 with
      | nil => exact .nil
      | cons p q ih => exact .cons (Is.sw a _ p) ih⟩
theorem StOk.sw {s : Hs} {st : Sto} (k : StOk G s st) : StOk G' s st := ⟨k.sf, k.len, k.nd, fun n x o h1 h2 => ObOk.sw a (k.ob n x o h1 h2), k.nf, by rw [a.tb]; exact k.tb, fun da h => by
  rw [a.ed] at h
  obtain ⟨xs, h1, h2, h3⟩ := k.ex da h
  rw [a.en, a.el]
  exact ⟨xs, h1, h2, IsL.sw a _ h3⟩⟩
theorem VOk.sw {s t : Hs} {m : Md} {v : V} {d : D} (h : VOk G s t m v d) : VOk G' s t m v d := by
  cases m with
  | P => exact Is.sw a _ h
  | B => obtain ⟨p, vs, l, x, b, c, e, f⟩ := h; exact ⟨p, vs, l, x, b, c, IsL.sw a _ e, f⟩
  | N => obtain ⟨p, vs, l, x, b, c, e, f, n, z⟩ := h; exact ⟨p, vs, l, x, b, c, IsL.sw a _ e, f, n, z⟩
theorem RPost.sw {s : Hs} {σ σ' : L2.St} {Q : VK} {r : ER} (h : RPost G' W0 s σ Q r) : RPost G W0 s σ' Q r := by
  cases r with
  | val m d st => exact fun t v g k o => h t v g (StOk.sw a k) (VOk.sw a o)
  | exc c l st =>
    intro t x g k o
    refine h t x g (StOk.sw a k) ?_
    rcases o with o | ⟨da, xs, o1, o2, o3, o4, o5⟩
    · exact .inl o
    · exact .inr ⟨da, xs, o1, o2, by rw [a.fn]; exact o3, by rw [a.fn]; exact o4, IsL.sw a _ o5⟩
  | bad => exact h
end
def slO : Option D → SL
  | some d => .val d
  | none => .emp
def cloOf (e : DE) : List (Option D) := e.map fun s => match s with | .val d => some d | _ => none
def cloE (ds : List (Option D)) (ja jb : Nat) (x y : D) : DE := ((ds.map slO).set ja (.val x)).set jb (.val y)
def startL (n : Nat) (d : D) (ds : List (Option D)) : DE := .val d :: .clo ds :: List.replicate (n - 2) .emp
section
variable {G : Gm}
def dHeld (i : Nat) (h : List (Option D) → D → D → Sto → ER) (fa : En → AR) : En → ER := fun E => match E.e[i]? with
  | some (.clo ds) => (match fa E with
    | .ok true [x, y] st => h ds x y st
    | .exc c l st => .exc c l st
    | _ => .bad)
  | _ => .bad
def valOnly : ER → ER
  | .val m d st => .val m d st
  | _ => .bad
def dLamC (np : Nat) (q : Str) (N : Nat) (g : En → SR) (f1 : En → ER) : En → ER := fun E => match f1 E with
  | .val .B _ _ => .bad
  | .val _ d1 st => (match st[np]? with
    | some (.tbl q') => if q' = q then valOnly (g ⟨startL N d1 (cloOf E.e), st⟩).ret else .bad
    | _ => .bad)
  | .exc c l st => .exc c l st
  | .bad => .bad
end
end Dn
namespace Dn
open PySem PySem.Spec PyProof.Rows L2 LamX
section
variable {G : Gm} {W : WX}
def sBad : En → SR := fun _ => .bad
def dBad : En → ER := fun _ => .bad
end
structure FunC (K : PySem.W.Frag) (x qual : Str) (st : Stmt) (f : Addr) (fd : FuncData) (c : Addr) : Prop where
  ex : ∃ (oc : Value) (od : Option Addr) (kV doc pm : Value) (an : Option Addr) (ct : Value) (osl : Array (Option Value)),
    fd = PySem.W.fnOf x qual (defArgs st) (defBody st) (defScope st) .none kV doc pm an (.ref c) ct ∧ K.lookup f = some ⟨oc, od, .func fd, osl⟩ ∧ PySem.W.codeIn K (.ref c) qual = true
  kp : PySem.W.keepIn K (.ref f) = true
end Dn
namespace Dn
open PySem PySem.Spec PyProof.Rows L2
section
variable {G : Gm} {W : WX}
open Classical in
noncomputable def forPD (n : Nat) (L : List D) (b : D → En → SR) : List D → En → SR
  | [], E => if stLst E.st n = some L then .nx E else .bad
  | x :: xs, E => if stLst E.st n = some L then (match b x E with
    | .nx E' => forPD n L b xs E'
    | .ct E' => forPD n L b xs E'
    | .bk E' => .nx E'
    | r => r) else .bad
noncomputable def sForX (f : En → ER) (t : D → DE → Option DE) (b : En → SR) : En → SR := fun E => match f E with
  | .val _ (.ptr n) st => (match stLst st n with | some l => forPD n l (tgB t b) l ⟨E.e, st⟩ | none => .bad)
  | _ => sFor (dIter f) t b E
def deref (st : Sto) (d : D) : D := match d with
  | .ptr n => (match stLst st n with | some l => .lst l | none => .ptr n)
  | d => d
def oEqX (a b : D) (st : Sto) : ER := oEq (deref st a) (deref st b) st
def oNeX (a b : D) (st : Sto) : ER := oNe (deref st a) (deref st b) st
end
end Dn
namespace Dn
open PySem PySem.Spec PySem.Calls PyProof.Rows L2
structure OwnM (P : Program) (w : World) (K : PySem.W.Frag) (mg : Str → Option Value) (base : Heap) (G : Gm) (m : Str) (n k : Nat) (c : Nat) (F : List D → Sto → ER) : Prop where
  ex : ∃ (f : Addr) (fd : FuncData) (ps : List Str), Meth K (G.ca c) m f ∧ FnOk P w K mg base (L2.CX P w) k f fd ps (spF G F) ∧ L2.Binds K fd ps [] ∧ ps.length = n
theorem cx_false {P : Program} {w : World} {st : List Env} {H : Hp} {s s' : Shared} {e : Value} (h : L2.CX P w st H s (fun _ _ _ => False) e s') : False := by
  obtain ⟨_, _, _, _, _, _, _, _, _, _, _, _, z⟩ := h
  exact z
section
variable {X : Cx} {G : Gm} {pins : List (Addr × Obj)} {σ : L2.St} {H : Hp} {s : Shared}
theorem run_own {m : Str} {n k c : Nat} {F : List D → Sto → ER} (O : OwnM X.prog X.w X.K X.mg X.base G m n k c F) : ∃ f, PySem.W.findIn X.K (.ref (G.ca c)) m = some (some (.ref f)) ∧ PySem.W.isFn X.K (.ref f) = true ∧
    ∀ (A : Around), Room k A → A.frames = X.A.frames → ∀ (pins : List (Addr × Obj)) (σ : L2.St) (H : Hp) (s : Shared) (vs : List V) (us : List Value) (Q : VK), Inv X pins σ H s → Vals vs us → vs.length = n → spF G F vs H Q (fun _ _ _ => False) → wpAny (model X.prog X.w) A (call (.ref f) us) (EP X pins σ Q) X.xe s := by
  obtain ⟨f, fd, ps, hm, hF, hb, hn⟩ := O.ex
  refine ⟨f, hm.at_, hm.fn, fun A hr fr pins σ H s vs us Q I r l h => ?_⟩
  have e := I.env0
  have e0 : Env0 X.prog X.w X.K X.mg X.base A X.stack s H := ⟨by rw [fr]; exact e.frames, e.mod, e.bs, e.bsz, e.funs, e.frf, e.hok, e.bare⟩
  have hbind : BindsTo s fd ⟨us, []⟩ (ps.zip us) := by
    have := hb s us I.kIn (by simp; rw [← r.length, l, hn])
    simpa using this
  refine wpAny_call (codeAny_mono (hF.run A X.stack s H ⟨us, []⟩ us vs Q (fun _ _ _ => False) hr e0 hbind r h) fun res s' hq => ?_)
  cases res with
  | error e => exact (cx_false hq).elim
  | ok fl =>
    cases fl with
    | ret u => exact I.after hq
    | next => exact False.elim hq
    | brk => exact False.elim hq
    | cont => exact False.elim hq
abbrev OwnL := List (Nat × (List D → Sto → ER))
def rLenO (G : Gm) (Os : OwnL) : List V → Hp → VK → Prop := fun xs H Q => ∃ x ∈ Os, ∃ a dx fs, xs = [.ref a] ∧ H a = some (.ins (G.ca x.1) dx fs) ∧ spF G x.2 [.ref a] H (fun v H' => ∃ n : Int, v = .int n ∧ 0 ≤ n ∧ n < 2 ^ 63 ∧ Q (.int n) H') (fun _ _ _ => False)
theorem call_lenO {Os : OwnL} {k : Nat} (hO : ∀ x ∈ Os, OwnM X.prog X.w X.K X.mg X.base G "__len__" 1 k x.1 x.2) (hr : Room (k + 1) X.A) : CallR X (.builtin "len") (rLenO G Os) := by
  intro pins s σ H xs us Q I r h
  obtain ⟨x, hx, a, dx, fs, rfl, ha, h⟩ := h
  obtain ⟨u, rfl, ru⟩ := vals1 r
  obtain rfl : u = Value.ref a := ru
  obtain ⟨f, hs, hf, run⟩ := run_own (hO x hx)
  obtain ⟨mA, J, _⟩ := ins_get I.hok ha
  obtain ⟨od, J, _⟩ := J.look
  obtain ⟨m, hF⟩ := I.fr
  refine PySem.W.len_K hF I.ok.mod.kin J hs hf (wpAny_mono (run X.A.in1 hr.in1 rfl pins σ H s [.ref a] [.ref a] _ I (.cons rfl .nil) rfl h) (fun v s' q => ?_) fun _ _ e => e)
  obtain ⟨v1, H', I', rv, n, rfl, h0, h1, q⟩ := q
  obtain ⟨t, rfl⟩ := rv
  exact ⟨⟨h0, h1⟩, .int n, H', I'.tok _, ⟨_, rfl⟩, q⟩
theorem CallR.or {f : Value} {r r' : List V → Hp → VK → Prop} (h : CallR X f r) (h' : CallR X f r') : CallR X f (fun xs H Q => r xs H Q ∨ r' xs H Q) := by
  intro pins s σ H xs us Q I rr z
  rcases z with z | z
  · exact h pins s σ H xs us Q I rr z
  · exact h' pins s σ H xs us Q I rr z
structure NeC (K : PySem.W.Frag) (C : Addr) : Prop where
  ne : PySem.W.findIn K (.ref C) "__ne__" = some (some (.builtin "object.__ne__"))
  mo : PySem.W.mroIn K C (.type "object") = some true
end
def ownF : OwnL → Nat → Option (List D → Sto → ER)
  | [], _ => none
  | (c', F) :: l, c => if c = c' then some F else ownF l c
theorem ownF_mem : ∀ {Os : OwnL} {c : Nat} {F : List D → Sto → ER}, ownF Os c = some F → (c, F) ∈ Os
  | (c', F') :: l, c, F, h => by
    unfold ownF at h
    split at h
    · rename_i e
      cases h; subst e; exact List.mem_cons_self ..
    · exact List.mem_cons_of_mem _ (ownF_mem h)
section
variable {G : Gm} {W : WX}
def asLen : ER → ER
  | .val _ (.int i) st => if 0 ≤ i ∧ i < 2 ^ 63 then .val .P (.int i) st else .bad
  | _ => .bad
def dLenX (Os : OwnL) (f : En → ER) : En → ER := fun E => match f E with
  | .val _ (.ptr n) st => (match stIns st n with
    | some (c, _) => ofOpt (ownF Os c) fun F => asLen (F [.ptr n] st)
    | none => oLen [.ptr n] st)
  | .val _ d st => oLen [d] st
  | .exc c l st => .exc c l st
  | .bad => .bad
theorem v_lenX {Os : OwnL} {te : TE} {f : En → ER} (h : DEv G W te f) : DEv G W (tCB (fun xs H Q => (∃ x n, xs = [x] ∧ LenV G.K x H n ∧ Q (.int n) H) ∨ rLenO G Os xs H Q) (tCons te tNil)) (dLenX Os f) := by
  intro s t σ e st E k Q post
  refine h s t σ e st E k _ ?_
  unfold dLenX at post
  cases q : f ⟨e, st⟩ with
  | exc c l st1 => rw [q] at post; exact post
  | bad => rw [q] at post; exact post
  | val m d st1 =>
    rw [q] at post
    intro t1 v g1 k1 o1
    have plain : ∀ (d : D), U G t1 v d → RPost G W t σ Q (oLen [d] st1) → ∃ x n, [v] = [x] ∧ LenV G.K x t1.h n ∧ Q (.int n) t1.h := fun d u p => c_len W σ t1 st1 [v] [d] k1 (.cons u .nil) Q (RPost.step g1 k1 p)
    cases d with
    | ptr n =>
      cases hi : stIns st1 n with
      | none => simp only [hi] at post; exact .inl (plain _ o1.u post)
      | some cl =>
        obtain ⟨c, l0⟩ := cl
        simp only [hi] at post
        obtain ⟨F, hF, post⟩ := RPost.opt _ _ post
        obtain ⟨a, rfl, hp⟩ := o1.u.ptr
        obtain ⟨dx, fs, hh, hl, il⟩ := k1.ins hp hi
        refine .inr ⟨(c, F), ownF_mem hF, a, dx, _, rfl, hh, t1, [.ptr n], st1, rfl, k1, .cons (.ptr hp) .nil, ?_⟩
        have p1 := RPost.step g1 k1 post
        show RPost G _ t1 [] _ (F [.ptr n] st1)
        cases q2 : F [.ptr n] st1 with
        | exc c l st2 => simp only [asLen, q2] at p1; exact p1.elim
        | bad => simp only [asLen, q2] at p1; exact p1.elim
        | val m2 d2 st2 =>
          cases d2 <;> first | (simp only [asLen, q2] at p1; exact p1.elim) | skip
          rename_i i
          simp only [asLen, q2] at p1
          obtain ⟨c1, p1⟩ := RPost.cond (0 ≤ i ∧ i < 2 ^ 63) (.val .P (.int i) st2) p1
          intro t2 v2 g2 k2 o2
          obtain rfl := o2.u.int
          exact ⟨i, rfl, c1.1, c1.2, p1 t2 _ g2 k2 (.int _)⟩
    | _ => exact .inl (plain _ o1.u post)
def asStr : ER → ER
  | .val _ (.str i) st => .val .P (.str i) st
  | _ => .bad
def asBl (neg : Bool) : ER → ER
  | .val _ (.bl i) st => .val .P (.bl (i != neg)) st
  | _ => .bad
def oInt : List D → Sto → ER
  | [.int i], st => .val .P (.int i) st
  | [.bl b], st => .val .P (.int (if b then 1 else 0)) st
  | [.str a], st => if a.length ≤ 640 then ofOpt (PySem.intText? a) fun n => .val .P (.int n) st else .bad
  | _, _ => .bad
abbrev rIntA : List V → Hp → VK → Prop := fun xs H Q => ((∃ i, xs = [.int i] ∧ Q (.int i) H) ∨ ∃ k, xs = [.bl k] ∧ Q (.int (if k then 1 else 0)) H) ∨ ∃ a n, xs = [.str a] ∧ PySem.intText? a = some n ∧ a.length ≤ 640 ∧ Q (.int n) H
theorem call_intA {X : Cx} : CallR X (.type "int") rIntA := CallR.or call_int1 call_int_str
theorem c_int : DCal G rIntA oInt := by
  refine DCal.one1 (fun _ => rfl) (fun a b l _ => by cases a <;> rfl) fun W σ s st v d k hv Q post => ?_
  cases d <;> try exact post.elim
  case int i => obtain rfl := hv.int; exact .inl (.inl ⟨_, rfl, post.now k (.int _)⟩)
  case bl i => obtain rfl := hv.bl; exact .inl (.inr ⟨_, rfl, post.now k (.int _)⟩)
  case str a =>
    obtain rfl := hv.str
    obtain ⟨h, post⟩ := RPost.cond (a.length ≤ 640) (ofOpt (PySem.intText? a) fun n => .val .P (.int n) st) post
    obtain ⟨n, hn, post⟩ := RPost.opt (PySem.intText? a) (fun n => .val .P (.int n) st) post
    exact .inr ⟨a, n, rfl, hn, h, post.now k (.int _)⟩
def itxt (i : Int) : Str := toString i
def oStr : List D → Sto → ER
  | [.int i], st => if i.natAbs.log2 < 1920 then .val .P (.str (itxt i)) st else .bad
  | [.str a], st => .val .P (.str a) st
  | _, _ => .bad
def dStrX (Os : OwnL) (f : En → ER) : En → ER := fun E => match f E with
  | .val _ (.ptr n) st => (match stIns st n with
    | some (c, _) => ofOpt (ownF Os c) fun F => asStr (F [.ptr n] st)
    | none => .bad)
  | .val _ d st => oStr [d] st
  | .exc c l st => .exc c l st
  | .bad => .bad
structure ClsI (K : PySem.W.Frag) (C : Addr) : Prop where
  cl : Cls K C
  ha : PySem.W.findIn K (.ref C) "__class__" = some (some (.builtin "object.__class__"))
  hn : PySem.W.specialIn K (.builtin "object.__class__") "__get__" = some (some (.builtin "getset_descriptor.__get__"))
  htk : PySem.W.takesIn K (.builtin "object.__class__") = some true
  hm : PySem.W.mroIn K C (.type "object") = some true
def plainTs : List String := ["NoneType", "bool", "int", "str", "tuple", "list"]
def isO (tab : Nat → Option Bool) : D → Sto → ER
  | .ptr n, st => (match stIns st n with | some (c, _) => ofOpt (tab c) fun b => .val .P (.bl b) st | none => (match stLst st n with | some _ => .val .P (.bl false) st | none => .bad))
  | .obj _ _, _ => .bad
  | .scr _, _ => .bad
  | _, st => .val .P (.bl false) st
def dIsO (tab : Nat → Option Bool) (f : En → ER) : En → ER := fun E => (f E).bind (isO tab)
structure IsOk (G : Gm) (C : Addr) (tab : Nat → Option Bool) : Prop where
  ki : ∀ c b, tab c = some b → PySem.W.kitOne G.K (.ref (G.ca c)) (.ref C) = some b
  ci : ∀ c b, tab c = some b → ClsI G.K (G.ca c)
  kt : ∀ T ∈ plainTs, PySem.W.kitOne G.K (.type T) (.ref C) = some false
structure EqOk (G : Gm) (Os : OwnL) (Cs : List Nat) : Prop where
  pt : ∀ x ∈ Os, ∀ T ∈ plainTs, PySem.W.notFirst G.K (G.ca x.1) (.type T) = true
  pc : ∀ x ∈ Os, ∀ c ∈ Cs, PySem.W.notFirst G.K (G.ca x.1) (.ref (G.ca c)) = true
  ci : ∀ c ∈ Cs, ClsI G.K (G.ca c)
def eqArg (Cs : List Nat) : D → Sto → Bool
  | .ptr n, st => (match stIns st n with | some (c, _) => Cs.contains c | none => false)
  | .obj _ _, _ => false
  | .scr _, _ => false
  | _, _ => true
def eqO2 (Os : OwnL) (Cs : List Nat) (neg : Bool) (o : D → D → Sto → ER) (m : Md) (x y : D) (st : Sto) : ER := match x with
  | .ptr n => (match stIns st n with
    | some (c, _) => ofOpt (ownF Os c) fun F => if m ≠ .B ∧ eqArg Cs y st = true then asBl neg (F [.ptr n, y] st) else .bad
    | none => o x y st)
  | _ => o x y st
def dEqO (Os : OwnL) (Cs : List Nat) (neg : Bool) (o : D → D → Sto → ER) (f g : En → ER) : En → ER := fun E => match f E with
  | .val _ x st => (match g ⟨E.e, st⟩ with
    | .val m y st1 => eqO2 Os Cs neg o m x y st1
    | .exc c l st => .exc c l st
    | .bad => .bad)
  | .exc c l st => .exc c l st
  | .bad => .bad
end
end Dn
namespace Dn
open PySem PySem.Spec PyProof.Rows L2
def PairAt (K : PySem.W.Frag) (H : Hp) (x : V) (r : Int × Int) : Prop := ∃ t, x = V.ref t ∧ SqT K H t [.int r.1, .int r.2]
def rSortedQ (K : PySem.W.Frag) : List V → Hp → VK → Prop := fun vs H Q => ∃ (a : Addr) (xs : List V) (rs : List (Int × Int)), vs = [V.ref a] ∧ SqL K H a xs ∧ xs.length = rs.length ∧ (∀ p ∈ xs.zip rs, PairAt K H p.1 p.2) ∧
  ∀ (zs : List (V × (Int × Int))) p, zs.Perm (xs.zip rs) → zs.Pairwise (fun x y => SrtO.lexB y.2 x.2 = false) → H p = none → Q (.ref p) (upd H p (.lst (zs.map (·.1))))
theorem cr_sortedQ {X : Cx} : CallR X (.builtin "sorted") (rSortedQ X.K) := by
  intro pins s σ H vs us Q I r h
  obtain ⟨a, xs, rs, rfl, hs, hlen, hx, q⟩ := h
  have uniq : ∀ x r r', PairAt X.K H x r → PairAt X.K H x r' → r = r' := fun x r r' h h' => by
    obtain ⟨t, rfl, h⟩ := h
    obtain ⟨t', e, h'⟩ := h'
    cases e
    have e := I.tuple_inj h h'
    simp at e
    exact Prod.ext e.1 e.2
  have pick : ∀ x : V, ∃ r, (∃ r', PairAt X.K H x r') → PairAt X.K H x r := fun x => by
    by_cases c : ∃ r', PairAt X.K H x r'
    · obtain ⟨r, hr⟩ := c; exact ⟨r, fun _ => hr⟩
    · exact ⟨(0, 0), fun z => absurd z c⟩
  have ⟨k, hk⟩ := Classical.axiomOfChoice pick
  have hz : ∀ (ys : List V) (ms : List (Int × Int)), ys.length = ms.length → (∀ p ∈ ys.zip ms, PairAt X.K H p.1 p.2) → ys.zip ms = ys.map fun y => (y, k y) := by
    intro ys
    induction ys with
    | nil => intro ms _ _; simp
    | cons y ys ih =>
      intro ms hl hp
      cases ms with
      | nil => simp at hl
      | cons m ms =>
        simp at hl
        rw [List.zip_cons_cons, List.map_cons, ih ms hl fun p hm => hp p (by rw [List.zip_cons_cons]; exact List.mem_cons_of_mem _ hm)]
        have h1 := hp (y, m) (by rw [List.zip_cons_cons]; exact List.mem_cons_self ..)
        rw [uniq y m (k y) h1 (hk y ⟨m, h1⟩)]
  have hxz := hz xs rs hlen hx
  have hkx : ∀ x ∈ xs, PairAt X.K H x (k x) := fun x m => hk x (by
    have : (x, k x) ∈ xs.zip rs := by rw [hxz]; exact List.mem_map.mpr ⟨x, m, rfl⟩
    exact ⟨_, hx _ this⟩)
  obtain ⟨its, rv, hl, hzz⟩ := I.list hs
  obtain ⟨u, rfl, ru⟩ := vals1 r
  obtain rfl : u = Value.ref a := ru
  obtain ⟨e1, e2⟩ := refs_back rv fun x m => by
    obtain ⟨t, e, _⟩ := hkx x m
    exact ⟨t, e⟩
  refine SrtO.sorted_pairsO (k := fun u => k (backV u)) hl.isList (by rw [← rv.length]; exact hzz) (fun v hv => ?_) fun h' d out h1 h2 kp hd hn => ?_
  · obtain ⟨t, rfl⟩ := e2 v hv
    have hm : V.ref t ∈ xs := by rw [e1]; exact List.mem_map.mpr ⟨_, hv, rfl⟩
    obtain ⟨t', e, ht⟩ := hkx _ hm
    cases e
    obtain ⟨its2, r2, ⟨o, ho, hc, n, hd⟩, _⟩ := I.tuple ht
    obtain ⟨u1, u2, rfl, ri, rj⟩ := vals2 r2
    obtain ⟨t1, rfl⟩ := ri
    obtain ⟨t2, rfl⟩ := rj
    exact ⟨t, o, t1, t2, n, rfl, ho, hc, hd⟩
  · have h3 : ∀ u ∈ out, ∃ a, u = Value.ref a := fun u hu => e2 u (h2.perm.mem_iff.mp hu)
    obtain ⟨n, hn⟩ := hn
    have hb : SrtO.Stb (ltP k) (out.map backV) xs := by
      rw [e1]
      exact SrtO.Stb.map (ltP_swo k) backV h2
    have hq := q ((out.map backV).map fun y => (y, k y)) d (by rw [hxz]; exact hb.perm.map _) (by
      have := SrtO.srtd_map (f := backV) (lt := ltP k) h1
      exact List.pairwise_map.mpr this) (I.hok.fresh hd)
    have hmm : ((out.map backV).map fun y => (y, k y)).map (·.1) = out.map backV := by simp
    rw [hmm] at hq
    refine ⟨.ref d, upd H d (.lst (out.map backV)), I.laid (t' := s.toks) kp hd ⟨?_, out, n, vals_back h3, hn⟩, rfl, hq⟩
    rw [hb.len]
    exact hzz
def lexLe (a b : Int × Int) : Bool := !SrtO.lexB b a
def srtP (rs : List (Int × Int)) : List (Int × Int) := rs.mergeSort lexLe
theorem lexLe_iff {a b : Int × Int} : lexLe a b = true ↔ a.1 < b.1 ∨ (a.1 = b.1 ∧ a.2 ≤ b.2) := by
  unfold lexLe
  rw [Bool.not_eq_true', SrtO.lexB_no]
  omega
theorem srtP_perm (rs : List (Int × Int)) : (srtP rs).Perm rs := List.mergeSort_perm _ _
theorem srtP_pw (rs : List (Int × Int)) : (srtP rs).Pairwise (fun a b => lexLe a b = true) :=
  List.pairwise_mergeSort (le := lexLe) (fun a b c h1 h2 => by rw [lexLe_iff] at *; omega) (fun a b => by rw [Bool.or_eq_true, lexLe_iff, lexLe_iff]; omega) rs
theorem srtP_is {rs ms : List (Int × Int)} (h : ms.Perm rs) (p : ms.Pairwise (fun a b => lexLe a b = true)) : ms = srtP rs :=
  List.Perm.eq_of_pairwise (le := fun a b => lexLe a b = true) (fun a b _ _ h1 h2 => by rw [lexLe_iff] at *; exact Prod.ext (by omega) (by omega)) p (srtP_pw rs) (h.trans (srtP_perm rs).symm)
def rowsOf : List D → Option (List (Int × Int))
  | [] => some []
  | .tup [.int a, .int b] :: l => (rowsOf l).map ((a, b) :: ·)
  | _ => none
section
variable {G : Gm} {W : WX}
theorem rowsOf_V {as : List Addr} {f H : Hp} (sm : Same f H) : ∀ {l : List D} {vs : List V} {rs : List (Int × Int)}, rowsOf l = some rs → IsL G as f vs l → vs.length = rs.length ∧ l = rs.map (fun r => D.tup [.int r.1, .int r.2]) ∧ ∀ p ∈ vs.zip rs, PairAt G.K H p.1 p.2 ∧ Is G as f p.1 (.tup [.int p.2.1, .int p.2.2])
  | [], _, _, h, i => by cases i; cases h; exact ⟨rfl, rfl, fun p m => by simp at m⟩
  | d :: l, _, rs, h, i => by
    cases i with
    | cons a b =>
      unfold rowsOf at h
      split at h
      · cases ‹_ :: _ = _›
      · rename_i x y l' e
        cases e
        cases q : rowsOf l with
        | none => rw [q] at h; cases h
        | some ms =>
          rw [q] at h; cases h
          obtain ⟨h1, h2, h3⟩ := rowsOf_V sm q b
          refine ⟨by simp [h1], by rw [List.map_cons, ← h2], fun p m => ?_⟩
          rw [List.zip_cons_cons] at m
          rcases List.mem_cons.mp m with rfl | m
          · refine ⟨?_, a⟩
            cases a with
            | tup c c2 =>
              cases c2 with
              | cons e1 c2 =>
                cases c2 with
                | cons e2 c2 =>
                  cases c2; cases e1; cases e2
                  exact ⟨_, rfl, same_t sm c⟩
          · exact h3 p m
      · cases h
def oSortedX : List D → Sto → ER
  | [.lst l], st => (match intsOf l with
    | some ns => if ns.length < 64 then .val .N (.lst ((srt ns).map .int)) st else .bad
    | none => ofOpt (rowsOf l) fun rs => .val .N (.lst ((srtP rs).map fun r => .tup [.int r.1, .int r.2])) st)
  | _, _ => .bad
theorem isl_zip {as : List Addr} {f : Hp} : ∀ {zs : List (V × (Int × Int))}, (∀ p ∈ zs, Is G as f p.1 (.tup [.int p.2.1, .int p.2.2])) → IsL G as f (zs.map (·.1)) (zs.map fun z => D.tup [.int z.2.1, .int z.2.2])
  | [], _ => .nil
  | z :: zs, h => .cons (h z (List.mem_cons_self ..)) (isl_zip fun p m => h p (List.mem_cons_of_mem _ m))
theorem c_sortedX : DCal G (fun xs H Q => rSorted G.K xs H Q ∨ rSortedQ G.K xs H Q) oSortedX := by
  refine DCal.one1 (fun _ => rfl) (fun a b l _ => by cases a <;> rfl) fun W σ s st v d k hv Q post => ?_
  cases d <;> try exact post.elim
  rename_i l
  have post : RPost G W s σ Q (match intsOf l with
    | some ns => if ns.length < 64 then .val .N (.lst ((srt ns).map .int)) st else .bad
    | none => ofOpt (rowsOf l) fun rs => .val .N (.lst ((srtP rs).map fun r => .tup [.int r.1, .int r.2])) st) := post
  obtain ⟨p, vs, rfl, hp, hl⟩ := hv.lst k.sf
  cases qi : intsOf l with
  | some ns =>
    simp only [qi] at post
    obtain ⟨hlt, post⟩ := RPost.cond (ns.length < 64) (.val .N (.lst ((srt ns).map .int)) st) post
    have := intsOf_V qi hl
    subst this
    refine .inl ⟨p, ns, rfl, SqL.of hp, hlt, fun ms r hm hs hr => ?_⟩
    rw [srt_is hm hs]
    exact RPost.newL k post (IsL.ints _) hr
  | none =>
    simp only [qi] at post
    obtain ⟨rs, hrs, post⟩ := RPost.opt (rowsOf l) (fun rs => .val .N (.lst ((srtP rs).map fun r => .tup [.int r.1, .int r.2])) st) post
    obtain ⟨h1, h2, h3⟩ := rowsOf_V k.sf hrs hl
    refine .inr ⟨p, vs, rs, rfl, SqL.of hp, h1, fun q m => (h3 q m).1, fun zs r hm hs hr => ?_⟩
    have hz : ∀ q ∈ zs, Is G s.as s.f q.1 (.tup [.int q.2.1, .int q.2.2]) := fun q m => (h3 q (hm.mem_iff.mp m)).2
    have e1 : zs.map (·.2) = srtP rs := by
      refine srtP_is ?_ (List.pairwise_map.mpr (hs.imp fun {a b} h => by unfold lexLe; rw [h]; rfl))
      have := hm.map (fun q : V × (Int × Int) => q.2)
      have e : (vs.zip rs).map (fun q : V × (Int × Int) => q.2) = rs := by
        rw [List.map_snd_zip]; omega
      rw [e] at this
      exact this
    have e2 : (srtP rs).map (fun r => D.tup [.int r.1, .int r.2]) = zs.map fun z => D.tup [.int z.2.1, .int z.2.2] := by
      rw [← e1, List.map_map]; rfl
    rw [e2] at post
    exact RPost.newL k post (isl_zip hz) hr
end
end Dn
namespace Dn
open PySem PySem.Spec PyProof.Rows L2
section
variable {G : Gm} {W : WX}
def dMs (op : Str → List D → Sto → ER) (fb : En → ER) (fa : En → AR) : En → ER := fun E => match fb E with
  | .val _ (.str x) st => (match fa ⟨E.e, st⟩ with
    | .ok _ ds st1 => op x ds st1
    | .exc c l st => .exc c l st
    | .bad => .bad)
  | .exc c l st => .exc c l st
  | _ => .bad
def strsOf : List D → Option (List Str)
  | [] => some []
  | .str i :: l => (strsOf l).map (i :: ·)
  | _ => none
def seqStrs : D → Sto → Option (List Str)
  | .lst l, _ => strsOf l
  | .tup l, _ => strsOf l
  | .ptr n, st => (stLst st n).bind strsOf
  | _, _ => none
def msJoin (a : Str) (ds : List D) (st : Sto) : ER := match ds with
  | [d] => ofOpt (seqStrs d st) fun ys => if (ys.map (·.length)).sum + ys.length * a.length ≤ 1000000 then .val .P (.str (Txt.join a ys)) st else .bad
  | _ => .bad
def msSplit (a : Str) (ds : List D) (st : Sto) : ER := match ds with
  | [.str b] => if (b.length == 0) = false ∧ a.length + 2 ≤ 1000000 then .val .N (.lst ((Txt.split a b).map .str)) st else .bad
  | _ => .bad
def msPartition (a : Str) (ds : List D) (st : Sto) : ER := match ds with
  | [.str b] => if (b.length == 0) = false ∧ a.length ≤ 1000000 then .val .P (.tup [.str (Txt.partition a b).1, .str (Txt.partition a b).2.1, .str (Txt.partition a b).2.2]) st else .bad
  | _ => .bad
def msCount (a : Str) (ds : List D) (st : Sto) : ER := match ds with
  | [.str b] => .val .P (.int (Txt.count a b)) st
  | _ => .bad
def dFmt (f : En → ER) : En → ER := fun E => match f E with
  | .val _ (.str y) st => if y.length ≤ 1000000 then .val .P (.str y) st else .bad
  | .val _ (.int i) st => if i.natAbs.log2 < 1920 then .val .P (.str (itxt i)) st else .bad
  | .exc c l st => .exc c l st
  | _ => .bad
inductive DJs (G : Gm) (W : WX) : List TE → List (En → ER) → Prop
  | nil : DJs G W [] []
  | cons {t : TE} {ts : List TE} {f : En → ER} {fs : List (En → ER)} : DEv G W t f → DJs G W ts fs → DJs G W (t :: ts) (f :: fs)
def jsGo : List (En → ER) → Str → DE → Sto → ER
  | [], acc, _, st => .val .P (.str acc) st
  | f :: fs, acc, e, st => match f ⟨e, st⟩ with
    | .val _ (.str y) st1 => if (acc ++ y).length ≤ 1000000 then jsGo fs (acc ++ y) e st1 else .bad
    | .exc c l st => .exc c l st
    | _ => .bad
def dJs (fs : List (En → ER)) : En → ER := fun E => jsGo fs Str.empty E.e E.st
end
end Dn
namespace Dn
open PySem PySem.Spec PyProof.Rows L2
section
variable {G : Gm} {W : WX}
def isTP (T : String) : D → Sto → ER
  | .ptr n, st => (match stLst st n with | some _ => ofOpt (kitB "list" T) fun b => .val .P (.bl b) st | none => .bad)
  | d, st => isT T d st
def dIsiP (T : String) (f : En → ER) : En → ER := fun E => (f E).bind (isTP T)
end
end Dn
namespace Dn
open PySem PySem.Spec PyProof.Rows L2
@[simp] theorem e_oAdd_1 : ∀ i j st, oAdd (.int i) (.int j) st = .val .P (.int (i + j)) st := fun _ _ _ => rfl
@[simp] theorem e_oAdd_2 : ∀ a b st, oAdd (.str a) (.str b) st = if a.length + b.length ≤ 1000000 then .val .P (.str (a ++ b)) st else .bad := fun _ _ _ => rfl
@[simp] theorem e_oAdd_3 : ∀ a b st, oAdd (.lst a) (.lst b) st = if a.length + b.length ≤ 1000000 then .val .N (.lst (a ++ b)) st else .bad := fun _ _ _ => rfl
@[simp] theorem e_oAdd_4 : ∀ a b st, oAdd (.tup a) (.tup b) st = if a.length + b.length ≤ 1000000 then .val .P (.tup (a ++ b)) st else .bad := fun _ _ _ => rfl
@[simp] theorem e_oSub_1 : ∀ i j st, oSub (.int i) (.int j) st = .val .P (.int (i - j)) st := fun _ _ _ => rfl
@[simp] theorem e_oMul_1 : ∀ i j st, oMul (.int i) (.int j) st = if i.natAbs.log2 + j.natAbs.log2 < 1000000 then .val .P (.int (i * j)) st else .bad := fun _ _ _ => rfl
@[simp] theorem e_oMul_2 : ∀ a k st, oMul (.lst a) (.int k) st = if -(2 ^ 63) ≤ k ∧ k < 2 ^ 63 ∧ a.length * k.toNat ≤ 1000000 then .val .N (.lst (List.replicate k.toNat a).flatten) st else .bad := fun _ _ _ => rfl
@[simp] theorem e_oDiv_1 : ∀ i j st, oDiv (.int i) (.int j) st = if j ≠ 0 ∧ j.natAbs.log2 < 9000 then .val .P (.int (i.fdiv j)) st else .bad := fun _ _ _ => rfl
@[simp] theorem e_oMod_1 : ∀ i j st, oMod (.int i) (.int j) st = if j ≠ 0 then .val .P (.int (i.fmod j)) st else .bad := fun _ _ _ => rfl
@[simp] theorem e_oPow_1 : ∀ i j st, oPow (.int i) (.int j) st = if 0 ≤ j ∧ j ≤ 1000000 ∧ i.natAbs < 2 ^ 64 then .val .P (.int (i ^ j.toNat)) st else .bad := fun _ _ _ => rfl
@[simp] theorem e_oCmp_1 {p : Int → Int → Bool} : ∀ i j st, oCmp p (.int i) (.int j) st = .val .P (.bl (p i j)) st := fun _ _ _ => rfl
@[simp] theorem e_oIx_1 : ∀ l i st, oIx (.lst l) (.int i) st = ofOpt (atI l i) fun d => .val .P d st := fun _ _ _ => rfl
@[simp] theorem e_oIx_2 : ∀ l i st, oIx (.tup l) (.int i) st = ofOpt (atI l i) fun d => .val .P d st := fun _ _ _ => rfl
@[simp] theorem e_oIx_3 : ∀ l i st, oIx (.scr l) (.int i) st = ofOpt (atI l i) fun d => .val .P (.int d) st := fun _ _ _ => rfl
@[simp] theorem e_oIx_4 : ∀ z i st, oIx (.str z) (.int i) st = if z.length ≤ 1000000 then ofOpt (atI z.cps.toList i) (fun c => .val .P (.str ⟨#[c]⟩) st) else .bad := fun _ _ _ => rfl
@[simp] theorem e_oIx_5 : ∀ n i st, oIx (.ptr n) (.int i) st = ofOpt (stLst st n) fun l => ofOpt (atI l i) fun d => .val .P d st := fun _ _ _ => rfl
@[simp] theorem e_dVar {i : Nat} {E : En} : dVar i E = match E.e[i]? with
  | some (.val d) => .val .P d E.st
  | some (.own l) => .val .B (.lst l) E.st
  | _ => .bad := rfl
@[simp] theorem e_dC {d : D} {E : En} : dC d E = .val .P d E.st := rfl
@[simp] theorem e_dOp {o : D → D → Sto → ER} {f g : En → ER} {E : En} : dOp o f g E = (f E).bind fun x st => (g ⟨E.e, st⟩).bind fun y st => o x y st := rfl
@[simp] theorem e_dUn {o : D → Sto → ER} {f : En → ER} {E : En} : dUn o f E = (f E).bind o := rfl
@[simp] theorem e_oNeg_1 : ∀ i st, oNeg (.int i) st = .val .P (.int (-i)) st := fun _ _ => rfl
@[simp] theorem e_dAnd {f g : En → ER} {E : En} : dAnd f g E = (f E).bindB fun b st => if b = true then g ⟨E.e, st⟩ else .val .P (.bl false) st := rfl
@[simp] theorem e_dOr {f g : En → ER} {E : En} : dOr f g E = (f E).bindB fun b st => if b = true then .val .P (.bl true) st else g ⟨E.e, st⟩ := rfl
@[simp] theorem e_dNot {f : En → ER} {E : En} : dNot f E = (f E).bindB fun b st => .val .P (.bl (!b)) st := rfl
@[simp] theorem e_dIf {c f g : En → ER} {E : En} : dIf c f g E = (c E).bindB fun b st => if b = true then f ⟨E.e, st⟩ else g ⟨E.e, st⟩ := rfl
@[simp] theorem e_dChain {o o' : D → D → Sto → ER} {f g h : En → ER} {E : En} : dChain o o' f g h E = (f E).bind fun x st => (g ⟨E.e, st⟩).bind fun y st => (o x y st).bindB fun b st => if b = true then (h ⟨E.e, st⟩).bind fun z st => o' y z st else .val .P (.bl false) st := rfl
@[simp] theorem e_aNil {E : En} : aNil  E = .ok true [] E.st := rfl
@[simp] theorem e_aCons {f : En → ER} {g : En → AR} {E : En} : aCons f g E = (f E).cons fun st => g ⟨E.e, st⟩ := rfl
@[simp] theorem e_dTup {f : En → AR} {E : En} : dTup f E = match f E with
  | .ok true l st => if l.length ≤ 1000000 then .val .P (.tup l) st else .bad
  | .exc c l st => .exc c l st
  | _ => .bad := rfl
@[simp] theorem e_dLst {f : En → AR} {E : En} : dLst f E = match f E with
  | .ok true l st => if l.length ≤ 1000000 then .val .N (.lst l) st else .bad
  | .exc c l st => .exc c l st
  | _ => .bad := rfl
@[simp] theorem e_dPut {f : En → ER} {E : En} : dPut f E = match f E with
  | .val .N (.lst l) st => .val .P (.ptr st.length) (st ++ [.lst l])
  | .exc c l st => .exc c l st
  | _ => .bad := rfl
@[simp] theorem e_dCall {F : List D → Sto → ER} {f : En → AR} {E : En} : dCall F f E = match f E with
  | .ok true l st => F l st
  | .exc c l st => .exc c l st
  | _ => .bad := rfl
@[simp] theorem e_dCB {o : List D → Sto → ER} {f : En → AR} {E : En} : dCB o f E = match f E with
  | .ok _ l st => o l st
  | .exc c l st => .exc c l st
  | .bad => .bad := rfl
@[simp] theorem e_oAbs_1 : ∀ i st, oAbs ([.int i]) st = .val .P (.int (if i < 0 then -i else i)) st := fun _ _ => rfl
@[simp] theorem e_oLen_1 : ∀ l st, oLen ([.lst l]) st = .val .P (.int l.length) st := fun _ _ => rfl
@[simp] theorem e_oLen_2 : ∀ l st, oLen ([.tup l]) st = .val .P (.int l.length) st := fun _ _ => rfl
@[simp] theorem e_oLen_3 : ∀ l st, oLen ([.scr l]) st = .val .P (.int l.length) st := fun _ _ => rfl
@[simp] theorem e_oLen_4 : ∀ n st, oLen ([.ptr n]) st = ofOpt (stLst st n) fun l => .val .P (.int l.length) st := fun _ _ => rfl
@[simp] theorem e_oLen_5 : ∀ z st, oLen ([.str z]) st = if z.length ≤ 1000000 then .val .P (.int z.length) st else .bad := fun _ _ => rfl
@[simp] theorem e_oMax2_1 : ∀ i j st, oMax2 ([.int i, .int j]) st = .val .P (.int (if j > i then j else i)) st := fun _ _ _ => rfl
@[simp] theorem e_oMin2_1 : ∀ i j st, oMin2 ([.int i, .int j]) st = .val .P (.int (if j < i then j else i)) st := fun _ _ _ => rfl
@[simp] theorem e_oSum_1 : ∀ l st, oSum ([.lst l]) st = ofOpt (intsOf l) fun ns => .val .P (.int ns.sum) st := fun _ _ => rfl
@[simp] theorem e_oList_1 : ∀ l st, oList ([.lst l]) st = .val .N (.lst l) st := fun _ _ => rfl
@[simp] theorem e_oList_2 : ∀ l st, oList ([.tup l]) st = .val .N (.lst l) st := fun _ _ => rfl
@[simp] theorem e_oList_3 : ∀ l st, oList ([.scr l]) st = .val .N (.lst (l.map .int)) st := fun _ _ => rfl
@[simp] theorem e_oList_4 : ∀ n st, oList ([.ptr n]) st = ofOpt (stLst st n) fun l => .val .N (.lst l) st := fun _ _ => rfl
@[simp] theorem e_oTuple_1 : ∀ l st, oTuple ([.lst l]) st = .val .P (.tup l) st := fun _ _ => rfl
@[simp] theorem e_oTuple_2 : ∀ l st, oTuple ([.tup l]) st = .val .P (.tup l) st := fun _ _ => rfl
@[simp] theorem e_dSl {o : D → Option Int → Option Int → Sto → ER} {f : En → ER} {lo hi : En → Option ER} {E : En} : dSl o f lo hi E = (f E).bind fun x st => ofOpt (partI (lo ⟨E.e, st⟩) st) fun l => ofOpt (partI (hi ⟨E.e, l.2⟩) l.2) fun u => o x l.1 u.1 u.2 := rfl
@[simp] theorem e_sSeq {f g : En → SR} {E : En} : sSeq f g E = (f E).bind g := rfl
@[simp] theorem e_sSet {i : Nat} {f : En → ER} {E : En} : sSet i f E = match f E with
  | .val .P d st => .nx ⟨E.e.set i (.val d), st⟩
  | .val .N (.lst l) st => .nx ⟨E.e.set i (.own l), st⟩
  | .exc c l st => .exc c l ⟨E.e, st⟩
  | _ => .bad := rfl
@[simp] theorem e_sSetF {i : Nat} {f : En → ER} {E : En} : sSetF i f E = match f E with
  | .val .P d st => .nx ⟨E.e.set i (.val d), st⟩
  | .val .N d st => .nx ⟨E.e.set i (.val d), st⟩
  | .exc c l st => .exc c l ⟨E.e, st⟩
  | _ => .bad := rfl
@[simp] theorem e_sAsg {t : D → DE → Option DE} {f : En → ER} {E : En} : sAsg t f E = match f E with
  | .val .B _ _ => .bad
  | .val _ d st => (match t d E.e with | some e' => .nx ⟨e', st⟩ | none => .bad)
  | .exc c l st => .exc c l ⟨E.e, st⟩
  | _ => .bad := rfl
@[simp] theorem e_sPar {i j : Nat} {f : En → AR} {E : En} : sPar i j f E = match f E with
  | .ok true [a, b] st => .nx ⟨(E.e.set i (.val a)).set j (.val b), st⟩
  | .exc c l st => .exc c l ⟨E.e, st⟩
  | _ => .bad := rfl
@[simp] theorem e_sDrop {f : En → ER} {E : En} : sDrop f E = match f E with
  | .val _ _ st => .nx ⟨E.e, st⟩
  | .exc c l st => .exc c l ⟨E.e, st⟩
  | .bad => .bad := rfl
@[simp] theorem e_sRet {f : En → ER} {E : En} : sRet f E = match f E with
  | .val .P d st => .rt .P d st
  | .val .N d st => .rt .N d st
  | .exc c l st => .exc c l ⟨E.e, st⟩
  | _ => .bad := rfl
@[simp] theorem e_sRetV {i : Nat} {E : En} : sRetV i E = match E.e[i]? with
  | some (.val d) => .rt .P d E.st
  | some (.own l) => .rt .N (.lst l) E.st
  | _ => .bad := rfl
@[simp] theorem e_sRetN {E : En} : sRetN  E = .rt .P .non E.st := rfl
@[simp] theorem e_sIf {c : En → ER} {f g : En → SR} {E : En} : sIf c f g E = match c E with
  | .val _ (.bl b) st => if b = true then f ⟨E.e, st⟩ else g ⟨E.e, st⟩
  | .exc c l st => .exc c l ⟨E.e, st⟩
  | _ => .bad := rfl
@[simp] theorem e_sFrz {i : Nat} {g : En → SR} {E : En} : sFrz i g E = g ⟨frz i E.e, E.st⟩ := rfl
@[simp] theorem e_sApp {i : Nat} {f : En → ER} {E : En} : sApp i f E = match E.e[i]? with
  | some (.own l) => (match f E with
    | .val .B _ _ => .bad
    | .val _ d st => if l.length < 1000000 then .nx ⟨E.e.set i (.own (l ++ [d])), st⟩ else .bad
    | .exc c l st => .exc c l ⟨E.e, st⟩
    | .bad => .bad)
  | _ => .bad := rfl
@[simp] theorem e_sSetO {x : Nat} {f fi : En → ER} {E : En} : sSetO x f fi E = match E.e[x]? with
  | some (.own l) => (match f E with
    | .val .B _ _ => .bad
    | .val _ d st => (match fi ⟨E.e, st⟩ with
      | .val _ (.int i) st1 => (match ixN l.length i with | some j => .nx ⟨E.e.set x (.own (l.set j d)), st1⟩ | none => .bad)
      | .exc c l st => .exc c l ⟨E.e, st⟩
      | _ => .bad)
    | .exc c l st => .exc c l ⟨E.e, st⟩
    | .bad => .bad)
  | _ => .bad := rfl
@[simp] theorem e_sSetP {fb f fi : En → ER} {E : En} : sSetP fb f fi E = match f E with
  | .val .B _ _ => .bad
  | .val _ d st => (match fb ⟨E.e, st⟩ with
    | .val _ (.ptr n) st1 => (match fi ⟨E.e, st1⟩ with
      | .val _ (.int i) st2 => (match stLst st2 n with
        | some l => (match ixN l.length i with | some j => .nx ⟨E.e, st2.set n (.lst (l.set j d))⟩ | none => .bad)
        | none => .bad)
      | .exc c l st => .exc c l ⟨E.e, st⟩
      | _ => .bad)
    | .exc c l st => .exc c l ⟨E.e, st⟩
    | _ => .bad)
  | .exc c l st => .exc c l ⟨E.e, st⟩
  | .bad => .bad := rfl
@[simp] theorem e_dIter {f : En → ER} {E : En} : dIter f E = match f E with
  | .val .B _ _ => .bad
  | .val _ d st => (match itemsOf d with | some l => .ok true l st | none => .bad)
  | .exc c l st => .exc c l st
  | .bad => .bad := rfl
@[simp] theorem e_dRng {r : List D → Option (Int × Nat)} {f : En → AR} {E : En} : dRng r f E = match f E with
  | .ok _ l st => (match r l with | some r => .ok true (rangeD r.1 r.2) st | none => .bad)
  | .exc c l st => .exc c l st
  | _ => .bad := rfl
@[simp] theorem e_dEnum {f : En → AR} {E : En} : dEnum f E = match f E with
  | .ok true [.lst l] st => .ok true (enumD 0 l) st
  | .exc c l st => .exc c l st
  | _ => .bad := rfl
@[simp] theorem e_dZip {f : En → AR} {E : En} : dZip f E = match f E with
  | .ok true [.lst l, .lst m] st => .ok true (zipD l m) st
  | .exc c l st => .exc c l st
  | _ => .bad := rfl
@[simp] theorem e_sFor {src : En → AR} {t : D → DE → Option DE} {b : En → SR} {E : En} : sFor src t b E = match src E with
  | .ok _ l st => forD (tgB t b) l ⟨E.e, st⟩
  | .exc c l st => .exc c l ⟨E.e, st⟩
  | .bad => .bad := rfl
@[simp] theorem e_dLc {src : En → AR} {t : D → DE → Option DE} {c f : En → ER} {vs : List Nat} {E : En} : dLc src t c f vs E = match src E with
  | .ok _ l st => if l.length ≤ 1000000 then ofOpt (lcGo (lcStep t c f (wipeE E.e vs)) l st) fun r => .val .N (.lst r.1) r.2 else .bad
  | .exc k l st => .exc k l st
  | .bad => .bad := rfl
@[simp] theorem e_sRaise {c : Nat} {E : En} : sRaise c E = .exc c [] E := rfl
@[simp] theorem e_dCallG {F : List D → Sto → ER} {n m : Nat} {idx : List Nat} {dd : List D} {f g : En → AR} {E : En} : dCallG F n m idx dd f g E = match f E with
  | .ok true l st => (match g ⟨E.e, st⟩ with
    | .ok true z st1 => if l.length = n ∧ z.length = m then F (pickL idx (l ++ z ++ dd)) st1 else .bad
    | .exc c l st => .exc c l st
    | _ => .bad)
  | .exc c l st => .exc c l st
  | _ => .bad := rfl
@[simp] theorem e_dIsi {T : String} {f : En → ER} {E : En} : dIsi T f E = (f E).bind (isT T) := rfl
@[simp] theorem e_sTryAs {i : Nat} {catch? : Nat → Option Bool} {g : En → SR} {h : Nat → List D → En → SR} {E : En} : sTryAs i catch? g h E = match g E with
  | .exc c l E1 => (match catch? c with
    | some true => (match h c l ⟨(clr E1.e).set i .exn, E1.st⟩ with
      | .nx E2 => .nx ⟨(clr E2.e).set i .emp, E2.st⟩
      | .bk E2 => .bk ⟨(clr E2.e).set i .emp, E2.st⟩
      | .ct E2 => .ct ⟨(clr E2.e).set i .emp, E2.st⟩
      | .rt m d st => .rt m d st
      | _ => .bad)
    | some false => .exc c l E1
    | none => .bad)
  | r => r := rfl
@[simp] theorem e_dIsE {i : Nat} {b : Option Bool} {E : En} : dIsE i b E = match E.e[i]? with
  | some .exn => ofOpt b fun b => .val .P (.bl b) E.st
  | _ => .bad := rfl
@[simp] theorem e_dMtP {op : List D → List D → Option (D × List D)} {fb : En → ER} {fa : En → AR} {E : En} : dMtP op fb fa E = match fb E with
  | .val _ (.ptr n) st => (match stLst st n with
    | some _ => (match fa ⟨E.e, st⟩ with
      | .ok true ds st1 => (match stLst st1 n with
        | some l => (match op l ds with | some o => .val .P o.1 (st1.set n (.lst o.2)) | none => .bad)
        | none => .bad)
      | .exc c l st => .exc c l st
      | _ => .bad)
    | none => .bad)
  | .exc c l st => .exc c l st
  | _ => .bad := rfl
@[simp] theorem e_sMtO {j : Option Nat} {op : List D → List D → Option (D × List D)} {i : Nat} {fa : En → AR} {E : En} : sMtO j op i fa E = match E.e[i]? with
  | some (.own l) => (match fa E with
    | .ok true ds st1 => (match op l ds with | some o => .nx ⟨putAt j o.1 (E.e.set i (.own o.2)), st1⟩ | none => .bad)
    | .exc c l st => .exc c l ⟨E.e, st⟩
    | _ => .bad)
  | _ => .bad := rfl
@[simp] theorem e_sMt {op : List D → List D → Option (D × List D)} {i : Nat} {fa : En → AR} {E : En} : sMt op i fa E = match E.e[i]? with
  | some (.own _) => sMtO none op i fa E
  | _ => sDrop (dMtP op (dVar i) fa) E := rfl
@[simp] theorem e_sMtA {j : Nat} {op : List D → List D → Option (D × List D)} {i : Nat} {fa : En → AR} {E : En} : sMtA j op i fa E = match E.e[i]? with
  | some (.own _) => sMtO (some j) op i fa E
  | _ => sSetF j (dMtP op (dVar i) fa) E := rfl
@[simp] theorem e_dFld {ix : Nat → Option Nat} {fe : En → ER} {E : En} : dFld ix fe E = (fe E).bind fun x st => match x with
  | .ptr n => (match stIns st n with
    | some (c, l) => (match ix c with
      | some i => ofOpt l[i]? fun d => .val .P d st
      | none => .bad)
    | none => .bad)
  | _ => .bad := rfl
@[simp] theorem e_sFldS {ix : Nat → Option Nat} {fo fe : En → ER} {E : En} : sFldS ix fo fe E = match fe E with
  | .val .B _ _ => .bad
  | .val _ d st => (match fo ⟨E.e, st⟩ with
    | .val _ (.ptr n) st1 => (match stIns st1 n with
      | some (c, l) => (match ix c with
        | some i => (match putI i d l with
          | some l' => .nx ⟨E.e, st1.set n (.ins c l')⟩
          | none => .bad)
        | none => .bad)
      | none => .bad)
    | .exc c l st => .exc c l ⟨E.e, st⟩
    | _ => .bad)
  | .exc c l st => .exc c l ⟨E.e, st⟩
  | .bad => .bad := rfl
@[simp] theorem e_dMeth {c : Nat} {F : List D → Sto → ER} {n r : Nat} {idx : List Nat} {dd : List D} {fo : En → ER} {fa fk : En → AR} {E : En} : dMeth c F n r idx dd fo fa fk E = (fo E).bind fun x st => match x with
  | .ptr p => (match stIns st p with
    | some (c', _) => if c' = c then (match fa ⟨E.e, st⟩ with
      | .ok true l st1 => (match fk ⟨E.e, st1⟩ with
        | .ok true z st2 => if l.length + 1 = n ∧ z.length = r then F (pickL idx ((.ptr p :: l) ++ z ++ dd)) st2 else .bad
        | .exc c l st => .exc c l st
        | _ => .bad)
      | .exc c l st => .exc c l st
      | _ => .bad) else .bad
    | none => .bad)
  | _ => .bad := rfl
@[simp] theorem e_dAlt {p : En → Bool} {f g : En → ER} {E : En} : dAlt p f g E = if p E = true then f E else g E := rfl
@[simp] theorem e_dMake {c : Nat} {F : List D → Sto → ER} {n r : Nat} {idx : List Nat} {dd : List D} {fa fk : En → AR} {E : En} : dMake c F n r idx dd fa fk E = match fa E with
  | .ok true l st => (match fk ⟨E.e, st⟩ with
    | .ok true z st1 => if l.length + 1 = n ∧ z.length = r then (match F (pickL idx ((.ptr st1.length :: l) ++ z ++ dd)) (st1 ++ [.ins c []]) with
      | .val _ .non st2 => .val .P (.ptr st1.length) st2
      | .exc c l st => .exc c l st
      | _ => .bad) else .bad
    | .exc c l st => .exc c l st
    | _ => .bad)
  | .exc c l st => .exc c l st
  | _ => .bad := rfl
@[simp] theorem e_oAll_1 : ∀ l st, oAll ([.lst l]) st = ofOpt (boolsOf l) fun ns => .val .P (.bl (ns.all id)) st := fun _ _ => rfl
@[simp] theorem e_oAny_1 : ∀ l st, oAny ([.lst l]) st = ofOpt (boolsOf l) fun ns => .val .P (.bl (ns.any id)) st := fun _ _ => rfl
@[simp] theorem e_oRev_1 : ∀ l st, oRev (.lst l) st = .val .N (.lst l.reverse) st := fun _ _ => rfl
@[simp] theorem e_oRev_2 : ∀ n st, oRev (.ptr n) st = ofOpt (stLst st n) fun l => .val .N (.lst l.reverse) st := fun _ _ => rfl
@[simp] theorem e_dRev {f : En → ER} {E : En} : dRev f E = (f E).bind oRev := rfl
@[simp] theorem e_dMtX {op : List D → List D → Option (D × List D)} {fb : En → ER} {fa : En → AR} {E : En} : dMtX op fb fa E = match fb E with
  | .val .N (.lst l) st => (match fa ⟨E.e, st⟩ with
    | .ok true ds st1 => (match op l ds with | some o => .val .P o.1 st1 | none => .bad)
    | .exc c l st => .exc c l st
    | _ => .bad)
  | _ => dMtP op fb fa E := rfl
@[simp] theorem e_oSorted_1 : ∀ l st, oSorted ([.lst l]) st = ofOpt (intsOf l) fun ns => if ns.length < 64 then .val .N (.lst ((srt ns).map .int)) st else .bad := fun _ _ => rfl
@[simp] theorem e_dLr {f : En → ER} {E : En} : dLr f E = match f E with
  | .val _ (.int n) st => if -4611686018427387904 ≤ n ∧ n ≤ 1000000 then .val .N (.lst (rangeD 0 n.toNat)) st else .bad
  | .exc c l st => .exc c l st
  | _ => .bad := rfl
@[simp] theorem e_dHeld {i : Nat} {h : List (Option D) → D → D → Sto → ER} {fa : En → AR} {E : En} : dHeld i h fa E = match E.e[i]? with
  | some (.clo ds) => (match fa E with
    | .ok true [x, y] st => h ds x y st
    | .exc c l st => .exc c l st
    | _ => .bad)
  | _ => .bad := rfl
@[simp] theorem e_dLamC {np : Nat} {q : Str} {N : Nat} {g : En → SR} {f1 : En → ER} {E : En} : dLamC np q N g f1 E = match f1 E with
  | .val .B _ _ => .bad
  | .val _ d1 st => (match st[np]? with
    | some (.tbl q') => if q' = q then valOnly (g ⟨startL N d1 (cloOf E.e), st⟩).ret else .bad
    | _ => .bad)
  | .exc c l st => .exc c l st
  | .bad => .bad := rfl
@[simp] theorem e_dLenX {Os : OwnL} {f : En → ER} {E : En} : dLenX Os f E = match f E with
  | .val _ (.ptr n) st => (match stIns st n with
    | some (c, _) => ofOpt (ownF Os c) fun F => asLen (F [.ptr n] st)
    | none => oLen [.ptr n] st)
  | .val _ d st => oLen [d] st
  | .exc c l st => .exc c l st
  | .bad => .bad := rfl
@[simp] theorem e_oInt_1 : ∀ i st, oInt ([.int i]) st = .val .P (.int i) st := fun _ _ => rfl
@[simp] theorem e_oInt_2 : ∀ b st, oInt ([.bl b]) st = .val .P (.int (if b then 1 else 0)) st := fun _ _ => rfl
@[simp] theorem e_oInt_3 : ∀ a st, oInt ([.str a]) st = if a.length ≤ 640 then ofOpt (PySem.intText? a) fun n => .val .P (.int n) st else .bad := fun _ _ => rfl
@[simp] theorem e_oStr_1 : ∀ i st, oStr ([.int i]) st = if i.natAbs.log2 < 1920 then .val .P (.str (itxt i)) st else .bad := fun _ _ => rfl
@[simp] theorem e_oStr_2 : ∀ a st, oStr ([.str a]) st = .val .P (.str a) st := fun _ _ => rfl
@[simp] theorem e_dStrX {Os : OwnL} {f : En → ER} {E : En} : dStrX Os f E = match f E with
  | .val _ (.ptr n) st => (match stIns st n with
    | some (c, _) => ofOpt (ownF Os c) fun F => asStr (F [.ptr n] st)
    | none => .bad)
  | .val _ d st => oStr [d] st
  | .exc c l st => .exc c l st
  | .bad => .bad := rfl
@[simp] theorem e_dIsO {tab : Nat → Option Bool} {f : En → ER} {E : En} : dIsO tab f E = (f E).bind (isO tab) := rfl
@[simp] theorem e_dEqO {Os : OwnL} {Cs : List Nat} {neg : Bool} {o : D → D → Sto → ER} {f g : En → ER} {E : En} : dEqO Os Cs neg o f g E = match f E with
  | .val _ x st => (match g ⟨E.e, st⟩ with
    | .val m y st1 => eqO2 Os Cs neg o m x y st1
    | .exc c l st => .exc c l st
    | .bad => .bad)
  | .exc c l st => .exc c l st
  | .bad => .bad := rfl
@[simp] theorem e_dMs {op : Str → List D → Sto → ER} {fb : En → ER} {fa : En → AR} {E : En} : dMs op fb fa E = match fb E with
  | .val _ (.str x) st => (match fa ⟨E.e, st⟩ with
    | .ok _ ds st1 => op x ds st1
    | .exc c l st => .exc c l st
    | .bad => .bad)
  | .exc c l st => .exc c l st
  | _ => .bad := rfl
@[simp] theorem e_dFmt {f : En → ER} {E : En} : dFmt f E = match f E with
  | .val _ (.str y) st => if y.length ≤ 1000000 then .val .P (.str y) st else .bad
  | .val _ (.int i) st => if i.natAbs.log2 < 1920 then .val .P (.str (itxt i)) st else .bad
  | .exc c l st => .exc c l st
  | _ => .bad := rfl
@[simp] theorem e_dJs {fs : List (En → ER)} {E : En} : dJs fs E = jsGo fs Str.empty E.e E.st := rfl
@[simp] theorem e_dIsiP {T : String} {f : En → ER} {E : En} : dIsiP T f E = (f E).bind (isTP T) := rfl
@[simp] theorem e_sSkip {E : En} : sSkip E = .nx E := rfl
@[simp] theorem e_sBreak {E : En} : sBreak E = .bk E := rfl
@[simp] theorem e_sCont {E : En} : sCont E = .ct E := rfl
@[simp] theorem cons_P {d : D} {st : Sto} {a : Sto → AR} : (ER.val .P d st).cons a = (a st).cons true d := rfl
@[simp] theorem cons_N {d : D} {st : Sto} {a : Sto → AR} : (ER.val .N d st).cons a = (a st).cons true d := rfl
@[simp] theorem cons_B {d : D} {st : Sto} {a : Sto → AR} : (ER.val .B d st).cons a = (a st).cons false d := rfl
@[simp] theorem cons_exc {k : Nat} {l : List D} {st : Sto} {a : Sto → AR} : (ER.exc k l st).cons a = .exc k l st := rfl
@[simp] theorem cons_bad {a : Sto → AR} : ER.bad.cons a = .bad := rfl
@[simp] theorem acons_ok {p q : Bool} {d : D} {l : List D} {st : Sto} : (AR.ok q l st).cons p d = .ok (p && q) (d :: l) st := rfl
@[simp] theorem acons_exc {p : Bool} {d : D} {k : Nat} {l : List D} {st : Sto} : (AR.exc k l st).cons p d = .exc k l st := rfl
@[simp] theorem acons_bad {p : Bool} {d : D} : AR.bad.cons p d = .bad := rfl
@[simp] theorem e_pickNil {α : Type} {l : List α} : pickL [] l = [] := rfl
@[simp] theorem e_pickCons {α : Type} {k : Nat} {ks : List Nat} {l : List α} : pickL (k :: ks) l = (match l[k]? with | some x => [x] | none => []) ++ pickL ks l := by
  unfold pickL; rw [List.filterMap_cons]; cases l[k]? <;> rfl
@[simp] theorem e_part0 {st : Sto} : partI none st = some (none, st) := rfl
@[simp] theorem e_partI {m : Md} {i : Int} {st st1 : Sto} : partI (some (.val m (.int i) st1)) st = some (some i, st1) := rfl
@[simp] theorem e_tgN {i : Nat} {e : DE} {d : D} : tgN i d e = some (e.set i (.val d)) := rfl
@[simp] theorem e_tgsNil {e : DE} : tgsNil [] e = some e := rfl
@[simp] theorem e_tgsCons {e : DE} {q : D → DE → Option DE} {qs : List D → DE → Option DE} {d : D} {l : List D} : tgsCons q qs (d :: l) e = (q d e).bind (qs l) := rfl
@[simp] theorem e_tgTt {e : DE} {n : Nat} {qs : List D → DE → Option DE} {l : List D} : tgT n qs (.tup l) e = if l.length = n then qs l e else none := rfl
@[simp] theorem e_tgTl {e : DE} {n : Nat} {qs : List D → DE → Option DE} {l : List D} : tgT n qs (.lst l) e = if l.length = n then qs l e else none := rfl
@[simp] theorem e_tgB {E : En} {s : En → SR} {q : D → DE → Option DE} {d : D} : tgB q s d E = match q d E.e with | some e' => s ⟨e', E.st⟩ | none => .bad := rfl
@[simp] theorem e_for0 {b : D → En → SR} {E : En} : forD b [] E = .nx E := rfl
theorem e_forC {b : D → En → SR} {x : D} {xs : List D} {E : En} : forD b (x :: xs) E = match b x E with | .nx e' => forD b xs e' | .ct e' => forD b xs e' | .bk e' => .nx e' | r => r := rfl
@[simp] theorem e_itL {l : List D} : itemsOf (.lst l) = some l := rfl
@[simp] theorem e_itT {l : List D} : itemsOf (.tup l) = some l := rfl
@[simp] theorem e_itS {z : Str} : itemsOf (.str z) = some (z.cps.toList.map fun c => .str ⟨#[c]⟩) := rfl
@[simp] theorem e_itR {l : List Int} : itemsOf (.scr l) = some (l.map .int) := rfl
@[simp] theorem e_rng1 {j : Int} : rng1 [.int j] = if -(2 ^ 62) ≤ j ∧ j < 2 ^ 62 then some (0, j.toNat) else none := rfl
@[simp] theorem e_rng2 {i j : Int} : rng2 [.int i, .int j] = if -(2 ^ 62) ≤ i ∧ i < 2 ^ 62 ∧ -(2 ^ 62) ≤ j ∧ j < 2 ^ 62 then some (i, (j - i).toNat) else none := rfl
@[simp] theorem e_wipe0 {e : DE} : wipeE e [] = e := rfl
@[simp] theorem e_wipeC {e : DE} {v : Nat} {vs : List Nat} : wipeE e (v :: vs) = (wipeE e vs).set v .emp := rfl
@[simp] theorem e_lc0 {k : D → Sto → Option (Option D × Sto)} {st : Sto} : lcGo k [] st = some ([], st) := rfl
theorem e_lcC {k : D → Sto → Option (Option D × Sto)} {d : D} {l : List D} {st : Sto} : lcGo k (d :: l) st = (k d st).bind fun o => (lcGo k l o.2).bind fun r => some (o.1.toList ++ r.1, r.2) := rfl
@[simp] theorem e_lcStep {q : D → DE → Option DE} {c f : En → ER} {e : DE} {d : D} {st : Sto} : lcStep q c f e d st = match q d e with
  | none => none
  | some e2 => (match c ⟨e2, st⟩ with
    | .val _ (.bl b) st1 => if b = true then (match f ⟨e2, st1⟩ with | .val .P y st2 => some (some y, st2) | .val .N y st2 => some (some y, st2) | _ => none) else some (none, st1)
    | _ => none) := rfl
@[simp] theorem e_nilOnly {s : En → SR} {E : En} : nilOnly [] s E = s E := rfl
@[simp] theorem e_clr0 : clr [] = [] := rfl
@[simp] theorem e_clrC {x : SL} {r : DE} : clr (x :: r) = (match x with | .exn => .emp | .clo _ => .emp | s => s) :: clr r := rfl
@[simp] theorem e_ret_nx {E : En} : (SR.nx E).ret = .val .P .non E.st := rfl
@[simp] theorem e_ret_rt {m : Md} {d : D} {st : Sto} : (SR.rt m d st).ret = .val m d st := rfl
@[simp] theorem e_ret_exc {k : Nat} {l : List D} {E : En} : (SR.exc k l E).ret = .exc k l E.st := rfl
@[simp] theorem e_ret_bad : SR.bad.ret = .bad := rfl
@[simp] theorem e_fnD {n m : Nat} {s : En → SR} {ds : List D} {st : Sto} : fnD n m s ds st = if ds.length = n then (s ⟨startE m ds, st⟩).ret else .bad := rfl
@[simp] theorem e_startE {n : Nat} {ds : List D} : startE n ds = ds.map .val ++ List.replicate (n - ds.length) .emp := rfl
@[simp] theorem e_frz {i : Nat} {e : DE} : frz i e = match e[i]? with | some (.own l) => e.set i (.val (.lst l)) | _ => e := rfl
@[simp] theorem e_sSetI {x : Nat} {f fi : En → ER} {E : En} : sSetI x f fi E = match E.e[x]? with | some (.own _) => sSetO x f fi E | _ => sSetP (dVar x) f fi E := rfl
@[simp] theorem e_stLst {st : Sto} {n : Nat} : stLst st n = match st[n]? with | some (.lst l) => some l | _ => none := rfl
@[simp] theorem e_slL {l : List D} {lo hi : Option Int} {st : Sto} : oSl (.lst l) lo hi st = .val .N (.lst (cutG l lo hi)) st := rfl
@[simp] theorem e_slR {l : List Int} {lo hi : Option Int} {st : Sto} : oSl (.scr l) lo hi st = .val .N (.lst ((cutG l lo hi).map .int)) st := rfl
@[simp] theorem e_slS {z : Str} {lo hi : Option Int} {st : Sto} : oSl (.str z) lo hi st = if z.length ≤ 1000000 then .val .P (.str (cutS z lo hi)) st else .bad := rfl
@[simp] theorem e_isN {a : D} {st : Sto} : oIsN a .non st = .val .P (.bl (isNon a)) st := rfl
@[simp] theorem e_notN {a : D} {st : Sto} : oNotN a .non st = .val .P (.bl (!isNon a)) st := rfl
@[simp] theorem isNon_non : isNon .non = true := rfl
@[simp] theorem isNon_int {i : Int} : isNon (.int i) = false := rfl
@[simp] theorem isNon_str {i : Str} : isNon (.str i) = false := rfl
@[simp] theorem isNon_lst {i : List D} : isNon (.lst i) = false := rfl
@[simp] theorem isNon_tup {i : List D} : isNon (.tup i) = false := rfl
@[simp] theorem isNon_obj {c : Nat} {i : List D} : isNon (.obj c i) = false := rfl
@[simp] theorem e_eqI {i j : Int} {st : Sto} : oEq (.int i) (.int j) st = .val .P (.bl (decide (i = j))) st := rfl
@[simp] theorem e_neI {i j : Int} {st : Sto} : oNe (.int i) (.int j) st = .val .P (.bl (!decide (i = j))) st := rfl
@[simp] theorem e_eqS {i j : Str} {st : Sto} : oEq (.str i) (.str j) st = .val .P (.bl (decide (i = j))) st := rfl
@[simp] theorem e_neS {i j : Str} {st : Sto} : oNe (.str i) (.str j) st = .val .P (.bl (!decide (i = j))) st := rfl
theorem kit_ii : kitB "int" "int" = some true := by decide +kernel
theorem kit_ib : kitB "int" "bool" = some false := by decide +kernel
theorem kit_tt : kitB "tuple" "tuple" = some true := by decide +kernel
theorem kit_ll : kitB "list" "list" = some true := by decide +kernel
theorem kit_ss : kitB "str" "str" = some true := by decide +kernel
theorem kit_si : kitB "str" "int" = some false := by decide +kernel
theorem kit_is : kitB "int" "str" = some false := by decide +kernel
theorem kit_ti : kitB "tuple" "int" = some false := by decide +kernel
theorem kit_it : kitB "int" "tuple" = some false := by decide +kernel
@[simp] theorem e_is_ii {i : Int} {st : Sto} : isT "int" (.int i) st = .val .P (.bl true) st := by simp only [isT, tyN, kit_ii, ofOpt_some]
@[simp] theorem e_is_ib {i : Int} {st : Sto} : isT "bool" (.int i) st = .val .P (.bl false) st := by simp only [isT, tyN, kit_ib, ofOpt_some]
@[simp] theorem e_is_tt {l : List D} {st : Sto} : isT "tuple" (.tup l) st = .val .P (.bl true) st := by simp only [isT, tyN, kit_tt, ofOpt_some]
@[simp] theorem e_is_ll {l : List D} {st : Sto} : isT "list" (.lst l) st = .val .P (.bl true) st := by simp only [isT, tyN, kit_ll, ofOpt_some]
@[simp] theorem e_is_ss {l : Str} {st : Sto} : isT "str" (.str l) st = .val .P (.bl true) st := by simp only [isT, tyN, kit_ss, ofOpt_some]
@[simp] theorem e_is_is {i : Int} {st : Sto} : isT "str" (.int i) st = .val .P (.bl false) st := by simp only [isT, tyN, kit_is, ofOpt_some]
@[simp] theorem e_is_it {i : Int} {st : Sto} : isT "tuple" (.int i) st = .val .P (.bl false) st := by simp only [isT, tyN, kit_it, ofOpt_some]
@[simp] theorem e_is_si {l : Str} {st : Sto} : isT "int" (.str l) st = .val .P (.bl false) st := by simp only [isT, tyN, kit_si, ofOpt_some]
@[simp] theorem e_is_ti {l : List D} {st : Sto} : isT "int" (.tup l) st = .val .P (.bl false) st := by simp only [isT, tyN, kit_ti, ofOpt_some]
theorem eqAny_of {a b : D} {r : Bool} {st : Sto} (hs : scalD a b = false) (h1 : isPy a = true) (h2 : isPy b = true) (h3 : SeqAt.shaped (py a) = true) (h4 : SeqAt.shaped (py b) = true) (he : PyData.eqv (py a) (py b) = r) : oEq a b st = .val .P (.bl r) st := by
  unfold oEq eqAny
  rw [if_neg (by rw [hs]; exact Bool.false_ne_true), if_pos ⟨h1, h2, h3, h4⟩, he]
theorem py_ints : ∀ l : List Int, pyL (l.map D.int) = l.map PyData.int
  | [] => rfl
  | i :: l => by simp [pyL, py, py_ints l]
theorem isPy_ints : ∀ l : List Int, isPyL (l.map D.int) = true
  | [] => rfl
  | i :: l => by simp [isPyL, isPy, isPy_ints l]
theorem eqv_ints : ∀ l m : List Int, PyData.eqvAll (l.map PyData.int) (m.map PyData.int) = decide (l = m)
  | [], [] => by simp [PyData.eqvAll]
  | [], _ :: _ => by simp [PyData.eqvAll]
  | _ :: _, [] => by simp [PyData.eqvAll]
  | i :: l, j :: m => by
    simp only [List.map_cons, PyData.eqvAll, PyData.eqv, eqv_ints l m]
    by_cases h : i = j <;> simp [h]
theorem lay_ints : ∀ l : List Int, PyData.canLayAll0 (l.map PyData.int) = true
  | [] => by simp [PyData.canLayAll0]
  | i :: l => by simp [PyData.canLayAll0, PyData.canLay0, lay_ints l]
theorem depth_ints : ∀ l : List Int, PyData.depthAll (l.map PyData.int) = 0
  | [] => by simp [PyData.depthAll]
  | i :: l => by simp [PyData.depthAll, PyData.depth, depth_ints l]
theorem eq_tupInts (l m : List Int) (st : Sto) : oEq (.tup (l.map .int)) (.tup (m.map .int)) st = .val .P (.bl (decide (l = m))) st := by
  refine eqAny_of rfl ?_ ?_ ?_ ?_ ?_
  · simp [isPy, isPy_ints]
  · simp [isPy, isPy_ints]
  · simp [SeqAt.shaped, py, py_ints, PyData.canLay0, PyData.depth, lay_ints, depth_ints]
  · simp [SeqAt.shaped, py, py_ints, PyData.canLay0, PyData.depth, lay_ints, depth_ints]
  · simp [py, py_ints, PyData.eqv, eqv_ints]
@[simp] theorem eq_tup2 {a b c d : Int} {st : Sto} : oEq (.tup [.int a, .int b]) (.tup [.int c, .int d]) st = .val .P (.bl (decide (a = c ∧ b = d))) st := by
  have h := eq_tupInts [a, b] [c, d] st
  simp only [List.map_cons, List.map_nil] at h
  rw [h]
  simp
theorem ne_of_eq {a b : D} {st : Sto} {r : Bool} (h : oEq a b st = .val .P (.bl r) st) : oNe a b st = .val .P (.bl (!r)) st := by
  unfold oEq at h; unfold oNe
  cases q : eqAny a b with
  | none => rw [q] at h; cases h
  | some x => rw [q] at h; cases h; rfl
@[simp] theorem ne_tup2 {a b c d : Int} {st : Sto} : oNe (.tup [.int a, .int b]) (.tup [.int c, .int d]) st = .val .P (.bl (!decide (a = c ∧ b = d))) st := ne_of_eq eq_tup2
@[simp] theorem e_stIns {st : Sto} {n : Nat} : stIns st n = match st[n]? with | some (.ins c l) => some (c, l) | _ => none := rfl
@[simp] theorem e_putI {i : Nat} {d : D} {l : List D} : putI i d l = if i < l.length then some (l.set i d) else if i = l.length then some (l ++ [d]) else none := rfl
@[simp] theorem e_mAppend {l : List D} {d : D} : mAppend l [d] = if l.length < 1000000 then some (.non, l ++ [d]) else none := rfl
@[simp] theorem e_mInsert {l : List D} {i : Int} {d : D} : mInsert l [.int i, d] = if l.length < 1000000 ∧ 0 ≤ i ∧ i < 2 ^ 63 then some (.non, l.take i.toNat ++ [d] ++ l.drop i.toNat) else none := rfl
@[simp] theorem e_mPop {l : List D} : mPop l [] = match l[l.length - 1]? with | some d => some (d, l.dropLast) | none => none := rfl
@[simp] theorem e_mPopAt {l : List D} {i : Int} : mPopAt l [.int i] = if -(2 ^ 63) ≤ i ∧ i < 2 ^ 63 then (match seqIndex? i l.length with | some k => (match l[k]? with | some d => some (d, l.eraseIdx k) | none => none) | none => none) else none := rfl
@[simp] theorem e_mReverse {l : List D} : mReverse l [] = some (.non, l.reverse) := rfl
@[simp] theorem e_putAt0 {d : D} {e : DE} : putAt none d e = e := rfl
@[simp] theorem e_putAt1 {d : D} {e : DE} {j : Nat} : putAt (some j) d e = e.set j (.val d) := rfl
@[simp] theorem e_isC {c : Nat} {fo : En → ER} {E : En} : isC c fo E = match fo E with
  | .val _ (.ptr n) st => (match stIns st n with | some (c', _) => c' == c | none => false)
  | _ => false := rfl
@[simp] theorem e_dIterV {i : Nat} {E : En} : dIterV i E = match E.e[i]? with
  | some (.own l) => .ok false l E.st
  | _ => dIter (dVar i) E := rfl
@[simp] theorem e_mClear {l : List D} : mClear l [] = some (.non, []) := rfl
@[simp] theorem boolsOf_map {α : Type} (f : α → Bool) : ∀ l : List α, boolsOf (l.map fun a => .bl (f a)) = some (l.map f)
  | [] => rfl
  | a :: l => by simp [boolsOf, boolsOf_map f l]
@[simp] theorem e_oIn_1 {a : D} {l : List D} {st : Sto} : oIn a (.lst l) st = ofOpt (inL a l) fun r => .val .P (.bl r) st := rfl
@[simp] theorem e_oIn_2 {a : D} {n : Nat} {st : Sto} : oIn a (.ptr n) st = ofOpt (stLst st n) fun l => ofOpt (inL a l) fun r => .val .P (.bl r) st := rfl
@[simp] theorem e_oNotIn_1 {a : D} {l : List D} {st : Sto} : oNotIn a (.lst l) st = ofOpt (inL a l) fun r => .val .P (.bl (!r)) st := rfl
@[simp] theorem e_oNotIn_2 {a : D} {n : Nat} {st : Sto} : oNotIn a (.ptr n) st = ofOpt (stLst st n) fun l => ofOpt (inL a l) fun r => .val .P (.bl (!r)) st := rfl
@[simp] theorem e_cloOf0 : cloOf [] = [] := rfl
@[simp] theorem e_cloOfC {x : SL} {r : DE} : cloOf (x :: r) = (match x with | .val d => some d | _ => none) :: cloOf r := rfl
@[simp] theorem e_cloE {ds : List (Option D)} {ja jb : Nat} {x y : D} : cloE ds ja jb x y = ((ds.map slO).set ja (.val x)).set jb (.val y) := rfl
@[simp] theorem e_slO1 {d : D} : slO (some d) = .val d := rfl
@[simp] theorem e_slO0 : slO none = .emp := rfl
@[simp] theorem e_startL {n : Nat} {d : D} {ds : List (Option D)} : startL n d ds = .val d :: .clo ds :: List.replicate (n - 2) .emp := rfl
@[simp] theorem e_valOnly {m : Md} {d : D} {st : Sto} : valOnly (.val m d st) = .val m d st := rfl
@[simp] theorem e_sBad {E : En} : sBad E = .bad := rfl
@[simp] theorem e_dBad {E : En} : dBad E = .bad := rfl
@[simp] theorem e_sForX {f : En → ER} {t : D → DE → Option DE} {b : En → SR} {E : En} : sForX f t b E = match f E with
  | .val _ (.ptr n) st => (match stLst st n with | some l => forPD n l (tgB t b) l ⟨E.e, st⟩ | none => .bad)
  | _ => sFor (dIter f) t b E := rfl
@[simp] theorem e_derefL {st : Sto} {l : List D} : deref st (.lst l) = .lst l := rfl
@[simp] theorem e_derefT {st : Sto} {l : List D} : deref st (.tup l) = .tup l := rfl
@[simp] theorem e_derefI {st : Sto} {i : Int} : deref st (.int i) = .int i := rfl
@[simp] theorem e_derefS {st : Sto} {x : Str} : deref st (.str x) = .str x := rfl
@[simp] theorem e_derefB {st : Sto} {x : Bool} : deref st (.bl x) = .bl x := rfl
@[simp] theorem e_derefN {st : Sto} : deref st .non = .non := rfl
@[simp] theorem e_derefP {st : Sto} {n : Nat} : deref st (.ptr n) = (match stLst st n with | some l => .lst l | none => .ptr n) := rfl
@[simp] theorem e_oEqX {a b : D} {st : Sto} : oEqX a b st = oEq (deref st a) (deref st b) st := rfl
@[simp] theorem e_oNeX {a b : D} {st : Sto} : oNeX a b st = oNe (deref st a) (deref st b) st := rfl
@[simp] theorem e_ownF0 {c : Nat} : ownF [] c = none := rfl
@[simp] theorem e_ownFC {c c' : Nat} {F : List D → Sto → ER} {l : OwnL} : ownF ((c', F) :: l) c = if c = c' then some F else ownF l c := rfl
@[simp] theorem e_asLen {m : Md} {i : Int} {st : Sto} : asLen (.val m (.int i) st) = if 0 ≤ i ∧ i < 2 ^ 63 then .val .P (.int i) st else .bad := rfl
@[simp] theorem e_asStr {m : Md} {i : Str} {st : Sto} : asStr (.val m (.str i) st) = .val .P (.str i) st := rfl
@[simp] theorem e_asBl {m : Md} {i n : Bool} {st : Sto} : asBl n (.val m (.bl i) st) = .val .P (.bl (i != n)) st := rfl
@[simp] theorem e_isOP {t : Nat → Option Bool} {n : Nat} {st : Sto} : isO t (.ptr n) st = (match stIns st n with | some (c, _) => ofOpt (t c) fun b => .val .P (.bl b) st | none => (match stLst st n with | some _ => .val .P (.bl false) st | none => .bad)) := rfl
@[simp] theorem e_isON {t : Nat → Option Bool} {st : Sto} : isO t .non st = .val .P (.bl false) st := rfl
@[simp] theorem e_isOI {t : Nat → Option Bool} {i : Int} {st : Sto} : isO t (.int i) st = .val .P (.bl false) st := rfl
@[simp] theorem e_isOB {t : Nat → Option Bool} {i : Bool} {st : Sto} : isO t (.bl i) st = .val .P (.bl false) st := rfl
@[simp] theorem e_isOS {t : Nat → Option Bool} {i : Str} {st : Sto} : isO t (.str i) st = .val .P (.bl false) st := rfl
@[simp] theorem e_isOT {t : Nat → Option Bool} {l : List D} {st : Sto} : isO t (.tup l) st = .val .P (.bl false) st := rfl
@[simp] theorem e_isOL {t : Nat → Option Bool} {l : List D} {st : Sto} : isO t (.lst l) st = .val .P (.bl false) st := rfl
@[simp] theorem e_eqArgP {Cs : List Nat} {n : Nat} {st : Sto} : eqArg Cs (.ptr n) st = (match stIns st n with | some (c, _) => Cs.contains c | none => false) := rfl
@[simp] theorem e_eqArgN {Cs : List Nat} {st : Sto} : eqArg Cs .non st = true := rfl
@[simp] theorem e_eqArgI {Cs : List Nat} {i : Int} {st : Sto} : eqArg Cs (.int i) st = true := rfl
@[simp] theorem e_eqArgB {Cs : List Nat} {i : Bool} {st : Sto} : eqArg Cs (.bl i) st = true := rfl
@[simp] theorem e_eqArgS {Cs : List Nat} {i : Str} {st : Sto} : eqArg Cs (.str i) st = true := rfl
@[simp] theorem e_eqArgT {Cs : List Nat} {i : List D} {st : Sto} : eqArg Cs (.tup i) st = true := rfl
@[simp] theorem e_eqArgL {Cs : List Nat} {i : List D} {st : Sto} : eqArg Cs (.lst i) st = true := rfl
@[simp] theorem e_eqO2P {Os : OwnL} {Cs : List Nat} {neg : Bool} {o : D → D → Sto → ER} {m : Md} {n : Nat} {y : D} {st : Sto} : eqO2 Os Cs neg o m (.ptr n) y st = (match stIns st n with
    | some (c, _) => ofOpt (ownF Os c) fun F => if m ≠ .B ∧ eqArg Cs y st = true then asBl neg (F [.ptr n, y] st) else .bad
    | none => o (.ptr n) y st) := rfl
@[simp] theorem e_eqO2I {Os : OwnL} {Cs : List Nat} {neg : Bool} {o : D → D → Sto → ER} {m : Md} {i : Int} {y : D} {st : Sto} : eqO2 Os Cs neg o m (.int i) y st = o (.int i) y st := rfl
@[simp] theorem e_eqO2L {Os : OwnL} {Cs : List Nat} {neg : Bool} {o : D → D → Sto → ER} {m : Md} {i : List D} {y : D} {st : Sto} : eqO2 Os Cs neg o m (.lst i) y st = o (.lst i) y st := rfl
@[simp] theorem e_rowsOf {α : Type} {f g : α → Int} : ∀ l : List α, rowsOf (l.map fun a => .tup [.int (f a), .int (g a)]) = some (l.map fun a => (f a, g a))
  | [] => rfl
  | a :: l => by simp only [List.map_cons, rowsOf, e_rowsOf l]; rfl
@[simp] theorem e_strsOf {α : Type} {f : α → Str} : ∀ l : List α, strsOf (l.map fun a => .str (f a)) = some (l.map f)
  | [] => rfl
  | a :: l => by simp only [List.map_cons, strsOf, e_strsOf l]; rfl
@[simp] theorem e_seqL {l : List D} {st : Sto} : seqStrs (.lst l) st = strsOf l := rfl
@[simp] theorem e_seqT {l : List D} {st : Sto} : seqStrs (.tup l) st = strsOf l := rfl
@[simp] theorem e_seqP {n : Nat} {st : Sto} : seqStrs (.ptr n) st = (stLst st n).bind strsOf := rfl
@[simp] theorem e_js0 {a : Str} {e : DE} {st : Sto} : jsGo [] a e st = .val .P (.str a) st := rfl
@[simp] theorem e_jsC {f : En → ER} {fs : List (En → ER)} {acc : Str} {e : DE} {st : Sto} : jsGo (f :: fs) acc e st = match f ⟨e, st⟩ with
    | .val _ (.str y) st1 => if (acc ++ y).length ≤ 1000000 then jsGo fs (acc ++ y) e st1 else .bad
    | .exc c l st => .exc c l st
    | _ => .bad := rfl
@[simp] theorem e_oSortedX {l : List D} {st : Sto} : oSortedX [.lst l] st = (match intsOf l with
    | some ns => if ns.length < 64 then .val .N (.lst ((srt ns).map .int)) st else .bad
    | none => ofOpt (rowsOf l) fun rs => .val .N (.lst ((srtP rs).map fun r => .tup [.int r.1, .int r.2])) st) := rfl
@[simp] theorem e_msJoin {a : Str} {d : D} {st : Sto} : msJoin a [d] st = ofOpt (seqStrs d st) fun ys => if (ys.map (·.length)).sum + ys.length * a.length ≤ 1000000 then .val .P (.str (Txt.join a ys)) st else .bad := rfl
@[simp] theorem e_msSplit {a b : Str} {st : Sto} : msSplit a [.str b] st = if (b.length == 0) = false ∧ a.length + 2 ≤ 1000000 then .val .N (.lst ((Txt.split a b).map .str)) st else .bad := rfl
@[simp] theorem e_msPartition {a b : Str} {st : Sto} : msPartition a [.str b] st = if (b.length == 0) = false ∧ a.length ≤ 1000000 then .val .P (.tup [.str (Txt.partition a b).1, .str (Txt.partition a b).2.1, .str (Txt.partition a b).2.2]) st else .bad := rfl
@[simp] theorem e_msCount {a b : Str} {st : Sto} : msCount a [.str b] st = .val .P (.int (Txt.count a b)) st := rfl
@[simp] theorem e_isTPp {T : String} {n : Nat} {st : Sto} : isTP T (.ptr n) st = (match stLst st n with | some _ => ofOpt (kitB "list" T) fun b => .val .P (.bl b) st | none => .bad) := rfl
@[simp] theorem e_isTPl {T : String} {l : List D} {st : Sto} : isTP T (.lst l) st = isT T (.lst l) st := rfl
@[simp] theorem e_isTPt {T : String} {l : List D} {st : Sto} : isTP T (.tup l) st = isT T (.tup l) st := rfl
end Dn
namespace Dn
open PySem PySem.Spec PyProof.Rows L2
def sThru (g : En → SR) : En → SR := fun E => match g E with
  | .exc _ _ _ => .bad
  | r => r
@[simp] theorem e_sThru {g : En → SR} {E : En} : sThru g E = match g E with
  | .exc _ _ _ => .bad
  | r => r := rfl
end Dn
namespace Dn
open PySem PySem.Spec PyProof.Rows L2
section
variable {G : Gm} {W : WX}
def sSwI (x : Nat) (f : En → ER) (f1 f2 : En → ER) : En → SR := fun E => match f E with
  | .val .P (.tup [a, b]) st => (match E.e[x]? with
    | some (.own l) => (match f1 ⟨E.e, st⟩ with
      | .val _ (.int i) st1 => (match ixN l.length i with
        | some j => (match f2 ⟨E.e.set x (.own (l.set j a)), st1⟩ with
          | .val _ (.int i2) st2 => (match ixN l.length i2 with
            | some j2 => .nx ⟨(E.e.set x (.own (l.set j a))).set x (.own ((l.set j a).set j2 b)), st2⟩
            | none => .bad)
          | _ => .bad)
        | none => .bad)
      | _ => .bad)
    | _ => .bad)
  | .exc c l st => .exc c l ⟨E.e, st⟩
  | _ => .bad
@[simp] theorem e_sSwI {x : Nat} {f f1 f2 : En → ER} {E : En} : sSwI x f f1 f2 E = match f E with
  | .val .P (.tup [a, b]) st => (match E.e[x]? with
    | some (.own l) => (match f1 ⟨E.e, st⟩ with
      | .val _ (.int i) st1 => (match ixN l.length i with
        | some j => (match f2 ⟨E.e.set x (.own (l.set j a)), st1⟩ with
          | .val _ (.int i2) st2 => (match ixN l.length i2 with
            | some j2 => .nx ⟨(E.e.set x (.own (l.set j a))).set x (.own ((l.set j a).set j2 b)), st2⟩
            | none => .bad)
          | _ => .bad)
        | none => .bad)
      | _ => .bad)
    | _ => .bad)
  | .exc c l st => .exc c l ⟨E.e, st⟩
  | _ => .bad := rfl
end
end Dn
namespace L2
open PySem PySem.Spec PyProof.Rows
end L2
namespace Dn
open PySem PySem.Spec PyProof.Rows L2
section
variable {G : Gm} {W : WX}
def cntL (d : D) (l : List D) : Option Nat := if isPy d = true ∧ isPyL l = true ∧ SeqAt.shaped (py d) = true ∧ SeqAt.shaped (.list (pyL l)) = true then some ((pyL l).countP fun z => PyData.eqv z (py d)) else none
def dCnt (fb : En → ER) (fa : En → AR) : En → ER := fun E => match fb E with
  | .val _ (.lst l) st => (match fa ⟨E.e, st⟩ with
    | .ok _ [d] st1 => ofOpt (cntL d l) fun n => .val .P (.int (n : Nat)) st1
    | .exc c l st => .exc c l st
    | _ => .bad)
  | .exc c l st => .exc c l st
  | _ => .bad
@[simp] theorem e_dCnt {fb : En → ER} {fa : En → AR} {E : En} : dCnt fb fa E = match fb E with
  | .val _ (.lst l) st => (match fa ⟨E.e, st⟩ with
    | .ok _ [d] st1 => ofOpt (cntL d l) fun n => .val .P (.int (n : Nat)) st1
    | .exc c l st => .exc c l st
    | _ => .bad)
  | .exc c l st => .exc c l st
  | _ => .bad := rfl
def oInT (a b : D) (st : Sto) : ER := match a, b with
  | .str x, .tup l => ofOpt (strsOf l) fun ys => .val .P (.bl (inV (.str x) (ys.map V.str))) st
  | _, _ => .bad
@[simp] theorem e_oInT {x : Str} {l : List D} {st : Sto} : oInT (.str x) (.tup l) st = ofOpt (strsOf l) fun ys => .val .P (.bl (inV (.str x) (ys.map V.str))) st := rfl
end
end Dn
namespace Dn
open PySem PySem.Spec PyProof.Rows L2
def pickN (n : Nat) (lo hi : Option Int) (c : Int) : List Nat := sliceRange (sliceBounds lo hi (some c) n).1 (sliceBounds lo hi (some c) n).2.1 (sliceBounds lo hi (some c) n).2.2
def stepG {α : Type} (l : List α) (lo hi : Option Int) (c : Int) : List α := (pickN l.length lo hi c).filterMap (l[·]?)
theorem IsL.pick {G : Gm} {as : List Addr} {H : Hp} {vs : List V} {ds : List D} (h : IsL G as H vs ds) : ∀ (ks : List Nat), IsL G as H (ks.filterMap (vs[·]?)) (ks.filterMap (ds[·]?))
  | [] => .nil
  | k :: ks => by
    have ih := IsL.pick h ks
    cases e : ds[k]? with
    | none =>
      have e' : vs[k]? = none := by
        rw [List.getElem?_eq_none_iff] at e ⊢
        rw [h.len]; exact e
      rw [List.filterMap_cons_none e, List.filterMap_cons_none e']; exact ih
    | some d =>
      obtain ⟨v, e', hv⟩ := h.get e
      rw [List.filterMap_cons_some e, List.filterMap_cons_some e']; exact .cons hv ih
section
variable {G : Gm} {W : WX}
def dStp (c : Int) (f : En → ER) (lo hi : En → Option ER) : En → ER := fun E => (f E).bind fun x st => ofOpt (partI (lo ⟨E.e, st⟩) st) fun l => ofOpt (partI (hi ⟨E.e, l.2⟩) l.2) fun u => match x with
  | .lst xs => if (stepG xs l.1 u.1 c).length ≤ xs.length then .val .N (.lst (stepG xs l.1 u.1 c)) u.2 else .bad
  | _ => .bad
@[simp] theorem e_dStp {c : Int} {f : En → ER} {lo hi : En → Option ER} {E : En} : dStp c f lo hi E = (f E).bind fun x st => ofOpt (partI (lo ⟨E.e, st⟩) st) fun l => ofOpt (partI (hi ⟨E.e, l.2⟩) l.2) fun u => match x with
  | .lst xs => if (stepG xs l.1 u.1 c).length ≤ xs.length then .val .N (.lst (stepG xs l.1 u.1 c)) u.2 else .bad
  | _ => .bad := rfl
end
section
variable {G : Gm} {W : WX}
def msIndex (a : Str) (ds : List D) (st : Sto) : ER := match ds with
  | [.str b] => ofOpt (Txt.index0 a b) fun k => .val .P (.int (k : Nat)) st
  | _ => .bad
@[simp] theorem e_msIndex {a b : Str} {st : Sto} : msIndex a [.str b] st = ofOpt (Txt.index0 a b) fun k => .val .P (.int (k : Nat)) st := rfl
end
section
variable {G : Gm} {W : WX}
def sAugO (x : Nat) (o : Int → Int → Int) (fi fe : En → ER) : En → SR := fun E => match E.e[x]? with
  | some (.own l) => (match fi E with
    | .val _ (.int i) st1 => if 0 ≤ i then (match ixN l.length i with
      | some j => (match l[j]? with
        | some (.int a) => (match fe ⟨E.e, st1⟩ with
          | .val _ (.int b) st2 => .nx ⟨E.e.set x (.own (l.set j (.int (o a b)))), st2⟩
          | _ => .bad)
        | _ => .bad)
      | none => .bad) else .bad
    | _ => .bad)
  | _ => .bad
@[simp] theorem e_sAugO {x : Nat} {o : Int → Int → Int} {fi fe : En → ER} {E : En} : sAugO x o fi fe E = match E.e[x]? with
  | some (.own l) => (match fi E with
    | .val _ (.int i) st1 => if 0 ≤ i then (match ixN l.length i with
      | some j => (match l[j]? with
        | some (.int a) => (match fe ⟨E.e, st1⟩ with
          | .val _ (.int b) st2 => .nx ⟨E.e.set x (.own (l.set j (.int (o a b)))), st2⟩
          | _ => .bad)
        | _ => .bad)
      | none => .bad) else .bad
    | _ => .bad)
  | _ => .bad := rfl
end
section
variable {G : Gm} {W : WX}
def dEnumS (f : En → AR) : En → AR := fun E => match f E with
  | .ok _ [.str z] st => .ok true (enumD 0 (z.cps.toList.map fun c => .str ⟨#[c]⟩)) st
  | .exc c l st => .exc c l st
  | _ => .bad
@[simp] theorem e_dEnumS {f : En → AR} {E : En} : dEnumS f E = match f E with
  | .ok _ [.str z] st => .ok true (enumD 0 (z.cps.toList.map fun c => .str ⟨#[c]⟩)) st
  | .exc c l st => .exc c l st
  | _ => .bad := rfl
end
section
variable {G : Gm} {W : WX}
def oListS : List D → Sto → ER
  | [.str x], st => if x.length ≤ 1000000 then .val .N (.lst (x.cps.toList.map fun c => .str ⟨#[c]⟩)) st else .bad
  | _, _ => .bad
@[simp] theorem e_oListS {x : Str} {st : Sto} : oListS [.str x] st = if x.length ≤ 1000000 then .val .N (.lst (x.cps.toList.map fun c => .str ⟨#[c]⟩)) st else .bad := rfl
end
section
variable {G : Gm} {W : WX}
def oMulS : D → D → Sto → ER
  | .str a, .int n, st => if 0 ≤ n ∧ n ≤ 1000 ∧ a.length ≤ 1000 then .val .P (.str (Txt.mul a n)) st else .bad
  | _, _, _ => .bad
@[simp] theorem e_oMulS {a : Str} {n : Int} {st : Sto} : oMulS (.str a) (.int n) st = if 0 ≤ n ∧ n ≤ 1000 ∧ a.length ≤ 1000 then .val .P (.str (Txt.mul a n)) st else .bad := rfl
end
end Dn
namespace Dn
open PySem PySem.Spec PyProof.Rows L2
section
variable {G : Gm} {W : WX}
def sTryO (catch? : Nat → Option Bool) (g : En → SR) (h : En → SR) : En → SR := fun E => match g E with
  | .exc c l E1 => (match catch? c with
    | some true => (match h ⟨clr E1.e, E1.st⟩ with
      | .nx E2 => .nx ⟨clr E2.e, E2.st⟩
      | .bk E2 => .bk ⟨clr E2.e, E2.st⟩
      | .ct E2 => .ct ⟨clr E2.e, E2.st⟩
      | .rt m d st => .rt m d st
      | _ => .bad)
    | some false => .exc c l E1
    | none => .bad)
  | r => r
@[simp] theorem e_sTryO {catch? : Nat → Option Bool} {g h : En → SR} {E : En} : sTryO catch? g h E = match g E with
  | .exc c l E1 => (match catch? c with
    | some true => (match h ⟨clr E1.e, E1.st⟩ with
      | .nx E2 => .nx ⟨clr E2.e, E2.st⟩
      | .bk E2 => .bk ⟨clr E2.e, E2.st⟩
      | .ct E2 => .ct ⟨clr E2.e, E2.st⟩
      | .rt m d st => .rt m d st
      | _ => .bad)
    | some false => .exc c l E1
    | none => .bad)
  | r => r := rfl
end
section
variable {G : Gm} {W : WX}
def sRaiseF (c : Nat) (fa : En → AR) : En → SR := fun E => match fa E with
  | .ok true [d] st => .exc c [d] ⟨E.e, st⟩
  | .exc c' l st => .exc c' l ⟨E.e, st⟩
  | _ => .bad
@[simp] theorem e_sRaiseF {c : Nat} {fa : En → AR} {E : En} : sRaiseF c fa E = match fa E with
  | .ok true [d] st => .exc c [d] ⟨E.e, st⟩
  | .exc c' l st => .exc c' l ⟨E.e, st⟩
  | _ => .bad := rfl
end
def Gm.exn (G : Gm) (a : Addr) (x : Option Addr) (c : Nat) (l : List D) : Gm := { G with ea := a, ed := x, en := G.fn c, el := l }
mutual
theorem Is.swI {G G' : Gm} (eK : G'.K = G.K) (ec : G'.ca = G.ca) (ef : G'.fn = G.fn) {as : List Addr} {H : Hp} : ∀ (d : D) {v : V}, Is G as H v d → Is G' as H v d
  | .non, _, h => by cases h; exact .non
  | .bl _, _, h => by cases h; exact .bl _
  | .int _, _, h => by cases h; exact .int _
  | .str _, _, h => by cases h; exact .str _
  | .tup ds, _, h => by cases h with | tup p b => exact .tup (by rw [eK]; exact p) (IsL.swI eK ec ef ds b)
  | .lst ds, _, h => by cases h with | lst p b => exact .lst p (IsL.swI eK ec ef ds b)
  | .scr l, _, h => by cases h with | scr p => exact .scr (by rw [eK]; exact p)
  | .ptr n, _, h => by cases h with | ptr p => exact .ptr p
  | .obj c ds, _, h => by cases h with | obj p l b => exact .obj (by rw [ec, ef]; exact p) (by rw [ef]; exact l) (IsL.swI eK ec ef ds b)
theorem IsL.swI {G G' : Gm} (eK : G'.K = G.K) (ec : G'.ca = G.ca) (ef : G'.fn = G.fn) {as : List Addr} {H : Hp} : ∀ (ds : List D) {vs : List V}, IsL G as H vs ds → IsL G' as H vs ds
  | [], _, h => by cases h; exact .nil
  | d :: ds, _, h => by cases h with | cons p b => exact .cons (Is.swI eK ec ef d p) (IsL.swI eK ec ef ds b)
end
section
variable {G G' : Gm} (eK : G'.K = G.K) (ec : G'.ca = G.ca) (ef : G'.fn = G.fn)
include eK ec ef
theorem ObOk.swI {s : Hs} {x : Addr} {o : Ob} (h : ObOk G s x o) : ObOk G' s x o := by
  cases o with
  | lst l => obtain ⟨vs, h1, h2⟩ := h; exact ⟨vs, h1, IsL.swI eK ec ef _ h2⟩
  | ins c l => obtain ⟨dx, vs, h1, h2, h3⟩ := h; exact ⟨dx, vs, by rw [ec, ef]; exact h1, by rw [ef]; exact h2, IsL.swI eK ec ef _ h3⟩
  | tbl q => exact h
  | dct l => obtain ⟨kvs, h1, h2⟩ := h; exact ⟨kvs, h1, by
      clear h1
      induction h2 with
      | nil => exact .nil
      | cons p q ih => exact .cons (Is.swI eK ec ef _ p) ih⟩
theorem StOk.swI {s : Hs} {st : Sto} (et : G'.tb = G.tb) (k : StOk G s st) (hx : ExF G' s) : StOk G' s st := ⟨k.sf, k.len, k.nd, fun n x o h1 h2 => ObOk.swI eK ec ef (k.ob n x o h1 h2), k.nf, by rw [et]; exact k.tb, hx⟩
theorem VOk.swI {s t : Hs} {m : Md} {v : V} {d : D} (h : VOk G s t m v d) : VOk G' s t m v d := by
  cases m with
  | P => exact Is.swI eK ec ef _ h
  | B => obtain ⟨p, vs, l, x, b, c, e, f⟩ := h; exact ⟨p, vs, l, x, b, c, IsL.swI eK ec ef _ e, f⟩
  | N => obtain ⟨p, vs, l, x, b, c, e, f, g⟩ := h; exact ⟨p, vs, l, x, b, c, IsL.swI eK ec ef _ e, f, g⟩
theorem SlotOk.swI {s t : Hs} {o : Option V} {sl : SL} (h : SlotOk G s t o sl) (hs : sl ≠ .exn ∧ ∀ ds, sl ≠ .clo ds) : SlotOk G' s t o sl := by
  cases sl with
  | emp => trivial
  | exn => exact absurd rfl hs.1
  | clo ds => exact absurd rfl (hs.2 ds)
  | val d => obtain ⟨v, a, b⟩ := h; exact ⟨v, a, Is.swI eK ec ef _ b⟩
  | own l => obtain ⟨p, vs, a, b, c, d, e, f⟩ := h; exact ⟨p, vs, a, b, c, d, IsL.swI eK ec ef _ e, f⟩
theorem EnvOk.swI {s t : Hs} {σ : L2.St} {e : DE} (E : EnvOk G s t σ e) : EnvOk G' s t σ (clr e) := by
  refine ⟨E.gr, by rw [E.len]; simp [clr], fun i o s a b => ?_, fun i j p l m hij a b c d => ?_⟩
  · obtain ⟨h1, h2 | h2⟩ := clr_get b
    · subst h2; trivial
    · exact (E.at_ i o s a h2).swI eK ec ef h1
  · obtain ⟨_, h2 | h2⟩ := clr_get b
    · cases h2
    · obtain ⟨_, h3 | h3⟩ := clr_get d
      · cases h3
      · exact E.dis i j p l m hij a h2 c h3
end
section
variable {G : Gm} {W : WX}
theorem exF_of {t : Hs} {c : Nat} {l : List D} {x : Option Addr} (a : Addr) (h : ExcOk G t c l x) : ExF (G.exn a x c l) t := fun da hd => by
  have hd : x = some da := hd
  rcases h with ⟨_, hx⟩ | ⟨da', xs, hx, _, h1, h2, h3⟩
  · rw [hx] at hd; cases hd
  · rw [hx] at hd
    cases hd
    subst hx
    exact ⟨xs, h1, h2, IsL.swI (G := G) (G' := G.exn a (some da) c l) rfl rfl rfl _ h3⟩
def dXf (i : Nat) (o : Option D) : En → ER := fun E => match E.e[i]? with
  | some .exn => ofOpt o fun d => .val .P d E.st
  | _ => .bad
@[simp] theorem e_dXf {i : Nat} {o : Option D} {E : En} : dXf i o E = match E.e[i]? with
  | some .exn => ofOpt o fun d => .val .P d E.st
  | _ => .bad := rfl
end
end Dn
namespace Dn
open PySem PySem.W PySem.Spec PyProof.Rows L2
end Dn
namespace Dn
open PySem PySem.Spec PyProof.Rows L2
section
variable {G : Gm} {W : WX}
open Classical in
noncomputable def lcGoC (C : Sto → Prop) (k : D → Sto → Option (Option D × Sto)) : List D → Sto → Option (List D × Sto)
  | [], st => if C st then some ([], st) else none
  | d :: l, st => if C st then (k d st).bind fun o => (lcGoC C k l o.2).bind fun r => some (o.1.toList ++ r.1, r.2) else none
noncomputable def dLcX (f : En → ER) (t : D → DE → Option DE) (c g : En → ER) (vs : List Nat) : En → ER := fun E => match f E with
  | .val _ (.ptr n) st => (match stLst st n with
    | some l => if l.length ≤ 1000000 then ofOpt (lcGoC (fun st => stLst st n = some l) (lcStep t c g (wipeE E.e vs)) l st) fun r => .val .N (.lst r.1) r.2 else .bad
    | none => .bad)
  | _ => dLc (dIter f) t c g vs E
end
section
variable {G : Gm} {W : WX}
def oNotInF (a b : D) (st : Sto) : ER := match b with
  | .tup l => if flat a = true ∧ l.all flat = true then .val .P (.bl (!inV (toV a) (l.map toV))) st else .bad
  | _ => .bad
@[simp] theorem e_oNotInF {a : D} {l : List D} {st : Sto} : oNotInF a (.tup l) st = if flat a = true ∧ l.all flat = true then .val .P (.bl (!inV (toV a) (l.map toV))) st else .bad := rfl
end
end Dn
namespace Dn
open PySem PySem.Spec PyProof.Rows L2
def ZS (h : Heap) (z TI TO i1 i2 l1 l2 S : Addr) (k : Nat) : Prop := IsPair h TI (.ref i1) (.ref i2) ∧ h.IsListIter i1 l1 k ∧ h.IsListIter i2 l2 k ∧ (∃ o, h.get? TO = some o) ∧
  ((IsZip h z TI TO .none ∧ ∃ a b, IsPair h TO a b) ∨ ∃ T f oT, IsZipHeld h z TI TO T f ∧ h.get? T = some oT ∧ T ≠ z ∧ T ≠ i1 ∧ T ≠ i2 ∧ T ≠ S)
theorem ZS.keep {h h' : Heap} {z TI TO i1 i2 l1 l2 S : Addr} {k : Nat} (q : ZS h z TI TO i1 i2 l1 l2 S k) (nS : S ≠ z ∧ S ≠ TI ∧ S ≠ TO ∧ S ≠ i1 ∧ S ≠ i2) (hk : ∀ b o, b ≠ S → h.get? b = some o → h'.get? b = some o) : ZS h' z TI TO i1 i2 l1 l2 S k := by
  obtain ⟨a, b, c, ⟨oo, w⟩, d⟩ := q
  obtain ⟨n1, n2, n3, n4, n5⟩ := nS
  refine ⟨hk _ _ (Ne.symm n2) a, b.at fun o e => hk _ o (Ne.symm n4) e, c.at fun o e => hk _ o (Ne.symm n5) e, ⟨oo, hk _ _ (Ne.symm n3) w⟩, ?_⟩
  rcases d with ⟨d, x, y, e⟩ | ⟨T, f, oT, d, e, r1, r2, r3, r4⟩
  · exact .inl ⟨hk _ _ (Ne.symm n1) d, x, y, hk _ _ (Ne.symm n3) e⟩
  · exact .inr ⟨T, f, oT, hk _ _ (Ne.symm n1) d, hk _ _ r4 e, r1, r2, r3, r4⟩
section
variable {G : Gm} {W : WX}
def lstOf (st : Sto) : D → Option (List D)
  | .lst l => some l
  | .ptr n => stLst st n
  | _ => none
def dLz (f : En → AR) : En → ER := fun E => match f E with
  | .ok _ [a, b] st => ofOpt (lstOf st a) fun l => ofOpt (lstOf st b) fun m => if min l.length m.length ≤ 1000000 then .val .N (.lst (zipD l m)) st else .bad
  | .exc c l st => .exc c l st
  | _ => .bad
@[simp] theorem e_dLz {f : En → AR} {E : En} : dLz f E = match f E with
  | .ok _ [a, b] st => ofOpt (lstOf st a) fun l => ofOpt (lstOf st b) fun m => if min l.length m.length ≤ 1000000 then .val .N (.lst (zipD l m)) st else .bad
  | .exc c l st => .exc c l st
  | _ => .bad := rfl
@[simp] theorem lstOf_lst {st : Sto} {l : List D} : lstOf st (.lst l) = some l := rfl
@[simp] theorem lstOf_ptr {st : Sto} {n : Nat} : lstOf st (.ptr n) = stLst st n := rfl
end
theorem FldOk.sw {G G' : Gm} {f : Str} {ix : Nat → Option Nat} (h : FldOk G f ix) (eK : G'.K = G.K := by rfl) (ec : G'.ca = G.ca := by rfl) (ef : G'.fn = G.fn := by rfl) : FldOk G' f ix := ⟨fun c i q => by rw [eK, ec, ef]; exact h.ok c i q⟩
@[simp] theorem e_dLcX {f : En → ER} {t : D → DE → Option DE} {c g : En → ER} {vs : List Nat} {E : En} : dLcX f t c g vs E = match f E with
  | .val _ (.ptr n) st => (match stLst st n with
    | some l => if l.length ≤ 1000000 then ofOpt (lcGoC (fun st => stLst st n = some l) (lcStep t c g (wipeE E.e vs)) l st) fun r => .val .N (.lst r.1) r.2 else .bad
    | none => .bad)
  | _ => dLc (dIter f) t c g vs E := rfl
end Dn
namespace Dn
open PySem PySem.Spec PyProof.Rows L2
open HandSPX
end Dn
namespace Dn
open PySem PySem.Spec PyProof.Rows L2
inductive LR where | ok (o : Option D) (st : Sto) | exc (c : Nat) (l : List D) (st : Sto) | bad
def lcStepE (t : D → DE → Option DE) (c f : En → ER) (e : DE) (d : D) (st : Sto) : LR := match t d e with
  | none => .bad
  | some e2 => (match c ⟨e2, st⟩ with
    | .val _ (.bl b) st1 => if b = true then (match f ⟨e2, st1⟩ with | .val .P y st2 => .ok (some y) st2 | .val .N y st2 => .ok (some y) st2 | .exc k l st2 => .exc k l st2 | _ => .bad) else .ok none st1
    | _ => .bad)
def lcGoE (k : D → Sto → LR) : List D → List D → Sto → ER
  | [], acc, st => .val .N (.lst acc) st
  | d :: l, acc, st => match k d st with
    | .ok o st1 => lcGoE k l (acc ++ o.toList) st1
    | .exc c x st1 => .exc c x st1
    | .bad => .bad
def dLcE (src : En → AR) (t : D → DE → Option DE) (c f : En → ER) (vs : List Nat) : En → ER := fun E => match src E with
  | .ok _ l st => if l.length ≤ 1000000 then lcGoE (lcStepE t c f (wipeE E.e vs)) l [] st else .bad
  | .exc k l st => .exc k l st
  | .bad => .bad
@[simp] theorem e_dLcE {src : En → AR} {t : D → DE → Option DE} {c f : En → ER} {vs : List Nat} {E : En} : dLcE src t c f vs E = match src E with
  | .ok _ l st => if l.length ≤ 1000000 then lcGoE (lcStepE t c f (wipeE E.e vs)) l [] st else .bad
  | .exc k l st => .exc k l st
  | .bad => .bad := rfl
end Dn
namespace Dn
open PySem PySem.Spec PyProof.Rows L2
section
variable {G : Gm} {W : WX}
def oAddX (a b : D) (st : Sto) : ER := match deref st a, deref st b with
  | .lst x, .lst y => if x.length + y.length ≤ 1000000 then .val .N (.lst (x ++ y)) st else .bad
  | _, _ => oAdd a b st
def oSlX (d : D) (lo hi : Option Int) (st : Sto) : ER := match deref st d with
  | .lst l => .val .N (.lst (cutG l lo hi)) st
  | _ => oSl d lo hi st
def firstI (k : Int) : List Int → Option Nat
  | [] => none
  | n :: r => if n = k then some 0 else (firstI k r).map (· + 1)
def mRemove (l ds : List D) : Option (D × List D) := match ds with
  | [.int k] => (intsOf l).bind fun ns => (firstI k ns).map fun j => (.non, (ns.eraseIdx j).map .int)
  | _ => none
end
@[simp] theorem e_oAddX {a b : D} {st : Sto} : oAddX a b st = (match deref st a, deref st b with
  | .lst x, .lst y => if x.length + y.length ≤ 1000000 then .val .N (.lst (x ++ y)) st else .bad
  | _, _ => oAdd a b st) := rfl
@[simp] theorem e_oSlX {d : D} {lo hi : Option Int} {st : Sto} : oSlX d lo hi st = (match deref st d with
  | .lst l => .val .N (.lst (cutG l lo hi)) st
  | _ => oSl d lo hi st) := rfl
@[simp] theorem e_mRemove {l : List D} {k : Int} : mRemove l [.int k] = (intsOf l).bind fun ns => (firstI k ns).map fun j => (.non, (ns.eraseIdx j).map .int) := rfl
end Dn
namespace Dn
open PySem PySem.Spec PyProof.Rows L2
section
variable {G : Gm} {W : WX}
def hdl : List ((Nat → Option Bool) × (En → SR)) → Nat → Option (Option (En → SR))
  | [], _ => some none
  | x :: r, c => match x.1 c with
    | some true => some (some x.2)
    | some false => hdl r c
    | none => none
def clrS : SR → SR
  | .nx E => .nx ⟨clr E.e, E.st⟩
  | .bk E => .bk ⟨clr E.e, E.st⟩
  | .ct E => .ct ⟨clr E.e, E.st⟩
  | .rt m d st => .rt m d st
  | _ => .bad
def sTryL (hs : List ((Nat → Option Bool) × (En → SR))) (g : En → SR) : En → SR := fun E => match g E with
  | .exc c l E1 => (match hdl hs c with
    | some (some h) => clrS (h ⟨clr E1.e, E1.st⟩)
    | some none => .exc c l E1
    | none => .bad)
  | r => r
inductive HsD (G : Gm) : List (Value × (Addr → Value → Option Addr → TS)) → List ((Nat → Option Bool) × (En → SR)) → Prop
  | nil : HsD G [] []
  | cons {C : Value} {ts : Addr → Value → Option Addr → TS} {p : Nat → Option Bool} {h : En → SR} {l : List (Value × (Addr → Value → Option Addr → TS))} {hs : List ((Nat → Option Bool) × (En → SR))} (hc : ∀ c b, p c = some b → PySem.W.exmOne G.K (.ref (G.ca c)) C = some b) (hd : ∀ a cls d, DSt (G.at_ a) W0 (ts a cls d) h) (r : HsD G l hs) : HsD G ((C, ts) :: l) ((p, h) :: hs)
end
@[simp] theorem e_hdl0 {c : Nat} : hdl [] c = some none := rfl
@[simp] theorem e_hdlC {p : Nat → Option Bool} {h : En → SR} {r : List ((Nat → Option Bool) × (En → SR))} {c : Nat} : hdl ((p, h) :: r) c = (match p c with
    | some true => some (some h)
    | some false => hdl r c
    | none => none) := rfl
@[simp] theorem e_sTryL {hs : List ((Nat → Option Bool) × (En → SR))} {g : En → SR} {E : En} : sTryL hs g E = match g E with
  | .exc c l E1 => (match hdl hs c with
    | some (some h) => clrS (h ⟨clr E1.e, E1.st⟩)
    | some none => .exc c l E1
    | none => .bad)
  | r => r := rfl
@[simp] theorem e_clrSN {E : En} : clrS (.nx E) = .nx ⟨clr E.e, E.st⟩ := rfl
@[simp] theorem e_clrSB {E : En} : clrS (.bk E) = .bk ⟨clr E.e, E.st⟩ := rfl
@[simp] theorem e_clrSC {E : En} : clrS (.ct E) = .ct ⟨clr E.e, E.st⟩ := rfl
@[simp] theorem e_clrSR {m : Md} {d : D} {st : Sto} : clrS (.rt m d st) = .rt m d st := rfl
end Dn
namespace Dn
open PySem PySem.Spec PyProof.Rows L2
section
variable {G : Gm} {W : WX}
def oTupleX : List D → Sto → ER
  | [.ptr n], st => ofOpt (stLst st n) fun l => .val .P (.tup l) st
  | l, st => oTuple l st
def dIdx (fb : En → ER) (fa : En → AR) : En → ER := fun E => match fb E with
  | .val _ (.lst l) st => (match fa ⟨E.e, st⟩ with
    | .ok _ [.int k] st1 => ofOpt ((intsOf l).bind (firstI k)) fun n => .val .P (.int (n : Nat)) st1
    | .exc c l st => .exc c l st
    | _ => .bad)
  | .exc c l st => .exc c l st
  | _ => .bad
end
@[simp] theorem e_oTupleXP {n : Nat} {st : Sto} : oTupleX [.ptr n] st = ofOpt (stLst st n) fun l => .val .P (.tup l) st := rfl
@[simp] theorem e_oTupleXL {l : List D} {st : Sto} : oTupleX [.lst l] st = .val .P (.tup l) st := rfl
@[simp] theorem e_oTupleXT {l : List D} {st : Sto} : oTupleX [.tup l] st = .val .P (.tup l) st := rfl
@[simp] theorem e_dIdx {fb : En → ER} {fa : En → AR} {E : En} : dIdx fb fa E = match fb E with
  | .val _ (.lst l) st => (match fa ⟨E.e, st⟩ with
    | .ok _ [.int k] st1 => ofOpt ((intsOf l).bind (firstI k)) fun n => .val .P (.int (n : Nat)) st1
    | .exc c l st => .exc c l st
    | _ => .bad)
  | .exc c l st => .exc c l st
  | _ => .bad := rfl
end Dn
namespace Dn
open PySem PySem.Spec PyProof.Rows L2
section
variable {G : Gm} {W : WX}
def derefN : Nat → Sto → D → D
  | 0, _, d => d
  | k + 1, st, .ptr n => (match stLst st n with | some l => .lst (l.map (derefN k st)) | none => .ptr n)
  | k + 1, st, .tup l => .tup (l.map (derefN k st))
  | k + 1, st, .lst l => .lst (l.map (derefN k st))
  | _ + 1, _, d => d
def oEqN (a b : D) (st : Sto) : ER := oEq (derefN 4 st a) (derefN 4 st b) st
def oNeN (a b : D) (st : Sto) : ER := oNe (derefN 4 st a) (derefN 4 st b) st
@[simp] theorem e_oEqN {a b : D} {st : Sto} : oEqN a b st = oEq (derefN 4 st a) (derefN 4 st b) st := rfl
@[simp] theorem e_oNeN {a b : D} {st : Sto} : oNeN a b st = oNe (derefN 4 st a) (derefN 4 st b) st := rfl
end
end Dn
namespace Dn
open PySem PySem.Spec PyProof.Rows L2
section
variable {G : Gm} {W : WX}
def dZipA (f : En → AR) : En → AR := fun E => match f E with
  | .ok true [.lst l, .lst m] st => .ok true (zipD l m) st
  | .ok true [.tup l, .tup m] st => .ok true (zipD l m) st
  | .exc c l st => .exc c l st
  | _ => .bad
@[simp] theorem e_dZipA {f : En → AR} {E : En} : dZipA f E = match f E with
  | .ok true [.lst l, .lst m] st => .ok true (zipD l m) st
  | .ok true [.tup l, .tup m] st => .ok true (zipD l m) st
  | .exc c l st => .exc c l st
  | _ => .bad := rfl
end
end Dn
namespace Dn
open PySem PySem.Spec PyProof.Rows L2
section
variable {G : Gm} {W : WX}
noncomputable def dLcZ (f : En → AR) (t : D → DE → Option DE) (c g : En → ER) (vs : List Nat) : En → ER := fun E => match f E with
  | .ok true [.ptr n, .lst m] st => (match stLst st n with
    | some l => if (zipD l m).length ≤ 1000000 then ofOpt (lcGoC (fun st => stLst st n = some l) (lcStep t c g (wipeE E.e vs)) (zipD l m) st) fun r => .val .N (.lst r.1) r.2 else .bad
    | none => .bad)
  | _ => dLc (dZipA f) t c g vs E
end
@[simp] theorem e_dLcZ {fs : En → AR} {t : D → DE → Option DE} {c f : En → ER} {vs : List Nat} {E : En} : dLcZ fs t c f vs E = match fs E with
  | .ok true [.ptr n, .lst m] st => (match stLst st n with
    | some l => if (zipD l m).length ≤ 1000000 then ofOpt (lcGoC (fun st => stLst st n = some l) (lcStep t c f (wipeE E.e vs)) (zipD l m) st) fun r => .val .N (.lst r.1) r.2 else .bad
    | none => .bad)
  | _ => dLc (dZipA fs) t c f vs E := rfl
section
variable {G : Gm}
def mExtend (l ds : List D) : Option (D × List D) := match ds with
  | [.lst z] => if l.length + z.length ≤ 1000000 then some (.non, l ++ z) else none
  | _ => none
@[simp] theorem e_mExtend {l z : List D} : mExtend l [.lst z] = if l.length + z.length ≤ 1000000 then some (.non, l ++ z) else none := rfl
end
end Dn
namespace Dn
open PySem PySem.W PySem.Spec PyProof.Rows L2
end Dn
namespace Dn
open PySem PySem.W PySem.Spec PyProof.Rows L2
def anyO : List (Option Bool) → Option Bool
  | [] => some false
  | none :: _ => none
  | some true :: _ => some true
  | some false :: l => anyO l
@[simp] theorem e_anyO_nil : anyO [] = some false := rfl
@[simp] theorem e_anyO_t {l : List (Option Bool)} : anyO (some true :: l) = some true := rfl
@[simp] theorem e_anyO_f {l : List (Option Bool)} : anyO (some false :: l) = anyO l := rfl
end Dn
namespace Dn
open PySem PySem.Spec PyProof.Rows L2
section
variable {G : Gm} {W : WX}
def oInF (a b : D) (st : Sto) : ER := match b with
  | .tup l => if flat a = true ∧ l.all flat = true then .val .P (.bl (inV (toV a) (l.map toV))) st else .bad
  | _ => .bad
@[simp] theorem e_oInF {a : D} {l : List D} {st : Sto} : oInF a (.tup l) st = if flat a = true ∧ l.all flat = true then .val .P (.bl (inV (toV a) (l.map toV))) st else .bad := rfl
end
end Dn
namespace Dn
open PySem PySem.Spec PyProof.Rows L2
section
variable {G : Gm} {W : WX}
noncomputable def sForE (f : En → AR) (t : D → DE → Option DE) (b : En → SR) : En → SR := fun E => match f E with
  | .ok true [.ptr n] st => (match stLst st n with | some l => forPD n l (tgB t b) (enumD 0 l) ⟨E.e, st⟩ | none => .bad)
  | _ => sFor (dEnum f) t b E
def oSortedP : List D → Sto → ER
  | [.ptr n], st => (match stLst st n with
    | some l => (match intsOf l with
      | some ns => if ns.length < 64 then .val .N (.lst ((srt ns).map .int)) st else .bad
      | none => .bad)
    | none => .bad)
  | l, st => oSortedX l st
@[simp] theorem e_oSortedP_1 {n : Nat} {st : Sto} : oSortedP [.ptr n] st = (match stLst st n with
    | some l => (match intsOf l with
      | some ns => if ns.length < 64 then .val .N (.lst ((srt ns).map .int)) st else .bad
      | none => .bad)
    | none => .bad) := rfl
@[simp] theorem e_oSortedP_2 {l : List D} {st : Sto} : oSortedP [.lst l] st = oSortedX [.lst l] st := rfl
@[simp] theorem e_sForE {f : En → AR} {t : D → DE → Option DE} {b : En → SR} {E : En} : sForE f t b E = match f E with
  | .ok true [.ptr n] st => (match stLst st n with | some l => forPD n l (tgB t b) (enumD 0 l) ⟨E.e, st⟩ | none => .bad)
  | _ => sFor (dEnum f) t b E := rfl
end
end Dn
namespace L2
open PySem PySem.Spec PyProof.Rows
end L2
namespace Dn
open PySem PySem.Spec PyProof.Rows L2
def dctAt : List (Str × D) → Str → Option D
  | [], _ => none
  | p :: r, k => if p.1 = k then some p.2 else dctAt r k
def dctPut (l : List (Str × D)) (k : Str) (d : D) : List (Str × D) :=
  if (dctAt l k).isSome = true then l.map (fun p => if p.1 = k then (p.1, d) else p) else l ++ [(k, d)]
def dctDrop (l : List (Str × D)) (k : Str) : List (Str × D) := l.filter fun p => decide (p.1 ≠ k)
def stDct (st : Sto) (n : Nat) : Option (List (Str × D)) := match st[n]? with
  | some (.dct l) => some l
  | _ => none
section
variable {G : Gm} {W : WX}
theorem StOk.dct {s : Hs} {st : Sto} {n : Nat} {l : List (Str × D)} {p : Addr} (k : StOk G s st) (ha : s.as[n]? = some p) (h : stDct st n = some l) : ∃ kvs : List (Key × V), s.h p = some (.dK kvs) ∧ KsR G s.as s.f kvs l := by
  unfold stDct at h
  split at h
  · rename_i l' q
    cases h
    exact k.ob n p _ ha q
  · cases h
section
variable {as : List Addr} {H : Hp} {kvs : List (Key × V)} {l : List (Str × D)}
theorem inr_ne {x k : Str} (e : ¬ x = k) : ¬ (Sum.inr x : Key) = .inr k := fun z => e (Sum.inr.inj z)
theorem KsR.get (h : KsR G as H kvs l) {k : Str} {d : D} (e : dctAt l k = some d) : ∃ v, valV kvs (.inr k) = some v ∧ Is G as H v d := by
  induction h with
  | nil => cases e
  | @cons x v d' ps ds a b ih =>
    unfold dctAt at e
    by_cases c : x = k
    · rw [if_pos c] at e
      cases e
      exact ⟨v, valV_pos (p := ((.inr x : Key), v)) (congrArg Sum.inr c), a⟩
    · rw [if_neg c] at e
      rw [valV_neg (p := ((.inr x : Key), v)) (inr_ne c)]
      exact ih e
theorem KsR.is (h : KsR G as H kvs l) (k : Str) : (valV kvs (.inr k)).isSome = (dctAt l k).isSome := by
  induction h with
  | nil => rfl
  | @cons x v d' ps ds a b ih =>
    unfold dctAt
    by_cases c : x = k
    · rw [if_pos c, valV_pos (p := ((.inr x : Key), v)) (congrArg Sum.inr c)]; rfl
    · rw [if_neg c, valV_neg (p := ((.inr x : Key), v)) (inr_ne c)]
      exact ih
theorem KsR.len (h : KsR G as H kvs l) : kvs.length = l.length := by
  induction h with
  | nil => rfl
  | cons a b ih => exact congrArg Nat.succ ih
theorem KsR.snoc (h : KsR G as H kvs l) {x : Str} {v : V} {d : D} (q : Is G as H v d) : KsR G as H (kvs ++ [(.inr x, v)]) (l ++ [(x, d)]) := by
  induction h with
  | nil => exact .cons q .nil
  | cons a b ih => exact .cons a ih
theorem KsR.repl (h : KsR G as H kvs l) {x : Str} {v : V} {d : D} (q : Is G as H v d) : KsR G as H (kvs.map fun kv => if kv.1 = .inr x then (kv.1, v) else kv) (l.map fun p => if p.1 = x then (p.1, d) else p) := by
  induction h with
  | nil => exact .nil
  | @cons y w d' ps ds a b ih =>
    rw [List.map_cons, List.map_cons]
    by_cases c : y = x
    · rw [if_pos (show ((Sum.inr y : Key), w).1 = .inr x from congrArg Sum.inr c), if_pos c]; exact .cons q ih
    · rw [if_neg (show ¬ ((Sum.inr y : Key), w).1 = .inr x from inr_ne c), if_neg c]; exact .cons a ih
theorem KsR.put (h : KsR G as H kvs l) {x : Str} {v : V} {d : D} (q : Is G as H v d) : KsR G as H (putK kvs (.inr x) v) (dctPut l x d) := by
  unfold putK dctPut
  rw [valV_any, h.is x]
  by_cases c : (dctAt l x).isSome = true
  · rw [if_pos c, if_pos c]; exact h.repl q
  · rw [if_neg c, if_neg c]; exact h.snoc q
theorem KsR.drop (h : KsR G as H kvs l) (x : Str) : KsR G as H (dropK kvs (.inr x)) (dctDrop l x) := by
  unfold dropK dctDrop
  induction h with
  | nil => exact .nil
  | @cons y w d' ps ds a b ih =>
    rw [List.filter_cons, List.filter_cons]
    by_cases c : y = x
    · rw [if_neg (by simp [c]), if_neg (by simp [c])]; exact ih
    · rw [if_pos (by simp [c]), if_pos (by simp [c])]; exact .cons a ih
end
def dDNew : En → ER := fun E => .val .P (.ptr E.st.length) (E.st ++ [.dct []])
def oInD (a b : D) (st : Sto) : ER := match a, b with
  | .str x, .ptr n => ofOpt (stDct st n) fun l => .val .P (.bl (dctAt l x).isSome) st
  | _, _ => .bad
def oNotInD (a b : D) (st : Sto) : ER := match a, b with
  | .str x, .ptr n => ofOpt (stDct st n) fun l => .val .P (.bl (!(dctAt l x).isSome)) st
  | _, _ => .bad
def oIxD (a b : D) (st : Sto) : ER := match a, b with
  | .ptr n, .str x => ofOpt (stDct st n) fun l => ofOpt (dctAt l x) fun d => .val .P d st
  | _, _ => .bad
def sSetD (fb f fi : En → ER) : En → SR := fun E => match f E with
  | .val .B _ _ => .bad
  | .val _ d st => (match fb ⟨E.e, st⟩ with
    | .val _ (.ptr n) st1 => (match fi ⟨E.e, st1⟩ with
      | .val _ (.str x) st2 => (match stDct st2 n with
        | some l => if l.length < 1000000 then .nx ⟨E.e, st2.set n (.dct (dctPut l x d))⟩ else .bad
        | none => .bad)
      | .exc c l st => .exc c l ⟨E.e, st⟩
      | _ => .bad)
    | .exc c l st => .exc c l ⟨E.e, st⟩
    | _ => .bad)
  | .exc c l st => .exc c l ⟨E.e, st⟩
  | .bad => .bad
def dDPop (f g : En → ER) : En → ER := fun E => match f E with
  | .val _ (.ptr n) st => (match stDct st n with
    | some _ => (match g ⟨E.e, st⟩ with
      | .val _ (.str x) st1 => (match stDct st1 n with
        | some l => (match dctAt l x with
          | some d => .val .P d (st1.set n (.dct (dctDrop l x)))
          | none => .bad)
        | none => .bad)
      | .exc c l st => .exc c l st
      | _ => .bad)
    | none => .bad)
  | .exc c l st => .exc c l st
  | _ => .bad
@[simp] theorem e_stDct {st : Sto} {n : Nat} : stDct st n = match st[n]? with | some (.dct l) => some l | _ => none := rfl
@[simp] theorem e_dDNew {E : En} : dDNew E = .val .P (.ptr E.st.length) (E.st ++ [.dct []]) := rfl
@[simp] theorem e_oInD {x : Str} {n : Nat} {st : Sto} : oInD (.str x) (.ptr n) st = ofOpt (stDct st n) fun l => .val .P (.bl (dctAt l x).isSome) st := rfl
@[simp] theorem e_oNotInD {x : Str} {n : Nat} {st : Sto} : oNotInD (.str x) (.ptr n) st = ofOpt (stDct st n) fun l => .val .P (.bl (!(dctAt l x).isSome)) st := rfl
@[simp] theorem e_oIxD {x : Str} {n : Nat} {st : Sto} : oIxD (.ptr n) (.str x) st = ofOpt (stDct st n) fun l => ofOpt (dctAt l x) fun d => .val .P d st := rfl
@[simp] theorem e_sSetD {fb f fi : En → ER} {E : En} : sSetD fb f fi E = match f E with
  | .val .B _ _ => .bad
  | .val _ d st => (match fb ⟨E.e, st⟩ with
    | .val _ (.ptr n) st1 => (match fi ⟨E.e, st1⟩ with
      | .val _ (.str x) st2 => (match stDct st2 n with
        | some l => if l.length < 1000000 then .nx ⟨E.e, st2.set n (.dct (dctPut l x d))⟩ else .bad
        | none => .bad)
      | .exc c l st => .exc c l ⟨E.e, st⟩
      | _ => .bad)
    | .exc c l st => .exc c l ⟨E.e, st⟩
    | _ => .bad)
  | .exc c l st => .exc c l ⟨E.e, st⟩
  | .bad => .bad := rfl
@[simp] theorem e_dDPop {f g : En → ER} {E : En} : dDPop f g E = match f E with
  | .val _ (.ptr n) st => (match stDct st n with
    | some _ => (match g ⟨E.e, st⟩ with
      | .val _ (.str x) st1 => (match stDct st1 n with
        | some l => (match dctAt l x with
          | some d => .val .P d (st1.set n (.dct (dctDrop l x)))
          | none => .bad)
        | none => .bad)
      | .exc c l st => .exc c l st
      | _ => .bad)
    | none => .bad)
  | .exc c l st => .exc c l st
  | _ => .bad := rfl
end
end Dn
namespace Dn
open PySem PySem.Spec PyProof.Rows L2
section
variable {G : Gm} {W : WX}
def oIsB (a b : D) (st : Sto) : ER := match a, b with
  | .bl x, .bl y => .val .P (.bl (decide (x = y))) st
  | _, _ => .bad
@[simp] theorem e_oIsB {x y : Bool} {st : Sto} : oIsB (.bl x) (.bl y) st = .val .P (.bl (decide (x = y))) st := rfl
end
end Dn
namespace Dn
open PySem PySem.Spec PyProof.Rows L2
end Dn
namespace Dn
open PySem PySem.Spec PyProof.Rows L2
section
variable {G : Gm} {W : WX}
def firstS (k : Str) : List Str → Option Nat
  | [] => none
  | n :: r => if n = k then some 0 else (firstS k r).map (· + 1)
def dIdxX (fb : En → ER) (fa : En → AR) : En → ER := fun E => match fb E with
  | .val _ (.ptr n) st => (match stLst st n with
    | some _ => (match fa ⟨E.e, st⟩ with
      | .ok _ [.str k] st1 => ofOpt ((stLst st1 n).bind fun l => (strsOf l).bind (firstS k)) fun j => .val .P (.int (j : Nat)) st1
      | .exc c l st => .exc c l st
      | _ => .bad)
    | none => .bad)
  | .exc c l st => .exc c l st
  | _ => .bad
end
@[simp] theorem e_dIdxX {fb : En → ER} {fa : En → AR} {E : En} : dIdxX fb fa E = match fb E with
  | .val _ (.ptr n) st => (match stLst st n with
    | some _ => (match fa ⟨E.e, st⟩ with
      | .ok _ [.str k] st1 => ofOpt ((stLst st1 n).bind fun l => (strsOf l).bind (firstS k)) fun j => .val .P (.int (j : Nat)) st1
      | .exc c l st => .exc c l st
      | _ => .bad)
    | none => .bad)
  | .exc c l st => .exc c l st
  | _ => .bad := rfl
end Dn
namespace Dn
open PySem PySem.Spec PyProof.Rows L2
def dDispG (n : Nat) : List (Str × (En → ER)) → List (Str × D) → En → ER
  | [], acc, E => (match stDct E.st n with
    | some [] => .val .P (.ptr n) (E.st.set n (.dct acc))
    | _ => .bad)
  | (x, f) :: r, acc, E => match f E with
    | .val .B _ _ => .bad
    | .val _ d st => dDispG n r (acc ++ [(x, d)]) ⟨E.e, st⟩
    | .exc c l st => .exc c l st
    | .bad => .bad
def dDisp (ps : List (Str × (En → ER))) : En → ER := fun E => dDispG E.st.length ps [] ⟨E.e, E.st ++ [.dct []]⟩
section
variable {G : Gm} {W : WX}
inductive DPs (G : Gm) (W : WX) : List (TE × TE) → List (Str × (En → ER)) → Prop
  | nil : DPs G W [] []
  | cons {x : Str} {tv : TE} {f : En → ER} {trs : List (TE × TE)} {ps : List (Str × (En → ER))} : DEv G W tv f → DPs G W trs ps → DPs G W ((tC (.str x), tv) :: trs) ((x, f) :: ps)
def dDGet2 (f g h : En → ER) : En → ER := fun E => match f E with
  | .val _ (.ptr n) st => (match stDct st n with
    | some _ => (match g ⟨E.e, st⟩ with
      | .val _ (.str x) st1 => (match h ⟨E.e, st1⟩ with
        | .val .B _ _ => .bad
        | .val _ d st2 => (match stDct st2 n with
          | some l => .val .P ((dctAt l x).getD d) st2
          | none => .bad)
        | .exc c l st => .exc c l st
        | .bad => .bad)
      | .exc c l st => .exc c l st
      | _ => .bad)
    | none => .bad)
  | .exc c l st => .exc c l st
  | _ => .bad
theorem KsR.getD {as : List Addr} {H : Hp} {kvs : List (Key × V)} {l : List (Str × D)} (h : KsR G as H kvs l) {k : Str} {v : V} {d : D} (i : Is G as H v d) : Is G as H ((valV kvs (.inr k)).getD v) ((dctAt l k).getD d) := by
  cases e : dctAt l k with
  | none =>
    have := h.is k
    rw [e] at this
    cases e2 : valV kvs (.inr k) with
    | none => exact i
    | some w => rw [e2] at this; cases this
  | some d' =>
    obtain ⟨w, h1, h2⟩ := h.get e
    rw [h1]; exact h2
end
@[simp] theorem e_dDisp {ps : List (Str × (En → ER))} {E : En} : dDisp ps E = dDispG E.st.length ps [] ⟨E.e, E.st ++ [.dct []]⟩ := rfl
@[simp] theorem e_dDispG0 {n : Nat} {acc : List (Str × D)} {E : En} : dDispG n [] acc E = (match stDct E.st n with
    | some [] => .val .P (.ptr n) (E.st.set n (.dct acc))
    | _ => .bad) := rfl
@[simp] theorem e_dDispG1 {n : Nat} {x : Str} {f : En → ER} {r : List (Str × (En → ER))} {acc : List (Str × D)} {E : En} : dDispG n ((x, f) :: r) acc E = (match f E with
    | .val .B _ _ => .bad
    | .val _ d st => dDispG n r (acc ++ [(x, d)]) ⟨E.e, st⟩
    | .exc c l st => .exc c l st
    | .bad => .bad) := rfl
@[simp] theorem e_dDGet2 {f g h : En → ER} {E : En} : dDGet2 f g h E = match f E with
  | .val _ (.ptr n) st => (match stDct st n with
    | some _ => (match g ⟨E.e, st⟩ with
      | .val _ (.str x) st1 => (match h ⟨E.e, st1⟩ with
        | .val .B _ _ => .bad
        | .val _ d st2 => (match stDct st2 n with
          | some l => .val .P ((dctAt l x).getD d) st2
          | none => .bad)
        | .exc c l st => .exc c l st
        | .bad => .bad)
      | .exc c l st => .exc c l st
      | _ => .bad)
    | none => .bad)
  | .exc c l st => .exc c l st
  | _ => .bad := rfl
end Dn
namespace L2
open PySem PySem.Spec PyProof.Rows
end L2
namespace Dn
open PySem PySem.Spec PyProof.Rows L2
def insS (k : Int) : List Int → List Int
  | [] => [k]
  | a :: l => if k < a then k :: a :: l else if k = a then a :: l else a :: insS k l
def sset : List Int → List Int
  | [] => []
  | a :: l => insS a (sset l)
def oSortSet : List D → Sto → ER
  | [.lst l], st => ofOpt (intsOf l) fun ns => if ns.length < 64 then .val .N (.lst ((sset ns).map .int)) st else .bad
  | _, _ => .bad
@[simp] theorem e_oSortSet {l : List D} {st : Sto} : oSortSet [.lst l] st = ofOpt (intsOf l) fun ns => if ns.length < 64 then .val .N (.lst ((sset ns).map .int)) st else .bad := rfl
end Dn
namespace GQ
open PySem PySem.SeqAt
open AutoSeq1 (wpAny_loadPart')
open MeetsSeq MeetsSeq2 MeetsSeq3 SeqRoads2
end GQ
namespace Dn
open PySem PySem.Spec PySem.Calls PyProof.Rows L2
open AutoSeq1 (wpAny_loadPart')
end Dn
namespace L2
open PySem PySem.Spec PySem.Calls PyProof.Rows
abbrev RI := V → V → Hp → (Bool → Hp → Prop) → Prop
def EqI (X : Cx) (n : Nat) (r : RI) : Prop :=
  ∀ (A : Around) (pins : List (Addr × Obj)) (s : Shared) (σ : St) (H : Hp) (x y : V) (u v : Value) (Q : Bool → Hp → Prop), Sub X n A → Inv X pins σ H s → RelV x u → RelV y v → r x y H Q →
    wpAny (model X.prog X.w) A (eqBool u v) (TP X pins σ Q) X.xe s
end L2
namespace Dn
open PySem PySem.Spec PySem.Calls PyProof.Rows L2
section
variable {X : Cx} {G : Gm}
inductive Pln (K : PySem.W.Frag) (C : Addr) (H : Hp) : V → Prop
  | non (h : PySem.W.subIn K (.ref C) (.type "NoneType") = some false) : Pln K C H .non
  | int (i : Int) (h : PySem.W.subIn K (.ref C) (.type "int") = some false) : Pln K C H (.int i)
  | str (i : Str) (h : PySem.W.subIn K (.ref C) (.type "str") = some false) : Pln K C H (.str i)
  | lst (b : Addr) (l : List V) (e : H b = some (.lst l)) (h : PySem.W.subIn K (.ref C) (.type "list") = some false) : Pln K C H (.ref b)
theorem EqI.or {k : Nat} {r r' : RI} (h : EqI X k r) (h' : EqI X k r') : EqI X k (fun i x H Q => r i x H Q ∨ r' i x H Q) := by
  intro A pins s σ H i x u v Q sb I ri rx z
  rcases z with z | z
  · exact h A pins s σ H i x u v Q sb I ri rx z
  · exact h' A pins s σ H i x u v Q sb I ri rx z
end
end Dn
namespace Dn
open PySem PySem.Spec PySem.Calls PyProof.Rows L2
structure InOk (G : Gm) (Os : OwnL) : Prop where
  pl : ∀ x ∈ Os, ∀ T ∈ plainTs, PySem.W.subIn G.K (.ref (G.ca x.1)) (.type T) = some false
end Dn
namespace Dn
open PySem PySem.Spec PyProof.Rows L2
section
variable {G : Gm} {W : WX}
def dZipS (f : En → AR) : En → AR := fun E => match f E with
  | .ok true [.lst l, .str z] st => .ok true (zipD l (z.cps.toList.map fun c => .str ⟨#[c]⟩)) st
  | .exc c l st => .exc c l st
  | _ => .bad
@[simp] theorem e_dZipS {f : En → AR} {E : En} : dZipS f E = match f E with
  | .ok true [.lst l, .str z] st => .ok true (zipD l (z.cps.toList.map fun c => .str ⟨#[c]⟩)) st
  | .exc c l st => .exc c l st
  | _ => .bad := rfl
end
section
variable {G : Gm} {W : WX}
def zipD3 : List D → List D → List D → List D
  | a :: l, b :: m, c :: n => .tup [a, b, c] :: zipD3 l m n
  | _, _, _ => []
def dZip3 (f : En → AR) : En → AR := fun E => match f E with
  | .ok true [.lst l, .lst m, .lst n] st => .ok true (zipD3 l m n) st
  | .exc c l st => .exc c l st
  | _ => .bad
@[simp] theorem e_dZip3 {f : En → AR} {E : En} : dZip3 f E = match f E with
  | .ok true [.lst l, .lst m, .lst n] st => .ok true (zipD3 l m n) st
  | .exc c l st => .exc c l st
  | _ => .bad := rfl
end
end Dn
namespace Dn
open PySem PySem.Spec PyProof.Rows L2
section
variable {G : Gm} {W : WX}
def sAug (x : Nat) (o : Int → Int → Int) (fe : En → ER) : En → SR := fun E => match E.e[x]? with
  | some (.val (.int a)) => (match fe E with
    | .val _ (.int b) st => .nx ⟨E.e.set x (.val (.int (o a b))), st⟩
    | _ => .bad)
  | _ => .bad
@[simp] theorem e_sAug {x : Nat} {o : Int → Int → Int} {fe : En → ER} {E : En} : sAug x o fe E = match E.e[x]? with
  | some (.val (.int a)) => (match fe E with
    | .val _ (.int b) st => .nx ⟨E.e.set x (.val (.int (o a b))), st⟩
    | _ => .bad)
  | _ => .bad := rfl
def sAugP (o : Int → Int → Int) (fb fi fe : En → ER) : En → SR := fun E => match fb E with
  | .val _ (.ptr n) st1 => (match fi ⟨E.e, st1⟩ with
    | .val _ (.int i) st2 => if 0 ≤ i then (match stLst st2 n with
      | some l => (match ixN l.length i with
        | some j => (match l[j]? with
          | some (.int a) => (match fe ⟨E.e, st2⟩ with
            | .val _ (.int b) st3 => (match stLst st3 n with
              | some l' => (match ixN l'.length i with
                | some j' => .nx ⟨E.e, st3.set n (.lst (l'.set j' (.int (o a b))))⟩
                | none => .bad)
              | none => .bad)
            | _ => .bad)
          | _ => .bad)
        | none => .bad)
      | none => .bad) else .bad
    | _ => .bad)
  | _ => .bad
@[simp] theorem e_sAugP {o : Int → Int → Int} {fb fi fe : En → ER} {E : En} : sAugP o fb fi fe E = match fb E with
  | .val _ (.ptr n) st1 => (match fi ⟨E.e, st1⟩ with
    | .val _ (.int i) st2 => if 0 ≤ i then (match stLst st2 n with
      | some l => (match ixN l.length i with
        | some j => (match l[j]? with
          | some (.int a) => (match fe ⟨E.e, st2⟩ with
            | .val _ (.int b) st3 => (match stLst st3 n with
              | some l' => (match ixN l'.length i with
                | some j' => .nx ⟨E.e, st3.set n (.lst (l'.set j' (.int (o a b))))⟩
                | none => .bad)
              | none => .bad)
            | _ => .bad)
          | _ => .bad)
        | none => .bad)
      | none => .bad) else .bad
    | _ => .bad)
  | _ => .bad := rfl
end
section
variable {G : Gm} {W : WX}
def rangeD2 (lo : Int) (n : Nat) : List D := (List.range n).map fun (k : Nat) => .int (lo + (k : Int) * 2)
def cnt2 (i j : Int) : Nat := ((j - i + 1) / 2).toNat
def rng3 : List D → Option (Int × Nat)
  | [.int i, .int j, .int 2] => if -(2 ^ 30) ≤ i ∧ i < 2 ^ 30 ∧ -(2 ^ 30) ≤ j ∧ j < 2 ^ 30 then some (i, cnt2 i j) else none
  | _ => none
@[simp] theorem e_rng3 {i j : Int} : rng3 [.int i, .int j, .int 2] = if -(2 ^ 30) ≤ i ∧ i < 2 ^ 30 ∧ -(2 ^ 30) ≤ j ∧ j < 2 ^ 30 then some (i, cnt2 i j) else none := rfl
def dRng3 (f : En → AR) : En → AR := fun E => match f E with
  | .ok _ l st => (match rng3 l with | some r => .ok true (rangeD2 r.1 r.2) st | none => .bad)
  | .exc c l st => .exc c l st
  | _ => .bad
@[simp] theorem e_dRng3 {f : En → AR} {E : En} : dRng3 f E = match f E with
  | .ok _ l st => (match rng3 l with | some r => .ok true (rangeD2 r.1 r.2) st | none => .bad)
  | .exc c l st => .exc c l st
  | _ => .bad := rfl
end
end Dn
namespace Dn
open PySem PySem.Spec PyProof.Rows L2
def ddS (l : List Str) (k : Str) : List Str := if l.any (· == k) then l else l ++ [k]
def fmS (val : Nat → Str) (i : Nat) : List Str := ((List.range i).map val).foldl ddS []
section
variable {prog : Program} {w : World} {A : Around} {E : Value → Shared → Prop} {s : Shared}
def sgn (x : Str) (i : Nat) : Str := ⟨#[x.cps.getD i 0]⟩
end
def kindsS (x : Str) : Nat := (fmS (sgn x) x.cps.size).length
section
variable {G : Gm} {W : WX}
def dLenSetT (f : En → ER) : En → ER := fun E => match f E with
  | .val _ (.str x) st => if x.cps.size ≤ 4000 then .val .P (.int (kindsS x : Nat)) st else .bad
  | .exc c l st => .exc c l st
  | _ => .bad
@[simp] theorem e_dLenSetT {f : En → ER} {E : En} : dLenSetT f E = match f E with
  | .val _ (.str x) st => if x.cps.size ≤ 4000 then .val .P (.int (kindsS x : Nat)) st else .bad
  | .exc c l st => .exc c l st
  | _ => .bad := rfl
end
end Dn
namespace Dn
open PySem PySem.Spec PyProof.Rows L2
abbrev ClT := Option Nat × Value × (Addr → Value → Option Addr → TS)
def endsAt (i : Nat) (D : Ends) : Ends := { nx := fun σ' H' => D.nx (σ'.set i none) H', rt := D.rt, bk := fun σ' H' => D.bk (σ'.set i none) H', ct := fun σ' H' => D.ct (σ'.set i none) H' }
def runCl (o : Option Nat) (ts : TS) (a : Addr) (D : Ends) (σ : L2.St) (H : Hp) : Prop := match o with
  | none => ts D σ H
  | some i => ts (endsAt i D) (σ.set i (some (.ref a))) H
def wMix (K : PySem.W.Frag) (Wout : WX) (D : Ends) : List ClT → WX
  | [] => Wout
  | (o, c, ts) :: r => fun cls d σ H => ∃ b, PySem.W.exmOne K cls c = some b ∧ (b = true → ∀ a, H a = none → runCl o (ts a cls d) a D σ H) ∧ (b = false → wMix K Wout D r cls d σ H)
def tTryM (K : PySem.W.Frag) (Wout : WX) (l : List ClT) (tb : WX → TS) : TS := fun D σ H => tb (wMix K Wout D l) D σ H
def NmOk (X : Cx) (o : Option Nat) (m : Option Str) : Prop := match o, m with
  | none, none => True
  | some i, some n => X.N.Nodup ∧ X.N[i]? = some n ∧ X.env.kindOf n = some .local
  | _, _ => False
inductive ClsOk (X : Cx) : List ExceptHandler → List ClT → Prop
  | nil : ClsOk X [] []
  | cons {x : Str} {o : Option Nat} {m : Option Str} {c : Value} {ts : Addr → Value → Option Addr → TS} {b₀ : Stmt} {suite : List Stmt} {np pos' : Pos} {hds : List ExceptHandler} {l : List ClT} (hn : NmOk X o m) (hc : Names X x c)
      (hsu : ∀ (a : Addr) (oe : Obj) (cls : Value) (d : Option Addr) (pn : List (Addr × Obj)), Zc cls d oe → (∃ vs, oe.data = .fields vs) → PSs (X.suite a ((a, oe) :: pn)) (b₀ :: suite) (ts a cls d)) (r : ClsOk X hds l) :
      ClsOk X (.ExceptHandler (some (.Name x np)) m (b₀ :: suite) pos' :: hds) ((o, c, ts) :: l)
section
variable {X : Cx} {body : List Stmt} {h₀ : ExceptHandler} {hds : List ExceptHandler} {l : List ClT} {pos : Pos} {tb : WX → TS} {Wout : WX}
theorem suite_end {a : Addr} {oe : Obj} {pins : List (Addr × Obj)} {D : Ends} {f : Flow} {s6 : Shared} (ok : Room 0 X.A → True) (un : ∀ {σ6 : L2.St} {H6 : Hp}, Inv (X.suite a ((a, oe) :: (X.pn ++ pins))) [] σ6 H6 s6 → Inv X pins σ6 H6 s6) (h : SP (X.suite a ((a, oe) :: (X.pn ++ pins))) [] D f s6) : SP X pins D f s6 := by
  cases f with
  | next => obtain ⟨σ6, H6, S6, q6⟩ := h; exact ⟨_, _, un S6, q6⟩
  | brk => obtain ⟨σ6, H6, S6, q6⟩ := h; exact ⟨_, _, un S6, q6⟩
  | cont => obtain ⟨σ6, H6, S6, q6⟩ := h; exact ⟨_, _, un S6, q6⟩
  | ret u => obtain ⟨v6, σ6, H6, S6, r6, q6⟩ := h; exact ⟨_, _, _, un S6, r6, q6⟩
theorem ps_try_mix (hs : X.stack = X.env :: X.outer) (hf : X.env.frame = some X.env.locals) (tk : Takes X Wout)
    (hb : ∀ (W : WX) (pn : List (Addr × Obj)) (xe : Value → Shared → Prop), Takes (X.tr pn xe) W → PassesOwn (model X.prog X.w) X.A X.env xe → PSs (X.tr pn xe) body (tb W))
    (hh : ClsOk X (h₀ :: hds) l) : PS X (.Try body (h₀ :: hds) [] [] pos) (tTryM X.K Wout l tb) := by
  refine ⟨fun pins s σ H D I h => ?_⟩
  have ok := I.ok
  have hfr : X.A.frames = some (X.env :: X.outer) := by rw [ok.frames, hs]
  refine wpAny_Try_except ?_
  refine wpAny_mono ((hb (wMix X.K Wout D l) (X.pn ++ pins) (fun e s₁ => wpAny (model X.prog X.w) X.A (noteFrame e X.env) (fun _ s₂ => wpAny (model X.prog X.w) X.A (setFlight e none) (fun _ s₃ =>
    wpAny (model X.prog X.w) X.A (handleBy e X.env (h₀ :: hds)) (SP X pins D) X.xe s₃) X.xe s₂) X.xe s₁) (fun u s' xx => ?_) PassesOwn.looking).run [] s σ H D (I.toTry _) h) (fun f s1 hsp => ?_) (fun e s1 he => he)
  · obtain ⟨a, B, sI, pins', σ', H', cls, d, rfl, J', nb, up, sky, na, os, ag, w⟩ := xx
    have J : Inv X pins σ' H' sI := J'.ofTry ok
    rw [hs] at sky
    show wpAny (model X.prog X.w) X.A (noteFrame (.ref a) X.env) _ _ _
    refine Sky.land Zc.steady hfr hf sky fun h3 fl3 up3 => ?_
    have J3 : Inv X pins σ' H' { s' with heap := h3 } := J.landed nb fl3.1 (up.trans up3) os ag
    obtain ⟨oe3, vs3, he3, hz3, hd3⟩ := fl3.there
    have nfr : a ∉ frs (X.env :: X.outer) := fun hm => by
      obtain ⟨_, o', e', hnf⟩ := fl3.2.2.1.mem hm
      rw [he3] at e'; cases e'
      exact hnf _ hd3
    have nL : a ≠ X.env.locals := fun z => nfr (List.mem_filterMap.mpr ⟨X.env, List.mem_cons_self, by rw [hf, z]⟩)
    have nF : a ∉ X.fs := fun hm => by
      obtain ⟨e, he, q⟩ := List.mem_filterMap.mp hm
      exact nfr (List.mem_filterMap.mpr ⟨e, List.mem_cons_of_mem _ he, q⟩)
    have S3 := J3.suite he3 hd3 na nL nF
    have go : ∀ {hds' : List ExceptHandler} {l' : List ClT}, ClsOk X hds' l' → wMix X.K Wout D l' cls d σ' H' →
        wpAny (model X.prog X.w) X.A (handleBy (.ref a) X.env hds') (SP X pins D) X.xe { s' with heap := h3 } := by
      intro hds' l' hk
      induction hk with
      | nil =>
        intro w
        refine wpAny_handleBy_nil ?_
        obtain ⟨k1, k2, k3, oe, vs, T, oT, ts', he, hz, hd, h1, hr⟩ := id fl3
        unfold PySem.passOn
        refine wpAny_bind (wpAny_field he hd h1 ?_)
        rw [if_neg (show ¬ ((Value.ref T == Value.none) = true) from by simp)]
        have fin : wpAny (model X.prog X.w) X.A (setFlight (.ref a) X.env.frame) (fun _ s4 => wpAny (model X.prog X.w) X.A (throw (.ref a) : Sem Flow) (SP X pins D) X.xe s4) X.xe { s' with heap := h3 } := by
          rw [hf]
          refine HandSPX.setFlight_upZ fl3 fun h4 hh4 up4 => wpAny_throw (tk _ _ ?_)
          exact ⟨a, B, sI, pins, σ', H', cls, d, rfl, J, nb, (up.trans up3).trans up4, .inr (.inr (by rw [hs]; exact hh4)), na, os, ag, w⟩
        first
          | exact wpAny_bind (wpAny_pure (wpAny_bind fin))
          | exact wpAny_bind fin
      | @cons x o m c ts b₀ suite np pos' hds2 l2 hn hc hsu r ih =>
        intro w
        obtain ⟨b, hb1, hyes, hno⟩ := w
        refine wpAny_handleBy_cons (codeAny_handlers_test ?_) (by intro q; cases q)
        have LT : PySem.W.Looks (model X.prog X.w) h3 (typeOf (.ref a)) cls := fun A Q E s k q => wpAny_typeOf_ref (k _ _ he3) (by rw [hz3.1]; exact q)
        have LM := PySem.W.exm_one (M := model X.prog X.w) (J3.kIn) LT hb1
        have test : ∀ {Q : Value → Shared → Prop} {E : Value → Shared → Prop}, Q c { s' with heap := h3 } → wpAny (model X.prog X.w) (X.A.mark (some (.ref a))) (eval (.Name x np) X.env) Q E { s' with heap := h3 } := fun {Q E} q => by
          obtain ⟨hg, hdbg, hm | ⟨hm, hv, hnn⟩⟩ := hc
          · exact ld_glob (X := X.suite a ((a, oe3) :: (X.pn ++ pins))) S3 hg hm q hdbg
          · exact ld_blt (X := X.suite a ((a, oe3) :: (X.pn ++ pins))) S3 hg hm hv q hnn hdbg
        refine test (LM.here ?_)
        cases b with
        | false =>
          show wpAny _ X.A (handleBy (.ref a) X.env hds2) _ _ _
          exact ih (hno rfl)
        | true =>
          have hyes := hyes rfl a na
          cases o with
          | none =>
            cases m with
            | some n => exact hn.elim
            | none =>
              refine codeAny_handlers_suite ?_
              refine HandSPX.lands_againZ fl3 fun h4 fl4 up4 => ?_
              have J4 : Inv X pins σ' H' { s' with heap := h4 } := J.landed nb fl4.1 ((up.trans up3).trans up4) os ag
              obtain ⟨oe4, vs4, he4, hz4, hd4⟩ := fl4.there
              have S4 := J4.suite he4 hd4 na nL nF
              exact wpAny_mono ((hsu a oe4 cls d (X.pn ++ pins) hz4 ⟨_, hd4⟩).run [] _ _ H' _ S4 hyes) (fun f s6 hsp => suite_end (fun _ => trivial) (fun S6 => S6.unsuite ok) hsp) (fun _ _ z => False.elim z)
          | some i =>
            cases m with
            | none => exact hn.elim
            | some n =>
              obtain ⟨hN, hi, hln⟩ := hn
              refine codeAny_handlers_suite_as ?_
              refine HandSPX.lands_againZ fl3 fun h4 fl4 up4 => ?_
              have J4 : Inv X pins σ' H' { s' with heap := h4 } := J.landed nb fl4.1 ((up.trans up3).trans up4) os ag
              obtain ⟨oe4, vs4, he4, hz4, hd4⟩ := fl4.there
              have S4 := J4.suite he4 hd4 na nL nF
              refine store_ok (X := X.suite a ((a, oe4) :: (X.pn ++ pins))) (v := .ref a) S4 hN hi (.inl hln) rfl (fun s5 S5 => ?_) (.inr hln)
              refine wpAny_mono ((hsu a oe4 cls d (X.pn ++ pins) hz4 ⟨_, hd4⟩).run [] s5 _ H' _ S5 hyes) (fun f s6 hsp => ?_) (fun _ _ z => False.elim z)
              have end_ : ∀ {σ6 : L2.St} {H6 : Hp} {Q : Shared → Prop}, Inv (X.suite a ((a, oe4) :: (X.pn ++ pins))) [] σ6 H6 s6 → (∀ s7, Inv X pins (σ6.set i none) H6 s7 → Q s7) →
                  wpAny (model X.prog X.w) X.A (do bindName X.env n .none; unbindBehindTheSuite X.env n pos') (fun _ s7 => Q s7) X.xe s6 := fun {σ6 H6 Q} S6 hq => gone_ok (S6.unsuite ok) hN hi hln hq
              cases f with
              | next => obtain ⟨σ6, H6, S6, q6⟩ := hsp; exact end_ S6 fun s7 J7 => ⟨_, _, J7, q6⟩
              | brk => obtain ⟨σ6, H6, S6, q6⟩ := hsp; exact end_ S6 fun s7 J7 => ⟨_, _, J7, q6⟩
              | cont => obtain ⟨σ6, H6, S6, q6⟩ := hsp; exact end_ S6 fun s7 J7 => ⟨_, _, J7, q6⟩
              | ret u => obtain ⟨v6, σ6, H6, S6, r6, q6⟩ := hsp; exact end_ S6 fun s7 J7 => ⟨_, _, _, J7, r6, q6⟩
    exact go hh w
  · cases f with
    | next =>
      obtain ⟨σ', H', J', q⟩ := hsp
      exact wpAny_execs_nil ⟨σ', H', J'.ofTry ok, q⟩
    | brk => obtain ⟨σ', H', J', q⟩ := hsp; exact ⟨σ', H', J'.ofTry ok, q⟩
    | cont => obtain ⟨σ', H', J', q⟩ := hsp; exact ⟨σ', H', J'.ofTry ok, q⟩
    | ret u => obtain ⟨v, σ', H', J', r, q⟩ := hsp; exact ⟨v, σ', H', J'.ofTry ok, r, q⟩
end
abbrev ClD := Option Nat × (Nat → Option Bool) × (Nat → List D → En → SR)
def hdM : List ClD → Nat → Option (Option ClD)
  | [], _ => some none
  | x :: r, c => match x.2.1 c with
    | some true => some (some x)
    | some false => hdM r c
    | none => none
def clrX (i : Nat) : SR → SR
  | .nx E => .nx ⟨(clr E.e).set i .emp, E.st⟩
  | .bk E => .bk ⟨(clr E.e).set i .emp, E.st⟩
  | .ct E => .ct ⟨(clr E.e).set i .emp, E.st⟩
  | .rt m d st => .rt m d st
  | _ => .bad
def goM (x : ClD) (c : Nat) (l : List D) (E1 : En) : SR := match x.1 with
  | none => clrS (x.2.2 c l ⟨clr E1.e, E1.st⟩)
  | some i => clrX i (x.2.2 c l ⟨(clr E1.e).set i .exn, E1.st⟩)
def sTryM (hs : List ClD) (g : En → SR) : En → SR := fun E => match g E with
  | .exc c l E1 => (match hdM hs c with
    | some (some x) => goM x c l E1
    | some none => .exc c l E1
    | none => .bad)
  | r => r
inductive HmD (G : Gm) : List ClT → List ClD → Prop
  | nil : HmD G [] []
  | cons {C : Value} {ts : Addr → Value → Option Addr → TS} {p : Nat → Option Bool} {h : En → SR} {l : List ClT} {hs : List ClD} (hc : ∀ c b, p c = some b → PySem.W.exmOne G.K (.ref (G.ca c)) C = some b) (hd : ∀ a cls d, DSt (G.at_ a) W0 (ts a cls d) h) (r : HmD G l hs) : HmD G ((none, C, ts) :: l) ((none, p, fun _ _ => h) :: hs)
  | consN {i : Nat} {C : Value} {ts : Addr → Value → Option Addr → TS} {p : Nat → Option Bool} {h : Nat → List D → En → SR} {l : List ClT} {hs : List ClD} (hc : ∀ c b, p c = some b → PySem.W.exmOne G.K (.ref (G.ca c)) C = some b)
      (hd : ∀ c l a x cls d, p c = some true → (x = none → l = []) → (l = [] → x = none) → cls = .ref (G.ca c) → d = x → DSt (G.exn a x c l) W0 (ts a cls d) (h c l)) (r : HmD G l hs) : HmD G ((some i, C, ts) :: l) ((some i, p, h) :: hs)
section
variable {G : Gm} {W : WX}
theorem s_tryM {tb : WX → TS} {l : List ClT} {hs : List ClD} {g : En → SR} (hb : ∀ W, DSt G W (tb W) g) (hh : HmD G l hs) : DSt G W (tTryM G.K W l tb) (sTryM hs g) := by
  intro s t σ e st E k N post
  refine hb _ s t σ e st E k N ?_
  unfold sTryM at post
  cases q : g ⟨e, st⟩ with
  | nx e1 => rw [q] at post; exact post
  | rt m d st => rw [q] at post; exact post
  | bk e1 => rw [q] at post; exact post
  | ct e1 => rw [q] at post; exact post
  | bad => rw [q] at post; exact post
  | exc c x0 F1 =>
    simp only [q] at post
    intro t1 σ1 x s1 E1 k1 ox
    clear hb q
    induction hh with
    | nil => exact post t1 σ1 x s1 E1 k1 ox
    | @cons C ts p h l hs hc hd r ih =>
      unfold hdM at post
      dsimp only at post
      cases q2 : p c with
      | none => rw [q2] at post; exact post.elim
      | some b =>
        rw [q2] at post
        refine ⟨b, hc c b q2, fun hbt a ha => ?_, fun hbf => ?_⟩
        · subst hbt
          dsimp only at post
          unfold goM at post
          dsimp only at post
          refine hd a _ x s t1 σ1 _ F1.st (E1.ea a) (k1.ea a) _ ?_
          have back : ∀ {t' : Hs} {σ' : L2.St} {e2 : DE}, EnvOk (G.at_ a) s t' σ' e2 → EnvOk G s t' σ' (clr e2) := fun E' => E'.ea G.ea
          cases q3 : h ⟨clr F1.e, F1.st⟩ with
          | nx e2 => rw [q3] at post; exact fun t' σ' s' E' k' => post t' _ (s1.trans s') (back E') (k'.ea G.ea)
          | bk e2 => rw [q3] at post; exact fun t' σ' s' E' k' => post t' _ (s1.trans s') (back E') (k'.ea G.ea)
          | ct e2 => rw [q3] at post; exact fun t' σ' s' E' k' => post t' _ (s1.trans s') (back E') (k'.ea G.ea)
          | rt m d st => rw [q3] at post; exact fun t' v s' g' k' o => post t' v (s1.trans s') g' (k'.ea G.ea) (o.ea G.ea)
          | exc c2 l2 e2 => rw [q3] at post; exact post.elim
          | bad => rw [q3] at post; exact post.elim
        · subst hbf
          exact ih post
    | @consN i C ts p h l hs hc hd r ih =>
      unfold hdM at post
      dsimp only at post
      cases q2 : p c with
      | none => rw [q2] at post; exact post.elim
      | some b =>
        rw [q2] at post
        refine ⟨b, hc c b q2, fun hbt a ha => ?_, fun hbf => ?_⟩
        · subst hbt
          dsimp only at post
          unfold goM at post
          dsimp only at post
          have E2 := (EnvOk.swI (G := G) (G' := G.exn a x c x0) rfl rfl rfl E1).set (i := i) (o := some (.ref a)) (x := .exn) rfl (fun l z => nomatch z)
          have hxl : (x = none → x0 = []) ∧ (x0 = [] → x = none) := by
            rcases ox with ⟨h1, h2⟩ | ⟨da, xs, h1, h2, _⟩
            · exact ⟨fun _ => h1, fun _ => h2⟩
            · exact ⟨fun z => (by rw [h1] at z; exact absurd z (by simp)), fun z => absurd z h2⟩
          refine hd c x0 a x _ _ q2 hxl.1 hxl.2 rfl rfl s t1 _ _ F1.st E2 (StOk.swI (G := G) (G' := G.exn a x c x0) rfl rfl rfl rfl k1 (exF_of a ox)) _ ?_
          have back : ∀ {t' : Hs} {σ' : L2.St} {e2 : DE}, EnvOk (G.exn a x c x0) s t' σ' e2 → EnvOk G s t' (σ'.set i none) ((clr e2).set i .emp) := fun E' =>
            EnvOk.set (G := G) (x := .emp) (EnvOk.swI (G := G.exn a x c x0) (G' := G) rfl rfl rfl E') trivial (fun l z => nomatch z)
          have kb : ∀ {t' : Hs} {st' : Sto}, Up t1 t' → StOk (G.exn a x c x0) t' st' → StOk G t' st' := fun u k' => StOk.swI (G := G.exn a x c x0) (G' := G) rfl rfl rfl rfl k' (k1.ex.up u.a u.f)
          cases q3 : h c x0 ⟨(clr F1.e).set i .exn, F1.st⟩ with
          | nx e2 => rw [q3] at post; exact fun t' σ' s' E' k' => post t' _ (s1.trans s') (back E') (kb s' k')
          | bk e2 => rw [q3] at post; exact fun t' σ' s' E' k' => post t' _ (s1.trans s') (back E') (kb s' k')
          | ct e2 => rw [q3] at post; exact fun t' σ' s' E' k' => post t' _ (s1.trans s') (back E') (kb s' k')
          | rt m d st => rw [q3] at post; exact fun t' v s' g' k' o => post t' v (s1.trans s') g' (kb s' k') (VOk.swI (G := G.exn a x c x0) (G' := G) rfl rfl rfl o)
          | exc c2 l2 e2 => rw [q3] at post; exact post.elim
          | bad => rw [q3] at post; exact post.elim
        · subst hbf
          exact ih post
end
@[simp] theorem e_hdM0 {c : Nat} : hdM [] c = some none := rfl
@[simp] theorem e_hdMC {o : Option Nat} {p : Nat → Option Bool} {h : Nat → List D → En → SR} {r : List ClD} {c : Nat} : hdM ((o, p, h) :: r) c = (match p c with
    | some true => some (some (o, p, h))
    | some false => hdM r c
    | none => none) := rfl
@[simp] theorem e_goM0 {p : Nat → Option Bool} {h : Nat → List D → En → SR} {c : Nat} {l : List D} {E1 : En} : goM (none, p, h) c l E1 = clrS (h c l ⟨clr E1.e, E1.st⟩) := rfl
@[simp] theorem e_goM1 {i : Nat} {p : Nat → Option Bool} {h : Nat → List D → En → SR} {c : Nat} {l : List D} {E1 : En} : goM (some i, p, h) c l E1 = clrX i (h c l ⟨(clr E1.e).set i .exn, E1.st⟩) := rfl
@[simp] theorem e_sTryM {hs : List ClD} {g : En → SR} {E : En} : sTryM hs g E = match g E with
  | .exc c l E1 => (match hdM hs c with
    | some (some x) => goM x c l E1
    | some none => .exc c l E1
    | none => .bad)
  | r => r := rfl
@[simp] theorem e_clrXN {i : Nat} {E : En} : clrX i (.nx E) = .nx ⟨(clr E.e).set i .emp, E.st⟩ := rfl
@[simp] theorem e_clrXB {i : Nat} {E : En} : clrX i (.bk E) = .bk ⟨(clr E.e).set i .emp, E.st⟩ := rfl
@[simp] theorem e_clrXC {i : Nat} {E : En} : clrX i (.ct E) = .ct ⟨(clr E.e).set i .emp, E.st⟩ := rfl
@[simp] theorem e_clrXR {i : Nat} {m : Md} {d : D} {st : Sto} : clrX i (.rt m d st) = .rt m d st := rfl
end Dn
namespace PySem
open PySem.Spec PyProof PyProof.Rows
set_option maxHeartbeats 2000000 in
theorem meets_enumerate_newT (l : Addr) (items : Array Value) :
    Meets (Builtin.«enumerate.__new__» ⟨[.type "enumerate", .ref l], []⟩) (fun _ R s => s.heap.IsTuple l items ∧
      R (.ok (.ret (.ref (s.heap.push { cls := .type "tuple_iterator", data := .fields #[.ref l, .int 0 0] }).objs.size)))
        { s with heap := (s.heap.push { cls := .type "tuple_iterator", data := .fields #[.ref l, .int 0 0] }).push { cls := .type "enumerate", data := .fields #[.none, .bool false, .ref s.heap.objs.size, rawInt 0, .none, .none] } }) :=
  .of_wp fun prog w A R s h => by
    obtain ⟨hp, g, d, tk, os⟩ := s; obtain ⟨hL, h⟩ := h
    have hsub := sub_enumerate
    have hL : Heap.IsTuple (Shared.heap ⟨hp, g, d, tk, os⟩) l items := hL
    wp_walk using wpAny_pyIter_tuple hL
    refine wpAny_stack_any fun st => wpAny_pure ?_
    split
    · rename_i c _ _ _ _ _
      cases (c == Value.type "enumerate")
      · wp_walk using wpAny_pyIter_tuple hL
        exact ⟨_, rfl, h⟩
      · wp_walk using wpAny_pyIter_tuple hL
        exact ⟨_, rfl, h⟩
    · wp_walk using wpAny_pyIter_tuple hL
      exact ⟨_, rfl, h⟩
end PySem
namespace PySem
open PySem.Spec PyProof PyProof.Rows
section
variable {prog : Program} {w : World} {A : Around} {E : Value → Shared → Prop} {s : Shared}
theorem call_enumerate_tuple {l : Addr} {items : Array Value} {Q : Value → Shared → Prop} (hL : s.heap.IsTuple l items)
    (h : ∀ h', IsEnum h' (s.heap.objs.size + 1) s.heap.objs.size 0 .none → h'.IsTupleIter s.heap.objs.size l 0 → h'.objs.size = s.heap.objs.size + 2 →
      (∀ b o, s.heap.get? b = some o → h'.get? b = some o) → Q (.ref (s.heap.objs.size + 1)) { s with heap := h' }) :
    wpAny (model prog w) A (call (.type "enumerate") [.ref l]) Q E s := by
  refine callType_new F.called_enumerate (by decide) (F.typeCall_enumerate_1 _) (F.newCall_enumerate_1 _) (fun obj => F.args_object_init_2 obj _) F.entry_enumerate_new
    (meets_enumerate_newT l items) ⟨hL, ?_⟩
  have hz : (s.heap.push { cls := .type "tuple_iterator", data := .fields #[.ref l, .int 0 0] }).objs.size = s.heap.objs.size + 1 := Heap.size_push ..
  show _ ∧ _
  rw [hz]
  have he : IsEnum ((s.heap.push { cls := .type "tuple_iterator", data := .fields #[.ref l, .int 0 0] }).push
      { cls := .type "enumerate", data := .fields #[.none, .bool false, .ref s.heap.objs.size, rawInt 0, .none, .none] }) (s.heap.objs.size + 1) s.heap.objs.size 0 .none := by
    have := Heap.get?_push_size (s.heap.push { cls := .type "tuple_iterator", data := .fields #[.ref l, .int 0 0] }) (o := { cls := .type "enumerate", data := .fields #[.none, .bool false, .ref s.heap.objs.size, rawInt 0, .none, .none] }) rfl
    rw [hz] at this; exact this
  refine ⟨⟨_, he, rfl⟩, h _ he ⟨_, Heap.get?_push_of_some _ (Heap.get?_push_size _ rfl), rfl, rfl⟩ (by rw [Heap.size_push, hz]) fun b o x => Heap.get?_push_of_some _ (Heap.get?_push_of_some _ x)⟩
end
end PySem
namespace Dn
open PySem PySem.Spec PyProof.Rows L2
def IteT (K : PySem.W.Frag) (a : Addr) (xs : List V) : It :=
  ⟨fun i H => SqT K H a xs ∧ i < xs.length, fun i H v H' => ∃ T x, v = .ref T ∧ H T = none ∧ H' = upd H T (.tup [.int (i : Nat), x]) ∧ xs[i]? = some x, fun i H => SqT K H a xs ∧ xs.length ≤ i⟩
theorem turn_enumT {P : Program} {w : World} {K : PySem.W.Frag} {elts : List Expr} {kk : Nat} {tpos : Pos} (a e it : Addr) (xs : List V) :
    Turn P w K (.Tuple elts kk tpos) (IteT K a xs) [e, it] e (fun i h => (∃ old, IsEnum h e it ((i : Nat) : Int) old) ∧ h.IsTupleIter it a i ∧ e ≠ it ∧ i ≤ xs.length) where
  mem := by simp
  obj := fun i h st b hb => by
    obtain ⟨⟨old, he⟩, ⟨o, ho, hc, hd⟩, _⟩ := st
    have e' : b = e ∨ b = it := by simpa using hb
    rcases e' with z | z
    · rw [z]; exact ⟨_, he, fun v q => nomatch q⟩
    · rw [z]; exact ⟨o, ho, fun v q => by rw [hd] at q; cases q⟩
  keep := fun i h h' st k => let ⟨⟨old, he⟩, hi, hne, hl⟩ := st; ⟨⟨old, k e (by simp) _ he⟩, hi.at fun o q => k it (by simp) o q, hne, hl⟩
  item := by
    intro X hP hw hK hc i pins s σ H E I hf st hg
    subst hP hw hK
    obtain ⟨⟨old, he⟩, hit, hne, hile⟩ := st
    obtain ⟨hq, hlx⟩ := hg
    obtain ⟨x, hx⟩ : ∃ x, xs[i]? = some x := ⟨_, List.getElem?_eq_getElem hlx⟩
    obtain ⟨its, rv, p, hz⟩ := I.tuple hq
    obtain ⟨u, hu, ru⟩ := rv.get hx
    have hel : e < s.heap.objs.size := Heap.lt_size he
    have hil : it < s.heap.objs.size := by obtain ⟨_, q, _⟩ := hit; exact Heap.lt_size q
    have pt : s.heap.IsTuple a its.toArray := p
    have nea : e ≠ a := fun z => by
      obtain ⟨o, e1, _, n, e2⟩ := pt
      rw [← z, he] at e1; cases e1; cases e2
    have nia : a ≠ it := fun z => by
      obtain ⟨o, e1, _, n, e2⟩ := pt
      obtain ⟨o', e3, _, e4⟩ := hit
      rw [z, e3] at e1; cases e1; rw [e4] at e2; cases e2
    have hlt : i < its.toArray.size := by
      have := (List.getElem?_eq_some_iff.mp hu).1
      simpa using this
    have D := Draws.tuple (prog := X.prog) (w := X.w) (A := X.A.in1) (I.ok.hd hc) it a nia its.toArray
    refine wpAny_pyNext_enum_itemD D he ⟨hit, pt⟩ hlt hne (by simp [hne, nea]) fun v h' tk hv ho hit' hT hsz hk => ?_
    have hv : its.toArray[i]? = some v := hv
    have hvu : v = u := by
      have e1 : its[i]? = some v := by simpa using hv
      rw [hu] at e1; exact (Option.some.inj e1).symm
    subst hvu
    refine ⟨_, rfl, wpAny_letOwnedTupleGo_enum (s := { s with heap := h', toks := tk + 1 }) ho fun h'' he' sb => ?_⟩
    have hT2 : h''.get? s.heap.objs.size = some { cls := .type "tuple", data := .seq #[.int i tk, v] } := (sb.2 _ (Nat.ne_of_gt hel)).trans hT
    have new : ObjOk X.prog X.w (upd H s.heap.objs.size (.tup [.int (i : Nat), x])) h'' s.heap.objs.size (.tup [.int (i : Nat), x]) :=
      ⟨by show 2 ≤ sizeLine; decide, [.int i tk, v], .cons ⟨_, rfl⟩ (.cons ru .nil), ⟨_, hT2, rfl, _, rfl⟩⟩
    have I1 : Inv X pins σ (upd H s.heap.objs.size (.tup [.int (i : Nat), x])) { s with heap := h'', toks := tk + 1 } :=
      I.turnedNew (ch := [e, it]) (fun b ob hb q => (sb.2 b (fun z => hb (by simp [z]))).trans (hk b ob (fun z => hb (by simp [z])) (fun z => hb (by simp [z])) q)) hf (Nat.le_refl _) new
    refine ⟨.ref s.heap.objs.size, _, I1, rfl, ⟨_, x, rfl, I.hok.fresh (Nat.le_refl _), rfl, hx⟩, ⟨⟨v, ?_⟩, ?_, hne, hlx⟩, fun b hb => ?_⟩
    · have e1 : ((i + 1 : Nat) : Int) = (i : Int) + 1 := by omega
      rw [e1]; exact he'
    · exact hit'.1.at fun o q => (sb.2 it (Ne.symm hne)).trans q
    · have hb' : b < s.heap.objs.size := by
        have e' : b = e ∨ b = it := by simpa using hb
        rcases e' with z | z
        · rw [z]; exact hel
        · rw [z]; exact hil
      rw [upd_ne (Nat.ne_of_lt hb')]
      exact (hf b hb).1
  done := by
    intro X hP hw hK hc i pins s σ H E I hf st hg
    subst hP hw hK
    obtain ⟨⟨old, he⟩, hit, hne, hile⟩ := st
    obtain ⟨hq, hlx⟩ := hg
    obtain ⟨its, rv, p, hz⟩ := I.tuple hq
    obtain ⟨f0, f1, f2, f3, f4, f5⟩ := hf it (by simp)
    have hl := rv.length
    have pt : s.heap.IsTuple a its.toArray := p
    have nia : a ≠ it := fun z => by
      obtain ⟨o, e1, _, n, e2⟩ := pt
      obtain ⟨o', e3, _, e4⟩ := hit
      rw [z, e3] at e1; cases e1; rw [e4] at e2; cases e2
    have D := Draws.tuple (prog := X.prog) (w := X.w) (A := X.A.in1) (I.ok.hd hc) it a nia its.toArray
    have ei : i = its.toArray.size := by simp; omega
    rw [ei] at hit
    exact wpAny_pyNext_enum_endD D he ⟨hit, pt⟩ fun h' eb => ⟨rfl, I.turned (t' := s.toks) (fun b o hb q => eb b o hb q) f0 f1 f3 f4 f5⟩
  self := fun A i s Q E st h => let ⟨⟨_, he⟩, _⟩ := st; wpAny_pyIter_enum he h
def iEnumT (K : PySem.W.Frag) (ta : TA) : TI := fun σ H R => ta σ H fun vs H1 => ∃ a xs, vs = [.ref a] ∧ SqT K H1 a xs ∧ R (IteT K a xs) H1
theorem pi_enumT {X : Cx} {e : Expr} {ta : TA} {p pos tpos : Pos} {elts : List Expr} {kk : Nat} (hg : Gl X "enumerate") (hm : X.mg "enumerate" = none) (ha : PA X [e] ta) (hs : starEach [e] X.env = [(false, eval e X.env)] := by rfl) :
    PI X (.Tuple elts kk tpos) (.Call (.Name "enumerate" p) [e] [] pos) (iEnumT X.K ta) := by
  refine ⟨fun pins s σ H R I h => ?_⟩
  refine Call_ (ld_blt I hg hm boot_enumerate (PyProof.Rows.callWith_type1 (thn (ha.run pos pins s σ H _ I h) fun us s1 ⟨vs, H1, I1, r1, q1⟩ => ?_) hs rfl))
  obtain ⟨a, xs, ex, hq, q⟩ := q1
  subst ex
  cases r1 with
  | cons r rr =>
    cases rr
    cases r
    obtain ⟨its, rv, p', hz⟩ := I1.tuple hq
    have pt : s1.heap.IsTuple a its.toArray := p'
    refine call_enumerate_tuple pt fun h' he hit hsz hk => wpAny_pyIter_enum he ?_
    have I2 : Inv X pins σ H1 { s1 with heap := h' } := I1.kept (t' := s1.toks) hk
    refine ⟨s1.heap.objs.size + 1, [s1.heap.objs.size + 1, s1.heap.objs.size], _, _, H1, rfl, I2, turn_enumT a (s1.heap.objs.size + 1) s1.heap.objs.size xs, ⟨⟨.none, he⟩, hit, Nat.succ_ne_self _, Nat.zero_le _⟩, fun b hb => ?_, q⟩
    have e' : b = s1.heap.objs.size + 1 ∨ b = s1.heap.objs.size := by simpa using hb
    have hle : s1.heap.objs.size ≤ b := by
      rcases e' with z | z
      · rw [z]; exact Nat.le_add_right _ _
      · rw [z]; exact Nat.le_refl _
    exact I1.fpOk hle (I1.hok.fresh hle)
section
variable {G : Gm} {W : WX}
theorem it_enumT {t1 : Hs} {a : Addr} {xs : List V} {ds : List D} (h1 : SqT G.K t1.f a xs) (h2 : IsL G t1.as t1.f xs ds) : ItOk G t1 (IteT G.K a xs) (enumD 0 ds) := by
  intro i t st u k
  have sq : SqT G.K t.h a xs := same_t k.sf (same_t u.f h1)
  refine ⟨fun hi => ⟨sq, by rw [enumD_len] at hi; rw [h2.len]; exact hi⟩, fun d hd => ?_⟩
  obtain ⟨x, e1, rfl⟩ := enumD_get hd
  obtain ⟨v, e2, hv⟩ := h2.get e1
  refine ⟨⟨sq, (List.getElem?_eq_some_iff.mp e2).1⟩, fun y H' w => ?_⟩
  obtain ⟨T, c, rfl, hT, rfl, hc⟩ := w
  rw [e2] at hc; cases hc
  refine ⟨⟨t.as, upd t.f T _, upd t.h T _⟩, rfl, Gro.new k hT, k.grow hT, .tup (SqT.of upd_same) (.cons ?_ (.cons ?_ .nil))⟩
  · rw [Nat.zero_add]; exact .int _
  · exact hv.up u.a (u.f.trans (same_new (k.sf.free hT)))
def dEnumT (f : En → AR) : En → AR := fun E => match f E with
  | .ok _ [.tup l] st => .ok true (enumD 0 l) st
  | .exc c l st => .exc c l st
  | _ => .bad
theorem i_enumT {ta : TA} {f : En → AR} (h : DAr G W ta f) : DIt G W (iEnumT G.K ta) (dEnumT f) := by
  intro s t σ e st E k R post
  refine h s t σ e st E k _ ?_
  unfold dEnumT at post
  cases q : f ⟨e, st⟩ with
  | ok p l st1 =>
    rw [q] at post
    match l, post with
    | [], post => exact post.elim
    | [d], post =>
      cases d <;> first | exact post.elim | skip
      intro t' vs g k' i0 u0
      obtain ⟨v, rfl, hv⟩ := u0.one
      have hv := hv.tupI
      cases hv with
      | tup a b => exact ⟨_, _, rfl, same_t k'.sf a, post t' _ g k' (it_enumT a b)⟩
    | a :: b :: l, post => cases a <;> exact post.elim
  | exc c l st1 => rw [q] at post; exact post
  | bad => rw [q] at post; exact post
@[simp] theorem e_dEnumT {f : En → AR} {E : En} : dEnumT f E = match f E with
  | .ok _ [.tup l] st => .ok true (enumD 0 l) st
  | .exc c l st => .exc c l st
  | _ => .bad := rfl
end
end Dn
namespace Dn
open PySem PySem.Spec PyProof.Rows L2
theorem call_max3 {X : Cx} (hc : X.calm = true) : CallR X (.builtin "max") (fun xs H Q => ∃ i j k, xs = [.int i, .int j, .int k] ∧ Q (.int (max (max i j) k)) H) := by
  intro pins s σ H xs us Q I r h
  obtain ⟨i, j, k, rfl, q⟩ := h
  cases r with
  | cons r1 r2 =>
    cases r2 with
    | cons r2 r3 =>
      cases r3 with
      | cons r3 r4 =>
        cases r4
        obtain ⟨t1, rfl⟩ := r1
        obtain ⟨t2, rfl⟩ := r2
        obtain ⟨t3, rfl⟩ := r3
        refine max3_num (I.ok.hd hc) (.int _ _) (.int _ _) (.int _ _) fun h' tk kk => ⟨_, H, I.kept kk, ?_, q⟩
        by_cases h1 : i < j
        · by_cases h2 : j < k
          · have e : max (max i j) k = k := by omega
            simp only [Flt.ltV, h1, h2, decide_true, if_true, e]; exact ⟨_, rfl⟩
          · have e : max (max i j) k = j := by omega
            simp only [Flt.ltV, h1, h2, decide_true, decide_false, if_true, Bool.false_eq_true, if_false, e]; exact ⟨_, rfl⟩
        · by_cases h2 : i < k
          · have e : max (max i j) k = k := by omega
            simp only [Flt.ltV, h1, h2, decide_true, decide_false, if_true, Bool.false_eq_true, if_false, e]; exact ⟨_, rfl⟩
          · have e : max (max i j) k = i := by omega
            simp only [Flt.ltV, h1, h2, decide_false, Bool.false_eq_true, if_false, e]; exact ⟨_, rfl⟩
section
variable {G : Gm}
def oMax3 : List D → Sto → ER
  | [.int i, .int j, .int k], st => .val .P (.int (max (max i j) k)) st
  | _, _ => .bad
theorem c_max3 : DCal G (fun xs H Q => ∃ i j k, xs = [.int i, .int j, .int k] ∧ Q (.int (max (max i j) k)) H) oMax3 := by
  intro W σ s st vs ds k ul Q post
  unfold oMax3 at post
  split at post
  · rename_i i j l
    cases ul with
    | cons h1 ul =>
      cases ul with
      | cons h2 ul =>
        cases ul with
        | cons h3 ul =>
          cases ul
          obtain rfl := h1.int
          obtain rfl := h2.int
          obtain rfl := h3.int
          exact ⟨_, _, _, rfl, post.now k (.int _)⟩
  · exact post.elim
def leastI : List Int → Int
  | [] => 0
  | [a] => a
  | a :: l => if leastI l < a then leastI l else a
def oMinL : List D → Sto → ER
  | [.lst l], st => ofOpt (intsOf l) fun ns => if ns ≠ [] then .val .P (.int (leastI ns)) st else .bad
  | _, _ => .bad
end
@[simp] theorem e_oMax3 {i j k : Int} {st : Sto} : oMax3 [.int i, .int j, .int k] st = .val .P (.int (max (max i j) k)) st := rfl
@[simp] theorem e_oMinL {l : List D} {st : Sto} : oMinL [.lst l] st = ofOpt (intsOf l) fun ns => if ns ≠ [] then .val .P (.int (leastI ns)) st else .bad := rfl
end Dn
namespace Dn
open PySem PySem.Spec PyProof.Rows L2
section
variable {G : Gm}
def mostI : List Int → Int
  | [] => 0
  | [a] => a
  | a :: l => if a < mostI l then mostI l else a
theorem mostI_spec : ∀ {l : List Int}, l ≠ [] → mostI l ∈ l ∧ ∀ a ∈ l, a ≤ mostI l
  | [], h => absurd rfl h
  | [a], _ => by simp [mostI]
  | a :: b :: l, _ => by
    obtain ⟨h1, h2⟩ := mostI_spec (l := b :: l) (by simp)
    unfold mostI
    by_cases c : a < mostI (b :: l)
    · rw [if_pos c]
      refine ⟨List.mem_cons_of_mem _ h1, fun x m => ?_⟩
      rcases List.mem_cons.mp m with rfl | m
      · omega
      · exact h2 x m
    · rw [if_neg c]
      refine ⟨List.mem_cons_self .., fun x m => ?_⟩
      rcases List.mem_cons.mp m with rfl | m
      · omega
      · have := h2 x m; omega
def oMaxL : List D → Sto → ER
  | [.lst l], st => ofOpt (intsOf l) fun ns => if ns ≠ [] then .val .P (.int (mostI ns)) st else .bad
  | _, _ => .bad
theorem c_maxL : DCal G (rMax G.K) oMaxL := by
  refine DCal.one1 (fun _ => rfl) (fun a b l _ => by cases a <;> rfl) fun W σ s st v d k hv Q post => ?_
  cases d <;> try exact post.elim
  rename_i l
  obtain ⟨p, vs, rfl, hp, hl⟩ := hv.lst k.sf
  obtain ⟨ns, h, post⟩ := RPost.opt (intsOf l) (fun ns => if ns ≠ [] then .val .P (.int (mostI ns)) st else .bad) post
  obtain ⟨hne, post⟩ := RPost.cond _ _ post
  have := intsOf_V h hl
  subst this
  refine ⟨p, ns, rfl, SqL.of hp, ?_, fun m h1 h2 => ?_⟩
  · first
      | exact hne
      | exact List.length_pos_iff.mpr hne
  · obtain ⟨g1, g2⟩ := mostI_spec hne
    have : m = mostI ns := Int.le_antisymm (g2 _ h1) (h2 _ g1)
    rw [this]; exact post.now k (.int _)
end
@[simp] theorem e_oMaxL {l : List D} {st : Sto} : oMaxL [.lst l] st = ofOpt (intsOf l) fun ns => if ns ≠ [] then .val .P (.int (mostI ns)) st else .bad := rfl
def dIsEN (i : Nat) (l : List D) (b : Option Bool) : En → ER := match l with
  | [] => dIsE i b
  | _ :: _ => fun _ => .bad
theorem v_isEN {G : Gm} {W : WX} {i : Nat} {b : Option Bool} {c : Nat} {a : Addr} {x : Option Addr} {l : List D} {C : V} {cv cls : Value} {dd : Option Addr} (hcls : cls = .ref (G.ca c)) (hdd : dd = x) (hx : l = [] → x = none) (T : ExcC G.K (G.ca c)) (hC : ∀ u, RelV C u → u = cv) (hb : ∀ r, b = some r → PySem.W.kitOne G.K (.ref (G.ca c)) cv = some r) :
    DEv (G.exn a x c l) W (tCB (rIsEx G.K a cls dd) (tCons (tVar i) (tCons (tC C) tNil))) (dIsEN i l b) := by
  subst hcls
  subst hdd
  intro s t σ e st E k Q post
  cases l with
  | nil =>
    obtain rfl := hx rfl
    unfold dIsEN dIsE at post
    simp only at post
    split at post
    · rename_i q
      obtain ⟨o, h1, h2⟩ := E.slot q
      have h2 : o = some (.ref a) := h2
      subst h2
      obtain ⟨r, hr, post⟩ := RPost.opt _ _ post
      exact ⟨_, h1, G.ca c, rfl, rfl, T, C, cv, r, rfl, hC, hb r hr, post.now k (.bl _)⟩
    · exact post.elim
  | cons y l => exact post.elim
@[simp] theorem e_dIsEN {i : Nat} {b : Option Bool} {E : En} : dIsEN i [] b E = dIsE i b E := rfl
end Dn
namespace Dn
open PySem PySem.Spec PyProof.Rows L2
structure Ch where
  fn : List He.DefD
  tf : List He.Defn
  ex : PySem.W.Frag → Bool
structure SaysC (h : Heap) (K : PySem.W.Frag) (c : Ch) : Prop where
  d : He.SaysD [] c.fn K
  more : c.ex K = true
  tabs : ∀ p ∈ c.tf, PySem.W.codeHdIn K (He.cT K p).1 (He.cT K p).2 = true ∧ K.lookup (He.cT K p).2 = none ∧ h.get? (He.cT K p).2 = some { cls := .none, data := .fields #[] }
end Dn
namespace Dn
open PySem PySem.Spec PyProof.Rows L2
theorem log2_lt {n k : Nat} (hk : 0 < k) (h : n < 2 ^ k) : n.log2 < k := by
  by_cases z : n = 0
  · subst z; simpa using hk
  · exact (Nat.log2_lt z).mpr h
theorem log2_mono {n m k : Nat} (hk : m.log2 < k) (h : n ≤ m) : n.log2 < k := by
  by_cases z : n = 0
  · subst z
    have : Nat.log2 0 = 0 := by decide
    omega
  · exact (Nat.log2_lt z).mpr (Nat.lt_of_le_of_lt h (by
      by_cases zm : m = 0
      · omega
      · exact (Nat.log2_lt zm).mp hk))
theorem mul_ok {i j : Int} {a b : Nat} (ha : i.natAbs < 2 ^ a) (hb : j.natAbs < 2 ^ b) (h : a + b ≤ 1000000) (h0 : 0 < a) (h1 : 0 < b) : i.natAbs.log2 + j.natAbs.log2 < 1000000 := by
  have := log2_lt h0 ha
  have := log2_lt h1 hb
  omega
theorem e_wh {c : En → ER} {b : En → SR} {n : Nat} {e : DE} {st st1 : Sto} {m : Md} {x : Bool} (h : c ⟨e, st⟩ = .val m (.bl x) st1) : whN c b (n + 1) ⟨e, st⟩ = if x = true then (match b ⟨e, st1⟩ with
      | .nx e' => whN c b n e'
      | .ct e' => whN c b n e'
      | .bk e' => some (.nx e')
      | r => some r) else some (.nx ⟨e, st1⟩) := by
  rw [whN]
  rw [h]
  cases x <;> rfl
def InR : List Int → List Int → Prop
  | [], [] => True
  | a :: l, b :: s => (0 ≤ a ∧ a < b) ∧ InR l s
  | _, _ => False
theorem InR.cons {l s : List Int} {b : Int} (h : InR l (b :: s)) : ∃ a l', l = a :: l' ∧ 0 ≤ a ∧ a < b ∧ InR l' s := by
  cases l with
  | nil => exact h.elim
  | cons a l => exact ⟨a, l, rfl, h.1.1, h.1.2, h.2⟩
theorem InR.nil {l : List Int} (h : InR l []) : l = [] := by
  cases l with
  | nil => rfl
  | cons a l => exact h.elim
theorem InR.len : ∀ {l s : List Int}, InR l s → l.length = s.length
  | [], [], _ => rfl
  | a :: l, b :: s, h => congrArg Nat.succ (InR.len h.2)
  | [], _ :: _, h => h.elim
  | _ :: _, [], h => h.elim
theorem gcd_wh (st : Sto) : ∀ (b a : Nat), ∃ n, whN (dOp oGt (dVar 1) (dC (.int 0))) (sPar 0 1 (aCons (dVar 1) (aCons (dOp oMod (dVar 0) (dVar 1)) aNil))) n ⟨[.val (.int a), .val (.int b)], st⟩ = some (.nx ⟨[.val (.int (Nat.gcd a b)), .val (.int 0)], st⟩) := by
  intro b
  induction b using Nat.strongRecOn with
  | ind b ih =>
    intro a
    by_cases hb : b = 0
    · subst hb
      refine ⟨1, ?_⟩
      rw [e_wh (x := false) (m := .P) (st1 := st) (by simp)]
      simp
    · obtain ⟨n, hn⟩ := ih (a % b) (Nat.mod_lt _ (Nat.pos_of_ne_zero hb)) b
      refine ⟨n + 1, ?_⟩
      rw [e_wh (x := true) (m := .P) (st1 := st) (by simp; omega)]
      have hm : (a : Int).fmod (b : Int) = ((a % b : Nat) : Int) := by
        rw [Int.fmod_eq_emod_of_nonneg _ (Int.natCast_nonneg b)]
        rfl
      have hb' : ¬ (b : Int) = 0 := by omega
      simp only [if_true, e_sPar, e_aCons, e_aNil, e_dVar, e_dOp, List.getElem?_cons_succ, List.getElem?_cons_zero, ER.bind_val, e_oMod_1, cons_P, acons_ok, ne_eq, hb', not_false_eq_true, Bool.and_self, List.set_cons_zero, List.set_cons_succ, hm]
      rw [hn]
      have : Nat.gcd a b = Nat.gcd b (a % b) := by
        rw [Nat.gcd_comm a b, Nat.gcd_rec b a, Nat.gcd_comm]
      rw [this]
theorem gcd_while (a b : Nat) (st : Sto) : sWhile (dOp oGt (dVar 1) (dC (.int 0))) (sPar 0 1 (aCons (dVar 1) (aCons (dOp oMod (dVar 0) (dVar 1)) aNil))) ⟨[.val (.int a), .val (.int b)], st⟩ = .nx ⟨[.val (.int (Nat.gcd a b)), .val (.int 0)], st⟩ := by
  obtain ⟨n, h⟩ := gcd_wh st b a
  exact sWhile_eq h
theorem absI (a : Int) : (if a < 0 then -a else a) = ((a.natAbs : Nat) : Int) := by split <;> omega
end Dn
namespace Dn
open PySem PySem.Spec PyProof.Rows L2
def dF (q : Rat) : D := .tup [.int q.num, .int q.den]
theorem bit_mul {x y : Int} {m n : Nat} (h1 : x.natAbs < 2 ^ m) (h2 : y.natAbs < 2 ^ n) : (x * y).natAbs < 2 ^ (m + n) := by
  rw [Int.natAbs_mul, Nat.pow_add]
  exact Nat.mul_lt_mul_of_lt_of_lt h1 h2
theorem bit_up {x : Int} {m n : Nat} (h1 : x.natAbs < 2 ^ m) (h : m ≤ n) : x.natAbs < 2 ^ n := Nat.lt_of_lt_of_le h1 (Nat.pow_le_pow_right (by decide) h)
theorem bit_add {x y : Int} {m n : Nat} (h1 : x.natAbs < 2 ^ m) (h2 : y.natAbs < 2 ^ n) : (x + y).natAbs < 2 ^ (max m n + 1) := by
  have a := bit_up h1 (Nat.le_max_left m n)
  have b := bit_up h2 (Nat.le_max_right m n)
  rw [Nat.pow_succ]; omega
theorem bit_sub {x y : Int} {m n : Nat} (h1 : x.natAbs < 2 ^ m) (h2 : y.natAbs < 2 ^ n) : (x - y).natAbs < 2 ^ (max m n + 1) := by
  have a := bit_up h1 (Nat.le_max_left m n)
  have b := bit_up h2 (Nat.le_max_right m n)
  rw [Nat.pow_succ]; omega
theorem bit_log {x : Int} {m n : Nat} (h1 : x.natAbs < 2 ^ m) (h : m < n) : x.natAbs.log2 < n := by
  by_cases z : x.natAbs = 0
  · rw [z]
    have : Nat.log2 0 = 0 := by decide
    omega
  · exact (Nat.log2_lt z).mpr (Nat.lt_of_lt_of_le h1 (Nat.pow_le_pow_right (by decide) (by omega)))
theorem bit_log2 {x y : Int} {m n : Nat} (h1 : x.natAbs < 2 ^ m) (h2 : y.natAbs < 2 ^ n) (h : m + n + 2 ≤ 1000000) : x.natAbs.log2 + y.natAbs.log2 < 1000000 := by
  have := bit_log h1 (Nat.lt_succ_self m)
  have := bit_log h2 (Nat.lt_succ_self n)
  omega
theorem low_num (t b : Int) (hb : b ≠ 0) : t.fdiv (if b < 0 then -(Int.gcd t b : Int) else (Int.gcd t b : Int)) = (Rat.divInt t b).num ∧ b.fdiv (if b < 0 then -(Int.gcd t b : Int) else (Int.gcd t b : Int)) = ((Rat.divInt t b).den : Int) := by
  have hg : Int.gcd t b ≠ 0 := fun h => hb (Int.gcd_eq_zero_iff.mp h).2
  obtain ⟨q, hq⟩ := Int.gcd_dvd_left (a := t) (b := b)
  obtain ⟨r, hr⟩ := Int.gcd_dvd_right (a := t) (b := b)
  rw [Rat.num_divInt, Rat.den_divInt, if_neg hb, Int.gcd_comm b t]
  generalize Int.gcd t b = g at *
  have hg' : (g : Int) ≠ 0 := by omega
  have hgn : 0 < g := by omega
  subst hq
  have hr0 : r ≠ 0 := fun z => hb (by rw [hr, z]; simp)
  have hrn : (b.natAbs / g : Nat) = r.natAbs := by rw [hr, Int.natAbs_mul]; simp [Nat.mul_div_cancel_left _ hgn]
  rw [hrn]
  by_cases hn : b < 0
  · have rn : r < 0 := by
      by_cases z : r < 0
      · exact z
      · have := Int.mul_nonneg (show (0 : Int) ≤ g by omega) (show 0 ≤ r by omega)
        omega
    rw [if_pos hn, Int.sign_eq_neg_one_of_neg hn, hr]
    constructor
    · rw [show (g : Int) * q = -(g : Int) * (-q) by grind, Int.mul_fdiv_cancel_left _ (by omega)]
      rw [show -1 * (-(g : Int) * -q) = (g : Int) * (-q) by grind, Int.mul_ediv_cancel_left _ hg']
    · rw [show (g : Int) * r = -(g : Int) * (-r) by grind, Int.mul_fdiv_cancel_left _ (by omega)]
      omega
  · have rn : 0 < r := by
      by_cases z : 0 < r
      · exact z
      · have := Int.mul_nonpos_of_nonneg_of_nonpos (show (0 : Int) ≤ g by omega) (show r ≤ 0 by omega)
        omega
    rw [if_neg hn, Int.sign_eq_one_of_pos (by omega), hr]
    constructor
    · rw [Int.mul_fdiv_cancel_left _ hg', Int.one_mul, Int.mul_ediv_cancel_left _ hg']
    · rw [Int.mul_fdiv_cancel_left _ hg']
      omega
theorem sgd_log {t b : Int} (hb : b ≠ 0) {k : Nat} (h : b.natAbs.log2 < k) : ¬ Int.gcd t b = 0 ∧ (Int.gcd t b).log2 < k := by
  have h1 : Int.gcd t b ≤ b.natAbs := Nat.le_of_dvd (by omega) (Int.gcd_dvd_natAbs_right t b)
  exact ⟨fun h => hb (Int.gcd_eq_zero_iff.mp h).2, log2_mono h h1⟩
def Sz (n : Nat) (q : Rat) : Prop := q.num.natAbs < 2 ^ n ∧ q.den < 2 ^ n
theorem Sz.up {m n : Nat} {q : Rat} (h : Sz m q) (k : m ≤ n) : Sz n q := ⟨bit_up h.1 k, Nat.lt_of_lt_of_le h.2 (Nat.pow_le_pow_right (by decide) k)⟩
theorem Sz.den {n : Nat} {q : Rat} (h : Sz n q) : (q.den : Int).natAbs < 2 ^ n := by simpa using h.2
theorem Sz.mk {n : Nat} {t b : Int} (h1 : t.natAbs < 2 ^ n) (h2 : b.natAbs < 2 ^ n) (hb : b ≠ 0) : Sz n (Rat.divInt t b) := by
  refine ⟨?_, ?_⟩
  · rw [Rat.num_divInt]
    refine Nat.lt_of_le_of_lt ?_ h1
    have : (b.sign * t / ((b.gcd t : Nat) : Int)).natAbs ≤ (b.sign * t).natAbs := Int.natAbs_ediv_le_natAbs _ _
    refine Nat.le_trans this ?_
    rw [Int.natAbs_mul]
    have : b.sign.natAbs ≤ 1 := by
      rcases Int.lt_trichotomy b 0 with z | z | z
      · rw [Int.sign_eq_neg_one_of_neg z]; decide
      · exact absurd z hb
      · rw [Int.sign_eq_one_of_pos z]; decide
    calc b.sign.natAbs * t.natAbs ≤ 1 * t.natAbs := Nat.mul_le_mul_right _ this
      _ = t.natAbs := Nat.one_mul _
  · rw [Rat.den_divInt, if_neg hb]
    exact Nat.lt_of_le_of_lt (Nat.div_le_self _ _) h2
theorem den_pos (q : Rat) : 0 < (q.den : Int) := by have := q.den_nz; omega
theorem q_eq (q : Rat) : q = Rat.divInt q.num q.den := (Rat.num_divInt_den q).symm
theorem q_add (a b : Rat) : a + b = Rat.divInt (a.num * b.den + b.num * a.den) (a.den * b.den) := by
  conv => lhs; rw [q_eq a, q_eq b]
  rw [Rat.divInt_add_divInt _ _ (by have := den_pos a; omega) (by have := den_pos b; omega)]
theorem q_sub (a b : Rat) : a - b = Rat.divInt (a.num * b.den - b.num * a.den) (a.den * b.den) := by
  conv => lhs; rw [q_eq a, q_eq b]
  rw [Rat.divInt_sub_divInt _ _ (by have := den_pos a; omega) (by have := den_pos b; omega)]
theorem q_mul (a b : Rat) : a * b = Rat.divInt (a.num * b.num) (a.den * b.den) := by
  conv => lhs; rw [q_eq a, q_eq b]
  rw [Rat.divInt_mul_divInt]
theorem q_div (a b : Rat) : a / b = Rat.divInt (a.num * b.den) (a.den * b.num) := by
  conv => lhs; rw [q_eq a, q_eq b]
  rw [Rat.div_def, Rat.inv_divInt, Rat.divInt_mul_divInt]
theorem den2 (a b : Rat) : (a.den : Int) * b.den ≠ 0 := Int.mul_ne_zero (by have := den_pos a; omega) (by have := den_pos b; omega)
theorem Sz.add {m n : Nat} {a b : Rat} (h : Sz m a) (k : Sz n b) : Sz (m + n + 1) (a + b) := by
  rw [q_add]
  have x := bit_mul h.1 k.den
  have y := bit_mul k.1 h.den
  rw [Nat.add_comm n m] at y
  have z := bit_add x y
  rw [Nat.max_self] at z
  exact Sz.mk z (bit_up (bit_mul h.den k.den) (by omega)) (den2 a b)
theorem Sz.sub {m n : Nat} {a b : Rat} (h : Sz m a) (k : Sz n b) : Sz (m + n + 1) (a - b) := by
  rw [q_sub]
  have x := bit_mul h.1 k.den
  have y := bit_mul k.1 h.den
  rw [Nat.add_comm n m] at y
  have z := bit_sub x y
  rw [Nat.max_self] at z
  exact Sz.mk z (bit_up (bit_mul h.den k.den) (by omega)) (den2 a b)
theorem Sz.mul {m n : Nat} {a b : Rat} (h : Sz m a) (k : Sz n b) : Sz (m + n) (a * b) := by
  rw [q_mul]
  exact Sz.mk (bit_mul h.1 k.1) (bit_mul h.den k.den) (den2 a b)
theorem num_ne {b : Rat} (h : b ≠ 0) : b.num ≠ 0 := fun z => h (Rat.num_eq_zero.mp z)
theorem Sz.div {m n : Nat} {a b : Rat} (h : Sz m a) (k : Sz n b) (hb : b ≠ 0) : Sz (m + n) (a / b) := by
  rw [q_div]
  exact Sz.mk (bit_mul h.1 k.den) (bit_mul h.den k.1) (Int.mul_ne_zero (by have := den_pos a; omega) (num_ne hb))
theorem Sz.neg {m : Nat} {a : Rat} (h : Sz m a) : Sz m (-a) := ⟨by simpa using h.1, by simpa using h.2⟩
theorem two_pow_gt (n : Nat) : 1 < 2 ^ (n + 1) := by have := Nat.one_le_two_pow (n := n); rw [Nat.pow_succ]; omega
theorem Sz.int {m : Nat} {a : Int} (h : a.natAbs < 2 ^ m) : Sz (m + 1) (a : Rat) := ⟨bit_up (m := m) (by simpa using h) (by omega), by simpa using two_pow_gt m⟩
theorem sz0 {n : Nat} : Sz (n + 1) 0 := ⟨by simp [Nat.two_pow_pos], by simpa using two_pow_gt n⟩
theorem sz1 {n : Nat} : Sz (n + 1) 1 := ⟨by simpa using two_pow_gt n, by simpa using two_pow_gt n⟩
@[simp] theorem dF_0 : D.tup [.int 0, .int 1] = dF 0 := rfl
@[simp] theorem dF_1 : D.tup [.int 1, .int 1] = dF 1 := rfl
theorem dF_int (w : Int) : D.tup [.int w, .int 1] = dF (w : Rat) := rfl
@[simp] theorem ix0_dF {q : Rat} {st : Sto} : oIx (dF q) (.int 0) st = .val .P (.int q.num) st := by simp [dF, atI, ixN]
@[simp] theorem ix1_dF {q : Rat} {st : Sto} : oIx (dF q) (.int 1) st = .val .P (.int q.den) st := by simp [dF, atI, ixN]
@[simp] theorem len_dF {q : Rat} {st : Sto} : oLen [dF q] st = .val .P (.int 2) st := rfl
@[simp] theorem items_dF {q : Rat} : itemsOf (dF q) = some [.int q.num, .int q.den] := rfl
@[simp] theorem tup_dF {q : Rat} {st : Sto} : isT "tuple" (dF q) st = .val .P (.bl true) st := by simp [dF]
theorem dF_inj {a b : Rat} : dF a = dF b ↔ a = b := by
  constructor
  · intro h
    unfold dF at h
    injection h with h
    injection h with h1 h2
    injection h2 with h2 h3
    injection h1 with h1
    injection h2 with h2
    exact Rat.ext h1 (by omega)
  · rintro rfl; rfl
theorem q_eq_iff (a b : Rat) : a = b ↔ a.num = b.num ∧ a.den = b.den := ⟨fun h => by subst h; exact ⟨rfl, rfl⟩, fun h => Rat.ext h.1 h.2⟩
@[simp] theorem eq_dF {a b : Rat} {st : Sto} : oEq (dF a) (dF b) st = .val .P (.bl (decide (a = b))) st := by
  have : decide (a = b) = decide (a.num = b.num ∧ (a.den : Int) = b.den) := by
    rw [decide_eq_decide, q_eq_iff]
    omega
  rw [this]
  simp [dF]
@[simp] theorem ne_dF {a b : Rat} {st : Sto} : oNe (dF a) (dF b) st = .val .P (.bl (!decide (a = b))) st := by
  have : decide (a = b) = decide (a.num = b.num ∧ (a.den : Int) = b.den) := by
    rw [decide_eq_decide, q_eq_iff]
    omega
  rw [this]
  simp [dF]
theorem lt_num (a b : Rat) : a.num * b.den < b.num * a.den ↔ a < b := (Rat.lt_iff a b).symm
end Dn
namespace Dn
open PySem PySem.Spec PyProof.Rows L2
theorem for_inv {b : D → En → SR} (I : Nat → En → Prop) : ∀ (xs : List D) (k : Nat) (E : En), (∀ i x E, xs[i]? = some x → I (k + i) E → ∃ E', (b x E = .nx E' ∨ b x E = .ct E') ∧ I (k + i + 1) E') → I k E → ∃ E', forD b xs E = .nx E' ∧ I (k + xs.length) E'
  | [], k, E, _, h => ⟨E, rfl, h⟩
  | x :: xs, k, E, hb, h => by
    obtain ⟨E1, h1, h2⟩ := hb 0 x E rfl h
    obtain ⟨E2, h3, h4⟩ := for_inv I xs (k + 1) E1 (fun i y E hy hI => by
      have := hb (i + 1) y E (by simpa using hy) (by rw [show k + (i + 1) = k + 1 + i by omega]; exact hI)
      rw [show k + 1 + i + 1 = k + (i + 1) + 1 by omega]
      exact this) h2
    refine ⟨E2, ?_, by rw [List.length_cons, show k + (xs.length + 1) = k + 1 + xs.length by omega]; exact h4⟩
    rcases h1 with h1 | h1 <;> simp only [e_forC, h1, h3]
theorem for_map {α : Type} {b : D → En → SR} {enc : α → D} (I : List α → En → Prop) (xs : List α) : ∀ (done : List α) (ys : List α) (E : En), xs = done ++ ys → (∀ done a ys E, xs = done ++ a :: ys → I done E → ∃ E', (b (enc a) E = .nx E' ∨ b (enc a) E = .ct E') ∧ I (done ++ [a]) E') → I done E → ∃ E', forD b (ys.map enc) E = .nx E' ∧ I xs E'
  | done, [], E, e, _, h => ⟨E, rfl, by rw [e, List.append_nil]; exact h⟩
  | done, a :: ys, E, e, hb, h => by
    obtain ⟨E1, h1, h2⟩ := hb done a ys E e h
    obtain ⟨E2, h3, h4⟩ := for_map I xs (done ++ [a]) ys E1 (by rw [e]; simp) hb h2
    refine ⟨E2, ?_, h4⟩
    rcases h1 with h1 | h1 <;> simp only [List.map_cons, e_forC, h1, h3]
theorem lc_map {α : Type} {k : D → Sto → Option (Option D × Sto)} {enc f : α → D} {st : Sto} : ∀ {l : List α}, (∀ a ∈ l, k (enc a) st = some (some (f a), st)) → lcGo k (l.map enc) st = some (l.map f, st)
  | [], _ => rfl
  | a :: l, h => by
    rw [List.map_cons, e_lcC, h a (List.mem_cons_self ..), Option.bind_some, lc_map (fun a m => h a (List.mem_cons_of_mem _ m))]
    rfl
@[simp] theorem intsOf_map {α : Type} (f : α → Int) : ∀ l : List α, intsOf (l.map fun a => .int (f a)) = some (l.map f)
  | [] => rfl
  | a :: l => by simp [intsOf, intsOf_map f l]
mutual
def pur : D → Bool
  | .non | .int _ => true
  | .str x => PyData.strOk x
  | .tup l => purL l
  | .lst l => purL l
  | _ => false
def purL : List D → Bool
  | [] => true
  | d :: l => pur d && purL l
end
mutual
def dep : D → Nat
  | .tup l => depL l + 1
  | .lst l => depL l + 1
  | _ => 0
def depL : List D → Nat
  | [] => 0
  | d :: l => max (dep d) (depL l)
end
mutual
theorem pur_py : ∀ d, pur d = true → isPy d = true ∧ PyData.canLay0 (py d) = true ∧ PyData.depth (py d) = dep d
  | .non, _ => ⟨rfl, by simp [py, PyData.canLay0], by simp [py, PyData.depth, dep]⟩
  | .int _, _ => ⟨rfl, by simp [py, PyData.canLay0], by simp [py, PyData.depth, dep]⟩
  | .str _, h => ⟨rfl, by simpa [py, PyData.canLay0, pur] using h, by simp [py, PyData.depth, dep]⟩
  | .tup l, h => by
    obtain ⟨a, b, c⟩ := purL_py l (by simpa [pur] using h)
    exact ⟨by simpa [isPy] using a, by simpa [py, PyData.canLay0] using b, by simp [py, PyData.depth, dep, c]⟩
  | .lst l, h => by
    obtain ⟨a, b, c⟩ := purL_py l (by simpa [pur] using h)
    exact ⟨by simpa [isPy] using a, by simpa [py, PyData.canLay0] using b, by simp [py, PyData.depth, dep, c]⟩
  | .bl _, h => by simp [pur] at h
  | .obj _ _, h => by simp [pur] at h
  | .scr _, h => by simp [pur] at h
  | .ptr _, h => by simp [pur] at h
theorem purL_py : ∀ l, purL l = true → isPyL l = true ∧ PyData.canLayAll0 (pyL l) = true ∧ PyData.depthAll (pyL l) = depL l
  | [], _ => ⟨rfl, by simp [pyL, PyData.canLayAll0], by simp [pyL, PyData.depthAll, depL]⟩
  | d :: l, h => by
    have h' : pur d = true ∧ purL l = true := by simpa [purL] using h
    obtain ⟨a, b, c⟩ := pur_py d h'.1
    obtain ⟨a', b', c'⟩ := purL_py l h'.2
    exact ⟨by simp [isPyL, a, a'], by simp [pyL, PyData.canLayAll0, b, b'], by simp [pyL, PyData.depthAll, depL, c, c']⟩
end
mutual
theorem eqv_pur : ∀ a b, pur a = true → pur b = true → (PyData.eqv (py a) (py b) = true ↔ a = b)
  | .non, b, _, hb => by cases b <;> simp [py, PyData.eqv, pur] at hb ⊢
  | .int _, b, _, hb => by cases b <;> simp [py, PyData.eqv, pur] at hb ⊢
  | .str _, b, _, hb => by cases b <;> simp [py, PyData.eqv, pur] at hb ⊢
  | .tup l, b, ha, hb => by
    cases b <;> simp [py, PyData.eqv, pur] at ha hb ⊢
    exact eqvL_pur _ _ ha hb
  | .lst l, b, ha, hb => by
    cases b <;> simp [py, PyData.eqv, pur] at ha hb ⊢
    exact eqvL_pur _ _ ha hb
  | .bl _, _, h, _ => by simp [pur] at h
  | .obj _ _, _, h, _ => by simp [pur] at h
  | .scr _, _, h, _ => by simp [pur] at h
  | .ptr _, _, h, _ => by simp [pur] at h
theorem eqvL_pur : ∀ l m, purL l = true → purL m = true → (PyData.eqvAll (pyL l) (pyL m) = true ↔ l = m)
  | [], [], _, _ => by simp [pyL, PyData.eqvAll]
  | [], _ :: _, _, _ => by simp [pyL, PyData.eqvAll]
  | _ :: _, [], _, _ => by simp [pyL, PyData.eqvAll]
  | a :: l, b :: m, ha, hb => by
    have h1 : pur a = true ∧ purL l = true := by simpa [purL] using ha
    have h2 : pur b = true ∧ purL m = true := by simpa [purL] using hb
    simp only [pyL, PyData.eqvAll, Bool.and_eq_true, eqv_pur a b h1.1 h2.1, eqvL_pur l m h1.2 h2.2, List.cons.injEq]
end
theorem eq_of {a b : D} {p : Prop} [Decidable p] (st : Sto) (ha : pur a = true) (hb : pur b = true) (da : dep a ≤ 64) (db : dep b ≤ 64) (h : a = b ↔ p) : oEq a b st = .val .P (.bl (decide p)) st := by
  obtain ⟨a1, a2, a3⟩ := pur_py a ha
  obtain ⟨b1, b2, b3⟩ := pur_py b hb
  have e := (eqv_pur a b ha hb).trans h
  unfold oEq eqAny
  by_cases s : scalD a b = true
  · rw [if_pos s]
    have : eqF a b = decide p := by
      rw [Bool.eq_iff_iff, decide_eq_true_iff, ← h]
      cases a <;> cases b <;> simp [scalD, eqF] at s ⊢
    rw [this]
  · rw [if_neg s, if_pos ⟨a1, b1, by simp [SeqAt.shaped, a2, a3, da], by simp [SeqAt.shaped, b2, b3, db]⟩]
    have : PyData.eqv (py a) (py b) = decide p := by
      rw [Bool.eq_iff_iff, decide_eq_true_iff, ← e]
    rw [this]
theorem purL_map {α : Type} {enc : α → D} (h : ∀ a, pur (enc a) = true) : ∀ l : List α, purL (l.map enc) = true
  | [] => rfl
  | a :: l => by simp [purL, h a, purL_map h l]
theorem depL_map {α : Type} {enc : α → D} {n : Nat} (h : ∀ a, dep (enc a) ≤ n) : ∀ l : List α, depL (l.map enc) ≤ n
  | [] => by simp [depL]
  | a :: l => by have := depL_map h l; have := h a; simp only [List.map_cons, depL]; omega
theorem map_inj {α : Type} {enc : α → D} (h : ∀ a b, enc a = enc b → a = b) : ∀ l m : List α, l.map enc = m.map enc ↔ l = m
  | [], [] => by simp
  | [], _ :: _ => by simp
  | _ :: _, [] => by simp
  | a :: l, b :: m => by
    simp only [List.map_cons, List.cons.injEq, map_inj h l m]
    exact ⟨fun x => ⟨h a b x.1, x.2⟩, fun x => ⟨by rw [x.1], x.2⟩⟩
theorem eq_lst {α : Type} [DecidableEq α] {enc : α → D} (hp : ∀ a, pur (enc a) = true) (hd : ∀ a, dep (enc a) ≤ 60) (hi : ∀ a b, enc a = enc b → a = b) (l m : List α) (st : Sto) : oEq (.lst (l.map enc)) (.lst (m.map enc)) st = .val .P (.bl (decide (l = m))) st := by
  refine eq_of st (by simp [pur, purL_map hp]) (by simp [pur, purL_map hp]) ?_ ?_ ?_
  · have := depL_map hd l; simp only [dep]; omega
  · have := depL_map hd m; simp only [dep]; omega
  · simp [map_inj hi]
@[simp high] theorem pow10_6 {st : Sto} : oPow (.int 10) (.int 6) st = .val .P (.int 1000000) st := rfl
@[simp high] theorem pow10_8 {st : Sto} : oPow (.int 10) (.int 8) st = .val .P (.int 100000000) st := rfl
@[simp high] theorem pow10_9 {st : Sto} : oPow (.int 10) (.int 9) st = .val .P (.int 1000000000) st := rfl
@[simp high] theorem pow10_12 {st : Sto} : oPow (.int 10) (.int 12) st = .val .P (.int 1000000000000) st := rfl
@[simp high] theorem pow10_18 {st : Sto} : oPow (.int 10) (.int 18) st = .val .P (.int 1000000000000000000) st := rfl
@[simp high] theorem pow10_19 {st : Sto} : oPow (.int 10) (.int 19) st = .val .P (.int 10000000000000000000) st := rfl
@[simp high] theorem pow10_20 {st : Sto} : oPow (.int 10) (.int 20) st = .val .P (.int 100000000000000000000) st := rfl
@[simp high] theorem pow10_26 {st : Sto} : oPow (.int 10) (.int 26) st = .val .P (.int 100000000000000000000000000) st := rfl
@[simp high] theorem pow10_30 {st : Sto} : oPow (.int 10) (.int 30) st = .val .P (.int 1000000000000000000000000000000) st := rfl
@[simp high] theorem pow10_36 {st : Sto} : oPow (.int 10) (.int 36) st = .val .P (.int 1000000000000000000000000000000000000) st := rfl
@[simp high] theorem pow10_39 {st : Sto} : oPow (.int 10) (.int 39) st = .val .P (.int 1000000000000000000000000000000000000000) st := rfl
@[simp high] theorem pow10_40 {st : Sto} : oPow (.int 10) (.int 40) st = .val .P (.int 10000000000000000000000000000000000000000) st := rfl
@[simp high] theorem pow10_45 {st : Sto} : oPow (.int 10) (.int 45) st = .val .P (.int 1000000000000000000000000000000000000000000000) st := rfl
@[simp high] theorem pow10_60 {st : Sto} : oPow (.int 10) (.int 60) st = .val .P (.int 1000000000000000000000000000000000000000000000000000000000000) st := rfl
@[simp high] theorem pow10_180 {st : Sto} : oPow (.int 10) (.int 180) st = .val .P (.int 1000000000000000000000000000000000000000000000000000000000000000000000000000000000000000000000000000000000000000000000000000000000000000000000000000000000000000000000000000000000000) st := rfl
def dRow (r : Int × Int) : D := .tup [.int r.1, .int r.2]
@[simp] theorem tg_row {e : DE} {i j : Nat} {r : Int × Int} : tgT 2 (tgsCons (tgN i) (tgsCons (tgN j) tgsNil)) (dRow r) e = some ((e.set i (.val (.int r.1))).set j (.val (.int r.2))) := by simp [dRow]
@[simp] theorem ix0_row {r : Int × Int} {st : Sto} : oIx (dRow r) (.int 0) st = .val .P (.int r.1) st := by simp [dRow, atI, ixN]
@[simp] theorem ix1_row {r : Int × Int} {st : Sto} : oIx (dRow r) (.int 1) st = .val .P (.int r.2) st := by simp [dRow, atI, ixN]
theorem sz62 {n : Nat} (h : n ≤ 1000000) : -(2 ^ 62) ≤ (n : Int) ∧ (n : Int) < 2 ^ 62 := by constructor <;> omega
theorem dRow_inj (a b : Int × Int) (h : dRow a = dRow b) : a = b := by
  unfold dRow at h
  injection h with h
  injection h with h1 h2
  injection h2 with h2 h3
  injection h1 with h1
  injection h2 with h2
  exact Prod.ext h1 h2
@[simp] theorem eq_rows {l m : List (Int × Int)} {st : Sto} : oEq (.lst (l.map dRow)) (.lst (m.map dRow)) st = .val .P (.bl (decide (l = m))) st :=
  eq_lst (fun a => by simp [dRow, pur, purL]) (fun a => by simp [dRow, dep, depL]) dRow_inj l m st
@[simp] theorem ne_rows {l m : List (Int × Int)} {st : Sto} : oNe (.lst (l.map dRow)) (.lst (m.map dRow)) st = .val .P (.bl (!decide (l = m))) st := ne_of_eq eq_rows
theorem pur_dF (q : Rat) : pur (dF q) = true := by simp [dF, pur, purL]
theorem dep_dF (q : Rat) : dep (dF q) ≤ 1 := by simp [dF, dep, depL]
@[simp] theorem eq_Fs {l m : List Rat} {st : Sto} : oEq (.lst (l.map dF)) (.lst (m.map dF)) st = .val .P (.bl (decide (l = m))) st :=
  eq_lst pur_dF (fun a => by have := dep_dF a; omega) (fun a b => dF_inj.mp) l m st
@[simp] theorem ne_Fs {l m : List Rat} {st : Sto} : oNe (.lst (l.map dF)) (.lst (m.map dF)) st = .val .P (.bl (!decide (l = m))) st := ne_of_eq eq_Fs
end Dn
namespace Dn
open PySem PySem.Spec PyProof.Rows L2
theorem sum_nonneg {α : Type} {f : α → Int} : ∀ {l : List α}, (∀ r ∈ l, 0 ≤ f r) → 0 ≤ (l.map f).sum
  | [], _ => by simp
  | a :: l, h => by
    have := sum_nonneg (l := l) (fun r m => h r (List.mem_cons_of_mem _ m))
    have := h a (List.mem_cons_self ..)
    simp; omega
theorem sum_pos {α : Type} {f : α → Int} : ∀ {l : List α} {a : α}, (∀ r ∈ l, 0 ≤ f r) → a ∈ l → 0 < f a → 0 < (l.map f).sum
  | b :: l, a, h, m, p => by
    have n := sum_nonneg (l := l) (fun r m => h r (List.mem_cons_of_mem _ m))
    have nb := h b (List.mem_cons_self ..)
    rcases List.mem_cons.mp m with rfl | m
    · simp; omega
    · have := sum_pos (fun r m => h r (List.mem_cons_of_mem _ m)) m p
      simp; omega
theorem sum_le {α : Type} {f : α → Int} {c : Int} : ∀ {l : List α}, (∀ r ∈ l, f r ≤ c) → (l.map f).sum ≤ c * l.length
  | [], _ => by simp
  | a :: l, h => by
    have := sum_le (l := l) (fun r m => h r (List.mem_cons_of_mem _ m))
    have := h a (List.mem_cons_self ..)
    rw [List.map_cons, List.sum_cons, List.length_cons, Int.natCast_add, Int.mul_add]; omega
def RowOk (r : Int × Int) : Prop := 1 ≤ r.1 ∧ r.1 ≤ 999 ∧ 0 ≤ r.2 ∧ r.2 ≤ 999999999
def RowsOk (m : Nat) (rows : List (Int × Int)) : Prop := 1 ≤ rows.length ∧ rows.length ≤ m ∧ (∀ r ∈ rows, RowOk r) ∧ (rows.map (·.2)).sum ≠ 0
theorem RowsOk.up {m n : Nat} {rows : List (Int × Int)} (h : RowsOk m rows) (k : m ≤ n) : RowsOk n rows := ⟨h.1, by have := h.2.1; omega, h.2.2⟩
def pre (rows : List (Int × Int)) (i : Nat) : Int := ((rows.take i).map (·.1)).sum
def wid (rows : List (Int × Int)) : Int := (rows.map (·.1)).sum
theorem pre_len (rows : List (Int × Int)) : pre rows rows.length = wid rows := by simp [pre, wid]
theorem pre_zero (rows : List (Int × Int)) : pre rows 0 = 0 := by simp [pre]
theorem pre_succ {rows : List (Int × Int)} {i : Nat} (h : i < rows.length) : pre rows (i + 1) = pre rows i + rows[i].1 := by
  unfold pre
  rw [List.take_succ_eq_append_getElem h, List.map_append, List.sum_append]
  simp
section
variable {rows : List (Int × Int)} (hr : RowsOk 8 rows)
include hr
theorem row_ok {i : Nat} (h : i < rows.length) : RowOk rows[i] := hr.2.2.1 _ (List.getElem_mem h)
theorem wid_pos : 0 < wid rows := by
  have h0 := hr.1
  have : 0 < rows.length := by omega
  have := sum_pos (f := fun r : Int × Int => r.1) (l := rows) (fun r m => by have := (hr.2.2.1 r m).1; omega) (List.getElem_mem this) (by have := (row_ok hr this).1; omega)
  exact this
theorem wid_le : wid rows ≤ 7992 := by
  have := sum_le (f := fun r : Int × Int => r.1) (c := 999) (l := rows) (fun r m => (hr.2.2.1 r m).2.1)
  have := hr.2.1
  unfold wid
  omega
theorem pre_nonneg (i : Nat) : 0 ≤ pre rows i := sum_nonneg fun r m => by have := (hr.2.2.1 r (List.mem_of_mem_take m)).1; omega
theorem pre_mono {i j : Nat} (h : i ≤ j) : pre rows i ≤ pre rows j := by
  induction j with
  | zero => have : i = 0 := by omega
            subst this; omega
  | succ j ih =>
    by_cases z : i = j + 1
    · subst z; omega
    · have := ih (by omega)
      by_cases hj : j < rows.length
      · have := pre_succ hj
        have := (row_ok hr hj).1
        omega
      · have : pre rows (j + 1) = pre rows j := by unfold pre; rw [List.take_of_length_le (by omega), List.take_of_length_le (by omega)]
        omega
theorem pre_le (i : Nat) : pre rows i ≤ wid rows := by
  rw [← pre_len]
  by_cases h : i ≤ rows.length
  · exact pre_mono hr h
  · unfold pre; rw [List.take_of_length_le (by omega), List.take_length]; omega
end
def bq (rows : List (Int × Int)) (i : Nat) : Rat := Rat.divInt (pre rows i) (wid rows)
def bqs (rows : List (Int × Int)) : List Rat := (List.range (rows.length + 1)).map (bq rows)
theorem q_ltP {a b c d : Int} (hb : 0 < b) (hd : 0 < d) : Rat.divInt a b < Rat.divInt c d ↔ a * d < c * b := by
  have hb' : (0 : Rat) < (b : Rat) := Rat.intCast_pos.mpr hb
  have hd' : (0 : Rat) < (d : Rat) := Rat.intCast_pos.mpr hd
  rw [Rat.divInt_eq_div, Rat.divInt_eq_div, Rat.div_lt_iff hb']
  have : (c : Rat) / d * b = (c * b : Int) / d := by
    rw [Rat.intCast_mul]; grind
  rw [this, Rat.lt_div_iff hd', ← Rat.intCast_mul, Rat.intCast_lt_intCast]
theorem cast_ne {d : Int} (hd : d ≠ 0) : (d : Rat) ≠ 0 := fun h => hd (by
  have : (d : Rat) = ((0 : Int) : Rat) := h
  exact Rat.intCast_inj.mp this)
section
variable {rows : List (Int × Int)} (hr : RowsOk 8 rows)
include hr
theorem bq_sz (i : Nat) : Sz 13 (bq rows i) := by
  have h1 := pre_nonneg hr i
  have h2 := pre_le hr i
  have h3 := wid_pos hr
  have h4 := wid_le hr
  exact Sz.mk (by omega) (by omega) (by omega)
theorem bq_zero : bq rows 0 = 0 := by simp [bq, pre_zero]
theorem bq_len : bq rows rows.length = 1 := by
  have h3 := wid_pos hr
  simp only [bq, pre_len]
  exact Rat.divInt_self' (by omega)
theorem bq_lt {i : Nat} (h : i < rows.length) : bq rows i < bq rows (i + 1) := by
  have h3 := wid_pos hr
  have h4 := (row_ok hr h).1
  unfold bq
  rw [q_ltP h3 h3, pre_succ h]
  have := Int.mul_lt_mul_of_pos_right (show pre rows i < pre rows i + rows[i].1 by omega) h3
  exact this
theorem bq_mono {i j : Nat} (h : i ≤ j) : bq rows i ≤ bq rows j := by
  have h3 := wid_pos hr
  rw [← Rat.not_lt]
  unfold bq
  rw [q_ltP h3 h3]
  have := pre_mono hr h
  have := Int.mul_le_mul_of_nonneg_right this (show 0 ≤ wid rows by omega)
  omega
theorem bq_diff {i : Nat} (h : i < rows.length) : bq rows (i + 1) - bq rows i = (rows[i].1 : Rat) / wid rows := by
  have h3 := cast_ne (show wid rows ≠ 0 by have := wid_pos hr; omega)
  unfold bq
  rw [Rat.divInt_eq_div, Rat.divInt_eq_div, pre_succ h, Rat.intCast_add]
  grind
end
def lo (x : Rat) (rows : List (Int × Int)) (i : Nat) : Rat := if x < bq rows i then bq rows i else x
def hi (y : Rat) (rows : List (Int × Int)) (i : Nat) : Rat := if bq rows (i + 1) < y then bq rows (i + 1) else y
def vq (rows : List (Int × Int)) (i : Nat) : Rat := (((rows[i]?.map (·.2)).getD 0 : Int) : Rat)
theorem vq_eq {rows : List (Int × Int)} {i : Nat} (h : i < rows.length) : vq rows i = (rows[i].2 : Rat) := by simp [vq, h]
def wseg (x y : Rat) (rows : List (Int × Int)) (i : Nat) : Rat := vq rows i * ((hi y rows i - lo x rows i) / (bq rows (i + 1) - bq rows i))
def seg (x y : Rat) (rows : List (Int × Int)) (i : Nat) : Option (Rat × Rat × Rat) := if lo x rows i < hi y rows i then some (lo x rows i, hi y rows i, wseg x y rows i) else none
def btw (x y : Rat) (rows : List (Int × Int)) (k : Nat) : List (Rat × Rat × Rat) := (List.range k).filterMap (seg x y rows)
def dSeg (s : Rat × Rat × Rat) : D := .tup [dF s.1, dF s.2.1, dF s.2.2]
def sumR (f : Nat → Rat) : Nat → Rat
  | 0 => 0
  | k + 1 => sumR f k + f k
def wpart (x y : Rat) (rows : List (Int × Int)) (i : Nat) : Rat := if lo x rows i < hi y rows i then wseg x y rows i else 0
def wq (x y : Rat) (rows : List (Int × Int)) : Rat := sumR (wpart x y rows) rows.length
theorem btw_succ (x y : Rat) (rows : List (Int × Int)) (k : Nat) : btw x y rows (k + 1) = btw x y rows k ++ (seg x y rows k).toList := by
  unfold btw
  rw [List.range_succ, List.filterMap_append]
  cases h : seg x y rows k <;> simp [h]
def foldS : List (Rat × Rat × Rat) → Rat
  | [] => 0
  | s :: l => s.2.2 + foldS l
theorem foldS_app : ∀ (l m : List (Rat × Rat × Rat)), foldS (l ++ m) = foldS l + foldS m
  | [], m => by simp [foldS, Rat.zero_add]
  | s :: l, m => by simp [foldS, foldS_app l m, Rat.add_assoc]
theorem btw_sum (x y : Rat) (rows : List (Int × Int)) : ∀ k, foldS (btw x y rows k) = sumR (wpart x y rows) k
  | 0 => rfl
  | k + 1 => by
    rw [btw_succ, foldS_app, btw_sum x y rows k]
    show _ = sumR (wpart x y rows) k + wpart x y rows k
    congr 1
    unfold wpart seg
    split <;> simp [foldS, Rat.add_zero]
theorem sz_if {n : Nat} {c : Prop} [Decidable c] {a b : Rat} (ha : Sz n a) (hb : Sz n b) : Sz n (if c then a else b) := by split <;> assumption
section
variable {rows : List (Int × Int)} (hr : RowsOk 8 rows) {x y : Rat} {s : Nat} (hs : 13 ≤ s)
include hr hs
theorem lo_sz (hx : Sz s x) (i : Nat) : Sz s (lo x rows i) := sz_if ((bq_sz hr i).up hs) hx
theorem hi_sz (hy : Sz s y) (i : Nat) : Sz s (hi y rows i) := sz_if ((bq_sz hr (i + 1)).up hs) hy
theorem vq_sz {i : Nat} (h : i < rows.length) : Sz 31 (vq rows i) := by
  rw [vq_eq h]
  have := row_ok hr h
  obtain ⟨_, _, h1, h2⟩ := this
  exact Sz.int (m := 30) (by omega)
theorem bd_ne {i : Nat} (h : i < rows.length) : bq rows (i + 1) - bq rows i ≠ 0 := by
  have := bq_lt hr h
  grind
theorem wseg_sz (hx : Sz s x) (hy : Sz s y) {i : Nat} (h : i < rows.length) : Sz (2 * s + 59) (wseg x y rows i) := by
  have a := (hi_sz hr hs hy i).sub (lo_sz hr hs hx i)
  have b := (bq_sz hr (i + 1)).sub (bq_sz hr i)
  exact ((vq_sz hr hs h).mul (a.div b (bd_ne hr hs h))).up (by omega)
theorem btw_sz (hx : Sz s x) (hy : Sz s y) : ∀ k, k ≤ rows.length → ∀ z ∈ btw x y rows k, Sz s z.1 ∧ Sz s z.2.1 ∧ Sz (2 * s + 59) z.2.2 ∧ z.1 < z.2.1
  | 0, _ => by simp [btw]
  | k + 1, h => by
    intro z hz
    rw [btw_succ] at hz
    rcases List.mem_append.mp hz with m | m
    · exact btw_sz hx hy k (by omega) z m
    · unfold seg at m
      split at m
      · simp at m; subst m
        exact ⟨lo_sz hr hs hx k, hi_sz hr hs hy k, wseg_sz hr hs hx hy (by omega), by assumption⟩
      · simp at m
end
theorem foldS_sz {n : Nat} : ∀ l : List (Rat × Rat × Rat), (∀ z ∈ l, Sz n z.2.2) → Sz (l.length * (n + 1) + 1) (foldS l)
  | [], _ => sz0
  | s :: l, h => by
    have a := h s (List.mem_cons_self ..)
    have b := foldS_sz l (fun z m => h z (List.mem_cons_of_mem _ m))
    refine (a.add b).up ?_
    rw [List.length_cons, Nat.succ_mul]; omega
end Dn
namespace Dn
open PySem PySem.Spec PyProof.Rows L2
def ovl (x y a b : Rat) : Rat := if (if x < a then a else x) < (if b < y then b else y) then (if b < y then b else y) - (if x < a then a else x) else 0
theorem ovl_add {x y z a b : Rat} (h1 : x ≤ z) (h2 : z ≤ y) (h : a < b) : ovl x z a b + ovl z y a b = ovl x y a b := by
  unfold ovl
  grind
theorem ovl_nonneg (x y a b : Rat) : 0 ≤ ovl x y a b := by
  unfold ovl
  grind
theorem wpart_ovl (x y : Rat) (rows : List (Int × Int)) (i : Nat) : wpart x y rows i = vq rows i / (bq rows (i + 1) - bq rows i) * ovl x y (bq rows i) (bq rows (i + 1)) := by
  show (if lo x rows i < hi y rows i then vq rows i * ((hi y rows i - lo x rows i) / (bq rows (i + 1) - bq rows i)) else 0) = vq rows i / (bq rows (i + 1) - bq rows i) * (if lo x rows i < hi y rows i then hi y rows i - lo x rows i else 0)
  generalize lo x rows i = a
  generalize hi y rows i = b
  by_cases c : a < b
  · rw [if_pos c, if_pos c, Rat.div_def, Rat.div_def]; grind
  · rw [if_neg c, if_neg c, Rat.mul_zero]
theorem sumR_add (f g : Nat → Rat) : ∀ k, sumR (fun i => f i + g i) k = sumR f k + sumR g k
  | 0 => by simp [sumR, Rat.add_zero]
  | k + 1 => by simp only [sumR, sumR_add f g k]; grind
theorem sumR_congr {f g : Nat → Rat} : ∀ {k : Nat}, (∀ i, i < k → f i = g i) → sumR f k = sumR g k
  | 0, _ => rfl
  | k + 1, h => by simp only [sumR]; rw [sumR_congr (fun i hi => h i (by omega)), h k (by omega)]
theorem sumR_nonneg {f : Nat → Rat} : ∀ {k : Nat}, (∀ i, i < k → 0 ≤ f i) → 0 ≤ sumR f k
  | 0, _ => by simp [sumR]
  | k + 1, h => by simp only [sumR]; exact Rat.add_nonneg (sumR_nonneg fun i hi => h i (by omega)) (h k (by omega))
section
variable {rows : List (Int × Int)} (hr : RowsOk 8 rows)
include hr
theorem vq_nonneg (i : Nat) : 0 ≤ vq rows i := by
  by_cases h : i < rows.length
  · rw [vq_eq h]
    exact Rat.intCast_nonneg.mpr (row_ok hr h).2.2.1
  · simp [vq, h]
theorem wq_add {x y z : Rat} (h1 : x ≤ z) (h2 : z ≤ y) : wq x z rows + wq z y rows = wq x y rows := by
  unfold wq
  rw [← sumR_add]
  refine sumR_congr fun i hi => ?_
  rw [wpart_ovl, wpart_ovl, wpart_ovl, ← ovl_add h1 h2 (bq_lt hr hi)]
  grind
theorem wpart_nonneg (x y : Rat) {i : Nat} (h : i < rows.length) : 0 ≤ wpart x y rows i := by
  rw [wpart_ovl]
  refine Rat.mul_nonneg ?_ (ovl_nonneg ..)
  rw [Rat.div_def]
  refine Rat.mul_nonneg (vq_nonneg hr i) (Rat.le_of_lt (Rat.inv_pos.mpr ?_))
  have := bq_lt hr h
  grind
theorem wq_nonneg (x y : Rat) : 0 ≤ wq x y rows := sumR_nonneg fun i hi => wpart_nonneg hr x y hi
theorem bq_01 (i : Nat) : 0 ≤ bq rows i ∧ bq rows i ≤ 1 := by
  have h0 := pre_nonneg hr i
  have h1 := pre_le hr i
  have hb := wid_pos hr
  refine ⟨Rat.divInt_nonneg h0 (by omega), ?_⟩
  rw [← Rat.not_lt, show (1 : Rat) = Rat.divInt 1 1 from rfl]
  unfold bq
  rw [q_ltP (by decide) hb]
  omega
theorem wpart_all {i : Nat} (h : i < rows.length) : wpart 0 1 rows i = vq rows i := by
  have h1 := bq_lt hr h
  have h2 := (bq_01 hr i).1
  have h3 := (bq_01 hr (i + 1)).2
  rw [wpart_ovl]
  have : ovl 0 1 (bq rows i) (bq rows (i + 1)) = bq rows (i + 1) - bq rows i := by
    unfold ovl
    grind
  rw [this]
  exact Rat.div_mul_cancel (by grind)
end
theorem sumR_vq (rows : List (Int × Int)) : ∀ k, k ≤ rows.length → sumR (vq rows) k = ((((rows.take k).map (·.2)).sum : Int) : Rat)
  | 0, _ => by simp [sumR]
  | k + 1, h => by
    rw [sumR, sumR_vq rows k (by omega), vq_eq (by omega), List.take_succ_eq_append_getElem (by omega), List.map_append, List.sum_append, Rat.intCast_add]
    simp
theorem wq_all {rows : List (Int × Int)} (hr : RowsOk 8 rows) : wq 0 1 rows = (((rows.map (·.2)).sum : Int) : Rat) := by
  unfold wq
  rw [sumR_congr (fun i hi => wpart_all hr hi), sumR_vq rows _ (Nat.le_refl _), List.take_length]
end Dn
namespace Dn
open PySem PySem.Spec PyProof.Rows L2
def cutL : List (Rat × Rat × Rat) → Rat → Option Rat
  | [], _ => none
  | s :: l, m => if s.2.2 < m then cutL l (m - s.2.2) else some (s.1 + (m / s.2.2) * (s.2.1 - s.1))
theorem cutL_app : ∀ (l r : List (Rat × Rat × Rat)) (m : Rat), cutL (l ++ r) m = match cutL l m with | some z => some z | none => cutL r (m - foldS l)
  | [], r, m => by simp [cutL, foldS]; congr 1; grind
  | s :: l, r, m => by
    simp only [List.cons_append, cutL, foldS]
    by_cases c : s.2.2 < m
    · rw [if_pos c, if_pos c, cutL_app l r]
      have : m - s.2.2 - foldS l = m - (s.2.2 + foldS l) := by grind
      rw [this]
    · rw [if_neg c, if_neg c]
def zAt (x y : Rat) (rows : List (Int × Int)) (m : Rat) (i : Nat) : Rat := lo x rows i + ((m - sumR (wpart x y rows) i) / wseg x y rows i) * (hi y rows i - lo x rows i)
theorem cut_char (x y : Rat) (rows : List (Int × Int)) (m : Rat) (hm : 0 < m) : ∀ n, (cutL (btw x y rows n) m = none ∧ sumR (wpart x y rows) n < m) ∨ ∃ i, i < n ∧ lo x rows i < hi y rows i ∧ 0 < m - sumR (wpart x y rows) i ∧ m - sumR (wpart x y rows) i ≤ wseg x y rows i ∧ cutL (btw x y rows n) m = some (zAt x y rows m i)
  | 0 => .inl ⟨rfl, by simpa [sumR] using hm⟩
  | n + 1 => by
    rw [btw_succ, cutL_app]
    rcases cut_char x y rows m hm n with ⟨h1, h2⟩ | ⟨i, h1, h2, h3, h4, h5⟩
    · rw [h1, btw_sum]
      show (cutL (seg x y rows n).toList (m - sumR (wpart x y rows) n) = none ∧ sumR (wpart x y rows) n + wpart x y rows n < m) ∨ _
      unfold seg
      by_cases c : lo x rows n < hi y rows n
      · rw [if_pos c]
        have hw : wpart x y rows n = wseg x y rows n := by simp [wpart, c]
        rw [hw]
        by_cases d : wseg x y rows n < m - sumR (wpart x y rows) n
        · left
          simp only [Option.toList, cutL, if_pos d]
          exact ⟨trivial, by grind⟩
        · right
          refine ⟨n, by omega, c, by grind, by grind, ?_⟩
          simp only [Option.toList, cutL, if_neg d]
          rfl
      · rw [if_neg c]
        left
        have hw : wpart x y rows n = 0 := by simp [wpart, c]
        rw [hw]
        exact ⟨rfl, by grind⟩
    · right
      rw [h5]
      exact ⟨i, by omega, h2, h3, h4, rfl⟩
section
variable {rows : List (Int × Int)} (hr : RowsOk 8 rows) {x y m : Rat} {i : Nat} (hi' : i < rows.length) (hlh : lo x rows i < hi y rows i) (h0 : 0 < m - sumR (wpart x y rows) i) (h1 : m - sumR (wpart x y rows) i ≤ wseg x y rows i)
theorem q_frac {r w : Rat} (h0 : 0 < r) (h1 : r ≤ w) : 0 < r / w ∧ r / w ≤ 1 := by
  have hw : 0 < w := by grind
  refine ⟨?_, ?_⟩
  · rw [Rat.div_def]; exact Rat.mul_pos h0 (Rat.inv_pos.mpr hw)
  · rw [← Rat.not_lt, Rat.lt_div_iff hw]; grind
theorem q_step {l h t : Rat} (a : l < h) (t0 : 0 < t) (t1 : t ≤ 1) : l < l + t * (h - l) ∧ l + t * (h - l) ≤ h := by
  have p := Rat.mul_pos t0 (show 0 < h - l by grind)
  have q := Rat.mul_nonneg (show 0 ≤ 1 - t by grind) (show 0 ≤ h - l by grind)
  constructor <;> grind
include hlh h0 h1 in
theorem z_in : lo x rows i < zAt x y rows m i ∧ zAt x y rows m i ≤ hi y rows i := by
  have := q_frac h0 h1
  exact q_step hlh this.1 this.2
theorem lo_ge (x : Rat) (rows : List (Int × Int)) (i : Nat) : x ≤ lo x rows i ∧ bq rows i ≤ lo x rows i := by
  unfold lo; split <;> grind
theorem hi_le (y : Rat) (rows : List (Int × Int)) (i : Nat) : hi y rows i ≤ y ∧ hi y rows i ≤ bq rows (i + 1) := by
  unfold hi; split <;> grind
theorem hi_mid {z : Rat} (hz : z ≤ bq rows (i + 1)) : hi z rows i = z := by
  unfold hi; rw [if_neg]; grind
theorem hi_low {z : Rat} {j : Nat} (hz : bq rows (j + 1) < z) : hi z rows j = bq rows (j + 1) := by
  unfold hi; rw [if_pos hz]
include hr hi' hlh h0 h1 in
theorem part_before {j : Nat} (hj : j < i) : wpart x (zAt x y rows m i) rows j = wpart x y rows j := by
  have z := z_in hlh h0 h1
  have a := lo_ge x rows i
  have b := hi_le y rows i
  have c := bq_mono hr (show j + 1 ≤ i by omega)
  have e1 : hi (zAt x y rows m i) rows j = bq rows (j + 1) := hi_low (by grind)
  have e2 : hi y rows j = bq rows (j + 1) := hi_low (by grind)
  unfold wpart wseg
  rw [e1, e2]
include hr hi' hlh h0 h1 in
theorem part_at : wpart x (zAt x y rows m i) rows i = m - sumR (wpart x y rows) i := by
  have z := z_in hlh h0 h1
  have b := hi_le y rows i
  have e1 : hi (zAt x y rows m i) rows i = zAt x y rows m i := hi_mid (by grind)
  unfold wpart wseg
  rw [e1, if_pos z.1]
  have hw : wseg x y rows i ≠ 0 := by grind
  have e2 : zAt x y rows m i - lo x rows i = ((m - sumR (wpart x y rows) i) / wseg x y rows i) * (hi y rows i - lo x rows i) := by
    unfold zAt; grind
  rw [e2]
  have e3 : wseg x y rows i = vq rows i * ((hi y rows i - lo x rows i) / (bq rows (i + 1) - bq rows i)) := rfl
  have hd : bq rows (i + 1) - bq rows i ≠ 0 := by have := bq_lt hr hi'; grind
  have : ∀ r w v a d : Rat, v * (r / w * a / d) = r / w * (v * (a / d)) := fun r w v a d => by
    rw [Rat.div_def, Rat.div_def, Rat.div_def]; grind
  rw [this, ← e3]
  exact Rat.div_mul_cancel hw
include hr hlh h0 h1 in
theorem part_after (x' : Rat) {j : Nat} (hj : i < j) : wpart x' (zAt x y rows m i) rows j = 0 := by
  have z := z_in hlh h0 h1
  have b := hi_le y rows i
  have c := bq_mono hr (show i + 1 ≤ j by omega)
  have d := lo_ge x' rows j
  have e := hi_le (zAt x y rows m i) rows j
  unfold wpart
  rw [if_neg]
  grind
include hr hi' hlh h0 h1 in
theorem sum_z (k : Nat) : sumR (wpart x (zAt x y rows m i) rows) k = if k ≤ i then sumR (wpart x y rows) k else m := by
  induction k with
  | zero => simp [sumR]
  | succ k ih =>
    simp only [sumR]
    rw [ih]
    by_cases c : k < i
    · rw [if_pos (by omega), if_pos (by omega), part_before hr hi' hlh h0 h1 c]
    · by_cases d : k = i
      · subst d
        rw [if_pos (Nat.le_refl _), if_neg (by omega), part_at hr hi' hlh h0 h1]
        grind
      · rw [if_neg (by omega), if_neg (by omega), part_after hr hlh h0 h1 x (by omega), Rat.add_zero]
include hr hi' hlh h0 h1 in
theorem wq_z : wq x (zAt x y rows m i) rows = m := by
  unfold wq
  rw [sum_z hr hi' hlh h0 h1, if_neg (by omega)]
include hr hi' hlh h0 h1 in
include hr hi' hlh h0 h1 in
end
end Dn
namespace Dn
open PySem PySem.Spec PyProof.Rows L2
def Ris (l : List Rat) : Prop := l.Pairwise (· < ·)
def ahead (q : Rat) : List Rat → Nat
  | [] => 0
  | a :: l => if a < q then ahead q l + 1 else 0
def ins (q : Rat) (l : List Rat) : List Rat := if q ∈ l then l else l.take (ahead q l) ++ q :: l.drop (ahead q l)
theorem ahead_le (q : Rat) : ∀ l, ahead q l ≤ l.length
  | [] => Nat.le_refl _
  | a :: l => by unfold ahead; split <;> simp [ahead_le q l]
theorem ahead_lt {q : Rat} : ∀ {l : List Rat} {i : Nat} (h : i < ahead q l) (hl : i < l.length), l[i] < q
  | a :: l, i, h, hl => by
    unfold ahead at h
    split at h
    · rename_i c
      cases i with
      | zero => exact c
      | succ i => exact ahead_lt (l := l) (by omega) (by simpa using hl)
    · omega
theorem ahead_ge {q : Rat} : ∀ {l : List Rat} (h : ahead q l < l.length), ¬ l[ahead q l] < q
  | [], h => by simp at h
  | a :: l, h => by
    by_cases c : a < q
    · have e : ahead q (a :: l) = ahead q l + 1 := by simp [ahead, c]
      have h' : ahead q l < l.length := by rw [e] at h; simpa using h
      have := ahead_ge h'
      simp only [e, List.getElem_cons_succ]
      exact this
    · have e : ahead q (a :: l) = 0 := by simp [ahead, c]
      simp only [e, List.getElem_cons_zero]
      exact c
theorem mem_ins {q a : Rat} {l : List Rat} : a ∈ ins q l ↔ a = q ∨ a ∈ l := by
  unfold ins
  split
  · rename_i h
    exact ⟨.inr, fun z => z.elim (fun e => e ▸ h) id⟩
  · rw [List.mem_append, List.mem_cons]
    have : a ∈ l ↔ a ∈ l.take (ahead q l) ∨ a ∈ l.drop (ahead q l) := by
      rw [← List.mem_append, List.take_append_drop]
    rw [this]
    exact ⟨fun z => by rcases z with z | z | z <;> simp [z], fun z => by rcases z with z | z | z <;> simp [z]⟩
theorem ris_take_lt {q : Rat} {l : List Rat} : ∀ a ∈ l.take (ahead q l), a < q := by
  intro a ha
  obtain ⟨i, hi, rfl⟩ := List.mem_iff_getElem.mp ha
  rw [List.getElem_take]
  rw [List.length_take] at hi
  exact ahead_lt (by omega) (by omega)
theorem ris_drop_ge {q : Rat} {l : List Rat} (h : Ris l) (hq : q ∉ l) : ∀ a ∈ l.drop (ahead q l), q < a := by
  intro a ha
  obtain ⟨i, hi, rfl⟩ := List.mem_iff_getElem.mp ha
  rw [List.length_drop] at hi
  rw [List.getElem_drop]
  have h0 := ahead_ge (q := q) (l := l) (by omega)
  have h1 : q ≠ l[ahead q l] := fun e => hq (e ▸ List.getElem_mem _)
  have h2 : q < l[ahead q l] := by grind
  by_cases c : i = 0
  · subst c; simpa using h2
  · have := List.pairwise_iff_getElem.mp h (ahead q l) (ahead q l + i) (by omega) (by omega) (by omega)
    grind
theorem ris_ins {q : Rat} {l : List Rat} (h : Ris l) : Ris (ins q l) := by
  unfold ins
  split
  · exact h
  · rename_i hq
    unfold Ris
    rw [List.pairwise_append, List.pairwise_cons]
    refine ⟨h.sublist (List.take_sublist _ _), ⟨ris_drop_ge h hq, h.sublist (List.drop_sublist _ _)⟩, fun a ha b hb => ?_⟩
    have a1 := ris_take_lt a ha
    rcases List.mem_cons.mp hb with rfl | hb
    · exact a1
    · have := ris_drop_ge h hq b hb
      grind
def insAll : List Rat → List Rat → List Rat
  | l, [] => l
  | l, q :: qs => insAll (ins q l) qs
theorem insAll_ris : ∀ {qs l : List Rat}, Ris l → Ris (insAll l qs)
  | [], l, h => h
  | q :: qs, l, h => insAll_ris (qs := qs) (l := ins q l) (ris_ins h)
theorem insAll_mem {a : Rat} : ∀ {qs l : List Rat}, a ∈ insAll l qs ↔ a ∈ qs ∨ a ∈ l
  | [], l => by simp [insAll]
  | q :: qs, l => by simp only [insAll, insAll_mem (qs := qs), mem_ins, List.mem_cons]; grind
theorem insAll_app : ∀ (l a b : List Rat), insAll l (a ++ b) = insAll (insAll l a) b
  | l, [], b => rfl
  | l, q :: a, b => insAll_app (ins q l) a b
end Dn
namespace Dn
open PySem PySem.Spec PyProof.Rows L2
def dPair (p : Rat × Rat) : D := .tup [dF p.1, dF p.2]
@[simp] theorem tg_pair {e : DE} {i j : Nat} {r : Rat × Rat} : tgT 2 (tgsCons (tgN i) (tgsCons (tgN j) tgsNil)) (dPair r) e = some ((e.set i (.val (dF r.1))).set j (.val (dF r.2))) := by simp [dPair]
end Dn
namespace Dn
open PySem PySem.Spec PyProof.Rows L2
def cw (rows : List (Int × Int)) (z : Rat) : Rat := wq 0 z rows
theorem sumR_mul (c : Nat → Rat) (t : Rat) : ∀ k, sumR (fun i => c i * t) k = sumR c k * t
  | 0 => by simp [sumR]
  | k + 1 => by simp only [sumR, sumR_mul c t k]; grind
theorem sumR_ge {f : Nat → Rat} : ∀ {k i : Nat}, (∀ j, j < k → 0 ≤ f j) → i < k → f i ≤ sumR f k
  | k + 1, i, h, hi => by
    simp only [sumR]
    have h0 := sumR_nonneg (f := f) (k := k) fun j hj => h j (by omega)
    by_cases c : i = k
    · subst c; grind
    · have := sumR_ge (f := f) (k := k) (i := i) (fun j hj => h j (by omega)) (by omega)
      have := h k (by omega)
      grind
section
variable {rows : List (Int × Int)} (hr : RowsOk 8 rows)
include hr
theorem wq_cw {x y : Rat} (h0 : 0 ≤ x) (h : x ≤ y) : wq x y rows = cw rows y - cw rows x := by
  have := wq_add hr h0 h
  unfold cw
  grind
theorem cw_one : cw rows 1 = (((rows.map (·.2)).sum : Int) : Rat) := wq_all hr
theorem cw_zero : cw rows 0 = 0 := by
  have := wq_add hr (x := 0) (y := 0) (z := 0) Rat.le_refl Rat.le_refl
  unfold cw
  grind
theorem cw_form {z : Rat} {i : Nat} (hi' : i < rows.length) (h1 : bq rows i ≤ z) (h2 : z ≤ bq rows (i + 1)) : cw rows z = sumR (vq rows) i + vq rows i / (bq rows (i + 1) - bq rows i) * (z - bq rows i) := by
  have key : ∀ k, k ≤ rows.length → sumR (wpart 0 z rows) k = if k ≤ i then sumR (vq rows) k else sumR (vq rows) i + vq rows i / (bq rows (i + 1) - bq rows i) * (z - bq rows i) := by
    intro k
    induction k with
    | zero => intro _; simp [sumR]
    | succ k ih =>
      intro hk
      simp only [sumR]
      rw [ih (by omega)]
      have b0 := (bq_01 hr k).1
      have bk := bq_lt hr (show k < rows.length by omega)
      have bd := bd_ne hr (Nat.le_refl 13) (show k < rows.length by omega)
      rw [wpart_ovl]
      by_cases c : k < i
      · rw [if_pos (by omega), if_pos (by omega)]
        have m := bq_mono hr (show k + 1 ≤ i by omega)
        have : ovl 0 z (bq rows k) (bq rows (k + 1)) = bq rows (k + 1) - bq rows k := by
          unfold ovl
          generalize bq rows i = p at *
          generalize bq rows k = q at *
          generalize bq rows (k + 1) = r at *
          grind
        rw [this, Rat.div_mul_cancel bd]
      · by_cases d : k = i
        · subst d
          rw [if_pos (Nat.le_refl _), if_neg (by omega)]
          have : ovl 0 z (bq rows k) (bq rows (k + 1)) = z - bq rows k := by
            unfold ovl
            generalize bq rows k = q at *
            generalize bq rows (k + 1) = r at *
            grind
          rw [this]
        · rw [if_neg (by omega), if_neg (by omega)]
          have m := bq_mono hr (show i + 1 ≤ k by omega)
          have : ovl 0 z (bq rows k) (bq rows (k + 1)) = 0 := by
            unfold ovl
            generalize bq rows (i + 1) = p at *
            generalize bq rows k = q at *
            generalize bq rows (k + 1) = r at *
            grind
          rw [this]; grind
  have := key rows.length (Nat.le_refl _)
  rw [if_neg (by omega)] at this
  exact this
theorem find_str {z : Rat} (h0 : 0 ≤ z) (h1 : z ≤ 1) : ∃ i, i < rows.length ∧ bq rows i ≤ z ∧ z ≤ bq rows (i + 1) := by
  have key : ∀ k, k ≤ rows.length → bq rows k < z ∨ (∃ i, i < k ∧ bq rows i ≤ z ∧ z ≤ bq rows (i + 1)) ∨ k = 0 := by
    intro k
    induction k with
    | zero => intro _; exact .inr (.inr rfl)
    | succ k ih =>
      intro hk
      by_cases c : bq rows (k + 1) < z
      · exact .inl c
      · refine .inr (.inl ?_)
        rcases ih (by omega) with h | ⟨i, a, b, c⟩ | h
        · exact ⟨k, by omega, by grind, by grind⟩
        · exact ⟨i, by omega, b, c⟩
        · subst h; exact ⟨0, by omega, by rw [bq_zero hr]; exact h0, by grind⟩
  rcases key rows.length (Nat.le_refl _) with h | h | h
  · rw [bq_len hr] at h; grind
  · exact h
  · have := hr.1; omega
theorem sumv_sz {k : Nat} (h : k ≤ rows.length) : Sz 35 (sumR (vq rows) k) := by
  rw [sumR_vq rows k h]
  have h1 := sum_nonneg (f := fun r : Int × Int => r.2) (l := rows.take k) (fun r m => (hr.2.2.1 r (List.mem_of_mem_take m)).2.2.1)
  have h2 := sum_le (f := fun r : Int × Int => r.2) (c := 999999999) (l := rows.take k) (fun r m => (hr.2.2.1 r (List.mem_of_mem_take m)).2.2.2)
  have := hr.2.1
  have : (rows.take k).length ≤ 8 := by rw [List.length_take]; omega
  exact Sz.int (m := 34) (by omega)
theorem cw_sz {z : Rat} {s : Nat} (hz : Sz s z) (h0 : 0 ≤ z) (h1 : z ≤ 1) : Sz (s + 110) (cw rows z) := by
  obtain ⟨i, hi, a, b⟩ := find_str hr h0 h1
  rw [cw_form hr hi a b]
  have d := (vq_sz hr (Nat.le_refl 13) hi).div ((bq_sz hr (i + 1)).sub (bq_sz hr i)) (bd_ne hr (Nat.le_refl 13) hi)
  have e := d.mul (hz.sub (bq_sz hr i))
  exact ((sumv_sz hr (Nat.le_of_lt hi)).add e).up (by omega)
theorem wq_sz2 {x y : Rat} {s : Nat} (hx : Sz s x) (hy : Sz s y) (h0 : 0 ≤ x) (h : x ≤ y) (h1 : y ≤ 1) : Sz (2 * s + 221) (wq x y rows) := by
  rw [wq_cw hr h0 h]
  exact ((cw_sz hr hy (by grind) h1).sub (cw_sz hr hx h0 (by grind))).up (by omega)
theorem sz_of_cw {z : Rat} {s i : Nat} (hi' : i < rows.length) (h1 : bq rows i ≤ z) (h2 : z ≤ bq rows (i + 1)) (hv : vq rows i ≠ 0) (hs : Sz s (cw rows z)) : Sz (s + 108) z := by
  have e := cw_form hr hi' h1 h2
  have bd := bd_ne hr (Nat.le_refl 13) hi'
  have : z = bq rows i + (cw rows z - sumR (vq rows) i) / vq rows i * (bq rows (i + 1) - bq rows i) := by
    generalize cw rows z = V at *
    generalize sumR (vq rows) i = P at *
    generalize vq rows i = v at *
    generalize bq rows (i + 1) - bq rows i = d at *
    have : V - P = v / d * (z - bq rows i) := by grind
    rw [this, Rat.div_def, Rat.div_def]
    have hd : d⁻¹ * d = 1 := Rat.inv_mul_cancel d bd
    have hv' : v * v⁻¹ = 1 := Rat.mul_inv_cancel v hv
    have : v * d⁻¹ * (z - bq rows i) * v⁻¹ * d = (v * v⁻¹) * (d⁻¹ * d) * (z - bq rows i) := by grind
    rw [this, hd, hv']; grind
  rw [this]
  have a := (hs.sub (sumv_sz hr (Nat.le_of_lt hi'))).div (vq_sz hr (Nat.le_refl 13) hi') hv
  have b := a.mul ((bq_sz hr (i + 1)).sub (bq_sz hr i))
  exact ((bq_sz hr i).add b).up (by omega)
theorem cut_spec {x m : Rat} (h0 : 0 ≤ x) (h1 : x ≤ 1) (hm : 0 < m) (hw : m ≤ wq x 1 rows) : ∃ z, cutL (btw x 1 rows rows.length) m = some z ∧ x < z ∧ z ≤ 1 ∧ wq x z rows = m ∧ (∀ y, x ≤ y → y < z → wq x y rows < m) ∧ ∀ s, Sz s (cw rows z) → Sz (s + 108) z := by
  rcases cut_char x 1 rows m hm rows.length with ⟨_, h⟩ | ⟨i, a, b, c, d, e⟩
  · exact absurd hw (Rat.not_le.mpr h)
  · have z := z_in b c d
    have g := wq_z hr a b c d
    have l := lo_ge x rows i
    have u := hi_le 1 rows i
    refine ⟨_, e, by grind, by grind, g, fun y hy hz => ?_, fun s hs => ?_⟩
    · have ad := wq_add hr hy (Rat.le_of_lt hz)
      have p : 0 < wq y (zAt x 1 rows m i) rows := by
        have ge := sumR_ge (f := wpart y (zAt x 1 rows m i) rows) (k := rows.length) (i := i) (fun j hj => wpart_nonneg hr _ _ hj) a
        have : 0 < wpart y (zAt x 1 rows m i) rows i := by
          rw [wpart_ovl]
          have bl := bq_lt hr a
          have hv : vq rows i ≠ 0 := fun q => by
            have : wseg x 1 rows i = 0 := by unfold wseg; rw [q]; grind
            grind
          have hv0 := vq_nonneg hr i
          refine Rat.mul_pos ?_ ?_
          · rw [Rat.div_def]; exact Rat.mul_pos (by grind) (Rat.inv_pos.mpr (by grind))
          · unfold ovl
            generalize zAt x 1 rows m i = zz at *
            grind
        have : sumR (wpart y (zAt x 1 rows m i) rows) rows.length = wq y (zAt x 1 rows m i) rows := rfl
        grind
      grind
    · refine sz_of_cw hr a (by grind) (by grind) (fun q => ?_) hs
      have : wseg x 1 rows i = 0 := by unfold wseg; rw [q]; grind
      grind
end
end Dn
namespace Dn
open PySem PySem.Spec PyProof.Rows L2
def cnt (E : List Rat) (z : Rat) : Nat := (E.filter fun e => decide (z < e)).length
structure Ends (E : List Rat) (r : List (Int × Int)) : Prop where
  i : ∀ j, j ≤ r.length → bq r j ∈ E
  z : ∀ e ∈ E, 0 ≤ e ∧ e ≤ 1 ∧ Sz 13 e
structure HalfAt (r : List (Int × Int)) (H h0 : Rat) : Prop where
  a : 0 ≤ h0
  b : h0 ≤ 1
  c : cw r h0 = H
  l : ∀ y, 0 ≤ y → y < h0 → cw r y < H
  t : cw r 1 = 2 * H
  p : 0 < H
  s : Sz 40 H
structure Kn (r : List (Int × Int)) (H h0 low high : Rat) : Prop where
  a : 0 ≤ low
  ah : low ≤ h0
  lh : low ≤ high
  b : high ≤ 1
  w : cw r high - cw r low = H
  sl : Sz 280 low
  sh : Sz 280 high
structure Mv (E : List Rat) (r : List (Int × Int)) (H h0 low high low' high' : Rat) : Prop where
  k : Kn r H h0 low' high'
  l : low ≤ low'
  h : high ≤ high'
  nl : ∀ e ∈ E, e ≤ low ∨ low' ≤ e
  nh : ∀ e ∈ E, e ≤ high ∨ high' ≤ e
  c : cnt E low' + cnt E high' < cnt E low + cnt E high
structure Nxt (E : List Rat) (z e : Rat) : Prop where
  m : e ∈ E
  l : z < e
  n : ∀ x ∈ E, x ≤ z ∨ e ≤ x
section
variable {E : List Rat} {r : List (Int × Int)} {H h0 low high after behind : Rat} (hr : RowsOk 8 r) (hE : Ends E r) (hH : HalfAt r H h0) (K : Kn r H h0 low high) (A : Nxt E high after)
include hr hE hH K A
variable (B : Nxt E low behind)
include B
end
end Dn
namespace Dn
open PySem PySem.Spec PyProof.Rows L2
def adj (P : List Rat) : List (Rat × Rat) := P.zip P.tail
theorem adj_cons (a b : Rat) (P : List Rat) : adj (a :: b :: P) = (a, b) :: adj (b :: P) := rfl
theorem adj_in : ∀ {P : List Rat}, Ris P → ∀ ab ∈ adj P, ab.1 ∈ P ∧ ab.2 ∈ P ∧ ab.1 < ab.2 ∧ ∀ u ∈ P, u ≤ ab.1 ∨ ab.2 ≤ u
  | [], _, ab, h => by simp [adj] at h
  | [a], _, ab, h => by simp [adj] at h
  | a :: b :: P, h, ab, m => by
    rw [adj_cons] at m
    unfold Ris at h
    have hh := List.pairwise_cons.mp h
    have hab := hh.1 b (List.mem_cons_self ..)
    rcases List.mem_cons.mp m with rfl | m
    · refine ⟨List.mem_cons_self .., by simp, hab, fun u hu => ?_⟩
      rcases List.mem_cons.mp hu with rfl | hu
      · exact .inl Rat.le_refl
      · rcases List.mem_cons.mp hu with rfl | hu
        · exact .inr Rat.le_refl
        · have := (List.pairwise_cons.mp hh.2).1 u hu
          exact .inr (Rat.le_of_lt this)
    · obtain ⟨h1, h2, h3, h4⟩ := adj_in (P := b :: P) hh.2 ab m
      refine ⟨List.mem_cons_of_mem _ h1, List.mem_cons_of_mem _ h2, h3, fun u hu => ?_⟩
      rcases List.mem_cons.mp hu with rfl | hu
      · have := hh.1 ab.1 h1
        exact .inl (Rat.le_of_lt this)
      · exact h4 u hu
def swStep (p : Rat → Rat → Bool) (F : List (Rat × Rat)) (ab : Rat × Rat) : List (Rat × Rat) :=
  if p ab.1 ab.2 = true then (match F.getLast? with | some l => if l.2 = ab.1 then F.dropLast ++ [(l.1, ab.2)] else F ++ [ab] | none => F ++ [ab]) else F
def sw (p : Rat → Rat → Bool) (P : List Rat) : List (Rat × Rat) := (adj P).foldl (swStep p) []
section
variable {f : Int → Rat} (hf : ∀ a b, a < b ↔ f a < f b)
abbrev f2 (f : Int → Rat) (s : Int × Int) : Rat × Rat := (f s.1, f s.2)
include hf
end
structure Lp (lp : (D → En → SR) → List D → En → SR) (st : Sto) : Prop where
  nil : ∀ b e, lp b [] ⟨e, st⟩ = .nx ⟨e, st⟩
  cons : ∀ b x xs e, lp b (x :: xs) ⟨e, st⟩ = match b x ⟨e, st⟩ with
    | .nx E' => lp b xs E'
    | .ct E' => lp b xs E'
    | .bk E' => .nx E'
    | r => r
end Dn
namespace Dn
open PySem PySem.Spec PyProof.Rows L2 TL
theorem pur_dPair (p : Rat × Rat) : pur (dPair p) = true := by simp [dPair, dF, pur, purL]
theorem dep_dPair (p : Rat × Rat) : dep (dPair p) ≤ 2 := by simp [dPair, dF, dep, depL]
theorem dPair_inj (a b : Rat × Rat) (h : dPair a = dPair b) : a = b := by
  simp only [dPair, D.tup.injEq, List.cons.injEq, and_true] at h
  exact Prod.ext (dF_inj.mp h.1) (dF_inj.mp h.2)
@[simp] theorem eq_pairs {l m : List (Rat × Rat)} {st : Sto} : oEq (.lst (l.map dPair)) (.lst (m.map dPair)) st = .val .P (.bl (decide (l = m))) st :=
  eq_lst pur_dPair (fun p => Nat.le_trans (dep_dPair p) (by decide)) dPair_inj l m st
@[simp] theorem ne_pairs {l m : List (Rat × Rat)} {st : Sto} : oNe (.lst (l.map dPair)) (.lst (m.map dPair)) st = .val .P (.bl (!decide (l = m))) st := ne_of_eq eq_pairs
theorem eq_self {d : D} (hp : pur d = true) (hd : dep d ≤ 64) (st : Sto) : oEq d d st = .val .P (.bl true) st := by
  have := eq_of st hp hp hd hd (p := True) (by simp)
  simpa using this
end Dn
namespace Dn
end Dn
namespace Dn
open PySem PySem.Spec PyProof.Rows L2
def Ov (D : Int) (q : Rat) : Prop := ∃ n : Int, q * (D : Rat) = (n : Rat)
theorem Ov.zero (D : Int) : Ov D 0 := ⟨0, by simp⟩
theorem Ov.one (D : Int) : Ov D 1 := ⟨D, by simp [Rat.one_mul]⟩
theorem Ov.add {D : Int} {a b : Rat} (h : Ov D a) (k : Ov D b) : Ov D (a + b) := by
  obtain ⟨m, h⟩ := h
  obtain ⟨n, k⟩ := k
  exact ⟨m + n, by rw [Rat.add_mul, h, k, Rat.intCast_add]⟩
theorem Ov.sub {D : Int} {a b : Rat} (h : Ov D a) (k : Ov D b) : Ov D (a - b) := by
  obtain ⟨m, h⟩ := h
  obtain ⟨n, k⟩ := k
  exact ⟨m - n, by rw [Rat.intCast_sub, ← h, ← k]; grind⟩
theorem Ov.mul {D E : Int} {a : Rat} (h : Ov D a) : Ov (D * E) a := by
  obtain ⟨m, h⟩ := h
  exact ⟨m * E, by rw [Rat.intCast_mul, Rat.intCast_mul, ← h]; grind⟩
theorem Ov.mulL {D E : Int} {a : Rat} (h : Ov D a) : Ov (E * D) a := by rw [Int.mul_comm]; exact h.mul
theorem Ov.int {D : Int} {a : Rat} (n : Int) (h : Ov D a) : Ov D ((n : Rat) * a) := by
  obtain ⟨m, h⟩ := h
  exact ⟨n * m, by rw [Rat.intCast_mul, ← h]; grind⟩
theorem Ov.qf {D : Int} (hD : 0 < D) (a : Int) : Ov D (Rat.divInt a D) := ⟨a, by
  rw [Rat.divInt_eq_div]
  exact Rat.div_mul_cancel (by have := (Rat.intCast_pos (a := D)).mpr hD; grind)⟩
theorem Ov.sz {D : Int} {q : Rat} {a b : Nat} (h : Ov D q) (hD : 0 < D) (h2 : D.natAbs < 2 ^ a) (q0 : 0 ≤ q) (q1 : q ≤ ((2 ^ b : Int) : Rat)) : Sz (a + b) q := by
  obtain ⟨n, h⟩ := h
  have hd := (Rat.intCast_pos (a := D)).mpr hD
  have e : q = Rat.divInt n D := by
    rw [Rat.divInt_eq_div, ← h, Rat.div_def, Rat.mul_assoc, Rat.mul_inv_cancel _ (by grind), Rat.mul_one]
  rw [e]
  have n0 : 0 ≤ n := by
    have : (0 : Rat) ≤ (n : Rat) := by rw [← h]; exact Rat.mul_nonneg q0 (Rat.le_of_lt hd)
    exact Rat.intCast_nonneg.mp this
  have n1 : n ≤ 2 ^ b * D := by
    have : (n : Rat) ≤ ((2 ^ b * D : Int) : Rat) := by
      rw [← h, Rat.intCast_mul]
      exact Rat.mul_le_mul_of_nonneg_right q1 (Rat.le_of_lt hd)
    exact Rat.intCast_le_intCast.mp this
  have n2 : n.natAbs < 2 ^ (a + b) := by
    have h3 : n.natAbs ≤ 2 ^ b * D.natAbs := by
      have : (n.natAbs : Int) ≤ ((2 ^ b * D.natAbs : Nat) : Int) := by
        rw [Int.natAbs_of_nonneg n0, Int.natCast_mul, Int.natAbs_of_nonneg (by omega)]
        simpa using n1
      exact Int.ofNat_le.mp this
    have h4 : 2 ^ b * D.natAbs < 2 ^ b * 2 ^ a := Nat.mul_lt_mul_of_pos_left h2 (Nat.two_pow_pos b)
    rw [Nat.pow_add, Nat.mul_comm (2 ^ a)]
    omega
  exact Sz.mk n2 (Nat.lt_of_lt_of_le h2 (Nat.pow_le_pow_right (by decide) (by omega))) (by omega)
def prodW (rows : List (Int × Int)) : Int := rows.foldr (fun r a => r.1 * a) 1
theorem prodW_pos : ∀ {rows : List (Int × Int)}, (∀ r ∈ rows, RowOk r) → 0 < prodW rows ∧ prodW rows ≤ 1000 ^ rows.length
  | [], _ => by simp [prodW]
  | r :: rows, h => by
    obtain ⟨h1, h2⟩ := prodW_pos (rows := rows) fun x m => h x (List.mem_cons_of_mem _ m)
    obtain ⟨a, b, _, _⟩ := h r (List.mem_cons_self ..)
    show 0 < r.1 * prodW rows ∧ r.1 * prodW rows ≤ _
    refine ⟨Int.mul_pos (by omega) h1, ?_⟩
    rw [List.length_cons, Int.pow_succ, Int.mul_comm]
    exact Int.mul_le_mul h2 (by omega) (by omega) (by omega)
theorem prodW_dvd : ∀ {rows : List (Int × Int)} {i : Nat} (h : i < rows.length), ∃ e, prodW rows = rows[i].1 * e
  | r :: rows, 0, _ => ⟨prodW rows, rfl⟩
  | r :: rows, i + 1, h => by
    obtain ⟨e, he⟩ := prodW_dvd (rows := rows) (i := i) (by simpa using h)
    exact ⟨r.1 * e, by show r.1 * prodW rows = _; rw [he]; simp only [List.getElem_cons_succ]; grind⟩
theorem bq_ov {rows : List (Int × Int)} (hr : RowsOk 8 rows) (i : Nat) : Ov (wid rows) (bq rows i) := Ov.qf (wid_pos hr) _
theorem wpart_ov {rows : List (Int × Int)} (hr : RowsOk 8 rows) {g : Int} {x y : Rat} (hx : Ov g x) (hy : Ov g y) {i : Nat} (h : i < rows.length) : Ov (g * prodW rows) (wpart x y rows i) := by
  unfold wpart
  split
  · have l1 : Ov (g * wid rows) (lo x rows i) := by
      unfold lo; split
      · exact (bq_ov hr i).mulL
      · exact hx.mul
    have l2 : Ov (g * wid rows) (hi y rows i) := by
      unfold hi; split
      · exact (bq_ov hr (i + 1)).mulL
      · exact hy.mul
    obtain ⟨n, hn⟩ := l2.sub l1
    obtain ⟨e, he⟩ := prodW_dvd h
    have hw := wid_pos hr
    have hwi := (hr.2.2.1 rows[i] (List.getElem_mem h)).1
    have w1 := (Rat.intCast_pos (a := wid rows)).mpr hw
    have w2 := (Rat.intCast_pos (a := rows[i].1)).mpr (by omega)
    have hb : bq rows (i + 1) - bq rows i = (rows[i].1 : Rat) / (wid rows : Rat) := by
      unfold bq
      rw [pre_succ h, Rat.divInt_eq_div, Rat.divInt_eq_div, Rat.intCast_add, Rat.div_def, Rat.div_def, Rat.div_def]
      grind
    refine ⟨rows[i].2 * n * e, ?_⟩
    unfold wseg
    rw [vq_eq h, hb, he, Rat.intCast_mul, Rat.intCast_mul, Rat.intCast_mul, Rat.intCast_mul, ← hn, Rat.intCast_mul]
    rw [Rat.div_def, Rat.div_def, Rat.inv_mul_rev, Rat.inv_inv]
    have w3 : (rows[i].1 : Rat) * (rows[i].1 : Rat)⁻¹ = 1 := Rat.mul_inv_cancel _ (by grind)
    grind
  · exact Ov.zero _
theorem wq_ov {rows : List (Int × Int)} (hr : RowsOk 8 rows) {g : Int} {x y : Rat} (hx : Ov g x) (hy : Ov g y) : Ov (g * prodW rows) (wq x y rows) := by
  unfold wq
  have : ∀ k, k ≤ rows.length → Ov (g * prodW rows) (sumR (wpart x y rows) k) := by
    intro k
    induction k with
    | zero => intro _; exact Ov.zero _
    | succ k ih => intro h; exact (ih (by omega)).add (wpart_ov hr hx hy (by omega))
  exact this _ (Nat.le_refl _)
theorem wq_le {rows : List (Int × Int)} (hr : RowsOk 8 rows) {x y : Rat} (h0 : 0 ≤ x) (h1 : x ≤ y) (h2 : y ≤ 1) : wq x y rows ≤ wq 0 1 rows := by
  have a := wq_add hr h0 (show x ≤ 1 by grind)
  have b := wq_add hr h1 h2
  have c := wq_nonneg hr 0 x
  have d := wq_nonneg hr y 1
  grind
theorem sumv_le : ∀ {rows : List (Int × Int)}, (∀ r ∈ rows, RowOk r) → (rows.map (·.2)).sum ≤ 1000000000 * rows.length
  | [], _ => by simp
  | r :: rows, h => by
    have h1 := sumv_le (rows := rows) fun x m => h x (List.mem_cons_of_mem _ m)
    obtain ⟨_, _, _, b⟩ := h r (List.mem_cons_self ..)
    simp only [List.map_cons, List.sum_cons, List.length_cons]
    omega
theorem tot_le {rows : List (Int × Int)} (hr : RowsOk 8 rows) : wq 0 1 rows ≤ ((2 ^ 33 : Int) : Rat) := by
  rw [wq_all hr]
  refine Rat.intCast_le_intCast.mpr ?_
  have := sumv_le hr.2.2.1
  have := hr.2.1
  omega
def Gd (g : Int) (p : Rat × Rat) : Prop := Ov g p.1 ∧ Ov g p.2 ∧ 0 ≤ p.1 ∧ p.1 ≤ p.2 ∧ p.2 ≤ 1
theorem Gd.sz {g : Int} {p : Rat × Rat} {a : Nat} (h : Gd g p) (hg : 0 < g) (h2 : g.natAbs < 2 ^ a) : Sz a p.1 ∧ Sz a p.2 := by
  obtain ⟨h1, h3, h4, h5, h6⟩ := h
  exact ⟨h1.sz (b := 0) hg h2 h4 (by simp; grind), h3.sz (b := 0) hg h2 (by grind) (by simpa using h6)⟩
theorem ins_len (q : Rat) (l : List Rat) : (ins q l).length ≤ l.length + 1 := by
  have := ahead_le q l
  unfold ins
  split <;> simp <;> omega
theorem ins_sz {s : Nat} {q : Rat} {l : List Rat} (hl : ∀ a ∈ l, Sz s a) (hq : Sz s q) : ∀ a ∈ ins q l, Sz s a := by
  intro a m
  rcases mem_ins.mp m with rfl | m
  · exact hq
  · exact hl a m
theorem insAll_len : ∀ (qs l : List Rat), (insAll l qs).length ≤ l.length + qs.length
  | [], l => by simp [insAll]
  | q :: qs, l => by
    have := insAll_len qs (ins q l)
    have := ins_len q l
    simp only [insAll, List.length_cons]; omega
end Dn
namespace Dn
open PySem PySem.Spec PyProof.Rows L2
def Add (μ : Rat → Rat → Rat) : Prop := ∀ x z y, x ≤ z → z ≤ y → μ x z + μ z y = μ x y
def smr (μ : Rat → Rat → Rat) (f : Rat → Rat → Bool) (A : List (Rat × Rat)) : Rat := A.foldr (fun p a => (if f p.1 p.2 = true then μ p.1 p.2 else 0) + a) 0
theorem smr_cons (μ : Rat → Rat → Rat) (f : Rat → Rat → Bool) (p : Rat × Rat) (A : List (Rat × Rat)) : smr μ f (p :: A) = (if f p.1 p.2 = true then μ p.1 p.2 else 0) + smr μ f A := rfl
theorem Add.nil {μ : Rat → Rat → Rat} (h : Add μ) (x : Rat) : μ x x = 0 := by
  have := h x x x Rat.le_refl Rat.le_refl
  grind
theorem smr_none {μ : Rat → Rat → Rat} {f : Rat → Rat → Bool} : ∀ {A : List (Rat × Rat)}, (∀ p ∈ A, f p.1 p.2 = false) → smr μ f A = 0
  | [], _ => rfl
  | p :: A, h => by
    rw [smr_cons, h p (List.mem_cons_self ..), smr_none fun q m => h q (List.mem_cons_of_mem _ m)]
    simp [Rat.add_zero]
def hold (u v a b : Rat) : Bool := !decide (a < u) && !decide (v < b)
theorem ris_cons {a : Rat} {P : List Rat} (h : Ris (a :: P)) : Ris P ∧ ∀ b ∈ P, a < b := by
  unfold Ris at *
  exact ⟨(List.pairwise_cons.mp h).2, (List.pairwise_cons.mp h).1⟩
theorem one1 {μ : Rat → Rat → Rat} (hA : Add μ) {u v : Rat} : ∀ (P : List Rat) (a : Rat), Ris (a :: P) → u ≤ a → v ∈ a :: P → smr μ (hold u v) (adj (a :: P)) = μ a v
  | [], a, _, _, hv => by
    rw [List.mem_singleton.mp hv, hA.nil]; rfl
  | b :: P, a, hR, hu, hv => by
    obtain ⟨hR1, hlt⟩ := ris_cons hR
    have hab := hlt b (List.mem_cons_self ..)
    rw [adj_cons, smr_cons]
    by_cases c : v = a
    · subst c
      rw [hA.nil, smr_none]
      · have : hold u v v b = false := by simp [hold, hab]
        rw [this]; simp [Rat.add_zero]
      · intro p m
        obtain ⟨m1, m2, m3, m4⟩ := adj_in hR1 p m
        have h1 := hlt _ m2
        simp [hold, h1]
    · have hv' : v ∈ b :: P := (List.mem_cons.mp hv).resolve_left c
      have hbv : b ≤ v := by
        rcases List.mem_cons.mp hv' with e | e
        · rw [e]; exact Rat.le_refl
        · exact Rat.le_of_lt ((ris_cons hR1).2 v e)
      have ih := one1 hA P b hR1 (show u ≤ b by grind) hv'
      have hh : hold u v a b = true := by
        unfold hold
        rw [decide_eq_false (by grind), decide_eq_false (by grind)]; rfl
      rw [ih, hh]
      simp only [if_true]
      exact hA a b v (Rat.le_of_lt hab) hbv
end Dn
namespace Dn
open PySem PySem.Spec PyProof.Rows L2
abbrev S (l : List Nat) : Str := ⟨l.toArray⟩
@[simp] theorem tl_S (l : List Nat) : TL.tl (S l) = l := by simp [TL.tl]
@[simp] theorem S_cps (l : List Nat) : (S l).cps.toList = l := by simp
@[simp] theorem S_len (l : List Nat) : (S l).length = l.length := by simp [Str.length]
def segs : Nat → List Nat → List Nat → List (List Nat)
  | h, [], T => [T.drop h]
  | h, c :: cs, T => (T.drop h).take (c - h) :: segs c cs T
end Dn
namespace Dn
open PySem PySem.Spec PyProof.Rows L2
open TL (tl numL)
def sp (s : Nat) : List Nat → List (List Nat)
  | [] => [[]]
  | c :: l => if c = s then [] :: sp s l else match sp s l with
    | [] => [[c]]
    | h :: t => (c :: h) :: t
end Dn
namespace Dn
open PySem PySem.Spec PyProof.Rows L2
def sub_CrumbError : Nat → Option Bool
  | 0 => some true
  | 1 => some true
  | 2 => some true
  | 3 => some true
  | 4 => some true
  | 5 => some true
  | 6 => some true
  | _ => none
def sub_NoHands : Nat → Option Bool
  | 0 => some false
  | 1 => some false
  | 2 => some false
  | 3 => some false
  | 4 => some false
  | 5 => some true
  | 6 => some false
  | _ => none
def sub_TooMany : Nat → Option Bool
  | 0 => some false
  | 1 => some false
  | 2 => some false
  | 3 => some false
  | 4 => some false
  | 5 => some false
  | 6 => some true
  | _ => none
def sub_ValueError : Nat → Option Bool
  | 0 => some true
  | 1 => some true
  | 2 => some true
  | 3 => some true
  | 4 => some true
  | 5 => some true
  | 6 => some true
  | _ => none
def ix_bounds : Nat → Option Nat
  | 7 => some 1
  | _ => none
@[simp] theorem ix_bounds_7 : ix_bounds 7 = some 1 := rfl
def ix_kept : Nat → Option Nat
  | 7 => some 0
  | _ => none
@[simp] theorem ix_kept_7 : ix_kept 7 = some 0 := rfl
noncomputable def wc_divisor_1 : En → ER :=
  (dOp oGt (dVar 1) (dC (.int 0)))
noncomputable def wb_divisor_2 : En → SR :=
  (sPar 0 1 (aCons (dVar 1) (aCons (dOp oMod (dVar 0) (dVar 1)) aNil)))
noncomputable def g_divisor : En → SR :=
  (sSeq (sSetF 0 (dCB oAbs (aCons (dVar 0) aNil)))
  (sSeq (sSetF 1 (dCB oAbs (aCons (dVar 1) aNil)))
  (sSeq (sWhile wc_divisor_1 wb_divisor_2)
  (sRetV 0))))
noncomputable def F_divisor : List D → Sto → ER := fnD 2 2 g_divisor
noncomputable def g_is_less : En → SR :=
  (sRet (dOp oLt (dOp oMul (dOp oIx (dVar 0) (dC (.int 0))) (dOp oIx (dVar 1) (dC (.int 1)))) (dOp oMul (dOp oIx (dVar 1) (dC (.int 0))) (dOp oIx (dVar 0) (dC (.int 1))))))
noncomputable def F_is_less : List D → Sto → ER := fnD 2 2 g_is_less
noncomputable def g_piece_row : En → SR :=
  (sSeq (sSetF 4 (dOp oSub (dOp oIx (dVar 0) (dOp oAdd (dVar 1) (dC (.int 1)))) (dOp oIx (dVar 0) (dVar 1))))
  (sSeq (sSetF 5 (dOp oSub (dOp oIx (dVar 0) (dOp oAdd (dVar 2) (dC (.int 1)))) (dOp oIx (dVar 0) (dVar 2))))
  (sSeq (sIf (dOp oEq (dVar 3) (dC (.int 0))) (sRet (dTup (aCons (dOp oIx (dVar 0) (dVar 1)) (aCons (dVar 4) (aCons (dC (.int 0)) aNil))))) sSkip)
  (sSeq (sIf (dOp oEq (dVar 3) (dC (.int 1))) (sRet (dTup (aCons (dOp oSub (dOp oIx (dVar 0) (dVar 2)) (dOp oIx (dVar 0) (dVar 1))) (aCons (dUn oNeg (dVar 4)) (aCons (dVar 5) aNil))))) sSkip)
  (sRet (dTup (aCons (dOp oSub (dOp oIx (dVar 0) (dUn oNeg (dC (.int 1)))) (dOp oIx (dVar 0) (dVar 2))) (aCons (dC (.int 0)) (aCons (dUn oNeg (dVar 5)) aNil)))))))))
noncomputable def F_piece_row : List D → Sto → ER := fnD 4 6 g_piece_row
noncomputable def g_cell_corners : En → SR :=
  (sSeq (sIf (dOp oEq (dVar 0) (dVar 1)) (sRet (dLst (aCons (dTup (aCons (dC (.tup [(.int 0), (.int 1)])) (aCons (dC (.tup [(.int 0), (.int 1)])) aNil))) (aCons (dTup (aCons (dC (.tup [(.int 0), (.int 1)])) (aCons (dC (.tup [(.int 1), (.int 1)])) aNil))) (aCons (dTup (aCons (dC (.tup [(.int 1), (.int 1)])) (aCons (dC (.tup [(.int 1), (.int 1)])) aNil))) aNil))))) sSkip)
  (sRet (dLst (aCons (dTup (aCons (dC (.tup [(.int 0), (.int 1)])) (aCons (dC (.tup [(.int 0), (.int 1)])) aNil))) (aCons (dTup (aCons (dC (.tup [(.int 0), (.int 1)])) (aCons (dC (.tup [(.int 1), (.int 1)])) aNil))) (aCons (dTup (aCons (dC (.tup [(.int 1), (.int 1)])) (aCons (dC (.tup [(.int 1), (.int 1)])) aNil))) (aCons (dTup (aCons (dC (.tup [(.int 1), (.int 1)])) (aCons (dC (.tup [(.int 0), (.int 1)])) aNil))) aNil)))))))
noncomputable def F_cell_corners : List D → Sto → ER := fnD 2 2 g_cell_corners
noncomputable def g_may_hold : En → SR :=
  (sSeq (sAsg (tgT 3 (tgsCons (tgN 3) (tgsCons (tgN 4) (tgsCons (tgN 5) tgsNil)))) (dVar 0))
  (sRet (dOr (dOp oGe (dCB oMax3 (aCons (dVar 3) (aCons (dOp oAdd (dVar 3) (dVar 5)) (aCons (dOp oAdd (dOp oAdd (dVar 3) (dVar 4)) (dVar 5)) aNil)))) (dC (.int 0))) (dAnd (dOp oLt (dVar 1) (dVar 2)) (dOp oGe (dOp oAdd (dVar 3) (dVar 4)) (dC (.int 0)))))))
noncomputable def F_may_hold : List D → Sto → ER := fnD 3 6 g_may_hold
noncomputable def g_is_stretch : En → SR :=
  (sRet (dAnd (dChain oLe oLe (dC (.int 1)) (dVar 0) (dC (.int 999))) (dChain oLe oLe (dC (.int 0)) (dVar 1) (dC (.int 999999999)))))
noncomputable def F_is_stretch : List D → Sto → ER := fnD 2 2 g_is_stretch
noncomputable def ce_Table_total_1 : En → ER :=
  (dVar 2)
theorem q_ce_Table_total_1 {e : En} : ce_Table_total_1 e = (dVar 2) e := rfl
noncomputable def g_Table_total : En → SR :=
  (sRet (dCB oSum (aCons (dLc (dIter (dFld ix_kept (dVar 0))) (tgT 2 (tgsCons (tgN 1) (tgsCons (tgN 2) tgsNil))) (fun E => .val .P (.bl true) E.st) ce_Table_total_1 [1, 2]) aNil)))
noncomputable def F_Table_total : List D → Sto → ER := fnD 1 3 g_Table_total
noncomputable def g_Table_ends : En → SR :=
  (sRet (dCB oList (aCons (dFld ix_bounds (dVar 0)) aNil)))
noncomputable def F_Table_ends : List D → Sto → ER := fnD 1 1 g_Table_ends
noncomputable def g_Table___len__ : En → SR :=
  (sRet (dCB oLen (aCons (dFld ix_kept (dVar 0)) aNil)))
noncomputable def F_Table___len__ : List D → Sto → ER := fnD 1 1 g_Table___len__
noncomputable def g_law_mixed : En → SR :=
  (sSeq (sSetF 3 (dOp oMod (dOp oPow (dOp oAdd (dOp oAdd (dOp oMod (dVar 0) (dC (.int 2147483647))) (dOp oMul (dC (.int 40503)) (dVar 1))) (dC (.int 17))) (dC (.int 5))) (dC (.int 2147483647))))
  (sRet (dOp oMod (dOp oMod (dOp oMul (dOp oMod (dOp oMul (dVar 3) (dOp oAdd (dC (.int 48271)) (dVar 1))) (dC (.int 999999937))) (dC (.int 39373))) (dC (.int 2147483629))) (dVar 2))))
noncomputable def F_law_mixed : List D → Sto → ER := fnD 3 4 g_law_mixed
noncomputable def wc_law_divisor_1 : En → ER :=
  (dOp oNe (dVar 1) (dC (.int 0)))
theorem q_wc_law_divisor_1 {e : En} : wc_law_divisor_1 e = (dOp oNe (dVar 1) (dC (.int 0))) e := rfl
noncomputable def wb_law_divisor_2 : En → SR :=
  (sPar 0 1 (aCons (dVar 1) (aCons (dOp oMod (dVar 0) (dVar 1)) aNil)))
theorem q_wb_law_divisor_2 {e : En} : wb_law_divisor_2 e = (sPar 0 1 (aCons (dVar 1) (aCons (dOp oMod (dVar 0) (dVar 1)) aNil))) e := rfl
noncomputable def g_law_divisor : En → SR :=
  (sSeq (sWhile wc_law_divisor_1 wb_law_divisor_2)
  (sRetV 0))
noncomputable def F_law_divisor : List D → Sto → ER := fnD 2 2 g_law_divisor
noncomputable def g_law_whole : En → SR :=
  (sRet (dAnd (dIsi "int" (dVar 0)) (dNot (dIsi "bool" (dVar 0)))))
noncomputable def F_law_whole : List D → Sto → ER := fnD 1 1 g_law_whole
noncomputable def ce_law_worth_1 : En → ER :=
  (dVar 8)
theorem q_ce_law_worth_1 {e : En} : ce_law_worth_1 e = (dVar 8) e := rfl
noncomputable def fb_law_worth_2 : En → SR :=
  (sSeq (sSetF 10 (dCB oMax2 (aCons (dOp oMul (dVar 7) (dVar 4)) (aCons (dOp oMul (dOp oMul (dOp oIx (dVar 1) (dC (.int 0))) (dOp oIx (dVar 2) (dC (.int 1)))) (dVar 3)) aNil))))
  (sSeq (sSetF 11 (dCB oMin2 (aCons (dOp oMul (dOp oAdd (dVar 7) (dVar 8)) (dVar 4)) (aCons (dOp oMul (dOp oMul (dOp oIx (dVar 2) (dC (.int 0))) (dOp oIx (dVar 1) (dC (.int 1)))) (dVar 3)) aNil))))
  (sSeq (sSetF 5 (dOp oAdd (dOp oMul (dVar 5) (dVar 8)) (dOp oMul (dOp oMul (dVar 9) (dCB oMax2 (aCons (dC (.int 0)) (aCons (dOp oSub (dVar 11) (dVar 10)) aNil)))) (dVar 6))))
  (sSeq (sSetF 6 (dOp oMul (dVar 6) (dVar 8)))
  (sSetF 7 (dOp oAdd (dVar 7) (dVar 8)))))))
theorem q_fb_law_worth_2 {e : En} : fb_law_worth_2 e = (sSeq (sSetF 10 (dCB oMax2 (aCons (dOp oMul (dVar 7) (dVar 4)) (aCons (dOp oMul (dOp oMul (dOp oIx (dVar 1) (dC (.int 0))) (dOp oIx (dVar 2) (dC (.int 1)))) (dVar 3)) aNil))))
  (sSeq (sSetF 11 (dCB oMin2 (aCons (dOp oMul (dOp oAdd (dVar 7) (dVar 8)) (dVar 4)) (aCons (dOp oMul (dOp oMul (dOp oIx (dVar 2) (dC (.int 0))) (dOp oIx (dVar 1) (dC (.int 1)))) (dVar 3)) aNil))))
  (sSeq (sSetF 5 (dOp oAdd (dOp oMul (dVar 5) (dVar 8)) (dOp oMul (dOp oMul (dVar 9) (dCB oMax2 (aCons (dC (.int 0)) (aCons (dOp oSub (dVar 11) (dVar 10)) aNil)))) (dVar 6))))
  (sSeq (sSetF 6 (dOp oMul (dVar 6) (dVar 8)))
  (sSetF 7 (dOp oAdd (dVar 7) (dVar 8))))))) e := rfl
noncomputable def g_law_worth : En → SR :=
  (sSeq (sSetF 3 (dCB oSum (aCons (dLc (dIter (dVar 0)) (tgT 2 (tgsCons (tgN 8) (tgsCons (tgN 9) tgsNil))) (fun E => .val .P (.bl true) E.st) ce_law_worth_1 [8, 9]) aNil)))
  (sSeq (sSetF 4 (dOp oMul (dOp oIx (dVar 1) (dC (.int 1))) (dOp oIx (dVar 2) (dC (.int 1)))))
  (sSeq (sSetF 5 (dC (.int 0)))
  (sSeq (sSetF 6 (dC (.int 1)))
  (sSeq (sSetF 7 (dC (.int 0)))
  (sSeq (sFor (dIter (dVar 0)) (tgT 2 (tgsCons (tgN 8) (tgsCons (tgN 9) tgsNil))) fb_law_worth_2)
  (sRet (dTup (aCons (dVar 5) (aCons (dOp oMul (dVar 6) (dVar 4)) aNil))))))))))
noncomputable def F_law_worth : List D → Sto → ER := fnD 3 12 g_law_worth
noncomputable def g_law_less : En → SR :=
  (sRet (dOp oLt (dOp oMul (dOp oIx (dVar 0) (dC (.int 0))) (dOp oIx (dVar 1) (dC (.int 1)))) (dOp oMul (dOp oIx (dVar 1) (dC (.int 0))) (dOp oIx (dVar 0) (dC (.int 1))))))
noncomputable def F_law_less : List D → Sto → ER := fnD 2 2 g_law_less
noncomputable def g_fraction_of : En → SR :=
  (sSeq (sIf (dOp oEq (dVar 1) (dC (.int 0))) (sRaise 1) sSkip)
  (sSeq (sSetF 2 (dCall F_divisor (aCons (dVar 0) (aCons (dVar 1) aNil))))
  (sSeq (sIf (dOp oLt (dVar 1) (dC (.int 0))) (sSetF 2 (dUn oNeg (dVar 2))) sSkip)
  (sRet (dTup (aCons (dOp oDiv (dVar 0) (dVar 2)) (aCons (dOp oDiv (dVar 1) (dVar 2)) aNil)))))))
noncomputable def F_fraction_of : List D → Sto → ER := fnD 2 3 g_fraction_of
noncomputable def g_lesser : En → SR :=
  (sSeq (sIf (dCall F_is_less (aCons (dVar 1) (aCons (dVar 0) aNil))) (sRetV 1) sSkip)
  (sRetV 0))
noncomputable def F_lesser : List D → Sto → ER := fnD 2 2 g_lesser
noncomputable def g_greater : En → SR :=
  (sSeq (sIf (dCall F_is_less (aCons (dVar 0) (aCons (dVar 1) aNil))) (sRetV 1) sSkip)
  (sRetV 0))
noncomputable def F_greater : List D → Sto → ER := fnD 2 2 g_greater
noncomputable def wc_placed_1 : En → ER :=
  (dAnd (dOp oLt (dVar 2) (dCB oLen (aCons (dVar 0) aNil))) (dCall F_is_less (aCons (dOp oIx (dVar 0) (dVar 2)) (aCons (dVar 1) aNil))))
theorem q_wc_placed_1 {e : En} : wc_placed_1 e = (dAnd (dOp oLt (dVar 2) (dCB oLen (aCons (dVar 0) aNil))) (dCall F_is_less (aCons (dOp oIx (dVar 0) (dVar 2)) (aCons (dVar 1) aNil)))) e := rfl
noncomputable def wb_placed_2 : En → SR :=
  (sSetF 2 (dOp oAdd (dVar 2) (dC (.int 1))))
theorem q_wb_placed_2 {e : En} : wb_placed_2 e = (sSetF 2 (dOp oAdd (dVar 2) (dC (.int 1)))) e := rfl
noncomputable def g_placed : En → SR :=
  (sSeq (sSetF 2 (dC (.int 0)))
  (sSeq (sWhile wc_placed_1 wb_placed_2)
  (sSeq (sIf (dAnd (dOp oLt (dVar 2) (dCB oLen (aCons (dVar 0) aNil))) (dOp oEq (dOp oIx (dVar 0) (dVar 2)) (dVar 1))) (sRetV 0) sSkip)
  (sRet (dOp oAdd (dOp oAdd (dSl oSl (dVar 0) (fun _ => none) (fun e => some ((dVar 2) e))) (dLst (aCons (dVar 1) aNil))) (dSl oSl (dVar 0) (fun e => some ((dVar 2) e)) (fun _ => none)))))))
noncomputable def F_placed : List D → Sto → ER := fnD 2 3 g_placed
noncomputable def fb_wishes_1 : En → SR :=
  (sIf (dOp oNe (dVar 8) (dVar 5)) (sSeq (sSetF 9 (dCall F_piece_row (aCons (dOp oIx (dVar 0) (dVar 6)) (aCons (dVar 1) (aCons (dVar 2) (aCons (dVar 8) aNil))))))
  (sMt mAppend 4 (aCons (dTup (aCons (dOp oSub (dOp oIx (dVar 7) (dC (.int 0))) (dOp oIx (dVar 9) (dC (.int 0)))) (aCons (dOp oSub (dOp oIx (dVar 7) (dC (.int 1))) (dOp oIx (dVar 9) (dC (.int 1)))) (aCons (dOp oSub (dOp oIx (dVar 7) (dC (.int 2))) (dOp oIx (dVar 9) (dC (.int 2)))) aNil)))) aNil))) sSkip)
theorem q_fb_wishes_1 {e : En} : fb_wishes_1 e = (sIf (dOp oNe (dVar 8) (dVar 5)) (sSeq (sSetF 9 (dCall F_piece_row (aCons (dOp oIx (dVar 0) (dVar 6)) (aCons (dVar 1) (aCons (dVar 2) (aCons (dVar 8) aNil))))))
  (sMt mAppend 4 (aCons (dTup (aCons (dOp oSub (dOp oIx (dVar 7) (dC (.int 0))) (dOp oIx (dVar 9) (dC (.int 0)))) (aCons (dOp oSub (dOp oIx (dVar 7) (dC (.int 1))) (dOp oIx (dVar 9) (dC (.int 1)))) (aCons (dOp oSub (dOp oIx (dVar 7) (dC (.int 2))) (dOp oIx (dVar 9) (dC (.int 2)))) aNil)))) aNil))) sSkip) e := rfl
noncomputable def fb_wishes_2 : En → SR :=
  (sSeq (sSetF 7 (dCall F_piece_row (aCons (dOp oIx (dVar 0) (dVar 6)) (aCons (dVar 1) (aCons (dVar 2) (aCons (dVar 5) aNil))))))
  (sFor (dRng rng1 (aCons (dC (.int 3)) aNil)) (tgN 8) fb_wishes_1))
theorem q_fb_wishes_2 {e : En} : fb_wishes_2 e = (sSeq (sSetF 7 (dCall F_piece_row (aCons (dOp oIx (dVar 0) (dVar 6)) (aCons (dVar 1) (aCons (dVar 2) (aCons (dVar 5) aNil))))))
  (sFor (dRng rng1 (aCons (dC (.int 3)) aNil)) (tgN 8) fb_wishes_1)) e := rfl
noncomputable def g_wishes : En → SR :=
  (sSeq (sSet 4 (dLst aNil))
  (sSeq (sFor (dEnumT (aCons (dVar 3) aNil)) (tgT 2 (tgsCons (tgN 5) (tgsCons (tgN 6) tgsNil))) fb_wishes_2)
  (sRetV 4)))
noncomputable def F_wishes : List D → Sto → ER := fnD 4 10 g_wishes
noncomputable def g_ask_span : En → SR :=
  (sIf (dOr (dCall F_is_less (aCons (dVar 0) (aCons (dC (.tup [(.int 0), (.int 1)])) aNil))) (dOr (dCall F_is_less (aCons (dC (.tup [(.int 1), (.int 1)])) (aCons (dVar 1) aNil))) (dCall F_is_less (aCons (dVar 1) (aCons (dVar 0) aNil))))) (sRaise 3) sSkip)
noncomputable def F_ask_span : List D → Sto → ER := fnD 2 2 g_ask_span
noncomputable def g_law_take : En → SR :=
  (sSeq (sSetI 0 (dOp oAdd (dOp oIx (dVar 0) (dC (.int 3))) (dC (.int 1))) (dC (.int 3)))
  (sSeq (sSetF 2 (dC (.int 0)))
  (sSeq (sIf (dAnd (dOp oEq (dOp oIx (dVar 0) (dC (.int 2))) (dC (.int 0))) (dOp oLt (dOp oIx (dVar 0) (dC (.int 1))) (dCB oLen (aCons (dOp oIx (dVar 0) (dC (.int 0))) aNil)))) (sSeq (sSetF 2 (dOp oIx (dOp oIx (dVar 0) (dC (.int 0))) (dOp oIx (dVar 0) (dC (.int 1)))))
  (sSeq (sSetI 0 (dOp oAdd (dOp oIx (dVar 0) (dC (.int 1))) (dC (.int 1))) (dC (.int 1)))
  (sSeq (sIf (dOp oLt (dVar 2) (dOp oPow (dC (.int 10)) (dC (.int 18)))) (sRet (dCall F_law_mixed (aCons (dVar 2) (aCons (dOp oIx (dVar 0) (dC (.int 3))) (aCons (dVar 1) aNil))))) sSkip)
  (sSetI 0 (dVar 2) (dC (.int 2)))))) sSkip)
  (sSeq (sIf (dOp oGt (dOp oIx (dVar 0) (dC (.int 2))) (dC (.int 0))) (sSeq (sSetF 3 (dOp oMod (dOp oIx (dVar 0) (dC (.int 2))) (dVar 1)))
  (sSeq (sSetI 0 (dOp oDiv (dOp oIx (dVar 0) (dC (.int 2))) (dVar 1)) (dC (.int 2)))
  (sRetV 3))) sSkip)
  (sSeq (sIf (dOp oGt (dCB oLen (aCons (dOp oIx (dVar 0) (dC (.int 0))) aNil)) (dC (.int 0))) (sSetF 2 (dOp oIx (dOp oIx (dVar 0) (dC (.int 0))) (dOp oMod (dOp oIx (dVar 0) (dC (.int 3))) (dCB oLen (aCons (dOp oIx (dVar 0) (dC (.int 0))) aNil))))) sSkip)
  (sRet (dCall F_law_mixed (aCons (dVar 2) (aCons (dOp oIx (dVar 0) (dC (.int 3))) (aCons (dVar 1) aNil))))))))))
noncomputable def F_law_take : List D → Sto → ER := fnD 2 4 g_law_take
noncomputable def g_law_fraction : En → SR :=
  (sSeq (sIf (dOr (dNot (dIsi "tuple" (dVar 0))) (dOp oNe (dCB oLen (aCons (dVar 0) aNil)) (dC (.int 2)))) (sRet (dC (.bl false))) sSkip)
  (sSeq (sIf (dOr (dNot (dCall F_law_whole (aCons (dOp oIx (dVar 0) (dC (.int 0))) aNil))) (dOr (dNot (dCall F_law_whole (aCons (dOp oIx (dVar 0) (dC (.int 1))) aNil))) (dOp oLt (dOp oIx (dVar 0) (dC (.int 1))) (dC (.int 1))))) (sRet (dC (.bl false))) sSkip)
  (sRet (dOp oEq (dCall F_law_divisor (aCons (dCB oAbs (aCons (dOp oIx (dVar 0) (dC (.int 0))) aNil)) (aCons (dOp oIx (dVar 0) (dC (.int 1))) aNil))) (dC (.int 1))))))
noncomputable def F_law_fraction : List D → Sto → ER := fnD 1 1 g_law_fraction
noncomputable def ce_law_content_1 : En → ER :=
  (dCall F_law_worth (aCons (dOp oIx (dVar 1) (dVar 6)) (aCons (dVar 8) (aCons (dVar 9) aNil))))
theorem q_ce_law_content_1 {e : En} : ce_law_content_1 e = (dCall F_law_worth (aCons (dOp oIx (dVar 1) (dVar 6)) (aCons (dVar 8) (aCons (dVar 9) aNil)))) e := rfl
noncomputable def ce_law_content_2 : En → ER :=
  (dCall F_law_less (aCons (dOp oIx (dVar 7) (dVar 5)) (aCons (dVar 10) aNil)))
theorem q_ce_law_content_2 {e : En} : ce_law_content_2 e = (dCall F_law_less (aCons (dOp oIx (dVar 7) (dVar 5)) (aCons (dVar 10) aNil))) e := rfl
noncomputable def fb_law_content_3 : En → SR :=
  (sSeq (sSetF 7 (dLc (dZip (aCons (dVar 2) (aCons (dSl oSl (dVar 2) (fun e => some ((dC (.int 1)) e)) (fun _ => none)) aNil))) (tgT 2 (tgsCons (tgN 8) (tgsCons (tgN 9) tgsNil))) (fun E => .val .P (.bl true) E.st) ce_law_content_1 [8, 9]))
  (sIf (dCB oAny (aCons (dLc (dIter (dVar 7)) (tgN 10) (fun E => .val .P (.bl true) E.st) ce_law_content_2 [10]) aNil)) (sRet (dC (.bl false))) sSkip))
theorem q_fb_law_content_3 {e : En} : fb_law_content_3 e = (sSeq (sSetF 7 (dLc (dZip (aCons (dVar 2) (aCons (dSl oSl (dVar 2) (fun e => some ((dC (.int 1)) e)) (fun _ => none)) aNil))) (tgT 2 (tgsCons (tgN 8) (tgsCons (tgN 9) tgsNil))) (fun E => .val .P (.bl true) E.st) ce_law_content_1 [8, 9]))
  (sIf (dCB oAny (aCons (dLc (dIter (dVar 7)) (tgN 10) (fun E => .val .P (.bl true) E.st) ce_law_content_2 [10]) aNil)) (sRet (dC (.bl false))) sSkip)) e := rfl
noncomputable def g_law_content : En → SR :=
  (sSeq (sAsg (tgT 2 (tgsCons (tgN 3) (tgsCons (tgN 4) tgsNil))) (dVar 0))
  (sSeq (sSetF 2 (dOp oAdd (dOp oAdd (dLst (aCons (dTup (aCons (dC (.int 0)) (aCons (dC (.int 1)) aNil))) aNil)) (dVar 3)) (dLst (aCons (dTup (aCons (dC (.int 1)) (aCons (dC (.int 1)) aNil))) aNil))))
  (sSeq (sFor (dEnum (aCons (dVar 4) aNil)) (tgT 2 (tgsCons (tgN 5) (tgsCons (tgN 6) tgsNil))) fb_law_content_3)
  (sRet (dC (.bl true))))))
noncomputable def F_law_content : List D → Sto → ER := fnD 2 11 g_law_content
noncomputable def g_plus : En → SR :=
  (sRet (dCallG F_fraction_of 2 0 [0, 1] [(.int 1)] (aCons (dOp oAdd (dOp oMul (dOp oIx (dVar 0) (dC (.int 0))) (dOp oIx (dVar 1) (dC (.int 1)))) (dOp oMul (dOp oIx (dVar 1) (dC (.int 0))) (dOp oIx (dVar 0) (dC (.int 1))))) (aCons (dOp oMul (dOp oIx (dVar 0) (dC (.int 1))) (dOp oIx (dVar 1) (dC (.int 1)))) aNil)) aNil))
noncomputable def F_plus : List D → Sto → ER := fnD 2 2 g_plus
noncomputable def g_minus : En → SR :=
  (sRet (dCallG F_fraction_of 2 0 [0, 1] [(.int 1)] (aCons (dOp oSub (dOp oMul (dOp oIx (dVar 0) (dC (.int 0))) (dOp oIx (dVar 1) (dC (.int 1)))) (dOp oMul (dOp oIx (dVar 1) (dC (.int 0))) (dOp oIx (dVar 0) (dC (.int 1))))) (aCons (dOp oMul (dOp oIx (dVar 0) (dC (.int 1))) (dOp oIx (dVar 1) (dC (.int 1)))) aNil)) aNil))
noncomputable def F_minus : List D → Sto → ER := fnD 2 2 g_minus
noncomputable def g_times : En → SR :=
  (sRet (dCallG F_fraction_of 2 0 [0, 1] [(.int 1)] (aCons (dOp oMul (dOp oIx (dVar 0) (dC (.int 0))) (dOp oIx (dVar 1) (dC (.int 0)))) (aCons (dOp oMul (dOp oIx (dVar 0) (dC (.int 1))) (dOp oIx (dVar 1) (dC (.int 1)))) aNil)) aNil))
noncomputable def F_times : List D → Sto → ER := fnD 2 2 g_times
noncomputable def g_over : En → SR :=
  (sRet (dCallG F_fraction_of 2 0 [0, 1] [(.int 1)] (aCons (dOp oMul (dOp oIx (dVar 0) (dC (.int 0))) (dOp oIx (dVar 1) (dC (.int 1)))) (aCons (dOp oMul (dOp oIx (dVar 0) (dC (.int 1))) (dOp oIx (dVar 1) (dC (.int 0)))) aNil)) aNil))
noncomputable def F_over : List D → Sto → ER := fnD 2 2 g_over
noncomputable def fb_all_ends_1 : En → SR :=
  (sSetF 1 (dCall F_placed (aCons (dVar 1) (aCons (dVar 3) aNil))))
theorem q_fb_all_ends_1 {e : En} : fb_all_ends_1 e = (sSetF 1 (dCall F_placed (aCons (dVar 1) (aCons (dVar 3) aNil)))) e := rfl
noncomputable def fb_all_ends_2 : En → SR :=
  (sFor (dIter (dMeth 7 F_Table_ends 1 0 [0] [] (dVar 2) aNil aNil)) (tgN 3) fb_all_ends_1)
theorem q_fb_all_ends_2 {e : En} : fb_all_ends_2 e = (sFor (dIter (dMeth 7 F_Table_ends 1 0 [0] [] (dVar 2) aNil aNil)) (tgN 3) fb_all_ends_1) e := rfl
noncomputable def g_all_ends : En → SR :=
  (sSeq (sSetF 1 (dLst aNil))
  (sSeq (sFor (dIter (dVar 0)) (tgN 2) fb_all_ends_2)
  (sRetV 1)))
noncomputable def F_all_ends : List D → Sto → ER := fnD 1 4 g_all_ends
noncomputable def ce_bounds_of_1 : En → ER :=
  (dVar 4)
theorem q_ce_bounds_of_1 {e : En} : ce_bounds_of_1 e = (dVar 4) e := rfl
noncomputable def fb_bounds_of_2 : En → SR :=
  (sSeq (sSetF 3 (dOp oAdd (dVar 3) (dVar 4)))
  (sMt mAppend 2 (aCons (dCallG F_fraction_of 2 0 [0, 1] [(.int 1)] (aCons (dVar 3) (aCons (dVar 1) aNil)) aNil) aNil)))
theorem q_fb_bounds_of_2 {e : En} : fb_bounds_of_2 e = (sSeq (sSetF 3 (dOp oAdd (dVar 3) (dVar 4)))
  (sMt mAppend 2 (aCons (dCallG F_fraction_of 2 0 [0, 1] [(.int 1)] (aCons (dVar 3) (aCons (dVar 1) aNil)) aNil) aNil))) e := rfl
noncomputable def g_bounds_of : En → SR :=
  (sSeq (sSetF 1 (dCB oSum (aCons (dLc (dIter (dVar 0)) (tgT 2 (tgsCons (tgN 4) (tgsCons (tgN 5) tgsNil))) (fun E => .val .P (.bl true) E.st) ce_bounds_of_1 [4, 5]) aNil)))
  (sSeq (sSet 2 (dLst (aCons (dC (.tup [(.int 0), (.int 1)])) aNil)))
  (sSeq (sSetF 3 (dC (.int 0)))
  (sSeq (sFor (dIter (dVar 0)) (tgT 2 (tgsCons (tgN 4) (tgsCons (tgN 5) tgsNil))) fb_bounds_of_2)
  (sRetV 2)))))
noncomputable def F_bounds_of : List D → Sto → ER := fnD 1 6 g_bounds_of
noncomputable def fb_law_stretches_1 : En → SR :=
  (sSeq (sSetF 7 (dCall F_law_take (aCons (dVar 0) (aCons (dVar 4) aNil))))
  (sSeq (sIf (dOp oEq (dCall F_law_take (aCons (dVar 0) (aCons (dC (.int 3)) aNil))) (dC (.int 0))) (sSetF 7 (dC (.int 0))) sSkip)
  (sMt mAppend 5 (aCons (dTup (aCons (dOp oAdd (dC (.int 1)) (dCall F_law_take (aCons (dVar 0) (aCons (dVar 3) aNil)))) (aCons (dVar 7) aNil))) aNil))))
theorem q_fb_law_stretches_1 {e : En} : fb_law_stretches_1 e = (sSeq (sSetF 7 (dCall F_law_take (aCons (dVar 0) (aCons (dVar 4) aNil))))
  (sSeq (sIf (dOp oEq (dCall F_law_take (aCons (dVar 0) (aCons (dC (.int 3)) aNil))) (dC (.int 0))) (sSetF 7 (dC (.int 0))) sSkip)
  (sMt mAppend 5 (aCons (dTup (aCons (dOp oAdd (dC (.int 1)) (dCall F_law_take (aCons (dVar 0) (aCons (dVar 3) aNil)))) (aCons (dVar 7) aNil))) aNil)))) e := rfl
noncomputable def ce_law_stretches_2 : En → ER :=
  (dVar 7)
theorem q_ce_law_stretches_2 {e : En} : ce_law_stretches_2 e = (dVar 7) e := rfl
noncomputable def g_law_stretches : En → SR :=
  (sSeq (sSetF 2 (dOp oAdd (dC (.int 1)) (dCall F_law_take (aCons (dVar 0) (aCons (dVar 1) aNil)))))
  (sSeq (sSetF 3 (dOp oIx (dLst (aCons (dC (.int 1)) (aCons (dC (.int 9)) (aCons (dC (.int 999)) aNil)))) (dCall F_law_take (aCons (dVar 0) (aCons (dC (.int 3)) aNil)))))
  (sSeq (sSetF 4 (dOp oIx (dLst (aCons (dC (.int 2)) (aCons (dC (.int 5)) (aCons (dOp oPow (dC (.int 10)) (dC (.int 9))) (aCons (dOp oPow (dC (.int 10)) (dC (.int 9))) aNil))))) (dCall F_law_take (aCons (dVar 0) (aCons (dC (.int 4)) aNil)))))
  (sSeq (sSet 5 (dLst aNil))
  (sSeq (sFor (dRng rng1 (aCons (dVar 2) aNil)) (tgN 6) fb_law_stretches_1)
  (sSeq (sIf (dOp oEq (dCB oSum (aCons (dLc (dIterV 5) (tgT 2 (tgsCons (tgN 9) (tgsCons (tgN 7) tgsNil))) (fun E => .val .P (.bl true) E.st) ce_law_stretches_2 [9, 7]) aNil)) (dC (.int 0))) (sSeq (sSetF 8 (dCall F_law_take (aCons (dVar 0) (aCons (dVar 2) aNil))))
  (sSetI 5 (dTup (aCons (dOp oIx (dOp oIx (dVar 5) (dVar 8)) (dC (.int 0))) (aCons (dOp oAdd (dC (.int 1)) (dCall F_law_take (aCons (dVar 0) (aCons (dOp oSub (dOp oPow (dC (.int 10)) (dC (.int 9))) (dC (.int 1))) aNil)))) aNil))) (dVar 8))) sSkip)
  (sRetV 5)))))))
noncomputable def F_law_stretches : List D → Sto → ER := fnD 2 10 g_law_stretches
noncomputable def g_law_place : En → SR :=
  (sRet (dAnd (dCall F_law_fraction (aCons (dVar 0) aNil)) (dChain oLe oLe (dC (.int 0)) (dOp oIx (dVar 0) (dC (.int 0))) (dOp oIx (dVar 0) (dC (.int 1))))))
noncomputable def F_law_place : List D → Sto → ER := fnD 1 1 g_law_place
noncomputable def g_value_at : En → SR :=
  (sRet (dCall F_plus (aCons (dTup (aCons (dOp oIx (dVar 0) (dC (.int 0))) (aCons (dC (.int 1)) aNil))) (aCons (dCall F_plus (aCons (dCall F_times (aCons (dTup (aCons (dOp oIx (dVar 0) (dC (.int 1))) (aCons (dC (.int 1)) aNil))) (aCons (dOp oIx (dVar 1) (dC (.int 0))) aNil))) (aCons (dCall F_times (aCons (dTup (aCons (dOp oIx (dVar 0) (dC (.int 2))) (aCons (dC (.int 1)) aNil))) (aCons (dOp oIx (dVar 1) (dC (.int 1))) aNil))) aNil))) aNil))))
noncomputable def F_value_at : List D → Sto → ER := fnD 2 2 g_value_at
noncomputable def g_crossing : En → SR :=
  (sSeq (sSetF 4 (dCall F_over (aCons (dVar 2) (aCons (dCall F_minus (aCons (dVar 2) (aCons (dVar 3) aNil))) aNil))))
  (sSeq (sSetF 5 (dCall F_plus (aCons (dOp oIx (dVar 0) (dC (.int 0))) (aCons (dCall F_times (aCons (dCall F_minus (aCons (dOp oIx (dVar 1) (dC (.int 0))) (aCons (dOp oIx (dVar 0) (dC (.int 0))) aNil))) (aCons (dVar 4) aNil))) aNil))))
  (sRet (dTup (aCons (dVar 5) (aCons (dCall F_plus (aCons (dOp oIx (dVar 0) (dC (.int 1))) (aCons (dCall F_times (aCons (dCall F_minus (aCons (dOp oIx (dVar 1) (dC (.int 1))) (aCons (dOp oIx (dVar 0) (dC (.int 1))) aNil))) (aCons (dVar 4) aNil))) aNil))) aNil))))))
noncomputable def F_crossing : List D → Sto → ER := fnD 4 6 g_crossing
noncomputable def g_place_in : En → SR :=
  (sRet (dCall F_plus (aCons (dOp oIx (dVar 0) (dVar 1)) (aCons (dCall F_times (aCons (dCall F_minus (aCons (dOp oIx (dVar 0) (dOp oAdd (dVar 1) (dC (.int 1)))) (aCons (dOp oIx (dVar 0) (dVar 1)) aNil))) (aCons (dVar 2) aNil))) aNil))))
noncomputable def F_place_in : List D → Sto → ER := fnD 3 3 g_place_in
noncomputable def fb_Table___init___1 : En → SR :=
  (sIf (dNot (dCall F_is_stretch (aCons (dVar 2) (aCons (dVar 3) aNil)))) (sRaise 2) sSkip)
theorem q_fb_Table___init___1 {e : En} : fb_Table___init___1 e = (sIf (dNot (dCall F_is_stretch (aCons (dVar 2) (aCons (dVar 3) aNil)))) (sRaise 2) sSkip) e := rfl
noncomputable def ce_Table___init___2 : En → ER :=
  (dVar 3)
theorem q_ce_Table___init___2 {e : En} : ce_Table___init___2 e = (dVar 3) e := rfl
noncomputable def ce_Table___init___3 : En → ER :=
  (dTup (aCons (dVar 2) (aCons (dVar 3) aNil)))
theorem q_ce_Table___init___3 {e : En} : ce_Table___init___3 e = (dTup (aCons (dVar 2) (aCons (dVar 3) aNil))) e := rfl
noncomputable def g_Table___init__ : En → SR :=
  (sSeq (sIf (dOr (dOp oLt (dCB oLen (aCons (dVar 1) aNil)) (dC (.int 1))) (dOp oGt (dCB oLen (aCons (dVar 1) aNil)) (dC (.int 8)))) (sRaise 2) sSkip)
  (sSeq (sFor (dIter (dVar 1)) (tgT 2 (tgsCons (tgN 2) (tgsCons (tgN 3) tgsNil))) fb_Table___init___1)
  (sSeq (sIf (dOp oEq (dCB oSum (aCons (dLc (dIter (dVar 1)) (tgT 2 (tgsCons (tgN 2) (tgsCons (tgN 3) tgsNil))) (fun E => .val .P (.bl true) E.st) ce_Table___init___2 [2, 3]) aNil)) (dC (.int 0))) (sRaise 2) sSkip)
  (sSeq (sFldS ix_kept (dVar 0) (dLc (dIter (dVar 1)) (tgT 2 (tgsCons (tgN 2) (tgsCons (tgN 3) tgsNil))) (fun E => .val .P (.bl true) E.st) ce_Table___init___3 [2, 3]))
  (sFldS ix_bounds (dVar 0) (dCall F_bounds_of (aCons (dFld ix_kept (dVar 0)) aNil)))))))
noncomputable def F_Table___init__ : List D → Sto → ER := fnD 2 4 g_Table___init__
noncomputable def fb_Table_between_1 : En → SR :=
  (sSeq (sSetF 5 (dCall F_greater (aCons (dVar 1) (aCons (dOp oIx (dFld ix_bounds (dVar 0)) (dVar 4)) aNil))))
  (sSeq (sSetF 6 (dCall F_lesser (aCons (dVar 2) (aCons (dOp oIx (dFld ix_bounds (dVar 0)) (dOp oAdd (dVar 4) (dC (.int 1)))) aNil))))
  (sIf (dCall F_is_less (aCons (dVar 5) (aCons (dVar 6) aNil))) (sSeq (sSetF 9 (dCall F_minus (aCons (dOp oIx (dFld ix_bounds (dVar 0)) (dOp oAdd (dVar 4) (dC (.int 1)))) (aCons (dOp oIx (dFld ix_bounds (dVar 0)) (dVar 4)) aNil))))
  (sMt mAppend 3 (aCons (dTup (aCons (dVar 5) (aCons (dVar 6) (aCons (dCall F_times (aCons (dTup (aCons (dVar 8) (aCons (dC (.int 1)) aNil))) (aCons (dCall F_over (aCons (dCall F_minus (aCons (dVar 6) (aCons (dVar 5) aNil))) (aCons (dVar 9) aNil))) aNil))) aNil)))) aNil))) sSkip)))
theorem q_fb_Table_between_1 {e : En} : fb_Table_between_1 e = (sSeq (sSetF 5 (dCall F_greater (aCons (dVar 1) (aCons (dOp oIx (dFld ix_bounds (dVar 0)) (dVar 4)) aNil))))
  (sSeq (sSetF 6 (dCall F_lesser (aCons (dVar 2) (aCons (dOp oIx (dFld ix_bounds (dVar 0)) (dOp oAdd (dVar 4) (dC (.int 1)))) aNil))))
  (sIf (dCall F_is_less (aCons (dVar 5) (aCons (dVar 6) aNil))) (sSeq (sSetF 9 (dCall F_minus (aCons (dOp oIx (dFld ix_bounds (dVar 0)) (dOp oAdd (dVar 4) (dC (.int 1)))) (aCons (dOp oIx (dFld ix_bounds (dVar 0)) (dVar 4)) aNil))))
  (sMt mAppend 3 (aCons (dTup (aCons (dVar 5) (aCons (dVar 6) (aCons (dCall F_times (aCons (dTup (aCons (dVar 8) (aCons (dC (.int 1)) aNil))) (aCons (dCall F_over (aCons (dCall F_minus (aCons (dVar 6) (aCons (dVar 5) aNil))) (aCons (dVar 9) aNil))) aNil))) aNil)))) aNil))) sSkip))) e := rfl
noncomputable def g_Table_between : En → SR :=
  (sSeq (sSet 3 (dLst aNil))
  (sSeq (sFor (dEnum (aCons (dFld ix_kept (dVar 0)) aNil)) (tgT 2 (tgsCons (tgN 4) (tgsCons (tgT 2 (tgsCons (tgN 7) (tgsCons (tgN 8) tgsNil))) tgsNil))) fb_Table_between_1)
  (sRetV 3)))
noncomputable def F_Table_between : List D → Sto → ER := fnD 3 10 g_Table_between
noncomputable def ce_law_paper_1 : En → ER :=
  (dCall F_law_place (aCons (dVar 7) aNil))
theorem q_ce_law_paper_1 {e : En} : ce_law_paper_1 e = (dCall F_law_place (aCons (dVar 7) aNil)) e := rfl
noncomputable def ce_law_paper_2 : En → ER :=
  (dCall F_law_whole (aCons (dVar 8) aNil))
theorem q_ce_law_paper_2 {e : En} : ce_law_paper_2 e = (dCall F_law_whole (aCons (dVar 8) aNil)) e := rfl
noncomputable def ce_law_paper_3 : En → ER :=
  (dCall F_law_less (aCons (dVar 5) (aCons (dVar 6) aNil)))
theorem q_ce_law_paper_3 {e : En} : ce_law_paper_3 e = (dCall F_law_less (aCons (dVar 5) (aCons (dVar 6) aNil))) e := rfl
noncomputable def g_law_paper : En → SR :=
  (sSeq (sIf (dOr (dNot (dIsi "tuple" (dVar 0))) (dOp oNe (dCB oLen (aCons (dVar 0) aNil)) (dC (.int 2)))) (sRet (dC (.bl false))) sSkip)
  (sSeq (sAsg (tgT 2 (tgsCons (tgN 3) (tgsCons (tgN 4) tgsNil))) (dVar 0))
  (sSeq (sIf (dOr (dNot (dIsi "list" (dVar 3))) (dOr (dNot (dIsi "list" (dVar 4))) (dOp oNe (dCB oLen (aCons (dVar 3) aNil)) (dOp oSub (dCB oLen (aCons (dVar 1) aNil)) (dC (.int 1)))))) (sRet (dC (.bl false))) sSkip)
  (sSeq (sIf (dOr (dNot (dCB oAll (aCons (dLc (dIter (dVar 3)) (tgN 7) (fun E => .val .P (.bl true) E.st) ce_law_paper_1 [7]) aNil))) (dNot (dCB oAll (aCons (dLc (dIter (dVar 4)) (tgN 8) (fun E => .val .P (.bl true) E.st) ce_law_paper_2 [8]) aNil)))) (sRet (dC (.bl false))) sSkip)
  (sSeq (sIf (dOp oNe (dCB oSortedX (aCons (dVar 4) aNil)) (dLr (dCB oLen (aCons (dVar 1) aNil)))) (sRet (dC (.bl false))) sSkip)
  (sSeq (sSetF 2 (dOp oAdd (dOp oAdd (dLst (aCons (dTup (aCons (dC (.int 0)) (aCons (dC (.int 1)) aNil))) aNil)) (dVar 3)) (dLst (aCons (dTup (aCons (dC (.int 1)) (aCons (dC (.int 1)) aNil))) aNil))))
  (sRet (dCB oAll (aCons (dLc (dZip (aCons (dVar 2) (aCons (dSl oSl (dVar 2) (fun e => some ((dC (.int 1)) e)) (fun _ => none)) aNil))) (tgT 2 (tgsCons (tgN 5) (tgsCons (tgN 6) tgsNil))) (fun E => .val .P (.bl true) E.st) ce_law_paper_3 [5, 6]) aNil)))))))))
noncomputable def F_law_paper : List D → Sto → ER := fnD 2 9 g_law_paper
noncomputable def g_law_long : En → SR :=
  (sSeq (sSetF 2 (dCall F_law_stretches (aCons (dVar 0) (aCons (dC (.int 4)) aNil))))
  (sSeq (sIf (dOp oEq (dVar 1) (dC (.int 1))) (sRetV 2) sSkip)
  (sRet (dSl oSl (dOp oAdd (dOp oAdd (dVar 2) (dVar 2)) (dOp oMul (dLst (aCons (dTup (aCons (dC (.int 1)) (aCons (dC (.int 0)) aNil))) aNil)) (dC (.int 5)))) (fun _ => none) (fun e => some ((dOp oAdd (dC (.int 5)) (dCall F_law_take (aCons (dVar 0) (aCons (dC (.int 4)) aNil)))) e))))))
noncomputable def F_law_long : List D → Sto → ER := fnD 2 3 g_law_long
noncomputable def ce_kept_side_1 : En → ER :=
  (dCall F_value_at (aCons (dVar 1) (aCons (dVar 5) aNil)))
theorem q_ce_kept_side_1 {e : En} : ce_kept_side_1 e = (dCall F_value_at (aCons (dVar 1) (aCons (dVar 5) aNil))) e := rfl
noncomputable def fb_kept_side_2 : En → SR :=
  (sSeq (sIf (dCall F_is_less (aCons (dCall F_times (aCons (dOp oIx (dVar 3) (dOp oSub (dVar 4) (dC (.int 1)))) (aCons (dOp oIx (dVar 3) (dVar 4)) aNil))) (aCons (dC (.tup [(.int 0), (.int 1)])) aNil))) (sMt mAppend 2 (aCons (dCall F_crossing (aCons (dOp oIx (dVar 0) (dOp oSub (dVar 4) (dC (.int 1)))) (aCons (dVar 5) (aCons (dOp oIx (dVar 3) (dOp oSub (dVar 4) (dC (.int 1)))) (aCons (dOp oIx (dVar 3) (dVar 4)) aNil))))) aNil)) sSkip)
  (sIf (dNot (dCall F_is_less (aCons (dOp oIx (dVar 3) (dVar 4)) (aCons (dC (.tup [(.int 0), (.int 1)])) aNil)))) (sMt mAppend 2 (aCons (dVar 5) aNil)) sSkip))
theorem q_fb_kept_side_2 {e : En} : fb_kept_side_2 e = (sSeq (sIf (dCall F_is_less (aCons (dCall F_times (aCons (dOp oIx (dVar 3) (dOp oSub (dVar 4) (dC (.int 1)))) (aCons (dOp oIx (dVar 3) (dVar 4)) aNil))) (aCons (dC (.tup [(.int 0), (.int 1)])) aNil))) (sMt mAppend 2 (aCons (dCall F_crossing (aCons (dOp oIx (dVar 0) (dOp oSub (dVar 4) (dC (.int 1)))) (aCons (dVar 5) (aCons (dOp oIx (dVar 3) (dOp oSub (dVar 4) (dC (.int 1)))) (aCons (dOp oIx (dVar 3) (dVar 4)) aNil))))) aNil)) sSkip)
  (sIf (dNot (dCall F_is_less (aCons (dOp oIx (dVar 3) (dVar 4)) (aCons (dC (.tup [(.int 0), (.int 1)])) aNil)))) (sMt mAppend 2 (aCons (dVar 5) aNil)) sSkip)) e := rfl
noncomputable def g_kept_side : En → SR :=
  (sSeq (sSet 2 (dLst aNil))
  (sSeq (sSetF 3 (dLc (dIter (dVar 0)) (tgN 5) (fun E => .val .P (.bl true) E.st) ce_kept_side_1 [5]))
  (sSeq (sFor (dEnum (aCons (dVar 0) aNil)) (tgT 2 (tgsCons (tgN 4) (tgsCons (tgN 5) tgsNil))) fb_kept_side_2)
  (sRetV 2))))
noncomputable def F_kept_side : List D → Sto → ER := fnD 2 6 g_kept_side
noncomputable def fb_Table_worth_1 : En → SR :=
  (sSetF 3 (dCall F_plus (aCons (dVar 3) (aCons (dVar 6) aNil))))
theorem q_fb_Table_worth_1 {e : En} : fb_Table_worth_1 e = (sSetF 3 (dCall F_plus (aCons (dVar 3) (aCons (dVar 6) aNil)))) e := rfl
noncomputable def g_Table_worth : En → SR :=
  (sSeq (sSetF 1 (dIf (dOp oIsN (dVar 1) (dC .non)) (dC (.tup [(.int 0), (.int 1)])) (dVar 1)))
  (sSeq (sSetF 2 (dIf (dOp oIsN (dVar 2) (dC .non)) (dC (.tup [(.int 1), (.int 1)])) (dVar 2)))
  (sSeq (sDrop (dCall F_ask_span (aCons (dVar 1) (aCons (dVar 2) aNil))))
  (sSeq (sSetF 3 (dTup (aCons (dC (.int 0)) (aCons (dC (.int 1)) aNil))))
  (sSeq (sFor (dIter (dMeth 7 F_Table_between 3 0 [0, 1, 2] [] (dVar 0) (aCons (dVar 1) (aCons (dVar 2) aNil)) aNil)) (tgT 3 (tgsCons (tgN 4) (tgsCons (tgN 5) (tgsCons (tgN 6) tgsNil)))) fb_Table_worth_1)
  (sRetV 3))))))
noncomputable def F_Table_worth : List D → Sto → ER := fnD 3 7 g_Table_worth
noncomputable def fb_Table_cut_1 : En → SR :=
  (sSeq (sIf (dNot (dCall F_is_less (aCons (dVar 6) (aCons (dVar 2) aNil)))) (sRet (dCall F_plus (aCons (dVar 4) (aCons (dCall F_times (aCons (dCall F_over (aCons (dVar 2) (aCons (dVar 6) aNil))) (aCons (dCall F_minus (aCons (dVar 5) (aCons (dVar 4) aNil))) aNil))) aNil)))) sSkip)
  (sSetF 2 (dCall F_minus (aCons (dVar 2) (aCons (dVar 6) aNil)))))
theorem q_fb_Table_cut_1 {e : En} : fb_Table_cut_1 e = (sSeq (sIf (dNot (dCall F_is_less (aCons (dVar 6) (aCons (dVar 2) aNil)))) (sRet (dCall F_plus (aCons (dVar 4) (aCons (dCall F_times (aCons (dCall F_over (aCons (dVar 2) (aCons (dVar 6) aNil))) (aCons (dCall F_minus (aCons (dVar 5) (aCons (dVar 4) aNil))) aNil))) aNil)))) sSkip)
  (sSetF 2 (dCall F_minus (aCons (dVar 2) (aCons (dVar 6) aNil))))) e := rfl
noncomputable def g_Table_cut : En → SR :=
  (sSeq (sSetF 3 (dIf (dOp oIsN (dVar 3) (dC .non)) (dC (.tup [(.int 1), (.int 1)])) (dVar 3)))
  (sSeq (sDrop (dCall F_ask_span (aCons (dVar 1) (aCons (dVar 3) aNil))))
  (sSeq (sIf (dCall F_is_less (aCons (dVar 2) (aCons (dTup (aCons (dC (.int 0)) (aCons (dC (.int 1)) aNil))) aNil))) (sRaise 4) sSkip)
  (sSeq (sIf (dOp oEq (dOp oIx (dVar 2) (dC (.int 0))) (dC (.int 0))) (sRetV 1) sSkip)
  (sSeq (sFor (dIter (dMeth 7 F_Table_between 3 0 [0, 1, 2] [] (dVar 0) (aCons (dVar 1) (aCons (dVar 3) aNil)) aNil)) (tgT 3 (tgsCons (tgN 4) (tgsCons (tgN 5) (tgsCons (tgN 6) tgsNil)))) fb_Table_cut_1)
  (sRet (dC .non)))))))
noncomputable def F_Table_cut : List D → Sto → ER := fnD 4 7 g_Table_cut
noncomputable def ce_sums_up_to_1 : En → ER :=
  (dMeth 7 F_Table_worth 3 0 [0, 1, 2] [.non, .non] (dVar 0) (aCons (dC (.tup [(.int 0), (.int 1)])) (aCons (dVar 6) aNil)) aNil)
theorem q_ce_sums_up_to_1 {e : En} : ce_sums_up_to_1 e = (dMeth 7 F_Table_worth 3 0 [0, 1, 2] [.non, .non] (dVar 0) (aCons (dC (.tup [(.int 0), (.int 1)])) (aCons (dVar 6) aNil)) aNil) e := rfl
noncomputable def fb_sums_up_to_2 : En → SR :=
  (sSetF 3 (dOp oMul (dVar 3) (dOp oDiv (dVar 5) (dCall F_divisor (aCons (dVar 3) (aCons (dVar 5) aNil))))))
theorem q_fb_sums_up_to_2 {e : En} : fb_sums_up_to_2 e = (sSetF 3 (dOp oMul (dVar 3) (dOp oDiv (dVar 5) (dCall F_divisor (aCons (dVar 3) (aCons (dVar 5) aNil)))))) e := rfl
noncomputable def ce_sums_up_to_3 : En → ER :=
  (dOp oMul (dVar 4) (dOp oDiv (dVar 3) (dVar 5)))
theorem q_ce_sums_up_to_3 {e : En} : ce_sums_up_to_3 e = (dOp oMul (dVar 4) (dOp oDiv (dVar 3) (dVar 5))) e := rfl
noncomputable def g_sums_up_to : En → SR :=
  (sSeq (sSetF 2 (dLc (dIter (dVar 1)) (tgN 6) (fun E => .val .P (.bl true) E.st) ce_sums_up_to_1 [6]))
  (sSeq (sSetF 3 (dC (.int 1)))
  (sSeq (sFor (dIter (dVar 2)) (tgT 2 (tgsCons (tgN 4) (tgsCons (tgN 5) tgsNil))) fb_sums_up_to_2)
  (sRet (dLc (dIter (dVar 2)) (tgT 2 (tgsCons (tgN 4) (tgsCons (tgN 5) tgsNil))) (fun E => .val .P (.bl true) E.st) ce_sums_up_to_3 [4, 5])))))
noncomputable def F_sums_up_to : List D → Sto → ER := fnD 2 7 g_sums_up_to
noncomputable def ce_corner_for_1 : En → ER :=
  (dCall F_may_hold (aCons (dVar 6) (aCons (dVar 1) (aCons (dVar 2) aNil))))
theorem q_ce_corner_for_1 {e : En} : ce_corner_for_1 e = (dCall F_may_hold (aCons (dVar 6) (aCons (dVar 1) (aCons (dVar 2) aNil)))) e := rfl
noncomputable def fb_corner_for_2 : En → SR :=
  (sSetF 5 (dCall F_kept_side (aCons (dVar 5) (aCons (dVar 6) aNil))))
theorem q_fb_corner_for_2 {e : En} : fb_corner_for_2 e = (sSetF 5 (dCall F_kept_side (aCons (dVar 5) (aCons (dVar 6) aNil)))) e := rfl
noncomputable def g_corner_for : En → SR :=
  (sSeq (sSetF 4 (dCall F_wishes (aCons (dVar 0) (aCons (dVar 1) (aCons (dVar 2) (aCons (dVar 3) aNil))))))
  (sSeq (sIf (dNot (dCB oAll (aCons (dLc (dIter (dVar 4)) (tgN 6) (fun E => .val .P (.bl true) E.st) ce_corner_for_1 [6]) aNil))) (sRet (dC .non)) sSkip)
  (sSeq (sSetF 5 (dCall F_cell_corners (aCons (dVar 1) (aCons (dVar 2) aNil))))
  (sSeq (sFor (dIter (dVar 4)) (tgN 6) fb_corner_for_2)
  (sSeq (sIf (dOp oEq (dCB oLen (aCons (dVar 5) aNil)) (dC (.int 0))) (sRet (dC .non)) sSkip)
  (sRet (dOp oIx (dVar 5) (dC (.int 0)))))))))
noncomputable def F_corner_for : List D → Sto → ER := fnD 4 7 g_corner_for
noncomputable def g_two_pieces : En → SR :=
  (sSeq (sSetF 2 (dMeth 7 F_Table_cut 3 0 [0, 1, 2, 3] [.non] (dVar 0) (aCons (dC (.tup [(.int 0), (.int 1)])) (aCons (dCallG F_fraction_of 2 0 [0, 1] [(.int 1)] (aCons (dMeth 7 F_Table_total 1 0 [0] [] (dVar 0) aNil aNil) (aCons (dC (.int 2)) aNil)) aNil) aNil)) aNil))
  (sSeq (sIf (dCall F_is_less (aCons (dMeth 7 F_Table_worth 3 0 [0, 1, 2] [.non, .non] (dVar 1) (aCons (dC (.tup [(.int 0), (.int 1)])) (aCons (dVar 2) aNil)) aNil) (aCons (dMeth 7 F_Table_worth 3 0 [0, 1, 2] [.non, .non] (dVar 1) (aCons (dVar 2) (aCons (dC (.tup [(.int 1), (.int 1)])) aNil)) aNil) aNil))) (sRet (dTup (aCons (dLst (aCons (dVar 2) aNil)) (aCons (dLst (aCons (dC (.int 0)) (aCons (dC (.int 1)) aNil))) aNil)))) sSkip)
  (sRet (dTup (aCons (dLst (aCons (dVar 2) aNil)) (aCons (dLst (aCons (dC (.int 1)) (aCons (dC (.int 0)) aNil))) aNil))))))
noncomputable def F_two_pieces : List D → Sto → ER := fnD 2 3 g_two_pieces
noncomputable def ce_three_pieces_1 : En → ER :=
  (dCall F_sums_up_to (aCons (dVar 5) (aCons (dVar 1) aNil)))
theorem q_ce_three_pieces_1 {e : En} : ce_three_pieces_1 e = (dCall F_sums_up_to (aCons (dVar 5) (aCons (dVar 1) aNil))) e := rfl
noncomputable def fb_three_pieces_2 : En → SR :=
  (sSeq (sSetF 7 (dCall F_corner_for (aCons (dVar 2) (aCons (dVar 3) (aCons (dVar 4) (aCons (dVar 6) aNil))))))
  (sIf (dOp oNotN (dVar 7) (dC .non)) (sRet (dTup (aCons (dLst (aCons (dCall F_place_in (aCons (dVar 1) (aCons (dVar 3) (aCons (dOp oIx (dVar 7) (dC (.int 0))) aNil)))) (aCons (dCall F_place_in (aCons (dVar 1) (aCons (dVar 4) (aCons (dOp oIx (dVar 7) (dC (.int 1))) aNil)))) aNil))) (aCons (dCB oList (aCons (dVar 6) aNil)) aNil)))) sSkip))
theorem q_fb_three_pieces_2 {e : En} : fb_three_pieces_2 e = (sSeq (sSetF 7 (dCall F_corner_for (aCons (dVar 2) (aCons (dVar 3) (aCons (dVar 4) (aCons (dVar 6) aNil))))))
  (sIf (dOp oNotN (dVar 7) (dC .non)) (sRet (dTup (aCons (dLst (aCons (dCall F_place_in (aCons (dVar 1) (aCons (dVar 3) (aCons (dOp oIx (dVar 7) (dC (.int 0))) aNil)))) (aCons (dCall F_place_in (aCons (dVar 1) (aCons (dVar 4) (aCons (dOp oIx (dVar 7) (dC (.int 1))) aNil)))) aNil))) (aCons (dCB oList (aCons (dVar 6) aNil)) aNil)))) sSkip)) e := rfl
noncomputable def fb_three_pieces_3 : En → SR :=
  (sFor (dIter (dC (.tup [(.tup [(.int 0), (.int 1), (.int 2)]), (.tup [(.int 0), (.int 2), (.int 1)]), (.tup [(.int 1), (.int 0), (.int 2)]), (.tup [(.int 1), (.int 2), (.int 0)]), (.tup [(.int 2), (.int 0), (.int 1)]), (.tup [(.int 2), (.int 1), (.int 0)])]))) (tgN 6) fb_three_pieces_2)
theorem q_fb_three_pieces_3 {e : En} : fb_three_pieces_3 e = (sFor (dIter (dC (.tup [(.tup [(.int 0), (.int 1), (.int 2)]), (.tup [(.int 0), (.int 2), (.int 1)]), (.tup [(.int 1), (.int 0), (.int 2)]), (.tup [(.int 1), (.int 2), (.int 0)]), (.tup [(.int 2), (.int 0), (.int 1)]), (.tup [(.int 2), (.int 1), (.int 0)])]))) (tgN 6) fb_three_pieces_2) e := rfl
noncomputable def fb_three_pieces_4 : En → SR :=
  (sFor (dRng rng2 (aCons (dVar 3) (aCons (dOp oSub (dCB oLen (aCons (dVar 1) aNil)) (dC (.int 1))) aNil))) (tgN 4) fb_three_pieces_3)
theorem q_fb_three_pieces_4 {e : En} : fb_three_pieces_4 e = (sFor (dRng rng2 (aCons (dVar 3) (aCons (dOp oSub (dCB oLen (aCons (dVar 1) aNil)) (dC (.int 1))) aNil))) (tgN 4) fb_three_pieces_3) e := rfl
noncomputable def g_three_pieces : En → SR :=
  (sSeq (sSetF 1 (dCall F_all_ends (aCons (dVar 0) aNil)))
  (sSeq (sSetF 2 (dLc (dIter (dVar 0)) (tgN 5) (fun E => .val .P (.bl true) E.st) ce_three_pieces_1 [5]))
  (sSeq (sFor (dRng rng1 (aCons (dOp oSub (dCB oLen (aCons (dVar 1) aNil)) (dC (.int 1))) aNil)) (tgN 3) fb_three_pieces_4)
  (sRet (dTup (aCons (dLst aNil) (aCons (dLst aNil) aNil)))))))
noncomputable def F_three_pieces : List D → Sto → ER := fnD 1 8 g_three_pieces
noncomputable def ce_whole_pieces_1 : En → ER :=
  (dOp oGt (dLenX [(7, F_Table___len__)] (dVar 1)) (dC (.int 4)))
theorem q_ce_whole_pieces_1 {e : En} : ce_whole_pieces_1 e = (dOp oGt (dLenX [(7, F_Table___len__)] (dVar 1)) (dC (.int 4))) e := rfl
noncomputable def g_whole_pieces : En → SR :=
  (sSeq (sIf (dOr (dOp oLt (dCB oLen (aCons (dVar 0) aNil)) (dC (.int 2))) (dOp oGt (dCB oLen (aCons (dVar 0) aNil)) (dC (.int 3)))) (sRaise 5) sSkip)
  (sSeq (sIf (dOp oEq (dCB oLen (aCons (dVar 0) aNil)) (dC (.int 2))) (sRet (dCall F_two_pieces (aCons (dOp oIx (dVar 0) (dC (.int 0))) (aCons (dOp oIx (dVar 0) (dC (.int 1))) aNil)))) sSkip)
  (sSeq (sIf (dCB oAny (aCons (dLc (dIter (dVar 0)) (tgN 1) (fun E => .val .P (.bl true) E.st) ce_whole_pieces_1 [1]) aNil)) (sRaise 6) sSkip)
  (sRet (dCall F_three_pieces (aCons (dVar 0) aNil))))))
noncomputable def F_whole_pieces : List D → Sto → ER := fnD 1 2 g_whole_pieces
noncomputable def g_law_answer : En → SR :=
  (sSeq (sSetF 1 (dC .non))
  (sSeq (sSetF 2 (dC (.str "")))
  (sSeq (sTryM [(some 3, sub_NoHands, fun c l => (sSetF 2 (dLst (aCons (dC (.str "NoHands")) (aCons (dIsEN 3 l (sub_CrumbError c)) (aCons (dIsEN 3 l (sub_ValueError c)) (aCons (dIsEN 3 l (sub_TooMany c)) aNil))))))), (some 3, sub_TooMany, fun c l => (sSetF 2 (dLst (aCons (dC (.str "TooMany")) (aCons (dIsEN 3 l (sub_CrumbError c)) (aCons (dIsEN 3 l (sub_ValueError c)) (aCons (dIsEN 3 l (sub_NoHands c)) aNil)))))))] (sSetF 1 (dCall F_whole_pieces (aCons (dVar 0) aNil))))
  (sRet (dTup (aCons (dVar 1) (aCons (dVar 2) aNil)))))))
noncomputable def F_law_answer : List D → Sto → ER := fnD 1 4 g_law_answer
noncomputable def ce_law_well_1 : En → ER :=
  (dMake 7 F_Table___init__ 2 0 [0, 1] [] (aCons (dVar 4) aNil) aNil)
theorem q_ce_law_well_1 {e : En} : ce_law_well_1 e = (dMake 7 F_Table___init__ 2 0 [0, 1] [] (aCons (dVar 4) aNil) aNil) e := rfl
noncomputable def ce_law_well_2 : En → ER :=
  (dCB oLen (aCons (dVar 4) aNil))
theorem q_ce_law_well_2 {e : En} : ce_law_well_2 e = (dCB oLen (aCons (dVar 4) aNil)) e := rfl
noncomputable def g_law_well : En → SR :=
  (sSeq (sSetF 1 (dLc (dIter (dVar 0)) (tgN 4) (fun E => .val .P (.bl true) E.st) ce_law_well_1 [4]))
  (sSeq (sAsg (tgT 2 (tgsCons (tgN 2) (tgsCons (tgN 3) tgsNil))) (dCall F_law_answer (aCons (dVar 1) aNil)))
  (sSeq (sIf (dOr (dOp oLt (dCB oLen (aCons (dVar 0) aNil)) (dC (.int 2))) (dOp oGt (dCB oLen (aCons (dVar 0) aNil)) (dC (.int 3)))) (sRet (dOp oEq (dVar 3) (dLst (aCons (dC (.str "NoHands")) (aCons (dC (.bl true)) (aCons (dC (.bl true)) (aCons (dC (.bl false)) aNil))))))) sSkip)
  (sSeq (sIf (dAnd (dOp oEq (dCB oLen (aCons (dVar 0) aNil)) (dC (.int 3))) (dOp oGt (dCB oMaxL (aCons (dLc (dIter (dVar 0)) (tgN 4) (fun E => .val .P (.bl true) E.st) ce_law_well_2 [4]) aNil)) (dC (.int 4)))) (sRet (dOp oEq (dVar 3) (dLst (aCons (dC (.str "TooMany")) (aCons (dC (.bl true)) (aCons (dC (.bl true)) (aCons (dC (.bl false)) aNil))))))) sSkip)
  (sRet (dAnd (dOp oEq (dVar 3) (dC (.str ""))) (dAnd (dCall F_law_paper (aCons (dVar 2) (aCons (dVar 0) aNil))) (dCall F_law_content (aCons (dVar 2) (aCons (dVar 0) aNil))))))))))
noncomputable def F_law_well : List D → Sto → ER := fnD 1 5 g_law_well
noncomputable def ce_law_1 : En → ER :=
  (dCall F_law_long (aCons (dVar 1) (aCons (dCB oInt (aCons (dAnd (dOp oNe (dVar 5) (dVar 3)) (dOp oLt (dVar 3) (dC (.int 7)))) aNil)) aNil)))
theorem q_ce_law_1 {e : En} : ce_law_1 e = (dCall F_law_long (aCons (dVar 1) (aCons (dCB oInt (aCons (dAnd (dOp oNe (dVar 5) (dVar 3)) (dOp oLt (dVar 3) (dC (.int 7)))) aNil)) aNil))) e := rfl
noncomputable def k_law_5 : En → SR :=
  (sRet (dCall F_law_well (aCons (dSl oSl (dOp oAdd (dVar 4) (dLst (aCons (dLst (aCons (dTup (aCons (dC (.int 1)) (aCons (dC (.int 1)) aNil))) aNil)) (aCons (dLst (aCons (dTup (aCons (dC (.int 2)) (aCons (dC (.int 0)) aNil))) (aCons (dTup (aCons (dC (.int 1)) (aCons (dC (.int 3)) aNil))) aNil))) aNil)))) (fun _ => none) (fun e => some ((dC (.int 2)) e))) aNil)))
theorem q_k_law_5 {e : En} : k_law_5 e = (sRet (dCall F_law_well (aCons (dSl oSl (dOp oAdd (dVar 4) (dLst (aCons (dLst (aCons (dTup (aCons (dC (.int 1)) (aCons (dC (.int 1)) aNil))) aNil)) (aCons (dLst (aCons (dTup (aCons (dC (.int 2)) (aCons (dC (.int 0)) aNil))) (aCons (dTup (aCons (dC (.int 1)) (aCons (dC (.int 3)) aNil))) aNil))) aNil)))) (fun _ => none) (fun e => some ((dC (.int 2)) e))) aNil))) e := rfl
noncomputable def k_law_4 : En → SR :=
  (sSeq (sIf (dNot (dCall F_law_well (aCons (dVar 4) aNil))) (sRet (dC (.bl false))) sSkip)
  k_law_5)
theorem q_k_law_4 {e : En} : k_law_4 e = (sSeq (sIf (dNot (dCall F_law_well (aCons (dVar 4) aNil))) (sRet (dC (.bl false))) sSkip)
  k_law_5) e := rfl
noncomputable def k_law_3 : En → SR :=
  (sSeq (sSetF 4 (dLc (dRng rng1 (aCons (dVar 2) aNil)) (tgN 5) (fun E => .val .P (.bl true) E.st) ce_law_1 [5]))
  k_law_4)
theorem q_k_law_3 {e : En} : k_law_3 e = (sSeq (sSetF 4 (dLc (dRng rng1 (aCons (dVar 2) aNil)) (tgN 5) (fun E => .val .P (.bl true) E.st) ce_law_1 [5]))
  k_law_4) e := rfl
noncomputable def k_law_2 : En → SR :=
  (sSeq (sSetF 3 (dCall F_law_take (aCons (dVar 1) (aCons (dC (.int 8)) aNil))))
  k_law_3)
theorem q_k_law_2 {e : En} : k_law_2 e = (sSeq (sSetF 3 (dCall F_law_take (aCons (dVar 1) (aCons (dC (.int 8)) aNil))))
  k_law_3) e := rfl
noncomputable def k_law_1 : En → SR :=
  (sSeq (sSetF 2 (dOp oIx (dLst (aCons (dC (.int 3)) (aCons (dC (.int 3)) (aCons (dC (.int 3)) (aCons (dC (.int 0)) (aCons (dC (.int 1)) (aCons (dC (.int 2)) (aCons (dC (.int 4)) (aCons (dC (.int 5)) aNil))))))))) (dCall F_law_take (aCons (dVar 1) (aCons (dC (.int 8)) aNil)))))
  k_law_2)
theorem q_k_law_1 {e : En} : k_law_1 e = (sSeq (sSetF 2 (dOp oIx (dLst (aCons (dC (.int 3)) (aCons (dC (.int 3)) (aCons (dC (.int 3)) (aCons (dC (.int 0)) (aCons (dC (.int 1)) (aCons (dC (.int 2)) (aCons (dC (.int 4)) (aCons (dC (.int 5)) aNil))))))))) (dCall F_law_take (aCons (dVar 1) (aCons (dC (.int 8)) aNil)))))
  k_law_2) e := rfl
noncomputable def g_law : En → SR :=
  (sSeq (sSetF 1 (dPut (dLst (aCons (dCB oList (aCons (dVar 0) aNil)) (aCons (dC (.int 0)) (aCons (dC (.int 0)) (aCons (dC (.int 0)) aNil)))))))
  k_law_1)
noncomputable def F_law : List D → Sto → ER := fnD 1 6 g_law
end Dn
namespace Dn
open PySem PySem.Spec PyProof.Rows L2
namespace Tp
def dr (a b : Nat) : Bool := (a == 0 && b == 1) || (a == 1 && b == 0)
theorem dr_three : ∀ a b c : Nat, a < 3 → b < 3 → c < 3 → ¬ (a ≠ b ∧ b ≠ c ∧ a ≠ c) → (dr a b ^^ dr b c ^^ dr a c) = false := by
  have h : ∀ a b c : Fin 3, ¬ (a.1 ≠ b.1 ∧ b.1 ≠ c.1 ∧ a.1 ≠ c.1) → (dr a.1 b.1 ^^ dr b.1 c.1 ^^ dr a.1 c.1) = false := by decide +kernel
  intro a b c ha hb hc hn
  exact h ⟨a, ha⟩ ⟨b, hb⟩ ⟨c, hc⟩ hn
def doors (l : Nat → Nat → Nat) (j : Nat) : Nat → Bool
  | 0 => false
  | i + 1 => doors l j i ^^ dr (l i j) (l (i + 1) j)
theorem doors_end (l : Nat → Nat → Nat) (j : Nat) : ∀ n, (∀ i, i ≤ n → l i j < 2) → doors l j n = (l 0 j != l n j)
  | 0, _ => by simp [doors]
  | n + 1, h => by
    have ih := doors_end l j n fun i hi => h i (by omega)
    have h0 := h 0 (by omega)
    have h1 := h n (by omega)
    have h2 := h (n + 1) (by omega)
    have key : ∀ a b c : Fin 2, ((a.1 != b.1) ^^ dr b.1 c.1) = (a.1 != c.1) := by decide
    rw [doors, ih]
    exact key ⟨l 0 j, h0⟩ ⟨l n j, h1⟩ ⟨l (n + 1) j, h2⟩
def Full (l : Nat → Nat → Nat) (i j i' j' i'' j'' : Nat) : Prop := l i j ≠ l i' j' ∧ l i' j' ≠ l i'' j'' ∧ l i j ≠ l i'' j''
theorem sperner {N : Nat} (hN : 0 < N) (l : Nat → Nat → Nat) (h3 : ∀ i j, i ≤ j → j ≤ N → l i j < 3) (h0 : ∀ j, j ≤ N → l 0 j ≠ 0) (h1 : ∀ i, i ≤ N → l i i ≠ 1) (h2 : ∀ i, i ≤ N → l i N ≠ 2) :
    ∃ i j, i ≤ j ∧ j < N ∧ (Full l i j i (j + 1) (i + 1) (j + 1) ∨ (i < j ∧ Full l i j (i + 1) j (i + 1) (j + 1))) := by
  apply Classical.byContradiction
  intro hno
  have up : ∀ i j, i ≤ j → j < N → (dr (l i j) (l i (j + 1)) ^^ dr (l i (j + 1)) (l (i + 1) (j + 1)) ^^ dr (l i j) (l (i + 1) (j + 1))) = false := fun i j hi hj =>
    dr_three _ _ _ (h3 i j hi (by omega)) (h3 i (j + 1) (by omega) (by omega)) (h3 (i + 1) (j + 1) (by omega) (by omega)) fun f => hno ⟨i, j, hi, hj, .inl f⟩
  have dn : ∀ i j, i < j → j < N → (dr (l i j) (l (i + 1) j) ^^ dr (l (i + 1) j) (l (i + 1) (j + 1)) ^^ dr (l i j) (l (i + 1) (j + 1))) = false := fun i j hi hj =>
    dr_three _ _ _ (h3 i j (by omega) (by omega)) (h3 (i + 1) j (by omega) (by omega)) (h3 (i + 1) (j + 1) (by omega) (by omega)) fun f => hno ⟨i, j, by omega, hj, .inr ⟨hi, f⟩⟩
  have row : ∀ j, j < N → ∀ n, n ≤ j → (doors l (j + 1) n ^^ doors l j n) = (dr (l 0 j) (l 0 (j + 1)) ^^ dr (l n j) (l n (j + 1))) := fun j hj n => by
    induction n with
    | zero => intro _; simp [doors]
    | succ n ih =>
      intro hn
      have h := ih (by omega)
      have a := up n j (by omega) hj
      have b := dn n j (by omega) hj
      clear ih
      rw [doors, doors]
      generalize doors l (j + 1) n = x1 at *
      generalize doors l j n = x2 at *
      generalize dr (l 0 j) (l 0 (j + 1)) = x3 at *
      generalize dr (l n j) (l n (j + 1)) = x4 at *
      generalize dr (l n (j + 1)) (l (n + 1) (j + 1)) = x5 at *
      generalize dr (l n j) (l (n + 1) (j + 1)) = x6 at *
      generalize dr (l n j) (l (n + 1) j) = x7 at *
      generalize dr (l (n + 1) j) (l (n + 1) (j + 1)) = x8 at *
      revert x1 x2 x3 x4 x5 x6 x7 x8
      decide
  have full : ∀ j, j ≤ N → doors l j j = false := fun j => by
    induction j with
    | zero => intro _; rfl
    | succ j ih =>
      intro hj
      have i0 := ih (by omega)
      have r := row j (by omega) j (Nat.le_refl _)
      have a := up j j (Nat.le_refl _) (by omega)
      have e0 : dr (l 0 j) (l 0 (j + 1)) = false := by
        have := h0 j (by omega)
        have := h0 (j + 1) hj
        unfold dr
        simp; omega
      have e1 : dr (l j j) (l (j + 1) (j + 1)) = false := by
        have := h1 j (by omega)
        have := h1 (j + 1) hj
        unfold dr
        simp; omega
      clear ih
      rw [i0, e0] at r
      rw [e1] at a
      rw [doors]
      generalize doors l (j + 1) j = x1 at *
      generalize dr (l j j) (l j (j + 1)) = x2 at *
      generalize dr (l j (j + 1)) (l (j + 1) (j + 1)) = x3 at *
      revert x1 x2 x3
      decide
  have e := doors_end l N N fun i hi => by
    have := h3 i N hi (Nat.le_refl _)
    have := h2 i hi
    omega
  rw [full N (Nat.le_refl _)] at e
  have a := h3 0 N (by omega) (Nat.le_refl _)
  have b := h0 N (Nat.le_refl _)
  have c := h2 0 (by omega)
  have d := h3 N N (Nat.le_refl _) (Nat.le_refl _)
  have f := h1 N (Nat.le_refl _)
  have g := h2 N (Nat.le_refl _)
  have z0 : l 0 N = 1 := by omega
  have z1 : l N N = 0 := by omega
  rw [z0, z1] at e
  simp at e
end Tp
namespace Tp
abbrev Fm := Rat × Rat × Rat × Rat
def ev (f : Fm) (u v e : Rat) : Rat := f.1 + f.2.1 * u + f.2.2.1 * v + f.2.2.2 * e
def sw (f : Fm) : Fm := (f.1, f.2.2.1, f.2.1, f.2.2.2)
theorem ev_sw (f : Fm) (u v e : Rat) : ev (sw f) u v e = ev f v u e := by unfold ev sw; grind
def comb (p n : Fm) : Fm := (p.1 * (-n.2.2.1) + n.1 * p.2.2.1, p.2.1 * (-n.2.2.1) + n.2.1 * p.2.2.1, 0, p.2.2.2 * (-n.2.2.1) + n.2.2.2 * p.2.2.1)
theorem ev_comb (p n : Fm) (u v w e : Rat) : ev (comb p n) u w e = ev p u v e * (-n.2.2.1) + ev n u v e * p.2.2.1 := by unfold ev comb; grind
def elim (L : List Fm) : List Fm := (L.filter fun f => decide (f.2.2.1 = 0)) ++ L.flatMap fun p => if 0 < p.2.2.1 then L.filterMap fun n => if n.2.2.1 < 0 then some (comb p n) else none else []
theorem mem_elim {L : List Fm} {g : Fm} : g ∈ elim L ↔ (g ∈ L ∧ g.2.2.1 = 0) ∨ ∃ p ∈ L, ∃ n ∈ L, 0 < p.2.2.1 ∧ n.2.2.1 < 0 ∧ g = comb p n := by
  unfold elim
  rw [List.mem_append, List.mem_filter, List.mem_flatMap]
  constructor
  · rintro (⟨h1, h2⟩ | ⟨p, hp, h⟩)
    · exact .inl ⟨h1, of_decide_eq_true h2⟩
    · right
      split at h
      · rename_i hc
        obtain ⟨n, hn, h⟩ := List.mem_filterMap.mp h
        split at h
        · rename_i hd; cases h; exact ⟨p, hp, n, hn, hc, hd, rfl⟩
        · cases h
      · simp at h
  · rintro (⟨h1, h2⟩ | ⟨p, hp, n, hn, hc, hd, rfl⟩)
    · exact .inl ⟨h1, decide_eq_true h2⟩
    · refine .inr ⟨p, hp, ?_⟩
      rw [if_pos hc]
      exact List.mem_filterMap.mpr ⟨n, hn, by rw [if_pos hd]⟩
theorem max_of {α : Type} (f : α → Rat) : ∀ {l : List α}, l ≠ [] → ∃ a ∈ l, ∀ b ∈ l, f b ≤ f a
  | [], h => absurd rfl h
  | [a], _ => ⟨a, by simp, fun b m => by simp at m; rw [m]; exact Rat.le_refl⟩
  | a :: b :: l, _ => by
    obtain ⟨c, hc, h⟩ := max_of f (l := b :: l) (by simp)
    by_cases q : f c ≤ f a
    · refine ⟨a, by simp, fun x m => ?_⟩
      rcases List.mem_cons.mp m with rfl | m
      · exact Rat.le_refl
      · exact Rat.le_trans (h x m) q
    · refine ⟨c, List.mem_cons_of_mem _ hc, fun x m => ?_⟩
      rcases List.mem_cons.mp m with rfl | m
      · grind
      · exact h x m
theorem div_mul_self {a b : Rat} (h : b ≠ 0) : a / b * b = a := by
  rw [Rat.div_def, Rat.mul_assoc, Rat.inv_mul_cancel b h, Rat.mul_one]
theorem elim_iff (L : List Fm) (u e : Rat) : (∃ v, ∀ f ∈ L, 0 ≤ ev f u v e) ↔ ∀ g ∈ elim L, 0 ≤ ev g u 0 e := by
  constructor
  · rintro ⟨v, h⟩ g hg
    rcases mem_elim.mp hg with ⟨h1, h2⟩ | ⟨p, hp, n, hn, h1, h2, rfl⟩
    · have := h g h1
      unfold ev at this ⊢
      rw [h2] at this ⊢
      grind
    · rw [ev_comb p n u v 0 e]
      have a := Rat.mul_nonneg (h p hp) (show 0 ≤ -n.2.2.1 by grind)
      have b := Rat.mul_nonneg (h n hn) (show 0 ≤ p.2.2.1 by grind)
      grind
  · intro h
    have zero : ∀ f ∈ L, f.2.2.1 = 0 → ∀ v, 0 ≤ ev f u v e := fun f hf h0 v => by
      have := h f (mem_elim.mpr (.inl ⟨hf, h0⟩))
      unfold ev at this ⊢
      rw [h0] at this ⊢
      grind
    have at_ : ∀ f : Fm, f.2.2.1 ≠ 0 → ∀ v, ev f u v e = f.2.2.1 * (v - -(ev f u 0 e) / f.2.2.1) := fun f hf v => by
      have h1 : -(ev f u 0 e) / f.2.2.1 * f.2.2.1 = -(ev f u 0 e) := div_mul_self hf
      generalize -(ev f u 0 e) / f.2.2.1 = t at *
      unfold ev at h1 ⊢
      grind
    have pn : ∀ p ∈ L, ∀ n ∈ L, 0 < p.2.2.1 → n.2.2.1 < 0 → -(ev p u 0 e) / p.2.2.1 ≤ -(ev n u 0 e) / n.2.2.1 := fun p hp n hn h1 h2 => by
      have h3 := h _ (mem_elim.mpr (.inr ⟨p, hp, n, hn, h1, h2, rfl⟩))
      rw [ev_comb p n u (-(ev p u 0 e) / p.2.2.1) 0 e] at h3
      rw [at_ p (by grind)] at h3
      have h4 : ev n u (-(ev p u 0 e) / p.2.2.1) e * p.2.2.1 ≥ 0 := by grind
      have h5 : 0 ≤ ev n u (-(ev p u 0 e) / p.2.2.1) e := by
        apply Classical.byContradiction
        intro hc
        have := Rat.mul_pos (show 0 < -ev n u (-(ev p u 0 e) / p.2.2.1) e by grind) h1
        grind
      rw [at_ n (by grind)] at h5
      apply Classical.byContradiction
      intro hc
      have := Rat.mul_pos (show 0 < -n.2.2.1 by grind) (show 0 < -(ev p u 0 e) / p.2.2.1 - -(ev n u 0 e) / n.2.2.1 by grind)
      grind
    have lowOk : ∀ v, ∀ f ∈ L, 0 < f.2.2.1 → -(ev f u 0 e) / f.2.2.1 ≤ v → 0 ≤ ev f u v e := fun v f hf h1 h2 => by
      rw [at_ f (by grind)]
      exact Rat.mul_nonneg (by grind) (by grind)
    have highOk : ∀ v, ∀ f ∈ L, f.2.2.1 < 0 → v ≤ -(ev f u 0 e) / f.2.2.1 → 0 ≤ ev f u v e := fun v f hf h1 h2 => by
      rw [at_ f (by grind)]
      have := Rat.mul_nonneg (show 0 ≤ -f.2.2.1 by grind) (show 0 ≤ -(ev f u 0 e) / f.2.2.1 - v by grind)
      grind
    have tri : ∀ v, (∀ f ∈ L, 0 < f.2.2.1 → -(ev f u 0 e) / f.2.2.1 ≤ v) → (∀ f ∈ L, f.2.2.1 < 0 → v ≤ -(ev f u 0 e) / f.2.2.1) → ∃ v, ∀ f ∈ L, 0 ≤ ev f u v e := fun v h1 h2 => ⟨v, fun f hf => by
      by_cases c : f.2.2.1 = 0
      · exact zero f hf c v
      · by_cases d : 0 < f.2.2.1
        · exact lowOk v f hf d (h1 f hf d)
        · exact highOk v f hf (by grind) (h2 f hf (by grind))⟩
    by_cases c : (L.filter fun f => decide (0 < f.2.2.1)) = []
    · have np : ∀ f ∈ L, ¬ 0 < f.2.2.1 := fun f hf z => by
        have : f ∈ L.filter fun f => decide (0 < f.2.2.1) := List.mem_filter.mpr ⟨hf, decide_eq_true z⟩
        rw [c] at this; simp at this
      by_cases d : (L.filter fun f => decide (f.2.2.1 < 0)) = []
      · have nn : ∀ f ∈ L, ¬ f.2.2.1 < 0 := fun f hf z => by
          have : f ∈ L.filter fun f => decide (f.2.2.1 < 0) := List.mem_filter.mpr ⟨hf, decide_eq_true z⟩
          rw [d] at this; simp at this
        exact tri 0 (fun f hf z => absurd z (np f hf)) (fun f hf z => absurd z (nn f hf))
      · obtain ⟨n, hn, hm⟩ := max_of (fun f : Fm => -(-(ev f u 0 e) / f.2.2.1)) d
        refine tri (-(ev n u 0 e) / n.2.2.1) (fun f hf z => absurd z (np f hf)) (fun f hf z => ?_)
        have := hm f (List.mem_filter.mpr ⟨hf, decide_eq_true z⟩)
        grind
    · obtain ⟨p, hp, hm⟩ := max_of (fun f : Fm => -(ev f u 0 e) / f.2.2.1) c
      obtain ⟨hp1, hp2⟩ := List.mem_filter.mp hp
      refine tri (-(ev p u 0 e) / p.2.2.1) (fun f hf z => hm f (List.mem_filter.mpr ⟨hf, decide_eq_true z⟩)) (fun f hf z => pn p hp1 f hf (of_decide_eq_true hp2) z)
theorem small {a d : Rat} (h : ∀ n0 : Nat, ∃ n, n0 ≤ n ∧ 0 < n ∧ 0 ≤ a + d * (1 / (n : Rat))) : 0 ≤ a := by
  apply Classical.byContradiction
  intro hc
  have ha : 0 < -a := by grind
  obtain ⟨m, hm⟩ : ∃ m : Nat, d < (m : Rat) * (-a) := by
    refine ⟨(d / (-a)).ceil.toNat + 1, ?_⟩
    have h1 : d / (-a) ≤ ((d / (-a)).ceil : Rat) := Rat.le_ceil
    have h2 : ((d / (-a)).ceil : Rat) ≤ (((d / (-a)).ceil.toNat : Int) : Rat) := Rat.intCast_le_intCast.mpr (Int.self_le_toNat _)
    have h3 : d / (-a) < ((((d / (-a)).ceil.toNat + 1 : Nat)) : Rat) := by
      have : ((((d / (-a)).ceil.toNat + 1 : Nat)) : Rat) = (((d / (-a)).ceil.toNat : Int) : Rat) + 1 := by
        rw [Rat.natCast_add]; rfl
      rw [this]; grind
    have h4 := Rat.mul_lt_mul_of_pos_right h3 ha
    rwa [div_mul_self (by grind)] at h4
  obtain ⟨n, h1, h2, h3⟩ := h m
  have hn : (0 : Rat) < (n : Rat) := Rat.natCast_pos.mpr h2
  have h4 := Rat.mul_nonneg h3 (Rat.le_of_lt hn)
  have h5 : (a + d * (1 / (n : Rat))) * n = a * n + d := by
    have : 1 / (n : Rat) * n = 1 := div_mul_self (by grind)
    grind
  rw [h5] at h4
  have h6 : (m : Rat) ≤ n := Rat.natCast_le_natCast.mpr h1
  have h7 := Rat.mul_le_mul_of_nonneg_right h6 (Rat.le_of_lt ha)
  grind
theorem close (L : List Fm) (h : ∀ n0 : Nat, ∃ n, n0 ≤ n ∧ 0 < n ∧ ∃ u v, ∀ f ∈ L, 0 ≤ ev f u v (1 / (n : Rat))) : ∃ u v, ∀ f ∈ L, 0 ≤ ev f u v 0 := by
  have both : ∀ e, (∃ u v, ∀ f ∈ L, 0 ≤ ev f u v e) ↔ ∀ g ∈ elim ((elim L).map sw), 0 ≤ ev g 0 0 e := fun e => by
    rw [← elim_iff]
    constructor
    · rintro ⟨u, v, hv⟩
      refine ⟨u, fun f hf => ?_⟩
      obtain ⟨g, hg, rfl⟩ := List.mem_map.mp hf
      rw [ev_sw]
      exact (elim_iff L u e).mp ⟨v, hv⟩ g hg
    · rintro ⟨u, hu⟩
      obtain ⟨v, hv⟩ := (elim_iff L u e).mpr fun g hg => by
        have := hu (sw g) (List.mem_map.mpr ⟨g, hg, rfl⟩)
        rwa [ev_sw] at this
      exact ⟨u, v, hv⟩
  rw [both]
  intro g hg
  have : 0 ≤ g.1 := by
    refine small (d := g.2.2.2) fun n0 => ?_
    obtain ⟨n, h1, h2, h3⟩ := h n0
    refine ⟨n, h1, h2, ?_⟩
    have := (both _).mp h3 g hg
    unfold ev at this
    grind
  unfold ev
  grind
theorem close_some : ∀ (Ls : List (List Fm)), (∀ n : Nat, 0 < n → ∃ L ∈ Ls, ∃ u v, ∀ f ∈ L, 0 ≤ ev f u v (1 / (n : Rat))) → ∃ L ∈ Ls, ∃ u v, ∀ f ∈ L, 0 ≤ ev f u v 0 := by
  intro Ls h
  apply Classical.byContradiction
  intro hno
  have bad : ∀ L ∈ Ls, ∃ n0 : Nat, ∀ n, n0 ≤ n → 0 < n → ¬ ∃ u v, ∀ f ∈ L, 0 ≤ ev f u v (1 / (n : Rat)) := fun L hL => by
    apply Classical.byContradiction
    intro hc
    refine hno ⟨L, hL, close L fun n0 => ?_⟩
    apply Classical.byContradiction
    intro hd
    exact hc ⟨n0, fun n h1 h2 h3 => hd ⟨n, h1, h2, h3⟩⟩
  have all : ∀ Ms : List (List Fm), (∀ L ∈ Ms, L ∈ Ls) → ∃ n0 : Nat, ∀ n, n0 ≤ n → 0 < n → ∀ L ∈ Ms, ¬ ∃ u v, ∀ f ∈ L, 0 ≤ ev f u v (1 / (n : Rat)) := by
    intro Ms
    induction Ms with
    | nil => exact fun _ => ⟨0, fun _ _ _ L m => by simp at m⟩
    | cons L Ms ih =>
      intro hm
      obtain ⟨n1, k1⟩ := ih fun M m => hm M (by simp [m])
      obtain ⟨n2, k2⟩ := bad L (hm L (by simp))
      refine ⟨n1 + n2, fun n h1 h2 M m => ?_⟩
      rcases List.mem_cons.mp m with rfl | m
      · exact k2 n (by omega) h2
      · exact k1 n (by omega) h2 M m
  obtain ⟨n0, k⟩ := all Ls fun _ m => m
  obtain ⟨L, hL, hf⟩ := h (n0 + 1) (by omega)
  exact k (n0 + 1) (by omega) (by omega) L hL hf
end Tp
namespace Tp
abbrev P2 := Rat × Rat
abbrev Rw := Rat × Rat × Rat
def val (r : Rw) (p : P2) : Rat := r.1 + r.2.1 * p.1 + r.2.2 * p.2
def crs (r : Rw) (p q : P2) : P2 := (p.1 + (q.1 - p.1) * (val r p / (val r p - val r q)), p.2 + (q.2 - p.2) * (val r p / (val r p - val r q)))
def refGo (r : Rw) : P2 → List P2 → List P2
  | _, [] => []
  | p, c :: l => (if val r p * val r c < 0 then [crs r p c] else []) ++ c :: refGo r c l
def clipGo (r : Rw) : P2 → List P2 → List P2
  | _, [] => []
  | p, c :: l => (if val r p * val r c < 0 then [crs r p c] else []) ++ (if val r c < 0 then [] else [c]) ++ clipGo r c l
def clip (r : Rw) (P : List P2) : List P2 := match P.getLast? with
  | none => []
  | some e => clipGo r e P
theorem neg_mul_iff {a b : Rat} : a * b < 0 ↔ (0 < a ∧ b < 0) ∨ (a < 0 ∧ 0 < b) := by
  constructor
  · intro h
    by_cases ha : a < 0
    · by_cases hb : b < 0
      · have := Rat.mul_pos (show 0 < -a by grind) (show 0 < -b by grind); grind
      · by_cases hb0 : b = 0
        · subst hb0; grind
        · exact .inr ⟨ha, by grind⟩
    · by_cases ha0 : a = 0
      · subst ha0; grind
      · have ha1 : 0 < a := by grind
        by_cases hb : b < 0
        · exact .inl ⟨ha1, hb⟩
        · have := Rat.mul_nonneg (Rat.le_of_lt ha1) (show 0 ≤ b by grind); grind
  · rintro (⟨h1, h2⟩ | ⟨h1, h2⟩)
    · have := Rat.mul_pos h1 (show 0 < -b by grind); grind
    · have := Rat.mul_pos (show 0 < -a by grind) h2; grind
theorem part_01 {a b : Rat} (h : a * b < 0) : 0 < a / (a - b) ∧ a / (a - b) < 1 := by
  have hne : a - b ≠ 0 := by rcases neg_mul_iff.mp h with ⟨h1, h2⟩ | ⟨h1, h2⟩ <;> grind
  have e := div_mul_self (a := a) hne
  generalize a / (a - b) = t at *
  rcases neg_mul_iff.mp h with ⟨h1, h2⟩ | ⟨h1, h2⟩
  · constructor
    · apply Classical.byContradiction; intro c
      have := Rat.mul_nonneg (show 0 ≤ -t by grind) (show 0 ≤ a - b by grind); grind
    · apply Classical.byContradiction; intro c
      have := Rat.mul_nonneg (show 0 ≤ t - 1 by grind) (show 0 ≤ a - b by grind); grind
  · constructor
    · apply Classical.byContradiction; intro c
      have := Rat.mul_nonneg (show 0 ≤ -t by grind) (show 0 ≤ b - a by grind); grind
    · apply Classical.byContradiction; intro c
      have := Rat.mul_nonneg (show 0 ≤ t - 1 by grind) (show 0 ≤ b - a by grind); grind
theorem val_crs {r : Rw} {p q : P2} (h : val r p * val r q < 0) : val r (crs r p q) = 0 := by
  have hne : val r p - val r q ≠ 0 := by rcases neg_mul_iff.mp h with ⟨h1, h2⟩ | ⟨h1, h2⟩ <;> grind
  have e := div_mul_self (a := val r p) hne
  unfold crs
  generalize val r p / (val r p - val r q) = t at *
  unfold val at *
  grind
theorem clip_ref (r : Rw) : ∀ (l : List P2) (p : P2), clipGo r p l = (refGo r p l).filter fun c => decide (0 ≤ val r c)
  | [], _ => rfl
  | c :: l, p => by
    rw [clipGo, refGo, clip_ref r l c, List.filter_append, List.filter_cons, List.append_assoc]
    have h1 : (if val r p * val r c < 0 then [crs r p c] else []).filter (fun c => decide (0 ≤ val r c)) = if val r p * val r c < 0 then [crs r p c] else [] := by
      split
      · rename_i h
        have := val_crs h
        simp [this]
      · rfl
    rw [h1]
    by_cases c1 : val r c < 0
    · have c2 : ¬ 0 ≤ val r c := by grind
      simp [c1, c2]
    · have c2 : 0 ≤ val r c := by grind
      simp [c1, c2]
def dt (a b c : P2) : Rat := (b.2 - a.2) * (c.1 - a.1) - (b.1 - a.1) * (c.2 - a.2)
def Od (P : List P2) : Prop := ∀ a b c, [a, b, c].Sublist P → 0 ≤ dt a b c
theorem Od.sub {P Q : List P2} (h : Od P) (s : Q.Sublist P) : Od Q := fun a b c q => h a b c (q.trans s)
def mid (t : Rat) (p c : P2) : P2 := (p.1 + (c.1 - p.1) * t, p.2 + (c.2 - p.2) * t)
theorem dt_mid {t : Rat} {p c : P2} (x y : P2) : dt x y (mid t p c) = (1 - t) * dt x y p + t * dt x y c ∧ dt x (mid t p c) y = (1 - t) * dt x p y + t * dt x c y ∧ dt (mid t p c) x y = (1 - t) * dt p x y + t * dt c x y := by
  unfold dt mid
  refine ⟨?_, ?_, ?_⟩ <;> grind
theorem mix_nonneg {t a b : Rat} (h0 : 0 ≤ t) (h1 : t ≤ 1) (ha : 0 ≤ a) (hb : 0 ≤ b) : 0 ≤ (1 - t) * a + t * b := by
  have := Rat.mul_nonneg (show 0 ≤ 1 - t by grind) ha
  have := Rat.mul_nonneg h0 hb
  grind
theorem sub_one {p c : P2} {l : List P2} : [p].Sublist (c :: l) → p = c ∨ [p].Sublist l := by
  intro h
  rcases List.sublist_cons_iff.mp h with h | ⟨r, e, h⟩
  · exact .inr h
  · simp at e; exact .inl e.1
theorem sub_ins {S A l : List P2} {x : P2} (h : S.Sublist (A ++ x :: l)) : S.Sublist (A ++ l) ∨ ∃ S1 S2, S = S1 ++ x :: S2 ∧ S1.Sublist A ∧ S2.Sublist l := by
  obtain ⟨s1, s2, e, h1, h2⟩ := List.sublist_append_iff.mp h
  rcases List.sublist_cons_iff.mp h2 with h3 | ⟨r, e2, h3⟩
  · left; rw [e]; exact h1.append h3
  · right; exact ⟨s1, r, by rw [e, e2], h1, h3⟩
theorem dt_same (a b : P2) : dt a a b = 0 ∧ dt a b b = 0 ∧ dt a b a = 0 := by unfold dt; refine ⟨?_, ?_, ?_⟩ <;> grind
theorem dt_cyc (a b c : P2) : dt a b c = dt b c a ∧ dt a b c = dt c a b ∧ dt a b c = - dt a c b := by unfold dt; refine ⟨?_, ?_, ?_⟩ <;> grind
theorem od_ins {A l : List P2} {p c : P2} {t : Rat} (h : Od (A ++ p :: c :: l)) (h0 : 0 ≤ t) (h1 : t ≤ 1) : Od (A ++ p :: mid t p c :: c :: l) := by
  have e : A ++ p :: mid t p c :: c :: l = (A ++ [p]) ++ mid t p c :: c :: l := by simp
  have e0 : A ++ p :: c :: l = (A ++ [p]) ++ c :: l := by simp
  intro a b d hs
  rw [e] at hs
  rcases sub_ins hs with hs | ⟨S1, S2, hS, s1, s2⟩
  · exact h a b d (by rw [e0]; exact hs)
  match S1, S2, hS, s1, s2 with
  | [], [_, _], hS, _, s2 =>
    simp only [List.nil_append, List.cons.injEq, and_true] at hS
    obtain ⟨rfl, rfl, rfl⟩ := hS
    rw [(dt_mid b d).2.2]
    refine mix_nonneg h0 h1 (h p b d ?_) ?_
    · exact (List.Sublist.cons₂ p s2).trans (List.sublist_append_right A _)
    · rcases List.sublist_cons_iff.mp s2 with q | ⟨r, e2, q⟩
      · refine h c b d ?_
        exact ((List.Sublist.cons₂ c q).trans (List.sublist_cons_self p _)).trans (List.sublist_append_right A _)
      · simp at e2; obtain ⟨rfl, _⟩ := e2; rw [(dt_same b d).1]; exact Rat.le_refl
  | [_], [_], hS, s1, s2 =>
    simp only [List.cons_append, List.nil_append, List.cons.injEq, and_true] at hS
    obtain ⟨rfl, rfl, rfl⟩ := hS
    rw [(dt_mid a d).2.1]
    refine mix_nonneg h0 h1 ?_ ?_
    · obtain ⟨u1, u2, e2, q1, q2⟩ := List.sublist_append_iff.mp s1
      match u1, u2, e2, q1, q2 with
      | [], [_], e2, _, q2 =>
        have : [a].Sublist [p] := by rw [e2]; exact q2
        rcases sub_one this with rfl | z
        · rw [(dt_same a d).1]; exact Rat.le_refl
        · simp at z
      | [_], [], e2, q1, _ =>
        have : [a].Sublist A := by rw [e2]; simpa using q1
        exact h a p d (this.append (List.Sublist.cons₂ p s2))
    · rcases sub_one s2 with rfl | z
      · rw [(dt_same a d).2.1]; exact Rat.le_refl
      · refine h a c d ?_
        rw [e0]
        exact s1.append (List.Sublist.cons₂ c z)
  | [_, _], [], hS, s1, _ =>
    simp only [List.cons_append, List.nil_append, List.cons.injEq, and_true] at hS
    obtain ⟨rfl, rfl, rfl⟩ := hS
    rw [(dt_mid a b).1]
    refine mix_nonneg h0 h1 ?_ ?_
    · obtain ⟨u1, u2, e2, q1, q2⟩ := List.sublist_append_iff.mp s1
      match u1, u2, e2, q1, q2 with
      | [_, _], [], e2, q1, _ =>
        have : [a, b].Sublist A := by rw [e2]; simpa using q1
        exact h a b p (this.append (List.Sublist.cons₂ p (List.nil_sublist _)))
      | [_], [_], e2, q1, q2 =>
        simp only [List.cons_append, List.nil_append, List.cons.injEq, and_true] at e2
        obtain ⟨rfl, rfl⟩ := e2
        rcases sub_one q2 with rfl | z
        · rw [(dt_same a b).2.1]; exact Rat.le_refl
        · simp at z
      | [], [_, _], e2, _, q2 =>
        have := q2.length_le
        simp at this
    · refine h a b c ?_
      rw [e0]
      exact s1.append (List.Sublist.cons₂ c (List.nil_sublist _))
  | [], [], hS, _, _ => simp at hS
  | [], [_], hS, _, _ => simp at hS
  | [_], [], hS, _, _ => simp at hS
  | [], _ :: _ :: _ :: _, hS, _, _ => simp at hS
  | [_], _ :: _ :: _, hS, _, _ => simp at hS
  | [_, _], _ :: _, hS, _, _ => simp at hS
  | _ :: _ :: _ :: _, _, hS, _, _ => simp at hS
theorem od_front {l M : List P2} {e c : P2} {t : Rat} (h : Od (c :: l)) (hM : c :: l = M ++ [e]) (h0 : 0 ≤ t) (h1 : t ≤ 1) : Od (mid t e c :: c :: l) := by
  intro a b d hs
  rcases List.sublist_cons_iff.mp hs with hs | ⟨r, e2, hs⟩
  · exact h a b d hs
  · simp only [List.cons.injEq] at e2
    obtain ⟨rfl, e3⟩ := e2
    subst e3
    rw [(dt_mid b d).2.2]
    refine mix_nonneg h0 h1 ?_ ?_
    · rw [(dt_cyc e b d).1]
      have hs2 := hs
      rw [hM] at hs2
      obtain ⟨u1, u2, e4, q1, q2⟩ := List.sublist_append_iff.mp hs2
      match u1, u2, e4, q1, q2 with
      | [_, _], [], e4, q1, _ =>
        have : [b, d].Sublist M := by rw [e4]; simpa using q1
        exact h b d e (by rw [hM]; exact this.append (List.Sublist.refl [e]))
      | [_], [_], e4, q1, q2 =>
        simp only [List.cons_append, List.nil_append, List.cons.injEq, and_true] at e4
        obtain ⟨rfl, rfl⟩ := e4
        rcases sub_one q2 with rfl | z
        · rw [(dt_same b d).2.1]; exact Rat.le_refl
        · simp at z
      | [], [_, _], e4, _, q2 =>
        have := q2.length_le
        simp at this
    · rcases List.sublist_cons_iff.mp hs with q | ⟨r, e4, q⟩
      · exact h c b d (List.Sublist.cons₂ c q)
      · simp at e4; obtain ⟨rfl, _⟩ := e4; rw [(dt_same b d).1]; exact Rat.le_refl
theorem crs_mid {r : Rw} {p q : P2} : crs r p q = mid (val r p / (val r p - val r q)) p q := rfl
theorem od_refGo {r : Rw} : ∀ (l A : List P2) (p : P2), Od (A ++ p :: l) → Od (A ++ p :: refGo r p l)
  | [], _, _, h => h
  | c :: l, A, p, h => by
    rw [refGo]
    by_cases q : val r p * val r c < 0
    · rw [if_pos q]
      have h2 := od_ins h (Rat.le_of_lt (part_01 q).1) (Rat.le_of_lt (part_01 q).2)
      rw [← crs_mid] at h2
      have e : A ++ p :: crs r p c :: c :: l = (A ++ [p, crs r p c]) ++ c :: l := by simp
      rw [e] at h2
      have h3 := od_refGo (r := r) l _ c h2
      simpa using h3
    · rw [if_neg q]
      have e : A ++ p :: c :: l = (A ++ [p]) ++ c :: l := by simp
      rw [e] at h
      have h3 := od_refGo (r := r) l _ c h
      simpa using h3
def ref (r : Rw) (P : List P2) : List P2 := match P.getLast? with
  | none => []
  | some e => refGo r e P
theorem clip_eq (r : Rw) (P : List P2) : clip r P = (ref r P).filter fun c => decide (0 ≤ val r c) := by
  unfold clip ref
  cases P.getLast? with
  | none => rfl
  | some e => exact clip_ref r P e
theorem od_ref {r : Rw} {P : List P2} (h : Od P) : Od (ref r P) := by
  unfold ref
  cases e : P.getLast? with
  | none => intro a b c s; simp at s
  | some e0 =>
    cases P with
    | nil => simp at e
    | cons c l =>
      obtain ⟨M, hM⟩ := List.getLast?_eq_some_iff.mp e
      show Od (refGo r e0 (c :: l))
      rw [refGo]
      by_cases q : val r e0 * val r c < 0
      · rw [if_pos q]
        have h2 := od_front h hM (Rat.le_of_lt (part_01 q).1) (Rat.le_of_lt (part_01 q).2)
        rw [← crs_mid] at h2
        exact od_refGo l [crs r e0 c] c h2
      · rw [if_neg q]
        exact od_refGo l [] c h
theorem od_clip {r : Rw} {P : List P2} (h : Od P) : Od (clip r P) := by
  rw [clip_eq]; exact (od_ref h).sub List.filter_sublist
end Tp
namespace Tp
def Aj (r : Rw) : List P2 → Prop
  | p :: q :: l => 0 ≤ val r p * val r q ∧ Aj r (q :: l)
  | _ => True
theorem Aj.tail {r : Rw} {p : P2} {l : List P2} (h : Aj r (p :: l)) : Aj r l := by
  cases l with
  | nil => trivial
  | cons q l => exact h.2
theorem Aj.suf {r : Rw} : ∀ {A l : List P2}, Aj r (A ++ l) → Aj r l
  | [], _, h => h
  | _ :: A, l, h => Aj.suf (A := A) h.tail
theorem Aj.pre {r : Rw} : ∀ {A l : List P2}, Aj r (A ++ l) → Aj r A
  | [], _, _ => trivial
  | [_], _, _ => trivial
  | p :: q :: A, l, h => ⟨h.1, Aj.pre (A := q :: A) h.2⟩
theorem Aj.glue {r : Rw} : ∀ {A B : List P2} {e : P2}, Aj r (A ++ [e]) → Aj r (e :: B) → Aj r (A ++ e :: B)
  | [], _, _, _, h => h
  | [p], _, _, h, k => ⟨h.1, k⟩
  | p :: q :: A, B, e, h, k => ⟨h.1, Aj.glue (A := q :: A) h.2 k⟩
theorem ivt {r : Rw} : ∀ (M : List P2) (a c : P2), Aj r (a :: (M ++ [c])) → (0 < val r a ∧ val r c < 0) ∨ (val r a < 0 ∧ 0 < val r c) → ∃ X ∈ M, val r X = 0
  | [], a, c, h, s => by
    have h1 : 0 ≤ val r a * val r c := h.1
    have := neg_mul_iff.mpr s
    grind
  | m :: M, a, c, h, s => by
    by_cases z : val r m = 0
    · exact ⟨m, by simp, z⟩
    · have h1 : 0 ≤ val r a * val r m := h.1
      have h2 : ¬ val r a * val r m < 0 := by grind
      rw [neg_mul_iff] at h2
      obtain ⟨X, hX, e⟩ := ivt M m c h.tail (by
        rcases s with ⟨s1, s2⟩ | ⟨s1, s2⟩
        · left; exact ⟨by grind, s2⟩
        · right; exact ⟨by grind, s2⟩)
      exact ⟨X, by simp [hX], e⟩
theorem aj_refGo {r : Rw} : ∀ (l : List P2) (p : P2), Aj r (p :: refGo r p l)
  | [], _ => trivial
  | c :: l, p => by
    have ih := aj_refGo l c (r := r)
    rw [refGo]
    by_cases q : val r p * val r c < 0
    · rw [if_pos q]
      have := val_crs q
      exact ⟨by rw [this]; grind, by rw [this]; grind, ih⟩
    · rw [if_neg q]
      exact ⟨by grind, ih⟩
theorem refGo_last {r : Rw} : ∀ (l : List P2) (p e : P2), l.getLast? = some e → ∃ M, refGo r p l = M ++ [e]
  | [], _, _, h => by simp at h
  | [c], p, e, h => by
    simp at h; subst h
    exact ⟨if val r p * val r c < 0 then [crs r p c] else [], by simp [refGo]⟩
  | c :: d :: l, p, e, h => by
    obtain ⟨M, hM⟩ := refGo_last (d :: l) c e (by simpa using h) (r := r)
    exact ⟨(if val r p * val r c < 0 then [crs r p c] else []) ++ c :: M, by rw [refGo, hM]; simp⟩
theorem aj_ref {r : Rw} {P : List P2} : Aj r (ref r P ++ ref r P) := by
  unfold ref
  cases e : P.getLast? with
  | none => trivial
  | some e0 =>
    obtain ⟨M, hM⟩ := refGo_last P e0 e0 e (r := r)
    have h := aj_refGo P e0 (r := r)
    show Aj r (refGo r e0 P ++ refGo r e0 P)
    have h1 : Aj r (M ++ [e0]) := by rw [← hM]; exact h.tail
    have h2 := Aj.glue h1 h
    have e3 : refGo r e0 P ++ refGo r e0 P = M ++ e0 :: refGo r e0 P := by
      conv => lhs; lhs; rw [hM]
      simp
    rw [e3]; exact h2
theorem zeros {r : Rw} {L : List P2} (hO : Od L) (hA : Aj r (L ++ L)) {a c : P2} (ha : a ∈ L) (hc : c ∈ L) (pa : 0 < val r a) (nc : val r c < 0) : ∃ X ∈ L, ∃ Y ∈ L, val r X = 0 ∧ val r Y = 0 ∧ 0 ≤ dt a X c ∧ 0 ≤ dt a c Y := by
  obtain ⟨A, R, rfl⟩ := List.append_of_mem ha
  have hne : c ≠ a := fun z => by rw [z] at nc; grind
  rcases List.mem_append.mp hc with m | m
  · obtain ⟨A1, A2, rfl⟩ := List.append_of_mem m
    obtain ⟨Y, hY, zY⟩ := ivt (r := r) A2 c a (Aj.pre (l := R ++ (A1 ++ c :: A2 ++ a :: R)) (Aj.suf (A := A1) (by simpa using hA))) (.inr ⟨nc, pa⟩)
    obtain ⟨X, hX, zX⟩ := ivt (r := r) (R ++ A1) a c (Aj.pre (l := A2 ++ a :: R) (Aj.suf (A := A1 ++ c :: A2) (by simpa using hA))) (.inl ⟨pa, nc⟩)
    refine ⟨X, ?_, Y, by simp [hY], zX, zY, ?_, ?_⟩
    · rcases List.mem_append.mp hX with h | h <;> simp [h]
    · rcases List.mem_append.mp hX with h | h
      ·
        rw [(dt_cyc a X c).2.1]
        refine hO c a X ?_
        have h1 : [c].Sublist (A1 ++ c :: A2) := List.singleton_sublist.mpr (by simp)
        have h2 : [a, X].Sublist (a :: R) := List.Sublist.cons₂ a (List.singleton_sublist.mpr h)
        exact h1.append h2
      ·
        rw [(dt_cyc a X c).1]
        refine hO X c a ?_
        have h1 : [X].Sublist A1 := List.singleton_sublist.mpr h
        have h2 : [c].Sublist (c :: A2) := List.singleton_sublist.mpr (by simp)
        have h3 : [a].Sublist (a :: R) := List.singleton_sublist.mpr (by simp)
        exact (h1.append h2).append h3
    ·
      rw [(dt_cyc a c Y).1]
      refine hO c Y a ?_
      have h1 : [c, Y].Sublist (c :: A2) := List.Sublist.cons₂ c (List.singleton_sublist.mpr hY)
      have h3 : [a].Sublist (a :: R) := List.singleton_sublist.mpr (by simp)
      exact (h1.trans (List.sublist_append_right A1 _)).append h3
  · have m : c ∈ R := by
      rcases List.mem_cons.mp m with z | z
      · exact absurd z hne
      · exact z
    obtain ⟨R1, R2, rfl⟩ := List.append_of_mem m
    obtain ⟨X, hX, zX⟩ := ivt (r := r) R1 a c (Aj.pre (l := R2 ++ (A ++ a :: (R1 ++ c :: R2))) (Aj.suf (A := A) (by simpa using hA))) (.inl ⟨pa, nc⟩)
    obtain ⟨Y, hY, zY⟩ := ivt (r := r) (R2 ++ A) c a (Aj.pre (l := R1 ++ c :: R2) (Aj.suf (A := A ++ a :: R1) (by simpa using hA))) (.inr ⟨nc, pa⟩)
    refine ⟨X, by simp [hX], Y, ?_, zX, zY, ?_, ?_⟩
    · rcases List.mem_append.mp hY with h | h <;> simp [h]
    · refine hO a X c ?_
      have h1 : [a, X].Sublist (a :: R1) := List.Sublist.cons₂ a (List.singleton_sublist.mpr hX)
      have h2 : [c].Sublist (c :: R2) := List.singleton_sublist.mpr (by simp)
      have h3 : [a, X, c].Sublist ((a :: R1) ++ (c :: R2)) := h1.append h2
      exact (show [a, X, c].Sublist (a :: (R1 ++ c :: R2)) from by simpa using h3).trans (List.sublist_append_right A _)
    · rcases List.mem_append.mp hY with h | h
      · refine hO a c Y ?_
        have h1 : [a].Sublist (a :: R1) := List.singleton_sublist.mpr (by simp)
        have h2 : [c, Y].Sublist (c :: R2) := List.Sublist.cons₂ c (List.singleton_sublist.mpr h)
        have h3 : [a, c, Y].Sublist ((a :: R1) ++ (c :: R2)) := h1.append h2
        exact (show [a, c, Y].Sublist (a :: (R1 ++ c :: R2)) from by simpa using h3).trans (List.sublist_append_right A _)
      ·
        rw [(dt_cyc a c Y).2.1]
        refine hO Y a c ?_
        have h0 : [Y].Sublist A := List.singleton_sublist.mpr h
        have h1 : [a].Sublist (a :: R1) := List.singleton_sublist.mpr (by simp)
        have h2 : [c].Sublist (c :: R2) := List.singleton_sublist.mpr (by simp)
        have h3 : [a, c].Sublist ((a :: R1) ++ (c :: R2)) := h1.append h2
        exact h0.append (show [a, c].Sublist (a :: (R1 ++ c :: R2)) from by simpa using h3)
inductive Cn (S : P2 → Prop) : Rat → Rat → Rat → Prop
  | z : Cn S 0 0 0
  | add {x y w t : Rat} {p : P2} : Cn S x y w → S p → 0 ≤ t → Cn S (x + t) (y + t * p.1) (w + t * p.2)
theorem Cn.cast {S : P2 → Prop} {x y w x' y' w' : Rat} (h : Cn S x y w) (e1 : x = x') (e2 : y = y') (e3 : w = w') : Cn S x' y' w' := by subst e1; subst e2; subst e3; exact h
theorem Cn.one {S : P2 → Prop} {p : P2} {t : Rat} (h : S p) (ht : 0 ≤ t) : Cn S t (t * p.1) (t * p.2) := (Cn.add .z h ht).cast (by grind) (by grind) (by grind)
theorem Cn.plus {S : P2 → Prop} {x y w x' y' w' : Rat} (h : Cn S x y w) (k : Cn S x' y' w') : Cn S (x + x') (y + y') (w + w') := by
  induction k with
  | z => exact h.cast (by grind) (by grind) (by grind)
  | add _ hp ht ih => exact (ih.add hp ht).cast (by grind) (by grind) (by grind)
theorem Cn.mul {S : P2 → Prop} {x y w s : Rat} (hs : 0 ≤ s) (h : Cn S x y w) : Cn S (s * x) (s * y) (s * w) := by
  induction h with
  | z => exact Cn.z.cast (by grind) (by grind) (by grind)
  | add _ hp ht ih => exact (ih.add hp (Rat.mul_nonneg hs ht)).cast (by grind) (by grind) (by grind)
theorem Cn.div {S : P2 → Prop} {x y w s : Rat} (hs : 0 < s) (h : Cn S (s * x) (s * y) (s * w)) : Cn S x y w := by
  have e : s⁻¹ * s = 1 := Rat.inv_mul_cancel s (by grind)
  have h1 : 0 ≤ s⁻¹ := Rat.le_of_lt (Rat.inv_pos.mpr hs)
  exact (h.mul h1).cast (by grind) (by grind) (by grind)
theorem Cn.imp {S T : P2 → Prop} {x y w : Rat} (k : ∀ p, S p → T p) (h : Cn S x y w) : Cn T x y w := by
  induction h with
  | z => exact .z
  | add _ hp ht ih => exact ih.add (k _ hp) ht
theorem Cn.some {S : P2 → Prop} {x y w : Rat} (h : Cn S x y w) (hx : x ≠ 0) : ∃ p, S p := by
  induction h with
  | z => exact absurd rfl hx
  | add _ hp _ _ => exact ⟨_, hp⟩
def fv (r : Rw) (x y w : Rat) : Rat := r.1 * x + r.2.1 * y + r.2.2 * w
theorem Cn.nonneg {S : P2 → Prop} {r : Rw} {x y w : Rat} (hS : ∀ p, S p → 0 ≤ val r p) (h : Cn S x y w) : 0 ≤ fv r x y w := by
  induction h with
  | z => unfold fv; grind
  | @add x y w t p _ hp ht ih =>
    have := Rat.mul_nonneg ht (hS _ hp)
    have e : fv r (x + t) (y + t * p.1) (w + t * p.2) = fv r x y w + t * val r p := by unfold fv val; grind
    rw [e]; grind
section
variable {r : Rw} {L : List P2}
abbrev Kp (r : Rw) (L : List P2) : P2 → Prop := fun p => p ∈ L ∧ 0 ≤ val r p
theorem pair_in (hO : Od L) (hA : Aj r (L ++ L)) {a c : P2} (ha : Kp r L a) (hc : c ∈ L) (nc : val r c < 0) : Cn (Kp r L) (- val r c + val r a) (- val r c * a.1 + val r a * c.1) (- val r c * a.2 + val r a * c.2) := by
  by_cases z : val r a = 0
  · rw [z]
    exact (Cn.one (S := Kp r L) (p := a) (t := - val r c) ha (by grind)).cast (by grind) (by grind) (by grind)
  · have pa : 0 < val r a := by have := ha.2; grind
    obtain ⟨X, hX, Y, hY, zX, zY, s1, s2⟩ := zeros hO hA ha.1 hc pa nc
    have kX : Kp r L X := ⟨hX, by rw [zX]; exact Rat.le_refl⟩
    have kY : Kp r L Y := ⟨hY, by rw [zY]; exact Rat.le_refl⟩
    by_cases d : dt a c Y + dt a X c = 0
    · have d2 : dt a c Y = 0 := by grind
      refine (Cn.one (S := Kp r L) (p := Y) (t := - val r c + val r a) kY (by grind)).cast rfl ?_ ?_
      · unfold val at *; unfold dt at d2; grind
      · unfold val at *; unfold dt at d2; grind
    · have dp : 0 < dt a c Y + dt a X c := by grind
      have h := (Cn.one (S := Kp r L) (p := X) (t := dt a c Y) kX s2).plus (Cn.one (S := Kp r L) (p := Y) (t := dt a X c) kY s1)
      have h2 := h.mul (s := val r a - val r c) (by grind)
      refine Cn.div dp (h2.cast ?_ ?_ ?_)
      · grind
      · unfold val at *; unfold dt; grind
      · unfold val at *; unfold dt; grind
end
end Tp
namespace Tp
section
variable {r : Rw} {L : List P2}
def Gd (r : Rw) (L : List P2) (x y w : Rat) : Prop := (0 ≤ fv r x y w → Cn (Kp r L) x y w) ∧ (fv r x y w < 0 → ∀ a b c, Cn (Kp r L) a b c → Cn (Kp r L) (- fv r x y w * a + fv r a b c * x) (- fv r x y w * b + fv r a b c * y) (- fv r x y w * c + fv r a b c * w))
theorem kp_nonneg : ∀ p, Kp r L p → 0 ≤ val r p := fun _ h => h.2
theorem gd_gen (hO : Od L) (hA : Aj r (L ++ L)) {p : P2} (hp : p ∈ L) {t : Rat} (ht : 0 ≤ t) : Gd r L t (t * p.1) (t * p.2) := by
  have e : fv r t (t * p.1) (t * p.2) = t * val r p := by unfold fv val; grind
  by_cases c : 0 ≤ val r p
  · refine ⟨fun _ => Cn.one ⟨hp, c⟩ ht, fun h => ?_⟩
    rw [e] at h
    have := Rat.mul_nonneg ht c
    grind
  · have nc : val r p < 0 := by grind
    refine ⟨fun h => ?_, fun h a b d hC => ?_⟩
    · rw [e] at h
      have t0 : t = 0 := by
        apply Classical.byContradiction; intro z
        have := Rat.mul_pos (show 0 < t by grind) (show 0 < - val r p by grind)
        grind
      subst t0
      exact Cn.z.cast (by grind) (by grind) (by grind)
    · rw [e]
      have key : Cn (Kp r L) (- val r p * a + fv r a b d * 1) (- val r p * b + fv r a b d * p.1) (- val r p * d + fv r a b d * p.2) := by
        induction hC with
        | z => exact Cn.z.cast (by unfold fv; grind) (by unfold fv; grind) (by unfold fv; grind)
        | @add x y w s q _ hq hs ih =>
          have k := (pair_in hO hA hq hp nc).mul hs
          refine (ih.plus k).cast ?_ ?_ ?_ <;> (unfold fv val; grind)
      refine (key.mul ht).cast ?_ ?_ ?_ <;> grind
theorem gd_add {x y w x' y' w' : Rat} (h : Gd r L x y w) (k : Gd r L x' y' w') : Gd r L (x + x') (y + y') (w + w') := by
  have e : fv r (x + x') (y + y') (w + w') = fv r x y w + fv r x' y' w' := by unfold fv; grind
  have lin : ∀ x y w, fv r x y w = r.1 * x + r.2.1 * y + r.2.2 * w := fun _ _ _ => rfl
  have mixed : ∀ x y w x' y' w' : Rat, Gd r L x y w → Gd r L x' y' w' → 0 ≤ fv r x y w → fv r x' y' w' < 0 → Gd r L (x + x') (y + y') (w + w') := by
    intro x y w x' y' w' h k h0 h1
    have e : fv r (x + x') (y + y') (w + w') = fv r x y w + fv r x' y' w' := by unfold fv; grind
    have c1 := h.1 h0
    have B := k.2 h1 x y w c1
    generalize hA1 : fv r x y w = A1 at *
    generalize hA2 : fv r x' y' w' = A2 at *
    refine ⟨fun hp => ?_, fun hn a b c hC => ?_⟩
    · rw [e] at hp
      have hpos : 0 < A1 := by grind
      refine Cn.div hpos ((B.plus (c1.mul hp)).cast ?_ ?_ ?_) <;> grind
    · rw [e] at hn ⊢
      have A := k.2 (by rw [hA2]; exact h1) a b c hC
      rw [hA2] at A
      have hca := Cn.nonneg kp_nonneg hC
      have hpos : 0 < - A2 := by grind
      have T := (A.mul (s := - (A1 + A2)) (by grind)).plus (B.mul hca)
      refine Cn.div hpos (T.cast ?_ ?_ ?_) <;> grind
  by_cases h0 : 0 ≤ fv r x y w
  · by_cases k0 : 0 ≤ fv r x' y' w'
    · refine ⟨fun _ => (h.1 h0).plus (k.1 k0), fun hn => ?_⟩
      rw [e] at hn; grind
    · exact mixed x y w x' y' w' h k h0 (by grind)
  · by_cases k0 : 0 ≤ fv r x' y' w'
    · have m := mixed x' y' w' x y w k h k0 (by grind)
      have c1 : x' + x = x + x' := by grind
      have c2 : y' + y = y + y' := by grind
      have c3 : w' + w = w + w' := by grind
      rw [c1, c2, c3] at m
      exact m
    · have h1 : fv r x y w < 0 := by grind
      have k1 : fv r x' y' w' < 0 := by grind
      refine ⟨fun hp => ?_, fun _ a b c hC => ?_⟩
      · rw [e] at hp; grind
      · rw [e]
        refine ((h.2 h1 a b c hC).plus (k.2 k1 a b c hC)).cast ?_ ?_ ?_ <;> grind
theorem gd_all (hO : Od L) (hA : Aj r (L ++ L)) {x y w : Rat} (h : Cn (· ∈ L) x y w) : Gd r L x y w := by
  induction h with
  | z => exact ⟨fun _ => .z, fun h => by unfold fv at h; grind⟩
  | add _ hp ht ih => exact gd_add ih (gd_gen hO hA hp ht)
end
theorem refGo_sub {r : Rw} : ∀ (l : List P2) (p c : P2), c ∈ l → c ∈ refGo r p l
  | [], _, _, h => by simp at h
  | d :: l, p, c, h => by
    rw [refGo]
    rcases List.mem_cons.mp h with rfl | h
    · simp
    · have := refGo_sub l d c h (r := r)
      simp [this]
theorem ref_sub {r : Rw} {P : List P2} {c : P2} (h : c ∈ P) : c ∈ ref r P := by
  unfold ref
  cases e : P.getLast? with
  | none => rw [List.getLast?_eq_none_iff] at e; subst e; simp at h
  | some e0 => exact refGo_sub P e0 c h
theorem clip_keeps {r : Rw} {P : List P2} (hO : Od P) {x y w : Rat} (h : Cn (· ∈ P) x y w) (hr : 0 ≤ fv r x y w) : Cn (· ∈ clip r P) x y w := by
  have h1 := h.imp (T := (· ∈ ref r P)) fun p m => ref_sub m
  have h2 := (gd_all (od_ref hO) aj_ref h1).1 hr
  refine h2.imp fun p m => ?_
  rw [clip_eq, List.mem_filter]
  exact ⟨m.1, decide_eq_true m.2⟩
def clips : List Rw → List P2 → List P2
  | [], P => P
  | r :: rs, P => clips rs (clip r P)
theorem clips_keep : ∀ (rs : List Rw) {P : List P2}, Od P → ∀ {x y w : Rat}, Cn (· ∈ P) x y w → (∀ r ∈ rs, 0 ≤ fv r x y w) → Cn (· ∈ clips rs P) x y w
  | [], _, _, _, _, _, h, _ => h
  | r :: rs, P, hO, x, y, w, h, hr => clips_keep rs (od_clip hO) (clip_keeps hO h (hr r (by simp))) fun q m => hr q (by simp [m])
def cell (b : Bool) : List P2 := if b = true then [(0, 0), (0, 1), (1, 1)] else [(0, 0), (0, 1), (1, 1), (1, 0)]
theorem sub_cons {a x : P2} {S l : List P2} (h : (a :: S).Sublist (x :: l)) : (a :: S).Sublist l ∨ (a = x ∧ S.Sublist l) := by
  rcases List.sublist_cons_iff.mp h with h | ⟨r, e, h⟩
  · exact .inl h
  · simp only [List.cons.injEq] at e; exact .inr ⟨e.1, e.2 ▸ h⟩
theorem sub1 {a x : P2} {l : List P2} (h : [a].Sublist (x :: l)) : a = x ∨ [a].Sublist l := sub_one h
theorem not_sub {a : P2} {S : List P2} : ¬ (a :: S).Sublist [] := fun h => by simp at h
theorem od_cell (b : Bool) : Od (cell b) := by
  have sq : Od [(0, 0), (0, 1), (1, 1), (1, 0)] := by
    intro a b c h
    have fin : ∀ {a b c : P2}, (a = (0, 0) ∧ b = (0, 1) ∧ c = (1, 1)) ∨ (a = (0, 0) ∧ b = (0, 1) ∧ c = (1, 0)) ∨ (a = (0, 0) ∧ b = (1, 1) ∧ c = (1, 0)) ∨ (a = (0, 1) ∧ b = (1, 1) ∧ c = (1, 0)) → 0 ≤ dt a b c := by
      rintro a b c (⟨rfl, rfl, rfl⟩ | ⟨rfl, rfl, rfl⟩ | ⟨rfl, rfl, rfl⟩ | ⟨rfl, rfl, rfl⟩) <;> (unfold dt; decide +kernel)
    apply fin
    rcases sub_cons h with h | ⟨ea, h⟩
    · rcases sub_cons h with h | ⟨ea, h⟩
      · have := h.length_le; simp at this
      · rcases sub_cons h with h | ⟨eb, h⟩
        · have := h.length_le; simp at this
        · rcases sub1 h with ec | h
          · exact .inr (.inr (.inr ⟨ea, eb, ec⟩))
          · exact absurd h not_sub
    · rcases sub_cons h with h | ⟨eb, h⟩
      · rcases sub_cons h with h | ⟨eb, h⟩
        · have := h.length_le; simp at this
        · rcases sub1 h with ec | h
          · exact .inr (.inr (.inl ⟨ea, eb, ec⟩))
          · exact absurd h not_sub
      · rcases sub1 h with ec | h
        · exact .inl ⟨ea, eb, ec⟩
        · rcases sub1 h with ec | h
          · exact .inr (.inl ⟨ea, eb, ec⟩)
          · exact absurd h not_sub
  cases b with
  | false => exact sq
  | true => exact sq.sub (List.Sublist.cons₂ _ (List.Sublist.cons₂ _ (List.Sublist.cons₂ _ (List.nil_sublist _))))
theorem in_cell {b : Bool} {u v : Rat} (u0 : 0 ≤ u) (u1 : u ≤ 1) (v0 : 0 ≤ v) (v1 : v ≤ 1) (h : b = true → u ≤ v) : Cn (· ∈ cell b) 1 u v := by
  cases b with
  | true =>
    have h := h rfl
    have a1 := Cn.one (S := (· ∈ cell true)) (p := (0, 0)) (t := 1 - v) (by simp [cell]) (by grind)
    have a2 := Cn.one (S := (· ∈ cell true)) (p := (0, 1)) (t := v - u) (by simp [cell]) (by grind)
    have a3 := Cn.one (S := (· ∈ cell true)) (p := (1, 1)) (t := u) (by simp [cell]) (by grind)
    exact ((a1.plus a2).plus a3).cast (by grind) (by grind) (by grind)
  | false =>
    have m1 := Rat.mul_nonneg (show 0 ≤ 1 - u by grind) (show 0 ≤ 1 - v by grind)
    have m2 := Rat.mul_nonneg (show 0 ≤ 1 - u by grind) v0
    have m3 := Rat.mul_nonneg u0 v0
    have m4 := Rat.mul_nonneg u0 (show 0 ≤ 1 - v by grind)
    have a1 := Cn.one (S := (· ∈ cell false)) (p := (0, 0)) (by simp [cell]) m1
    have a2 := Cn.one (S := (· ∈ cell false)) (p := (0, 1)) (by simp [cell]) m2
    have a3 := Cn.one (S := (· ∈ cell false)) (p := (1, 1)) (by simp [cell]) m3
    have a4 := Cn.one (S := (· ∈ cell false)) (p := (1, 0)) (by simp [cell]) m4
    exact (((a1.plus a2).plus a3).plus a4).cast (by grind) (by grind) (by grind)
theorem clips_some {rs : List Rw} {b : Bool} {u v : Rat} (u0 : 0 ≤ u) (u1 : u ≤ 1) (v0 : 0 ≤ v) (v1 : v ≤ 1) (h : b = true → u ≤ v) (hr : ∀ r ∈ rs, 0 ≤ val r (u, v)) : clips rs (cell b) ≠ [] := by
  have k := clips_keep rs (od_cell b) (in_cell u0 u1 v0 v1 h) fun r m => by
    have := hr r m
    unfold fv; unfold val at this; grind
  obtain ⟨p, hp⟩ := k.some (by decide)
  intro z; rw [z] at hp; simp at hp
theorem clip_conv {r q : Rw} {P : List P2} (h : ∀ p ∈ P, 0 ≤ val q p) : ∀ p ∈ clip r P, 0 ≤ val q p := by
  have go : ∀ (l : List P2) (e : P2), 0 ≤ val q e → (∀ p ∈ l, 0 ≤ val q p) → ∀ p ∈ refGo r e l, 0 ≤ val q p := by
    intro l
    induction l with
    | nil => intro e _ _ p m; simp [refGo] at m
    | cons c l ih =>
      intro e he hl p m
      rw [refGo] at m
      rcases List.mem_append.mp m with m | m
      · split at m
        · rename_i hs
          simp at m; subst m
          obtain ⟨t0, t1⟩ := part_01 hs
          rw [crs_mid]
          have e1 : val q (mid (val r e / (val r e - val r c)) e c) = (1 - val r e / (val r e - val r c)) * val q e + val r e / (val r e - val r c) * val q c := by
            generalize val r e / (val r e - val r c) = t
            unfold val mid; grind
          rw [e1]
          exact mix_nonneg (Rat.le_of_lt t0) (Rat.le_of_lt t1) he (hl c (by simp))
        · simp at m
      · rcases List.mem_cons.mp m with rfl | m
        · exact hl p (by simp)
        · exact ih c (hl c (by simp)) (fun x hx => hl x (by simp [hx])) p m
  intro p m
  rw [clip_eq] at m
  have m := (List.mem_filter.mp m).1
  unfold ref at m
  cases e : P.getLast? with
  | none => rw [e] at m; simp at m
  | some e0 =>
    rw [e] at m
    exact go P e0 (h e0 (List.mem_of_getLast? e)) h p m
theorem clip_row {r : Rw} {P : List P2} : ∀ p ∈ clip r P, 0 ≤ val r p := fun p m => by
  rw [clip_eq] at m
  exact of_decide_eq_true (List.mem_filter.mp m).2
theorem clips_conv {q : Rw} : ∀ (rs : List Rw) {P : List P2}, (∀ p ∈ P, 0 ≤ val q p) → ∀ p ∈ clips rs P, 0 ≤ val q p
  | [], _, h => h
  | _ :: rs, _, h => clips_conv rs (clip_conv h)
theorem clips_rows : ∀ (rs : List Rw) {P : List P2}, ∀ r ∈ rs, ∀ p ∈ clips rs P, 0 ≤ val r p
  | r :: rs, P, q, hq, p, hp => by
    rcases List.mem_cons.mp hq with rfl | hq
    · exact clips_conv rs clip_row p hp
    · exact clips_rows rs q hq p hp
theorem clips_cell {rs : List Rw} {b : Bool} : ∀ p ∈ clips rs (cell b), (0 ≤ p.1 ∧ p.1 ≤ 1 ∧ 0 ≤ p.2 ∧ p.2 ≤ 1) ∧ (b = true → p.1 ≤ p.2) := fun p hp => by
  have c : ∀ p ∈ cell b, (0 ≤ p.1 ∧ p.1 ≤ 1 ∧ 0 ≤ p.2 ∧ p.2 ≤ 1) ∧ (b = true → p.1 ≤ p.2) := by
    cases b with
    | true => intro p m; simp [cell] at m; rcases m with rfl | rfl | rfl <;> simp <;> decide
    | false => intro p m; simp [cell] at m; rcases m with rfl | rfl | rfl | rfl <;> simp <;> decide
  have k := fun (q : Rw) (h : ∀ p ∈ cell b, 0 ≤ val q p) => clips_conv (q := q) rs h p hp
  have k1 := k (0, 1, 0) fun p m => by have := (c p m).1; unfold val; grind
  have k2 := k (1, -1, 0) fun p m => by have := (c p m).1; unfold val; grind
  have k3 := k (0, 0, 1) fun p m => by have := (c p m).1; unfold val; grind
  have k4 := k (1, 0, -1) fun p m => by have := (c p m).1; unfold val; grind
  have k5 := fun hb : b = true => k (0, -1, 1) fun p m => by have := (c p m).2 hb; unfold val; grind
  unfold val at k1 k2 k3 k4 k5
  refine ⟨⟨by grind, by grind, by grind, by grind⟩, fun hb => ?_⟩
  have := k5 hb
  grind
end Tp
namespace Tp
def pw (W : Rat → Rat) (x y : Rat) : Nat → Rat
  | 0 => W x
  | 1 => W y - W x
  | _ => W 1 - W y
structure Wf (C : Nat) (W : Rat → Rat) : Prop where
  z : W 0 = 0
  p : 0 < W 1
  m : ∀ x y, 0 ≤ x → x ≤ y → y ≤ 1 → W x ≤ W y
  l : ∀ x y, 0 ≤ x → x ≤ y → y ≤ 1 → W y - W x ≤ (C : Rat) * (y - x)
def best (W : Rat → Rat) (x y : Rat) : Nat := if pw W x y 1 ≤ pw W x y 0 ∧ pw W x y 2 ≤ pw W x y 0 then 0 else if pw W x y 2 ≤ pw W x y 1 then 1 else 2
theorem best_lt (W : Rat → Rat) (x y : Rat) : best W x y < 3 := by unfold best; split <;> (try split) <;> decide
theorem best_is (W : Rat → Rat) (x y : Rat) : ∀ q, q < 3 → pw W x y q ≤ pw W x y (best W x y) := by
  intro q hq
  have h : q = 0 ∨ q = 1 ∨ q = 2 := by omega
  unfold best
  split
  · rename_i c; rcases h with rfl | rfl | rfl <;> grind
  · split
    · rename_i c d; rcases h with rfl | rfl | rfl <;> grind
    · rename_i c d; rcases h with rfl | rfl | rfl <;> grind
theorem best_pos {C : Nat} {W : Rat → Rat} (h : Wf C W) (x y : Rat) : 0 < pw W x y (best W x y) := by
  have h0 := best_is W x y 0 (by decide)
  have h1 := best_is W x y 1 (by decide)
  have h2 := best_is W x y 2 (by decide)
  have hp := h.p
  generalize pw W x y (best W x y) = b at *
  have e0 : pw W x y 0 = W x := rfl
  have e1 : pw W x y 1 = W y - W x := rfl
  have e2 : pw W x y 2 = W 1 - W y := rfl
  grind
def ords : List (List Nat) := [[0, 1, 2], [0, 2, 1], [1, 0, 2], [1, 2, 0], [2, 0, 1], [2, 1, 0]]
theorem ord_of : ∀ s p0 p1 p2 : Nat, s < 3 → p0 < 3 → p1 < 3 → p2 < 3 → (p0 ≠ p1 ∧ p1 ≠ p2 ∧ p0 ≠ p2) → ∃ o ∈ ords, o.getD p0 0 = s ∧ o.getD p1 0 = (s + 1) % 3 ∧ o.getD p2 0 = (s + 2) % 3 := by
  have h : ∀ s p0 p1 p2 : Fin 3, (p0.1 ≠ p1.1 ∧ p1.1 ≠ p2.1 ∧ p0.1 ≠ p2.1) → ∃ o ∈ ords, o.getD p0.1 0 = s.1 ∧ o.getD p1.1 0 = (s.1 + 1) % 3 ∧ o.getD p2.1 0 = (s.1 + 2) % 3 := by decide +kernel
  intro s p0 p1 p2 a b c d e
  exact h ⟨s, a⟩ ⟨p0, b⟩ ⟨p1, c⟩ ⟨p2, d⟩ e
theorem pw_near {C : Nat} {W : Rat → Rat} (h : Wf C W) {x y x' y' d : Rat} (x0 : 0 ≤ x) (y1 : y ≤ 1) (hx : x ≤ y) (x0' : x ≤ x') (dx : x' ≤ x + d) (y0' : y ≤ y') (dy : y' ≤ y + d) (y1' : y' ≤ 1) (hx' : x' ≤ y') (q : Nat) :
    pw W x' y' q ≤ pw W x y q + (C : Rat) * d ∧ pw W x y q ≤ pw W x' y' q + (C : Rat) * d := by
  have hC : (0 : Rat) ≤ (C : Rat) := Rat.natCast_nonneg
  have a1 := h.m x x' x0 x0' (by grind)
  have a2 := h.l x x' x0 x0' (by grind)
  have b1 := h.m y y' (by grind) y0' y1'
  have b2 := h.l y y' (by grind) y0' y1'
  have c1 := Rat.mul_le_mul_of_nonneg_left (show x' - x ≤ d by grind) hC
  have c2 := Rat.mul_le_mul_of_nonneg_left (show y' - y ≤ d by grind) hC
  have hd : 0 ≤ (C : Rat) * d := Rat.mul_nonneg hC (by grind)
  match q with
  | 0 => unfold pw; constructor <;> grind
  | 1 => unfold pw; constructor <;> grind
  | (q + 2) => unfold pw; constructor <;> grind
theorem frac_in {i N : Nat} (hN : 0 < N) (h : i ≤ N) : 0 ≤ (i : Rat) / N ∧ (i : Rat) / N ≤ 1 := by
  have hn : (0 : Rat) < (N : Rat) := Rat.natCast_pos.mpr hN
  have e := div_mul_self (a := (i : Rat)) (b := (N : Rat)) (by grind)
  have h0 : (0 : Rat) ≤ (i : Rat) := Rat.natCast_nonneg
  have h1 : (i : Rat) ≤ N := Rat.natCast_le_natCast.mpr h
  generalize (i : Rat) / N = t at *
  constructor
  · apply Classical.byContradiction; intro c
    have := Rat.mul_pos (show 0 < -t by grind) hn; grind
  · apply Classical.byContradiction; intro c
    have := Rat.mul_pos (show 0 < t - 1 by grind) hn; grind
theorem frac_le {i j N : Nat} (hN : 0 < N) (h : i ≤ j) : (i : Rat) / N ≤ (j : Rat) / N := by
  have hn : (0 : Rat) < (N : Rat) := Rat.natCast_pos.mpr hN
  have e := div_mul_self (a := (i : Rat)) (b := (N : Rat)) (by grind)
  have e2 := div_mul_self (a := (j : Rat)) (b := (N : Rat)) (by grind)
  have h1 : (i : Rat) ≤ j := Rat.natCast_le_natCast.mpr h
  generalize (i : Rat) / N = t at *
  generalize (j : Rat) / N = s at *
  apply Classical.byContradiction; intro c
  have := Rat.mul_pos (show 0 < t - s by grind) hn; grind
theorem frac_succ {i N : Nat} (hN : 0 < N) : ((i + 1 : Nat) : Rat) / N = (i : Rat) / N + 1 / N := by
  have : ((i + 1 : Nat) : Rat) = (i : Rat) + 1 := by rw [Rat.natCast_add]; rfl
  rw [this, Rat.div_def, Rat.div_def, Rat.div_def]; grind
theorem frac_top {N : Nat} (hN : 0 < N) : (N : Rat) / N = 1 := by
  have hn : (0 : Rat) < (N : Rat) := Rat.natCast_pos.mpr hN
  have e := div_mul_self (a := (N : Rat)) (b := (N : Rat)) (by grind)
  generalize (N : Rat) / N = t at *
  have : (t - 1) * N = 0 := by grind
  rcases Rat.mul_eq_zero.mp this with h | h <;> grind
theorem frac_nul {N : Nat} : ((0 : Nat) : Rat) / N = 0 := by
  rw [Rat.div_def]
  have : ((0 : Nat) : Rat) = 0 := rfl
  rw [this]; grind
theorem approx {C : Nat} (W : Nat → Rat → Rat) (hW : ∀ h, h < 3 → Wf C (W h)) {N : Nat} (hN : 0 < N) :
    ∃ x y, 0 ≤ x ∧ x ≤ y ∧ y ≤ 1 ∧ ∃ o ∈ ords, ∀ p q, p < 3 → q < 3 → pw (W (o.getD p 0)) x y q ≤ pw (W (o.getD p 0)) x y p + ((2 * C : Nat) : Rat) * (1 / (N : Rat)) := by
  obtain ⟨i, j, hij, hj, hf⟩ := sperner hN (fun i j => best (W ((i + j) % 3)) ((i : Rat) / N) ((j : Rat) / N)) (fun i j _ _ => best_lt ..) (fun j hj e => by
      have := best_pos (hW _ (Nat.mod_lt (0 + j) (by decide))) (((0 : Nat) : Rat) / N) ((j : Rat) / N)
      rw [e, frac_nul] at this
      have z := (hW _ (Nat.mod_lt (0 + j) (by decide))).z
      unfold pw at this
      grind) (fun i hi e => by
      have := best_pos (hW _ (Nat.mod_lt (i + i) (by decide))) ((i : Rat) / N) ((i : Rat) / N)
      rw [e] at this
      unfold pw at this
      grind) (fun i hi e => by
      have := best_pos (hW _ (Nat.mod_lt (i + N) (by decide))) ((i : Rat) / N) ((N : Rat) / N)
      rw [e, frac_top hN] at this
      unfold pw at this
      grind)
  have hn : (0 : Rat) < (N : Rat) := Rat.natCast_pos.mpr hN
  have h1n : 0 < 1 / (N : Rat) := by
    rw [Rat.div_def, Rat.one_mul]; exact Rat.inv_pos.mpr hn
  obtain ⟨i0, i1⟩ := frac_in hN (show i ≤ N by omega)
  obtain ⟨j0, j1⟩ := frac_in hN (show j ≤ N by omega)
  obtain ⟨k0, k1⟩ := frac_in hN (show j + 1 ≤ N by omega)
  have lij := frac_le hN hij (N := N)
  have sj := frac_succ (i := j) hN
  have si := frac_succ (i := i) hN
  have lij2 := frac_le hN (show i + 1 ≤ j + 1 by omega) (N := N)
  have lij3 := frac_le hN (show i ≤ j + 1 by omega) (N := N)
  have near : ∀ (h : Nat), h < 3 → ∀ (x' y' : Rat), (i : Rat) / N ≤ x' → x' ≤ (i : Rat) / N + 1 / N → (j : Rat) / N ≤ y' → y' ≤ (j : Rat) / N + 1 / N → y' ≤ 1 → x' ≤ y' → ∀ q, q < 3 → pw (W h) ((i : Rat) / N) ((j : Rat) / N) q ≤ pw (W h) ((i : Rat) / N) ((j : Rat) / N) (best (W h) x' y') + ((2 * C : Nat) : Rat) * (1 / (N : Rat)) := by
    intro h hh x' y' a1 a2 a3 a4 a5 a6 q hq
    have n1 := (pw_near (hW h hh) i0 j1 lij a1 a2 a3 a4 a5 a6 q).2
    have n2 := (pw_near (hW h hh) i0 j1 lij a1 a2 a3 a4 a5 a6 (best (W h) x' y')).1
    have n3 := best_is (W h) x' y' q hq
    have e : ((2 * C : Nat) : Rat) = 2 * (C : Rat) := by rw [Rat.natCast_mul]; rfl
    rw [e]
    grind
  refine ⟨(i : Rat) / N, (j : Rat) / N, i0, lij, j1, ?_⟩
  have fin : ∀ p0 p1 p2 : Nat, p0 < 3 → p1 < 3 → p2 < 3 → (p0 ≠ p1 ∧ p1 ≠ p2 ∧ p0 ≠ p2) →
      (∀ q, q < 3 → pw (W ((i + j) % 3)) ((i : Rat) / N) ((j : Rat) / N) q ≤ pw (W ((i + j) % 3)) ((i : Rat) / N) ((j : Rat) / N) p0 + ((2 * C : Nat) : Rat) * (1 / (N : Rat))) →
      (∀ q, q < 3 → pw (W ((i + j + 1) % 3)) ((i : Rat) / N) ((j : Rat) / N) q ≤ pw (W ((i + j + 1) % 3)) ((i : Rat) / N) ((j : Rat) / N) p1 + ((2 * C : Nat) : Rat) * (1 / (N : Rat))) →
      (∀ q, q < 3 → pw (W ((i + j + 2) % 3)) ((i : Rat) / N) ((j : Rat) / N) q ≤ pw (W ((i + j + 2) % 3)) ((i : Rat) / N) ((j : Rat) / N) p2 + ((2 * C : Nat) : Rat) * (1 / (N : Rat))) →
      ∃ o ∈ ords, ∀ p q, p < 3 → q < 3 → pw (W (o.getD p 0)) ((i : Rat) / N) ((j : Rat) / N) q ≤ pw (W (o.getD p 0)) ((i : Rat) / N) ((j : Rat) / N) p + ((2 * C : Nat) : Rat) * (1 / (N : Rat)) := by
    intro p0 p1 p2 b0 b1 b2 hd g0 g1 g2
    obtain ⟨o, ho, e0, e1, e2⟩ := ord_of ((i + j) % 3) p0 p1 p2 (Nat.mod_lt _ (by decide)) b0 b1 b2 hd
    refine ⟨o, ho, fun p q hp hq => ?_⟩
    have m1 : ((i + j) % 3 + 1) % 3 = (i + j + 1) % 3 := by omega
    have m2 : ((i + j) % 3 + 2) % 3 = (i + j + 2) % 3 := by omega
    rw [m1] at e1
    rw [m2] at e2
    have : p = p0 ∨ p = p1 ∨ p = p2 := by omega
    rcases this with rfl | rfl | rfl
    · rw [e0]; exact g0 q hq
    · rw [e1]; exact g1 q hq
    · rw [e2]; exact g2 q hq
  have A0 := near _ (Nat.mod_lt (i + j) (by decide)) _ _ Rat.le_refl (by grind) Rat.le_refl (by grind) j1 lij
  rcases hf with ⟨f1, f2, f3⟩ | ⟨hlt, f1, f2, f3⟩
  · have A1 := near _ (Nat.mod_lt (i + (j + 1)) (by decide)) ((i : Rat) / N) (((j + 1 : Nat) : Rat) / N) Rat.le_refl (by grind) (by grind) (by grind) k1 lij3
    have A2 := near _ (Nat.mod_lt (i + 1 + (j + 1)) (by decide)) (((i + 1 : Nat) : Rat) / N) (((j + 1 : Nat) : Rat) / N) (by grind) (by grind) (by grind) (by grind) k1 lij2
    simp only at f1 f2 f3
    have q1 : i + (j + 1) = i + j + 1 := by omega
    have q2 : i + 1 + (j + 1) = i + j + 2 := by omega
    rw [q1] at A1 f1 f2
    rw [q2] at A2 f2 f3
    exact fin _ _ _ (best_lt ..) (best_lt ..) (best_lt ..) ⟨f1, f2, f3⟩ A0 A1 A2
  · have lij4 := frac_le hN (show i + 1 ≤ j by omega) (N := N)
    have A1 := near _ (Nat.mod_lt (i + 1 + j) (by decide)) (((i + 1 : Nat) : Rat) / N) ((j : Rat) / N) (by grind) (by grind) Rat.le_refl (by grind) j1 lij4
    have A2 := near _ (Nat.mod_lt (i + 1 + (j + 1)) (by decide)) (((i + 1 : Nat) : Rat) / N) (((j + 1 : Nat) : Rat) / N) (by grind) (by grind) (by grind) (by grind) k1 lij2
    simp only at f1 f2 f3
    have q1 : i + 1 + j = i + j + 1 := by omega
    have q2 : i + 1 + (j + 1) = i + j + 2 := by omega
    rw [q1] at A1 f1 f2
    rw [q2] at A2 f2 f3
    exact fin _ _ _ (best_lt ..) (best_lt ..) (best_lt ..) ⟨f1, f2, f3⟩ A0 A1 A2
end Tp
namespace Tp
def prow (S : Nat → Rat) (n i j : Nat) : Nat → Rw
  | 0 => (S i, S (i + 1) - S i, 0)
  | 1 => (S j - S i, -(S (i + 1) - S i), S (j + 1) - S j)
  | _ => (S n - S j, 0, -(S (j + 1) - S j))
def rsub (a b : Rw) : Rw := (a.1 - b.1, a.2.1 - b.2.1, a.2.2 - b.2.2)
theorem val_rsub (a b : Rw) (p : P2) : val (rsub a b) p = val a p - val b p := by unfold val rsub; grind
def wishs (S : Nat → Nat → Rat) (n i j : Nat) (o : List Nat) : List Rw :=
  [rsub (prow (S (o.getD 0 0)) n i j 0) (prow (S (o.getD 0 0)) n i j 1), rsub (prow (S (o.getD 0 0)) n i j 0) (prow (S (o.getD 0 0)) n i j 2),
   rsub (prow (S (o.getD 1 0)) n i j 1) (prow (S (o.getD 1 0)) n i j 0), rsub (prow (S (o.getD 1 0)) n i j 1) (prow (S (o.getD 1 0)) n i j 2),
   rsub (prow (S (o.getD 2 0)) n i j 2) (prow (S (o.getD 2 0)) n i j 0), rsub (prow (S (o.getD 2 0)) n i j 2) (prow (S (o.getD 2 0)) n i j 1)]
structure Cells (e : Nat → Rat) (n : Nat) (W : Nat → Rat → Rat) : Prop where
  n0 : 0 < n
  a : e 0 = 0
  b : e n = 1
  lt : ∀ k, k < n → e k < e (k + 1)
  aff : ∀ h, h < 3 → ∀ k, k < n → ∀ t, 0 ≤ t → t ≤ 1 → W h (e k + (e (k + 1) - e k) * t) = W h (e k) + (W h (e (k + 1)) - W h (e k)) * t
variable {e : Nat → Rat} {n : Nat} {W : Nat → Rat → Rat}
theorem Cells.mono (c : Cells e n W) : ∀ {j i : Nat}, i ≤ j → j ≤ n → e i ≤ e j
  | 0, i, h, _ => by have : i = 0 := by omega
                     subst this; exact Rat.le_refl
  | j + 1, i, h, hj => by
    by_cases q : i = j + 1
    · subst q; exact Rat.le_refl
    · exact Rat.le_trans (Cells.mono c (show i ≤ j by omega) (by omega)) (Rat.le_of_lt (c.lt j (by omega)))
theorem Cells.find (c : Cells e n W) {x : Rat} (h0 : 0 ≤ x) (h1 : x ≤ 1) : ∃ k t, k < n ∧ 0 ≤ t ∧ t ≤ 1 ∧ x = e k + (e (k + 1) - e k) * t := by
  have go : ∀ m, m ≤ n → x ≤ e m → 0 < m → ∃ k, k < m ∧ e k ≤ x ∧ x ≤ e (k + 1) := by
    intro m
    induction m with
    | zero => intro _ _ h; omega
    | succ m ih =>
      intro hm hx _
      by_cases q : e m ≤ x
      · exact ⟨m, by omega, q, hx⟩
      · by_cases z : m = 0
        · subst z; rw [c.a] at q; exact absurd h0 q
        · obtain ⟨k, a, b, d⟩ := ih (by omega) (by grind) (by omega)
          exact ⟨k, by omega, b, d⟩
  obtain ⟨k, hk, a, b⟩ := go n (Nat.le_refl _) (by rw [c.b]; exact h1) c.n0
  have hl := c.lt k hk
  have e1 := div_mul_self (a := x - e k) (b := e (k + 1) - e k) (by grind)
  refine ⟨k, (x - e k) / (e (k + 1) - e k), hk, ?_, ?_, by grind⟩
  · apply Classical.byContradiction; intro q
    have := Rat.mul_pos (show 0 < -((x - e k) / (e (k + 1) - e k)) by grind) (show 0 < e (k + 1) - e k by grind)
    grind
  · apply Classical.byContradiction; intro q
    have := Rat.mul_pos (show 0 < (x - e k) / (e (k + 1) - e k) - 1 by grind) (show 0 < e (k + 1) - e k by grind)
    grind
theorem Cells.two (c : Cells e n W) {x y : Rat} (h0 : 0 ≤ x) (h : x ≤ y) (h1 : y ≤ 1) : ∃ i j u v, i ≤ j ∧ j < n ∧ 0 ≤ u ∧ u ≤ 1 ∧ 0 ≤ v ∧ v ≤ 1 ∧ (i = j → u ≤ v) ∧ x = e i + (e (i + 1) - e i) * u ∧ y = e j + (e (j + 1) - e j) * v := by
  obtain ⟨i, u, hi, u0, u1, eu⟩ := c.find h0 (Rat.le_trans h h1)
  obtain ⟨j, v, hj, v0, v1, ev⟩ := c.find (Rat.le_trans h0 h) h1
  have li := c.lt i hi
  have lj := c.lt j hj
  rcases Nat.lt_trichotomy i j with q | q | q
  · exact ⟨i, j, u, v, by omega, hj, u0, u1, v0, v1, fun z => by omega, eu, ev⟩
  · subst q
    refine ⟨i, i, u, v, Nat.le_refl _, hi, u0, u1, v0, v1, fun _ => ?_, eu, ev⟩
    apply Classical.byContradiction; intro z
    have := Rat.mul_pos (show 0 < u - v by grind) (show 0 < e (i + 1) - e i by grind)
    grind
  · have m := c.mono (show j + 1 ≤ i by omega) (by omega)
    have b1 := Rat.mul_nonneg u0 (show 0 ≤ e (i + 1) - e i by grind)
    have b2 := Rat.mul_nonneg (show 0 ≤ 1 - v by grind) (show 0 ≤ e (j + 1) - e j by grind)
    have ex : x = e i := by grind
    have ey : y = e i := by grind
    exact ⟨i, i, 0, 0, Nat.le_refl _, hi, by decide, by decide, by decide, by decide, fun _ => Rat.le_refl, by grind, by grind⟩
theorem prow_val (c : Cells e n W) {h : Nat} (hh : h < 3) {i j : Nat} (hi : i < n) (hj : j < n) {u v : Rat} (u0 : 0 ≤ u) (u1 : u ≤ 1) (v0 : 0 ≤ v) (v1 : v ≤ 1) (K : Rat) (z : W h 0 = 0) (p : Nat) :
    val (prow (fun k => K * W h (e k)) n i j p) (u, v) = K * pw (W h) (e i + (e (i + 1) - e i) * u) (e j + (e (j + 1) - e j) * v) p := by
  have a1 := c.aff h hh i hi u u0 u1
  have a2 := c.aff h hh j hj v v0 v1
  have b := c.b
  match p with
  | 0 => unfold val prow pw; grind
  | 1 => unfold val prow pw; grind
  | p + 2 => unfold val prow pw; grind
theorem exist3 {C : Nat} (c : Cells e n W) (hW : ∀ h, h < 3 → Wf C (W h)) (K : Nat → Rat) (hK : ∀ h, h < 3 → 0 ≤ K h) :
    ∃ i j o u v, i ≤ j ∧ j < n ∧ o ∈ ords ∧ 0 ≤ u ∧ u ≤ 1 ∧ 0 ≤ v ∧ v ≤ 1 ∧ (i = j → u ≤ v) ∧ ∀ r ∈ wishs (fun h k => K h * W h (e k)) n i j o, 0 ≤ val r (u, v) := by
  have hA := fun N (hN : 0 < N) => approx W hW hN
  generalize hDD : ((2 * C : Nat) : Rat) = DD at hA
  have hD0 : 0 ≤ DD := by rw [← hDD]; exact Rat.natCast_nonneg
  let up : Nat → Nat → Rw → Fm := fun _ _ r => (r.1, r.2.1, r.2.2, (K 0 + K 1 + K 2) * DD)
  let box : Nat → Nat → List Fm := fun i j => [(0, 1, 0, 0), (1, -1, 0, 0), (0, 0, 1, 0), (1, 0, -1, 0)] ++ if i = j then [(0, -1, 1, 0)] else []
  let Lf : Nat → Nat → List Nat → List Fm := fun i j o => box i j ++ (wishs (fun h k => K h * W h (e k)) n i j o).map (up i j)
  let all : List (List Fm) := (List.range n).flatMap fun i => (List.range n).flatMap fun j => if i ≤ j then ords.map (Lf i j) else []
  have hmem : ∀ L, L ∈ all ↔ ∃ i j o, i ≤ j ∧ j < n ∧ o ∈ ords ∧ L = Lf i j o := by
    intro L
    constructor
    · intro h
      obtain ⟨i, hi, h⟩ := List.mem_flatMap.mp h
      obtain ⟨j, hj, h⟩ := List.mem_flatMap.mp h
      split at h
      · rename_i hij
        obtain ⟨o, ho, rfl⟩ := List.mem_map.mp h
        exact ⟨i, j, o, hij, List.mem_range.mp hj, ho, rfl⟩
      · simp at h
    · rintro ⟨i, j, o, hij, hj, ho, rfl⟩
      refine List.mem_flatMap.mpr ⟨i, List.mem_range.mpr (by omega), List.mem_flatMap.mpr ⟨j, List.mem_range.mpr hj, ?_⟩⟩
      rw [if_pos hij]
      exact List.mem_map.mpr ⟨o, ho, rfl⟩
  have o3 : ∀ o ∈ ords, ∀ p, p < 3 → o.getD p 0 < 3 := by decide +kernel
  obtain ⟨L, hL, u, v, hf⟩ := close_some all fun N hN => by
    obtain ⟨x, y, x0, xy, y1, o, ho, hE⟩ := hA N hN
    obtain ⟨i, j, u, v, hij, hj, u0, u1, v0, v1, huv, ex, ey⟩ := c.two x0 xy y1
    refine ⟨Lf i j o, (hmem _).mpr ⟨i, j, o, hij, hj, ho, rfl⟩, u, v, fun f hf => ?_⟩
    rcases List.mem_append.mp hf with hf | hf
    · rcases List.mem_append.mp hf with hf | hf
      · simp only [List.mem_cons, List.not_mem_nil, or_false] at hf
        rcases hf with rfl | rfl | rfl | rfl <;> (unfold ev; grind)
      · split at hf
        · rename_i q
          simp only [List.mem_cons, List.not_mem_nil, or_false] at hf
          subst hf
          have := huv q
          unfold ev; grind
        · simp at hf
    · obtain ⟨r, hr, rfl⟩ := List.mem_map.mp hf
      have key : ∀ p q, p < 3 → q < 3 → 0 ≤ ev (up i j (rsub (prow (fun k => K (o.getD p 0) * W (o.getD p 0) (e k)) n i j p) (prow (fun k => K (o.getD p 0) * W (o.getD p 0) (e k)) n i j q))) u v (1 / (N : Rat)) := by
        intro p q hp hq
        have hh := o3 o ho p hp
        have v1' := prow_val c hh (show i < n by omega) hj u0 u1 v0 v1 (K (o.getD p 0)) (hW _ hh).z p
        have v2' := prow_val c hh (show i < n by omega) hj u0 u1 v0 v1 (K (o.getD p 0)) (hW _ hh).z q
        rw [← ex, ← ey] at v1' v2'
        have hE' := hE p q hp hq
        have kk := hK _ hh
        have k0 := hK 0 (by decide)
        have k1 := hK 1 (by decide)
        have k2 := hK 2 (by decide)
        have ks : K (o.getD p 0) ≤ K 0 + K 1 + K 2 := by
          have : o.getD p 0 = 0 ∨ o.getD p 0 = 1 ∨ o.getD p 0 = 2 := by omega
          rcases this with z | z | z <;> rw [z] <;> grind
        have hn : (0 : Rat) < (N : Rat) := Rat.natCast_pos.mpr hN
        have hn1 : 0 < 1 / (N : Rat) := by rw [Rat.div_def, Rat.one_mul]; exact Rat.inv_pos.mpr hn
        have vs := val_rsub (prow (fun k => K (o.getD p 0) * W (o.getD p 0) (e k)) n i j p) (prow (fun k => K (o.getD p 0) * W (o.getD p 0) (e k)) n i j q) (u, v)
        rw [v1', v2'] at vs
        have e1 : ev (up i j (rsub (prow (fun k => K (o.getD p 0) * W (o.getD p 0) (e k)) n i j p) (prow (fun k => K (o.getD p 0) * W (o.getD p 0) (e k)) n i j q))) u v (1 / (N : Rat)) = val (rsub (prow (fun k => K (o.getD p 0) * W (o.getD p 0) (e k)) n i j p) (prow (fun k => K (o.getD p 0) * W (o.getD p 0) (e k)) n i j q)) (u, v) + (K 0 + K 1 + K 2) * DD * (1 / (N : Rat)) := rfl
        rw [e1, vs]
        generalize pw (W (o.getD p 0)) x y p = A at *
        generalize pw (W (o.getD p 0)) x y q = B at *
        generalize 1 / (N : Rat) = ee at *
        generalize K (o.getD p 0) = kh at *
        have m1 := Rat.mul_nonneg kk (show 0 ≤ A + DD * ee - B by grind)
        have m2 := Rat.mul_nonneg (Rat.mul_nonneg (show 0 ≤ K 0 + K 1 + K 2 - kh by grind) hD0) (Rat.le_of_lt hn1)
        grind
      simp only [wishs, List.mem_cons, List.not_mem_nil, or_false] at hr
      rcases hr with rfl | rfl | rfl | rfl | rfl | rfl
      · exact key 0 1 (by decide) (by decide)
      · exact key 0 2 (by decide) (by decide)
      · exact key 1 0 (by decide) (by decide)
      · exact key 1 2 (by decide) (by decide)
      · exact key 2 0 (by decide) (by decide)
      · exact key 2 1 (by decide) (by decide)
  obtain ⟨i, j, o, hij, hj, ho, rfl⟩ := (hmem L).mp hL
  have b1 := hf (0, 1, 0, 0) (by simp [Lf, box])
  have b2 := hf (1, -1, 0, 0) (by simp [Lf, box])
  have b3 := hf (0, 0, 1, 0) (by simp [Lf, box])
  have b4 := hf (1, 0, -1, 0) (by simp [Lf, box])
  unfold ev at b1 b2 b3 b4
  refine ⟨i, j, o, u, v, hij, hj, ho, by grind, by grind, by grind, by grind, fun q => ?_, fun r hr => ?_⟩
  · have b5 := hf (0, -1, 1, 0) (by simp [Lf, box, q])
    unfold ev at b5
    grind
  · have b6 := hf (up i j r) (List.mem_append_right _ (List.mem_map.mpr ⟨r, hr, rfl⟩))
    have e1 : ev (up i j r) u v 0 = val r (u, v) := by unfold ev val; grind
    rw [e1] at b6
    exact b6
end Tp
namespace Tp
theorem sumR_mul (c : Rat) (f : Nat → Rat) : ∀ k, sumR (fun i => f i * c) k = sumR f k * c
  | 0 => by simp [sumR]
  | k + 1 => by simp only [sumR, sumR_mul c f k]; grind
theorem sumR_mono {f g : Nat → Rat} : ∀ {k : Nat}, (∀ i, i < k → f i ≤ g i) → sumR f k ≤ sumR g k
  | 0, _ => Rat.le_refl
  | k + 1, h => by
    have a := sumR_mono (f := f) (g := g) (k := k) fun i hi => h i (by omega)
    have b := h k (by omega)
    simp only [sumR]; grind
theorem ovl_le {x y a b : Rat} (h : x ≤ y) : ovl x y a b ≤ y - x := by unfold ovl; grind
section
variable {rows : List (Int × Int)} (hr : RowsOk 8 rows)
include hr
theorem wq_zero : wq 0 0 rows = 0 := by
  have := wq_add (rows := rows) hr (x := 0) (y := 0) (z := 0) Rat.le_refl Rat.le_refl
  grind
theorem wq_diff {x y : Rat} (h0 : 0 ≤ x) (h : x ≤ y) : wq 0 y rows - wq 0 x rows = wq x y rows := by
  have := wq_add (rows := rows) hr (x := 0) (y := y) (z := x) h0 h
  grind
theorem wf_tab : ∃ C, Wf C (fun x => wq 0 x rows) := by
  have h1 : 0 ≤ sumR (fun i => vq rows i / (bq rows (i + 1) - bq rows i)) rows.length := sumR_nonneg fun i hi => by
    have a := vq_nonneg hr i
    have b := bq_lt hr hi
    have e := div_mul_self (a := vq rows i) (b := bq rows (i + 1) - bq rows i) (by grind)
    apply Classical.byContradiction; intro c
    have := Rat.mul_pos (show 0 < -(vq rows i / (bq rows (i + 1) - bq rows i)) by grind) (show 0 < bq rows (i + 1) - bq rows i by grind)
    grind
  generalize hS : sumR (fun i => vq rows i / (bq rows (i + 1) - bq rows i)) rows.length = S at h1
  refine ⟨S.ceil.toNat, wq_zero hr, ?_, fun x y h0 h _ => ?_, fun x y h0 h _ => ?_⟩
  · show 0 < wq 0 1 rows
    rw [wq_all hr]
    have : 0 < (rows.map (·.2)).sum := by
      have := hr.2.2.2
      have h2 : 0 ≤ (rows.map (·.2)).sum := sum_nonneg fun r m => (hr.2.2.1 r m).2.2.1
      omega
    exact Rat.intCast_pos.mpr this
  · have := wq_diff hr h0 h
    have := wq_nonneg hr x y
    show wq 0 x rows ≤ wq 0 y rows
    grind
  · show wq 0 y rows - wq 0 x rows ≤ _
    rw [wq_diff hr h0 h]
    have e1 : wq x y rows ≤ sumR (fun i => vq rows i / (bq rows (i + 1) - bq rows i) * (y - x)) rows.length := by
      refine sumR_mono fun i hi => ?_
      rw [wpart_ovl]
      have a := vq_nonneg hr i
      have b := bq_lt hr hi
      have e := div_mul_self (a := vq rows i) (b := bq rows (i + 1) - bq rows i) (by grind)
      have p : 0 ≤ vq rows i / (bq rows (i + 1) - bq rows i) := by
        apply Classical.byContradiction; intro c
        have := Rat.mul_pos (show 0 < -(vq rows i / (bq rows (i + 1) - bq rows i)) by grind) (show 0 < bq rows (i + 1) - bq rows i by grind)
        grind
      exact Rat.mul_le_mul_of_nonneg_left (ovl_le h) p
    rw [sumR_mul, hS] at e1
    have h2 : S ≤ (S.ceil : Rat) := Rat.le_ceil
    have h3 : (S.ceil : Rat) ≤ ((S.ceil.toNat : Int) : Rat) := Rat.intCast_le_intCast.mpr (Int.self_le_toNat _)
    have h4 : ((S.ceil.toNat : Int) : Rat) = ((S.ceil.toNat : Nat) : Rat) := rfl
    have := Rat.mul_le_mul_of_nonneg_right (Rat.le_trans h2 h3) (show 0 ≤ y - x by grind)
    grind
theorem wq_straight {a b : Rat} (a0 : 0 ≤ a) (hab : a < b) (b1 : b ≤ 1) (hn : ∀ i, i ≤ rows.length → bq rows i ≤ a ∨ b ≤ bq rows i) {t : Rat} (t0 : 0 ≤ t) (t1 : t ≤ 1) : wq 0 (a + (b - a) * t) rows = wq 0 a rows + (wq 0 b rows - wq 0 a rows) * t := by
  have key : ∀ i, i < rows.length → wpart 0 (a + (b - a) * t) rows i = wpart 0 a rows i * (1 - t) + wpart 0 b rows i * t := fun i hi => by
    rw [wpart_ovl, wpart_ovl, wpart_ovl]
    have lt := bq_lt hr hi
    have z := (bq_01 hr i).1
    have n1 := hn i (by omega)
    have n2 := hn (i + 1) (by omega)
    have m1 := Rat.mul_nonneg (show 0 ≤ b - a by grind) t0
    have m2 := Rat.mul_nonneg (show 0 ≤ b - a by grind) (show 0 ≤ 1 - t by grind)
    generalize bq rows i = p at *
    generalize bq rows (i + 1) = q at *
    have e : ovl 0 (a + (b - a) * t) p q = ovl 0 a p q * (1 - t) + ovl 0 b p q * t := by
      rcases n1 with n1 | n1
      · rcases n2 with n2 | n2
        · have e1 : ovl 0 (a + (b - a) * t) p q = q - p := by unfold ovl; grind
          have e2 : ovl 0 a p q = q - p := by unfold ovl; grind
          have e3 : ovl 0 b p q = q - p := by unfold ovl; grind
          rw [e1, e2, e3]; grind
        · have e1 : ovl 0 (a + (b - a) * t) p q = a + (b - a) * t - p := by unfold ovl; grind
          have e2 : ovl 0 a p q = a - p := by unfold ovl; grind
          have e3 : ovl 0 b p q = b - p := by unfold ovl; grind
          rw [e1, e2, e3]; grind
      · have e1 : ovl 0 (a + (b - a) * t) p q = 0 := by unfold ovl; grind
        have e2 : ovl 0 a p q = 0 := by unfold ovl; grind
        have e3 : ovl 0 b p q = 0 := by unfold ovl; grind
        rw [e1, e2, e3]; grind
    rw [e]; grind
  have e : wq 0 (a + (b - a) * t) rows = sumR (fun i => wpart 0 a rows i * (1 - t) + wpart 0 b rows i * t) rows.length := sumR_congr key
  rw [e, sumR_add, sumR_mul, sumR_mul]
  show wq 0 a rows * (1 - t) + wq 0 b rows * t = _
  grind
end
theorem Wf.up {C D : Nat} {W : Rat → Rat} (h : Wf C W) (k : C ≤ D) : Wf D W := ⟨h.z, h.p, h.m, fun x y a b c => by
  have := h.l x y a b c
  have h1 : (C : Rat) ≤ D := Rat.natCast_le_natCast.mpr k
  have := Rat.mul_le_mul_of_nonneg_right h1 (show 0 ≤ y - x by grind)
  grind⟩
theorem ris_first : ∀ {l : List Rat}, Ris l → 0 ∈ l → (∀ a ∈ l, 0 ≤ a) → l.getD 0 0 = 0
  | a :: l, h, m, p => by
    rcases List.mem_cons.mp m with e | m
    · subst e; rfl
    · have := (List.pairwise_cons.mp h).1 0 m
      have := p a (by simp)
      grind
theorem ris_last {l : List Rat} (h : Ris l) (m : 1 ∈ l) (p : ∀ a ∈ l, a ≤ 1) : l.getD (l.length - 1) 0 = 1 := by
  obtain ⟨i, hi, e⟩ := List.mem_iff_getElem.mp m
  have hl : l.length - 1 < l.length := by omega
  rw [List.getD_eq_getElem?_getD, List.getElem?_eq_getElem hl]
  show l[l.length - 1] = 1
  by_cases z : i = l.length - 1
  · subst z; exact e
  · have := List.pairwise_iff_getElem.mp h i (l.length - 1) hi hl (by omega)
    have := p _ (List.getElem_mem hl)
    grind
theorem cells_of {R : Nat → List (Int × Int)} (hR : ∀ h, h < 3 → RowsOk 8 (R h)) {E : List Rat} (hE : Ris E) (hm : ∀ a, a ∈ E ↔ a ∈ bqs (R 0) ++ (bqs (R 1) ++ bqs (R 2))) :
    Cells (fun k => E.getD k 0) (E.length - 1) (fun h x => wq 0 x (R h)) := by
  have mb : ∀ h, h < 3 → ∀ i, i ≤ (R h).length → bq (R h) i ∈ E := fun h hh i hi => by
    rw [hm]
    have k : bq (R h) i ∈ bqs (R h) := List.mem_map.mpr ⟨i, List.mem_range.mpr (by omega), rfl⟩
    have : h = 0 ∨ h = 1 ∨ h = 2 := by omega
    rcases this with rfl | rfl | rfl <;> simp [k]
  have in01 : ∀ a ∈ E, 0 ≤ a ∧ a ≤ 1 := fun a ha => by
    rw [hm] at ha
    have : ∃ h, h < 3 ∧ a ∈ bqs (R h) := by
      rcases List.mem_append.mp ha with k | k
      · exact ⟨0, by decide, k⟩
      · rcases List.mem_append.mp k with k | k
        · exact ⟨1, by decide, k⟩
        · exact ⟨2, by decide, k⟩
    obtain ⟨h, hh, k⟩ := this
    obtain ⟨i, _, rfl⟩ := List.mem_map.mp k
    exact bq_01 (hR h hh) i
  have m0 : (0 : Rat) ∈ E := by
    have := mb 0 (by decide) 0 (by omega)
    rwa [bq_zero (hR 0 (by decide))] at this
  have m1 : (1 : Rat) ∈ E := by
    have := mb 0 (by decide) (R 0).length (Nat.le_refl _)
    rwa [bq_len (hR 0 (by decide))] at this
  have a0 := ris_first hE m0 fun a ha => (in01 a ha).1
  have b1 := ris_last hE m1 fun a ha => (in01 a ha).2
  have n0 : 0 < E.length - 1 := by
    apply Nat.pos_of_ne_zero
    intro z
    rw [z] at b1
    rw [a0] at b1
    exact absurd b1 (by decide)
  have at_ : ∀ k, k < E.length → ∃ h : k < E.length, E.getD k 0 = E[k] := fun k hk => ⟨hk, by rw [List.getD_eq_getElem?_getD, List.getElem?_eq_getElem hk]; rfl⟩
  have lt : ∀ k, k < E.length - 1 → E.getD k 0 < E.getD (k + 1) 0 := fun k hk => by
    obtain ⟨h1, e1⟩ := at_ k (by omega)
    obtain ⟨h2, e2⟩ := at_ (k + 1) (by omega)
    rw [e1, e2]
    exact List.pairwise_iff_getElem.mp hE k (k + 1) h1 h2 (by omega)
  refine ⟨n0, a0, b1, lt, fun h hh k hk t t0 t1 => ?_⟩
  obtain ⟨h1, e1⟩ := at_ k (by omega)
  obtain ⟨h2, e2⟩ := at_ (k + 1) (by omega)
  refine wq_straight (hR h hh) ?_ (lt k hk) ?_ (fun i hi => ?_) t0 t1
  · show 0 ≤ E.getD k 0; rw [e1]; exact (in01 _ (List.getElem_mem h1)).1
  · show E.getD (k + 1) 0 ≤ 1; rw [e2]; exact (in01 _ (List.getElem_mem h2)).2
  · obtain ⟨j, hj, e⟩ := List.mem_iff_getElem.mp (mb h hh i hi)
    show bq (R h) i ≤ E.getD k 0 ∨ E.getD (k + 1) 0 ≤ bq (R h) i
    rw [e1, e2, ← e]
    by_cases q : j ≤ k
    · left
      by_cases z : j = k
      · subst z; exact Rat.le_refl
      · exact Rat.le_of_lt (List.pairwise_iff_getElem.mp hE j k hj h1 (by omega))
    · right
      by_cases z : j = k + 1
      · subst z; exact Rat.le_refl
      · exact Rat.le_of_lt (List.pairwise_iff_getElem.mp hE (k + 1) j h2 hj (by omega))
theorem wf3 {R : Nat → List (Int × Int)} (hR : ∀ h, h < 3 → RowsOk 8 (R h)) : ∃ C, ∀ h, h < 3 → Wf C (fun x => wq 0 x (R h)) := by
  obtain ⟨a, ha⟩ := wf_tab (hR 0 (by decide))
  obtain ⟨b, hb⟩ := wf_tab (hR 1 (by decide))
  obtain ⟨c, hc⟩ := wf_tab (hR 2 (by decide))
  refine ⟨a + b + c, fun h hh => ?_⟩
  have : h = 0 ∨ h = 1 ∨ h = 2 := by omega
  rcases this with rfl | rfl | rfl
  · exact ha.up (by omega)
  · exact hb.up (by omega)
  · exact hc.up (by omega)
end Tp
namespace Tp
def Ln (B : Nat) (p q : P2) : Prop := ∃ a b c : Int, a.natAbs < 2 ^ B ∧ b.natAbs < 2 ^ B ∧ c.natAbs < 2 ^ B ∧ (b ≠ 0 ∨ c ≠ 0) ∧ (a : Rat) + b * p.1 + c * p.2 = 0 ∧ (a : Rat) + b * q.1 + c * q.2 = 0
def Ri (B : Nat) (r : Rw) : Prop := ∃ a b c : Int, a.natAbs < 2 ^ B ∧ b.natAbs < 2 ^ B ∧ c.natAbs < 2 ^ B ∧ r = ((a : Rat), (b : Rat), (c : Rat))
def LnG (B : Nat) : P2 → List P2 → Prop
  | _, [] => True
  | p, c :: l => Ln B p c ∧ LnG B c l
def SzP (n : Nat) (p : P2) : Prop := Sz n p.1 ∧ Sz n p.2
theorem ln_crs {B : Nat} {r : Rw} {p q : P2} (h : Ln B p q) : Ln B p (crs r p q) ∧ Ln B (crs r p q) q := by
  obtain ⟨a, b, c, h1, h2, h3, h4, e1, e2⟩ := h
  have : (a : Rat) + b * (crs r p q).1 + c * (crs r p q).2 = 0 := by
    unfold crs
    generalize val r p / (val r p - val r q) = t
    grind
  exact ⟨⟨a, b, c, h1, h2, h3, h4, e1, this⟩, ⟨a, b, c, h1, h2, h3, h4, this, e2⟩⟩
theorem two_pow (B : Nat) : (2 : Nat) ^ (2 * B + 2) = 4 * (2 ^ B * 2 ^ B) := by
  rw [Nat.pow_add, Nat.two_mul, Nat.pow_add]; omega
theorem mul_bits {B : Nat} {x y z w : Int} (h1 : x.natAbs < 2 ^ B) (h2 : y.natAbs < 2 ^ B) (h3 : z.natAbs < 2 ^ B) (h4 : w.natAbs < 2 ^ B) : (x * y - z * w).natAbs < 2 ^ (2 * B + 2) := by
  rw [two_pow]
  have a : (x * y).natAbs < 2 ^ B * 2 ^ B := by rw [Int.natAbs_mul]; exact Nat.mul_lt_mul'' h1 h2
  have b : (z * w).natAbs < 2 ^ B * 2 ^ B := by rw [Int.natAbs_mul]; exact Nat.mul_lt_mul'' h3 h4
  generalize x * y = u at *
  generalize z * w = v at *
  omega
theorem sz_frac {n : Nat} {t b : Int} {q : Rat} (ht : t.natAbs < 2 ^ n) (hb : b.natAbs < 2 ^ n) (h0 : b ≠ 0) (e : (b : Rat) * q = t) : Sz n q := by
  have : q = Rat.divInt t b := by
    rw [Rat.divInt_eq_div]
    have hb' : (b : Rat) ≠ 0 := fun z => h0 (Rat.intCast_inj.mp z)
    have := div_mul_self (a := (t : Rat)) hb'
    generalize (t : Rat) / b = s at *
    have : (b : Rat) * (q - s) = 0 := by grind
    rcases Rat.mul_eq_zero.mp this with z | z
    · exact absurd z hb'
    · grind
  rw [this]; exact Sz.mk ht hb h0
theorem sz_crs {B : Nat} {r : Rw} {p q : P2} (h : Ln B p q) (hr : Ri B r) (hs : val r p * val r q < 0) : SzP (2 * B + 2) (crs r p q) := by
  obtain ⟨_, a, b, c, h1, h2, h3, h4, e1, e2⟩ := (show True ∧ Ln B p q from ⟨trivial, h⟩)
  obtain ⟨r0, r1, r2, g1, g2, g3, rfl⟩ := hr
  have vx := val_crs hs
  have lx : (a : Rat) + b * (crs ((r0 : Rat), (r1 : Rat), (r2 : Rat)) p q).1 + c * (crs ((r0 : Rat), (r1 : Rat), (r2 : Rat)) p q).2 = 0 := by
    unfold crs
    generalize val ((r0 : Rat), (r1 : Rat), (r2 : Rat)) p / (val ((r0 : Rat), (r1 : Rat), (r2 : Rat)) p - val ((r0 : Rat), (r1 : Rat), (r2 : Rat)) q) = t
    grind
  have hD : b * r2 - c * r1 ≠ 0 := fun z => by
    have zz : (b : Rat) * r2 - c * r1 = 0 := by
      have := congrArg (fun i : Int => (i : Rat)) z
      simpa [Rat.intCast_sub, Rat.intCast_mul] using this
    have hne : val ((r0 : Rat), (r1 : Rat), (r2 : Rat)) p - val ((r0 : Rat), (r1 : Rat), (r2 : Rat)) q ≠ 0 := by
      rcases neg_mul_iff.mp hs with ⟨s1, s2⟩ | ⟨s1, s2⟩ <;> grind
    rcases h4 with hb | hc
    · have hb' : (b : Rat) ≠ 0 := fun z => hb (Rat.intCast_inj.mp z)
      have : (b : Rat) * (val ((r0 : Rat), (r1 : Rat), (r2 : Rat)) p - val ((r0 : Rat), (r1 : Rat), (r2 : Rat)) q) = 0 := by unfold val; grind
      rcases Rat.mul_eq_zero.mp this with k | k
      · exact hb' k
      · exact hne k
    · have hc' : (c : Rat) ≠ 0 := fun z => hc (Rat.intCast_inj.mp z)
      have : (c : Rat) * (val ((r0 : Rat), (r1 : Rat), (r2 : Rat)) p - val ((r0 : Rat), (r1 : Rat), (r2 : Rat)) q) = 0 := by unfold val; grind
      rcases Rat.mul_eq_zero.mp this with k | k
      · exact hc' k
      · exact hne k
  generalize crs ((r0 : Rat), (r1 : Rat), (r2 : Rat)) p q = X at *
  have vx' : (r0 : Rat) + r1 * X.1 + r2 * X.2 = 0 := vx
  constructor
  · refine sz_frac (t := c * r0 - a * r2) (b := b * r2 - c * r1) (mul_bits h3 g1 h1 g3) (mul_bits h2 g3 h3 g2) hD ?_
    rw [Rat.intCast_sub, Rat.intCast_mul, Rat.intCast_mul, Rat.intCast_sub, Rat.intCast_mul, Rat.intCast_mul]
    grind
  · refine sz_frac (t := a * r1 - b * r0) (b := b * r2 - c * r1) (mul_bits h1 g2 h2 g1) (mul_bits h2 g3 h3 g2) hD ?_
    rw [Rat.intCast_sub, Rat.intCast_mul, Rat.intCast_mul, Rat.intCast_sub, Rat.intCast_mul, Rat.intCast_mul]
    grind
theorem ref_inv {B : Nat} {r : Rw} (hr : Ri B r) : ∀ (l : List P2) (p : P2), LnG B p l → (∀ x ∈ l, SzP (2 * B + 2) x) → LnG B p (refGo r p l) ∧ ∀ x ∈ refGo r p l, SzP (2 * B + 2) x
  | [], _, _, _ => ⟨trivial, fun x m => by simp [refGo] at m⟩
  | c :: l, p, h, hs => by
    obtain ⟨a, b⟩ := ref_inv hr l c h.2 fun x m => hs x (by simp [m])
    rw [refGo]
    by_cases q : val r p * val r c < 0
    · rw [if_pos q]
      obtain ⟨l1, l2⟩ := ln_crs (r := r) h.1
      refine ⟨⟨l1, l2, a⟩, fun x m => ?_⟩
      rcases List.mem_cons.mp m with rfl | m
      · exact sz_crs h.1 hr q
      · rcases List.mem_cons.mp m with rfl | m
        · exact hs x (by simp)
        · exact b x m
    · rw [if_neg q]
      refine ⟨⟨h.1, a⟩, fun x m => ?_⟩
      rcases List.mem_cons.mp m with rfl | m
      · exact hs x (by simp)
      · exact b x m
theorem ln_row {B : Nat} {r : Rw} (hr : Ri B r) {x y n : P2} (zx : val r x = 0) (zy : val r y = 0) (hn : val r n < 0) : Ln B x y := by
  obtain ⟨a, b, c, h1, h2, h3, rfl⟩ := hr
  refine ⟨a, b, c, h1, h2, h3, ?_, zx, zy⟩
  apply Classical.byContradiction
  intro z
  have hb : b = 0 := by omega
  have hc : c = 0 := by omega
  subst hb; subst hc
  unfold val at zx hn
  have : ((0 : Int) : Rat) = 0 := rfl
  rw [this] at zx hn
  grind
theorem filt_inv {B : Nat} {r : Rw} (hr : Ri B r) : ∀ (l : List P2) (k p : P2), 0 ≤ val r k → (p = k ∨ (val r k = 0 ∧ val r p < 0)) → Aj r (p :: l) → LnG B p l → LnG B k (l.filter fun c => decide (0 ≤ val r c))
  | [], _, _, _, _, _, _ => trivial
  | c :: l, k, p, hk, hp, hA, hL => by
    rw [List.filter_cons]
    have a1 : 0 ≤ val r p * val r c := hA.1
    by_cases q : 0 ≤ val r c
    · rw [if_pos (by simpa using q)]
      refine ⟨?_, filt_inv hr l c c q (.inl rfl) hA.2 hL.2⟩
      rcases hp with rfl | ⟨z, n⟩
      · exact hL.1
      · have zc : val r c = 0 := by
          apply Classical.byContradiction; intro w
          have := neg_mul_iff.mpr (.inr ⟨n, show 0 < val r c by grind⟩)
          grind
        exact ln_row hr z zc n
    · rw [if_neg (by simpa using q)]
      refine filt_inv hr l k c hk (.inr ⟨?_, by grind⟩) hA.2 hL.2
      rcases hp with rfl | ⟨z, n⟩
      · apply Classical.byContradiction; intro w
        have := neg_mul_iff.mpr (.inl ⟨show 0 < val r p by grind, show val r c < 0 by grind⟩)
        grind
      · exact z
theorem last_kept {r : Rw} : ∀ (L : List P2) (e k : P2), Aj r L → L.getLast? = some e → (L.filter fun c => decide (0 ≤ val r c)).getLast? = some k → 0 ≤ val r k ∧ (e = k ∨ (val r k = 0 ∧ val r e < 0)) := by
  intro L
  induction L with
  | nil => intro e k _ h; simp at h
  | cons c L ih =>
    intro e k hA he hk
    rw [List.filter_cons] at hk
    cases L with
    | nil =>
      simp at he; subst he
      by_cases q : 0 ≤ val r c
      · rw [if_pos (by simpa using q)] at hk
        simp at hk; subst hk; exact ⟨q, .inl rfl⟩
      · rw [if_neg (by simpa using q)] at hk; simp at hk
    | cons d L =>
      have he' : (d :: L).getLast? = some e := by simpa using he
      cases z : ((d :: L).filter fun c => decide (0 ≤ val r c)).getLast? with
      | some k' =>
        have : k' = k := by
          by_cases q : 0 ≤ val r c
          · rw [if_pos (by simpa using q), List.getLast?_cons, z] at hk
            simpa using hk
          · rw [if_neg (by simpa using q), z] at hk
            simpa using hk
        subst this
        exact ih e k' hA.tail he' z
      | none =>
        rw [List.getLast?_eq_none_iff] at z
        have neg : ∀ x ∈ d :: L, val r x < 0 := fun x m => by
          apply Classical.byContradiction; intro w
          have : x ∈ (d :: L).filter fun c => decide (0 ≤ val r c) := List.mem_filter.mpr ⟨m, decide_eq_true (by grind)⟩
          rw [z] at this; simp at this
        rw [z] at hk
        by_cases q : 0 ≤ val r c
        · rw [if_pos (by simpa using q)] at hk
          simp at hk; subst hk
          refine ⟨q, .inr ⟨?_, neg e (List.mem_of_getLast? he')⟩⟩
          have a1 : 0 ≤ val r c * val r d := hA.1
          have nd := neg d (by simp)
          apply Classical.byContradiction; intro w
          have := neg_mul_iff.mpr (.inl ⟨show 0 < val r c by grind, nd⟩)
          grind
        · rw [if_neg (by simpa using q)] at hk; simp at hk
def Inv (B : Nat) (P : List P2) : Prop := (∀ x ∈ P, SzP (2 * B + 2) x) ∧ ∀ e, P.getLast? = some e → LnG B e P
theorem inv_clip {B : Nat} {r : Rw} (hr : Ri B r) {P : List P2} (h : Inv B P) : Inv B (clip r P) := by
  rw [clip_eq]
  unfold ref
  cases e : P.getLast? with
  | none => exact ⟨fun x m => by simp at m, fun e m => by simp at m⟩
  | some e0 =>
    obtain ⟨a, b⟩ := ref_inv hr P e0 (h.2 e0 e) h.1
    refine ⟨fun x m => b x (List.mem_filter.mp m).1, fun k hk => ?_⟩
    obtain ⟨M, hM⟩ := refGo_last P e0 e0 e (r := r)
    have hA := aj_refGo P e0 (r := r)
    obtain ⟨k0, k1⟩ := last_kept (r := r) (refGo r e0 P) e0 k hA.tail (by rw [hM]; simp) hk
    exact filt_inv hr _ k e0 k0 k1 hA a
theorem inv_clips {B : Nat} : ∀ (rs : List Rw), (∀ r ∈ rs, Ri B r) → ∀ {P : List P2}, Inv B P → Inv B (clips rs P)
  | [], _, _, h => h
  | r :: rs, hr, _, h => inv_clips rs (fun q m => hr q (by simp [m])) (inv_clip (hr r (by simp)) h)
theorem inv_cell {B : Nat} (hB : 1 ≤ B) (b : Bool) : Inv B (cell b) := by
  have hp : 1 < 2 ^ B := Nat.one_lt_two_pow (by omega)
  have hp2 : 1 < 2 ^ (2 * B + 2) := Nat.one_lt_two_pow (by omega)
  have z0 : Sz (2 * B + 2) 0 := ⟨by show 0 < _; omega, by show 1 < _; exact hp2⟩
  have z1 : Sz (2 * B + 2) 1 := ⟨by show 1 < _; exact hp2, by show 1 < _; exact hp2⟩
  have one : (1 : Int).natAbs < 2 ^ B := hp
  have mone : (-1 : Int).natAbs < 2 ^ B := hp
  have nul : (0 : Int).natAbs < 2 ^ B := by show 0 < _; omega
  have left : ∀ x y : Rat, Ln B (0, x) (0, y) := fun x y => ⟨0, 1, 0, nul, one, nul, .inl (by decide), by simp <;> grind, by simp <;> grind⟩
  have top : ∀ x y : Rat, Ln B (x, 1) (y, 1) := fun x y => ⟨-1, 0, 1, mone, nul, one, .inr (by decide), by simp <;> grind, by simp <;> grind⟩
  have right : ∀ x y : Rat, Ln B (1, x) (1, y) := fun x y => ⟨-1, 1, 0, mone, one, nul, .inl (by decide), by simp <;> grind, by simp <;> grind⟩
  have bot : ∀ x y : Rat, Ln B (x, 0) (y, 0) := fun x y => ⟨0, 0, 1, nul, nul, one, .inr (by decide), by simp <;> grind, by simp <;> grind⟩
  have dia : Ln B (1, 1) (0, 0) := ⟨0, 1, -1, nul, one, mone, .inl (by decide), by simp <;> grind, by simp <;> grind⟩
  cases b with
  | true =>
    refine ⟨fun x m => ?_, fun e h => ?_⟩
    · simp [cell] at m
      rcases m with rfl | rfl | rfl
      · exact ⟨z0, z0⟩
      · exact ⟨z0, z1⟩
      · exact ⟨z1, z1⟩
    · simp [cell] at h; subst h
      exact ⟨dia, left _ _, top _ _, trivial⟩
  | false =>
    refine ⟨fun x m => ?_, fun e h => ?_⟩
    · simp [cell] at m
      rcases m with rfl | rfl | rfl | rfl
      · exact ⟨z0, z0⟩
      · exact ⟨z0, z1⟩
      · exact ⟨z1, z1⟩
      · exact ⟨z1, z0⟩
    · simp [cell] at h; subst h
      exact ⟨bot _ _, left _ _, top _ _, right _ _, trivial⟩
end Tp
theorem divisor_eq (a b : Int) (st : Sto) : F_divisor [.int a, .int b] st = .val .P (.int (Int.gcd a b)) st := by
  simp [F_divisor, g_divisor, wc_divisor_1, wb_divisor_2, absI, gcd_while]
  rfl
theorem fraction_of_eq {t b : Int} (hb : b ≠ 0) (h : b.natAbs.log2 < 9000) (st : Sto) : F_fraction_of [.int t, .int b] st = .val .P (dF (Rat.divInt t b)) st := by
  obtain ⟨h1, h2⟩ := sgd_log (t := t) hb h
  obtain ⟨e1, e2⟩ := low_num t b hb
  unfold dF
  rw [← e1, ← e2]
  by_cases hn : b < 0
  · simp [F_fraction_of, g_fraction_of, hb, divisor_eq, hn, h1, h2]
  · simp [F_fraction_of, g_fraction_of, hb, divisor_eq, hn, h1, h2]
theorem plus_eq {a b : Rat} {m n : Nat} (ha : Sz m a) (hb : Sz n b) (h : m + n < 9000) (st : Sto) : F_plus [dF a, dF b] st = .val .P (dF (a + b)) st := by
  have m1 := bit_log2 ha.1 hb.den (by omega)
  have m2 := bit_log2 hb.1 ha.den (by omega)
  have m3 := bit_log2 ha.den hb.den (by omega)
  have f := fun t => fraction_of_eq (t := t) (den2 a b) (bit_log (bit_mul ha.den hb.den) h) st
  rw [q_add]
  simp only [Int.natAbs_natCast] at m1 m2 m3
  simp [F_plus, g_plus, m1, m2, m3, f]
theorem minus_eq {a b : Rat} {m n : Nat} (ha : Sz m a) (hb : Sz n b) (h : m + n < 9000) (st : Sto) : F_minus [dF a, dF b] st = .val .P (dF (a - b)) st := by
  have m1 := bit_log2 ha.1 hb.den (by omega)
  have m2 := bit_log2 hb.1 ha.den (by omega)
  have m3 := bit_log2 ha.den hb.den (by omega)
  have f := fun t => fraction_of_eq (t := t) (den2 a b) (bit_log (bit_mul ha.den hb.den) h) st
  rw [q_sub]
  simp only [Int.natAbs_natCast] at m1 m2 m3
  simp [F_minus, g_minus, m1, m2, m3, f]
theorem times_eq {a b : Rat} {m n : Nat} (ha : Sz m a) (hb : Sz n b) (h : m + n < 9000) (st : Sto) : F_times [dF a, dF b] st = .val .P (dF (a * b)) st := by
  have m1 := bit_log2 ha.1 hb.1 (by omega)
  have m3 := bit_log2 ha.den hb.den (by omega)
  have f := fun t => fraction_of_eq (t := t) (den2 a b) (bit_log (bit_mul ha.den hb.den) h) st
  rw [q_mul]
  simp only [Int.natAbs_natCast] at m1 m3
  simp [F_times, g_times, m1, m3, f]
theorem over_eq {a b : Rat} {m n : Nat} (ha : Sz m a) (hb : Sz n b) (hz : b ≠ 0) (h : m + n < 9000) (st : Sto) : F_over [dF a, dF b] st = .val .P (dF (a / b)) st := by
  have m1 := bit_log2 ha.1 hb.den (by omega)
  have m3 := bit_log2 ha.den hb.1 (by omega)
  have hd : (a.den : Int) * b.num ≠ 0 := Int.mul_ne_zero (by have := den_pos a; omega) (num_ne hz)
  have f := fun t => fraction_of_eq (t := t) hd (bit_log (bit_mul ha.den hb.1) h) st
  rw [q_div]
  simp only [Int.natAbs_natCast] at m1 m3
  simp [F_over, g_over, m1, m3, f]
theorem is_less_eq {a b : Rat} {m n : Nat} (ha : Sz m a) (hb : Sz n b) (h : m + n < 900000) (st : Sto) : F_is_less [dF a, dF b] st = .val .P (.bl (decide (a < b))) st := by
  have m1 := bit_log2 ha.1 hb.den (by omega)
  have m2 := bit_log2 hb.1 ha.den (by omega)
  simp only [Int.natAbs_natCast] at m1 m2
  simp [F_is_less, g_is_less, m1, m2, lt_num]
theorem lesser_eq {a b : Rat} {m n : Nat} (ha : Sz m a) (hb : Sz n b) (h : m + n < 9000) (st : Sto) : F_lesser [dF a, dF b] st = .val .P (dF (if b < a then b else a)) st := by
  have := is_less_eq hb ha (by omega) st
  by_cases c : b < a <;> simp [F_lesser, g_lesser, this, c]
theorem greater_eq {a b : Rat} {m n : Nat} (ha : Sz m a) (hb : Sz n b) (h : m + n < 9000) (st : Sto) : F_greater [dF a, dF b] st = .val .P (dF (if a < b then b else a)) st := by
  have := is_less_eq ha hb (by omega) st
  by_cases c : a < b <;> simp [F_greater, g_greater, this, c]
theorem fmod_in (x : Int) {s : Int} (h : 0 < s) : 0 ≤ x.fmod s ∧ x.fmod s < s := ⟨Int.fmod_nonneg_of_pos x h, Int.fmod_lt_of_pos x h⟩
theorem mixed_ex (c k n : Int) (h0 : 0 ≤ k) (h1 : k ≤ 1000000) (hn : 1 ≤ n) : ∃ r : Int, 0 ≤ r ∧ r < n ∧ ∀ st, F_law_mixed [.int c, .int k, .int n] st = .val .P (.int r) st := by
  have hc := fmod_in c (s := 2147483647) (by decide)
  have q1 : Nat.log2 40503 + k.natAbs.log2 < 1000000 := mul_ok (i := 40503) (a := 20) (b := 30) (by decide) (by omega) (by decide) (by decide) (by decide)
  generalize hb : (c.fmod 2147483647 + 40503 * k + 17) = bb
  have q4 : bb.natAbs < 18446744073709551616 := by omega
  have hm := fmod_in (bb ^ 5) (s := 2147483647) (by decide)
  generalize hw : (bb ^ 5).fmod 2147483647 = w at hm
  have q5 : w.natAbs.log2 + (48271 + k).natAbs.log2 < 1000000 := mul_ok (a := 40) (b := 30) (by omega) (by omega) (by decide) (by decide) (by decide)
  have h2 := fmod_in (w * (48271 + k)) (s := 999999937) (by decide)
  generalize hv : (w * (48271 + k)).fmod 999999937 = v at h2
  have q6 : v.natAbs.log2 + Nat.log2 39373 < 1000000 := mul_ok (j := 39373) (a := 40) (b := 20) (by omega) (by decide) (by decide) (by decide) (by decide)
  have hr := fmod_in ((v * 39373).fmod 2147483629) (s := n) (by omega)
  have nn : ¬ n = 0 := by omega
  refine ⟨_, hr.1, hr.2, fun st => ?_⟩
  simp -implicitDefEqProofs [F_law_mixed, g_law_mixed, q1, hb, q4, hw, q5, hv, q6, nn]
def TBox (p N : Nat) (st : Sto) : Prop := ∃ (ns : List Int) (i a c : Int), st[p]? = some (.lst [.lst (ns.map .int), .int i, .int a, .int c]) ∧ 0 ≤ i ∧ 0 ≤ a ∧ 0 ≤ c ∧ c ≤ N ∧ ns.length ≤ 63
def Rest1 (p : Nat) (st st' : Sto) : Prop := st'.length = st.length ∧ ∀ m, m ≠ p → st'[m]? = st[m]?
theorem Rest1.refl {p : Nat} {st : Sto} : Rest1 p st st := ⟨rfl, fun _ _ => rfl⟩
theorem Rest1.trans {p : Nat} {s t u : Sto} (h : Rest1 p s t) (k : Rest1 p t u) : Rest1 p s u := ⟨k.1.trans h.1, fun m a => (k.2 m a).trans (h.2 m a)⟩
theorem Rest1.set {p : Nat} {s : Sto} {o : Ob} : Rest1 p s (s.set p o) := ⟨by simp, fun m h => List.getElem?_set_ne (Ne.symm h)⟩
theorem TBox.up {p N M : Nat} {st : Sto} (h : TBox p N st) (k : N ≤ M) : TBox p M st := by
  obtain ⟨ns, i, a, c, h1, h2, h3, h4, h5, h6⟩ := h
  exact ⟨ns, i, a, c, h1, h2, h3, h4, by omega, h6⟩
theorem atI_int {ns : List Int} {i : Int} (h0 : 0 ≤ i) (h : i < ns.length) : ∃ z, atI (ns.map D.int) i = some (.int z) := by
  have hi : i.toNat < ns.length := by omega
  refine ⟨ns[i.toNat], ?_⟩
  have := atI_nat (xs := ns.map D.int) (j := i.toNat) (v := .int ns[i.toNat]) (by simp [hi])
  rwa [Int.toNat_of_nonneg h0] at this
theorem take_ok {p N : Nat} {st : Sto} {n : Int} (B : TBox p N st) (h1 : 1 ≤ n) (h2 : n < 2 ^ 1000) (hN : N ≤ 100000) : ∃ r st', F_law_take [.ptr p, .int n] st = .val .P (.int r) st' ∧ 0 ≤ r ∧ r < n ∧ TBox p (N + 1) st' ∧ Rest1 p st st' := by
  obtain ⟨ns, i, a, c, hp, i0, a0, c0, cN, nl⟩ := B
  have lp : p < st.length := (List.getElem?_eq_some_iff.mp hp).1
  have sp : ∀ (s : Sto) (x : Ob), s.length = st.length → (s.set p x)[p]? = some x := fun s x h => List.getElem?_set_self (by omega)
  have hn0 : ¬ n = 0 := by omega
  have hlog : n.natAbs.log2 < 9000 := bit_log (m := 1000) (by omega) (by decide)
  have a3 : ∀ W X Y Z : D, atI [W, X, Y, Z] 3 = some Z := fun W X Y Z => rfl
  have a2 : ∀ W X Y Z : D, atI [W, X, Y, Z] 2 = some Y := fun W X Y Z => rfl
  have a1 : ∀ W X Y Z : D, atI [W, X, Y, Z] 1 = some X := fun W X Y Z => rfl
  have a0' : ∀ W X Y Z : D, atI [W, X, Y, Z] 0 = some W := fun W X Y Z => rfl
  have i3 : ixN 4 3 = some 3 := by decide
  have i2 : ixN 4 2 = some 2 := by decide
  have i1 : ixN 4 1 = some 1 := by decide
  by_cases ha : 0 < a
  · have ha0 : ¬ a = 0 := by omega
    refine ⟨a.fmod n, (st.set p (.lst [.lst (ns.map .int), .int i, .int a, .int (c + 1)])).set p (.lst [.lst (ns.map .int), .int i, .int (a.fdiv n), .int (c + 1)]), ?_, (fmod_in a h1).1, (fmod_in a h1).2, ⟨ns, i, a.fdiv n, c + 1, sp _ _ (by simp), i0, Int.fdiv_nonneg a0 (by omega), by omega, by omega, nl⟩, Rest1.set.trans Rest1.set⟩
    simp -implicitDefEqProofs [F_law_take, g_law_take, hp, a0', a1, a2, a3, i1, i2, i3, sp, ha, ha0, hn0, hlog]
  · have ha0 : a = 0 := by omega
    subst ha0
    by_cases hi : i < ns.length
    · obtain ⟨z, hz⟩ := atI_int i0 hi
      by_cases hb : z < 1000000000000000000
      · obtain ⟨r, r0, r1, hr⟩ := mixed_ex z (c + 1) n (by omega) (by omega) h1
        refine ⟨r, (st.set p (.lst [.lst (ns.map .int), .int i, .int 0, .int (c + 1)])).set p (.lst [.lst (ns.map .int), .int (i + 1), .int 0, .int (c + 1)]), ?_, r0, r1, ⟨ns, i + 1, 0, c + 1, sp _ _ (by simp), by omega, by omega, by omega, by omega, nl⟩, Rest1.set.trans Rest1.set⟩
        simp -implicitDefEqProofs [F_law_take, g_law_take, hp, a0', a1, a2, a3, i1, i2, i3, sp, hi, hz, hb, hr]
      · have z0 : 0 < z := by omega
        refine ⟨z.fmod n, (((st.set p (.lst [.lst (ns.map .int), .int i, .int 0, .int (c + 1)])).set p (.lst [.lst (ns.map .int), .int (i + 1), .int 0, .int (c + 1)])).set p (.lst [.lst (ns.map .int), .int (i + 1), .int z, .int (c + 1)])).set p (.lst [.lst (ns.map .int), .int (i + 1), .int (z.fdiv n), .int (c + 1)]), ?_, (fmod_in z h1).1, (fmod_in z h1).2, ⟨ns, i + 1, z.fdiv n, c + 1, sp _ _ (by simp), by omega, Int.fdiv_nonneg (by omega) (by omega), by omega, by omega, nl⟩, ((Rest1.set.trans Rest1.set).trans Rest1.set).trans Rest1.set⟩
        simp -implicitDefEqProofs [F_law_take, g_law_take, hp, a0', a1, a2, a3, i1, i2, i3, sp, hi, hz, hb, z0, hn0, hlog]
    · by_cases hl : 0 < ns.length
      · have hL : (0 : Int) < (ns.length : Int) := by omega
        have hfm := fmod_in (c + 1) hL
        obtain ⟨z, hz⟩ := atI_int hfm.1 hfm.2
        obtain ⟨r, r0, r1, hr⟩ := mixed_ex z (c + 1) n (by omega) (by omega) h1
        have hL0 : ¬ (ns.length : Int) = 0 := by omega
        refine ⟨r, st.set p (.lst [.lst (ns.map .int), .int i, .int 0, .int (c + 1)]), ?_, r0, r1, ⟨ns, i, 0, c + 1, sp _ _ rfl, by omega, by omega, by omega, by omega, nl⟩, Rest1.set⟩
        have hln : ¬ ns = [] := fun h => by simp [h] at hl
        simp -implicitDefEqProofs [F_law_take, g_law_take, hp, a0', a1, a2, a3, i1, i2, i3, sp, hi, hz, hr, hl, hL, hL0, hln]
      · have hln : ns = [] := List.length_eq_zero_iff.mp (by omega)
        subst hln
        obtain ⟨r, r0, r1, hr⟩ := mixed_ex 0 (c + 1) n (by omega) (by omega) h1
        refine ⟨r, st.set p (.lst [.lst (([] : List Int).map .int), .int i, .int 0, .int (c + 1)]), ?_, r0, r1, ⟨[], i, 0, c + 1, sp _ _ rfl, by omega, by omega, by omega, by omega, nl⟩, Rest1.set⟩
        have hi' : ¬ i < 0 := by omega
        simp -implicitDefEqProofs [F_law_take, g_law_take, hp, a0', a1, a2, a3, i1, i2, i3, sp, hi', hr]
theorem rows_sum {l : List (Int × Int)} {e : DE} {st : Sto} {i j : Nat} {f : En → ER} {g : Int × Int → Int} (hf : ∀ r st, f ⟨(e.set i (.val (.int r.1))).set j (.val (.int r.2)), st⟩ = .val .P (.int (g r)) st) :
    lcGo (lcStep (tgT 2 (tgsCons (tgN i) (tgsCons (tgN j) tgsNil))) (fun E => .val .P (.bl true) E.st) f e) (l.map dRow) st = some (l.map fun r => .int (g r), st) :=
  lc_map fun r _ => by simp [hf]
theorem rows_body {p N : Nat} {st : Sto} {wd mu : Int} {rows : List (Int × Int)} {x1 x2 x6 x7 x8 x9 : SL} (B : TBox p N st) (hN : N ≤ 90000) (hw : 1 ≤ wd ∧ wd ≤ 999) (hm : 1 ≤ mu ∧ mu ≤ 1000000000) (hl : rows.length < 1000000) :
    ∃ w v st', fb_law_stretches_1 ⟨[.val (.ptr p), x1, x2, .val (.int wd), .val (.int mu), .own (rows.map dRow), x6, x7, x8, x9], st⟩ = .nx ⟨[.val (.ptr p), x1, x2, .val (.int wd), .val (.int mu), .own ((rows ++ [(w, v)]).map dRow), x6, .val (.int v), x8, x9], st'⟩ ∧ RowOk (w, v) ∧ TBox p (N + 3) st' ∧ Rest1 p st st' := by
  obtain ⟨v, st1, t1, v0, v1, B1, R1⟩ := take_ok B hm.1 (by omega) (by omega)
  obtain ⟨z, st2, t2, z0, z1, B2, R2⟩ := take_ok B1 (n := 3) (by decide) (by decide) (by omega)
  obtain ⟨w, st3, t3, w0, w1, B3, R3⟩ := take_ok B2 hw.1 (by omega) (by omega)
  have R := (R1.trans R2).trans R3
  by_cases hz : z = 0
  · refine ⟨1 + w, 0, st3, ?_, ⟨by simp; omega, by simp; omega, by simp, by simp⟩, B3, R⟩
    simp -implicitDefEqProofs [q_fb_law_stretches_1, t1, t2, t3, hz, hl, dRow]
  · refine ⟨1 + w, v, st3, ?_, ⟨by simp; omega, by simp; omega, by simpa using v0, by simp; omega⟩, B3, R⟩
    simp -implicitDefEqProofs [q_fb_law_stretches_1, t1, t2, t3, hz, hl, dRow]
theorem stretches_ok {p N : Nat} {st : Sto} {m : Nat} (B : TBox p N st) (hN : N ≤ 80000) (hm : 1 ≤ m) (hm2 : m ≤ 100) :
    ∃ rows st', F_law_stretches [.ptr p, .int m] st = .val .N (.lst (rows.map dRow)) st' ∧ RowsOk m rows ∧ TBox p (N + 3 * m + 10) st' ∧ Rest1 p st st' := by
  obtain ⟨n, st1, t1, n0, n1, B1, R1⟩ := take_ok B (n := m) (by omega) (by omega) (by omega)
  obtain ⟨s, st2, t2, s0, s1, B2, R2⟩ := take_ok B1 (n := 3) (by decide) (by decide) (by omega)
  obtain ⟨b, st3, t3, b0, b1, B3, R3⟩ := take_ok B2 (n := 4) (by decide) (by decide) (by omega)
  have h1 : ∃ n : Int, atI [D.int 1, .int 9, .int 999] s = some (.int n) ∧ 1 ≤ n ∧ n ≤ 999 := by
    have : s = 0 ∨ s = 1 ∨ s = 2 := by omega
    rcases this with rfl | rfl | rfl <;> exact ⟨_, rfl, by decide, by decide⟩
  have h2 : ∃ n : Int, atI [D.int 2, .int 5, .int 1000000000, .int 1000000000] b = some (.int n) ∧ 1 ≤ n ∧ n ≤ 1000000000 := by
    have : b = 0 ∨ b = 1 ∨ b = 2 ∨ b = 3 := by omega
    rcases this with rfl | rfl | rfl | rfl <;> exact ⟨_, rfl, by decide, by decide⟩
  obtain ⟨wd, e1, wd0, wd1⟩ := h1
  obtain ⟨mu, e2, mu0, mu1⟩ := h2
  let I : Nat → En → Prop := fun k E => ∃ (rows : List (Int × Int)) (st' : Sto) (x6 x7 x8 : SL), E = ⟨[.val (.ptr p), .val (.int m), .val (.int (1 + n)), .val (.int wd), .val (.int mu), .own (rows.map dRow), x6, x7, .emp, .emp], st'⟩ ∧ rows.length = k ∧ (∀ r ∈ rows, RowOk r) ∧ TBox p (N + 3 + 3 * k) st' ∧ Rest1 p st st'
  have hlen : (rangeD 0 (1 + n).toNat).length = (1 + n).toNat := by simp [rangeD]
  obtain ⟨E', hf, hI⟩ := for_inv (b := tgB (tgN 6) fb_law_stretches_1) I (rangeD 0 (1 + n).toNat) 0 ⟨[.val (.ptr p), .val (.int m), .val (.int (1 + n)), .val (.int wd), .val (.int mu), .own [], .emp, .emp, .emp, .emp], st3⟩ (by
    rintro i x E hx ⟨rows, st', x6, x7, x8, rfl, hlr, hr, B', R'⟩
    obtain ⟨hi, rfl⟩ := rangeD_get hx
    obtain ⟨w, v, st4, hb, ho, B4, R4⟩ := rows_body (x1 := .val (.int m)) (x2 := .val (.int (1 + n))) (x6 := .val (.int (0 + (i : Int)))) (x7 := x7) (x8 := .emp) (x9 := .emp) B' (by omega) ⟨wd0, wd1⟩ ⟨mu0, mu1⟩ (rows := rows) (by omega)
    have hb' : tgB (tgN 6) fb_law_stretches_1 (.int (0 + (i : Int))) ⟨[.val (.ptr p), .val (.int m), .val (.int (1 + n)), .val (.int wd), .val (.int mu), .own (rows.map dRow), x6, x7, .emp, .emp], st'⟩ = _ := hb
    refine ⟨_, .inl hb', rows ++ [(w, v)], st4, _, _, .emp, rfl, by simp; omega, fun r hr' => ?_, B4.up (by omega), R'.trans R4⟩
    · rcases List.mem_append.mp hr' with z | z
      · exact hr r z
      · simp at z; subst z; exact ho) ⟨[], st3, .emp, .emp, .emp, rfl, rfl, fun r h => by simp at h, B3, (R1.trans R2).trans R3⟩
  obtain ⟨rows, st4, x6, x7, x8, rfl, hlr, hr, B4, R4⟩ := hI
  rw [Nat.zero_add, hlen] at hlr B4
  have c62 : -4611686018427387904 ≤ 1 + n ∧ 1 + n < 4611686018427387904 := by omega
  have hl : rows.length ≤ 1000000 := by omega
  have hsum := fun st => rows_sum (l := rows) (e := [.val (.ptr p), .val (.int m), .val (.int (1 + n)), .val (.int wd), .val (.int mu), .own (rows.map dRow), x6, .emp, .emp, .emp]) (st := st) (i := 9) (j := 7) (f := ce_law_stretches_2) (g := (·.2)) (fun r st => by simp [q_ce_law_stretches_2])
  by_cases hz : (rows.map (·.2)).sum = 0
  · obtain ⟨a, st5, t5, a0, a1, B5, R5⟩ := take_ok B4 (n := 1 + n) (by omega) (by omega) (by omega)
    obtain ⟨v, st6, t6, v0, v1, B6, R6⟩ := take_ok B5 (n := 999999999) (by decide) (by decide) (by omega)
    have ha : a.toNat < rows.length := by omega
    have hat : atI (rows.map dRow) a = some (dRow rows[a.toNat]) := by
      have := atI_nat (xs := rows.map dRow) (j := a.toNat) (v := dRow rows[a.toNat]) (by simp [ha])
      rwa [Int.toNat_of_nonneg a0] at this
    have hix : ixN rows.length a = some a.toNat := by simp [ixN, a0]; omega
    have hok : ∀ r ∈ rows.set a.toNat (rows[a.toNat].1, 1 + v), RowOk r := fun r h => by
      rcases List.mem_or_eq_of_mem_set h with z | z
      · exact hr r z
      · subst z
        have := hr _ (List.getElem_mem ha)
        exact ⟨this.1, this.2.1, by simp; omega, by simp; omega⟩
    have hpos : ((rows.set a.toNat (rows[a.toNat].1, 1 + v)).map (·.2)).sum ≠ 0 := by
      have hm : (rows[a.toNat].1, 1 + v) ∈ rows.set a.toNat (rows[a.toNat].1, 1 + v) := List.mem_set ha _
      have := sum_pos (f := fun r : Int × Int => r.2) (l := rows.set a.toNat (rows[a.toNat].1, 1 + v)) (fun r h => (hok r h).2.2.1) hm (by simp; omega)
      omega
    refine ⟨rows.set a.toNat (rows[a.toNat].1, 1 + v), st6, ?_, ⟨by simp; omega, by simp; omega, hok, hpos⟩, B6.up (by omega), (R4.trans R5).trans R6⟩
    simp -implicitDefEqProofs [F_law_stretches, g_law_stretches, t1, t2, e1, t3, e2, c62, hf]
    simp -implicitDefEqProofs [hsum, hl, hz, t5]
    simp -implicitDefEqProofs [hat, t6]
    simp -implicitDefEqProofs [hix, dRow]
  · refine ⟨rows, st4, ?_, ⟨by omega, by omega, hr, hz⟩, B4.up (by omega), R4⟩
    simp -implicitDefEqProofs [F_law_stretches, g_law_stretches, t1, t2, e1, t3, e2, c62, hf, hsum, hl, hz]
def TabAt (st : Sto) (n : Nat) (rows : List (Int × Int)) : Prop := st[n]? = some (.ins 7 [.lst (rows.map dRow), .lst ((bqs rows).map dF)])
theorem bqs_at {rows : List (Int × Int)} {i : Nat} (h : i ≤ rows.length) : atI ((bqs rows).map dF) (i : Int) = some (dF (bq rows i)) := by
  refine atI_nat ?_
  simp [bqs, show i < rows.length + 1 by omega]
theorem bounds_of_eq {rows : List (Int × Int)} (hr : RowsOk 8 rows) (st : Sto) : F_bounds_of [.lst (rows.map dRow)] st = .val .N (.lst ((bqs rows).map dF)) st := by
  have hw := wid_pos hr
  have hw2 := wid_le hr
  have hl : rows.length ≤ 1000000 := by have := hr.2.1; omega
  have hsum := fun st => rows_sum (l := rows) (e := [.val (.lst (rows.map dRow)), .emp, .emp, .emp, .emp, .emp]) (st := st) (i := 4) (j := 5) (f := ce_bounds_of_1) (g := (·.1)) (fun r st => by simp [q_ce_bounds_of_1])
  have hf := fun t => fraction_of_eq (t := t) (b := wid rows) (by omega) (bit_log (m := 13) (by omega) (by decide))
  obtain ⟨E', h1, h2⟩ := for_map (b := tgB (tgT 2 (tgsCons (tgN 4) (tgsCons (tgN 5) tgsNil))) fb_bounds_of_2) (enc := dRow) (fun done E => ∃ x4 x5, E = ⟨[.val (.lst (rows.map dRow)), .val (.int (wid rows)), .own (((List.range (done.length + 1)).map (bq rows)).map dF), .val (.int (pre rows done.length)), x4, x5], st⟩) rows [] rows ⟨[.val (.lst (rows.map dRow)), .val (.int (wid rows)), .own [dF 0], .val (.int 0), .emp, .emp], st⟩ rfl (by
    rintro done a ys E e ⟨x4, x5, rfl⟩
    have hlt : done.length < rows.length := by rw [e]; simp
    have ha : rows[done.length] = a := by simp [e]
    have hp : pre rows done.length + a.1 = pre rows (done.length + 1) := by rw [pre_succ hlt, ha]
    have hd : done.length + 1 < 1000000 := by have := hr.2.1; omega
    refine ⟨_, .inl ?_, .val (.int a.1), .val (.int a.2), rfl⟩
    simp [q_fb_bounds_of_2, hp, hf, hd]
    rw [List.range_succ (n := done.length + 1)]
    simp [bq]) ⟨.emp, .emp, by simp [pre_zero, bq]⟩
  obtain ⟨x4, x5, rfl⟩ := h2
  simp [F_bounds_of, g_bounds_of, hl, hsum]
  simp only [wid] at h1
  rw [h1]
  simp [bqs]
theorem is_stretch_ok {r : Int × Int} (h : RowOk r) (st : Sto) : F_is_stretch [.int r.1, .int r.2] st = .val .P (.bl true) st := by
  obtain ⟨h1, h2, h3, h4⟩ := h
  simp [F_is_stretch, g_is_stretch, h1, h2, h3, h4]
theorem table_init {rows : List (Int × Int)} (hr : RowsOk 8 rows) (st : Sto) : F_Table___init__ [.ptr st.length, .lst (rows.map dRow)] (st ++ [.ins 7 []]) = .val .P .non (st ++ [.ins 7 [.lst (rows.map dRow), .lst ((bqs rows).map dF)]]) := by
  have hl : rows.length ≤ 1000000 := by have := hr.2.1; omega
  have h1 : ¬ (rows.length : Int) < 1 := by have := hr.1; omega
  have h2 : ¬ (8 : Int) < rows.length := by have := hr.2.1; omega
  have hz := hr.2.2.2
  have hsum := fun st (x2 : Nat) => rows_sum (l := rows) (e := [.val (.ptr x2), .val (.lst (rows.map dRow)), .emp, .emp]) (st := st) (i := 2) (j := 3) (f := ce_Table___init___2) (g := (·.2)) (fun r st => by simp [q_ce_Table___init___2])
  have hkeep : ∀ st x2, lcGo (lcStep (tgT 2 (tgsCons (tgN 2) (tgsCons (tgN 3) tgsNil))) (fun E => .val .P (.bl true) E.st) ce_Table___init___3 [.val (.ptr x2), .val (.lst (rows.map dRow)), .emp, .emp]) (rows.map dRow) st = some (rows.map dRow, st) := fun st x2 =>
    lc_map fun r _ => by simp [q_ce_Table___init___3, dRow]
  obtain ⟨E', h3, x2, x3, rfl⟩ := for_map (b := tgB (tgT 2 (tgsCons (tgN 2) (tgsCons (tgN 3) tgsNil))) fb_Table___init___1) (enc := dRow) (fun done E => ∃ x2 x3, E = ⟨[.val (.ptr st.length), .val (.lst (rows.map dRow)), x2, x3], st ++ [.ins 7 []]⟩) rows [] rows ⟨[.val (.ptr st.length), .val (.lst (rows.map dRow)), .emp, .emp], st ++ [.ins 7 []]⟩ rfl (by
    rintro done a ys E e ⟨x2, x3, rfl⟩
    have ha : RowOk a := hr.2.2.1 a (by rw [e]; simp)
    refine ⟨_, .inl ?_, .val (.int a.1), .val (.int a.2), rfl⟩
    simp [q_fb_Table___init___1, is_stretch_ok ha]) ⟨.emp, .emp, rfl⟩
  have hb := bounds_of_eq hr
  simp [F_Table___init__, g_Table___init__, h1, h2, h3]
  simp [hl, hsum, hz, hkeep, hb]
theorem ask_span_eq {x y : Rat} {s : Nat} (hx : Sz (s + 1) x) (hy : Sz (s + 1) y) (hs : s ≤ 4000) (st : Sto) : F_ask_span [dF x, dF y] st = if x < 0 ∨ 1 < y ∨ y < x then .exc 3 [] st else .val .P .non st := by
  have l1 := is_less_eq hx (sz0 (n := s)) (by omega) st
  have l2 := is_less_eq (sz1 (n := s)) hy (by omega) st
  have l3 := is_less_eq hy hx (by omega) st
  by_cases c1 : x < 0
  · simp [F_ask_span, g_ask_span, l1, c1]
  · by_cases c2 : 1 < y
    · simp [F_ask_span, g_ask_span, l1, l2, c1, c2]
    · by_cases c3 : y < x <;> simp [F_ask_span, g_ask_span, l1, l2, l3, c1, c2, c3]
@[simp] theorem isNon_dF {q : Rat} : isNon (dF q) = false := rfl
theorem between_eqX {n : Nat} {st : Sto} {rows : List (Int × Int)} (T : TabAt st n rows) (hr : RowsOk 8 rows) {x y : Rat} {s : Nat} (hx : Sz s x) (hy : Sz s y) (hs : 13 ≤ s) (hs2 : s ≤ 4000) : F_Table_between [.ptr n, dF x, dF y] st = .val .N (.lst ((btw x y rows rows.length).map dSeg)) st := by
  have hl : rows.length ≤ 8 := hr.2.1
  unfold TabAt at T
  obtain ⟨E', h3, x4, x5, x6, x7, x8, x9, rfl⟩ := for_inv (b := tgB (tgT 2 (tgsCons (tgN 4) (tgsCons (tgT 2 (tgsCons (tgN 7) (tgsCons (tgN 8) tgsNil))) tgsNil))) fb_Table_between_1) (fun k E => ∃ x4 x5 x6 x7 x8 x9, E = ⟨[.val (.ptr n), .val (dF x), .val (dF y), .own ((btw x y rows k).map dSeg), x4, x5, x6, x7, x8, x9], st⟩) (enumD 0 (rows.map dRow)) 0 ⟨[.val (.ptr n), .val (dF x), .val (dF y), .own [], .emp, .emp, .emp, .emp, .emp, .emp], st⟩ (by
    rintro i d E hd ⟨x4, x5, x6, x7, x8, x9, rfl⟩
    obtain ⟨d', h1, rfl⟩ := enumD_get hd
    have hil : i < rows.length := by
      have := (List.getElem?_eq_some_iff.mp h1).1
      simpa using this
    rw [List.getElem?_map, List.getElem?_eq_getElem hil] at h1
    cases h1
    have b0 := bqs_at (rows := rows) (i := i) (by omega)
    have b1 : atI ((bqs rows).map dF) ((i : Int) + 1) = some (dF (bq rows (i + 1))) := bqs_at (rows := rows) (i := i + 1) (by omega)
    have hg := greater_eq hx (bq_sz hr i) (by omega) st
    have hle := lesser_eq hy (bq_sz hr (i + 1)) (by omega) st
    have lz := lo_sz hr hs hx i
    have hz := hi_sz hr hs hy i
    have hlt := is_less_eq lz hz (by omega) st
    have hm := minus_eq (bq_sz hr (i + 1)) (bq_sz hr i) (by omega) st
    have hm2 := minus_eq hz lz (by omega) st
    have hne := bd_ne hr hs hil
    have hov := over_eq (hz.sub lz) ((bq_sz hr (i + 1)).sub (bq_sz hr i)) hne (by omega) st
    have htm := times_eq (vq_sz hr hs hil) ((hz.sub lz).div ((bq_sz hr (i + 1)).sub (bq_sz hr i)) hne) (by omega) st
    rw [vq_eq hil] at htm
    have hg' : F_greater [dF x, dF (bq rows i)] st = .val .P (dF (lo x rows i)) st := hg
    have hle' : F_lesser [dF y, dF (bq rows (i + 1))] st = .val .P (dF (hi y rows i)) st := hle
    have hlen : (btw x y rows i).length < 1000000 := by
      have : (btw x y rows i).length ≤ i := by
        unfold btw
        exact Nat.le_trans (List.length_filterMap_le _ _) (by simp)
      omega
    rw [Nat.zero_add]
    by_cases c : lo x rows i < hi y rows i
    · refine ⟨_, .inl ?_, .val (.int i), .val (dF (lo x rows i)), .val (dF (hi y rows i)), .val (.int rows[i].1), .val (.int rows[i].2), .val (dF (bq rows (i + 1) - bq rows i)), rfl⟩
      have hb : btw x y rows (i + 1) = btw x y rows i ++ [(lo x rows i, hi y rows i, wseg x y rows i)] := by rw [btw_succ]; simp [seg, c]
      rw [hb]
      simp [q_fb_Table_between_1, T, b0, b1, hg', hle', hlt, c, hm, hm2, hov, dF_int, htm, hlen]
      simp [dSeg, wseg, vq_eq hil]
    · refine ⟨_, .inl ?_, .val (.int i), .val (dF (lo x rows i)), .val (dF (hi y rows i)), .val (.int rows[i].1), .val (.int rows[i].2), x9, rfl⟩
      have hb : btw x y rows (i + 1) = btw x y rows i := by rw [btw_succ]; simp [seg, c]
      rw [hb]
      simp [q_fb_Table_between_1, T, b0, b1, hg', hle', hlt, c]) ⟨.emp, .emp, .emp, .emp, .emp, .emp, rfl⟩
  rw [enumD_len, Nat.zero_add, List.length_map] at h3
  simp [F_Table_between, g_Table_between, T]
  rw [h3]
  simp
theorem between_eq {n : Nat} {st : Sto} {rows : List (Int × Int)} (T : TabAt st n rows) (hr : RowsOk 8 rows) {x y : Rat} {s : Nat} (hx : Sz s x) (hy : Sz s y) (hs : 13 ≤ s) (hs2 : s ≤ 400) : F_Table_between [.ptr n, dF x, dF y] st = .val .N (.lst ((btw x y rows rows.length).map dSeg)) st := between_eqX T hr hx hy hs (by omega)
theorem worth_eq {n : Nat} {st : Sto} {rows : List (Int × Int)} (T : TabAt st n rows) (hr : RowsOk 8 rows) {x y : Rat} {s : Nat} (hx : Sz s x) (hy : Sz s y) (hs : 13 ≤ s) (hs2 : s ≤ 400) : F_Table_worth [.ptr n, dF x, dF y] st = if x < 0 ∨ 1 < y ∨ y < x then .exc 3 [] st else .val .P (dF (wq x y rows)) st := by
  obtain ⟨s', rfl⟩ : ∃ s', s = s' + 1 := ⟨s - 1, by omega⟩
  have ha := ask_span_eq hx hy (by omega) st
  have hb := between_eq T hr hx hy hs hs2
  by_cases c : x < 0 ∨ 1 < y ∨ y < x
  · simp only [if_pos c] at ha ⊢
    simp [F_Table_worth, g_Table_worth, ha]
  · simp only [if_neg c] at ha ⊢
    have hz := btw_sz hr hs hx hy rows.length (Nat.le_refl _)
    obtain ⟨E', h3, x4, x5, x6, rfl⟩ := for_map (b := tgB (tgT 3 (tgsCons (tgN 4) (tgsCons (tgN 5) (tgsCons (tgN 6) tgsNil)))) fb_Table_worth_1) (enc := dSeg) (fun done E => ∃ x4 x5 x6, E = ⟨[.val (.ptr n), .val (dF x), .val (dF y), .val (dF (foldS done)), x4, x5, x6], st⟩) (btw x y rows rows.length) [] (btw x y rows rows.length) ⟨[.val (.ptr n), .val (dF x), .val (dF y), .val (dF 0), .emp, .emp, .emp], st⟩ rfl (by
      rintro done a ys E e ⟨x4, x5, x6, rfl⟩
      refine ⟨_, .inl ?_, .val (dF a.1), .val (dF a.2.1), .val (dF a.2.2), rfl⟩
      have hlen : done.length < 8 := by
        have h1 : (btw x y rows rows.length).length ≤ rows.length := by
          unfold btw
          exact Nat.le_trans (List.length_filterMap_le _ _) (by simp)
        have h2 := hr.2.1
        rw [e, List.length_append, List.length_cons] at h1
        omega
      have sd := foldS_sz (n := 2 * (s' + 1) + 59) done (fun z m => (hz z (by rw [e]; exact List.mem_append_left _ m)).2.2.1)
      have sa := (hz a (by rw [e]; simp)).2.2.1
      have hmul : done.length * (2 * (s' + 1) + 59 + 1) ≤ 7 * (2 * (s' + 1) + 59 + 1) := Nat.mul_le_mul_right _ (by omega)
      have hp := plus_eq sd sa (by omega) st
      have : foldS (done ++ [a]) = foldS done + a.2.2 := by rw [foldS_app]; simp [foldS, Rat.add_zero]
      rw [this]
      simp [q_fb_Table_worth_1, dSeg, hp]) ⟨.emp, .emp, .emp, rfl⟩
    rw [btw_sum] at h3
    unfold TabAt at T
    simp [F_Table_worth, g_Table_worth, ha, T, hb]
    rw [h3]
    simp [wq]
theorem cut_to {α : Type} (l : List α) {a : Int} (h : 0 ≤ a) : cutG l none (some a) = l.take a.toNat := by
  have : ¬ a < 0 := by omega
  simp [cutG, HT.sIx, this]
theorem cut_from {α : Type} (l : List α) {a : Int} (h : 0 ≤ a) : cutG l (some a) none = l.drop a.toNat := by
  have : ¬ a < 0 := by omega
  simp only [cutG, HT.sIx, this, if_false]
  by_cases c : a.toNat ≤ l.length
  · rw [Nat.min_eq_left c, List.take_of_length_le (by rw [List.length_drop]; omega)]
  · rw [Nat.min_eq_right (by omega), List.drop_of_length_le (Nat.le_refl _), List.drop_of_length_le (by omega)]
    simp
theorem cut_loop {st : Sto} {n : Nat} {x y : Rat} {s P : Nat} (hP : P + 5 * s + 70 < 9000) : ∀ (segs : List (Rat × Rat × Rat)) (m : Rat) (x4 x5 x6 : SL), 0 < m → (∀ z ∈ segs, Sz s z.1 ∧ Sz s z.2.1 ∧ Sz (2 * s + 59) z.2.2 ∧ z.1 < z.2.1) → (∀ l1 l2, segs = l1 ++ l2 → Sz P (m - foldS l1)) →
    match cutL segs m with
    | some z => forD (tgB (tgT 3 (tgsCons (tgN 4) (tgsCons (tgN 5) (tgsCons (tgN 6) tgsNil)))) fb_Table_cut_1) (segs.map dSeg) ⟨[.val (.ptr n), .val (dF x), .val (dF m), .val (dF y), x4, x5, x6], st⟩ = .rt .P (dF z) st
    | none => ∃ e', forD (tgB (tgT 3 (tgsCons (tgN 4) (tgsCons (tgN 5) (tgsCons (tgN 6) tgsNil)))) fb_Table_cut_1) (segs.map dSeg) ⟨[.val (.ptr n), .val (dF x), .val (dF m), .val (dF y), x4, x5, x6], st⟩ = .nx ⟨e', st⟩
  | [], m, x4, x5, x6, _, _, _ => ⟨_, rfl⟩
  | sg :: segs, m, x4, x5, x6, hm, hz, hq => by
    obtain ⟨z1, z2, z3, z4⟩ := hz sg (List.mem_cons_self ..)
    have sm : Sz P m := by
      have := hq [] (sg :: segs) rfl
      simp only [foldS] at this
      rwa [show m - 0 = m by grind] at this
    have hl := is_less_eq z3 sm (by omega) st
    have hmi := minus_eq sm z3 (by omega) st
    rw [List.map_cons]
    simp only [cutL]
    by_cases c : sg.2.2 < m
    · rw [if_pos c]
      have hb : tgB (tgT 3 (tgsCons (tgN 4) (tgsCons (tgN 5) (tgsCons (tgN 6) tgsNil)))) fb_Table_cut_1 (dSeg sg) ⟨[.val (.ptr n), .val (dF x), .val (dF m), .val (dF y), x4, x5, x6], st⟩ = .nx ⟨[.val (.ptr n), .val (dF x), .val (dF (m - sg.2.2)), .val (dF y), .val (dF sg.1), .val (dF sg.2.1), .val (dF sg.2.2)], st⟩ := by
        simp [q_fb_Table_cut_1, dSeg, hl, c, hmi]
      have ih := cut_loop (st := st) (n := n) (x := x) (y := y) hP segs (m - sg.2.2) (.val (dF sg.1)) (.val (dF sg.2.1)) (.val (dF sg.2.2)) (by grind) (fun z h => hz z (List.mem_cons_of_mem _ h)) (fun l1 l2 e => by
        have := hq (sg :: l1) l2 (by rw [e]; rfl)
        simp only [foldS] at this
        rwa [show m - (sg.2.2 + foldS l1) = m - sg.2.2 - foldS l1 by grind] at this)
      simp only [e_forC, hb]
      exact ih
    · rw [if_neg c]
      have hw : sg.2.2 ≠ 0 := by grind
      have ho := over_eq sm z3 hw (by omega) st
      have hm2 := minus_eq z2 z1 (by omega) st
      have ht := times_eq (sm.div z3 hw) (z2.sub z1) (by omega) st
      have hp := plus_eq z1 ((sm.div z3 hw).mul (z2.sub z1)) (by omega) st
      have hb : tgB (tgT 3 (tgsCons (tgN 4) (tgsCons (tgN 5) (tgsCons (tgN 6) tgsNil)))) fb_Table_cut_1 (dSeg sg) ⟨[.val (.ptr n), .val (dF x), .val (dF m), .val (dF y), x4, x5, x6], st⟩ = .rt .P (dF (sg.1 + (m / sg.2.2) * (sg.2.1 - sg.1))) st := by
        simp [q_fb_Table_cut_1, dSeg, hl, c, ho, hm2, ht, hp]
      simp only [e_forC, hb]
def dO : Option Rat → D
  | some z => dF z
  | none => .non
theorem cut_pos {n : Nat} {st : Sto} {rows : List (Int × Int)} (T : TabAt st n rows) (hr : RowsOk 8 rows) {x y m : Rat} {s M : Nat} (hx : Sz s x) (hy : Sz s y) (hs : 13 ≤ s) (hm : Sz M m) (hM : M + 21 * s + 700 < 9000) (c : ¬ (x < 0 ∨ 1 < y ∨ y < x)) (h0 : 0 < m) : F_Table_cut [.ptr n, dF x, dF m, dF y] st = .val .P (dO (cutL (btw x y rows rows.length) m)) st := by
  obtain ⟨s', rfl⟩ : ∃ s', s = s' + 1 := ⟨s - 1, by omega⟩
  have ha := ask_span_eq hx hy (by omega) st
  rw [if_neg c] at ha
  have hb := between_eq T hr hx hy hs (by omega)
  obtain ⟨M', hM'⟩ : ∃ M', M' = M + 1 := ⟨_, rfl⟩
  have l1 := is_less_eq hm (sz0 (n := 0)) (by omega) st
  have n1 : ¬ m < 0 := by grind
  have n2 : ¬ m.num = 0 := fun z => by have := Rat.num_eq_zero.mp z; grind
  have hz := btw_sz hr hs hx hy rows.length (Nat.le_refl _)
  have hlen : (btw x y rows rows.length).length ≤ 8 := by
    have h1 : (btw x y rows rows.length).length ≤ rows.length := by
      unfold btw
      exact Nat.le_trans (List.length_filterMap_le _ _) (by simp)
    have := hr.2.1
    omega
  have hloop := cut_loop (st := st) (n := n) (x := x) (y := y) (s := s' + 1) (P := M + (8 * (2 * (s' + 1) + 60) + 1) + 1) (by omega) (btw x y rows rows.length) m .emp .emp .emp h0 (fun z h => hz z h) (fun l1 l2 e => by
    have hl1 : l1.length ≤ 8 := by rw [e, List.length_append] at hlen; omega
    have hf := foldS_sz (n := 2 * (s' + 1) + 59) l1 (fun z h => (hz z (by rw [e]; exact List.mem_append_left _ h)).2.2.1)
    refine (hm.sub hf).up ?_
    have : l1.length * (2 * (s' + 1) + 59 + 1) ≤ 8 * (2 * (s' + 1) + 59 + 1) := Nat.mul_le_mul_right _ hl1
    omega)
  have T' := T
  unfold TabAt at T'
  cases hc : cutL (btw x y rows rows.length) m with
  | none =>
    rw [hc] at hloop
    obtain ⟨e', he⟩ := hloop
    simp [F_Table_cut, g_Table_cut, ha, l1, n1, n2, T', hb, dO]
    rw [he]
    simp
  | some z =>
    rw [hc] at hloop
    simp [F_Table_cut, g_Table_cut, ha, l1, n1, n2, T', hb, dO]
    rw [hloop]
    simp
theorem cut_last {n : Nat} {st : Sto} {x m : Rat} : F_Table_cut [.ptr n, dF x, dF m, .non] st = F_Table_cut [.ptr n, dF x, dF m, dF 1] st := by
  simp [F_Table_cut, g_Table_cut]
def tot (rows : List (Int × Int)) : Int := (rows.map (·.2)).sum
theorem tot_b {rows : List (Int × Int)} (hr : RowsOk 8 rows) : (tot rows).natAbs < 2 ^ 34 := by
  have h1 := sum_nonneg (f := fun r : Int × Int => r.2) (l := rows) (fun r m => (hr.2.2.1 r m).2.2.1)
  have h2 := sum_le (f := fun r : Int × Int => r.2) (c := 999999999) (l := rows) (fun r m => (hr.2.2.1 r m).2.2.2)
  have := hr.2.1
  unfold tot
  omega
theorem tot_pos {rows : List (Int × Int)} (hr : RowsOk 8 rows) : 0 < tot rows := by
  have h1 := sum_nonneg (f := fun r : Int × Int => r.2) (l := rows) (fun r m => (hr.2.2.1 r m).2.2.1)
  have := hr.2.2.2
  unfold tot
  omega
theorem total_eq {n : Nat} {st : Sto} {rows : List (Int × Int)} (T : TabAt st n rows) (hl : rows.length ≤ 1000000) : F_Table_total [.ptr n] st = .val .P (.int (tot rows)) st := by
  unfold TabAt at T
  have hsum := fun st => rows_sum (l := rows) (e := [.val (.ptr n), .emp, .emp]) (st := st) (i := 1) (j := 2) (f := ce_Table_total_1) (g := (·.2)) (fun r st => by simp [q_ce_Table_total_1])
  simp -implicitDefEqProofs [F_Table_total, g_Table_total, T, hl, hsum, tot]
def hf (rows : List (Int × Int)) : Rat := Rat.divInt (tot rows) 2
theorem hf_sz {rows : List (Int × Int)} (hr : RowsOk 8 rows) : Sz 40 (hf rows) := Sz.mk (bit_up (tot_b hr) (by decide)) (by decide) (by decide)
theorem hf_two {rows : List (Int × Int)} : (tot rows : Rat) = 2 * hf rows := by
  unfold hf
  rw [Rat.divInt_eq_div]
  have : ((2 : Int) : Rat) = 2 := rfl
  rw [this]; grind
theorem hf_pos {rows : List (Int × Int)} (hr : RowsOk 8 rows) : 0 < hf rows := by
  have h := tot_pos hr
  have h' : (0 : Rat) < (tot rows : Rat) := Rat.intCast_pos.mpr h
  have := hf_two (rows := rows)
  grind
theorem half_at {rows : List (Int × Int)} (hr : RowsOk 8 rows) : ∃ h0, cutL (btw 0 1 rows rows.length) (hf rows) = some h0 ∧ HalfAt rows (hf rows) h0 ∧ Sz 280 h0 := by
  have hp := hf_pos hr
  have h1 : cw rows 1 = 2 * hf rows := by rw [cw_one hr]; exact hf_two
  have h2 : wq 0 1 rows = cw rows 1 := rfl
  obtain ⟨z, a, b, c, d, e, f⟩ := cut_spec hr (x := 0) (m := hf rows) Rat.le_refl (by decide) hp (by grind)
  refine ⟨z, a, ⟨Rat.le_of_lt b, c, d, e, h1, hp, hf_sz hr⟩, (f 40 ?_).up (by decide)⟩
  have : cw rows z = hf rows := d
  rw [this]; exact hf_sz hr
theorem max_cast {A X : Int} {a b P : Rat} (hP : 0 < P) (hA : (A : Rat) = a * P) (hX : (X : Rat) = b * P) : ((if X > A then X else A : Int) : Rat) = (if b < a then a else b) * P := by
  have key : X > A ↔ a < b := by
    rw [gt_iff_lt, ← Rat.intCast_lt_intCast, hA, hX]
    exact Rat.mul_lt_mul_right hP
  by_cases c : a < b
  · rw [if_pos (key.mpr c), if_neg (by grind), hX]
  · rw [if_neg (fun z => c (key.mp z)), hA]
    by_cases d : b < a
    · rw [if_pos d]
    · rw [if_neg d]
      have : a = b := by grind
      rw [this]
theorem min_cast {A X : Int} {a b P : Rat} (hP : 0 < P) (hA : (A : Rat) = a * P) (hX : (X : Rat) = b * P) : ((if X < A then X else A : Int) : Rat) = (if a < b then a else b) * P := by
  have key : X < A ↔ b < a := by
    rw [← Rat.intCast_lt_intCast, hA, hX]
    exact Rat.mul_lt_mul_right hP
  by_cases c : b < a
  · rw [if_pos (key.mpr c), if_neg (by grind), hX]
  · rw [if_neg (fun z => c (key.mp z)), hA]
    by_cases d : a < b
    · rw [if_pos d]
    · rw [if_neg d]
      have : a = b := by grind
      rw [this]
theorem gap_cast {L H : Int} {l h P : Rat} (hP : 0 < P) (hL : (L : Rat) = l * P) (hH : (H : Rat) = h * P) : ((if H - L > 0 then H - L else 0 : Int) : Rat) = (if l < h then h - l else 0) * P := by
  have key : H - L > 0 ↔ l < h := by
    rw [show H - L > 0 ↔ L < H by omega, ← Rat.intCast_lt_intCast, hL, hH]
    exact Rat.mul_lt_mul_right hP
  by_cases c : l < h
  · rw [if_pos (key.mpr c), if_pos c, Rat.intCast_sub, hL, hH]; grind
  · rw [if_neg (fun z => c (key.mp z)), if_neg c]; simp
theorem step_cast {top bot sz W w v d : Int} {S g : Rat} (hw : w ≠ 0) (hW : W ≠ 0) (ht : (top : Rat) = bot * sz * S) (hd : (d : Rat) = g * (sz * W)) : ((top * w + v * d * bot : Int) : Rat) = ((bot * w : Int) : Rat) * sz * (S + v * (g / ((w : Rat) / W))) := by
  have h1 := cast_ne hw
  have h2 := cast_ne hW
  rw [Rat.intCast_add, Rat.intCast_mul, Rat.intCast_mul, Rat.intCast_mul, Rat.intCast_mul, ht, hd]
  grind
theorem worthG_eq {rows : List (Int × Int)} (hr : RowsOk 8 rows) {x y : Rat} {s : Nat} (hs : s ≤ 20000) (hx : Sz s x) (hy : Sz s y) (st : Sto) : ∃ top bot : Int, F_law_worth [.lst (rows.map dRow), dF x, dF y] st = .val .P (.tup [.int top, .int bot]) st ∧ 0 < bot ∧ (top : Rat) = bot * wq x y rows ∧ top.natAbs < 2 ^ (2 * s + 150) ∧ bot.natAbs < 2 ^ (2 * s + 150) := by
  have hw := wid_pos hr
  have hw2 := wid_le hr
  have hl8 := hr.2.1
  have hl : rows.length ≤ 1000000 := by omega
  have hsum := fun st => rows_sum (l := rows) (e := [.val (.lst (rows.map dRow)), .val (dF x), .val (dF y), .emp, .emp, .emp, .emp, .emp, .emp, .emp, .emp, .emp]) (st := st) (i := 8) (j := 9) (f := ce_law_worth_1) (g := (·.1)) (fun r st => by simp [q_ce_law_worth_1])
  have dx := den_pos x
  have dy := den_pos y
  obtain ⟨sz, hsz⟩ : ∃ sz : Int, sz = x.den * y.den := ⟨_, rfl⟩
  have sz0 : 0 < sz := by rw [hsz]; exact Int.mul_pos dx dy
  have szb : sz.natAbs < 2 ^ (2 * s) := by rw [hsz]; exact bit_up (bit_mul hx.den hy.den) (by omega)
  have m0 := bit_log2 hx.den hy.den (by omega)
  simp only [Int.natAbs_natCast] at m0
  have wb : (wid rows).natAbs < 2 ^ 13 := by omega
  have hxq : (x.num : Rat) = x * x.den := by
    have h := cast_ne (show (x.den : Int) ≠ 0 by omega)
    have e := q_eq x
    rw [Rat.divInt_eq_div] at e
    have : (x.num : Rat) / ((x.den : Int) : Rat) * ((x.den : Int) : Rat) = x.num := Rat.div_mul_cancel h
    rw [← e] at this
    exact this.symm
  have hyq : (y.num : Rat) = y * y.den := by
    have h := cast_ne (show (y.den : Int) ≠ 0 by omega)
    have e := q_eq y
    rw [Rat.divInt_eq_div] at e
    have : (y.num : Rat) / ((y.den : Int) : Rat) * ((y.den : Int) : Rat) = y.num := Rat.div_mul_cancel h
    rw [← e] at this
    exact this.symm
  have hP : (0 : Rat) < (sz : Rat) * (wid rows : Rat) := Rat.mul_pos (Rat.intCast_pos.mpr sz0) (Rat.intCast_pos.mpr hw)
  have cd : ((sz : Int) : Rat) = ((x.den : Int) : Rat) * ((y.den : Int) : Rat) := by rw [hsz, Rat.intCast_mul]
  have hX : ((x.num * y.den * wid rows : Int) : Rat) = x * ((sz : Rat) * (wid rows : Rat)) := by
    rw [Rat.intCast_mul, Rat.intCast_mul, hxq, cd]
    show x * ((x.den : Int) : Rat) * _ * _ = _
    grind
  have hY : ((y.num * x.den * wid rows : Int) : Rat) = y * ((sz : Rat) * (wid rows : Rat)) := by
    rw [Rat.intCast_mul, Rat.intCast_mul, hyq, cd]
    show y * ((y.den : Int) : Rat) * _ * _ = _
    grind
  have hB : ∀ k, ((pre rows k * sz : Int) : Rat) = bq rows k * ((sz : Rat) * (wid rows : Rat)) := fun k => by
    have h := cast_ne (show wid rows ≠ 0 by omega)
    rw [Rat.intCast_mul]
    unfold bq
    rw [Rat.divInt_eq_div]
    grind
  have bX1 := bit_mul hx.1 hy.den
  have bX := bit_mul bX1 wb
  have bY1 := bit_mul hy.1 hx.den
  have bY := bit_mul bY1 wb
  have mX1 := bit_log2 hx.1 hy.den (by omega)
  have mX := bit_log2 bX1 wb (by omega)
  have mY1 := bit_log2 hy.1 hx.den (by omega)
  have mY := bit_log2 bY1 wb (by omega)
  obtain ⟨E', h3, top, bot, x8, x9, x10, x11, rfl, b0, ht, tb, bb⟩ := for_map (b := tgB (tgT 2 (tgsCons (tgN 8) (tgsCons (tgN 9) tgsNil))) fb_law_worth_2) (enc := dRow) (fun done E => ∃ top bot x8 x9 x10 x11, E = ⟨[.val (.lst (rows.map dRow)), .val (dF x), .val (dF y), .val (.int (wid rows)), .val (.int sz), .val (.int top), .val (.int bot), .val (.int (pre rows done.length)), x8, x9, x10, x11], st⟩ ∧ 0 < bot ∧ (top : Rat) = bot * sz * sumR (wpart x y rows) done.length ∧ top.natAbs < 2 ^ (2 * s + 60 + 11 * done.length) ∧ bot.natAbs < 2 ^ (10 * done.length + 1)) rows [] rows ⟨[.val (.lst (rows.map dRow)), .val (dF x), .val (dF y), .val (.int (wid rows)), .val (.int sz), .val (.int 0), .val (.int 1), .val (.int 0), .emp, .emp, .emp, .emp], st⟩ rfl (by
    rintro done a ys E e ⟨top, bot, x8, x9, x10, x11, rfl, b0, ht, tb, bb⟩
    have hlt : done.length < rows.length := by rw [e]; simp
    have ha : rows[done.length] = a := by simp [e]
    have hp : pre rows done.length + a.1 = pre rows (done.length + 1) := by rw [pre_succ hlt, ha]
    have hra := row_ok hr hlt
    rw [ha] at hra
    obtain ⟨r1, r2, r3, r4⟩ := hra
    have p0 := pre_nonneg hr done.length
    have p1 := pre_le hr done.length
    have p2 := pre_nonneg hr (done.length + 1)
    have p3 := pre_le hr (done.length + 1)
    have pb : (pre rows done.length).natAbs < 2 ^ 13 := by omega
    have pb2 : (pre rows (done.length + 1)).natAbs < 2 ^ 13 := by omega
    have s1 : a.1.natAbs < 2 ^ 10 := by omega
    have s2 : a.2.natAbs < 2 ^ 30 := by omega
    have hL := max_cast hP (hB done.length) hX
    have hH := min_cast hP (hB (done.length + 1)) hY
    have bL : (if x.num * y.den * wid rows > pre rows done.length * sz then x.num * y.den * wid rows else pre rows done.length * sz).natAbs < 2 ^ (2 * s + 20) := by
      split
      · exact bit_up bX (by omega)
      · exact bit_up (bit_mul pb szb) (by omega)
    have bH : (if y.num * x.den * wid rows < pre rows (done.length + 1) * sz then y.num * x.den * wid rows else pre rows (done.length + 1) * sz).natAbs < 2 ^ (2 * s + 20) := by
      split
      · exact bit_up bY (by omega)
      · exact bit_up (bit_mul pb2 szb) (by omega)
    have m1 := bit_log2 pb szb (by omega)
    have m2 := bit_log2 pb2 szb (by omega)
    generalize hLL : (if x.num * y.den * wid rows > pre rows done.length * sz then x.num * y.den * wid rows else pre rows done.length * sz) = L at *
    generalize hHH : (if y.num * x.den * wid rows < pre rows (done.length + 1) * sz then y.num * x.den * wid rows else pre rows (done.length + 1) * sz) = H at *
    have hG := gap_cast hP hL hH
    have bG : (if H - L > 0 then H - L else 0).natAbs < 2 ^ (2 * s + 21) := by
      split
      · exact bit_up (bit_sub bH bL) (by omega)
      · simp [Nat.two_pow_pos]
    generalize hGG : (if H - L > 0 then H - L else 0) = d at *
    have hst := step_cast (w := a.1) (v := a.2) (show a.1 ≠ 0 by omega) (show wid rows ≠ 0 by omega) ht hG
    have b1 := bit_mul tb s1
    have b2 := bit_mul s2 bG
    have b3 := bit_mul b2 bb
    have b4 := bit_add b1 b3
    have m3 := bit_log2 tb s1 (by omega)
    have m4 := bit_log2 s2 bG (by omega)
    have m5 := bit_log2 b2 bb (by omega)
    have m6 := bit_log2 bb s1 (by omega)
    have b5 := bit_mul bb s1
    have hwp : a.2 * ((if lo x rows done.length < hi y rows done.length then hi y rows done.length - lo x rows done.length else 0) / ((a.1 : Rat) / (wid rows : Rat))) = wpart x y rows done.length := by
      unfold wpart wseg
      rw [bq_diff hr hlt, vq_eq hlt, ha]
      split
      · rfl
      · rw [Rat.div_def, Rat.zero_mul, Rat.mul_zero]
    have hln : (done ++ [a]).length = done.length + 1 := by simp
    rw [hln]
    refine ⟨_, .inl ?_, top * a.1 + a.2 * d * bot, bot * a.1, .val (.int a.1), .val (.int a.2), .val (.int L), .val (.int H), rfl, Int.mul_pos b0 (by omega), ?_, bit_up b4 (by omega), bit_up b5 (by omega)⟩
    · have hGG' : (if L < H then H - L else 0) = d := by
        rw [← hGG]
        by_cases c : L < H
        · rw [if_pos c, if_pos (by omega)]
        · rw [if_neg c, if_neg (by omega)]
      simp only [gt_iff_lt] at hLL
      simp only [Int.natAbs_natCast] at mX1 mX mY1 mY
      simp -implicitDefEqProofs [q_fb_law_worth_2, m1, mX1, mX, hp, m2, mY1, mY, hLL, hHH, hGG', m3, m4, m5, m6]
    · rw [hst]
      show _ = _ * _ * (sumR (wpart x y rows) done.length + wpart x y rows done.length)
      rw [← hwp]
      rfl) ⟨0, 1, .emp, .emp, .emp, .emp, by simp [pre_zero], by decide, by simp [sumR], by simp [Nat.two_pow_pos], by decide⟩
  have bt : top.natAbs < 2 ^ (2 * s + 150) := bit_up tb (by omega)
  have bbo : bot.natAbs < 2 ^ 90 := bit_up bb (by omega)
  refine ⟨top, bot * sz, ?_, Int.mul_pos b0 sz0, ?_, bt, bit_up (bit_mul bbo szb) (by omega)⟩
  · have m7 := bit_log2 bbo szb (by omega)
    simp only [wid, hsz] at h3
    simp only [hsz] at m7
    simp -implicitDefEqProofs [F_law_worth, g_law_worth, hl, hsum, m0]
    rw [h3]
    simp -implicitDefEqProofs [m7, hsz]
  · rw [ht, Rat.intCast_mul]
    rfl
def dR3 (r : Int × Int × Int) : D := .tup [.int r.1, .int r.2.1, .int r.2.2]
def prowI (S : List Int) (i j : Nat) : Nat → Int × Int × Int
  | 0 => (S.getD i 0, S.getD (i + 1) 0 - S.getD i 0, 0)
  | 1 => (S.getD j 0 - S.getD i 0, -(S.getD (i + 1) 0 - S.getD i 0), S.getD (j + 1) 0 - S.getD j 0)
  | _ => (S.getD (S.length - 1) 0 - S.getD j 0, 0, -(S.getD (j + 1) 0 - S.getD j 0))
theorem at_int {S : List Int} {i : Nat} (h : i < S.length) : atI (S.map D.int) (i : Int) = some (.int (S.getD i 0)) := by
  have h1 : ¬ (i : Int) < 0 := by omega
  have h2 : S.getD i 0 = S[i] := by rw [List.getD_eq_getElem?_getD, List.getElem?_eq_getElem h]; rfl
  simp [atI, ixN, h1, h, h2]
theorem at_lastI {S : List Int} (h : 0 < S.length) : atI (S.map D.int) (-1) = some (.int (S.getD (S.length - 1) 0)) := by
  have e : ixN (S.map D.int).length (-1) = some (S.length - 1) := by
    rw [List.length_map]
    unfold ixN
    simp; omega
  have h2 : S.getD (S.length - 1) 0 = S[S.length - 1]'(by omega) := by rw [List.getD_eq_getElem?_getD, List.getElem?_eq_getElem (show S.length - 1 < S.length by omega)]; rfl
  unfold atI
  rw [e, h2]; simp
theorem piece_row_eq {S : List Int} {i j p : Nat} (hi : i + 1 < S.length) (hj : j + 1 < S.length) (hp : p < 3) (hS : S.length ≤ 1000) (st : Sto) : F_piece_row [.lst (S.map D.int), .int (i : Int), .int (j : Int), .int (p : Int)] st = .val .P (dR3 (prowI S i j p)) st := by
  have a1 := at_int (S := S) (i := i) (by omega)
  have a2 := at_int (S := S) (i := i + 1) hi
  have a3 := at_int (S := S) (i := j) (by omega)
  have a4 := at_int (S := S) (i := j + 1) hj
  have a5 := at_lastI (S := S) (by omega)
  have c1 : ((i + 1 : Nat) : Int) = (i : Int) + 1 := by omega
  have c2 : ((j + 1 : Nat) : Int) = (j : Int) + 1 := by omega
  rw [c1] at a2
  rw [c2] at a4
  have hp3 : p = 0 ∨ p = 1 ∨ p = 2 := by omega
  rcases hp3 with rfl | rfl | rfl
  · unfold dR3 prowI
    generalize (i : Int) = ii at *
    generalize (j : Int) = jj at *
    generalize S.map D.int = SD at *
    simp -implicitDefEqProofs [F_piece_row, g_piece_row, a1, a2, a3, a4, a5]
  · unfold dR3 prowI
    generalize (i : Int) = ii at *
    generalize (j : Int) = jj at *
    generalize S.map D.int = SD at *
    simp -implicitDefEqProofs [F_piece_row, g_piece_row, a1, a2, a3, a4, a5]
  · unfold dR3 prowI
    generalize (i : Int) = ii at *
    generalize (j : Int) = jj at *
    generalize S.map D.int = SD at *
    simp -implicitDefEqProofs [F_piece_row, g_piece_row, a1, a2, a3, a4, a5]
def subI (a b : Int × Int × Int) : Int × Int × Int := (a.1 - b.1, a.2.1 - b.2.1, a.2.2 - b.2.2)
def wishI (S : Nat → List Int) (i j : Nat) (o : List Nat) : List (Int × Int × Int) :=
  [subI (prowI (S (o.getD 0 0)) i j 0) (prowI (S (o.getD 0 0)) i j 1), subI (prowI (S (o.getD 0 0)) i j 0) (prowI (S (o.getD 0 0)) i j 2),
   subI (prowI (S (o.getD 1 0)) i j 1) (prowI (S (o.getD 1 0)) i j 0), subI (prowI (S (o.getD 1 0)) i j 1) (prowI (S (o.getD 1 0)) i j 2),
   subI (prowI (S (o.getD 2 0)) i j 2) (prowI (S (o.getD 2 0)) i j 0), subI (prowI (S (o.getD 2 0)) i j 2) (prowI (S (o.getD 2 0)) i j 1)]
def dOrd (o : List Nat) : D := .tup (o.map fun h : Nat => .int (h : Int))
theorem at3 (a b c : D) : atI [a, b, c] 0 = some a ∧ atI [a, b, c] 1 = some b ∧ atI [a, b, c] 2 = some c := ⟨rfl, rfl, rfl⟩
section
variable {S : Nat → List Int} {i j : Nat} (hl : ∀ h, h < 3 → i + 1 < (S h).length ∧ j + 1 < (S h).length ∧ (S h).length ≤ 1000)
include hl
theorem wish_in {h p q : Nat} (hh : h < 3) (hp : p < 3) (hq : q < 3) {acc : List (Int × Int × Int)} (hacc : acc.length ≤ 100) {e3 e9 : SL} (st : Sto) (own : Int × Int × Int) :
    ∃ e9', fb_wishes_1 ⟨[.val (.lst [.lst ((S 0).map D.int), .lst ((S 1).map D.int), .lst ((S 2).map D.int)]), .val (.int (i : Int)), .val (.int (j : Int)), e3, .own (acc.map dR3), .val (.int (p : Int)), .val (.int (h : Int)), .val (dR3 own), .val (.int (q : Int)), e9], st⟩ =
      .nx ⟨[.val (.lst [.lst ((S 0).map D.int), .lst ((S 1).map D.int), .lst ((S 2).map D.int)]), .val (.int (i : Int)), .val (.int (j : Int)), e3, .own ((acc ++ if q = p then [] else [subI own (prowI (S h) i j q)]).map dR3), .val (.int (p : Int)), .val (.int (h : Int)), .val (dR3 own), .val (.int (q : Int)), e9'], st⟩ := by
  obtain ⟨l1, l2, l3⟩ := hl h hh
  have hat : atI [D.lst ((S 0).map D.int), .lst ((S 1).map D.int), .lst ((S 2).map D.int)] (h : Int) = some (.lst ((S h).map D.int)) := by
    have : h = 0 ∨ h = 1 ∨ h = 2 := by omega
    rcases this with rfl | rfl | rfl <;> rfl
  have pr := piece_row_eq l1 l2 hq l3 st
  by_cases c : q = p
  · subst c
    refine ⟨e9, ?_⟩
    rw [if_pos rfl, List.append_nil]
    generalize acc.map dR3 = AD at *
    simp -implicitDefEqProofs [q_fb_wishes_1]
  · have c' : ¬ ((q : Int) = (p : Int)) := by omega
    refine ⟨.val (dR3 (prowI (S h) i j q)), ?_⟩
    rw [if_neg c, List.map_append]
    have la : (acc.map dR3).length < 1000000 := by simp; omega
    have b3 := at3
    have eD : [subI own (prowI (S h) i j q)].map dR3 = [.tup [.int (own.1 - (prowI (S h) i j q).1), .int (own.2.1 - (prowI (S h) i j q).2.1), .int (own.2.2 - (prowI (S h) i j q).2.2)]] := rfl
    rw [eD]
    unfold dR3 at pr la ⊢
    generalize prowI (S h) i j q = r at *
    generalize acc.map (fun r : Int × Int × Int => D.tup [.int r.1, .int r.2.1, .int r.2.2]) = AD at *
    generalize (S h).map D.int = SH at *
    generalize (S 0).map D.int = S0 at *
    generalize (S 1).map D.int = S1 at *
    generalize (S 2).map D.int = S2 at *
    generalize (q : Int) = qq at *
    generalize (p : Int) = pp at *
    generalize (h : Int) = hh' at *
    generalize (i : Int) = ii at *
    generalize (j : Int) = jj at *
    simp -implicitDefEqProofs [q_fb_wishes_1, c', hat, pr, b3, la, mAppend]
theorem wish_hand {h p : Nat} (hh : h < 3) (hp : p < 3) {acc : List (Int × Int × Int)} (hacc : acc.length ≤ 90) {e3 e7 e8 e9 : SL} (st : Sto) :
    ∃ e8' e9', fb_wishes_2 ⟨[.val (.lst [.lst ((S 0).map D.int), .lst ((S 1).map D.int), .lst ((S 2).map D.int)]), .val (.int (i : Int)), .val (.int (j : Int)), e3, .own (acc.map dR3), .val (.int (p : Int)), .val (.int (h : Int)), e7, e8, e9], st⟩ =
      .nx ⟨[.val (.lst [.lst ((S 0).map D.int), .lst ((S 1).map D.int), .lst ((S 2).map D.int)]), .val (.int (i : Int)), .val (.int (j : Int)), e3, .own ((((acc ++ if 0 = p then [] else [subI (prowI (S h) i j p) (prowI (S h) i j 0)]) ++ if 1 = p then [] else [subI (prowI (S h) i j p) (prowI (S h) i j 1)]) ++ if 2 = p then [] else [subI (prowI (S h) i j p) (prowI (S h) i j 2)]).map dR3), .val (.int (p : Int)), .val (.int (h : Int)), .val (dR3 (prowI (S h) i j p)), e8', e9'], st⟩ := by
  obtain ⟨l1, l2, l3⟩ := hl h hh
  have hat : atI [D.lst ((S 0).map D.int), .lst ((S 1).map D.int), .lst ((S 2).map D.int)] (h : Int) = some (.lst ((S h).map D.int)) := by
    have : h = 0 ∨ h = 1 ∨ h = 2 := by omega
    rcases this with rfl | rfl | rfl <;> rfl
  have pr := piece_row_eq l1 l2 hp l3 st
  have la : ∀ (b : Bool) (x : List (Int × Int × Int)) (y : Int × Int × Int), (x ++ if b = true then [] else [y]).length ≤ x.length + 1 := fun b x y => by cases b <;> simp
  have lb : ∀ (q : Nat) (x : List (Int × Int × Int)) (y : Int × Int × Int), (x ++ if q = p then [] else [y]).length ≤ x.length + 1 := fun q x y => by by_cases c : q = p <;> simp [c]
  obtain ⟨f1, r1⟩ := wish_in hl hh hp (q := 0) (by decide) (acc := acc) (by omega) (e3 := e3) (e9 := e9) st (prowI (S h) i j p)
  have l4 := lb 0 acc (subI (prowI (S h) i j p) (prowI (S h) i j 0))
  generalize (acc ++ if 0 = p then [] else [subI (prowI (S h) i j p) (prowI (S h) i j 0)]) = A1 at *
  obtain ⟨f2, r2⟩ := wish_in hl hh hp (q := 1) (by decide) (acc := A1) (by omega) (e3 := e3) (e9 := f1) st (prowI (S h) i j p)
  have l5 := lb 1 A1 (subI (prowI (S h) i j p) (prowI (S h) i j 1))
  generalize (A1 ++ if 1 = p then [] else [subI (prowI (S h) i j p) (prowI (S h) i j 1)]) = A2 at *
  obtain ⟨f3, r3⟩ := wish_in hl hh hp (q := 2) (by decide) (acc := A2) (by omega) (e3 := e3) (e9 := f2) st (prowI (S h) i j p)
  generalize (A2 ++ if 2 = p then [] else [subI (prowI (S h) i j p) (prowI (S h) i j 2)]) = A3 at *
  refine ⟨.val (.int 2), f3, ?_⟩
  have rg : rangeD 0 3 = [.int 0, .int 1, .int 2] := rfl
  have n0 : ((0 : Nat) : Int) = 0 := rfl
  have n1 : ((1 : Nat) : Int) = 1 := rfl
  have n2 : ((2 : Nat) : Int) = 2 := rfl
  rw [n0] at r1
  rw [n1] at r2
  rw [n2] at r3
  generalize dR3 (prowI (S h) i j p) = DP at *
  generalize acc.map dR3 = AD at *
  generalize A1.map dR3 = AD1 at *
  generalize A2.map dR3 = AD2 at *
  generalize A3.map dR3 = AD3 at *
  generalize (S h).map D.int = SH at *
  generalize (S 0).map D.int = S0 at *
  generalize (S 1).map D.int = S1 at *
  generalize (S 2).map D.int = S2 at *
  generalize (p : Int) = pp at *
  generalize (h : Int) = hh' at *
  generalize (i : Int) = ii at *
  generalize (j : Int) = jj at *
  simp -implicitDefEqProofs [q_fb_wishes_2, hat, pr, rg, e_forC, r1, r2, r3]
theorem wishes_eq {o : List Nat} (ho : o ∈ Tp.ords) (st : Sto) : F_wishes [.lst [.lst ((S 0).map D.int), .lst ((S 1).map D.int), .lst ((S 2).map D.int)], .int (i : Int), .int (j : Int), dOrd o] st = .val .N (.lst ((wishI S i j o).map dR3)) st := by
  have o3 : ∀ o ∈ Tp.ords, o = [o.getD 0 0, o.getD 1 0, o.getD 2 0] ∧ o.getD 0 0 < 3 ∧ o.getD 1 0 < 3 ∧ o.getD 2 0 < 3 := by decide +kernel
  obtain ⟨e, h0, h1, h2⟩ := o3 o ho
  unfold wishI
  have eo : dOrd o = .tup [.int (o.getD 0 0 : Nat), .int (o.getD 1 0 : Nat), .int (o.getD 2 0 : Nat)] := by
    conv => lhs; rw [e]
    rfl
  rw [eo]
  generalize o.getD 0 0 = x at *
  generalize o.getD 1 0 = y at *
  generalize o.getD 2 0 = z at *
  obtain ⟨a8, a9, r1⟩ := wish_hand hl h0 (p := 0) (by decide) (acc := []) (by simp) (e3 := .val (.tup [.int (x : Nat), .int (y : Nat), .int (z : Nat)])) (e7 := .emp) (e8 := .emp) (e9 := .emp) st
  obtain ⟨b8, b9, r2⟩ := wish_hand hl h1 (p := 1) (by decide) (acc := [subI (prowI (S x) i j 0) (prowI (S x) i j 1), subI (prowI (S x) i j 0) (prowI (S x) i j 2)]) (by simp) (e3 := .val (.tup [.int (x : Nat), .int (y : Nat), .int (z : Nat)])) (e7 := .val (dR3 (prowI (S x) i j 0))) (e8 := a8) (e9 := a9) st
  obtain ⟨c8, c9, r3⟩ := wish_hand hl h2 (p := 2) (by decide) (acc := [subI (prowI (S x) i j 0) (prowI (S x) i j 1), subI (prowI (S x) i j 0) (prowI (S x) i j 2), subI (prowI (S y) i j 1) (prowI (S y) i j 0), subI (prowI (S y) i j 1) (prowI (S y) i j 2)]) (by simp) (e3 := .val (.tup [.int (x : Nat), .int (y : Nat), .int (z : Nat)])) (e7 := .val (dR3 (prowI (S y) i j 1))) (e8 := b8) (e9 := b9) st
  have n0 : ((0 : Nat) : Int) = 0 := rfl
  have n1 : ((1 : Nat) : Int) = 1 := rfl
  have n2 : ((2 : Nat) : Int) = 2 := rfl
  rw [n0] at r1
  rw [n1] at r2
  rw [n2] at r3
  have f1 : (((([] : List (Int × Int × Int)) ++ if 0 = 0 then [] else [subI (prowI (S x) i j 0) (prowI (S x) i j 0)]) ++ if 1 = 0 then [] else [subI (prowI (S x) i j 0) (prowI (S x) i j 1)]) ++ if 2 = 0 then [] else [subI (prowI (S x) i j 0) (prowI (S x) i j 2)]) = [subI (prowI (S x) i j 0) (prowI (S x) i j 1), subI (prowI (S x) i j 0) (prowI (S x) i j 2)] := rfl
  rw [f1, List.map_nil] at r1
  have f2 : ∀ L : List (Int × Int × Int), (((L ++ if 0 = 1 then [] else [subI (prowI (S y) i j 1) (prowI (S y) i j 0)]) ++ if 1 = 1 then [] else [subI (prowI (S y) i j 1) (prowI (S y) i j 1)]) ++ if 2 = 1 then [] else [subI (prowI (S y) i j 1) (prowI (S y) i j 2)]) = L ++ [subI (prowI (S y) i j 1) (prowI (S y) i j 0), subI (prowI (S y) i j 1) (prowI (S y) i j 2)] := fun L => by simp
  rw [f2] at r2
  have f3 : ∀ L : List (Int × Int × Int), (((L ++ if 0 = 2 then [] else [subI (prowI (S z) i j 2) (prowI (S z) i j 0)]) ++ if 1 = 2 then [] else [subI (prowI (S z) i j 2) (prowI (S z) i j 1)]) ++ if 2 = 2 then [] else [subI (prowI (S z) i j 2) (prowI (S z) i j 2)]) = L ++ [subI (prowI (S z) i j 2) (prowI (S z) i j 0), subI (prowI (S z) i j 2) (prowI (S z) i j 1)] := fun L => by simp
  rw [f3] at r3
  simp only [List.cons_append, List.nil_append] at r2 r3
  generalize ([subI (prowI (S x) i j 0) (prowI (S x) i j 1), subI (prowI (S x) i j 0) (prowI (S x) i j 2)] : List (Int × Int × Int)).map dR3 = L1 at *
  generalize ([subI (prowI (S x) i j 0) (prowI (S x) i j 1), subI (prowI (S x) i j 0) (prowI (S x) i j 2), subI (prowI (S y) i j 1) (prowI (S y) i j 0), subI (prowI (S y) i j 1) (prowI (S y) i j 2)] : List (Int × Int × Int)).map dR3 = L2 at *
  generalize ([subI (prowI (S x) i j 0) (prowI (S x) i j 1), subI (prowI (S x) i j 0) (prowI (S x) i j 2), subI (prowI (S y) i j 1) (prowI (S y) i j 0), subI (prowI (S y) i j 1) (prowI (S y) i j 2), subI (prowI (S z) i j 2) (prowI (S z) i j 0), subI (prowI (S z) i j 2) (prowI (S z) i j 1)] : List (Int × Int × Int)).map dR3 = L3 at *
  generalize dR3 (prowI (S x) i j 0) = P0 at *
  generalize dR3 (prowI (S y) i j 1) = P1 at *
  generalize dR3 (prowI (S z) i j 2) = P2 at *
  generalize (S 0).map D.int = S0 at *
  generalize (S 1).map D.int = S1 at *
  generalize (S 2).map D.int = S2 at *
  generalize (x : Int) = xx at *
  generalize (y : Int) = yy at *
  generalize (z : Int) = zz at *
  generalize (i : Int) = ii at *
  generalize (j : Int) = jj at *
  have en : enumD 0 [D.int xx, D.int yy, D.int zz] = [.tup [.int 0, .int xx], .tup [.int 1, .int yy], .tup [.int 2, .int zz]] := rfl
  simp -implicitDefEqProofs [F_wishes, g_wishes, en, e_forC, r1, r2, r3]
end
def rowQ (r : Int × Int × Int) : Tp.Rw := ((r.1 : Rat), (r.2.1 : Rat), (r.2.2 : Rat))
def RiB (B : Nat) (r : Int × Int × Int) : Prop := r.1.natAbs < 2 ^ B ∧ r.2.1.natAbs < 2 ^ B ∧ r.2.2.natAbs < 2 ^ B
theorem RiB.ri {B : Nat} {r : Int × Int × Int} (h : RiB B r) : Tp.Ri B (rowQ r) := ⟨r.1, r.2.1, r.2.2, h.1, h.2.1, h.2.2, rfl⟩
theorem val_sz {B S : Nat} {r : Int × Int × Int} (h : RiB B r) {p : Tp.P2} (hp : Tp.SzP S p) : Sz (3 * B + 2 * S + 5) (Tp.val (rowQ r) p) := by
  have a := (Sz.int h.2.1).mul hp.1
  have b := (Sz.int h.2.2).mul hp.2
  have c := (Sz.int h.1).add (a.add b)
  have e : Tp.val (rowQ r) p = (r.1 : Rat) + ((r.2.1 : Rat) * p.1 + (r.2.2 : Rat) * p.2) := by unfold Tp.val rowQ; grind
  rw [e]
  exact c.up (by omega)
theorem value_at_eq {B S : Nat} {r : Int × Int × Int} (h : RiB B r) {p : Tp.P2} (hp : Tp.SzP S p) (hB : 3 * B + 2 * S < 4000) (st : Sto) : F_value_at [dR3 r, dPair p] st = .val .P (dF (Tp.val (rowQ r) p)) st := by
  have i0 := Sz.int h.1
  have i1 := Sz.int h.2.1
  have i2 := Sz.int h.2.2
  have t1 := times_eq i1 hp.1 (by omega) st
  have t2 := times_eq i2 hp.2 (by omega) st
  have p1 := plus_eq (i1.mul hp.1) (i2.mul hp.2) (by omega) st
  have p2 := plus_eq i0 ((i1.mul hp.1).add (i2.mul hp.2)) (by omega) st
  have e : Tp.val (rowQ r) p = (r.1 : Rat) + ((r.2.1 : Rat) * p.1 + (r.2.2 : Rat) * p.2) := by unfold Tp.val rowQ; grind
  rw [e]
  have d0 : ∀ i : Int, D.tup [.int i, .int 1] = dF (i : Rat) := fun _ => rfl
  have b3 := at3
  have a0 : ∀ a b : D, atI [a, b] 0 = some a := fun a b => rfl
  have a1 : ∀ a b : D, atI [a, b] 1 = some b := fun a b => rfl
  unfold dR3 dPair
  generalize dF ((r.1 : Rat) + ((r.2.1 : Rat) * p.1 + (r.2.2 : Rat) * p.2)) = x1 at *
  generalize dF ((r.2.1 : Rat) * p.1 + (r.2.2 : Rat) * p.2) = x2 at *
  generalize dF ((r.2.1 : Rat) * p.1) = x3 at *
  generalize dF ((r.2.2 : Rat) * p.2) = x4 at *
  generalize dF p.1 = x5 at *
  generalize dF p.2 = x6 at *
  have e0 := d0 r.1
  have e1 := d0 r.2.1
  have e2 := d0 r.2.2
  generalize dF (r.1 : Rat) = x7 at *
  generalize dF (r.2.1 : Rat) = x8 at *
  generalize dF (r.2.2 : Rat) = x9 at *
  simp -implicitDefEqProofs [F_value_at, g_value_at, b3, a0, a1, e0, e1, e2, t1, t2, p1, p2]
theorem crossing_eq {S V : Nat} {p q : Tp.P2} (hp : Tp.SzP S p) (hq : Tp.SzP S q) {g f : Rat} (hg : Sz V g) (hf : Sz V f) (hs : g * f < 0) (hb : 3 * S + 3 * V < 4400) (st : Sto) :
    F_crossing [dPair p, dPair q, dF g, dF f] st = .val .P (dPair (p.1 + (q.1 - p.1) * (g / (g - f)), p.2 + (q.2 - p.2) * (g / (g - f)))) st := by
  have hne : g - f ≠ 0 := by rcases Tp.neg_mul_iff.mp hs with ⟨h1, h2⟩ | ⟨h1, h2⟩ <;> grind
  have m0 := minus_eq hg hf (by omega) st
  have o0 := over_eq hg (hg.sub hf) hne (by omega) st
  have so := hg.div (hg.sub hf) hne
  have m1 := minus_eq hq.1 hp.1 (by omega) st
  have m2 := minus_eq hq.2 hp.2 (by omega) st
  have t1 := times_eq (hq.1.sub hp.1) so (by omega) st
  have t2 := times_eq (hq.2.sub hp.2) so (by omega) st
  have p1 := plus_eq hp.1 ((hq.1.sub hp.1).mul so) (by omega) st
  have p2 := plus_eq hp.2 ((hq.2.sub hp.2).mul so) (by omega) st
  have a0 : ∀ a b : D, atI [a, b] 0 = some a := fun a b => rfl
  have a1 : ∀ a b : D, atI [a, b] 1 = some b := fun a b => rfl
  unfold dPair
  generalize dF (p.1 + (q.1 - p.1) * (g / (g - f))) = x1 at *
  generalize dF (p.2 + (q.2 - p.2) * (g / (g - f))) = x2 at *
  generalize dF ((q.1 - p.1) * (g / (g - f))) = x3 at *
  generalize dF ((q.2 - p.2) * (g / (g - f))) = x4 at *
  generalize dF (q.1 - p.1) = x5 at *
  generalize dF (q.2 - p.2) = x6 at *
  generalize dF (g / (g - f)) = x7 at *
  generalize dF (g - f) = x8 at *
  generalize dF p.1 = x9 at *
  generalize dF p.2 = y1 at *
  generalize dF q.1 = y2 at *
  generalize dF q.2 = y3 at *
  generalize dF g = y4 at *
  generalize dF f = y5 at *
  simp -implicitDefEqProofs [F_crossing, g_crossing, a0, a1, m0, o0, m1, m2, t1, t2, p1, p2]
theorem keep_step {S V : Nat} {r : Int × Int × Int} {P : List Tp.P2} {i k : Nat} {prev c : Tp.P2} (hS : ∀ x ∈ P, Tp.SzP S x) (hV : ∀ x ∈ P, Sz V (Tp.val (rowQ r) x)) (hb : 3 * S + 3 * V < 4400) (hl : P.length ≤ 1000)
    (hc : P[i]? = some c) (hp : P[k]? = some prev) (hki : ixN P.length ((i : Int) - 1) = some k) {acc : List Tp.P2} (ha : acc.length ≤ 3000) (st : Sto) :
    fb_kept_side_2 ⟨[.val (.lst (P.map dPair)), .val (dR3 r), .own (acc.map dPair), .val (.lst (P.map fun x => dF (Tp.val (rowQ r) x))), .val (.int (i : Int)), .val (dPair c)], st⟩ =
      .nx ⟨[.val (.lst (P.map dPair)), .val (dR3 r), .own ((acc ++ ((if Tp.val (rowQ r) prev * Tp.val (rowQ r) c < 0 then [Tp.crs (rowQ r) prev c] else []) ++ (if Tp.val (rowQ r) c < 0 then [] else [c]))).map dPair), .val (.lst (P.map fun x => dF (Tp.val (rowQ r) x))), .val (.int (i : Int)), .val (dPair c)], st⟩ := by
  have hi : i < P.length := (List.getElem?_eq_some_iff.mp hc).1
  have mp : prev ∈ P := List.mem_of_getElem? hp
  have mc : c ∈ P := List.mem_of_getElem? hc
  have v1 := hV prev mp
  have v2 := hV c mc
  have aP : atI (P.map dPair) ((i : Int) - 1) = some (dPair prev) := by
    unfold atI
    rw [List.length_map, hki]
    simp [hp]
  have aV : atI (P.map fun x => dF (Tp.val (rowQ r) x)) ((i : Int) - 1) = some (dF (Tp.val (rowQ r) prev)) := by
    unfold atI
    rw [List.length_map, hki]
    simp [hp]
  have aC : atI (P.map fun x => dF (Tp.val (rowQ r) x)) (i : Int) = some (dF (Tp.val (rowQ r) c)) := by
    have h1 : ¬ (i : Int) < 0 := by omega
    have hg : P[i] = c := by have := List.getElem?_eq_getElem hi; rw [hc] at this; exact (Option.some.inj this).symm
    simp [atI, ixN, h1, hi, hg]
  have t1 := times_eq v1 v2 (by omega) st
  have l1 := is_less_eq (v1.mul v2) (sz0 (n := 1)) (by omega) st
  have l2 := is_less_eq v2 (sz0 (n := 1)) (by omega) st
  have la : (acc.map dPair).length < 1000000 := by simp; omega
  by_cases q : Tp.val (rowQ r) prev * Tp.val (rowQ r) c < 0
  · have cr := crossing_eq (hS prev mp) (hS c mc) v1 v2 q hb st
    rw [if_pos q]
    rw [decide_eq_true q] at l1
    have ec : (prev.1 + (c.1 - prev.1) * (Tp.val (rowQ r) prev / (Tp.val (rowQ r) prev - Tp.val (rowQ r) c)), prev.2 + (c.2 - prev.2) * (Tp.val (rowQ r) prev / (Tp.val (rowQ r) prev - Tp.val (rowQ r) c))) = Tp.crs (rowQ r) prev c := rfl
    rw [ec] at cr
    have la2 : (acc.map dPair ++ [dPair (Tp.crs (rowQ r) prev c)]).length < 1000000 := by simp; omega
    by_cases w : Tp.val (rowQ r) c < 0
    · rw [if_pos w, List.append_nil, List.map_append]
      rw [decide_eq_true w] at l2
      have e1 : [Tp.crs (rowQ r) prev c].map dPair = [dPair (Tp.crs (rowQ r) prev c)] := rfl
      rw [e1]
      generalize acc.map dPair = AD at *
      generalize dPair (Tp.crs (rowQ r) prev c) = dX at *
      generalize dPair prev = dp at *
      generalize dPair c = dc at *
      generalize dR3 r = dr at *
      generalize dF (Tp.val (rowQ r) prev * Tp.val (rowQ r) c) = x1 at *
      generalize dF (Tp.val (rowQ r) prev) = x2 at *
      generalize dF (Tp.val (rowQ r) c) = x3 at *
      generalize P.map dPair = PD at *
      generalize (P.map fun x => dF (Tp.val (rowQ r) x)) = VD at *
      generalize (i : Int) = ii at *
      simp -implicitDefEqProofs [q_fb_kept_side_2, aP, aV, aC, t1, l1, l2, cr, la, mAppend]
    · rw [if_neg w, List.map_append]
      rw [decide_eq_false w] at l2
      have e1 : ([Tp.crs (rowQ r) prev c] ++ [c]).map dPair = [dPair (Tp.crs (rowQ r) prev c), dPair c] := rfl
      rw [e1]
      have e2 : ∀ (A : List D) (x y : D), A ++ [x, y] = (A ++ [x]) ++ [y] := fun A x y => by simp
      rw [e2]
      generalize acc.map dPair = AD at *
      generalize dPair (Tp.crs (rowQ r) prev c) = dX at *
      generalize dPair prev = dp at *
      generalize dPair c = dc at *
      generalize dR3 r = dr at *
      generalize dF (Tp.val (rowQ r) prev * Tp.val (rowQ r) c) = x1 at *
      generalize dF (Tp.val (rowQ r) prev) = x2 at *
      generalize dF (Tp.val (rowQ r) c) = x3 at *
      generalize P.map dPair = PD at *
      generalize (P.map fun x => dF (Tp.val (rowQ r) x)) = VD at *
      generalize (i : Int) = ii at *
      generalize hAE : AD ++ [dX] = AE at *
      simp -implicitDefEqProofs [q_fb_kept_side_2, aP, aV, aC, t1, l1, l2, cr, la, la2, hAE, mAppend]
  · rw [if_neg q]
    rw [decide_eq_false q] at l1
    by_cases w : Tp.val (rowQ r) c < 0
    · rw [if_pos w, List.append_nil, List.append_nil]
      rw [decide_eq_true w] at l2
      generalize acc.map dPair = AD at *
      generalize dPair prev = dp at *
      generalize dPair c = dc at *
      generalize dR3 r = dr at *
      generalize dF (Tp.val (rowQ r) prev * Tp.val (rowQ r) c) = x1 at *
      generalize dF (Tp.val (rowQ r) prev) = x2 at *
      generalize dF (Tp.val (rowQ r) c) = x3 at *
      generalize P.map dPair = PD at *
      generalize (P.map fun x => dF (Tp.val (rowQ r) x)) = VD at *
      generalize (i : Int) = ii at *
      simp -implicitDefEqProofs [q_fb_kept_side_2, aP, aV, aC, t1, l1, l2, la, mAppend]
    · rw [if_neg w, List.nil_append, List.map_append]
      rw [decide_eq_false w] at l2
      have e1 : [c].map dPair = [dPair c] := rfl
      rw [e1]
      generalize acc.map dPair = AD at *
      generalize dPair prev = dp at *
      generalize dPair c = dc at *
      generalize dR3 r = dr at *
      generalize dF (Tp.val (rowQ r) prev * Tp.val (rowQ r) c) = x1 at *
      generalize dF (Tp.val (rowQ r) prev) = x2 at *
      generalize dF (Tp.val (rowQ r) c) = x3 at *
      generalize P.map dPair = PD at *
      generalize (P.map fun x => dF (Tp.val (rowQ r) x)) = VD at *
      generalize (i : Int) = ii at *
      simp -implicitDefEqProofs [q_fb_kept_side_2, aP, aV, aC, t1, l1, l2, la, mAppend]
section
variable {S V : Nat} {r : Int × Int × Int} {P : List Tp.P2} (hS : ∀ x ∈ P, Tp.SzP S x) (hV : ∀ x ∈ P, Sz V (Tp.val (rowQ r) x)) (hb : 3 * S + 3 * V < 4400) (hl : P.length ≤ 1000)
include hS hV hb hl
theorem keep_loop {st : Sto} : ∀ (l A : List Tp.P2) (prev : Tp.P2) (k : Nat) (acc : List Tp.P2) (e4 e5 : SL), A ++ l = P → P[k]? = some prev → ixN P.length ((A.length : Int) - 1) = some k → acc.length ≤ 2 * A.length →
    ∃ e4' e5', forD (tgB (tgT 2 (tgsCons (tgN 4) (tgsCons (tgN 5) tgsNil))) fb_kept_side_2) (enumD A.length (l.map dPair)) ⟨[.val (.lst (P.map dPair)), .val (dR3 r), .own (acc.map dPair), .val (.lst (P.map fun x => dF (Tp.val (rowQ r) x))), e4, e5], st⟩ =
      .nx ⟨[.val (.lst (P.map dPair)), .val (dR3 r), .own ((acc ++ Tp.clipGo (rowQ r) prev l).map dPair), .val (.lst (P.map fun x => dF (Tp.val (rowQ r) x))), e4', e5'], st⟩
  | [], A, prev, k, acc, e4, e5, _, _, _, _ => ⟨e4, e5, by
      have e1 : Tp.clipGo (rowQ r) prev [] = [] := rfl
      rw [e1, List.append_nil]
      generalize P.map dPair = PD
      generalize (P.map fun x => dF (Tp.val (rowQ r) x)) = VD
      simp -implicitDefEqProofs [enumD]⟩
  | c :: l, A, prev, k, acc, e4, e5, hP, hp, hk, ha => by
    have hc : P[A.length]? = some c := by rw [← hP]; simp
    have hA : A.length < P.length := (List.getElem?_eq_some_iff.mp hc).1
    have s := keep_step hS hV hb hl hc hp hk (acc := acc) (by omega) st
    have l1 : (A ++ [c]).length = A.length + 1 := by simp
    have hk' : ixN P.length (((A ++ [c]).length : Int) - 1) = some A.length := by
      rw [l1]
      unfold ixN
      simp
      omega
    obtain ⟨f4, f5, rr⟩ := keep_loop (st := st) l (A ++ [c]) c A.length (acc ++ ((if Tp.val (rowQ r) prev * Tp.val (rowQ r) c < 0 then [Tp.crs (rowQ r) prev c] else []) ++ (if Tp.val (rowQ r) c < 0 then [] else [c]))) (.val (.int (A.length : Int))) (.val (dPair c)) (by rw [← hP]; simp) hc hk' (by
      rw [l1]
      by_cases q : Tp.val (rowQ r) prev * Tp.val (rowQ r) c < 0 <;> by_cases w : Tp.val (rowQ r) c < 0 <;> simp [q, w] <;> omega)
    refine ⟨f4, f5, ?_⟩
    have e1 : acc ++ Tp.clipGo (rowQ r) prev (c :: l) = (acc ++ ((if Tp.val (rowQ r) prev * Tp.val (rowQ r) c < 0 then [Tp.crs (rowQ r) prev c] else []) ++ (if Tp.val (rowQ r) c < 0 then [] else [c]))) ++ Tp.clipGo (rowQ r) c l := by
      conv => lhs; unfold Tp.clipGo
      simp
    rw [e1, ← rr]
    rw [l1]
    have e2 : enumD A.length ((c :: l).map dPair) = .tup [.int (A.length : Int), dPair c] :: enumD (A.length + 1) (l.map dPair) := rfl
    rw [e2]
    generalize acc ++ ((if Tp.val (rowQ r) prev * Tp.val (rowQ r) c < 0 then [Tp.crs (rowQ r) prev c] else []) ++ (if Tp.val (rowQ r) c < 0 then [] else [c])) = acc2 at *
    generalize enumD (A.length + 1) (l.map dPair) = rest
    generalize acc.map dPair = AD at *
    generalize acc2.map dPair = AD2 at *
    generalize P.map dPair = PD at *
    generalize (P.map fun x => dF (Tp.val (rowQ r) x)) = VD at *
    generalize dPair c = dc at *
    generalize dR3 r = dr at *
    generalize (A.length : Int) = ii at *
    have s' : tgB (tgT 2 (tgsCons (tgN 4) (tgsCons (tgN 5) tgsNil))) fb_kept_side_2 (.tup [.int ii, dc]) ⟨[.val (.lst PD), .val dr, .own AD, .val (.lst VD), e4, e5], st⟩ = .nx ⟨[.val (.lst PD), .val dr, .own AD2, .val (.lst VD), .val (.int ii), .val dc], st⟩ := by
      simp -implicitDefEqProofs [s]
    rw [e_forC, s']
theorem kept_side_eq' {B : Nat} (hr : RiB B r) (hB : 3 * B + 2 * S < 4000) (st : Sto) : F_kept_side [.lst (P.map dPair), dR3 r] st = .val .N (.lst ((Tp.clip (rowQ r) P).map dPair)) st := by
  have lc : ∀ v0 v1 v2 v3, lcGo (lcStep (tgN 5) (fun E => ER.val Md.P (D.bl true) E.st) ce_kept_side_1 [v0, .val (dR3 r), v1, v2, v3, .emp]) (P.map dPair) st = some (P.map (fun x => dF (Tp.val (rowQ r) x)), st) := fun v0 v1 v2 v3 => by
    refine lc_map fun p hp => ?_
    have v := value_at_eq hr (hS p hp) hB st
    generalize dR3 r = dr at *
    generalize dPair p = dp at *
    generalize dF (Tp.val (rowQ r) p) = df at *
    simp -implicitDefEqProofs [q_ce_kept_side_1, v]
  cases hg : P.getLast? with
  | none =>
    have : P = [] := List.getLast?_eq_none_iff.mp hg
    subst this
    have e : Tp.clip (rowQ r) [] = [] := rfl
    rw [e]
    simp only [List.map_nil] at lc ⊢
    generalize dR3 r = dr at *
    simp -implicitDefEqProofs [F_kept_side, g_kept_side, lc, enumD]
  | some e =>
    have e1 : Tp.clip (rowQ r) P = Tp.clipGo (rowQ r) e P := by unfold Tp.clip; rw [hg]
    have hne : 0 < P.length := by cases P with
      | nil => simp at hg
      | cons a b => simp
    have hk : P[P.length - 1]? = some e := by rw [← hg, List.getLast?_eq_getElem?]
    have hi : ixN P.length ((([] : List Tp.P2).length : Int) - 1) = some (P.length - 1) := by
      unfold ixN
      simp
      omega
    obtain ⟨f4, f5, rr⟩ := keep_loop hS hV hb hl (st := st) P [] e (P.length - 1) [] .emp .emp rfl hk hi (by simp)
    rw [List.nil_append, ← e1] at rr
    have lp : (P.map dPair).length ≤ 1000000 := by simp; omega
    have z0 : ([] : List Tp.P2).length = 0 := rfl
    rw [z0, List.map_nil] at rr
    generalize P.map dPair = PD at *
    generalize (P.map fun x => dF (Tp.val (rowQ r) x)) = VD at *
    generalize (Tp.clip (rowQ r) P).map dPair = RD at *
    generalize dR3 r = dr at *
    simp -implicitDefEqProofs [F_kept_side, g_kept_side, lc, rr, lp]
end
def mayH (r : Int × Int × Int) (i j : Nat) : Bool := decide (0 ≤ max (max r.1 (r.1 + r.2.2)) (r.1 + r.2.1 + r.2.2)) || (decide (i < j) && decide (0 ≤ r.1 + r.2.1))
theorem may_hold_eq (r : Int × Int × Int) (i j : Nat) (st : Sto) : F_may_hold [dR3 r, .int (i : Int), .int (j : Int)] st = .val .P (.bl (mayH r i j)) st := by
  have e : mayH r i j = (decide (0 ≤ max (max r.1 (r.1 + r.2.2)) (r.1 + r.2.1 + r.2.2)) || (decide ((i : Int) < (j : Int)) && decide (0 ≤ r.1 + r.2.1))) := by
    unfold mayH
    congr 2
    rw [decide_eq_decide]; omega
  rw [e]
  unfold dR3
  generalize (i : Int) = ii
  generalize (j : Int) = jj
  generalize h1 : max (max r.1 (r.1 + r.2.2)) (r.1 + r.2.1 + r.2.2) = m
  by_cases a : 0 ≤ m
  · simp -implicitDefEqProofs [F_may_hold, g_may_hold, h1, a]
  · by_cases b : ii < jj
    · simp -implicitDefEqProofs [F_may_hold, g_may_hold, h1, a, b]
    · simp -implicitDefEqProofs [F_may_hold, g_may_hold, h1, a, b]
theorem mayH_no {r : Int × Int × Int} {i j : Nat} (h : mayH r i j = false) {u v : Rat} (u0 : 0 ≤ u) (u1 : u ≤ 1) (v0 : 0 ≤ v) (v1 : v ≤ 1) (hij : i ≤ j) (huv : i = j → u ≤ v) : ¬ 0 ≤ Tp.val (rowQ r) (u, v) := by
  unfold mayH at h
  simp only [Bool.or_eq_false_iff, Bool.and_eq_false_iff, decide_eq_false_iff_not] at h
  obtain ⟨h1, h2⟩ := h
  have a1 : r.1 < 0 := by omega
  have a2 : r.1 + r.2.2 < 0 := by omega
  have a3 : r.1 + r.2.1 + r.2.2 < 0 := by omega
  have q1 : (r.1 : Rat) < 0 := by exact_mod_cast a1
  have q2 : (r.1 : Rat) + (r.2.2 : Rat) < 0 := by exact_mod_cast a2
  have q3 : (r.1 : Rat) + (r.2.1 : Rat) + (r.2.2 : Rat) < 0 := by exact_mod_cast a3
  have q5 : r.1 + r.2.1 < 0 → (r.1 : Rat) + (r.2.1 : Rat) < 0 := fun h => by exact_mod_cast h
  have e : Tp.val (rowQ r) (u, v) = (r.1 : Rat) + (r.2.1 : Rat) * u + (r.2.2 : Rat) * v := by unfold Tp.val rowQ; rfl
  rw [e]
  generalize (r.1 : Rat) = a at *
  generalize (r.2.1 : Rat) = b at *
  generalize (r.2.2 : Rat) = c at *
  intro hn
  by_cases c1 : u ≤ v
  · have m1 := Rat.mul_nonneg (show 0 ≤ 1 - v by grind) (show 0 ≤ -a by grind)
    have m2 := Rat.mul_nonneg (show 0 ≤ v - u by grind) (show 0 ≤ -(a + c) by grind)
    have m3 := Rat.mul_nonneg u0 (show 0 ≤ -(a + b + c) by grind)
    have z1 : (1 - v) * (-a) = 0 := by grind
    have z2 : (v - u) * (-(a + c)) = 0 := by grind
    have z3 : u * (-(a + b + c)) = 0 := by grind
    have y1 : 1 - v = 0 := by rcases Rat.mul_eq_zero.mp z1 with h | h <;> grind
    have y2 : v - u = 0 := by rcases Rat.mul_eq_zero.mp z2 with h | h <;> grind
    have y3 : u = 0 := by rcases Rat.mul_eq_zero.mp z3 with h | h <;> grind
    grind
  · have lt : i < j := by
      rcases Nat.lt_or_ge i j with q | q
      · exact q
      · exact absurd (huv (by omega)) c1
    have a4 : r.1 + r.2.1 < 0 := by
      rcases h2 with h2 | h2
      · omega
      · omega
    have q4 := q5 a4
    have m1 := Rat.mul_nonneg (show 0 ≤ 1 - u by grind) (show 0 ≤ -a by grind)
    have m2 := Rat.mul_nonneg (show 0 ≤ u - v by grind) (show 0 ≤ -(a + b) by grind)
    have m3 := Rat.mul_nonneg v0 (show 0 ≤ -(a + b + c) by grind)
    have z1 : (1 - u) * (-a) = 0 := by grind
    have z2 : (u - v) * (-(a + b)) = 0 := by grind
    have y1 : 1 - u = 0 := by rcases Rat.mul_eq_zero.mp z1 with h | h <;> grind
    have y2 : u - v = 0 := by rcases Rat.mul_eq_zero.mp z2 with h | h <;> grind
    grind
theorem cell_corners_eq (i j : Nat) (st : Sto) : F_cell_corners [.int (i : Int), .int (j : Int)] st = .val .N (.lst ((Tp.cell (decide (i = j))).map dPair)) st := by
  have z0 : dF 0 = .tup [.int 0, .int 1] := rfl
  have z1 : dF 1 = .tup [.int 1, .int 1] := rfl
  by_cases c : i = j
  · have e : (Tp.cell (decide (i = j))).map dPair = [.tup [.tup [.int 0, .int 1], .tup [.int 0, .int 1]], .tup [.tup [.int 0, .int 1], .tup [.int 1, .int 1]], .tup [.tup [.int 1, .int 1], .tup [.int 1, .int 1]]] := by
      rw [decide_eq_true c]; rfl
    rw [e]
    have c' : (i : Int) = (j : Int) := by omega
    rw [c']
    generalize (j : Int) = jj
    simp -implicitDefEqProofs [F_cell_corners, g_cell_corners]
  · have e : (Tp.cell (decide (i = j))).map dPair = [.tup [.tup [.int 0, .int 1], .tup [.int 0, .int 1]], .tup [.tup [.int 0, .int 1], .tup [.int 1, .int 1]], .tup [.tup [.int 1, .int 1], .tup [.int 1, .int 1]], .tup [.tup [.int 1, .int 1], .tup [.int 0, .int 1]]] := by
      rw [decide_eq_false c]; rfl
    rw [e]
    have c' : ¬ ((i : Int) = (j : Int)) := by omega
    generalize (i : Int) = ii at *
    generalize (j : Int) = jj at *
    simp -implicitDefEqProofs [F_cell_corners, g_cell_corners, c']
def cornerQ (S : Nat → List Int) (i j : Nat) (o : List Nat) : Option Tp.P2 := if (wishI S i j o).all (fun r => mayH r i j) = true then (Tp.clips ((wishI S i j o).map rowQ) (Tp.cell (decide (i = j)))).head? else none
def dOpt : Option Tp.P2 → D
  | none => .non
  | some p => dPair p
theorem clip_len (r : Tp.Rw) (P : List Tp.P2) : (Tp.clip r P).length ≤ 2 * P.length := by
  have go : ∀ (l : List Tp.P2) (p : Tp.P2), (Tp.clipGo r p l).length ≤ 2 * l.length := by
    intro l
    induction l with
    | nil => intro p; simp [Tp.clipGo]
    | cons c l ih =>
      intro p
      have := ih c
      unfold Tp.clipGo
      by_cases q : Tp.val r p * Tp.val r c < 0 <;> by_cases w : Tp.val r c < 0 <;> simp [q, w] <;> omega
  unfold Tp.clip
  split
  · simp
  · exact go _ _
theorem corner_loop {B : Nat} (hB : B ≤ 156) {st : Sto} {v0 v1 v2 v3 v4 : SL} : ∀ (l : List (Int × Int × Int)) (P : List Tp.P2) (e6 : SL), (∀ r ∈ l, RiB B r) → Tp.Inv B P → P.length * 2 ^ l.length ≤ 1000 →
    ∃ e6', forD (tgB (tgN 6) fb_corner_for_2) (l.map dR3) ⟨[v0, v1, v2, v3, v4, .val (.lst (P.map dPair)), e6], st⟩ = .nx ⟨[v0, v1, v2, v3, v4, .val (.lst ((Tp.clips (l.map rowQ) P).map dPair)), e6'], st⟩
  | [], P, e6, _, _, _ => ⟨e6, by
      have e1 : Tp.clips (([] : List (Int × Int × Int)).map rowQ) P = P := rfl
      rw [e1]
      generalize P.map dPair = PD
      simp -implicitDefEqProofs⟩
  | r :: l, P, e6, hr, hI, hl => by
    have r1 := hr r (by simp)
    have l0 : 0 < 2 ^ l.length := Nat.pos_of_ne_zero (by simp)
    have el : P.length * 2 ^ (r :: l).length = 2 * P.length * 2 ^ l.length := by
      rw [List.length_cons, Nat.pow_succ, Nat.mul_comm (2 ^ l.length) 2, ← Nat.mul_assoc, Nat.mul_comm P.length 2]
    rw [el] at hl
    have lP : P.length ≤ 1000 := by
      have := Nat.mul_le_mul_left (2 * P.length) (show 1 ≤ 2 ^ l.length by omega)
      omega
    have k := kept_side_eq' (P := P) (r := r) (S := 2 * B + 2) (V := 3 * B + 2 * (2 * B + 2) + 5) hI.1 (fun x hx => val_sz r1 (hI.1 x hx)) (by omega) lP r1 (by omega) st
    obtain ⟨f6, rr⟩ := corner_loop hB (st := st) (v0 := v0) (v1 := v1) (v2 := v2) (v3 := v3) (v4 := v4) l (Tp.clip (rowQ r) P) (.val (dR3 r)) (fun q hq => hr q (by simp [hq])) (Tp.inv_clip r1.ri hI) (by
      have h1 := clip_len (rowQ r) P
      have h2 := Nat.mul_le_mul_right (2 ^ l.length) h1
      omega)
    refine ⟨f6, ?_⟩
    have e1 : Tp.clips ((r :: l).map rowQ) P = Tp.clips (l.map rowQ) (Tp.clip (rowQ r) P) := rfl
    rw [e1, ← rr, List.map_cons, e_forC]
    have s : tgB (tgN 6) fb_corner_for_2 (dR3 r) ⟨[v0, v1, v2, v3, v4, .val (.lst (P.map dPair)), e6], st⟩ = .nx ⟨[v0, v1, v2, v3, v4, .val (.lst ((Tp.clip (rowQ r) P).map dPair)), .val (dR3 r)], st⟩ := by
      generalize P.map dPair = PD at *
      generalize (Tp.clip (rowQ r) P).map dPair = RD at *
      generalize dR3 r = dr at *
      simp -implicitDefEqProofs [q_fb_corner_for_2, k]
    rw [s]
theorem corner_for_eq {B : Nat} (hB : B ≤ 156) (hB1 : 1 ≤ B) {S : Nat → List Int} {i j : Nat} (hl : ∀ h, h < 3 → i + 1 < (S h).length ∧ j + 1 < (S h).length ∧ (S h).length ≤ 1000) {o : List Nat} (ho : o ∈ Tp.ords) (hr : ∀ r ∈ wishI S i j o, RiB B r) (st : Sto) :
    F_corner_for [.lst [.lst ((S 0).map D.int), .lst ((S 1).map D.int), .lst ((S 2).map D.int)], .int (i : Int), .int (j : Int), dOrd o] st = .val .P (dOpt (cornerQ S i j o)) st := by
  have w := wishes_eq hl ho st
  have lc : ∀ v0 v1 v2 v3, lcGo (lcStep (tgN 6) (fun E => ER.val Md.P (D.bl true) E.st) ce_corner_for_1 [v0, .val (.int (i : Int)), .val (.int (j : Int)), v1, v2, v3, .emp]) ((wishI S i j o).map dR3) st = some ((wishI S i j o).map (fun r => D.bl (mayH r i j)), st) := fun v0 v1 v2 v3 => by
    refine lc_map fun p hp => ?_
    have v := may_hold_eq p i j st
    generalize dR3 p = dp at *
    generalize (i : Int) = ii at *
    generalize (j : Int) = jj at *
    simp -implicitDefEqProofs [q_ce_corner_for_1, v]
  have cc := cell_corners_eq i j st
  have hlen : (wishI S i j o).length = 6 := rfl
  have hc4 : (Tp.cell (decide (i = j))).length ≤ 4 := by cases decide (i = j) <;> decide
  obtain ⟨f6, lp⟩ := corner_loop hB (st := st) (v0 := .val (.lst [.lst ((S 0).map D.int), .lst ((S 1).map D.int), .lst ((S 2).map D.int)])) (v1 := .val (.int (i : Int))) (v2 := .val (.int (j : Int))) (v3 := .val (dOrd o)) (v4 := .val (.lst ((wishI S i j o).map dR3))) (wishI S i j o) (Tp.cell (decide (i = j))) .emp hr (Tp.inv_cell hB1 _) (by rw [hlen]; omega)
  unfold cornerQ
  generalize wishI S i j o = WI at *
  have ba : boolsOf (WI.map (fun r => D.bl (mayH r i j))) = some (WI.map fun r => mayH r i j) := boolsOf_map _ _
  have al : (WI.map fun r => mayH r i j).all id = WI.all fun r => mayH r i j := by rw [List.all_map]; rfl
  rw [← al]
  generalize hal : (WI.map fun r => mayH r i j).all id = ba' at *
  have lw : (WI.map dR3).length ≤ 1000000 := by simp; omega
  generalize Tp.clips (WI.map rowQ) (Tp.cell (decide (i = j))) = CP at *
  generalize WI.map dR3 = WD at *
  generalize (WI.map fun r => D.bl (mayH r i j)) = BD at *
  generalize (Tp.cell (decide (i = j))).map dPair = CD at *
  generalize (S 0).map D.int = S0 at *
  generalize (S 1).map D.int = S1 at *
  generalize (S 2).map D.int = S2 at *
  generalize (i : Int) = ii at *
  generalize (j : Int) = jj at *
  generalize dOrd o = od at *
  cases ba' with
  | false =>
    have e1 : dOpt (if false = true then CP.head? else none) = .non := rfl
    rw [e1]
    simp -implicitDefEqProofs [F_corner_for, g_corner_for, w, lc, ba, hal, cc, lp, lw]
  | true =>
    cases CP with
    | nil =>
      have e1 : dOpt (if true = true then ([] : List Tp.P2).head? else none) = .non := rfl
      rw [e1]
      simp -implicitDefEqProofs [F_corner_for, g_corner_for, w, lc, ba, hal, cc, lp, lw]
    | cons p l =>
      have e1 : dOpt (if true = true then (p :: l).head? else none) = dPair p := rfl
      rw [e1]
      have a0 : ∀ (a : D) (b : List D), atI (a :: b) 0 = some a := fun a b => by
        have : ixN (a :: b).length 0 = some 0 := by unfold ixN; simp
        unfold atI
        rw [this]; rfl
      rw [List.map_cons] at lp
      generalize l.map dPair = LD at *
      have ln : ¬ ((LD.length : Int) + 1 = 0) := by omega
      generalize dPair p = dp at *
      simp -implicitDefEqProofs [F_corner_for, g_corner_for, w, lc, ba, hal, cc, lp, lw, a0, ln]
theorem ov_den {D : Int} {q : Rat} (hD : 0 < D) (h : Ov D q) : q.den ∣ D.natAbs := by
  obtain ⟨n, h⟩ := h
  have hd := (Rat.intCast_pos (a := D)).mpr hD
  have e : q = Rat.divInt n D := by
    rw [Rat.divInt_eq_div, ← h, Rat.div_def, Rat.mul_assoc, Rat.mul_inv_cancel _ (by grind), Rat.mul_one]
  have e2 : mkRat n D.natAbs = q := by
    rw [e, ← Rat.divInt_ofNat]
    congr 1
    omega
  have hq : q = ⟨q.num, q.den, q.den_nz, q.reduced⟩ := rfl
  rw [hq] at e2
  obtain ⟨m, _, _, hm⟩ := Rat.mkRat_num_den (by omega) e2
  exact ⟨m, hm⟩
theorem com_step {C B M : Nat} (hC : 0 < C) (hB : 0 < B) (cM : C ∣ M) (bM : B ∣ M) (hM : M < 2 ^ 200) (hM0 : 0 < M) :
    (C : Int) * ((B : Int).fdiv ((Int.gcd (C : Int) (B : Int) : Nat) : Int)) = (Nat.lcm C B : Int) ∧ Nat.lcm C B ∣ M ∧ 0 < Nat.lcm C B ∧ ((Int.gcd (C : Int) (B : Int) : Nat) : Int) ≠ 0 ∧ ((Int.gcd (C : Int) (B : Int) : Nat) : Int).natAbs.log2 < 9000 ∧ (C : Int).natAbs.log2 + ((B : Int).fdiv ((Int.gcd (C : Int) (B : Int) : Nat) : Int)).natAbs.log2 < 1000000 := by
  have g : Int.gcd (C : Int) (B : Int) = Nat.gcd C B := rfl
  have gp : 0 < Nat.gcd C B := Nat.gcd_pos_of_pos_left _ hC
  have gC : Nat.gcd C B ≤ C := Nat.le_of_dvd hC (Nat.gcd_dvd_left C B)
  have CM : C ≤ M := Nat.le_of_dvd hM0 cM
  have BM : B ≤ M := Nat.le_of_dvd hM0 bM
  have lg : ∀ x : Nat, x ≤ M → (x : Int).natAbs.log2 < 9000 := fun x h => bit_log (m := 200) (by rw [Int.natAbs_natCast]; omega) (by decide)
  rw [g]
  refine ⟨?_, Nat.lcm_dvd cM bM, Nat.lcm_pos hC hB, by omega, lg _ (by omega), ?_⟩
  · rw [Int.fdiv_eq_ediv_of_nonneg _ (by omega), ← Int.natCast_ediv, ← Int.natCast_mul, Nat.lcm_eq_mul_div, Nat.mul_div_assoc _ (Nat.gcd_dvd_right C B)]
  · rw [Int.fdiv_eq_ediv_of_nonneg _ (by omega), ← Int.natCast_ediv]
    have h1 := lg C CM
    have h2 := lg (B / Nat.gcd C B) (Nat.le_trans (Nat.div_le_self _ _) BM)
    omega
def comL : Nat → List Rat → Nat
  | c, [] => c
  | c, q :: l => comL (Nat.lcm c q.den) l
theorem comL_dvd {M : Nat} : ∀ (l : List Rat) (c : Nat), 0 < c → c ∣ M → (∀ q ∈ l, q.den ∣ M) → comL c l ∣ M ∧ 0 < comL c l ∧ c ∣ comL c l ∧ ∀ q ∈ l, q.den ∣ comL c l
  | [], c, h, hc, _ => ⟨hc, h, Nat.dvd_refl _, by simp⟩
  | q :: l, c, h, hc, hq => by
    obtain ⟨a, b, d, e⟩ := comL_dvd (M := M) l (Nat.lcm c q.den) (Nat.lcm_pos h q.den_pos) (Nat.lcm_dvd hc (hq q (by simp))) fun x hx => hq x (by simp [hx])
    refine ⟨a, b, Nat.dvd_trans (Nat.dvd_lcm_left _ _) d, fun x hx => ?_⟩
    rcases List.mem_cons.mp hx with rfl | hx
    · exact Nat.dvd_trans (Nat.dvd_lcm_right _ _) d
    · exact e x hx
theorem com_loop {M : Nat} (hM : M < 2 ^ 200) (hM0 : 0 < M) {v0 v1 v2 v6 : SL} {st : Sto} : ∀ (l : List Rat) (c : Nat) (e4 e5 : SL), 0 < c → c ∣ M → (∀ q ∈ l, q.den ∣ M) →
    ∃ e4' e5', forD (tgB (tgT 2 (tgsCons (tgN 4) (tgsCons (tgN 5) tgsNil))) fb_sums_up_to_2) (l.map dF) ⟨[v0, v1, v2, .val (.int (c : Int)), e4, e5, v6], st⟩ = .nx ⟨[v0, v1, v2, .val (.int (comL c l : Nat)), e4', e5', v6], st⟩
  | [], c, e4, e5, _, _, _ => ⟨e4, e5, by
      have e1 : comL c [] = c := rfl
      rw [e1]
      simp -implicitDefEqProofs⟩
  | q :: l, c, e4, e5, h, hc, hq => by
    obtain ⟨s1, s2, s3, s4, s5, s6⟩ := com_step h q.den_pos hc (hq q (by simp)) hM hM0
    obtain ⟨f4, f5, rr⟩ := com_loop hM hM0 (v0 := v0) (v1 := v1) (v2 := v2) (v6 := v6) (st := st) l (Nat.lcm c q.den) (.val (.int q.num)) (.val (.int (q.den : Int))) s3 s2 fun x hx => hq x (by simp [hx])
    refine ⟨f4, f5, ?_⟩
    have e1 : comL c (q :: l) = comL (Nat.lcm c q.den) l := rfl
    rw [e1, ← rr, List.map_cons, e_forC]
    have d := divisor_eq (c : Int) (q.den : Int) st
    generalize ((Int.gcd (c : Int) (q.den : Int) : Nat) : Int) = gg at *
    have s : tgB (tgT 2 (tgsCons (tgN 4) (tgsCons (tgN 5) tgsNil))) fb_sums_up_to_2 (dF q) ⟨[v0, v1, v2, .val (.int (c : Int)), e4, e5, v6], st⟩ = .nx ⟨[v0, v1, v2, .val (.int (Nat.lcm c q.den : Nat)), .val (.int q.num), .val (.int (q.den : Int)), v6], st⟩ := by
      unfold dF
      generalize ((Nat.lcm c q.den : Nat) : Int) = LL at *
      generalize (q.den : Int) = qd at *
      generalize (c : Int) = cc at *
      simp -implicitDefEqProofs [q_fb_sums_up_to_2, d, s1, s4, s5, s6]
    rw [s]
theorem top_com {q : Rat} {c : Nat} (h : q.den ∣ c) : ((q.num * (c : Int).fdiv (q.den : Int) : Int) : Rat) = (c : Rat) * q := by
  obtain ⟨k, rfl⟩ := h
  have hq := q.den_pos
  have e : ((q.den * k : Nat) : Int).fdiv (q.den : Int) = (k : Int) := by
    rw [Int.fdiv_eq_ediv_of_nonneg _ (by omega), ← Int.natCast_ediv, Nat.mul_div_cancel_left _ hq]
  rw [e, Rat.intCast_mul]
  have e2 : q = (q.num : Rat) / (q.den : Rat) := by
    conv => lhs; rw [← Rat.num_divInt_den q, Rat.divInt_eq_div]
    rfl
  have hd : (0 : Rat) < (q.den : Rat) := Rat.natCast_pos.mpr hq
  have e3 : q * (q.den : Rat) = (q.num : Rat) := by
    conv => lhs; lhs; rw [e2]
    exact Rat.div_mul_cancel (by grind)
  have e4 : ((q.den * k : Nat) : Rat) = (q.den : Rat) * (k : Rat) := by simp
  rw [e4, ← e3]
  have e5 : (((k : Nat) : Int) : Rat) = (k : Rat) := rfl
  rw [e5]
  grind
theorem sums_up_to_eq {n : Nat} {st : Sto} {rows : List (Int × Int)} (T : TabAt st n rows) (hr : RowsOk 8 rows) {E : List Rat} (hE : ∀ e ∈ E, Sz 13 e ∧ 0 ≤ e ∧ e ≤ 1) (hl : E.length ≤ 900) {Z : Int} (hD : 0 < Z) (hD2 : Z < 2 ^ 39) (hO : ∀ e ∈ E, Ov Z e) :
    ∃ (c : Nat) (L : List Int), F_sums_up_to [.ptr n, .lst (E.map dF)] st = .val .N (.lst (L.map D.int)) st ∧ 0 < c ∧ L.length = E.length ∧ (∀ k, k < E.length → ((L.getD k 0 : Int) : Rat) = (c : Rat) * wq 0 (E.getD k 0) rows) ∧ ∀ k, 0 ≤ L.getD k 0 ∧ L.getD k 0 < 2 ^ 153 := by
  obtain ⟨pp, pl⟩ := prodW_pos hr.2.2.1
  have hMp : 0 < Z * prodW rows := Int.mul_pos hD pp
  have pl8 : prodW rows ≤ 1000 ^ 8 := Int.le_trans pl (by exact_mod_cast Nat.pow_le_pow_right (by decide) hr.2.1)
  have hMb : Z * prodW rows < 2 ^ 119 := by
    have := Int.mul_le_mul (Int.le_of_lt hD2) pl8 (by omega) (by decide)
    omega
  have hO' : ∀ e ∈ E, (wq 0 e rows).den ∣ (Z * prodW rows).natAbs := fun e he => ov_den hMp (wq_ov hr (Ov.zero Z) (hO e he))
  have lc1 : ∀ v1 v2 v3 v4 v5, lcGo (lcStep (tgN 6) (fun E => ER.val Md.P (D.bl true) E.st) ce_sums_up_to_1 [.val (.ptr n), v1, v2, v3, v4, v5, .emp]) (E.map dF) st = some (E.map (fun e => dF (wq 0 e rows)), st) := fun v1 v2 v3 v4 v5 => by
    refine lc_map fun e he => ?_
    obtain ⟨s, e0, e1⟩ := hE e he
    have w := worth_eq T hr (sz0 (n := 12)) s (by decide) (by decide)
    rw [if_neg (by grind)] at w
    have T' := T
    unfold TabAt at T'
    generalize dF e = de at *
    generalize dF (wq 0 e rows) = dw at *
    simp -implicitDefEqProofs [q_ce_sums_up_to_1, w, T']
  have hMn : (Z * prodW rows).natAbs < 2 ^ 200 := by omega
  have hQ : ∀ q ∈ E.map (fun e => wq 0 e rows), q.den ∣ (Z * prodW rows).natAbs := fun q hq => by
    obtain ⟨e, he, rfl⟩ := List.mem_map.mp hq
    exact hO' e he
  obtain ⟨c1, c2, _, c4⟩ := comL_dvd (E.map (fun e => wq 0 e rows)) 1 (by decide) (Nat.one_dvd _) hQ
  obtain ⟨f4, f5, cl⟩ := com_loop hMn (by omega) (v0 := .val (.ptr n)) (v1 := .val (.lst (E.map dF))) (v2 := .val (.lst ((E.map fun e => wq 0 e rows).map dF))) (v6 := .emp) (st := st) (E.map (fun e => wq 0 e rows)) 1 .emp .emp (by decide) (Nat.one_dvd _) hQ
  generalize comL 1 (E.map fun e => wq 0 e rows) = c at *
  have cM := Nat.le_of_dvd (by omega) c1
  have hdl : ∀ e ∈ E, (wq 0 e rows).den ∣ c := fun e he => c4 _ (List.mem_map.mpr ⟨e, he, rfl⟩)
  have tot := tot_le hr
  have wb : ∀ e ∈ E, 0 ≤ wq 0 e rows ∧ wq 0 e rows ≤ ((2 ^ 33 : Int) : Rat) := fun e he => ⟨wq_nonneg hr 0 e, Rat.le_trans (wq_le hr Rat.le_refl (hE e he).2.1 (hE e he).2.2) tot⟩
  have tb : ∀ e ∈ E, 0 ≤ (wq 0 e rows).num * (c : Int).fdiv ((wq 0 e rows).den : Int) ∧ (wq 0 e rows).num * (c : Int).fdiv ((wq 0 e rows).den : Int) < 2 ^ 153 := fun e he => by
    have t := top_com (hdl e he)
    obtain ⟨w0, w1⟩ := wb e he
    generalize (wq 0 e rows).num * (c : Int).fdiv ((wq 0 e rows).den : Int) = z at *
    have cp : (0 : Rat) < (c : Rat) := Rat.natCast_pos.mpr c2
    have h1 := Rat.mul_nonneg (Rat.le_of_lt cp) w0
    have h2 : (c : Rat) * wq 0 e rows ≤ (c : Rat) * ((2 ^ 33 : Int) : Rat) := Rat.mul_le_mul_of_nonneg_left w1 (Rat.le_of_lt cp)
    rw [← t] at h1 h2
    have h3 : (c : Rat) * ((2 ^ 33 : Int) : Rat) = ((c * 2 ^ 33 : Int) : Rat) := by rw [Rat.intCast_mul]; rfl
    rw [h3] at h2
    have h4 := Rat.intCast_le_intCast.mp h2
    have h5 : 0 ≤ z := Rat.intCast_nonneg.mp h1
    omega
  have lc2 : ∀ v0 v1 v2 v6, lcGo (lcStep (tgT 2 (tgsCons (tgN 4) (tgsCons (tgN 5) tgsNil))) (fun E => ER.val Md.P (D.bl true) E.st) ce_sums_up_to_3 [v0, v1, v2, .val (.int (c : Int)), .emp, .emp, v6]) ((E.map fun e => wq 0 e rows).map dF) st = some ((E.map fun e => wq 0 e rows).map (fun q => .int (q.num * (c : Int).fdiv (q.den : Int))), st) := fun v0 v1 v2 v6 => by
    refine lc_map fun q hq => ?_
    have hd : q.den ∣ c := c4 q hq
    have q0 : (q.den : Int) ≠ 0 := by have := q.den_pos; omega
    have q1 : (q.den : Int).natAbs.log2 < 9000 := bit_log (m := 200) (by have := Nat.le_of_dvd c2 hd; rw [Int.natAbs_natCast]; omega) (by decide)
    have q2 : q.num.natAbs.log2 + ((c : Int).fdiv (q.den : Int)).natAbs.log2 < 1000000 := by
      obtain ⟨e, he, rfl⟩ := List.mem_map.mp hq
      obtain ⟨t0, t1⟩ := tb e he
      obtain ⟨k, hk⟩ := hd
      have ef : (c : Int).fdiv ((wq 0 e rows).den : Int) = (k : Int) := by
        rw [hk, Int.fdiv_eq_ediv_of_nonneg _ (by omega), ← Int.natCast_ediv, Nat.mul_div_cancel_left _ (wq 0 e rows).den_pos]
      rw [ef] at t0 t1 ⊢
      have k1 : 1 ≤ k := by
        rcases Nat.eq_zero_or_pos k with z | z
        · subst z; simp at hk; omega
        · exact z
      have k2 : k ≤ c := by
        have := Nat.mul_le_mul_right k (wq 0 e rows).den_pos
        rw [← hk] at this
        omega
      have n0 : 0 ≤ (wq 0 e rows).num := by
        rcases Int.lt_or_le (wq 0 e rows).num 0 with z | z
        · have := Int.mul_neg_of_neg_of_pos z (show 0 < (k : Int) by omega)
          omega
        · exact z
      have n1 : (wq 0 e rows).num ≤ (wq 0 e rows).num * (k : Int) := by
        have := Int.mul_le_mul_of_nonneg_left (show (1 : Int) ≤ (k : Int) by omega) n0
        omega
      have b1 : (wq 0 e rows).num.natAbs.log2 < 9000 := bit_log (m := 153) (by omega) (by decide)
      have b2 : (k : Int).natAbs.log2 < 9000 := bit_log (m := 200) (by omega) (by decide)
      omega
    unfold dF
    generalize (c : Int) = cc at *
    generalize (q.den : Int) = qd at *
    simp -implicitDefEqProofs [q_ce_sums_up_to_3, q0, q1, q2]
  refine ⟨c, E.map (fun e => (wq 0 e rows).num * (c : Int).fdiv ((wq 0 e rows).den : Int)), ?_, c2, by simp, fun k hk => ?_, fun k => ?_⟩
  · have e1 : (E.map (fun e => (wq 0 e rows).num * (c : Int).fdiv ((wq 0 e rows).den : Int))).map D.int = (E.map fun e => wq 0 e rows).map (fun q => D.int (q.num * (c : Int).fdiv (q.den : Int))) := by simp [List.map_map]
    have e2 : E.map (fun e => dF (wq 0 e rows)) = (E.map fun e => wq 0 e rows).map dF := by simp [List.map_map]
    rw [e2] at lc1
    have n1 : ((1 : Nat) : Int) = 1 := rfl
    rw [n1] at cl
    have l1 : (E.map dF).length ≤ 1000000 := by simp; omega
    have l2 : ((E.map fun e => wq 0 e rows).map dF).length ≤ 1000000 := by simp; omega
    rw [e1]
    generalize (E.map fun e => wq 0 e rows).map (fun q => D.int (q.num * (c : Int).fdiv (q.den : Int))) = RD at *
    generalize (E.map fun e => wq 0 e rows).map dF = WD at *
    generalize E.map dF = ED at *
    simp -implicitDefEqProofs [F_sums_up_to, g_sums_up_to, lc1, cl, lc2, l1, l2]
  · have e1 : (E.map (fun e => (wq 0 e rows).num * (c : Int).fdiv ((wq 0 e rows).den : Int))).getD k 0 = (wq 0 (E.getD k 0) rows).num * (c : Int).fdiv ((wq 0 (E.getD k 0) rows).den : Int) := by
      rw [List.getD_eq_getElem?_getD, List.getD_eq_getElem?_getD, List.getElem?_map, List.getElem?_eq_getElem hk]; rfl
    rw [e1]
    refine top_com (hdl _ ?_)
    rw [List.getD_eq_getElem?_getD, List.getElem?_eq_getElem hk]
    exact List.getElem_mem hk
  · by_cases hk : k < E.length
    · have e1 : (E.map (fun e => (wq 0 e rows).num * (c : Int).fdiv ((wq 0 e rows).den : Int))).getD k 0 = (wq 0 (E[k]) rows).num * (c : Int).fdiv ((wq 0 (E[k]) rows).den : Int) := by
        rw [List.getD_eq_getElem?_getD, List.getElem?_map, List.getElem?_eq_getElem hk]; rfl
      rw [e1]
      exact tb _ (List.getElem_mem hk)
    · rw [List.getD_eq_getElem?_getD, List.getElem?_eq_none (by simp; omega)]
      decide
theorem at_dF {l : List Rat} {i : Nat} (h : i < l.length) : atI (l.map dF) (i : Int) = some (dF l[i]) := by
  have h1 : ¬ (i : Int) < 0 := by omega
  simp [atI, ixN, h1, h]
theorem placed_wh {l : List Rat} {q : Rat} {s : Nat} (hl : ∀ a ∈ l, Sz s a) (hq : Sz s q) (hs : s ≤ 4000) (st : Sto) : ∀ (k i : Nat), i + k = ahead q l → ∃ n, whN wc_placed_1 wb_placed_2 n ⟨[.val (.lst (l.map dF)), .val (dF q), .val (.int i)], st⟩ = some (.nx ⟨[.val (.lst (l.map dF)), .val (dF q), .val (.int (ahead q l))], st⟩) := by
  intro k
  induction k with
  | zero =>
    intro i hi
    have hi : i = ahead q l := by omega
    subst hi
    refine ⟨1, ?_⟩
    rw [e_wh (x := false) (m := .P) (st1 := st) ?_]
    · simp
    · by_cases c : ahead q l < l.length
      · have a1 := at_dF c
        have a2 := is_less_eq (hl _ (List.getElem_mem c)) hq (by omega) st
        have a3 := ahead_ge c
        simp -implicitDefEqProofs [q_wc_placed_1, c, a1, a2, a3]
      · have c' : ¬ ((ahead q l : Nat) : Int) < l.length := by omega
        simp -implicitDefEqProofs [q_wc_placed_1, c']
  | succ k ih =>
    intro i hi
    obtain ⟨n, hn⟩ := ih (i + 1) (by omega)
    refine ⟨n + 1, ?_⟩
    have hle := ahead_le q l
    have c : i < l.length := by omega
    have a1 := at_dF c
    have a2 := is_less_eq (hl _ (List.getElem_mem c)) hq (by omega) st
    have a3 := ahead_lt (q := q) (l := l) (i := i) (by omega) c
    rw [e_wh (x := true) (m := .P) (st1 := st) ?_]
    · have e : ((i : Nat) : Int) + 1 = ((i + 1 : Nat) : Int) := by omega
      simp -implicitDefEqProofs [q_wb_placed_2]
      rw [e]; exact hn
    · simp -implicitDefEqProofs [q_wc_placed_1, c, a1, a2, a3]
theorem mem_ahead {q : Rat} {l : List Rat} (h : Ris l) : q ∈ l ↔ ∃ c : ahead q l < l.length, l[ahead q l] = q := by
  constructor
  · intro m
    have hle := ahead_le q l
    by_cases c : ahead q l < l.length
    · refine ⟨c, ?_⟩
      have g := ahead_ge c
      obtain ⟨j, hj, e⟩ := List.mem_iff_getElem.mp m
      have hj2 : ¬ j < ahead q l := fun z => by have := ahead_lt (q := q) z hj; rw [e] at this; grind
      by_cases z : j = ahead q l
      · subst z; exact e
      · have := List.pairwise_iff_getElem.mp h (ahead q l) j c hj (by omega)
        grind
    · obtain ⟨j, hj, e⟩ := List.mem_iff_getElem.mp m
      have := ahead_lt (q := q) (l := l) (i := j) (by omega) hj
      rw [e] at this; grind
  · rintro ⟨c, e⟩
    exact e ▸ List.getElem_mem c
theorem placed_eq {l : List Rat} {q : Rat} {s : Nat} (hR : Ris l) (hl : ∀ a ∈ l, Sz s a) (hq : Sz s q) (hs : s ≤ 4000) (hn : l.length ≤ 1000) (st : Sto) : ∃ m, F_placed [.lst (l.map dF), dF q] st = .val m (.lst ((ins q l).map dF)) st ∧ (m = .P ∨ m = .N) := by
  obtain ⟨n, h⟩ := placed_wh hl hq hs st (ahead q l) 0 (by omega)
  have hw := sWhile_eq h
  have hle := ahead_le q l
  by_cases m : q ∈ l
  · obtain ⟨c, e⟩ := (mem_ahead hR).mp m
    have a1 := at_dF c
    have a1' : atI (l.map dF) ((ahead q l : Nat) : Int) = some (dF q) := by rw [a1, e]
    refine ⟨.P, ?_, .inl rfl⟩
    have hw' : sWhile wc_placed_1 wb_placed_2 ⟨[.val (.lst (l.map dF)), .val (dF q), .val (.int 0)], st⟩ = _ := hw
    simp -implicitDefEqProofs [F_placed, g_placed, hw', c, a1', ins, m]
  · refine ⟨.N, ?_, .inr rfl⟩
    have c1 := cut_to (l.map dF) (a := ((ahead q l : Nat) : Int)) (by omega)
    have c2 := cut_from (l.map dF) (a := ((ahead q l : Nat) : Int)) (by omega)
    have hsz : -(2 ^ 62) ≤ ((ahead q l : Nat) : Int) ∧ ((ahead q l : Nat) : Int) < 2 ^ 62 := sz62 (by omega)
    simp only [Int.toNat_natCast] at c1 c2
    have hw' : sWhile wc_placed_1 wb_placed_2 ⟨[.val (.lst (l.map dF)), .val (dF q), .val (.int 0)], st⟩ = _ := hw
    have hl1 : min (ahead q l) l.length + 1 ≤ 1000000 := by omega
    have hl2 : min (ahead q l) l.length + 1 + (l.length - ahead q l) ≤ 1000000 := by omega
    by_cases c : ahead q l < l.length
    · have a1 := at_dF c
      have ne : ¬ l[ahead q l] = q := fun e => m (e ▸ List.getElem_mem c)
      simp -implicitDefEqProofs [F_placed, g_placed, hw', c, a1, ne, ins, m, c1, c2, hsz, hl1, hl2]
    · simp -implicitDefEqProofs [F_placed, g_placed, hw', c, ins, m, c1, c2, hsz, hl1, hl2]
theorem placed_all {s : Nat} {e0 e2 : SL} {st : Sto} (hs : s ≤ 4000) : ∀ (qs l : List Rat) (x3 : SL), Ris l → (∀ a ∈ l, Sz s a) → (∀ a ∈ qs, Sz s a) → l.length + qs.length ≤ 900 → ∃ x3', forD (tgB (tgN 3) fb_all_ends_1) (qs.map dF) ⟨[e0, .val (.lst (l.map dF)), e2, x3], st⟩ = .nx ⟨[e0, .val (.lst ((insAll l qs).map dF)), e2, x3'], st⟩
  | [], l, x3, _, _, _, _ => ⟨x3, rfl⟩
  | q :: qs, l, x3, hR, hl, hq, hn => by
    simp at hn
    obtain ⟨m, h1, h2⟩ := placed_eq hR hl (hq q (List.mem_cons_self ..)) hs (by omega) st
    have il := ins_len q l
    obtain ⟨x3', h3⟩ := placed_all (e0 := e0) (e2 := e2) (st := st) hs qs (ins q l) (.val (dF q)) (ris_ins hR) (ins_sz hl (hq q (List.mem_cons_self ..))) (fun a m => hq a (List.mem_cons_of_mem _ m)) (by omega)
    refine ⟨x3', ?_⟩
    rcases h2 with rfl | rfl <;> simp -implicitDefEqProofs [e_forC, q_fb_all_ends_1, h1, h3, insAll]
theorem bqs_sz {rows : List (Int × Int)} (hr : RowsOk 8 rows) : ∀ a ∈ bqs rows, Sz 13 a := by
  intro a m
  obtain ⟨i, _, rfl⟩ := List.mem_map.mp m
  exact bq_sz hr i
theorem bqs_len (rows : List (Int × Int)) : (bqs rows).length = rows.length + 1 := by simp [bqs]
theorem ends_body {n : Nat} {st : Sto} {rows : List (Int × Int)} (T : TabAt st n rows) (hr : RowsOk 8 rows) {e0 x3 : SL} {l : List Rat} (hR : Ris l) (hl : ∀ a ∈ l, Sz 13 a) (hn : l.length ≤ 800) : ∃ x3', fb_all_ends_2 ⟨[e0, .val (.lst (l.map dF)), .val (.ptr n), x3], st⟩ = .nx ⟨[e0, .val (.lst ((insAll l (bqs rows)).map dF)), .val (.ptr n), x3'], st⟩ := by
  have b := bqs_len rows
  have := hr.2.1
  obtain ⟨x3', h⟩ := placed_all (s := 13) (e0 := e0) (e2 := .val (.ptr n)) (st := st) (by decide) (bqs rows) l x3 hR hl (bqs_sz hr) (by omega)
  refine ⟨x3', ?_⟩
  have T' := T
  unfold TabAt at T'
  have he : F_Table_ends [.ptr n] st = .val .N (.lst ((bqs rows).map dF)) st := by
    simp -implicitDefEqProofs [F_Table_ends, g_Table_ends, T']
  simp -implicitDefEqProofs [q_fb_all_ends_2, T', he, h]
theorem insAll_sz {s : Nat} : ∀ (qs l : List Rat), (∀ a ∈ l, Sz s a) → (∀ a ∈ qs, Sz s a) → ∀ a ∈ insAll l qs, Sz s a := by
  intro qs l h1 h2 a m
  rcases insAll_mem.mp m with m | m
  · exact h2 a m
  · exact h1 a m
theorem ris_nil : Ris [] := List.Pairwise.nil
theorem all_ends3 {n0 n1 n2 : Nat} {st : Sto} {r0 r1 r2 : List (Int × Int)} (T0 : TabAt st n0 r0) (T1 : TabAt st n1 r1) (T2 : TabAt st n2 r2) (h0 : RowsOk 8 r0) (h1 : RowsOk 8 r1) (h2 : RowsOk 8 r2) : F_all_ends [.lst [.ptr n0, .ptr n1, .ptr n2]] st = .val .P (.lst ((insAll [] (bqs r0 ++ (bqs r1 ++ bqs r2))).map dF)) st := by
  have b0 := bqs_len r0
  have b1 := bqs_len r1
  have := h0.2.1
  have := h1.2.1
  have i0 := insAll_len (bqs r0) []
  have i1 := insAll_len (bqs r1) (insAll [] (bqs r0))
  obtain ⟨x3, e1⟩ := ends_body (e0 := .val (.lst [.ptr n0, .ptr n1, .ptr n2])) (x3 := .emp) T0 h0 (l := []) ris_nil (by simp) (by simp)
  obtain ⟨x4, e2⟩ := ends_body (e0 := .val (.lst [.ptr n0, .ptr n1, .ptr n2])) (x3 := x3) T1 h1 (l := insAll [] (bqs r0)) (insAll_ris ris_nil) (insAll_sz _ _ (by simp) (bqs_sz h0)) (by simp at i0; omega)
  obtain ⟨x5, e3⟩ := ends_body (e0 := .val (.lst [.ptr n0, .ptr n1, .ptr n2])) (x3 := x4) T2 h2 (l := insAll (insAll [] (bqs r0)) (bqs r1)) (insAll_ris (insAll_ris ris_nil)) (insAll_sz _ _ (insAll_sz _ _ (by simp) (bqs_sz h0)) (bqs_sz h1)) (by simp at i0; omega)
  rw [insAll_app, insAll_app]
  simp only [List.map_nil] at e1
  simp -implicitDefEqProofs [F_all_ends, g_all_ends, e_forC, e1, e2, e3]
theorem getD_at {E : List Rat} {i : Nat} (h : i < E.length) : E[i]? = some (E.getD i 0) ∧ E.getD i 0 ∈ E := by
  have e : E.getD i 0 = E[i] := by rw [List.getD_eq_getElem?_getD, List.getElem?_eq_getElem h]; rfl
  rw [e]
  exact ⟨List.getElem?_eq_getElem h, List.getElem_mem h⟩
theorem place_in_eq {E : List Rat} (hE : ∀ e ∈ E, Sz 13 e) {i : Nat} (hi : i + 1 < E.length) {t : Rat} {s : Nat} (ht : Sz s t) (hs : s ≤ 1000) (st : Sto) : F_place_in [.lst (E.map dF), .int (i : Int), dF t] st = .val .P (dF (E.getD i 0 + (E.getD (i + 1) 0 - E.getD i 0) * t)) st := by
  obtain ⟨g0, m0⟩ := getD_at (E := E) (i := i) (by omega)
  obtain ⟨g1, m1⟩ := getD_at (E := E) (i := i + 1) hi
  have s0 := hE _ m0
  have s1 := hE _ m1
  have a0 : atI (E.map dF) (i : Int) = some (dF (E.getD i 0)) := atI_nat (by rw [List.getElem?_map, g0]; rfl)
  have a1 : atI (E.map dF) ((i : Int) + 1) = some (dF (E.getD (i + 1) 0)) := by
    have := atI_nat (xs := E.map dF) (j := i + 1) (v := dF (E.getD (i + 1) 0)) (by rw [List.getElem?_map, g1]; rfl)
    rwa [show ((i + 1 : Nat) : Int) = (i : Int) + 1 by omega] at this
  have p0 := minus_eq s1 s0 (by omega) st
  have p1 := times_eq (s1.sub s0) ht (by omega) st
  have p2 := plus_eq s0 ((s1.sub s0).mul ht) (by omega) st
  generalize dF (E.getD i 0 + (E.getD (i + 1) 0 - E.getD i 0) * t) = x1 at *
  generalize dF ((E.getD (i + 1) 0 - E.getD i 0) * t) = x2 at *
  generalize dF (E.getD (i + 1) 0 - E.getD i 0) = x3 at *
  generalize dF (E.getD (i + 1) 0) = x4 at *
  generalize dF (E.getD i 0) = x5 at *
  generalize dF t = x6 at *
  generalize (i : Int) = ii at *
  generalize E.map dF = ED at *
  simp -implicitDefEqProofs [F_place_in, g_place_in, a0, a1, p0, p1, p2]
section
variable {E : List Rat} {R : Nat → List (Int × Int)} {c : Nat → Nat} {L : Nat → List Int}
  (hL : ∀ h, h < 3 → (L h).length = E.length ∧ (∀ k, k < E.length → (((L h).getD k 0 : Int) : Rat) = (c h : Rat) * wq 0 (E.getD k 0) (R h)) ∧ ∀ k, 0 ≤ (L h).getD k 0 ∧ (L h).getD k 0 < 2 ^ 153)
include hL
theorem prow_cast {h i j : Nat} (hh : h < 3) (hi : i + 1 < E.length) (hj : j + 1 < E.length) (p : Nat) : rowQ (prowI (L h) i j p) = Tp.prow (fun k => (c h : Rat) * wq 0 (E.getD k 0) (R h)) (E.length - 1) i j p := by
  obtain ⟨l, a, _⟩ := hL h hh
  have a1 := a i (by omega)
  have a2 := a (i + 1) hi
  have a3 := a j (by omega)
  have a4 := a (j + 1) hj
  have a5 := a (E.length - 1) (by omega)
  have z0 : ((0 : Int) : Rat) = 0 := rfl
  match p with
  | 0 => simp only [rowQ, prowI, Tp.prow, Rat.intCast_sub, a1, a2, z0]
  | 1 => simp only [rowQ, prowI, Tp.prow, Rat.intCast_sub, Rat.intCast_neg, a1, a2, a3, a4]
  | p + 2 => simp only [rowQ, prowI, Tp.prow, Rat.intCast_sub, Rat.intCast_neg, a3, a4, a5, l, z0]
theorem wish_cast {i j : Nat} (hi : i + 1 < E.length) (hj : j + 1 < E.length) {o : List Nat} (ho : o ∈ Tp.ords) : (wishI L i j o).map rowQ = Tp.wishs (fun h k => (c h : Rat) * wq 0 (E.getD k 0) (R h)) (E.length - 1) i j o := by
  have o3 : ∀ o ∈ Tp.ords, o.getD 0 0 < 3 ∧ o.getD 1 0 < 3 ∧ o.getD 2 0 < 3 := by decide +kernel
  obtain ⟨o0, o1, o2⟩ := o3 o ho
  have rs : ∀ a b : Int × Int × Int, rowQ (subI a b) = Tp.rsub (rowQ a) (rowQ b) := fun a b => by simp only [rowQ, subI, Tp.rsub, Rat.intCast_sub]
  unfold wishI Tp.wishs
  simp only [List.map_cons, List.map_nil, rs, prow_cast hL o0 hi hj, prow_cast hL o1 hi hj, prow_cast hL o2 hi hj]
theorem wish_rib {i j : Nat} {o : List Nat} (ho : o ∈ Tp.ords) : ∀ r ∈ wishI L i j o, RiB 156 r := by
  have o3 : ∀ o ∈ Tp.ords, o.getD 0 0 < 3 ∧ o.getD 1 0 < 3 ∧ o.getD 2 0 < 3 := by decide +kernel
  obtain ⟨o0, o1, o2⟩ := o3 o ho
  have pr : ∀ h, h < 3 → ∀ p, (prowI (L h) i j p).1.natAbs < 2 ^ 154 ∧ (prowI (L h) i j p).2.1.natAbs < 2 ^ 154 ∧ (prowI (L h) i j p).2.2.natAbs < 2 ^ 154 := fun h hh p => by
    obtain ⟨_, _, b⟩ := hL h hh
    have b1 := b i
    have b2 := b (i + 1)
    have b3 := b j
    have b4 := b (j + 1)
    have b5 := b ((L h).length - 1)
    match p with
    | 0 => simp only [prowI]; omega
    | 1 => simp only [prowI]; omega
    | p + 2 => simp only [prowI]; omega
  have sb : ∀ h, h < 3 → ∀ p q, RiB 156 (subI (prowI (L h) i j p) (prowI (L h) i j q)) := fun h hh p q => by
    obtain ⟨a1, a2, a3⟩ := pr h hh p
    obtain ⟨b1, b2, b3⟩ := pr h hh q
    simp only [RiB, subI]
    refine ⟨?_, ?_, ?_⟩ <;> omega
  intro r hr
  unfold wishI at hr
  simp only [List.mem_cons, List.not_mem_nil, or_false] at hr
  rcases hr with rfl | rfl | rfl | rfl | rfl | rfl
  · exact sb _ o0 _ _
  · exact sb _ o0 _ _
  · exact sb _ o1 _ _
  · exact sb _ o1 _ _
  · exact sb _ o2 _ _
  · exact sb _ o2 _ _
theorem corner_good {i j : Nat} (hi : i + 1 < E.length) (hj : j + 1 < E.length) {o : List Nat} (ho : o ∈ Tp.ords) {p : Tp.P2} (h : cornerQ L i j o = some p) :
    (0 ≤ p.1 ∧ p.1 ≤ 1 ∧ 0 ≤ p.2 ∧ p.2 ≤ 1) ∧ (i = j → p.1 ≤ p.2) ∧ Tp.SzP 314 p ∧ ∀ r ∈ Tp.wishs (fun h k => (c h : Rat) * wq 0 (E.getD k 0) (R h)) (E.length - 1) i j o, 0 ≤ Tp.val r p := by
  unfold cornerQ at h
  split at h
  · have m : p ∈ Tp.clips ((wishI L i j o).map rowQ) (Tp.cell (decide (i = j))) := List.mem_of_head? h
    obtain ⟨a, b⟩ := Tp.clips_cell p m
    have iv := (Tp.inv_clips ((wishI L i j o).map rowQ) (fun r hr => by
      obtain ⟨q, hq, rfl⟩ := List.mem_map.mp hr
      exact (wish_rib hL ho q hq).ri) (Tp.inv_cell (B := 156) (by decide) (decide (i = j)))).1 p m
    refine ⟨a, fun z => b (by simp [z]), iv, fun r hr => ?_⟩
    rw [← wish_cast hL hi hj ho] at hr
    exact Tp.clips_rows _ r hr p m
  · cases h
theorem corner_some {i j : Nat} (hij : i ≤ j) (hj : j + 1 < E.length) {o : List Nat} (ho : o ∈ Tp.ords) {u v : Rat} (u0 : 0 ≤ u) (u1 : u ≤ 1) (v0 : 0 ≤ v) (v1 : v ≤ 1) (huv : i = j → u ≤ v) (hr : ∀ r ∈ Tp.wishs (fun h k => (c h : Rat) * wq 0 (E.getD k 0) (R h)) (E.length - 1) i j o, 0 ≤ Tp.val r (u, v)) :
    cornerQ L i j o ≠ none := by
  have wc := wish_cast hL (show i + 1 < E.length by omega) hj ho
  rw [← wc] at hr
  have al : (wishI L i j o).all (fun r => mayH r i j) = true := by
    rw [List.all_eq_true]
    intro r m
    cases hm : mayH r i j with
    | true => rfl
    | false => exact absurd (hr _ (List.mem_map.mpr ⟨r, m, rfl⟩)) (mayH_no hm u0 u1 v0 v1 hij huv)
  have cs := Tp.clips_some (b := decide (i = j)) u0 u1 v0 v1 (fun z => huv (by simpa using z)) hr
  unfold cornerQ
  rw [if_pos al]
  intro z
  exact cs (List.head?_eq_none_iff.mp z)
end
theorem for_find {α : Type} {good : α → Prop} {I : En → Prop} {Q : Md → D → Sto → Prop} {b : D → En → SR} {enc : α → D} : ∀ (l : List α), (∀ a ∈ l, ∀ E, I E → (good a → ∃ m d st, b (enc a) E = .rt m d st ∧ Q m d st) ∧ (¬ good a → ∃ E', b (enc a) E = .nx E' ∧ I E')) → ∀ E, I E →
    ((∃ a ∈ l, good a) → ∃ m d st, forD b (l.map enc) E = .rt m d st ∧ Q m d st) ∧ ((¬ ∃ a ∈ l, good a) → ∃ E', forD b (l.map enc) E = .nx E' ∧ I E')
  | [], _, E, hE => ⟨fun ⟨a, h, _⟩ => by simp at h, fun _ => ⟨E, rfl, hE⟩⟩
  | a :: l, h, E, hE => by
    obtain ⟨h1, h2⟩ := h a (by simp) E hE
    by_cases g : good a
    · refine ⟨fun _ => ?_, fun z => absurd ⟨a, by simp, g⟩ z⟩
      obtain ⟨m, d, st, e, q⟩ := h1 g
      exact ⟨m, d, st, by rw [List.map_cons, e_forC, e], q⟩
    · obtain ⟨E', e, i'⟩ := h2 g
      obtain ⟨k1, k2⟩ := for_find l (fun x hx => h x (by simp [hx])) E' i'
      refine ⟨fun ⟨x, hx, gx⟩ => ?_, fun z => ?_⟩
      · have : ∃ a ∈ l, good a := by
          rcases List.mem_cons.mp hx with rfl | hx
          · exact absurd gx g
          · exact ⟨x, hx, gx⟩
        obtain ⟨m, d, st, e2, q⟩ := k1 this
        exact ⟨m, d, st, by rw [List.map_cons, e_forC, e]; exact e2, q⟩
      · obtain ⟨E2, e2, i2⟩ := k2 fun ⟨x, hx, gx⟩ => z ⟨x, by simp [hx], gx⟩
        exact ⟨E2, by rw [List.map_cons, e_forC, e]; exact e2, i2⟩
def plcE (E : List Rat) (i : Nat) (t : Rat) : Rat := E.getD i 0 + (E.getD (i + 1) 0 - E.getD i 0) * t
def TpQ (E : List Rat) (L : Nat → List Int) (st : Sto) (m : Md) (d : D) (st' : Sto) : Prop := ∃ i j o p, i ≤ j ∧ j + 1 < E.length ∧ o ∈ Tp.ords ∧ cornerQ L i j o = some p ∧ m = .P ∧ d = .tup [.lst [dF (plcE E i p.1), dF (plcE E j p.2)], .lst (o.map fun h : Nat => .int (h : Int))] ∧ st' = st
def dSums (L : Nat → List Int) : D := .lst [.lst ((L 0).map D.int), .lst ((L 1).map D.int), .lst ((L 2).map D.int)]
section
variable {E : List Rat} {R : Nat → List (Int × Int)} {c : Nat → Nat} {L : Nat → List Int}
  (hL : ∀ h, h < 3 → (L h).length = E.length ∧ (∀ k, k < E.length → (((L h).getD k 0 : Int) : Rat) = (c h : Rat) * wq 0 (E.getD k 0) (R h)) ∧ ∀ k, 0 ≤ (L h).getD k 0 ∧ (L h).getD k 0 < 2 ^ 153)
  (hE : ∀ e ∈ E, Sz 13 e) (hn : E.length ≤ 900)
include hL hE hn
theorem tp_order {i j : Nat} (hij : i ≤ j) (hj : j + 1 < E.length) {o : List Nat} (ho : o ∈ Tp.ords) {v0 e5 e7 : SL} {st : Sto} :
    (cornerQ L i j o ≠ none → ∃ m d st', fb_three_pieces_2 ⟨[v0, .val (.lst (E.map dF)), .val (dSums L), .val (.int (i : Int)), .val (.int (j : Int)), e5, .val (dOrd o), e7], st⟩ = .rt m d st' ∧ TpQ E L st m d st') ∧
    (¬ cornerQ L i j o ≠ none → fb_three_pieces_2 ⟨[v0, .val (.lst (E.map dF)), .val (dSums L), .val (.int (i : Int)), .val (.int (j : Int)), e5, .val (dOrd o), e7], st⟩ = .nx ⟨[v0, .val (.lst (E.map dF)), .val (dSums L), .val (.int (i : Int)), .val (.int (j : Int)), e5, .val (dOrd o), .val .non], st⟩) := by
  have cf := corner_for_eq (B := 156) (by decide) (by decide) (S := L) (i := i) (j := j) (fun h hh => by have := (hL h hh).1; omega) ho (wish_rib hL ho) st
  have sD : dSums L = .lst [.lst ((L 0).map D.int), .lst ((L 1).map D.int), .lst ((L 2).map D.int)] := rfl
  rw [← sD] at cf
  cases hc : cornerQ L i j o with
  | none =>
    refine ⟨fun z => absurd rfl z, fun _ => ?_⟩
    rw [hc] at cf
    have e1 : dOpt none = .non := rfl
    rw [e1] at cf
    generalize dSums L = sd at *
    generalize dOrd o = od at *
    generalize E.map dF = ED at *
    generalize (i : Int) = ii at *
    generalize (j : Int) = jj at *
    simp -implicitDefEqProofs [q_fb_three_pieces_2, cf]
  | some p =>
    refine ⟨fun _ => ?_, fun z => absurd (by simp) z⟩
    rw [hc] at cf
    obtain ⟨_, _, ⟨s1, s2⟩, _⟩ := corner_good hL (show i + 1 < E.length by omega) hj ho hc
    have p1 := place_in_eq hE (i := i) (by omega) s1 (by decide) st
    have p2 := place_in_eq hE (i := j) hj s2 (by decide) st
    have r1 : ∀ i t, plcE E i t = E.getD i 0 + (E.getD (i + 1) 0 - E.getD i 0) * t := fun _ _ => rfl
    rw [← r1] at p1 p2
    refine ⟨.P, _, _, ?_, i, j, o, p, hij, hj, ho, hc, rfl, rfl, rfl⟩
    have e1 : dOpt (some p) = .tup [dF p.1, dF p.2] := rfl
    rw [e1] at cf
    have eo : dOrd o = .tup (o.map fun h : Nat => .int (h : Int)) := rfl
    have lo : (o.map fun h : Nat => D.int (h : Int)).length ≤ 1000000 := by
      have : ∀ o ∈ Tp.ords, o.length = 3 := by decide +kernel
      simp [this o ho]
    have a0 : ∀ a b : D, atI [a, b] 0 = some a := fun a b => rfl
    have a1 : ∀ a b : D, atI [a, b] 1 = some b := fun a b => rfl
    rw [eo] at cf ⊢
    generalize (o.map fun h : Nat => D.int (h : Int)) = oD at *
    generalize dSums L = sd at *
    generalize E.map dF = ED at *
    generalize dF (plcE E i p.1) = x1 at *
    generalize dF (plcE E j p.2) = x2 at *
    generalize dF p.1 = x3 at *
    generalize dF p.2 = x4 at *
    generalize (i : Int) = ii at *
    generalize (j : Int) = jj at *
    simp -implicitDefEqProofs [q_fb_three_pieces_2, cf, p1, p2, a0, a1, lo, List.append_assoc]
end
theorem tg3 {b : En → SR} {d : D} {v0 v1 v2 v3 v4 v5 v6 v7 : SL} {st : Sto} : tgB (tgN 3) b d ⟨[v0, v1, v2, v3, v4, v5, v6, v7], st⟩ = b ⟨[v0, v1, v2, .val d, v4, v5, v6, v7], st⟩ := rfl
theorem tg4 {b : En → SR} {d : D} {v0 v1 v2 v3 v4 v5 v6 v7 : SL} {st : Sto} : tgB (tgN 4) b d ⟨[v0, v1, v2, v3, v4, v5, v6, v7], st⟩ = b ⟨[v0, v1, v2, v3, .val d, v5, v6, v7], st⟩ := rfl
theorem tg6 {b : En → SR} {d : D} {v0 v1 v2 v3 v4 v5 v6 v7 : SL} {st : Sto} : tgB (tgN 6) b d ⟨[v0, v1, v2, v3, v4, v5, v6, v7], st⟩ = b ⟨[v0, v1, v2, v3, v4, v5, .val d, v7], st⟩ := rfl
theorem fb4_eq {ED : List D} {sd : D} {ii : Int} {nn : Nat} {v0 e4 e5 e6 e7 : SL} {st : Sto} (r2 : ((ED.length : Int) - 1 - ii).toNat = nn) (hl : ED.length ≤ 900) (h0 : 0 ≤ ii) (h1 : ii < 1000) : fb_three_pieces_4 ⟨[v0, .val (.lst ED), .val sd, .val (.int ii), e4, e5, e6, e7], st⟩ = forD (tgB (tgN 4) fb_three_pieces_3) (rangeD ii nn) ⟨[v0, .val (.lst ED), .val sd, .val (.int ii), e4, e5, e6, e7], st⟩ := by
  have l2 : ED.length ≤ 1000000 := by omega
  have b1 : -4611686018427387904 ≤ ii := by omega
  have b2 : ii < 4611686018427387904 := by omega
  have b3 : -4611686018427387904 ≤ (ED.length : Int) - 1 := by omega
  have b4 : (ED.length : Int) - 1 < 4611686018427387904 := by omega
  simp -implicitDefEqProofs [q_fb_three_pieces_4, r2, l2, b1, b2, b3, b4]
section
variable {E : List Rat} {R : Nat → List (Int × Int)} {c : Nat → Nat} {L : Nat → List Int}
  (hL : ∀ h, h < 3 → (L h).length = E.length ∧ (∀ k, k < E.length → (((L h).getD k 0 : Int) : Rat) = (c h : Rat) * wq 0 (E.getD k 0) (R h)) ∧ ∀ k, 0 ≤ (L h).getD k 0 ∧ (L h).getD k 0 < 2 ^ 153)
  (hE : ∀ e ∈ E, Sz 13 e) (hn : E.length ≤ 900)
include hL hE hn
theorem tp_orders {i j : Nat} (hij : i ≤ j) (hj : j + 1 < E.length) {v0 e5 e6 e7 : SL} {st : Sto} :
    ((∃ o ∈ Tp.ords, cornerQ L i j o ≠ none) → ∃ m d st', fb_three_pieces_3 ⟨[v0, .val (.lst (E.map dF)), .val (dSums L), .val (.int (i : Int)), .val (.int (j : Int)), e5, e6, e7], st⟩ = .rt m d st' ∧ TpQ E L st m d st') ∧
    ((¬ ∃ o ∈ Tp.ords, cornerQ L i j o ≠ none) → ∃ e6' e7', fb_three_pieces_3 ⟨[v0, .val (.lst (E.map dF)), .val (dSums L), .val (.int (i : Int)), .val (.int (j : Int)), e5, e6, e7], st⟩ = .nx ⟨[v0, .val (.lst (E.map dF)), .val (dSums L), .val (.int (i : Int)), .val (.int (j : Int)), e5, e6', e7'], st⟩) := by
  have f := for_find (good := fun o => cornerQ L i j o ≠ none) (I := fun e => ∃ e6 e7, e = ⟨[v0, .val (.lst (E.map dF)), .val (dSums L), .val (.int (i : Int)), .val (.int (j : Int)), e5, e6, e7], st⟩) (Q := TpQ E L st) (b := tgB (tgN 6) fb_three_pieces_2) (enc := dOrd) Tp.ords (fun o ho e he => by
    obtain ⟨e6, e7, rfl⟩ := he
    obtain ⟨k1, k2⟩ := tp_order hL hE hn hij hj ho (v0 := v0) (e5 := e5) (e7 := e7) (st := st)
    rw [tg6]
    exact ⟨k1, fun g => ⟨_, k2 g, _, _, rfl⟩⟩) _ ⟨e6, e7, rfl⟩
  have s : fb_three_pieces_3 ⟨[v0, .val (.lst (E.map dF)), .val (dSums L), .val (.int (i : Int)), .val (.int (j : Int)), e5, e6, e7], st⟩ = forD (tgB (tgN 6) fb_three_pieces_2) (Tp.ords.map dOrd) ⟨[v0, .val (.lst (E.map dF)), .val (dSums L), .val (.int (i : Int)), .val (.int (j : Int)), e5, e6, e7], st⟩ := by
    have eo : Tp.ords.map dOrd = [.tup [.int 0, .int 1, .int 2], .tup [.int 0, .int 2, .int 1], .tup [.int 1, .int 0, .int 2], .tup [.int 1, .int 2, .int 0], .tup [.int 2, .int 0, .int 1], .tup [.int 2, .int 1, .int 0]] := rfl
    rw [eo]
    generalize E.map dF = ED at *
    generalize dSums L = sd at *
    generalize (i : Int) = ii at *
    generalize (j : Int) = jj at *
    simp -implicitDefEqProofs [q_fb_three_pieces_3]
  rw [s]
  refine ⟨f.1, fun g => ?_⟩
  obtain ⟨E', h, e6', e7', rfl⟩ := f.2 g
  exact ⟨e6', e7', h⟩
theorem tp_j {i : Nat} (hi : i + 1 < E.length) {v0 e4 e5 e6 e7 : SL} {st : Sto} :
    ((∃ k ∈ List.range (E.length - 1 - i), ∃ o ∈ Tp.ords, cornerQ L i (i + k) o ≠ none) → ∃ m d st', fb_three_pieces_4 ⟨[v0, .val (.lst (E.map dF)), .val (dSums L), .val (.int (i : Int)), e4, e5, e6, e7], st⟩ = .rt m d st' ∧ TpQ E L st m d st') ∧
    ((¬ ∃ k ∈ List.range (E.length - 1 - i), ∃ o ∈ Tp.ords, cornerQ L i (i + k) o ≠ none) → ∃ e4' e6' e7', fb_three_pieces_4 ⟨[v0, .val (.lst (E.map dF)), .val (dSums L), .val (.int (i : Int)), e4, e5, e6, e7], st⟩ = .nx ⟨[v0, .val (.lst (E.map dF)), .val (dSums L), .val (.int (i : Int)), e4', e5, e6', e7'], st⟩) := by
  have f := for_find (good := fun k => ∃ o ∈ Tp.ords, cornerQ L i (i + k) o ≠ none) (I := fun e => ∃ e4 e6 e7, e = ⟨[v0, .val (.lst (E.map dF)), .val (dSums L), .val (.int (i : Int)), e4, e5, e6, e7], st⟩) (Q := TpQ E L st) (b := tgB (tgN 4) fb_three_pieces_3) (enc := fun k : Nat => .int ((i : Int) + (k : Int))) (List.range (E.length - 1 - i)) (fun k hk e he => by
    obtain ⟨e4, e6, e7, rfl⟩ := he
    have hk' := List.mem_range.mp hk
    obtain ⟨k1, k2⟩ := tp_orders hL hE hn (i := i) (j := i + k) (by omega) (by omega) (v0 := v0) (e5 := e5) (e6 := e6) (e7 := e7) (st := st)
    have cI : ((i + k : Nat) : Int) = (i : Int) + (k : Int) := by omega
    rw [cI] at k1 k2
    rw [tg4]
    refine ⟨k1, fun g => ?_⟩
    obtain ⟨a, b, h⟩ := k2 g
    exact ⟨_, h, _, _, _, rfl⟩) _ ⟨e4, e6, e7, rfl⟩
  have r2 : ((E.length : Int) - 1 - (i : Int)).toNat = E.length - 1 - i := by omega
  have s : fb_three_pieces_4 ⟨[v0, .val (.lst (E.map dF)), .val (dSums L), .val (.int (i : Int)), e4, e5, e6, e7], st⟩ = forD (tgB (tgN 4) fb_three_pieces_3) ((List.range (E.length - 1 - i)).map fun k : Nat => .int ((i : Int) + (k : Int))) ⟨[v0, .val (.lst (E.map dF)), .val (dSums L), .val (.int (i : Int)), e4, e5, e6, e7], st⟩ := fb4_eq (by rw [List.length_map]; exact r2) (by rw [List.length_map]; omega) (by omega) (by omega)
  rw [s]
  refine ⟨f.1, fun g => ?_⟩
  obtain ⟨E', h, a, b, d, rfl⟩ := f.2 g
  exact ⟨a, b, d, h⟩
theorem tp_i {v0 e3 e4 e5 e6 e7 : SL} {st : Sto} (hx : ∃ i j o, i ≤ j ∧ j + 1 < E.length ∧ o ∈ Tp.ords ∧ cornerQ L i j o ≠ none) :
    ∃ m d st', forD (tgB (tgN 3) fb_three_pieces_4) (rangeD 0 (E.length - 1)) ⟨[v0, .val (.lst (E.map dF)), .val (dSums L), e3, e4, e5, e6, e7], st⟩ = .rt m d st' ∧ TpQ E L st m d st' := by
  have f := for_find (good := fun i => ∃ k ∈ List.range (E.length - 1 - i), ∃ o ∈ Tp.ords, cornerQ L i (i + k) o ≠ none) (I := fun e => ∃ e3 e4 e6 e7, e = ⟨[v0, .val (.lst (E.map dF)), .val (dSums L), e3, e4, e5, e6, e7], st⟩) (Q := TpQ E L st) (b := tgB (tgN 3) fb_three_pieces_4) (enc := fun k : Nat => .int ((0 : Int) + (k : Int))) (List.range (E.length - 1)) (fun i hi e he => by
    obtain ⟨e3, e4, e6, e7, rfl⟩ := he
    have hi' := List.mem_range.mp hi
    obtain ⟨k1, k2⟩ := tp_j hL hE hn (i := i) (by omega) (v0 := v0) (e4 := e4) (e5 := e5) (e6 := e6) (e7 := e7) (st := st)
    have cI : (0 : Int) + (i : Int) = (i : Int) := by omega
    rw [cI]
    rw [tg3]
    refine ⟨k1, fun g => ?_⟩
    obtain ⟨a, b, d, h⟩ := k2 g
    exact ⟨_, h, _, _, _, _, rfl⟩) _ ⟨e3, e4, e6, e7, rfl⟩
  refine f.1 ?_
  obtain ⟨i, j, o, hij, hj, ho, g⟩ := hx
  refine ⟨i, List.mem_range.mpr (by omega), j - i, List.mem_range.mpr (by omega), o, ho, ?_⟩
  rwa [show i + (j - i) = j by omega]
end
structure WpQ (R : Nat → List (Int × Int)) (x y : Rat) (o : List Nat) : Prop where
  ord : o ∈ Tp.ords
  sx : Sz 400 x
  sy : Sz 400 y
  x0 : 0 ≤ x
  xy : x ≤ y
  y1 : y ≤ 1
  best : ∀ p q, p < 3 → q < 3 → Tp.pw (fun z => wq 0 z (R (o.getD p 0))) x y q ≤ Tp.pw (fun z => wq 0 z (R (o.getD p 0))) x y p
theorem wids_pos {rows : List (Int × Int)} (hr : RowsOk 8 rows) : 0 < wid rows ∧ wid rows < 2 ^ 13 := ⟨wid_pos hr, by have := wid_le hr; omega⟩
theorem three_pieces_eq {n : Nat → Nat} {R : Nat → List (Int × Int)} {st : Sto} (T : ∀ h, h < 3 → TabAt st (n h) (R h)) (hR : ∀ h, h < 3 → RowsOk 8 (R h)) :
    ∃ x y o, F_three_pieces [.lst [.ptr (n 0), .ptr (n 1), .ptr (n 2)]] st = .val .P (.tup [.lst [dF x, dF y], .lst (o.map fun h : Nat => .int (h : Int))]) st ∧ WpQ R x y o := by
  have en := all_ends3 (T 0 (by decide)) (T 1 (by decide)) (T 2 (by decide)) (hR 0 (by decide)) (hR 1 (by decide)) (hR 2 (by decide))
  have hm : ∀ a, a ∈ insAll [] (bqs (R 0) ++ (bqs (R 1) ++ bqs (R 2))) ↔ a ∈ bqs (R 0) ++ (bqs (R 1) ++ bqs (R 2)) := fun a => by
    constructor
    · intro h
      rcases insAll_mem.mp h with h | h
      · exact h
      · simp at h
    · intro h; exact insAll_mem.mpr (.inl h)
  have hris : Ris (insAll [] (bqs (R 0) ++ (bqs (R 1) ++ bqs (R 2)))) := insAll_ris ris_nil
  have hlen := insAll_len (bqs (R 0) ++ (bqs (R 1) ++ bqs (R 2))) []
  simp only [List.length_append, bqs_len, List.length_nil] at hlen
  have hn0 := (hR 0 (by decide)).2.1
  have hn1 := (hR 1 (by decide)).2.1
  have hn2 := (hR 2 (by decide)).2.1
  generalize insAll [] (bqs (R 0) ++ (bqs (R 1) ++ bqs (R 2))) = E at *
  have hE : E.length ≤ 900 := by omega
  have of : ∀ a ∈ E, ∃ h, h < 3 ∧ ∃ i, a = bq (R h) i := fun a ha => by
    rw [hm] at ha
    have : ∃ h, h < 3 ∧ a ∈ bqs (R h) := by
      rcases List.mem_append.mp ha with k | k
      · exact ⟨0, by decide, k⟩
      · rcases List.mem_append.mp k with k | k
        · exact ⟨1, by decide, k⟩
        · exact ⟨2, by decide, k⟩
    obtain ⟨h, hh, k⟩ := this
    obtain ⟨i, _, rfl⟩ := List.mem_map.mp k
    exact ⟨h, hh, i, rfl⟩
  have hE1 : ∀ e ∈ E, Sz 13 e ∧ 0 ≤ e ∧ e ≤ 1 := fun e he => by
    obtain ⟨h, hh, i, rfl⟩ := of e he
    exact ⟨bq_sz (hR h hh) i, bq_01 (hR h hh) i⟩
  obtain ⟨a0, b0⟩ := wids_pos (hR 0 (by decide))
  obtain ⟨a1, b1⟩ := wids_pos (hR 1 (by decide))
  obtain ⟨a2, b2⟩ := wids_pos (hR 2 (by decide))
  have hZ : 0 < wid (R 0) * (wid (R 1) * wid (R 2)) := Int.mul_pos a0 (Int.mul_pos a1 a2)
  have hZ2 : wid (R 0) * (wid (R 1) * wid (R 2)) < 2 ^ 39 := by
    have h1 := Int.mul_le_mul (show wid (R 1) ≤ 8191 by omega) (show wid (R 2) ≤ 8191 by omega) (by omega) (by decide)
    have h2 := Int.mul_le_mul (show wid (R 0) ≤ 8191 by omega) h1 (Int.le_of_lt (Int.mul_pos a1 a2)) (by decide)
    omega
  have hO : ∀ e ∈ E, Ov (wid (R 0) * (wid (R 1) * wid (R 2))) e := fun e he => by
    obtain ⟨h, hh, i, rfl⟩ := of e he
    have b := bq_ov (hR h hh) i
    have : h = 0 ∨ h = 1 ∨ h = 2 := by omega
    rcases this with rfl | rfl | rfl
    · exact b.mul
    · exact b.mul.mulL
    · exact b.mulL.mulL
  have sm : ∀ h, h < 3 → _ := fun h hh => sums_up_to_eq (T h hh) (hR h hh) hE1 hE hZ hZ2 hO
  obtain ⟨c0, L0, s0, p0⟩ := sm 0 (by decide)
  obtain ⟨c1, L1, s1, p1⟩ := sm 1 (by decide)
  obtain ⟨c2, L2, s2, p2⟩ := sm 2 (by decide)
  let c : Nat → Nat := fun h => if h = 0 then c0 else if h = 1 then c1 else c2
  let L : Nat → List Int := fun h => if h = 0 then L0 else if h = 1 then L1 else L2
  have all : ∀ h, h < 3 → F_sums_up_to [.ptr (n h), .lst (E.map dF)] st = .val .N (.lst ((L h).map D.int)) st ∧ 0 < c h ∧ (L h).length = E.length ∧ (∀ k, k < E.length → (((L h).getD k 0 : Int) : Rat) = (c h : Rat) * wq 0 (E.getD k 0) (R h)) ∧ ∀ k, 0 ≤ (L h).getD k 0 ∧ (L h).getD k 0 < 2 ^ 153 := fun h hh => by
    have : h = 0 ∨ h = 1 ∨ h = 2 := by omega
    rcases this with rfl | rfl | rfl
    · exact ⟨s0, p0⟩
    · exact ⟨s1, p1⟩
    · exact ⟨s2, p2⟩
  generalize c = c at *
  generalize L = L at *
  have hL := fun h hh => (all h hh).2.2
  have cells := Tp.cells_of hR hris hm
  obtain ⟨C, wf⟩ := Tp.wf3 hR
  have cp : ∀ h, h < 3 → (0 : Rat) < (c h : Rat) := fun h hh => Rat.natCast_pos.mpr (all h hh).2.1
  have lc : ∀ v0 v1 v2 v3 v6 v7, lcGo (lcStep (tgN 5) (fun E => ER.val Md.P (D.bl true) E.st) ce_three_pieces_1 [v0, .val (.lst (E.map dF)), v1, v2, v3, .emp, v6, v7]) ([0, 1, 2].map fun h : Nat => D.ptr (n h)) st = some ([0, 1, 2].map (fun h : Nat => D.lst ((L h).map D.int)), st) := fun v0 v1 v2 v3 v6 v7 => by
    refine lc_map fun h hh => ?_
    have h3 : h < 3 := by simp at hh; omega
    have s := (all h h3).1
    clear hL cells
    generalize E.map dF = ED at s ⊢
    generalize n h = nh at s ⊢
    generalize (L h).map D.int = LD at s ⊢
    simp -implicitDefEqProofs [q_ce_three_pieces_1, s]
  have hx : ∃ i j o, i ≤ j ∧ j + 1 < E.length ∧ o ∈ Tp.ords ∧ cornerQ L i j o ≠ none := by
    obtain ⟨i, j, o, u, v, hij, hj, ho, u0, u1, v0, v1, huv, hr⟩ := Tp.exist3 cells wf (fun h => (c h : Rat)) fun h hh => Rat.le_of_lt (cp h hh)
    exact ⟨i, j, o, hij, by omega, ho, corner_some hL hij (by omega) ho u0 u1 v0 v1 huv hr⟩
  obtain ⟨m, d, st', lp, i, j, o, p, hij, hj, ho, hc, rfl, rfl, rfl⟩ := tp_i (L := L) hL (fun e he => (hE1 e he).1) hE (v0 := .val (.lst [.ptr (n 0), .ptr (n 1), .ptr (n 2)])) (e3 := .emp) (e4 := .emp) (e5 := .emp) (e6 := .emp) (e7 := .emp) (st := st) hx
  refine ⟨plcE E i p.1, plcE E j p.2, o, ?_, ?_⟩
  · have sD : dSums L = .lst [.lst ((L 0).map D.int), .lst ((L 1).map D.int), .lst ((L 2).map D.int)] := rfl
    have m0 : ([0, 1, 2] : List Nat).map (fun h : Nat => D.ptr (n h)) = [.ptr (n 0), .ptr (n 1), .ptr (n 2)] := rfl
    have m1 : ([0, 1, 2] : List Nat).map (fun h : Nat => D.lst ((L h).map D.int)) = [.lst ((L 0).map D.int), .lst ((L 1).map D.int), .lst ((L 2).map D.int)] := rfl
    rw [m0, m1] at lc
    rw [sD] at lp
    have ln : (E.map dF).length = E.length := by simp
    have r1 : (((E.map dF).length : Int) - 1).toNat = E.length - 1 := by rw [ln]; omega
    have b1 : -4611686018427387904 ≤ ((E.map dF).length : Int) - 1 := by omega
    have b2 : ((E.map dF).length : Int) - 1 < 4611686018427387904 := by rw [ln]; omega
    clear hL all cells hx sm s0 s1 s2
    generalize E.length - 1 = nn at lp r1 ⊢
    generalize dF (plcE E i p.1) = x1 at lp ⊢
    generalize dF (plcE E j p.2) = x2 at lp ⊢
    generalize (o.map fun h : Nat => D.int (h : Int)) = oD at lp ⊢
    generalize E.map dF = ED at *
    generalize (L 0).map D.int = L0 at *
    generalize (L 1).map D.int = L1 at *
    generalize (L 2).map D.int = L2 at *
    generalize n 0 = n0 at *
    generalize n 1 = n1 at *
    generalize n 2 = n2 at *
    simp -implicitDefEqProofs [F_three_pieces, g_three_pieces, en, lc, lp, r1, b1, b2]
  · obtain ⟨⟨u0, u1, v0, v1⟩, huv, ⟨s1', s2'⟩, hr⟩ := corner_good hL (show i + 1 < E.length by omega) hj ho hc
    have li := cells.lt i (by omega)
    have lj := cells.lt j (by omega)
    have at_ : ∀ k, k < E.length → Sz 13 (E.getD k 0) ∧ 0 ≤ E.getD k 0 ∧ E.getD k 0 ≤ 1 := fun k hk => hE1 _ (getD_at hk).2
    obtain ⟨z1, z2, z3⟩ := at_ i (by omega)
    obtain ⟨z4, z5, z6⟩ := at_ (i + 1) (by omega)
    obtain ⟨y1, y2, y3⟩ := at_ j (by omega)
    obtain ⟨y4, y5, y6⟩ := at_ (j + 1) hj
    have m1 := Rat.mul_nonneg u0 (show 0 ≤ E.getD (i + 1) 0 - E.getD i 0 by grind)
    have m2 := Rat.mul_nonneg (show 0 ≤ 1 - p.2 by grind) (show 0 ≤ E.getD (j + 1) 0 - E.getD j 0 by grind)
    refine ⟨ho, ?_, ?_, ?_, ?_, ?_, fun a b ha hb => ?_⟩
    · unfold plcE; exact (z1.add ((z4.sub z1).mul s1')).up (by decide)
    · unfold plcE; exact (y1.add ((y4.sub y1).mul s2')).up (by decide)
    · unfold plcE; grind
    · unfold plcE
      by_cases q : i = j
      · have := Rat.mul_nonneg (show 0 ≤ p.2 - p.1 by have := huv q; grind) (show 0 ≤ E.getD (j + 1) 0 - E.getD j 0 by grind)
        rw [q]; grind
      · have mo := Tp.Cells.mono cells (show i + 1 ≤ j by omega) (by omega)
        have m3 := Rat.mul_nonneg (show 0 ≤ 1 - p.1 by grind) (show 0 ≤ E.getD (i + 1) 0 - E.getD i 0 by grind)
        have m4 := Rat.mul_nonneg v0 (show 0 ≤ E.getD (j + 1) 0 - E.getD j 0 by grind)
        have mo' : E.getD (i + 1) 0 ≤ E.getD j 0 := mo
        grind
    · unfold plcE; grind
    · have o3 : ∀ o ∈ Tp.ords, ∀ p, p < 3 → o.getD p 0 < 3 := by decide +kernel
      have hh := o3 o ho a ha
      by_cases ab : a = b
      · subst ab; exact Rat.le_refl
      · have mw : Tp.rsub (Tp.prow (fun k => (c (o.getD a 0) : Rat) * wq 0 (E.getD k 0) (R (o.getD a 0))) (E.length - 1) i j a) (Tp.prow (fun k => (c (o.getD a 0) : Rat) * wq 0 (E.getD k 0) (R (o.getD a 0))) (E.length - 1) i j b) ∈ Tp.wishs (fun h k => (c h : Rat) * wq 0 (E.getD k 0) (R h)) (E.length - 1) i j o := by
          have : (a = 0 ∧ b = 1) ∨ (a = 0 ∧ b = 2) ∨ (a = 1 ∧ b = 0) ∨ (a = 1 ∧ b = 2) ∨ (a = 2 ∧ b = 0) ∨ (a = 2 ∧ b = 1) := by omega
          rcases this with ⟨rfl, rfl⟩ | ⟨rfl, rfl⟩ | ⟨rfl, rfl⟩ | ⟨rfl, rfl⟩ | ⟨rfl, rfl⟩ | ⟨rfl, rfl⟩ <;> simp [Tp.wishs]
        have v := hr _ mw
        rw [Tp.val_rsub] at v
        have e1 := Tp.prow_val cells hh (show i < E.length - 1 by omega) (show j < E.length - 1 by omega) u0 u1 v0 v1 (c (o.getD a 0) : Rat) (wf _ hh).z a
        have e2 := Tp.prow_val cells hh (show i < E.length - 1 by omega) (show j < E.length - 1 by omega) u0 u1 v0 v1 (c (o.getD a 0) : Rat) (wf _ hh).z b
        have pe : (p.1, p.2) = p := rfl
        rw [pe] at e1 e2
        rw [e1, e2] at v
        have r1 : E.getD i 0 + (E.getD (i + 1) 0 - E.getD i 0) * p.1 = plcE E i p.1 := rfl
        have r2 : E.getD j 0 + (E.getD (j + 1) 0 - E.getD j 0) * p.2 = plcE E j p.2 := rfl
        rw [r1, r2] at v
        have cpp := cp _ hh
        generalize Tp.pw (fun z => wq 0 z (R (o.getD a 0))) (plcE E i p.1) (plcE E j p.2) a = A at *
        generalize Tp.pw (fun z => wq 0 z (R (o.getD a 0))) (plcE E i p.1) (plcE E j p.2) b = B at *
        apply Classical.byContradiction
        intro q
        have := Rat.mul_pos cpp (show 0 < B - A by grind)
        grind
theorem div_wh (st : Sto) : ∀ (b a : Nat), ∃ n, whN wc_law_divisor_1 wb_law_divisor_2 n ⟨[.val (.int a), .val (.int b)], st⟩ = some (.nx ⟨[.val (.int (Nat.gcd a b)), .val (.int 0)], st⟩) := by
  intro b
  induction b using Nat.strongRecOn with
  | ind b ih =>
    intro a
    by_cases hb : b = 0
    · subst hb
      refine ⟨1, ?_⟩
      rw [e_wh (x := false) (m := .P) (st1 := st) (by simp [q_wc_law_divisor_1])]
      simp
    · obtain ⟨n, hn⟩ := ih (a % b) (Nat.mod_lt _ (Nat.pos_of_ne_zero hb)) b
      refine ⟨n + 1, ?_⟩
      rw [e_wh (x := true) (m := .P) (st1 := st) (by simp [q_wc_law_divisor_1]; omega)]
      have hm : (a : Int).fmod (b : Int) = ((a % b : Nat) : Int) := by
        rw [Int.fmod_eq_emod_of_nonneg _ (Int.natCast_nonneg b)]
        rfl
      have hb' : ¬ (b : Int) = 0 := by omega
      simp only [if_true, q_wb_law_divisor_2, e_sPar, e_aCons, e_aNil, e_dVar, e_dOp, List.getElem?_cons_succ, List.getElem?_cons_zero, ER.bind_val, e_oMod_1, cons_P, acons_ok, ne_eq, hb', not_false_eq_true, Bool.and_self, List.set_cons_zero, List.set_cons_succ, hm]
      rw [hn]
      have : Nat.gcd a b = Nat.gcd b (a % b) := by
        rw [Nat.gcd_comm a b, Nat.gcd_rec b a, Nat.gcd_comm]
      rw [this]
theorem law_divisor_eq {a b : Int} (ha : 0 ≤ a) (hb : 0 ≤ b) (st : Sto) : F_law_divisor [.int a, .int b] st = .val .P (.int (Int.gcd a b)) st := by
  obtain ⟨n, h⟩ := div_wh st b.toNat a.toNat
  rw [Int.toNat_of_nonneg ha, Int.toNat_of_nonneg hb] at h
  have hw := sWhile_eq h
  have : Nat.gcd a.toNat b.toNat = Int.gcd a b := by unfold Int.gcd; congr 1 <;> omega
  rw [this] at hw
  simp [F_law_divisor, g_law_divisor, hw]
theorem law_less_eq {a b : Rat} {m n : Nat} (ha : Sz m a) (hb : Sz n b) (h : m + n < 900000) (st : Sto) : F_law_less [dF a, dF b] st = .val .P (.bl (decide (a < b))) st := by
  have m1 := bit_log2 ha.1 hb.den (by omega)
  have m2 := bit_log2 hb.1 ha.den (by omega)
  simp only [Int.natAbs_natCast] at m1 m2
  simp [F_law_less, g_law_less, m1, m2, lt_num]
theorem law_place_eq {q : Rat} (h0 : 0 ≤ q) (h1 : q ≤ 1) (st : Sto) : F_law_place [dF q] st = .val .P (.bl true) st := by
  have hd := den_pos q
  have hn : 0 ≤ q.num := Rat.num_nonneg.mpr h0
  have hle : q.num ≤ q.den := by
    have := (Rat.not_lt.mpr h1)
    rw [Rat.lt_iff] at this
    simp at this
    omega
  have hg := fun st => law_divisor_eq (a := ((q.num.natAbs : Nat) : Int)) (b := (q.den : Int)) (by omega) (by omega) st
  have hc : Int.gcd ((q.num.natAbs : Nat) : Int) (q.den : Int) = 1 := q.reduced
  rw [hc] at hg
  have hw : ∀ (i : Int) (st : Sto), F_law_whole [.int i] st = .val .P (.bl true) st := fun i st => by simp -implicitDefEqProofs [F_law_whole, g_law_whole]
  have c1 : ¬ (q.den : Int) < 1 := by omega
  have hf : F_law_fraction [dF q] st = .val .P (.bl true) st := by
    simp -implicitDefEqProofs [F_law_fraction, g_law_fraction, hw, c1, absI, hg]
  simp -implicitDefEqProofs [F_law_place, g_law_place, hf, hn, hle]
theorem div_of {top bot : Int} {W : Rat} (hb : 0 < bot) (h : (top : Rat) = bot * W) : Rat.divInt top bot = W := by
  rw [Rat.divInt_eq_div, h]
  have := cast_ne (show bot ≠ 0 by omega)
  grind
theorem law_less_P {a b c d : Int} {m n : Nat} (hb : 0 < b) (hd : 0 < d) (ha : a.natAbs < 2 ^ m) (hb2 : b.natAbs < 2 ^ m) (hc : c.natAbs < 2 ^ n) (hd2 : d.natAbs < 2 ^ n) (h : m + n < 900000) (st : Sto) : F_law_less [.tup [.int a, .int b], .tup [.int c, .int d]] st = .val .P (.bl (decide (Rat.divInt a b < Rat.divInt c d))) st := by
  have m1 := bit_log2 ha hd2 (by omega)
  have m2 := bit_log2 hc hb2 (by omega)
  have : decide (Rat.divInt a b < Rat.divInt c d) = decide (a * d < c * b) := by rw [decide_eq_decide, q_ltP hb hd]
  rw [this]
  simp [-dF_0, -dF_1, F_law_less, g_law_less, m1, m2, atI, ixN]
def cutP (x y : Rat) : Nat → Rat
  | 0 => 0
  | 1 => x
  | 2 => y
  | _ => 1
theorem three_worths {rows : List (Int × Int)} (hr : RowsOk 8 rows) {x y : Rat} (sx : Sz 400 x) (sy : Sz 400 y) (x0 : 0 ≤ x) (xy : x ≤ y) (y1 : y ≤ 1) (st : Sto) :
    ∃ w : Nat → D, (∀ q, q < 3 → F_law_worth [.lst (rows.map dRow), dF (cutP x y q), dF (cutP x y (q + 1))] st = .val .P (w q) st) ∧ ∀ p q, p < 3 → q < 3 → F_law_less [w p, w q] st = .val .P (.bl (decide (Tp.pw (fun z => wq 0 z rows) x y p < Tp.pw (fun z => wq 0 z rows) x y q))) st := by
  have sc : ∀ q, Sz 400 (cutP x y q) := fun q => by
    match q with
    | 0 => exact sz0 (n := 399)
    | 1 => exact sx
    | 2 => exact sy
    | q + 3 => exact sz1 (n := 399)
  have go : ∀ q : Nat, ∃ w : D, F_law_worth [.lst (rows.map dRow), dF (cutP x y q), dF (cutP x y (q + 1))] st = .val .P w st ∧ ∃ top bot : Int, w = .tup [.int top, .int bot] ∧ 0 < bot ∧ Rat.divInt top bot = wq (cutP x y q) (cutP x y (q + 1)) rows ∧ top.natAbs < 2 ^ 950 ∧ bot.natAbs < 2 ^ 950 := fun q => by
    obtain ⟨t, b, f, b0, e, h1, h2⟩ := worthG_eq hr (s := 400) (by decide) (sc q) (sc (q + 1)) st
    exact ⟨_, f, t, b, rfl, b0, div_of b0 e, h1, h2⟩
  have pv : ∀ q, q < 3 → wq (cutP x y q) (cutP x y (q + 1)) rows = Tp.pw (fun z => wq 0 z rows) x y q := fun q hq => by
    have : q = 0 ∨ q = 1 ∨ q = 2 := by omega
    rcases this with rfl | rfl | rfl
    · rfl
    · exact (Tp.wq_diff hr x0 xy).symm
    · exact (Tp.wq_diff hr (Rat.le_trans x0 xy) y1).symm
  refine ⟨fun q => Classical.choose (go q), fun q _ => (Classical.choose_spec (go q)).1, fun p q hp hq => ?_⟩
  obtain ⟨_, t1, b1, e1, p1, d1, m1, n1⟩ := Classical.choose_spec (go p)
  obtain ⟨_, t2, b2, e2, p2, d2, m2, n2⟩ := Classical.choose_spec (go q)
  have l := law_less_P p1 p2 m1 n1 m2 n2 (by decide) st
  rw [d1, d2, pv p hp, pv q hq] at l
  show F_law_less [Classical.choose (go p), Classical.choose (go q)] st = _
  rw [e1, e2]
  exact l
section
variable {st : Sto} {x y : Rat}
theorem srt_ords : ∀ o ∈ Tp.ords, srt (o.map fun h : Nat => (h : Int)) = [0, 1, 2] := by
  have pm : ∀ o ∈ Tp.ords, (o.map fun h : Nat => (h : Int)).isPerm [0, 1, 2] = true := by decide +kernel
  intro o ho
  exact (srt_is (List.isPerm_iff.mp (pm o ho)).symm (by simp)).symm
theorem paper_ok3 {o : List Nat} (ho : o ∈ Tp.ords) {A B C : D} (x0 : 0 < x) (xy : x < y) (y1 : y < 1) (sx : Sz 400 x) (sy : Sz 400 y) : F_law_paper [.tup [.lst [dF x, dF y], .lst (o.map fun h : Nat => .int (h : Int))], .lst [A, B, C]] st = .val .P (.bl true) st := by
  have p1 := law_place_eq (q := x) (Rat.le_of_lt x0) (by grind) st
  have p2 := law_place_eq (q := y) (by grind) (Rat.le_of_lt y1) st
  have hw : ∀ (i : Int) (st : Sto), F_law_whole [.int i] st = .val .P (.bl true) st := fun i st => by simp -implicitDefEqProofs [F_law_whole, g_law_whole]
  have l1 := law_less_eq (sz0 (n := 399)) sx (by decide) st
  have l2 := law_less_eq sx sy (by decide) st
  have l3 := law_less_eq sy (sz1 (n := 399)) (by decide) st
  simp only [x0, xy, y1, decide_true] at l1 l2 l3
  have e2 := eq_self (d := .lst [.int 0, .int 1, .int 2]) (by simp [pur, purL]) (by simp [dep, depL]) st
  have n2 := ne_of_eq e2
  have hr : rangeD 0 3 = [.int 0, .int 1, .int 2] := rfl
  have so := srt_ords o ho
  have hc1 : cutG [dF 0, dF x, dF y, dF 1] (some 1) none = [dF x, dF y, dF 1] := cut_from _ (by decide)
  have kl : kitB "list" "list" = some true := by decide +kernel
  have kt : kitB "tuple" "tuple" = some true := by decide +kernel
  have o3 : ∀ o ∈ Tp.ords, o = [o.getD 0 0, o.getD 1 0, o.getD 2 0] := by decide +kernel
  have e3 := o3 o ho
  have eD : (o.map fun h : Nat => D.int (h : Int)) = [.int (o.getD 0 0 : Nat), .int (o.getD 1 0 : Nat), .int (o.getD 2 0 : Nat)] := by
    conv => lhs; rw [e3]
    rfl
  have eI : (o.map fun h : Nat => (h : Int)) = [((o.getD 0 0 : Nat) : Int), ((o.getD 1 0 : Nat) : Int), ((o.getD 2 0 : Nat) : Int)] := by
    conv => lhs; rw [e3]
    rfl
  rw [eD]
  rw [eI] at so
  generalize ((o.getD 0 0 : Nat) : Int) = i0 at *
  generalize ((o.getD 1 0 : Nat) : Int) = i1 at *
  generalize ((o.getD 2 0 : Nat) : Int) = i2 at *
  simp -implicitDefEqProofs [hc1, kl, kt, F_law_paper, g_law_paper, p1, p2, hw, l1, l2, l3, e2, n2, hr, so, e_lcC, lcGoC, lcStep, q_ce_law_paper_1, q_ce_law_paper_2, q_ce_law_paper_3, intsOf, zipD, boolsOf]
theorem content_ok3 {u v t : Int} {A B C R0 R1 R2 : D} {w0 w1 w2 : Nat → D} (hu : atI [R0, R1, R2] u = some A) (hv : atI [R0, R1, R2] v = some B) (ht : atI [R0, R1, R2] t = some C)
    (f0 : ∀ q, q < 3 → F_law_worth [A, dF (cutP x y q), dF (cutP x y (q + 1))] st = .val .P (w0 q) st) (l0 : ∀ q, q < 3 → F_law_less [w0 0, w0 q] st = .val .P (.bl false) st)
    (f1 : ∀ q, q < 3 → F_law_worth [B, dF (cutP x y q), dF (cutP x y (q + 1))] st = .val .P (w1 q) st) (l1 : ∀ q, q < 3 → F_law_less [w1 1, w1 q] st = .val .P (.bl false) st)
    (f2 : ∀ q, q < 3 → F_law_worth [C, dF (cutP x y q), dF (cutP x y (q + 1))] st = .val .P (w2 q) st) (l2 : ∀ q, q < 3 → F_law_less [w2 2, w2 q] st = .val .P (.bl false) st) : F_law_content [.tup [.lst [dF x, dF y], .lst [.int u, .int v, .int t]], .lst [R0, R1, R2]] st = .val .P (.bl true) st := by
  have hc1 : cutG [dF 0, dF x, dF y, dF 1] (some 1) none = [dF x, dF y, dF 1] := cut_from _ (by decide)
  have a0 : ∀ a b : D, atI [a, b] 0 = some a := fun _ _ => rfl
  have a1 : ∀ a b : D, atI [a, b] 1 = some b := fun _ _ => rfl
  obtain ⟨f00, f01, f02⟩ : F_law_worth [A, dF 0, dF x] st = .val .P (w0 0) st ∧ F_law_worth [A, dF x, dF y] st = .val .P (w0 1) st ∧ F_law_worth [A, dF y, dF 1] st = .val .P (w0 2) st := ⟨f0 0 (by decide), f0 1 (by decide), f0 2 (by decide)⟩
  obtain ⟨f10, f11, f12⟩ : F_law_worth [B, dF 0, dF x] st = .val .P (w1 0) st ∧ F_law_worth [B, dF x, dF y] st = .val .P (w1 1) st ∧ F_law_worth [B, dF y, dF 1] st = .val .P (w1 2) st := ⟨f1 0 (by decide), f1 1 (by decide), f1 2 (by decide)⟩
  obtain ⟨f20, f21, f22⟩ : F_law_worth [C, dF 0, dF x] st = .val .P (w2 0) st ∧ F_law_worth [C, dF x, dF y] st = .val .P (w2 1) st ∧ F_law_worth [C, dF y, dF 1] st = .val .P (w2 2) st := ⟨f2 0 (by decide), f2 1 (by decide), f2 2 (by decide)⟩
  obtain ⟨l00, l01, l02⟩ := And.intro (l0 0 (by decide)) (And.intro (l0 1 (by decide)) (l0 2 (by decide)))
  obtain ⟨l10, l11, l12⟩ := And.intro (l1 0 (by decide)) (And.intro (l1 1 (by decide)) (l1 2 (by decide)))
  obtain ⟨l20, l21, l22⟩ := And.intro (l2 0 (by decide)) (And.intro (l2 1 (by decide)) (l2 2 (by decide)))
  clear f0 f1 f2 l0 l1 l2
  generalize w0 0 = w00 at *
  generalize w0 1 = w01 at *
  generalize w0 2 = w02 at *
  generalize w1 0 = w10 at *
  generalize w1 1 = w11 at *
  generalize w1 2 = w12 at *
  generalize w2 0 = w20 at *
  generalize w2 1 = w21 at *
  generalize w2 2 = w22 at *
  simp -implicitDefEqProofs [a0, a1, hc1, at3, F_law_content, g_law_content, e_forC, forPD, enumD, q_fb_law_content_3, hu, hv, ht, e_lcC, lcGoC, lcStep, q_ce_law_content_1, q_ce_law_content_2, f00, f01, f02, f10, f11, f12, f20, f21, f22, l00, l01, l02, l10, l11, l12, l20, l21, l22, zipD, boolsOf]
end
theorem half_in {r : List (Int × Int)} {h0 : Rat} (hr : RowsOk 8 r) (h : HalfAt r (hf r) h0) : 0 < h0 ∧ h0 < 1 := by
  have hp := h.p
  have ht := h.t
  have hc := h.c
  constructor
  · by_cases e : h0 = 0
    · exfalso
      rw [e] at hc
      have : cw r 0 = 0 := cw_zero hr
      grind
    · have := h.a; grind
  · by_cases e : h0 = 1
    · exfalso
      rw [e] at hc
      grind
    · have := h.b; grind
def ordI (b : Bool) : List Int := if b then [0, 1] else [1, 0]
theorem two_pieces_eq {n1 n2 : Nat} {st : Sto} {r1 r2 : List (Int × Int)} (T1 : TabAt st n1 r1) (T2 : TabAt st n2 r2) (h1 : RowsOk 8 r1) (h2 : RowsOk 8 r2) : ∃ x, HalfAt r1 (hf r1) x ∧ Sz 280 x ∧ F_two_pieces [.ptr n1, .ptr n2] st = .val .P (.tup [.lst [dF x], .lst ((ordI (decide (wq 0 x r2 < wq x 1 r2))).map .int)]) st := by
  obtain ⟨x, c0, hA, sx⟩ := half_at h1
  obtain ⟨x0, x1⟩ := half_in h1 hA
  have htot := total_eq T1 (by have := h1.2.1; omega)
  have hfr := fun st => fraction_of_eq (t := tot r1) (b := 2) (by decide) (by decide) st
  have nb : ¬ ((0 : Rat) < 0 ∨ (1 : Rat) < 1 ∨ (1 : Rat) < 0) := by decide
  have hcut := cut_pos T1 h1 (x := 0) (y := 1) (m := hf r1) (s := 13) (M := 40) sz0 sz1 (by decide) (hf_sz h1) (by decide) nb (hf_pos h1)
  rw [c0] at hcut
  rw [← cut_last] at hcut
  have hcut : F_Table_cut [.ptr n1, dF 0, dF (hf r1), .non] st = .val .P (dF x) st := hcut
  have na : ¬ ((0 : Rat) < 0 ∨ (1 : Rat) < x ∨ x < 0) := by grind
  have nc : ¬ (x < 0 ∨ (1 : Rat) < 1 ∨ (1 : Rat) < x) := by grind
  have w1 := worth_eq T2 h2 (x := 0) (y := x) (s := 280) sz0 sx (by decide) (by decide)
  have w2 := worth_eq T2 h2 (x := x) (y := 1) (s := 280) sx sz1 (by decide) (by decide)
  rw [if_neg na] at w1
  rw [if_neg nc] at w2
  have z1 := wq_sz2 h2 (sz0 (n := 279)) sx (by decide) (Rat.le_of_lt x0) (Rat.le_of_lt x1)
  have z2 := wq_sz2 h2 sx (sz1 (n := 279)) (Rat.le_of_lt x0) (Rat.le_of_lt x1) (by decide)
  have ll := is_less_eq z1 z2 (by decide) st
  have T1' := T1
  have T2' := T2
  unfold TabAt at T1' T2'
  refine ⟨x, hA, sx, ?_⟩
  have hfe : Rat.divInt (tot r1) 2 = hf r1 := rfl
  rw [hfe] at hfr
  clear T1 T2 hA c0
  unfold ordI
  by_cases c : wq 0 x r2 < wq x 1 r2
  · simp -implicitDefEqProofs [F_two_pieces, g_two_pieces, T1', T2', htot, hfr, hcut, w1, w2, ll, c]
  · simp -implicitDefEqProofs [F_two_pieces, g_two_pieces, T1', T2', htot, hfr, hcut, w1, w2, ll, c]
theorem whole_pieces_eq {n1 n2 : Nat} {st S : Sto} {d : D} (f : F_two_pieces [.ptr n1, .ptr n2] st = .val .P d S) : F_whole_pieces [.lst [.ptr n1, .ptr n2]] st = .val .P d S := by
  simp -implicitDefEqProofs [F_whole_pieces, g_whole_pieces, f, atI, ixN]
section
variable {st : Sto} {x : Rat}
theorem paper_ok {bb : Bool} {A B : D} (x0 : 0 < x) (x1 : x < 1) (sx : Sz 280 x) : F_law_paper [.tup [.lst [dF x], .lst ((ordI bb).map .int)], .lst [A, B]] st = .val .P (.bl true) st := by
  have p1 := law_place_eq (Rat.le_of_lt x0) (Rat.le_of_lt x1) st
  have hw : ∀ (i : Int) (st : Sto), F_law_whole [.int i] st = .val .P (.bl true) st := fun i st => by simp -implicitDefEqProofs [F_law_whole, g_law_whole]
  have l1 := law_less_eq (sz0 (n := 279)) sx (by decide) st
  have l2 := law_less_eq sx (sz1 (n := 279)) (by decide) st
  simp only [x0, x1, decide_true] at l1 l2
  have e2 := eq_self (d := .lst [.int 0, .int 1]) (by simp [pur, purL]) (by simp [dep, depL]) st
  have n2 := ne_of_eq e2
  have hr : rangeD 0 2 = [.int 0, .int 1] := rfl
  have s1 : srt [0, 1] = [0, 1] := (srt_is (.refl _) (by simp)).symm
  have s2 : srt [1, 0] = [0, 1] := (srt_is (.swap _ _ _) (by simp)).symm
  have hc1 : cutG [dF 0, dF x, dF 1] (some 1) none = [dF x, dF 1] := cut_from _ (by decide)
  have kl : kitB "list" "list" = some true := by decide +kernel
  have kt : kitB "tuple" "tuple" = some true := by decide +kernel
  cases bb <;> simp -implicitDefEqProofs [ordI, hc1, kl, kt, F_law_paper, g_law_paper, p1, hw, l1, l2, e2, n2, hr, s1, s2, e_lcC, lcGoC, lcStep, q_ce_law_paper_1, q_ce_law_paper_2, q_ce_law_paper_3, intsOf, zipD, boolsOf]
theorem content_ok {u v : Int} {A B R1 R2 p1 p2 q1 q2 : D} (hu : atI [R1, R2] u = some A) (hv : atI [R1, R2] v = some B)
    (w1 : F_law_worth [A, dF 0, dF x] st = .val .P p1 st) (w2 : F_law_worth [A, dF x, dF 1] st = .val .P p2 st) (l1 : F_law_less [p1, p1] st = .val .P (.bl false) st) (l2 : F_law_less [p1, p2] st = .val .P (.bl false) st)
    (w3 : F_law_worth [B, dF 0, dF x] st = .val .P q1 st) (w4 : F_law_worth [B, dF x, dF 1] st = .val .P q2 st) (l3 : F_law_less [q2, q1] st = .val .P (.bl false) st) (l4 : F_law_less [q2, q2] st = .val .P (.bl false) st) : F_law_content [.tup [.lst [dF x], .lst [.int u, .int v]], .lst [R1, R2]] st = .val .P (.bl true) st := by
  have hc1 : cutG [dF 0, dF x, dF 1] (some 1) none = [dF x, dF 1] := cut_from _ (by decide)
  have a0 : ∀ a b : D, atI [a, b] 0 = some a := fun _ _ => rfl
  have a1 : ∀ a b : D, atI [a, b] 1 = some b := fun _ _ => rfl
  simp -implicitDefEqProofs [a0, a1, hc1, F_law_content, g_law_content, e_forC, enumD, q_fb_law_content_3, hu, hv, e_lcC, lcGoC, lcStep, q_ce_law_content_1, q_ce_law_content_2, w1, w2, w3, w4, l1, l2, l3, l4, zipD, boolsOf]
end
theorem two_worths {rows : List (Int × Int)} (hr : RowsOk 8 rows) {x : Rat} (sx : Sz 280 x) (st : Sto) : ∃ p1 p2, F_law_worth [.lst (rows.map dRow), dF 0, dF x] st = .val .P p1 st ∧ F_law_worth [.lst (rows.map dRow), dF x, dF 1] st = .val .P p2 st ∧ F_law_less [p1, p1] st = .val .P (.bl false) st ∧ F_law_less [p2, p2] st = .val .P (.bl false) st ∧
    F_law_less [p1, p2] st = .val .P (.bl (decide (wq 0 x rows < wq x 1 rows))) st ∧ F_law_less [p2, p1] st = .val .P (.bl (decide (wq x 1 rows < wq 0 x rows))) st := by
  obtain ⟨t1, b1, f1, a1, c1, d1, e1⟩ := worthG_eq hr (s := 280) (by decide) (sz0 (n := 279)) sx st
  obtain ⟨t2, b2, f2, a2, c2, d2, e2⟩ := worthG_eq hr (s := 280) (by decide) sx (sz1 (n := 279)) st
  have l11 := law_less_P a1 a1 d1 e1 d1 e1 (by decide) st
  have l22 := law_less_P a2 a2 d2 e2 d2 e2 (by decide) st
  have l12 := law_less_P a1 a2 d1 e1 d2 e2 (by decide) st
  have l21 := law_less_P a2 a1 d2 e2 d1 e1 (by decide) st
  rw [div_of a1 c1, div_of a2 c2] at l12 l21
  rw [decide_eq_false (Rat.lt_irrefl)] at l11 l22
  exact ⟨_, _, f1, f2, l11, l22, l12, l21⟩
theorem whole_pieces_eq3 {n : Nat → Nat} {R : Nat → List (Int × Int)} {st : Sto} (T : ∀ h, h < 3 → TabAt st (n h) (R h)) (hR : ∀ h, h < 3 → RowsOk 4 (R h)) {d : D} {S : Sto} (f : F_three_pieces [.lst [.ptr (n 0), .ptr (n 1), .ptr (n 2)]] st = .val .P d S) : F_whole_pieces [.lst [.ptr (n 0), .ptr (n 1), .ptr (n 2)]] st = .val .P d S := by
  have lc : ∀ v0, lcGo (lcStep (tgN 1) (fun E => ER.val Md.P (D.bl true) E.st) ce_whole_pieces_1 [v0, .emp]) ([0, 1, 2].map fun h : Nat => D.ptr (n h)) st = some ([0, 1, 2].map (fun _ : Nat => D.bl false), st) := fun v0 => by
    refine lc_map fun h hh => ?_
    have h3 : h < 3 := by simp at hh; omega
    have t := T h h3
    unfold TabAt at t
    have l4 := (hR h h3).2.1
    have hl : ((R h).map dRow).length ≤ 1000000 := by simp; omega
    have e : F_Table___len__ [.ptr (n h)] st = .val .P (.int (((R h).map dRow).length : Nat)) st := by
      generalize (R h).map dRow = X at *
      simp -implicitDefEqProofs [F_Table___len__, g_Table___len__, t, hl]
    have b63 : ((((R h).map dRow).length : Nat) : Int) < 9223372036854775808 := by simp; omega
    have c : ¬ (4 : Int) < (((R h).map dRow).length : Nat) := by simp; omega
    generalize (((R h).map dRow).length : Nat) = k at *
    generalize (R h).map dRow = X at *
    generalize n h = nh at *
    simp -implicitDefEqProofs [q_ce_whole_pieces_1, dLenX, t, ownF, e, asLen, c, b63]
  have m0 : ([0, 1, 2] : List Nat).map (fun h : Nat => D.ptr (n h)) = [.ptr (n 0), .ptr (n 1), .ptr (n 2)] := rfl
  have m1 : ([0, 1, 2] : List Nat).map (fun _ : Nat => D.bl false) = [.bl false, .bl false, .bl false] := rfl
  rw [m0, m1] at lc
  clear T
  generalize n 0 = n0 at *
  generalize n 1 = n1 at *
  generalize n 2 = n2 at *
  simp -implicitDefEqProofs [F_whole_pieces, g_whole_pieces, lc, f, boolsOf]
theorem wpq_pos {R : Nat → List (Int × Int)} (hR : ∀ h, h < 3 → RowsOk 8 (R h)) {x y : Rat} {o : List Nat} (w : WpQ R x y o) : 0 < x ∧ x < y ∧ y < 1 := by
  have o3 : ∀ o ∈ Tp.ords, ∀ p, p < 3 → o.getD p 0 < 3 := by decide +kernel
  obtain ⟨C, wf⟩ := Tp.wf3 hR
  have ps : ∀ p, p < 3 → 0 < Tp.pw (fun z => wq 0 z (R (o.getD p 0))) x y p := fun p hp => by
    have k := wf _ (o3 o w.ord p hp)
    have hp1 := k.p
    have b0 := w.best p 0 hp (by decide)
    have b1 := w.best p 1 hp (by decide)
    have b2 := w.best p 2 hp (by decide)
    have s : Tp.pw (fun z => wq 0 z (R (o.getD p 0))) x y 0 + Tp.pw (fun z => wq 0 z (R (o.getD p 0))) x y 1 + Tp.pw (fun z => wq 0 z (R (o.getD p 0))) x y 2 = wq 0 1 (R (o.getD p 0)) := by
      unfold Tp.pw; grind
    have hp1' : 0 < wq 0 1 (R (o.getD p 0)) := hp1
    grind
  refine ⟨?_, ?_, ?_⟩
  · have a := ps 0 (by decide)
    have z := (wf _ (o3 o w.ord 0 (by decide))).z
    have x0 := w.x0
    have a' : 0 < wq 0 x (R (o.getD 0 0)) := a
    have z' : wq 0 0 (R (o.getD 0 0)) = 0 := z
    by_cases q : x = 0
    · rw [q, z'] at a'; exact absurd a' Rat.lt_irrefl
    · grind
  · have a := ps 1 (by decide)
    have xy := w.xy
    have a' : 0 < wq 0 y (R (o.getD 1 0)) - wq 0 x (R (o.getD 1 0)) := a
    by_cases q : x = y
    · rw [q] at a'; grind
    · grind
  · have a := ps 2 (by decide)
    have y1 := w.y1
    have a' : 0 < wq 0 1 (R (o.getD 2 0)) - wq 0 y (R (o.getD 2 0)) := a
    by_cases q : y = 1
    · rw [q] at a'; grind
    · grind
def dRows (r : List (Int × Int)) : D := .lst (r.map dRow)
theorem pieces_all3 {n : Nat → Nat} {R : Nat → List (Int × Int)} {st : Sto} (T : ∀ h, h < 3 → TabAt st (n h) (R h)) (hR : ∀ h, h < 3 → RowsOk 4 (R h)) : ∃ x y o, F_whole_pieces [.lst [.ptr (n 0), .ptr (n 1), .ptr (n 2)]] st = .val .P (.tup [.lst [dF x, dF y], .lst (o.map fun h : Nat => .int (h : Int))]) st ∧ WpQ R x y o ∧
    F_law_paper [.tup [.lst [dF x, dF y], .lst (o.map fun h : Nat => .int (h : Int))], .lst [dRows (R 0), dRows (R 1), dRows (R 2)]] st = .val .P (.bl true) st ∧
    F_law_content [.tup [.lst [dF x, dF y], .lst (o.map fun h : Nat => .int (h : Int))], .lst [dRows (R 0), dRows (R 1), dRows (R 2)]] st = .val .P (.bl true) st := by
  have hR8 : ∀ h, h < 3 → RowsOk 8 (R h) := fun h hh => (hR h hh).up (by decide)
  obtain ⟨x, y, o, f, w⟩ := three_pieces_eq T hR8
  obtain ⟨x0, xy, y1⟩ := wpq_pos hR8 w
  refine ⟨x, y, o, whole_pieces_eq3 T hR f, w, ?_⟩
  refine ⟨paper_ok3 w.ord x0 xy y1 w.sx w.sy, ?_⟩
  have o3 : ∀ o ∈ Tp.ords, o = [o.getD 0 0, o.getD 1 0, o.getD 2 0] ∧ ∀ p, p < 3 → o.getD p 0 < 3 := by decide +kernel
  obtain ⟨e3, oh⟩ := o3 o w.ord
  have eD : (o.map fun h : Nat => D.int (h : Int)) = [.int (o.getD 0 0 : Nat), .int (o.getD 1 0 : Nat), .int (o.getD 2 0 : Nat)] := by
    conv => lhs; rw [e3]
    rfl
  rw [eD]
  have hat : ∀ h : Nat, h < 3 → atI [dRows (R 0), dRows (R 1), dRows (R 2)] (h : Int) = some (dRows (R h)) := fun h hh => by
    have : h = 0 ∨ h = 1 ∨ h = 2 := by omega
    rcases this with rfl | rfl | rfl <;> rfl
  have tw : ∀ p, p < 3 → ∃ w : Nat → D, (∀ q, q < 3 → F_law_worth [dRows (R (o.getD p 0)), dF (cutP x y q), dF (cutP x y (q + 1))] st = .val .P (w q) st) ∧ ∀ q, q < 3 → F_law_less [w p, w q] st = .val .P (.bl false) st := fun p hp => by
    obtain ⟨u, a, b⟩ := three_worths (hR8 _ (oh p hp)) w.sx w.sy (Rat.le_of_lt x0) (Rat.le_of_lt xy) (Rat.le_of_lt y1) st
    refine ⟨u, a, fun q hq => ?_⟩
    have l := b p q hp hq
    rw [decide_eq_false (Rat.not_lt.mpr (w.best p q hp hq))] at l
    exact l
  obtain ⟨w0, f0, l0⟩ := tw 0 (by decide)
  obtain ⟨w1, f1, l1⟩ := tw 1 (by decide)
  obtain ⟨w2, f2, l2⟩ := tw 2 (by decide)
  exact content_ok3 (hat _ (oh 0 (by decide))) (hat _ (oh 1 (by decide))) (hat _ (oh 2 (by decide))) f0 l0 f1 l1 f2 l2
theorem pieces_all2 {m1 m2 : Nat} {st : Sto} {q1 q2 : List (Int × Int)} (T1 : TabAt st m1 q1) (T2 : TabAt st m2 q2) (h1 : RowsOk 8 q1) (h2 : RowsOk 8 q2) : ∃ (x : Rat) (bb : Bool), 0 < x ∧ x < 1 ∧ Sz 280 x ∧ wq 0 x q1 = hf q1 ∧ wq x 1 q1 = hf q1 ∧ bb = decide (wq 0 x q2 < wq x 1 q2) ∧ F_whole_pieces [.lst [.ptr m1, .ptr m2]] st = .val .P (.tup [.lst [dF x], .lst ((ordI bb).map .int)]) st ∧
    F_law_paper [.tup [.lst [dF x], .lst ((ordI bb).map .int)], .lst [dRows q1, dRows q2]] st = .val .P (.bl true) st ∧
    F_law_content [.tup [.lst [dF x], .lst ((ordI bb).map .int)], .lst [dRows q1, dRows q2]] st = .val .P (.bl true) st := by
  obtain ⟨x, hA, sx, f⟩ := two_pieces_eq T1 T2 h1 h2
  obtain ⟨x0, x1⟩ := half_in h1 hA
  have e1 : wq 0 x q1 = hf q1 := hA.c
  have e2 : wq x 1 q1 = hf q1 := by
    rw [wq_cw h1 (Rat.le_of_lt x0) (Rat.le_of_lt x1), hA.t, hA.c]; grind
  refine ⟨x, decide (wq 0 x q2 < wq x 1 q2), x0, x1, sx, e1, e2, rfl, whole_pieces_eq f, paper_ok x0 x1 sx, ?_⟩
  obtain ⟨p1, p2, a1, a2, a3, a4, a5, a6⟩ := two_worths h1 sx st
  obtain ⟨r1, r2, b1, b2, b3, b4, b5, b6⟩ := two_worths h2 sx st
  rw [e1, e2, decide_eq_false Rat.lt_irrefl] at a5 a6
  by_cases c : wq 0 x q2 < wq x 1 q2
  · rw [decide_eq_true c]
    have c' : ¬ wq x 1 q2 < wq 0 x q2 := by grind
    rw [decide_eq_false c'] at b6
    exact content_ok (u := 0) (v := 1) rfl rfl a1 a2 a3 a5 b1 b2 b6 b4
  · rw [decide_eq_false c] at b5 ⊢
    exact content_ok (u := 1) (v := 0) rfl rfl b1 b2 b3 b5 a1 a2 a6 a4
mutual
def pub : D → Bool
  | .non | .int _ | .bl _ => true
  | .str x => PyData.strOk x
  | .tup l => pubL l
  | .lst l => pubL l
  | _ => false
def pubL : List D → Bool
  | [] => true
  | d :: l => pub d && pubL l
end
mutual
theorem pub_py : ∀ d, pub d = true → isPy d = true ∧ PyData.canLay0 (py d) = true ∧ PyData.depth (py d) = dep d
  | .non, _ => ⟨rfl, by simp [py, PyData.canLay0], by simp [py, PyData.depth, dep]⟩
  | .int _, _ => ⟨rfl, by simp [py, PyData.canLay0], by simp [py, PyData.depth, dep]⟩
  | .bl _, _ => ⟨rfl, by simp [py, PyData.canLay0], by simp [py, PyData.depth, dep]⟩
  | .str _, h => ⟨rfl, by simpa [py, PyData.canLay0, pub] using h, by simp [py, PyData.depth, dep]⟩
  | .tup l, h => by
    obtain ⟨a, b, c⟩ := pubL_py l (by simpa [pub] using h)
    exact ⟨by simpa [isPy] using a, by simpa [py, PyData.canLay0] using b, by simp [py, PyData.depth, dep, c]⟩
  | .lst l, h => by
    obtain ⟨a, b, c⟩ := pubL_py l (by simpa [pub] using h)
    exact ⟨by simpa [isPy] using a, by simpa [py, PyData.canLay0] using b, by simp [py, PyData.depth, dep, c]⟩
  | .obj _ _, h => by simp [pub] at h
  | .scr _, h => by simp [pub] at h
  | .ptr _, h => by simp [pub] at h
theorem pubL_py : ∀ l, pubL l = true → isPyL l = true ∧ PyData.canLayAll0 (pyL l) = true ∧ PyData.depthAll (pyL l) = depL l
  | [], _ => ⟨rfl, by simp [pyL, PyData.canLayAll0], by simp [pyL, PyData.depthAll, depL]⟩
  | d :: l, h => by
    have h' : pub d = true ∧ pubL l = true := by simpa [pubL] using h
    obtain ⟨a, b, c⟩ := pub_py d h'.1
    obtain ⟨a', b', c'⟩ := pubL_py l h'.2
    exact ⟨by simp [isPyL, a, a'], by simp [pyL, PyData.canLayAll0, b, b'], by simp [pyL, PyData.depthAll, depL, c, c']⟩
end
mutual
theorem eqv_self : ∀ a, pub a = true → PyData.eqv (py a) (py a) = true
  | .non, _ => by simp [py, PyData.eqv]
  | .int _, _ => by simp [py, PyData.eqv]
  | .bl b, _ => by cases b <;> simp [py, PyData.eqv]
  | .str _, _ => by simp [py, PyData.eqv]
  | .tup l, h => by
    have := eqvL_self l (by simpa [pub] using h)
    simpa [py, PyData.eqv] using this
  | .lst l, h => by
    have := eqvL_self l (by simpa [pub] using h)
    simpa [py, PyData.eqv] using this
  | .obj _ _, h => by simp [pub] at h
  | .scr _, h => by simp [pub] at h
  | .ptr _, h => by simp [pub] at h
theorem eqvL_self : ∀ l, pubL l = true → PyData.eqvAll (pyL l) (pyL l) = true
  | [], _ => by simp [pyL, PyData.eqvAll]
  | a :: l, h => by
    have h1 : pub a = true ∧ pubL l = true := by simpa [pubL] using h
    simp only [pyL, PyData.eqvAll, Bool.and_eq_true]
    exact ⟨eqv_self a h1.1, eqvL_self l h1.2⟩
end
theorem eq_selfB {d : D} (hp : pub d = true) (hd : dep d ≤ 64) (st : Sto) : oEq d d st = .val .P (.bl true) st := by
  obtain ⟨a1, a2, a3⟩ := pub_py d hp
  unfold oEq eqAny
  by_cases s : scalD d d = true
  · rw [if_pos s]
    have : eqF d d = true := by cases d <;> simp [scalD, eqF] at s ⊢
    rw [this]
  · rw [if_neg s, if_pos ⟨a1, a1, by simp [SeqAt.shaped, a2, a3, hd], by simp [SeqAt.shaped, a2, a3, hd]⟩, eqv_self d hp]
mutual
theorem pub_of : ∀ d, pur d = true → pub d = true
  | .non, _ => rfl
  | .int _, _ => rfl
  | .str _, h => h
  | .tup l, h => pubL_of l h
  | .lst l, h => pubL_of l h
  | .bl _, h => by simp [pur] at h
  | .obj _ _, h => by simp [pur] at h
  | .scr _, h => by simp [pur] at h
  | .ptr _, h => by simp [pur] at h
theorem pubL_of : ∀ l, purL l = true → pubL l = true
  | [], _ => rfl
  | a :: l, h => by
    have h1 : pur a = true ∧ purL l = true := by simpa [purL] using h
    simp only [pubL, Bool.and_eq_true]
    exact ⟨pub_of a h1.1, pubL_of l h1.2⟩
end
def tab (rows : List (Int × Int)) : Ob := .ins 7 [.lst (rows.map dRow), .lst ((bqs rows).map dF)]
def rNo (w : String) : D := .tup [.non, .lst [.str (Str.ofString w), .bl true, .bl true, .bl false]]
theorem whole_no {L : List D} (h : L.length < 2 ∨ 3 < L.length) (st : Sto) : F_whole_pieces [.lst L] st = .exc 5 [] st := by
  by_cases a : (L.length : Int) < 2
  · simp -implicitDefEqProofs [F_whole_pieces, g_whole_pieces, a]
  · have b : (3 : Int) < (L.length : Int) := by omega
    simp -implicitDefEqProofs [F_whole_pieces, g_whole_pieces, a, b]
theorem answer_no {L : List D} (h : L.length < 2 ∨ 3 < L.length) (st : Sto) : F_law_answer [.lst L] st = .val .P (rNo "NoHands") st := by
  have f := whole_no h st
  unfold rNo
  have s1 : sub_NoHands 5 = some true := rfl
  have s2 : sub_CrumbError 5 = some true := rfl
  have s3 : sub_ValueError 5 = some true := rfl
  have s4 : sub_TooMany 5 = some false := rfl
  simp -implicitDefEqProofs [F_law_answer, g_law_answer, sTryM, f, s1, s2, s3, s4, goM, clrX, clr, dIsE]
theorem answer_many {L : List D} {st : Sto} (f : F_whole_pieces [.lst L] st = .exc 6 [] st) : F_law_answer [.lst L] st = .val .P (rNo "TooMany") st := by
  unfold rNo
  have s1 : sub_NoHands 6 = some false := rfl
  have s2 : sub_CrumbError 6 = some true := rfl
  have s3 : sub_ValueError 6 = some true := rfl
  have s4 : sub_TooMany 6 = some true := rfl
  simp -implicitDefEqProofs [F_law_answer, g_law_answer, sTryM, f, s1, s2, s3, s4, goM, clrX, clr, dIsE]
theorem answer_yes {L : List D} {st S : Sto} {d : D} (f : F_whole_pieces [.lst L] st = .val .P d S) : F_law_answer [.lst L] st = .val .P (.tup [d, .str (Str.ofString "")]) S := by
  simp -implicitDefEqProofs [F_law_answer, g_law_answer, sTryM, f]
theorem whole_many {n : Nat → Nat} {R : Nat → List (Int × Int)} {st : Sto} (T : ∀ h, h < 3 → TabAt st (n h) (R h)) (hR : ∀ h, h < 3 → RowsOk 8 (R h)) {h0 : Nat} (hh : h0 < 3) (hlong : 4 < (R h0).length) : F_whole_pieces [.lst [.ptr (n 0), .ptr (n 1), .ptr (n 2)]] st = .exc 6 [] st := by
  have lc : ∀ v0, lcGo (lcStep (tgN 1) (fun E => ER.val Md.P (D.bl true) E.st) ce_whole_pieces_1 [v0, .emp]) ([0, 1, 2].map fun h : Nat => D.ptr (n h)) st = some ([0, 1, 2].map (fun h : Nat => D.bl (decide (4 < (R h).length))), st) := fun v0 => by
    refine lc_map fun h hh => ?_
    have h3 : h < 3 := by simp at hh; omega
    have t := T h h3
    unfold TabAt at t
    have l4 := (hR h h3).2.1
    have hl : ((R h).map dRow).length ≤ 1000000 := by simp; omega
    have e : F_Table___len__ [.ptr (n h)] st = .val .P (.int (((R h).map dRow).length : Nat)) st := by
      generalize (R h).map dRow = X at *
      simp -implicitDefEqProofs [F_Table___len__, g_Table___len__, t, hl]
    have b63 : ((((R h).map dRow).length : Nat) : Int) < 9223372036854775808 := by simp; omega
    have c : decide (4 < (R h).length) = decide ((4 : Int) < (((R h).map dRow).length : Nat)) := by rw [decide_eq_decide]; simp; omega
    rw [c]
    generalize (((R h).map dRow).length : Nat) = k at *
    generalize (R h).map dRow = X at *
    generalize n h = nh at *
    simp -implicitDefEqProofs [q_ce_whole_pieces_1, dLenX, t, ownF, e, asLen, b63]
  have m0 : ([0, 1, 2] : List Nat).map (fun h : Nat => D.ptr (n h)) = [.ptr (n 0), .ptr (n 1), .ptr (n 2)] := rfl
  have m1 : ([0, 1, 2] : List Nat).map (fun h : Nat => D.bl (decide (4 < (R h).length))) = [.bl (decide (4 < (R 0).length)), .bl (decide (4 < (R 1).length)), .bl (decide (4 < (R 2).length))] := rfl
  rw [m0, m1] at lc
  have an : (decide (4 < (R 0).length) || (decide (4 < (R 1).length) || decide (4 < (R 2).length))) = true := by
    have : h0 = 0 ∨ h0 = 1 ∨ h0 = 2 := by omega
    rcases this with rfl | rfl | rfl <;> simp [hlong]
  clear T
  generalize decide (4 < (R 0).length) = a0 at *
  generalize decide (4 < (R 1).length) = a1 at *
  generalize decide (4 < (R 2).length) = a2 at *
  generalize n 0 = n0 at *
  generalize n 1 = n1 at *
  generalize n 2 = n2 at *
  have bo : boolsOf [.bl a0, .bl a1, .bl a2] = some [a0, a1, a2] := rfl
  have an2 : [a0, a1, a2].any id = true := by simpa using an
  generalize [a0, a1, a2] = bs at *
  generalize [D.bl a0, .bl a1, .bl a2] = bds at *
  simp -implicitDefEqProofs [F_whole_pieces, g_whole_pieces, lc, bo, an2]
theorem tabs_lc {v0 : SL} : ∀ (q : List (List (Int × Int))) (S : Sto), (∀ r ∈ q, RowsOk 8 r) → lcGo (lcStep (tgN 4) (fun E => ER.val Md.P (D.bl true) E.st) ce_law_well_1 [v0, .emp, .emp, .emp, .emp]) (q.map dRows) S = some ((List.range' S.length q.length).map D.ptr, S ++ q.map tab)
  | [], S, _ => by simp [lcGo]
  | r :: q, S, h => by
    have i : F_Table___init__ [.ptr S.length, dRows r] (S ++ [.ins 7 []]) = .val .P .non (S ++ [tab r]) := table_init (h r (by simp)) S
    have ih := tabs_lc (v0 := v0) q (S ++ [tab r]) fun x hx => h x (by simp [hx])
    have s : lcStep (tgN 4) (fun E => ER.val Md.P (D.bl true) E.st) ce_law_well_1 [v0, .emp, .emp, .emp, .emp] (dRows r) S = some (some (.ptr S.length), S ++ [tab r]) := by
      clear ih
      generalize dRows r = X at *
      generalize hS : S ++ [tab r] = S1 at *
      simp -implicitDefEqProofs [lcStep, q_ce_law_well_1, i]
    have l : (S ++ [tab r]).length = S.length + 1 := by simp
    rw [l] at ih
    rw [List.map_cons]
    unfold lcGo
    rw [s]
    simp only [Option.bind_some, ih, Option.toList_some, List.length_cons, List.range'_succ, List.map_cons]
    simp
theorem eq_no (w : String) (hw : PyData.strOk (Str.ofString w) = true) (st : Sto) : oEq (.lst [.str (Str.ofString w), .bl true, .bl true, .bl false]) (.lst [.str (Str.ofString w), .bl true, .bl true, .bl false]) st = .val .P (.bl true) st := eq_selfB (by simp [pub, pubL, hw]) (by simp [dep, depL]) st
theorem well_no {q : List (List (Int × Int))} (hl : q.length ≤ 5) (hn : q.length < 2 ∨ 3 < q.length) (h : ∀ r ∈ q, RowsOk 8 r) (S : Sto) : ∃ S', F_law_well [.lst (q.map dRows)] S = .val .P (.bl true) S' := by
  have lc := fun v0 => tabs_lc (v0 := v0) q S h
  have a := answer_no (L := (List.range' S.length q.length).map D.ptr) (by simpa using hn) (S ++ q.map tab)
  have e := eq_no "NoHands" (by decide +kernel) (S ++ q.map tab)
  refine ⟨S ++ q.map tab, ?_⟩
  have hl1 : (q.map dRows).length ≤ 1000000 := by simp; omega
  have hl2 : (q.map dRows).length = q.length := by simp
  have c : ((q.map dRows).length : Int) < 2 ∨ 3 < ((q.map dRows).length : Int) := by rw [hl2]; omega
  unfold rNo at a
  generalize S ++ q.map tab = S2 at *
  generalize (List.range' S.length q.length).map D.ptr = PL at *
  generalize q.map dRows = QD at *
  rcases c with c | c
  · simp -implicitDefEqProofs [F_law_well, g_law_well, lc, hl1, a, c, e]
  · have c2 : ¬ (QD.length : Int) < 2 := by omega
    simp -implicitDefEqProofs [F_law_well, g_law_well, lc, hl1, a, c, c2, e]
theorem eq_emp (st : Sto) : oEq (.str (Str.ofString "")) (.str (Str.ofString "")) st = .val .P (.bl true) st := eq_self (by decide +kernel) (by decide) st
theorem well_two {r0 r1 : List (Int × Int)} (h0 : RowsOk 8 r0) (h1 : RowsOk 8 r1) (S : Sto) : ∃ S', F_law_well [.lst [dRows r0, dRows r1]] S = .val .P (.bl true) S' := by
  have lc := fun v0 => tabs_lc (v0 := v0) [r0, r1] S (fun r hr => by
    simp only [List.mem_cons, List.not_mem_nil, or_false] at hr
    rcases hr with rfl | rfl
    · exact h0
    · exact h1)
  have T0 : TabAt (S ++ [tab r0, tab r1]) S.length r0 := by unfold TabAt; simp [tab]
  have T1 : TabAt (S ++ [tab r0, tab r1]) (S.length + 1) r1 := by unfold TabAt; simp [tab]
  obtain ⟨x, bb, _, _, _, _, _, _, f, pp, cc⟩ := pieces_all2 T0 T1 h0 h1
  have a := answer_yes f
  have e := eq_emp (S ++ [tab r0, tab r1])
  refine ⟨S ++ [tab r0, tab r1], ?_⟩
  have m0 : [r0, r1].map dRows = [dRows r0, dRows r1] := rfl
  have m1 : [r0, r1].map tab = [tab r0, tab r1] := rfl
  have m2 : (List.range' S.length [r0, r1].length).map D.ptr = [.ptr S.length, .ptr (S.length + 1)] := rfl
  simp only [m0, m1, m2] at lc
  clear T0 T1
  generalize S ++ [tab r0, tab r1] = S2 at *
  generalize (ordI bb).map D.int = oD at *
  generalize dRows r0 = X0 at *
  generalize dRows r1 = X1 at *
  generalize hz : Str.ofString "" = z at *
  simp -implicitDefEqProofs [F_law_well, g_law_well, lc, a, hz, e, pp, cc]
theorem well_three {R : Nat → List (Int × Int)} (hR : ∀ h, h < 3 → RowsOk 8 (R h)) (S : Sto) : ∃ S', F_law_well [.lst [dRows (R 0), dRows (R 1), dRows (R 2)]] S = .val .P (.bl true) S' := by
  have lc := fun v0 => tabs_lc (v0 := v0) [R 0, R 1, R 2] S (fun r hr => by
    simp only [List.mem_cons, List.not_mem_nil, or_false] at hr
    rcases hr with rfl | rfl | rfl
    · exact hR 0 (by decide)
    · exact hR 1 (by decide)
    · exact hR 2 (by decide))
  have T : ∀ h, h < 3 → TabAt (S ++ [tab (R 0), tab (R 1), tab (R 2)]) (S.length + h) (R h) := fun h hh => by
    unfold TabAt
    rw [List.getElem?_append_right (by omega)]
    have : h = 0 ∨ h = 1 ∨ h = 2 := by omega
    rcases this with rfl | rfl | rfl <;> simp [tab]
  have m0 : [R 0, R 1, R 2].map dRows = [dRows (R 0), dRows (R 1), dRows (R 2)] := rfl
  have m1 : [R 0, R 1, R 2].map tab = [tab (R 0), tab (R 1), tab (R 2)] := rfl
  have m2 : (List.range' S.length [R 0, R 1, R 2].length).map D.ptr = [.ptr S.length, .ptr (S.length + 1), .ptr (S.length + 2)] := rfl
  simp only [m0, m1, m2] at lc
  have lm : ∀ v0 v1 v2 v3, lcGo (lcStep (tgN 4) (fun E => ER.val Md.P (D.bl true) E.st) ce_law_well_2 [v0, v1, v2, v3, .emp]) ([0, 1, 2].map fun h : Nat => dRows (R h)) (S ++ [tab (R 0), tab (R 1), tab (R 2)]) = some ([0, 1, 2].map (fun h : Nat => D.int ((R h).length : Int)), S ++ [tab (R 0), tab (R 1), tab (R 2)]) := fun v0 v1 v2 v3 => by
    refine lc_map fun h hh => ?_
    have h3 : h < 3 := by simp at hh; omega
    have hl : ((R h).map dRow).length ≤ 1000000 := by have := (hR h h3).2.1; simp; omega
    have e : (R h).length = ((R h).map dRow).length := by simp
    unfold dRows
    rw [e]
    generalize S ++ [tab (R 0), tab (R 1), tab (R 2)] = S2
    generalize (R h).map dRow = X at *
    simp -implicitDefEqProofs [q_ce_law_well_2, hl]
  have m3 : ([0, 1, 2] : List Nat).map (fun h : Nat => dRows (R h)) = [dRows (R 0), dRows (R 1), dRows (R 2)] := rfl
  have m4 : ([0, 1, 2] : List Nat).map (fun h : Nat => D.int ((R h).length : Int)) = [.int ((R 0).length : Int), .int ((R 1).length : Int), .int ((R 2).length : Int)] := rfl
  simp only [m3, m4] at lm
  have io : intsOf [.int ((R 0).length : Int), .int ((R 1).length : Int), .int ((R 2).length : Int)] = some [((R 0).length : Int), ((R 1).length : Int), ((R 2).length : Int)] := rfl
  obtain ⟨mm1, mm2⟩ := mostI_spec (l := [((R 0).length : Int), ((R 1).length : Int), ((R 2).length : Int)]) (by simp)
  have nn : ([((R 0).length : Int), ((R 1).length : Int), ((R 2).length : Int)] : List Int) ≠ [] := by simp
  generalize hmx : mostI [((R 0).length : Int), ((R 1).length : Int), ((R 2).length : Int)] = mx at *
  have z0 : S.length + 0 = S.length := rfl
  refine ⟨S ++ [tab (R 0), tab (R 1), tab (R 2)], ?_⟩
  by_cases c : 4 < mx
  · have : ∃ h0, h0 < 3 ∧ 4 < (R h0).length := by
      simp only [List.mem_cons, List.not_mem_nil, or_false] at mm1
      rcases mm1 with e | e | e
      · exact ⟨0, by decide, by omega⟩
      · exact ⟨1, by decide, by omega⟩
      · exact ⟨2, by decide, by omega⟩
    obtain ⟨h0, hh, hlong⟩ := this
    have f := whole_many (n := fun h => S.length + h) T hR hh hlong
    have a := answer_many f
    simp only [z0] at a
    have e := eq_no "TooMany" (by decide +kernel) (S ++ [tab (R 0), tab (R 1), tab (R 2)])
    unfold rNo at a
    clear T mm1 mm2 f hR
    generalize S ++ [tab (R 0), tab (R 1), tab (R 2)] = S2 at *
    generalize dRows (R 0) = X0 at *
    generalize dRows (R 1) = X1 at *
    generalize dRows (R 2) = X2 at *
    have ci : (4 : Int) < mx := c
    generalize ((R 0).length : Int) = l0 at *
    generalize ((R 1).length : Int) = l1 at *
    generalize ((R 2).length : Int) = l2 at *
    simp -implicitDefEqProofs [F_law_well, g_law_well, lc, a, lm, io, hmx, ci, e]
  · have hR4 : ∀ h, h < 3 → RowsOk 4 (R h) := fun h hh => by
      have k := hR h hh
      refine ⟨k.1, ?_, k.2.2⟩
      have : h = 0 ∨ h = 1 ∨ h = 2 := by omega
      rcases this with rfl | rfl | rfl
      · have := mm2 ((R 0).length : Int) (by simp); omega
      · have := mm2 ((R 1).length : Int) (by simp); omega
      · have := mm2 ((R 2).length : Int) (by simp); omega
    obtain ⟨x, y, o, f, w, pp, cc⟩ := pieces_all3 (n := fun h => S.length + h) T hR4
    have a := answer_yes f
    simp only [z0] at a
    have e := eq_emp (S ++ [tab (R 0), tab (R 1), tab (R 2)])
    clear T mm1 mm2 f hR hR4 w
    generalize S ++ [tab (R 0), tab (R 1), tab (R 2)] = S2 at *
    generalize dRows (R 0) = X0 at *
    generalize dRows (R 1) = X1 at *
    generalize dRows (R 2) = X2 at *
    generalize ((R 0).length : Int) = l0 at *
    generalize ((R 1).length : Int) = l1 at *
    generalize ((R 2).length : Int) = l2 at *
    generalize (o.map fun h : Nat => D.int (h : Int)) = oD at *
    generalize hz : Str.ofString "" = z at *
    simp -implicitDefEqProofs [F_law_well, g_law_well, lc, a, lm, io, hmx, c, hz, e, pp, cc]
theorem long_rows {r : List (Int × Int)} (h : RowsOk 4 r) {t : Nat} (ht : t < 4) : RowsOk 8 ((r ++ r ++ List.replicate 5 ((1 : Int), (0 : Int))).take (5 + t)) := by
  obtain ⟨h1, h2, h3, h4⟩ := h
  have nn : ∀ x ∈ (r ++ r ++ List.replicate 5 ((1 : Int), (0 : Int))).take (5 + t), RowOk x := fun x hx => by
    have hx := List.mem_of_mem_take hx
    rcases List.mem_append.mp hx with hx | hx
    · rcases List.mem_append.mp hx with hx | hx
      · exact h3 x hx
      · exact h3 x hx
    · obtain ⟨_, rfl⟩ := List.mem_replicate.mp hx
      exact ⟨by decide, by decide, by decide, by decide⟩
  refine ⟨by simp; omega, by simp; omega, nn, ?_⟩
  have e : (r ++ r ++ List.replicate 5 ((1 : Int), (0 : Int))).take (5 + t) = r ++ (r ++ List.replicate 5 ((1 : Int), (0 : Int))).take (5 + t - r.length) := by
    rw [List.append_assoc, List.take_append, List.take_of_length_le (by omega)]
  rw [e] at nn ⊢
  rw [List.map_append, List.sum_append]
  have s0 : 0 ≤ (((r ++ List.replicate 5 ((1 : Int), (0 : Int))).take (5 + t - r.length)).map (·.2)).sum := sum_nonneg fun x hx => (nn x (List.mem_append_right _ hx)).2.2.1
  have s1 : 0 ≤ (r.map (·.2)).sum := sum_nonneg fun x hx => (h3 x hx).2.2.1
  omega
theorem long_ok {N : Nat} {st : Sto} (B : TBox 0 N st) (hN : N ≤ 70000) {s : Int} (hs : s = 0 ∨ s = 1) : ∃ r st' m, F_law_long [.ptr 0, .int s] st = .val m (dRows r) st' ∧ RowsOk 8 r ∧ TBox 0 (N + 30) st' ∧ (m = .P ∨ m = .N) := by
  obtain ⟨r, st1, t1, h1, B1, R1⟩ := stretches_ok (m := 4) B (by omega) (by decide) (by decide)
  have t1 : F_law_stretches [.ptr 0, .int 4] st = .val .N (.lst (r.map dRow)) st1 := t1
  rcases hs with rfl | rfl
  · obtain ⟨t, st2, t2, u0, u1, B2, R2⟩ := take_ok B1 (n := 4) (by decide) (by decide) (by omega)
    obtain ⟨T, rfl⟩ : ∃ T : Nat, t = T := ⟨t.toNat, by omega⟩
    refine ⟨_, st2, .N, ?_, long_rows h1 (t := T) (by omega), B2.up (by omega), .inr rfl⟩
    have ct : cutG (r.map dRow ++ r.map dRow ++ [.tup [.int 1, .int 0], .tup [.int 1, .int 0], .tup [.int 1, .int 0], .tup [.int 1, .int 0], .tup [.int 1, .int 0]]) none (some (5 + (T : Int))) = ((r ++ r ++ List.replicate 5 ((1 : Int), (0 : Int))).take (5 + T)).map dRow := by
      rw [cut_to _ (by omega), show (5 + (T : Int)).toNat = 5 + T by omega, List.map_take]
      congr 1
      simp [List.replicate, dRow]
    rw [List.append_assoc] at ct
    unfold dRows
    have hl : (r.map dRow).length ≤ 100 := by have := h1.2.1; simp; omega
    generalize ((r ++ r ++ List.replicate 5 ((1 : Int), (0 : Int))).take (5 + T)).map dRow = RD at *
    generalize r.map dRow = X at *
    have hl2 : X.length + X.length ≤ 1000000 := by omega
    have hl3 : X.length + X.length + 5 ≤ 1000000 := by omega
    generalize hTT : 5 + (T : Int) = tt at *
    simp -implicitDefEqProofs [F_law_long, g_law_long, t1, t2, hTT, ct, hl2, hl3, partI]
  · refine ⟨r, st1, .P, ?_, h1.up (by decide), B1.up (by omega), .inl rfl⟩
    unfold dRows
    generalize r.map dRow = X at *
    simp -implicitDefEqProofs [F_law_long, g_law_long, t1]
section
variable {v0 v2 v4 : SL}
theorem rows_lc {w : Int} : ∀ (l : List Int) (N : Nat) (st : Sto), TBox 0 N st → N + 30 * l.length ≤ 1000 → ∃ q st', lcGo (lcStep (tgN 5) (fun E => ER.val Md.P (D.bl true) E.st) ce_law_1 [v0, .val (.ptr 0), v2, .val (.int w), v4, .emp]) (l.map D.int) st = some ((q : List (List (Int × Int))).map dRows, st') ∧ q.length = l.length ∧ (∀ r ∈ q, RowsOk 8 r)
  | [], N, st, hB, _ => ⟨[], st, rfl, rfl, by simp⟩
  | k :: l, N, st, hB, hN => by
    rw [List.length_cons] at hN
    have hs : ∀ b : Bool, (if b = true then (1 : Int) else 0) = 0 ∨ (if b = true then (1 : Int) else 0) = 1 := fun b => by cases b <;> simp
    obtain ⟨r, st1, m, t1, h1, B1, hm⟩ := long_ok hB (by omega) (hs (decide (k ≠ w) && decide (w < 7)))
    obtain ⟨q, st2, g, gl, ga⟩ := rows_lc (w := w) l (N + 30) st1 B1 (by omega)
    refine ⟨r :: q, st2, ?_, by simp [gl], fun x hx => ?_⟩
    · have s : lcStep (tgN 5) (fun E => ER.val Md.P (D.bl true) E.st) ce_law_1 [v0, .val (.ptr 0), v2, .val (.int w), v4, .emp] (.int k) st = some (some (dRows r), st1) := by
        clear g
        generalize dRows r = X at *
        by_cases c1 : k = w
        · have e : (if (decide (k ≠ w) && decide (w < 7)) = true then (1 : Int) else 0) = 0 := by simp [c1]
          rw [e] at t1
          rcases hm with rfl | rfl <;> simp -implicitDefEqProofs [lcStep, q_ce_law_1, c1, t1]
        · by_cases c2 : w < 7
          · have e : (if (decide (k ≠ w) && decide (w < 7)) = true then (1 : Int) else 0) = 1 := by simp [c1, c2]
            rw [e] at t1
            rcases hm with rfl | rfl <;> simp -implicitDefEqProofs [lcStep, q_ce_law_1, c1, c2, t1]
          · have e : (if (decide (k ≠ w) && decide (w < 7)) = true then (1 : Int) else 0) = 0 := by simp [c1, c2]
            rw [e] at t1
            rcases hm with rfl | rfl <;> simp -implicitDefEqProofs [lcStep, q_ce_law_1, c1, c2, t1]
      rw [List.map_cons]
      unfold lcGo
      rw [s]
      simp only [Option.bind_some, g, Option.toList_some]
      rfl
    · rcases List.mem_cons.mp hx with rfl | hx
      · exact h1
      · exact ga x hx
end
theorem well_ok {q : List (List (Int × Int))} (hl : q.length ≤ 5) (h : ∀ r ∈ q, RowsOk 8 r) (S : Sto) : ∃ S', F_law_well [.lst (q.map dRows)] S = .val .P (.bl true) S' := by
  by_cases c : q.length < 2 ∨ 3 < q.length
  · exact well_no hl c h S
  · match q, hl, h, c with
    | [a, b], _, h, _ => exact well_two (h a (by simp)) (h b (by simp)) S
    | [a, b, d], _, h, _ => exact well_three (R := fun i => if i = 0 then a else if i = 1 then b else d) (fun i hi => by
        have : i = 0 ∨ i = 1 ∨ i = 2 := by omega
        rcases this with rfl | rfl | rfl
        · exact h a (by simp)
        · exact h b (by simp)
        · exact h d (by simp)) S
    | [], _, _, c => exact absurd (.inl (by decide)) c
    | [a], _, _, c => exact absurd (.inl (by simp)) c
    | _ :: _ :: _ :: _ :: _, _, _, c => exact absurd (.inr (by simp)) c
theorem k3_rows {nI w : Int} {nn : Nat} {v0 : SL} {QD : List D} {st2 st3 : Sto} (h0 : 0 ≤ nI) (h1 : nI < 10) (hn : nI.toNat = nn) (hl : (rangeD 0 nn).length ≤ 1000000) (g : lcGo (lcStep (tgN 5) (fun E => ER.val Md.P (D.bl true) E.st) ce_law_1 [v0, .val (.ptr 0), .val (.int nI), .val (.int w), .emp, .emp]) (rangeD 0 nn) st2 = some (QD, st3)) :
    k_law_3 ⟨[v0, .val (.ptr 0), .val (.int nI), .val (.int w), .emp, .emp], st2⟩ = k_law_4 ⟨[v0, .val (.ptr 0), .val (.int nI), .val (.int w), .val (.lst QD), .emp], st3⟩ := by
  have b1 : -4611686018427387904 ≤ nI := by omega
  have b2 : nI < 4611686018427387904 := by omega
  simp -implicitDefEqProofs [q_k_law_3, b1, b2, hn, hl, g]
theorem law_true (ns : List Int) (hl : ns.length ≤ 63) (_ : ∀ z ∈ ns, Builtin.Int.intBits z ≤ 1048576) : Yes (F_law [.scr ns] []) := by
  have B : TBox 0 0 [.lst [.lst (ns.map .int), .int 0, .int 0, .int 0]] := ⟨ns, 0, 0, 0, rfl, by decide, by decide, by decide, by decide, hl⟩
  generalize hst0 : ([.lst [.lst (ns.map .int), .int 0, .int 0, .int 0]] : Sto) = st0 at B
  obtain ⟨a, st1, t1, a0, a1, B1, _⟩ := take_ok B (n := 8) (by decide) (by decide) (by omega)
  obtain ⟨w, st2, t2, u0, u1, B2, _⟩ := take_ok B1 (n := 8) (by decide) (by decide) (by omega)
  have hm : ∃ n : Nat, n ≤ 5 ∧ atI [D.int 3, .int 3, .int 3, .int 0, .int 1, .int 2, .int 4, .int 5] a = some (.int (n : Int)) := by
    have : a = 0 ∨ a = 1 ∨ a = 2 ∨ a = 3 ∨ a = 4 ∨ a = 5 ∨ a = 6 ∨ a = 7 := by omega
    rcases this with rfl | rfl | rfl | rfl | rfl | rfl | rfl | rfl
    · exact ⟨3, by decide, rfl⟩
    · exact ⟨3, by decide, rfl⟩
    · exact ⟨3, by decide, rfl⟩
    · exact ⟨0, by decide, rfl⟩
    · exact ⟨1, by decide, rfl⟩
    · exact ⟨2, by decide, rfl⟩
    · exact ⟨4, by decide, rfl⟩
    · exact ⟨5, by decide, rfl⟩
  obtain ⟨n, hn, ha⟩ := hm
  obtain ⟨q, st3, g, gl, ga⟩ := rows_lc (v0 := .val (.scr ns)) (v2 := .val (.int (n : Int))) (v4 := .emp) (w := w) ((List.range n).map fun k : Nat => (0 : Int) + (k : Int)) _ st2 B2 (by simp; omega)
  have er : ((List.range n).map fun k : Nat => (0 : Int) + (k : Int)).map D.int = rangeD 0 n := by rw [List.map_map]; rfl
  rw [er] at g
  have ql : q.length = n := by simpa using gl
  obtain ⟨S1, w1⟩ := well_ok (by omega) ga st3
  let A : List (List (Int × Int)) := [[(1, 1)], [(2, 0), (1, 3)]]
  have hA : ∀ r ∈ A, RowsOk 8 r := fun r hr => by
    simp only [A, List.mem_cons, List.not_mem_nil, or_false] at hr
    rcases hr with rfl | rfl
    · refine ⟨by decide, by decide, fun x hx => ?_, by decide⟩
      simp only [List.mem_cons, List.not_mem_nil, or_false] at hx
      subst hx; exact ⟨by decide, by decide, by decide, by decide⟩
    · refine ⟨by decide, by decide, fun x hx => ?_, by decide⟩
      simp only [List.mem_cons, List.not_mem_nil, or_false] at hx
      rcases hx with rfl | rfl
      · exact ⟨by decide, by decide, by decide, by decide⟩
      · exact ⟨by decide, by decide, by decide, by decide⟩
  obtain ⟨S2, w2⟩ := well_ok (q := (q ++ A).take 2) (by simp; omega) (fun r hr => by
    rcases List.mem_append.mp (List.mem_of_mem_take hr) with hr | hr
    · exact ga r hr
    · exact hA r hr) S1
  have ct : cutG (q.map dRows ++ [.lst [.tup [.int 1, .int 1]], .lst [.tup [.int 2, .int 0], .tup [.int 1, .int 3]]]) none (some 2) = ((q ++ A).take 2).map dRows := by
    rw [cut_to _ (by decide), List.map_take, List.map_append]; rfl
  have d1 : D.tup [.int 1, .int 1] = dF 1 := rfl
  rw [d1] at ct
  have hlq : (q.map dRows).length + 2 ≤ 1000000 := by simp; omega
  have rl : (rangeD 0 n).length ≤ 1000000 := by simp [rangeD]; omega
  clear_value A
  generalize ((q ++ A).take 2).map dRows = QD2 at *
  generalize q.map dRows = QD at *
  have hn10 : (n : Int) < 10 := by omega
  have hn0 : 0 ≤ (n : Int) := by omega
  have hnt : (n : Int).toNat = n := by omega
  clear er hA ga gl
  generalize (n : Int) = nI at *
  have f0 : F_law [.scr ns] [] = (k_law_3 ⟨[.val (.scr ns), .val (.ptr 0), .val (.int nI), .val (.int w), .emp, .emp], st2⟩).ret := by
    clear g
    simp -implicitDefEqProofs [F_law, g_law, hst0, q_k_law_1, t1, ha, q_k_law_2, t2]
  rw [f0, k3_rows hn0 hn10 hnt rl g]
  unfold Yes
  simp -implicitDefEqProofs [q_k_law_4, w1, q_k_law_5, hlq, ct, w2]
end Dn
namespace Dn
open PySem PySem.Spec PyProof.Rows L2
def top (i : Nat) : Stmt := PySem.Challenge.pw_halfcrumb_k50_whole_pieces_refused.main.body.getD i (.Pass ⟨0, 0, 0, 0⟩)
def clsStmts : Stmt → List Stmt
  | .ClassDef _ _ _ b _ _ _ _ _ _ _ => b
  | _ => []
def mth (i j : Nat) : Stmt := (clsStmts (top i)).getD j (.Pass ⟨0, 0, 0, 0⟩)
structure Adr where
  f_divisor : Addr
  d_divisor : FuncData
  f_is_less : Addr
  d_is_less : FuncData
  f_piece_row : Addr
  d_piece_row : FuncData
  f_cell_corners : Addr
  d_cell_corners : FuncData
  f_may_hold : Addr
  d_may_hold : FuncData
  f_is_stretch : Addr
  d_is_stretch : FuncData
  f_Table_total : Addr
  d_Table_total : FuncData
  f_Table_ends : Addr
  d_Table_ends : FuncData
  f_Table___len__ : Addr
  d_Table___len__ : FuncData
  f_law_mixed : Addr
  d_law_mixed : FuncData
  f_law_divisor : Addr
  d_law_divisor : FuncData
  f_law_whole : Addr
  d_law_whole : FuncData
  f_law_worth : Addr
  d_law_worth : FuncData
  f_law_less : Addr
  d_law_less : FuncData
  f_fraction_of : Addr
  d_fraction_of : FuncData
  f_lesser : Addr
  d_lesser : FuncData
  f_greater : Addr
  d_greater : FuncData
  f_placed : Addr
  d_placed : FuncData
  f_wishes : Addr
  d_wishes : FuncData
  f_ask_span : Addr
  d_ask_span : FuncData
  f_law_take : Addr
  d_law_take : FuncData
  f_law_fraction : Addr
  d_law_fraction : FuncData
  f_law_content : Addr
  d_law_content : FuncData
  f_plus : Addr
  d_plus : FuncData
  f_minus : Addr
  d_minus : FuncData
  f_times : Addr
  d_times : FuncData
  f_over : Addr
  d_over : FuncData
  f_all_ends : Addr
  d_all_ends : FuncData
  f_bounds_of : Addr
  d_bounds_of : FuncData
  f_law_stretches : Addr
  d_law_stretches : FuncData
  f_law_place : Addr
  d_law_place : FuncData
  f_value_at : Addr
  d_value_at : FuncData
  f_crossing : Addr
  d_crossing : FuncData
  f_place_in : Addr
  d_place_in : FuncData
  f_Table___init__ : Addr
  d_Table___init__ : FuncData
  f_Table_between : Addr
  d_Table_between : FuncData
  f_law_paper : Addr
  d_law_paper : FuncData
  f_law_long : Addr
  d_law_long : FuncData
  f_kept_side : Addr
  d_kept_side : FuncData
  f_Table_worth : Addr
  d_Table_worth : FuncData
  f_Table_cut : Addr
  d_Table_cut : FuncData
  f_sums_up_to : Addr
  d_sums_up_to : FuncData
  f_corner_for : Addr
  d_corner_for : FuncData
  f_two_pieces : Addr
  d_two_pieces : FuncData
  f_three_pieces : Addr
  d_three_pieces : FuncData
  f_whole_pieces : Addr
  d_whole_pieces : FuncData
  f_law_answer : Addr
  d_law_answer : FuncData
  f_law_well : Addr
  d_law_well : FuncData
  f_law : Addr
  d_law : FuncData
  c_CrumbError : Addr
  c_NoFraction : Addr
  c_NoTable : Addr
  c_NoSpan : Addr
  c_NoWorth : Addr
  c_NoHands : Addr
  c_TooMany : Addr
  c_Table : Addr
  a_FIRST : Addr
  a_LAST : Addr
  t_MOST : Tok
  t_MOST_STRETCHES : Tok
  t_MOST_WIDTH : Tok
  t_MOST_WORTH : Tok
  a_NOUGHT : Addr
  a_ONE : Addr
  a_ORDERS : Addr
def caOf (A : Adr) : Nat → Addr
  | 0 => A.c_CrumbError
  | 1 => A.c_NoFraction
  | 2 => A.c_NoTable
  | 3 => A.c_NoSpan
  | 4 => A.c_NoWorth
  | 5 => A.c_NoHands
  | 6 => A.c_TooMany
  | 7 => A.c_Table
  | _ => 0
def fnOf : Nat → List Str
  | 7 => ["kept", "bounds"]
  | _ => []
theorem nf_Table_between : ("between" : Str) ∉ fnOf 7 := by decide +kernel
theorem nf_Table_cut : ("cut" : Str) ∉ fnOf 7 := by decide +kernel
theorem nf_Table_ends : ("ends" : Str) ∉ fnOf 7 := by decide +kernel
theorem nf_Table_total : ("total" : Str) ∉ fnOf 7 := by decide +kernel
theorem nf_Table_worth : ("worth" : Str) ∉ fnOf 7 := by decide +kernel
theorem nd_Table : (fnOf 7).Nodup := by decide +kernel
theorem nl_Table : (fnOf 7).length < 1000 := by decide +kernel
def GG (K : PySem.W.Frag) (A : Adr) : Gm := { K := K, ca := caOf A, fn := fnOf, ea := 0, tb := [] }
abbrev s_divisor : Stmt := top 9
abbrev n_divisor : List Str := ["one", "other"]
abbrev p_divisor : List Str := ["one", "other"]
theorem sc_divisor : FnScope n_divisor p_divisor (defScope s_divisor) := ⟨rfl, rfl, rfl, by decide +kernel, rfl, by decide +kernel, by decide +kernel⟩
abbrev s_is_less : Stmt := top 15
abbrev n_is_less : List Str := ["one", "other"]
abbrev p_is_less : List Str := ["one", "other"]
theorem sc_is_less : FnScope n_is_less p_is_less (defScope s_is_less) := ⟨rfl, rfl, rfl, by decide +kernel, rfl, by decide +kernel, by decide +kernel⟩
abbrev s_piece_row : Stmt := top 27
abbrev n_piece_row : List Str := ["sums", "i", "j", "piece", "first", "second"]
abbrev p_piece_row : List Str := ["sums", "i", "j", "piece"]
theorem sc_piece_row : FnScope n_piece_row p_piece_row (defScope s_piece_row) := ⟨rfl, rfl, rfl, by decide +kernel, rfl, by decide +kernel, by decide +kernel⟩
abbrev s_cell_corners : Stmt := top 32
abbrev n_cell_corners : List Str := ["i", "j"]
abbrev p_cell_corners : List Str := ["i", "j"]
theorem sc_cell_corners : FnScope n_cell_corners p_cell_corners (defScope s_cell_corners) := ⟨rfl, rfl, rfl, by decide +kernel, rfl, by decide +kernel, by decide +kernel⟩
abbrev s_may_hold : Stmt := top 33
abbrev n_may_hold : List Str := ["row", "i", "j", "a", "b", "c"]
abbrev p_may_hold : List Str := ["row", "i", "j"]
theorem sc_may_hold : FnScope n_may_hold p_may_hold (defScope s_may_hold) := ⟨rfl, rfl, rfl, by decide +kernel, rfl, by decide +kernel, by decide +kernel⟩
abbrev s_is_stretch : Stmt := top 45
abbrev n_is_stretch : List Str := ["width", "worth"]
abbrev p_is_stretch : List Str := ["width", "worth"]
theorem sc_is_stretch : FnScope n_is_stretch p_is_stretch (defScope s_is_stretch) := ⟨rfl, rfl, rfl, by decide +kernel, rfl, by decide +kernel, by decide +kernel⟩
abbrev s_Table_total : Stmt := mth 47 2
abbrev n_Table_total : List Str := ["self", "width", "worth"]
abbrev p_Table_total : List Str := ["self"]
theorem sc_Table_total : FnScope n_Table_total p_Table_total (defScope s_Table_total) := ⟨rfl, rfl, rfl, by decide +kernel, rfl, by decide +kernel, by decide +kernel⟩
abbrev s_Table_ends : Stmt := mth 47 3
abbrev n_Table_ends : List Str := ["self"]
abbrev p_Table_ends : List Str := ["self"]
theorem sc_Table_ends : FnScope n_Table_ends p_Table_ends (defScope s_Table_ends) := ⟨rfl, rfl, rfl, by decide +kernel, rfl, by decide +kernel, by decide +kernel⟩
abbrev s_Table___len__ : Stmt := mth 47 7
abbrev n_Table___len__ : List Str := ["self"]
abbrev p_Table___len__ : List Str := ["self"]
theorem sc_Table___len__ : FnScope n_Table___len__ p_Table___len__ (defScope s_Table___len__) := ⟨rfl, rfl, rfl, by decide +kernel, rfl, by decide +kernel, by decide +kernel⟩
abbrev s_law_mixed : Stmt := top 50
abbrev n_law_mixed : List Str := ["_law_cell", "_law_k", "_law_many", "_law_one"]
abbrev p_law_mixed : List Str := ["_law_cell", "_law_k", "_law_many"]
theorem sc_law_mixed : FnScope n_law_mixed p_law_mixed (defScope s_law_mixed) := ⟨rfl, rfl, rfl, by decide +kernel, rfl, by decide +kernel, by decide +kernel⟩
abbrev s_law_divisor : Stmt := top 53
abbrev n_law_divisor : List Str := ["_law_one", "_law_other"]
abbrev p_law_divisor : List Str := ["_law_one", "_law_other"]
theorem sc_law_divisor : FnScope n_law_divisor p_law_divisor (defScope s_law_divisor) := ⟨rfl, rfl, rfl, by decide +kernel, rfl, by decide +kernel, by decide +kernel⟩
abbrev s_law_whole : Stmt := top 54
abbrev n_law_whole : List Str := ["_law_found"]
abbrev p_law_whole : List Str := ["_law_found"]
theorem sc_law_whole : FnScope n_law_whole p_law_whole (defScope s_law_whole) := ⟨rfl, rfl, rfl, by decide +kernel, rfl, by decide +kernel, by decide +kernel⟩
abbrev s_law_worth : Stmt := top 57
abbrev n_law_worth : List Str := ["_law_row", "_law_here", "_law_there", "_law_whole_here", "_law_size", "_law_top", "_law_bottom", "_law_begin", "_law_width", "_law_worth_here", "_law_low", "_law_high"]
abbrev p_law_worth : List Str := ["_law_row", "_law_here", "_law_there"]
theorem sc_law_worth : FnScope n_law_worth p_law_worth (defScope s_law_worth) := ⟨rfl, rfl, rfl, by decide +kernel, rfl, by decide +kernel, by decide +kernel⟩
abbrev s_law_less : Stmt := top 58
abbrev n_law_less : List Str := ["_law_one", "_law_other"]
abbrev p_law_less : List Str := ["_law_one", "_law_other"]
theorem sc_law_less : FnScope n_law_less p_law_less (defScope s_law_less) := ⟨rfl, rfl, rfl, by decide +kernel, rfl, by decide +kernel, by decide +kernel⟩
abbrev s_fraction_of : Stmt := top 10
abbrev n_fraction_of : List Str := ["top", "bottom", "size"]
abbrev p_fraction_of : List Str := ["top", "bottom"]
theorem sc_fraction_of : FnScope n_fraction_of p_fraction_of (defScope s_fraction_of) := ⟨rfl, rfl, rfl, by decide +kernel, rfl, by decide +kernel, by decide +kernel⟩
abbrev s_lesser : Stmt := top 16
abbrev n_lesser : List Str := ["one", "other"]
abbrev p_lesser : List Str := ["one", "other"]
theorem sc_lesser : FnScope n_lesser p_lesser (defScope s_lesser) := ⟨rfl, rfl, rfl, by decide +kernel, rfl, by decide +kernel, by decide +kernel⟩
abbrev s_greater : Stmt := top 17
abbrev n_greater : List Str := ["one", "other"]
abbrev p_greater : List Str := ["one", "other"]
theorem sc_greater : FnScope n_greater p_greater (defScope s_greater) := ⟨rfl, rfl, rfl, by decide +kernel, rfl, by decide +kernel, by decide +kernel⟩
abbrev s_placed : Stmt := top 19
abbrev n_placed : List Str := ["row", "place", "at"]
abbrev p_placed : List Str := ["row", "place"]
theorem sc_placed : FnScope n_placed p_placed (defScope s_placed) := ⟨rfl, rfl, rfl, by decide +kernel, rfl, by decide +kernel, by decide +kernel⟩
abbrev s_wishes : Stmt := top 28
abbrev n_wishes : List Str := ["all_sums", "i", "j", "order", "found", "piece", "hand", "own", "other", "row"]
abbrev p_wishes : List Str := ["all_sums", "i", "j", "order"]
theorem sc_wishes : FnScope n_wishes p_wishes (defScope s_wishes) := ⟨rfl, rfl, rfl, by decide +kernel, rfl, by decide +kernel, by decide +kernel⟩
abbrev s_ask_span : Stmt := top 46
abbrev n_ask_span : List Str := ["here", "there"]
abbrev p_ask_span : List Str := ["here", "there"]
theorem sc_ask_span : FnScope n_ask_span p_ask_span (defScope s_ask_span) := ⟨rfl, rfl, rfl, by decide +kernel, rfl, by decide +kernel, by decide +kernel⟩
abbrev s_law_take : Stmt := top 51
abbrev n_law_take : List Str := ["_law_box", "_law_many", "_law_cell", "_law_draw"]
abbrev p_law_take : List Str := ["_law_box", "_law_many"]
theorem sc_law_take : FnScope n_law_take p_law_take (defScope s_law_take) := ⟨rfl, rfl, rfl, by decide +kernel, rfl, by decide +kernel, by decide +kernel⟩
abbrev s_law_fraction : Stmt := top 55
abbrev n_law_fraction : List Str := ["_law_found"]
abbrev p_law_fraction : List Str := ["_law_found"]
theorem sc_law_fraction : FnScope n_law_fraction p_law_fraction (defScope s_law_fraction) := ⟨rfl, rfl, rfl, by decide +kernel, rfl, by decide +kernel, by decide +kernel⟩
abbrev s_law_content : Stmt := top 60
abbrev n_law_content : List Str := ["_law_found", "_law_rows", "_law_places", "_law_cuts", "_law_order", "_law_own", "_law_hand", "_law_worths", "_law_here", "_law_there", "_law_worth_here"]
abbrev p_law_content : List Str := ["_law_found", "_law_rows"]
theorem sc_law_content : FnScope n_law_content p_law_content (defScope s_law_content) := ⟨rfl, rfl, rfl, by decide +kernel, rfl, by decide +kernel, by decide +kernel⟩
abbrev s_plus : Stmt := top 11
abbrev n_plus : List Str := ["one", "other"]
abbrev p_plus : List Str := ["one", "other"]
theorem sc_plus : FnScope n_plus p_plus (defScope s_plus) := ⟨rfl, rfl, rfl, by decide +kernel, rfl, by decide +kernel, by decide +kernel⟩
abbrev s_minus : Stmt := top 12
abbrev n_minus : List Str := ["one", "other"]
abbrev p_minus : List Str := ["one", "other"]
theorem sc_minus : FnScope n_minus p_minus (defScope s_minus) := ⟨rfl, rfl, rfl, by decide +kernel, rfl, by decide +kernel, by decide +kernel⟩
abbrev s_times : Stmt := top 13
abbrev n_times : List Str := ["one", "other"]
abbrev p_times : List Str := ["one", "other"]
theorem sc_times : FnScope n_times p_times (defScope s_times) := ⟨rfl, rfl, rfl, by decide +kernel, rfl, by decide +kernel, by decide +kernel⟩
abbrev s_over : Stmt := top 14
abbrev n_over : List Str := ["one", "other"]
abbrev p_over : List Str := ["one", "other"]
theorem sc_over : FnScope n_over p_over (defScope s_over) := ⟨rfl, rfl, rfl, by decide +kernel, rfl, by decide +kernel, by decide +kernel⟩
abbrev s_all_ends : Stmt := top 20
abbrev n_all_ends : List Str := ["tables", "found", "table", "end"]
abbrev p_all_ends : List Str := ["tables"]
theorem sc_all_ends : FnScope n_all_ends p_all_ends (defScope s_all_ends) := ⟨rfl, rfl, rfl, by decide +kernel, rfl, by decide +kernel, by decide +kernel⟩
abbrev s_bounds_of : Stmt := top 48
abbrev n_bounds_of : List Str := ["stretches", "whole", "found", "done", "width", "worth"]
abbrev p_bounds_of : List Str := ["stretches"]
theorem sc_bounds_of : FnScope n_bounds_of p_bounds_of (defScope s_bounds_of) := ⟨rfl, rfl, rfl, by decide +kernel, rfl, by decide +kernel, by decide +kernel⟩
abbrev s_law_stretches : Stmt := top 52
abbrev n_law_stretches : List Str := ["_law_box", "_law_most", "_law_many", "_law_wide", "_law_much", "_law_row", "_law_k", "_law_worth_here", "_law_at", "_law_width"]
abbrev p_law_stretches : List Str := ["_law_box", "_law_most"]
theorem sc_law_stretches : FnScope n_law_stretches p_law_stretches (defScope s_law_stretches) := ⟨rfl, rfl, rfl, by decide +kernel, rfl, by decide +kernel, by decide +kernel⟩
abbrev s_law_place : Stmt := top 56
abbrev n_law_place : List Str := ["_law_found"]
abbrev p_law_place : List Str := ["_law_found"]
theorem sc_law_place : FnScope n_law_place p_law_place (defScope s_law_place) := ⟨rfl, rfl, rfl, by decide +kernel, rfl, by decide +kernel, by decide +kernel⟩
abbrev s_value_at : Stmt := top 29
abbrev n_value_at : List Str := ["row", "corner"]
abbrev p_value_at : List Str := ["row", "corner"]
theorem sc_value_at : FnScope n_value_at p_value_at (defScope s_value_at) := ⟨rfl, rfl, rfl, by decide +kernel, rfl, by decide +kernel, by decide +kernel⟩
abbrev s_crossing : Stmt := top 30
abbrev n_crossing : List Str := ["one", "other", "gap", "fresh", "part", "u"]
abbrev p_crossing : List Str := ["one", "other", "gap", "fresh"]
theorem sc_crossing : FnScope n_crossing p_crossing (defScope s_crossing) := ⟨rfl, rfl, rfl, by decide +kernel, rfl, by decide +kernel, by decide +kernel⟩
abbrev s_place_in : Stmt := top 35
abbrev n_place_in : List Str := ["ends", "at", "part"]
abbrev p_place_in : List Str := ["ends", "at", "part"]
theorem sc_place_in : FnScope n_place_in p_place_in (defScope s_place_in) := ⟨rfl, rfl, rfl, by decide +kernel, rfl, by decide +kernel, by decide +kernel⟩
abbrev s_Table___init__ : Stmt := mth 47 0
abbrev n_Table___init__ : List Str := ["self", "stretches", "width", "worth"]
abbrev p_Table___init__ : List Str := ["self", "stretches"]
theorem sc_Table___init__ : FnScope n_Table___init__ p_Table___init__ (defScope s_Table___init__) := ⟨rfl, rfl, rfl, by decide +kernel, rfl, by decide +kernel, by decide +kernel⟩
abbrev s_Table_between : Stmt := mth 47 6
abbrev n_Table_between : List Str := ["self", "here", "there", "found", "at", "low", "high", "width", "worth", "whole"]
abbrev p_Table_between : List Str := ["self", "here", "there"]
theorem sc_Table_between : FnScope n_Table_between p_Table_between (defScope s_Table_between) := ⟨rfl, rfl, rfl, by decide +kernel, rfl, by decide +kernel, by decide +kernel⟩
abbrev s_law_paper : Stmt := top 59
abbrev n_law_paper : List Str := ["_law_found", "_law_rows", "_law_places", "_law_cuts", "_law_order", "_law_here", "_law_there", "_law_cut", "_law_hand"]
abbrev p_law_paper : List Str := ["_law_found", "_law_rows"]
theorem sc_law_paper : FnScope n_law_paper p_law_paper (defScope s_law_paper) := ⟨rfl, rfl, rfl, by decide +kernel, rfl, by decide +kernel, by decide +kernel⟩
abbrev s_law_long : Stmt := top 63
abbrev n_law_long : List Str := ["_law_box", "_law_short", "_law_row"]
abbrev p_law_long : List Str := ["_law_box", "_law_short"]
theorem sc_law_long : FnScope n_law_long p_law_long (defScope s_law_long) := ⟨rfl, rfl, rfl, by decide +kernel, rfl, by decide +kernel, by decide +kernel⟩
abbrev s_kept_side : Stmt := top 31
abbrev n_kept_side : List Str := ["corners", "row", "left", "values", "at", "corner"]
abbrev p_kept_side : List Str := ["corners", "row"]
theorem sc_kept_side : FnScope n_kept_side p_kept_side (defScope s_kept_side) := ⟨rfl, rfl, rfl, by decide +kernel, rfl, by decide +kernel, by decide +kernel⟩
abbrev s_Table_worth : Stmt := mth 47 4
abbrev n_Table_worth : List Str := ["self", "here", "there", "found", "low", "high", "worth"]
abbrev p_Table_worth : List Str := ["self", "here", "there"]
theorem sc_Table_worth : FnScope n_Table_worth p_Table_worth (defScope s_Table_worth) := ⟨rfl, rfl, rfl, by decide +kernel, rfl, by decide +kernel, by decide +kernel⟩
abbrev s_Table_cut : Stmt := mth 47 5
abbrev n_Table_cut : List Str := ["self", "here", "much", "last", "low", "high", "worth"]
abbrev p_Table_cut : List Str := ["self", "here", "much", "last"]
theorem sc_Table_cut : FnScope n_Table_cut p_Table_cut (defScope s_Table_cut) := ⟨rfl, rfl, rfl, by decide +kernel, rfl, by decide +kernel, by decide +kernel⟩
abbrev s_sums_up_to : Stmt := top 26
abbrev n_sums_up_to : List Str := ["table", "ends", "sums", "common", "top", "bottom", "end"]
abbrev p_sums_up_to : List Str := ["table", "ends"]
theorem sc_sums_up_to : FnScope n_sums_up_to p_sums_up_to (defScope s_sums_up_to) := ⟨rfl, rfl, rfl, by decide +kernel, rfl, by decide +kernel, by decide +kernel⟩
abbrev s_corner_for : Stmt := top 34
abbrev n_corner_for : List Str := ["all_sums", "i", "j", "order", "rows", "corners", "row"]
abbrev p_corner_for : List Str := ["all_sums", "i", "j", "order"]
theorem sc_corner_for : FnScope n_corner_for p_corner_for (defScope s_corner_for) := ⟨rfl, rfl, rfl, by decide +kernel, rfl, by decide +kernel, by decide +kernel⟩
abbrev s_two_pieces : Stmt := top 37
abbrev n_two_pieces : List Str := ["one", "other", "place"]
abbrev p_two_pieces : List Str := ["one", "other"]
theorem sc_two_pieces : FnScope n_two_pieces p_two_pieces (defScope s_two_pieces) := ⟨rfl, rfl, rfl, by decide +kernel, rfl, by decide +kernel, by decide +kernel⟩
abbrev s_three_pieces : Stmt := top 36
abbrev n_three_pieces : List Str := ["tables", "ends", "all_sums", "i", "j", "table", "order", "corner"]
abbrev p_three_pieces : List Str := ["tables"]
theorem sc_three_pieces : FnScope n_three_pieces p_three_pieces (defScope s_three_pieces) := ⟨rfl, rfl, rfl, by decide +kernel, rfl, by decide +kernel, by decide +kernel⟩
abbrev s_whole_pieces : Stmt := top 38
abbrev n_whole_pieces : List Str := ["tables", "table"]
abbrev p_whole_pieces : List Str := ["tables"]
theorem sc_whole_pieces : FnScope n_whole_pieces p_whole_pieces (defScope s_whole_pieces) := ⟨rfl, rfl, rfl, by decide +kernel, rfl, by decide +kernel, by decide +kernel⟩
abbrev s_law_answer : Stmt := top 61
abbrev n_law_answer : List Str := ["_law_tables", "_law_found", "_law_word", "e"]
abbrev p_law_answer : List Str := ["_law_tables"]
theorem sc_law_answer : FnScope n_law_answer p_law_answer (defScope s_law_answer) := ⟨rfl, rfl, rfl, by decide +kernel, rfl, by decide +kernel, by decide +kernel⟩
abbrev s_law_well : Stmt := top 62
abbrev n_law_well : List Str := ["_law_rows", "_law_tables", "_law_found", "_law_word", "_law_row"]
abbrev p_law_well : List Str := ["_law_rows"]
theorem sc_law_well : FnScope n_law_well p_law_well (defScope s_law_well) := ⟨rfl, rfl, rfl, by decide +kernel, rfl, by decide +kernel, by decide +kernel⟩
abbrev s_law : Stmt := top 64
abbrev n_law : List Str := ["_law_script", "_law_box", "_law_many", "_law_which", "_law_rows", "_law_k"]
abbrev p_law : List Str := ["_law_script"]
theorem sc_law : FnScope n_law p_law (defScope s_law) := ⟨rfl, rfl, rfl, by decide +kernel, rfl, by decide +kernel, by decide +kernel⟩
structure Txt (K : PySem.W.Frag) (mg : Str → Option Value) (base : Heap) (A : Adr) : Prop where
  F_divisor : Fun K "divisor" "divisor" s_divisor A.f_divisor A.d_divisor
  b_divisor : Binds K A.d_divisor p_divisor []
  F_is_less : Fun K "is_less" "is_less" s_is_less A.f_is_less A.d_is_less
  b_is_less : Binds K A.d_is_less p_is_less []
  F_piece_row : Fun K "piece_row" "piece_row" s_piece_row A.f_piece_row A.d_piece_row
  b_piece_row : Binds K A.d_piece_row p_piece_row []
  F_cell_corners : Fun K "cell_corners" "cell_corners" s_cell_corners A.f_cell_corners A.d_cell_corners
  b_cell_corners : Binds K A.d_cell_corners p_cell_corners []
  F_may_hold : Fun K "may_hold" "may_hold" s_may_hold A.f_may_hold A.d_may_hold
  b_may_hold : Binds K A.d_may_hold p_may_hold []
  F_is_stretch : Fun K "is_stretch" "is_stretch" s_is_stretch A.f_is_stretch A.d_is_stretch
  b_is_stretch : Binds K A.d_is_stretch p_is_stretch []
  F_Table_total : Fun K "total" "Table.total" s_Table_total A.f_Table_total A.d_Table_total
  b_Table_total : Binds K A.d_Table_total p_Table_total []
  F_Table_ends : Fun K "ends" "Table.ends" s_Table_ends A.f_Table_ends A.d_Table_ends
  b_Table_ends : Binds K A.d_Table_ends p_Table_ends []
  F_Table___len__ : Fun K "__len__" "Table.__len__" s_Table___len__ A.f_Table___len__ A.d_Table___len__
  b_Table___len__ : Binds K A.d_Table___len__ p_Table___len__ []
  F_law_mixed : Fun K "_law_mixed" "_law_mixed" s_law_mixed A.f_law_mixed A.d_law_mixed
  b_law_mixed : Binds K A.d_law_mixed p_law_mixed []
  F_law_divisor : Fun K "_law_divisor" "_law_divisor" s_law_divisor A.f_law_divisor A.d_law_divisor
  b_law_divisor : Binds K A.d_law_divisor p_law_divisor []
  F_law_whole : Fun K "_law_whole" "_law_whole" s_law_whole A.f_law_whole A.d_law_whole
  b_law_whole : Binds K A.d_law_whole p_law_whole []
  F_law_worth : Fun K "_law_worth" "_law_worth" s_law_worth A.f_law_worth A.d_law_worth
  b_law_worth : Binds K A.d_law_worth p_law_worth []
  F_law_less : Fun K "_law_less" "_law_less" s_law_less A.f_law_less A.d_law_less
  b_law_less : Binds K A.d_law_less p_law_less []
  F_fraction_of : FunD K "fraction_of" "fraction_of" (defArgs s_fraction_of) (defBody s_fraction_of) (defScope s_fraction_of) (([(.int 1)] : List D).map toV) [] A.f_fraction_of A.d_fraction_of
  F_lesser : Fun K "lesser" "lesser" s_lesser A.f_lesser A.d_lesser
  b_lesser : Binds K A.d_lesser p_lesser []
  F_greater : Fun K "greater" "greater" s_greater A.f_greater A.d_greater
  b_greater : Binds K A.d_greater p_greater []
  F_placed : Fun K "placed" "placed" s_placed A.f_placed A.d_placed
  b_placed : Binds K A.d_placed p_placed []
  F_wishes : Fun K "wishes" "wishes" s_wishes A.f_wishes A.d_wishes
  b_wishes : Binds K A.d_wishes p_wishes []
  F_ask_span : Fun K "ask_span" "ask_span" s_ask_span A.f_ask_span A.d_ask_span
  b_ask_span : Binds K A.d_ask_span p_ask_span []
  F_law_take : Fun K "_law_take" "_law_take" s_law_take A.f_law_take A.d_law_take
  b_law_take : Binds K A.d_law_take p_law_take []
  F_law_fraction : Fun K "_law_fraction" "_law_fraction" s_law_fraction A.f_law_fraction A.d_law_fraction
  b_law_fraction : Binds K A.d_law_fraction p_law_fraction []
  F_law_content : Fun K "_law_content" "_law_content" s_law_content A.f_law_content A.d_law_content
  b_law_content : Binds K A.d_law_content p_law_content []
  F_plus : Fun K "plus" "plus" s_plus A.f_plus A.d_plus
  b_plus : Binds K A.d_plus p_plus []
  F_minus : Fun K "minus" "minus" s_minus A.f_minus A.d_minus
  b_minus : Binds K A.d_minus p_minus []
  F_times : Fun K "times" "times" s_times A.f_times A.d_times
  b_times : Binds K A.d_times p_times []
  F_over : Fun K "over" "over" s_over A.f_over A.d_over
  b_over : Binds K A.d_over p_over []
  F_all_ends : Fun K "all_ends" "all_ends" s_all_ends A.f_all_ends A.d_all_ends
  b_all_ends : Binds K A.d_all_ends p_all_ends []
  F_bounds_of : Fun K "bounds_of" "bounds_of" s_bounds_of A.f_bounds_of A.d_bounds_of
  b_bounds_of : Binds K A.d_bounds_of p_bounds_of []
  F_law_stretches : Fun K "_law_stretches" "_law_stretches" s_law_stretches A.f_law_stretches A.d_law_stretches
  b_law_stretches : Binds K A.d_law_stretches p_law_stretches []
  F_law_place : Fun K "_law_place" "_law_place" s_law_place A.f_law_place A.d_law_place
  b_law_place : Binds K A.d_law_place p_law_place []
  F_value_at : Fun K "value_at" "value_at" s_value_at A.f_value_at A.d_value_at
  b_value_at : Binds K A.d_value_at p_value_at []
  F_crossing : Fun K "crossing" "crossing" s_crossing A.f_crossing A.d_crossing
  b_crossing : Binds K A.d_crossing p_crossing []
  F_place_in : Fun K "place_in" "place_in" s_place_in A.f_place_in A.d_place_in
  b_place_in : Binds K A.d_place_in p_place_in []
  F_Table___init__ : Fun K "__init__" "Table.__init__" s_Table___init__ A.f_Table___init__ A.d_Table___init__
  b_Table___init__ : Binds K A.d_Table___init__ p_Table___init__ []
  F_Table_between : Fun K "between" "Table.between" s_Table_between A.f_Table_between A.d_Table_between
  b_Table_between : Binds K A.d_Table_between p_Table_between []
  F_law_paper : Fun K "_law_paper" "_law_paper" s_law_paper A.f_law_paper A.d_law_paper
  b_law_paper : Binds K A.d_law_paper p_law_paper []
  F_law_long : Fun K "_law_long" "_law_long" s_law_long A.f_law_long A.d_law_long
  b_law_long : Binds K A.d_law_long p_law_long []
  F_kept_side : Fun K "kept_side" "kept_side" s_kept_side A.f_kept_side A.d_kept_side
  b_kept_side : Binds K A.d_kept_side p_kept_side []
  F_Table_worth : FunD K "worth" "Table.worth" (defArgs s_Table_worth) (defBody s_Table_worth) (defScope s_Table_worth) (([.non, .non] : List D).map toV) [] A.f_Table_worth A.d_Table_worth
  F_Table_cut : FunD K "cut" "Table.cut" (defArgs s_Table_cut) (defBody s_Table_cut) (defScope s_Table_cut) (([.non] : List D).map toV) [] A.f_Table_cut A.d_Table_cut
  F_sums_up_to : Fun K "sums_up_to" "sums_up_to" s_sums_up_to A.f_sums_up_to A.d_sums_up_to
  b_sums_up_to : Binds K A.d_sums_up_to p_sums_up_to []
  F_corner_for : Fun K "corner_for" "corner_for" s_corner_for A.f_corner_for A.d_corner_for
  b_corner_for : Binds K A.d_corner_for p_corner_for []
  F_two_pieces : Fun K "two_pieces" "two_pieces" s_two_pieces A.f_two_pieces A.d_two_pieces
  b_two_pieces : Binds K A.d_two_pieces p_two_pieces []
  F_three_pieces : Fun K "three_pieces" "three_pieces" s_three_pieces A.f_three_pieces A.d_three_pieces
  b_three_pieces : Binds K A.d_three_pieces p_three_pieces []
  F_whole_pieces : Fun K "whole_pieces" "whole_pieces" s_whole_pieces A.f_whole_pieces A.d_whole_pieces
  b_whole_pieces : Binds K A.d_whole_pieces p_whole_pieces []
  F_law_answer : Fun K "_law_answer" "_law_answer" s_law_answer A.f_law_answer A.d_law_answer
  b_law_answer : Binds K A.d_law_answer p_law_answer []
  F_law_well : Fun K "_law_well" "_law_well" s_law_well A.f_law_well A.d_law_well
  b_law_well : Binds K A.d_law_well p_law_well []
  F_law : Fun K "law" "law" s_law A.f_law A.d_law
  b_law : Binds K A.d_law p_law []
  g_law_answer : mg "_law_answer" = some (.ref A.f_law_answer)
  g_law_content : mg "_law_content" = some (.ref A.f_law_content)
  g_law_divisor : mg "_law_divisor" = some (.ref A.f_law_divisor)
  g_law_fraction : mg "_law_fraction" = some (.ref A.f_law_fraction)
  g_law_less : mg "_law_less" = some (.ref A.f_law_less)
  g_law_long : mg "_law_long" = some (.ref A.f_law_long)
  g_law_mixed : mg "_law_mixed" = some (.ref A.f_law_mixed)
  g_law_paper : mg "_law_paper" = some (.ref A.f_law_paper)
  g_law_place : mg "_law_place" = some (.ref A.f_law_place)
  g_law_stretches : mg "_law_stretches" = some (.ref A.f_law_stretches)
  g_law_take : mg "_law_take" = some (.ref A.f_law_take)
  g_law_well : mg "_law_well" = some (.ref A.f_law_well)
  g_law_whole : mg "_law_whole" = some (.ref A.f_law_whole)
  g_law_worth : mg "_law_worth" = some (.ref A.f_law_worth)
  g_all_ends : mg "all_ends" = some (.ref A.f_all_ends)
  g_ask_span : mg "ask_span" = some (.ref A.f_ask_span)
  g_bounds_of : mg "bounds_of" = some (.ref A.f_bounds_of)
  g_cell_corners : mg "cell_corners" = some (.ref A.f_cell_corners)
  g_corner_for : mg "corner_for" = some (.ref A.f_corner_for)
  g_crossing : mg "crossing" = some (.ref A.f_crossing)
  g_divisor : mg "divisor" = some (.ref A.f_divisor)
  g_fraction_of : mg "fraction_of" = some (.ref A.f_fraction_of)
  g_greater : mg "greater" = some (.ref A.f_greater)
  g_is_less : mg "is_less" = some (.ref A.f_is_less)
  g_is_stretch : mg "is_stretch" = some (.ref A.f_is_stretch)
  g_kept_side : mg "kept_side" = some (.ref A.f_kept_side)
  g_law : mg "law" = some (.ref A.f_law)
  g_lesser : mg "lesser" = some (.ref A.f_lesser)
  g_may_hold : mg "may_hold" = some (.ref A.f_may_hold)
  g_minus : mg "minus" = some (.ref A.f_minus)
  g_over : mg "over" = some (.ref A.f_over)
  g_piece_row : mg "piece_row" = some (.ref A.f_piece_row)
  g_place_in : mg "place_in" = some (.ref A.f_place_in)
  g_placed : mg "placed" = some (.ref A.f_placed)
  g_plus : mg "plus" = some (.ref A.f_plus)
  g_sums_up_to : mg "sums_up_to" = some (.ref A.f_sums_up_to)
  g_three_pieces : mg "three_pieces" = some (.ref A.f_three_pieces)
  g_times : mg "times" = some (.ref A.f_times)
  g_two_pieces : mg "two_pieces" = some (.ref A.f_two_pieces)
  g_value_at : mg "value_at" = some (.ref A.f_value_at)
  g_whole_pieces : mg "whole_pieces" = some (.ref A.f_whole_pieces)
  g_wishes : mg "wishes" = some (.ref A.f_wishes)
  cl_Table : Cls K A.c_Table
  mk_Table : Mk K A.c_Table A.f_Table___init__
  mt_Table___len__ : Meth K A.c_Table "__len__" A.f_Table___len__
  mt_Table_between : Meth K A.c_Table "between" A.f_Table_between
  mt_Table_cut : Meth K A.c_Table "cut" A.f_Table_cut
  mt_Table_ends : Meth K A.c_Table "ends" A.f_Table_ends
  mt_Table_total : Meth K A.c_Table "total" A.f_Table_total
  mt_Table_worth : Meth K A.c_Table "worth" A.f_Table_worth
  fo_bounds : FldOk (GG K A) "bounds" ix_bounds
  fo_kept : FldOk (GG K A) "kept" ix_kept
  B_Table___init___2_ : CallB K A.d_Table___init__ p_Table___init__ 2 [] [0, 1] (([] : List D).map toV)
  B_Table_between_3_ : CallB K A.d_Table_between p_Table_between 3 [] [0, 1, 2] (([] : List D).map toV)
  B_Table_cut_3_ : CallB K A.d_Table_cut p_Table_cut 3 [] [0, 1, 2, 3] (([.non] : List D).map toV)
  B_Table_ends_1_ : CallB K A.d_Table_ends p_Table_ends 1 [] [0] (([] : List D).map toV)
  B_Table_total_1_ : CallB K A.d_Table_total p_Table_total 1 [] [0] (([] : List D).map toV)
  B_Table_worth_3_ : CallB K A.d_Table_worth p_Table_worth 3 [] [0, 1, 2] (([.non, .non] : List D).map toV)
  B_fraction_of_2_ : CallB K A.d_fraction_of p_fraction_of 2 [] [0, 1] (([(.int 1)] : List D).map toV)
  z_ValueError : mg "ValueError" = none
  z_abs : mg "abs" = none
  z_all : mg "all" = none
  z_any : mg "any" = none
  z_bool : mg "bool" = none
  z_enumerate : mg "enumerate" = none
  z_int : mg "int" = none
  z_isinstance : mg "isinstance" = none
  z_len : mg "len" = none
  z_list : mg "list" = none
  z_max : mg "max" = none
  z_min : mg "min" = none
  z_range : mg "range" = none
  z_sorted : mg "sorted" = none
  z_sum : mg "sum" = none
  z_tuple : mg "tuple" = none
  z_zip : mg "zip" = none
  m_FIRST : mg "FIRST" = some (.ref A.a_FIRST)
  i_FIRST : ∀ as H, Is (GG K A) as H (.ref A.a_FIRST) (.tup [(.int 0), (.int 1)])
  m_LAST : mg "LAST" = some (.ref A.a_LAST)
  i_LAST : ∀ as H, Is (GG K A) as H (.ref A.a_LAST) (.tup [(.int 1), (.int 1)])
  m_MOST : mg "MOST" = some (.int 4 A.t_MOST)
  m_MOST_STRETCHES : mg "MOST_STRETCHES" = some (.int 8 A.t_MOST_STRETCHES)
  m_MOST_WIDTH : mg "MOST_WIDTH" = some (.int 999 A.t_MOST_WIDTH)
  m_MOST_WORTH : mg "MOST_WORTH" = some (.int 999999999 A.t_MOST_WORTH)
  m_NOUGHT : mg "NOUGHT" = some (.ref A.a_NOUGHT)
  i_NOUGHT : ∀ as H, Is (GG K A) as H (.ref A.a_NOUGHT) (.tup [(.int 0), (.int 1)])
  m_ONE : mg "ONE" = some (.ref A.a_ONE)
  i_ONE : ∀ as H, Is (GG K A) as H (.ref A.a_ONE) (.tup [(.int 1), (.int 1)])
  m_ORDERS : mg "ORDERS" = some (.ref A.a_ORDERS)
  i_ORDERS : ∀ as H, Is (GG K A) as H (.ref A.a_ORDERS) (.tup [(.tup [(.int 0), (.int 1), (.int 2)]), (.tup [(.int 0), (.int 2), (.int 1)]), (.tup [(.int 1), (.int 0), (.int 2)]), (.tup [(.int 1), (.int 2), (.int 0)]), (.tup [(.int 2), (.int 0), (.int 1)]), (.tup [(.int 2), (.int 1), (.int 0)])])
  g_CrumbError : mg "CrumbError" = some (.ref A.c_CrumbError)
  g_NoFraction : mg "NoFraction" = some (.ref A.c_NoFraction)
  g_NoTable : mg "NoTable" = some (.ref A.c_NoTable)
  g_NoSpan : mg "NoSpan" = some (.ref A.c_NoSpan)
  g_NoWorth : mg "NoWorth" = some (.ref A.c_NoWorth)
  g_NoHands : mg "NoHands" = some (.ref A.c_NoHands)
  g_TooMany : mg "TooMany" = some (.ref A.c_TooMany)
  g_Table : mg "Table" = some (.ref A.c_Table)
  x_NoFraction : PySem.W.excIn K A.c_NoFraction [.type "ValueError", .type "Exception", .type "BaseException", .type "object"] "ValueError.__new__" = true
  k_NoFraction : PySem.W.keepIn K (.ref A.c_NoFraction) = true
  sb_NoFraction : PySem.W.subIn K (.ref A.c_NoFraction) (.type "BaseException") = some true
  t_NoFraction : PySem.W.typeIn K (.ref A.c_NoFraction) = some (.type "type")
  x_NoHands : PySem.W.excIn K A.c_NoHands [.type "ValueError", .type "Exception", .type "BaseException", .type "object"] "ValueError.__new__" = true
  k_NoHands : PySem.W.keepIn K (.ref A.c_NoHands) = true
  sb_NoHands : PySem.W.subIn K (.ref A.c_NoHands) (.type "BaseException") = some true
  t_NoHands : PySem.W.typeIn K (.ref A.c_NoHands) = some (.type "type")
  x_NoSpan : PySem.W.excIn K A.c_NoSpan [.type "ValueError", .type "Exception", .type "BaseException", .type "object"] "ValueError.__new__" = true
  k_NoSpan : PySem.W.keepIn K (.ref A.c_NoSpan) = true
  sb_NoSpan : PySem.W.subIn K (.ref A.c_NoSpan) (.type "BaseException") = some true
  t_NoSpan : PySem.W.typeIn K (.ref A.c_NoSpan) = some (.type "type")
  x_NoTable : PySem.W.excIn K A.c_NoTable [.type "ValueError", .type "Exception", .type "BaseException", .type "object"] "ValueError.__new__" = true
  k_NoTable : PySem.W.keepIn K (.ref A.c_NoTable) = true
  sb_NoTable : PySem.W.subIn K (.ref A.c_NoTable) (.type "BaseException") = some true
  t_NoTable : PySem.W.typeIn K (.ref A.c_NoTable) = some (.type "type")
  x_NoWorth : PySem.W.excIn K A.c_NoWorth [.type "ValueError", .type "Exception", .type "BaseException", .type "object"] "ValueError.__new__" = true
  k_NoWorth : PySem.W.keepIn K (.ref A.c_NoWorth) = true
  sb_NoWorth : PySem.W.subIn K (.ref A.c_NoWorth) (.type "BaseException") = some true
  t_NoWorth : PySem.W.typeIn K (.ref A.c_NoWorth) = some (.type "type")
  x_TooMany : PySem.W.excIn K A.c_TooMany [.type "ValueError", .type "Exception", .type "BaseException", .type "object"] "ValueError.__new__" = true
  k_TooMany : PySem.W.keepIn K (.ref A.c_TooMany) = true
  sb_TooMany : PySem.W.subIn K (.ref A.c_TooMany) (.type "BaseException") = some true
  t_TooMany : PySem.W.typeIn K (.ref A.c_TooMany) = some (.type "type")
  ex_NoHands : ∀ c b, sub_NoHands c = some b → PySem.W.exmOne K (.ref ((GG K A).ca c)) (.ref A.c_NoHands) = some b
  ec_NoHands : ∀ c, sub_NoHands c = some true → ExcC K ((GG K A).ca c)
  ex_TooMany : ∀ c b, sub_TooMany c = some b → PySem.W.exmOne K (.ref ((GG K A).ca c)) (.ref A.c_TooMany) = some b
  ec_TooMany : ∀ c, sub_TooMany c = some true → ExcC K ((GG K A).ca c)
  ki_CrumbError : ∀ c b, sub_CrumbError c = some b → PySem.W.kitOne K (.ref ((GG K A).ca c)) (.ref A.c_CrumbError) = some b
  ki_NoHands : ∀ c b, sub_NoHands c = some b → PySem.W.kitOne K (.ref ((GG K A).ca c)) (.ref A.c_NoHands) = some b
  ki_TooMany : ∀ c b, sub_TooMany c = some b → PySem.W.kitOne K (.ref ((GG K A).ca c)) (.ref A.c_TooMany) = some b
  ki_ValueError : ∀ c b, sub_ValueError c = some b → PySem.W.kitOne K (.ref ((GG K A).ca c)) (.type "ValueError") = some b
section
variable {P : Program} {w : World} {K : PySem.W.Frag} {mg : Str → Option Value} {base : Heap} {A : Adr}
theorem ok_divisor (T : Txt K mg base A) : FnOk P w K mg base (L2.CX P w) 1 A.f_divisor A.d_divisor p_divisor (spF (GG K A) F_divisor) :=
  fn_ok (k := 0) rfl rfl T.F_divisor sc_divisor fun cdv Ar outer s H E hr => ⟨_,
    (pss_cons (ps_set (i := 0) sc_divisor.nd rfl (by first | exact Or.inl rfl | exact Or.inr rfl) (pe_callB call_abs (by rfl) T.z_abs (by decide +kernel) (pa_cons (pv 0) pa_nil)))
    (pss_cons (ps_set (i := 1) sc_divisor.nd rfl (by first | exact Or.inl rfl | exact Or.inr rfl) (pe_callB call_abs (by rfl) T.z_abs (by decide +kernel) (pa_cons (pv 1) pa_nil)))
    (pss_cons (ps_while (passes_of rfl) (pt_cmpR op_gt (pv 1) pe_int (nomark _)) (pss_one (ps_par rfl sc_divisor.nd rfl rfl (by decide) rfl rfl (pa_cons (pv 1) (pa_cons (pe_op op_modN (pv 0) (pv 1)) pa_nil)) rfl)))
    (pss_one (ps_ret (pv 0)))))),
    (s_seq (s_setF (v_cb c_abs (a_cons v_var a_nil)))
    (s_seq (s_setF (v_cb c_abs (a_cons v_var a_nil)))
    (s_seq (s_while (t_test (v_op d_gt v_var v_int)) (s_par (a_cons v_var (a_cons (v_op d_mod v_var v_var) a_nil))))
    s_retV)))⟩
theorem ok_is_less (T : Txt K mg base A) : FnOk P w K mg base (L2.CX P w) 1 A.f_is_less A.d_is_less p_is_less (spF (GG K A) F_is_less) :=
  fn_ok (k := 0) rfl rfl T.F_is_less sc_is_less fun cdv Ar outer s H E hr => ⟨_,
    (pss_one (ps_ret (pe_cmpR op_lt (pe_op or_mul (pe_ix ix_seq (pv 0) pe_int (fun _ _ => rfl)) (pe_ix ix_seq (pv 1) pe_int (fun _ _ => rfl))) (pe_op or_mul (pe_ix ix_seq (pv 1) pe_int (fun _ _ => rfl)) (pe_ix ix_seq (pv 0) pe_int (fun _ _ => rfl))) (nomark _)))),
    (s_ret (v_op d_lt (v_op d_mul (v_op d_ix v_var v_int) (v_op d_ix v_var v_int)) (v_op d_mul (v_op d_ix v_var v_int) (v_op d_ix v_var v_int))))⟩
theorem ok_piece_row (T : Txt K mg base A) : FnOk P w K mg base (L2.CX P w) 1 A.f_piece_row A.d_piece_row p_piece_row (spF (GG K A) F_piece_row) :=
  fn_ok (k := 0) rfl rfl T.F_piece_row sc_piece_row fun cdv Ar outer s H E hr => ⟨_,
    (pss_cons (ps_set (i := 4) sc_piece_row.nd rfl (by first | exact Or.inl rfl | exact Or.inr rfl) (pe_op op_sub (pe_ix ix_seq (pv 0) (pe_op or_add (pv 1) pe_int) (fun _ _ => rfl)) (pe_ix ix_seq (pv 0) (pv 1) (fun _ _ => rfl))))
    (pss_cons (ps_set (i := 5) sc_piece_row.nd rfl (by first | exact Or.inl rfl | exact Or.inr rfl) (pe_op op_sub (pe_ix ix_seq (pv 0) (pe_op or_add (pv 2) pe_int) (fun _ _ => rfl)) (pe_ix ix_seq (pv 0) (pv 2) (fun _ _ => rfl))))
    (pss_cons (ps_if (pt_cmpR (or_eq hr.units) (pv 3) pe_int (nomark _)) (pss_one (ps_ret (pe_tup (pa_cons (pe_ix ix_seq (pv 0) (pv 1) (fun _ _ => rfl)) (pa_cons (pv 4) (pa_cons pe_int pa_nil)))))) pss_nil)
    (pss_cons (ps_if (pt_cmpR (or_eq hr.units) (pv 3) pe_int (nomark _)) (pss_one (ps_ret (pe_tup (pa_cons (pe_op op_sub (pe_ix ix_seq (pv 0) (pv 2) (fun _ _ => rfl)) (pe_ix ix_seq (pv 0) (pv 1) (fun _ _ => rfl))) (pa_cons (pe_un un_neg (pv 4)) (pa_cons (pv 5) pa_nil)))))) pss_nil)
    (pss_one (ps_ret (pe_tup (pa_cons (pe_op op_sub (pe_ix ix_seq (pv 0) (pe_un un_neg pe_int) (fun _ _ => rfl)) (pe_ix ix_seq (pv 0) (pv 2) (fun _ _ => rfl))) (pa_cons pe_int (pa_cons (pe_un un_neg (pv 5)) pa_nil)))))))))),
    (s_seq (s_setF (v_op d_sub (v_op d_ix v_var (v_op d_add v_var v_int)) (v_op d_ix v_var v_var)))
    (s_seq (s_setF (v_op d_sub (v_op d_ix v_var (v_op d_add v_var v_int)) (v_op d_ix v_var v_var)))
    (s_seq (s_if (t_test (v_op d_eq v_var v_int)) (s_ret (v_tup (a_cons (v_op d_ix v_var v_var) (a_cons v_var (a_cons v_int a_nil))))) s_skip)
    (s_seq (s_if (t_test (v_op d_eq v_var v_int)) (s_ret (v_tup (a_cons (v_op d_sub (v_op d_ix v_var v_var) (v_op d_ix v_var v_var)) (a_cons (v_un d_neg v_var) (a_cons v_var a_nil))))) s_skip)
    (s_ret (v_tup (a_cons (v_op d_sub (v_op d_ix v_var (v_un d_neg v_int)) (v_op d_ix v_var v_var)) (a_cons v_int (a_cons (v_un d_neg v_var) a_nil)))))))))⟩
theorem ok_cell_corners (T : Txt K mg base A) : FnOk P w K mg base (L2.CX P w) 1 A.f_cell_corners A.d_cell_corners p_cell_corners (spF (GG K A) F_cell_corners) :=
  fn_ok (k := 0) rfl rfl T.F_cell_corners sc_cell_corners fun cdv Ar outer s H E hr => ⟨_,
    (pss_cons (ps_if (pt_cmpR (or_eq hr.units) (pv 0) (pv 1) (nomark _)) (pss_one (ps_ret (pe_lst (pa_cons (pe_tup (pa_cons (pe_glob (v := .ref A.a_NOUGHT) rfl T.m_NOUGHT rfl) (pa_cons (pe_glob (v := .ref A.a_NOUGHT) rfl T.m_NOUGHT rfl) pa_nil))) (pa_cons (pe_tup (pa_cons (pe_glob (v := .ref A.a_NOUGHT) rfl T.m_NOUGHT rfl) (pa_cons (pe_glob (v := .ref A.a_ONE) rfl T.m_ONE rfl) pa_nil))) (pa_cons (pe_tup (pa_cons (pe_glob (v := .ref A.a_ONE) rfl T.m_ONE rfl) (pa_cons (pe_glob (v := .ref A.a_ONE) rfl T.m_ONE rfl) pa_nil))) pa_nil)))))) pss_nil)
    (pss_one (ps_ret (pe_lst (pa_cons (pe_tup (pa_cons (pe_glob (v := .ref A.a_NOUGHT) rfl T.m_NOUGHT rfl) (pa_cons (pe_glob (v := .ref A.a_NOUGHT) rfl T.m_NOUGHT rfl) pa_nil))) (pa_cons (pe_tup (pa_cons (pe_glob (v := .ref A.a_NOUGHT) rfl T.m_NOUGHT rfl) (pa_cons (pe_glob (v := .ref A.a_ONE) rfl T.m_ONE rfl) pa_nil))) (pa_cons (pe_tup (pa_cons (pe_glob (v := .ref A.a_ONE) rfl T.m_ONE rfl) (pa_cons (pe_glob (v := .ref A.a_ONE) rfl T.m_ONE rfl) pa_nil))) (pa_cons (pe_tup (pa_cons (pe_glob (v := .ref A.a_ONE) rfl T.m_ONE rfl) (pa_cons (pe_glob (v := .ref A.a_NOUGHT) rfl T.m_NOUGHT rfl) pa_nil))) pa_nil)))))))),
    (s_seq (s_if (t_test (v_op d_eq v_var v_var)) (s_ret (v_lst (a_cons (v_tup (a_cons (v_const T.i_NOUGHT) (a_cons (v_const T.i_NOUGHT) a_nil))) (a_cons (v_tup (a_cons (v_const T.i_NOUGHT) (a_cons (v_const T.i_ONE) a_nil))) (a_cons (v_tup (a_cons (v_const T.i_ONE) (a_cons (v_const T.i_ONE) a_nil))) a_nil))))) s_skip)
    (s_ret (v_lst (a_cons (v_tup (a_cons (v_const T.i_NOUGHT) (a_cons (v_const T.i_NOUGHT) a_nil))) (a_cons (v_tup (a_cons (v_const T.i_NOUGHT) (a_cons (v_const T.i_ONE) a_nil))) (a_cons (v_tup (a_cons (v_const T.i_ONE) (a_cons (v_const T.i_ONE) a_nil))) (a_cons (v_tup (a_cons (v_const T.i_ONE) (a_cons (v_const T.i_NOUGHT) a_nil))) a_nil)))))))⟩
theorem ok_may_hold (T : Txt K mg base A) : FnOk P w K mg base (L2.CX P w) 1 A.f_may_hold A.d_may_hold p_may_hold (spF (GG K A) F_may_hold) :=
  fn_ok (k := 0) rfl rfl T.F_may_hold sc_may_hold fun cdv Ar outer s H E hr => ⟨_,
    (pss_cons (ps_asg (pv 0) (pg_tl rfl (pgs_cons (pg_name (i := 3) sc_may_hold.nd rfl (by first | exact Or.inl rfl | exact Or.inr rfl)) (pgs_cons (pg_name (i := 4) sc_may_hold.nd rfl (by first | exact Or.inl rfl | exact Or.inr rfl)) (pgs_cons (pg_name (i := 5) sc_may_hold.nd rfl (by first | exact Or.inl rfl | exact Or.inr rfl)) pgs_nil)))))
    (pss_one (ps_ret (pe_or (pe_cmpR op_ge (pe_callB (call_max3 rfl) (by rfl) T.z_max (by decide +kernel) (pa_cons (pv 3) (pa_cons (pe_op or_add (pv 3) (pv 5)) (pa_cons (pe_op or_add (pe_op or_add (pv 3) (pv 4)) (pv 5)) pa_nil)))) pe_int (nomark _)) (pe_one (pe_and (pe_cmpR op_lt (pv 1) (pv 2) (nomark _)) (pe_one (pe_cmpR op_ge (pe_op or_add (pv 3) (pv 4)) pe_int (nomark _))))))))),
    (s_seq (s_asg v_var (g_tl (gs_cons g_name (gs_cons g_name (gs_cons g_name gs_nil)))))
    (s_ret (v_or (v_op d_ge (v_cb c_max3 (a_cons v_var (a_cons (v_op d_add v_var v_var) (a_cons (v_op d_add (v_op d_add v_var v_var) v_var) a_nil)))) v_int) (v_and (v_op d_lt v_var v_var) (v_op d_ge (v_op d_add v_var v_var) v_int)))))⟩
theorem ok_is_stretch (T : Txt K mg base A) : FnOk P w K mg base (L2.CX P w) 1 A.f_is_stretch A.d_is_stretch p_is_stretch (spF (GG K A) F_is_stretch) :=
  fn_ok (k := 0) rfl rfl T.F_is_stretch sc_is_stretch fun cdv Ar outer s H E hr => ⟨_,
    (pss_one (ps_ret (pe_and (pe_chain op_le op_le pe_int (pv 0) (pe_glob (v := .int 999) rfl T.m_MOST_WIDTH ⟨_, rfl⟩)) (pe_one (pe_chain op_le op_le pe_int (pv 1) (pe_glob (v := .int 999999999) rfl T.m_MOST_WORTH ⟨_, rfl⟩)))))),
    (s_ret (v_and (v_chain d_le d_le v_int v_var v_int) (v_chain d_le d_le v_int v_var v_int)))⟩
theorem ok_Table_total (T : Txt K mg base A) : FnOk P w K mg base (L2.CX P w) 1 A.f_Table_total A.d_Table_total p_Table_total (spF (GG K A) F_Table_total) :=
  fn_ok (k := 0) rfl rfl T.F_Table_total sc_Table_total fun cdv Ar outer s H E hr => ⟨_,
    (pss_one (ps_ret (pe_callB (cr_sum rfl) (by rfl) T.z_sum (by decide +kernel) (pa_cons (pe_lc (own := [("width", 1), ("worth", 2)]) rfl sc_Table_total.nd (pi_any (pe_fld (pv 0) rfl)) (blkOk_by (N := n_Table_total) (sc := defScope (s_Table_total)) (by decide +kernel)) (fun _ _ _ _ _ => (pg_tl rfl (pgs_cons (pg_name (i := 1) sc_Table_total.nd rfl (by first | exact Or.inl rfl | exact Or.inr rfl)) (pgs_cons (pg_name (i := 2) sc_Table_total.nd rfl (by first | exact Or.inl rfl | exact Or.inr rfl)) pgs_nil)))) (fun _ _ _ _ _ => pts_nil) (fun _ _ _ _ _ => (pv 2))) pa_nil)))),
    (s_ret (v_cb c_sum (a_cons (v_lc (vs := [1, 2]) (i_any (v_fld T.fo_kept v_var)) (g_tl (gs_cons g_name (gs_cons g_name gs_nil))) (by decide) t_yes v_var) a_nil)))⟩
theorem ok_Table_ends (T : Txt K mg base A) : FnOk P w K mg base (L2.CX P w) 1 A.f_Table_ends A.d_Table_ends p_Table_ends (spF (GG K A) F_Table_ends) :=
  fn_ok (k := 0) rfl rfl T.F_Table_ends sc_Table_ends fun cdv Ar outer s H E hr => ⟨_,
    (pss_one (ps_ret (pe_callTy call_list_of (by rfl) T.z_list (by decide +kernel) (pa_cons (pe_fld (pv 0) rfl) pa_nil)))),
    (s_ret (v_cb c_list (a_cons (v_fld T.fo_bounds v_var) a_nil)))⟩
theorem ok_Table___len__ (T : Txt K mg base A) : FnOk P w K mg base (L2.CX P w) 1 A.f_Table___len__ A.d_Table___len__ p_Table___len__ (spF (GG K A) F_Table___len__) :=
  fn_ok (k := 0) rfl rfl T.F_Table___len__ sc_Table___len__ fun cdv Ar outer s H E hr => ⟨_,
    (pss_one (ps_ret (pe_callB call_len (by rfl) T.z_len (by decide +kernel) (pa_cons (pe_fld (pv 0) rfl) pa_nil)))),
    (s_ret (v_cb c_len (a_cons (v_fld T.fo_kept v_var) a_nil)))⟩
theorem ok_law_mixed (T : Txt K mg base A) : FnOk P w K mg base (L2.CX P w) 1 A.f_law_mixed A.d_law_mixed p_law_mixed (spF (GG K A) F_law_mixed) :=
  fn_ok (k := 0) rfl rfl T.F_law_mixed sc_law_mixed fun cdv Ar outer s H E hr => ⟨_,
    (pss_cons (ps_set (i := 3) sc_law_mixed.nd rfl (by first | exact Or.inl rfl | exact Or.inr rfl) (pe_op op_modN (pe_op op_pow (pe_op or_add (pe_op or_add (pe_op op_modN (pv 0) pe_int) (pe_op or_mul pe_int (pv 1))) pe_int) pe_int) pe_int))
    (pss_one (ps_ret (pe_op op_modN (pe_op op_modN (pe_op or_mul (pe_op op_modN (pe_op or_mul (pv 3) (pe_op or_add pe_int (pv 1))) pe_int) pe_int) pe_int) (pv 2))))),
    (s_seq (s_setF (v_op d_mod (v_op d_pow (v_op d_add (v_op d_add (v_op d_mod v_var v_int) (v_op d_mul v_int v_var)) v_int) v_int) v_int))
    (s_ret (v_op d_mod (v_op d_mod (v_op d_mul (v_op d_mod (v_op d_mul v_var (v_op d_add v_int v_var)) v_int) v_int) v_int) v_var)))⟩
theorem ok_law_divisor (T : Txt K mg base A) : FnOk P w K mg base (L2.CX P w) 1 A.f_law_divisor A.d_law_divisor p_law_divisor (spF (GG K A) F_law_divisor) :=
  fn_ok (k := 0) rfl rfl T.F_law_divisor sc_law_divisor fun cdv Ar outer s H E hr => ⟨_,
    (pss_cons (ps_while (passes_of rfl) (pt_cmpR (or_ne hr.units) (pv 1) pe_int (nomark _)) (pss_one (ps_par rfl sc_law_divisor.nd rfl rfl (by decide) rfl rfl (pa_cons (pv 1) (pa_cons (pe_op op_modN (pv 0) (pv 1)) pa_nil)) rfl)))
    (pss_one (ps_ret (pv 0)))),
    (s_seq (s_while (t_test (v_op d_ne v_var v_int)) (s_par (a_cons v_var (a_cons (v_op d_mod v_var v_var) a_nil))))
    s_retV)⟩
theorem ok_law_whole (T : Txt K mg base A) : FnOk P w K mg base (L2.CX P w) 1 A.f_law_whole A.d_law_whole p_law_whole (spF (GG K A) F_law_whole) :=
  fn_ok (k := 0) rfl rfl T.F_law_whole sc_law_whole fun cdv Ar outer s H E hr => ⟨_,
    (pss_one (ps_ret (pe_and (pe_callB call_isi (by rfl) T.z_isinstance (by decide +kernel) (pa_cons (pv 0) (pa_cons (pe_bltn (v := .ty "int") (by rfl) T.z_int (by decide +kernel) rfl) pa_nil))) (pe_one (pe_not (pe_callB call_isi (by rfl) T.z_isinstance (by decide +kernel) (pa_cons (pv 0) (pa_cons (pe_bltn (v := .ty "bool") (by rfl) T.z_bool (by decide +kernel) rfl) pa_nil)))))))),
    (s_ret (v_and (v_isi v_var) (v_not (v_isi v_var))))⟩
theorem ok_law_worth (T : Txt K mg base A) : FnOk P w K mg base (L2.CX P w) 1 A.f_law_worth A.d_law_worth p_law_worth (spF (GG K A) F_law_worth) :=
  fn_ok (k := 0) rfl rfl T.F_law_worth sc_law_worth fun cdv Ar outer s H E hr => ⟨_,
    (pss_cons (ps_set (i := 3) sc_law_worth.nd rfl (by first | exact Or.inl rfl | exact Or.inr rfl) (pe_callB (cr_sum rfl) (by rfl) T.z_sum (by decide +kernel) (pa_cons (pe_lc (own := [("_law_width", 8), ("_law_worth_here", 9)]) rfl sc_law_worth.nd (pi_any (pv 0)) (blkOk_by (N := n_law_worth) (sc := defScope (s_law_worth)) (by decide +kernel)) (fun _ _ _ _ _ => (pg_tl rfl (pgs_cons (pg_name (i := 8) sc_law_worth.nd rfl (by first | exact Or.inl rfl | exact Or.inr rfl)) (pgs_cons (pg_name (i := 9) sc_law_worth.nd rfl (by first | exact Or.inl rfl | exact Or.inr rfl)) pgs_nil)))) (fun _ _ _ _ _ => pts_nil) (fun _ _ _ _ _ => (pv 8))) pa_nil)))
    (pss_cons (ps_set (i := 4) sc_law_worth.nd rfl (by first | exact Or.inl rfl | exact Or.inr rfl) (pe_op or_mul (pe_ix ix_seq (pv 1) pe_int (fun _ _ => rfl)) (pe_ix ix_seq (pv 2) pe_int (fun _ _ => rfl))))
    (pss_cons (ps_set (i := 5) sc_law_worth.nd rfl (by first | exact Or.inl rfl | exact Or.inr rfl) pe_int)
    (pss_cons (ps_set (i := 6) sc_law_worth.nd rfl (by first | exact Or.inl rfl | exact Or.inr rfl) pe_int)
    (pss_cons (ps_set (i := 7) sc_law_worth.nd rfl (by first | exact Or.inl rfl | exact Or.inr rfl) pe_int)
    (pss_cons (ps_for (passes_of rfl) rfl (pi_any (pv 0)) (pg_tl rfl (pgs_cons (pg_name (i := 8) sc_law_worth.nd rfl (by first | exact Or.inl rfl | exact Or.inr rfl)) (pgs_cons (pg_name (i := 9) sc_law_worth.nd rfl (by first | exact Or.inl rfl | exact Or.inr rfl)) pgs_nil))) (pss_cons (ps_set (i := 10) sc_law_worth.nd rfl (by first | exact Or.inl rfl | exact Or.inr rfl) (pe_callB (call_max2 rfl) (by rfl) T.z_max (by decide +kernel) (pa_cons (pe_op or_mul (pv 7) (pv 4)) (pa_cons (pe_op or_mul (pe_op or_mul (pe_ix ix_seq (pv 1) pe_int (fun _ _ => rfl)) (pe_ix ix_seq (pv 2) pe_int (fun _ _ => rfl))) (pv 3)) pa_nil))))
    (pss_cons (ps_set (i := 11) sc_law_worth.nd rfl (by first | exact Or.inl rfl | exact Or.inr rfl) (pe_callB (call_min2 rfl) (by rfl) T.z_min (by decide +kernel) (pa_cons (pe_op or_mul (pe_op or_add (pv 7) (pv 8)) (pv 4)) (pa_cons (pe_op or_mul (pe_op or_mul (pe_ix ix_seq (pv 2) pe_int (fun _ _ => rfl)) (pe_ix ix_seq (pv 1) pe_int (fun _ _ => rfl))) (pv 3)) pa_nil))))
    (pss_cons (ps_set (i := 5) sc_law_worth.nd rfl (by first | exact Or.inl rfl | exact Or.inr rfl) (pe_op or_add (pe_op or_mul (pv 5) (pv 8)) (pe_op or_mul (pe_op or_mul (pv 9) (pe_callB (call_max2 rfl) (by rfl) T.z_max (by decide +kernel) (pa_cons pe_int (pa_cons (pe_op op_sub (pv 11) (pv 10)) pa_nil)))) (pv 6))))
    (pss_cons (ps_set (i := 6) sc_law_worth.nd rfl (by first | exact Or.inl rfl | exact Or.inr rfl) (pe_op or_mul (pv 6) (pv 8)))
    (pss_one (ps_set (i := 7) sc_law_worth.nd rfl (by first | exact Or.inl rfl | exact Or.inr rfl) (pe_op or_add (pv 7) (pv 8)))))))))
    (pss_one (ps_ret (pe_tup (pa_cons (pv 5) (pa_cons (pe_op or_mul (pv 6) (pv 4)) pa_nil))))))))))),
    (s_seq (s_setF (v_cb c_sum (a_cons (v_lc (vs := [8, 9]) (i_any v_var) (g_tl (gs_cons g_name (gs_cons g_name gs_nil))) (by decide) t_yes v_var) a_nil)))
    (s_seq (s_setF (v_op d_mul (v_op d_ix v_var v_int) (v_op d_ix v_var v_int)))
    (s_seq (s_setF v_int)
    (s_seq (s_setF v_int)
    (s_seq (s_setF v_int)
    (s_seq (s_for (i_any v_var) (g_tl (gs_cons g_name (gs_cons g_name gs_nil))) (s_seq (s_setF (v_cb c_max2 (a_cons (v_op d_mul v_var v_var) (a_cons (v_op d_mul (v_op d_mul (v_op d_ix v_var v_int) (v_op d_ix v_var v_int)) v_var) a_nil))))
    (s_seq (s_setF (v_cb c_min2 (a_cons (v_op d_mul (v_op d_add v_var v_var) v_var) (a_cons (v_op d_mul (v_op d_mul (v_op d_ix v_var v_int) (v_op d_ix v_var v_int)) v_var) a_nil))))
    (s_seq (s_setF (v_op d_add (v_op d_mul v_var v_var) (v_op d_mul (v_op d_mul v_var (v_cb c_max2 (a_cons v_int (a_cons (v_op d_sub v_var v_var) a_nil)))) v_var)))
    (s_seq (s_setF (v_op d_mul v_var v_var))
    (s_setF (v_op d_add v_var v_var)))))))
    (s_ret (v_tup (a_cons v_var (a_cons (v_op d_mul v_var v_var) a_nil))))))))))⟩
theorem ok_law_less (T : Txt K mg base A) : FnOk P w K mg base (L2.CX P w) 1 A.f_law_less A.d_law_less p_law_less (spF (GG K A) F_law_less) :=
  fn_ok (k := 0) rfl rfl T.F_law_less sc_law_less fun cdv Ar outer s H E hr => ⟨_,
    (pss_one (ps_ret (pe_cmpR op_lt (pe_op or_mul (pe_ix ix_seq (pv 0) pe_int (fun _ _ => rfl)) (pe_ix ix_seq (pv 1) pe_int (fun _ _ => rfl))) (pe_op or_mul (pe_ix ix_seq (pv 1) pe_int (fun _ _ => rfl)) (pe_ix ix_seq (pv 0) pe_int (fun _ _ => rfl))) (nomark _)))),
    (s_ret (v_op d_lt (v_op d_mul (v_op d_ix v_var v_int) (v_op d_ix v_var v_int)) (v_op d_mul (v_op d_ix v_var v_int) (v_op d_ix v_var v_int))))⟩
theorem ok_fraction_of (T : Txt K mg base A) : FnOk P w K mg base (L2.CX P w) 2 A.f_fraction_of A.d_fraction_of p_fraction_of (spF (GG K A) F_fraction_of) :=
  fn_okD (k := 1) rfl rfl T.F_fraction_of sc_fraction_of fun cdv Ar outer s H E hr => ⟨_,
    (pss_cons (ps_if (pt_cmpR (or_eq hr.units) (pv 1) pe_int (nomark _)) (pss_one (ps_raise rfl (takes_of rfl rfl rfl rfl) (pmk_own PySem.F.excBase_ValueError T.x_NoFraction T.g_NoFraction T.k_NoFraction (raises_own T.sb_NoFraction T.t_NoFraction) rfl))) pss_nil)
    (pss_cons (ps_set (i := 2) sc_fraction_of.nd rfl (by first | exact Or.inl rfl | exact Or.inr rfl) (pe_callS (ok_divisor T) hr rfl T.g_divisor T.F_divisor.kp T.b_divisor (fun σ => passAt (takes_of rfl rfl rfl rfl) σ) (by exact (pa_cons (pv 0) (pa_cons (pv 1) pa_nil)))))
    (pss_cons (ps_if (pt_cmpR op_lt (pv 1) pe_int (nomark _)) (pss_one (ps_set (i := 2) sc_fraction_of.nd rfl (by first | exact Or.inl rfl | exact Or.inr rfl) (pe_un un_neg (pv 2)))) pss_nil)
    (pss_one (ps_ret (pe_tup (pa_cons (pe_op or_div (pv 0) (pv 2)) (pa_cons (pe_op or_div (pv 1) (pv 2)) pa_nil)))))))),
    (s_seq (s_if (t_test (v_op d_eq v_var v_int)) (s_raise rfl) s_skip)
    (s_seq (s_setF (v_call (a_cons v_var (a_cons v_var a_nil))))
    (s_seq (s_if (t_test (v_op d_lt v_var v_int)) (s_setF (v_un d_neg v_var)) s_skip)
    (s_ret (v_tup (a_cons (v_op d_div v_var v_var) (a_cons (v_op d_div v_var v_var) a_nil)))))))⟩
theorem ok_lesser (T : Txt K mg base A) : FnOk P w K mg base (L2.CX P w) 2 A.f_lesser A.d_lesser p_lesser (spF (GG K A) F_lesser) :=
  fn_ok (k := 1) rfl rfl T.F_lesser sc_lesser fun cdv Ar outer s H E hr => ⟨_,
    (pss_cons (ps_if (pt_val (pe_callS (ok_is_less T) hr rfl T.g_is_less T.F_is_less.kp T.b_is_less (fun σ => passAt (takes_of rfl rfl rfl rfl) σ) (by exact (pa_cons (pv 1) (pa_cons (pv 0) pa_nil))))) (pss_one (ps_ret (pv 1))) pss_nil)
    (pss_one (ps_ret (pv 0)))),
    (s_seq (s_if (t_val (v_call (a_cons v_var (a_cons v_var a_nil)))) s_retV s_skip)
    s_retV)⟩
theorem ok_greater (T : Txt K mg base A) : FnOk P w K mg base (L2.CX P w) 2 A.f_greater A.d_greater p_greater (spF (GG K A) F_greater) :=
  fn_ok (k := 1) rfl rfl T.F_greater sc_greater fun cdv Ar outer s H E hr => ⟨_,
    (pss_cons (ps_if (pt_val (pe_callS (ok_is_less T) hr rfl T.g_is_less T.F_is_less.kp T.b_is_less (fun σ => passAt (takes_of rfl rfl rfl rfl) σ) (by exact (pa_cons (pv 0) (pa_cons (pv 1) pa_nil))))) (pss_one (ps_ret (pv 1))) pss_nil)
    (pss_one (ps_ret (pv 0)))),
    (s_seq (s_if (t_val (v_call (a_cons v_var (a_cons v_var a_nil)))) s_retV s_skip)
    s_retV)⟩
theorem ok_placed (T : Txt K mg base A) : FnOk P w K mg base (L2.CX P w) 2 A.f_placed A.d_placed p_placed (spF (GG K A) F_placed) :=
  fn_ok (k := 1) rfl rfl T.F_placed sc_placed fun cdv Ar outer s H E hr => ⟨_,
    (pss_cons (ps_set (i := 2) sc_placed.nd rfl (by first | exact Or.inl rfl | exact Or.inr rfl) pe_int)
    (pss_cons (ps_while (passes_of rfl) (PW.pt (pw_and (pt_cmpR op_lt (pv 2) (pe_callB call_len (by rfl) T.z_len (by decide +kernel) (pa_cons (pv 0) pa_nil)) (nomark _)) (pw_and1 (pt_val (pe_callS (ok_is_less T) hr rfl T.g_is_less T.F_is_less.kp T.b_is_less (fun σ => passAt (takes_of rfl rfl rfl rfl) σ) (by exact (pa_cons (pe_ix ix_seq (pv 0) (pv 2) (fun _ _ => rfl)) (pa_cons (pv 1) pa_nil)))))))) (pss_one (ps_set (i := 2) sc_placed.nd rfl (by first | exact Or.inl rfl | exact Or.inr rfl) (pe_op or_add (pv 2) pe_int))))
    (pss_cons (ps_if (PW.pt (pw_and (pt_cmpR op_lt (pv 2) (pe_callB call_len (by rfl) T.z_len (by decide +kernel) (pa_cons (pv 0) pa_nil)) (nomark _)) (pw_and1 (pt_cmpR (or_eq hr.units) (pe_ix ix_seq (pv 0) (pv 2) (fun _ _ => rfl)) (pv 1) (nomark _))))) (pss_one (ps_ret (pv 0))) pss_nil)
    (pss_one (ps_ret (pe_op or_add (pe_op or_add (pe_slice sl_any (pv 0) po_none (po_some (pv 2))) (pe_lst (pa_cons (pv 1) pa_nil))) (pe_slice sl_any (pv 0) (po_some (pv 2)) po_none))))))),
    (s_seq (s_setF v_int)
    (s_seq (s_while (t_and (t_test (v_op d_lt v_var (v_cb c_len (a_cons v_var a_nil)))) (t_val (v_call (a_cons (v_op d_ix v_var v_var) (a_cons v_var a_nil))))) (s_setF (v_op d_add v_var v_int)))
    (s_seq (s_if (t_and (t_test (v_op d_lt v_var (v_cb c_len (a_cons v_var a_nil)))) (t_test (v_op d_eq (v_op d_ix v_var v_var) v_var))) s_retV s_skip)
    (s_ret (v_op d_add (v_op d_add (v_sl d_sl v_var o_none (o_some v_var)) (v_lst (a_cons v_var a_nil))) (v_sl d_sl v_var (o_some v_var) o_none))))))⟩
theorem ok_wishes (T : Txt K mg base A) : FnOk P w K mg base (L2.CX P w) 2 A.f_wishes A.d_wishes p_wishes (spF (GG K A) F_wishes) :=
  fn_ok (k := 1) rfl rfl T.F_wishes sc_wishes fun cdv Ar outer s H E hr => ⟨_,
    (pss_cons (ps_set (i := 4) sc_wishes.nd rfl (by first | exact Or.inl rfl | exact Or.inr rfl) (pe_lst pa_nil))
    (pss_cons (ps_for (passes_of rfl) rfl (pi_enumT (by rfl) T.z_enumerate (pa_cons (pv 3) pa_nil)) (pg_tl rfl (pgs_cons (pg_name (i := 5) sc_wishes.nd rfl (by first | exact Or.inl rfl | exact Or.inr rfl)) (pgs_cons (pg_name (i := 6) sc_wishes.nd rfl (by first | exact Or.inl rfl | exact Or.inr rfl)) pgs_nil))) (pss_cons (ps_set (i := 7) sc_wishes.nd rfl (by first | exact Or.inl rfl | exact Or.inr rfl) (pe_callS (ok_piece_row T) hr rfl T.g_piece_row T.F_piece_row.kp T.b_piece_row (fun σ => passAt (takes_of rfl rfl rfl rfl) σ) (by exact (pa_cons (pe_ix ix_seq (pv 0) (pv 6) (fun _ _ => rfl)) (pa_cons (pv 1) (pa_cons (pv 2) (pa_cons (pv 5) pa_nil)))))))
    (pss_one (ps_for (passes_of rfl) rfl (pi_range1 (by rfl) T.z_range (pa_cons pe_int pa_nil)) (pg_name (i := 8) sc_wishes.nd rfl (by first | exact Or.inl rfl | exact Or.inr rfl)) (pss_one (ps_if (pt_cmpR (or_ne hr.units) (pv 8) (pv 5) (nomark _)) (pss_cons (ps_set (i := 9) sc_wishes.nd rfl (by first | exact Or.inl rfl | exact Or.inr rfl) (pe_callS (ok_piece_row T) hr rfl T.g_piece_row T.F_piece_row.kp T.b_piece_row (fun σ => passAt (takes_of rfl rfl rfl rfl) σ) (by exact (pa_cons (pe_ix ix_seq (pv 0) (pv 6) (fun _ _ => rfl)) (pa_cons (pv 1) (pa_cons (pv 2) (pa_cons (pv 8) pa_nil)))))))
    (pss_one (ps_expr (pe_bm PySem.F.plainAttrs_list PySem.F.slot_list_append PySem.F.type_list_append mt_append (pv 4) (pa_cons (pe_tup (pa_cons (pe_op op_sub (pe_ix ix_seq (pv 7) pe_int (fun _ _ => rfl)) (pe_ix ix_seq (pv 9) pe_int (fun _ _ => rfl))) (pa_cons (pe_op op_sub (pe_ix ix_seq (pv 7) pe_int (fun _ _ => rfl)) (pe_ix ix_seq (pv 9) pe_int (fun _ _ => rfl))) (pa_cons (pe_op op_sub (pe_ix ix_seq (pv 7) pe_int (fun _ _ => rfl)) (pe_ix ix_seq (pv 9) pe_int (fun _ _ => rfl))) pa_nil)))) pa_nil))))) pss_nil))))))
    (pss_one (ps_ret (pv 4))))),
    (s_seq (s_set (v_lst a_nil))
    (s_seq (s_for (i_enumT (a_cons v_var a_nil)) (g_tl (gs_cons g_name (gs_cons g_name gs_nil))) (s_seq (s_setF (v_call (a_cons (v_op d_ix v_var v_var) (a_cons v_var (a_cons v_var (a_cons v_var a_nil))))))
    (s_for (i_range1 (a_cons v_int a_nil)) g_name (s_if (t_test (v_op d_ne v_var v_var)) (s_seq (s_setF (v_call (a_cons (v_op d_ix v_var v_var) (a_cons v_var (a_cons v_var (a_cons v_var a_nil))))))
    (s_mt m_append (a_cons (v_tup (a_cons (v_op d_sub (v_op d_ix v_var v_int) (v_op d_ix v_var v_int)) (a_cons (v_op d_sub (v_op d_ix v_var v_int) (v_op d_ix v_var v_int)) (a_cons (v_op d_sub (v_op d_ix v_var v_int) (v_op d_ix v_var v_int)) a_nil)))) a_nil))) s_skip))))
    s_retV))⟩
theorem ok_ask_span (T : Txt K mg base A) : FnOk P w K mg base (L2.CX P w) 2 A.f_ask_span A.d_ask_span p_ask_span (spF (GG K A) F_ask_span) :=
  fn_ok (k := 1) rfl rfl T.F_ask_span sc_ask_span fun cdv Ar outer s H E hr => ⟨_,
    (pss_one (ps_if (PW.pt (pw_or (pt_val (pe_callS (ok_is_less T) hr rfl T.g_is_less T.F_is_less.kp T.b_is_less (fun σ => passAt (takes_of rfl rfl rfl rfl) σ) (by exact (pa_cons (pv 0) (pa_cons (pe_glob (v := .ref A.a_FIRST) rfl T.m_FIRST rfl) pa_nil))))) (pw_or (pt_val (pe_callS (ok_is_less T) hr rfl T.g_is_less T.F_is_less.kp T.b_is_less (fun σ => passAt (takes_of rfl rfl rfl rfl) σ) (by exact (pa_cons (pe_glob (v := .ref A.a_LAST) rfl T.m_LAST rfl) (pa_cons (pv 1) pa_nil))))) (pw_or1 (pt_val (pe_callS (ok_is_less T) hr rfl T.g_is_less T.F_is_less.kp T.b_is_less (fun σ => passAt (takes_of rfl rfl rfl rfl) σ) (by exact (pa_cons (pv 1) (pa_cons (pv 0) pa_nil))))))))) (pss_one (ps_raise rfl (takes_of rfl rfl rfl rfl) (pmk_own PySem.F.excBase_ValueError T.x_NoSpan T.g_NoSpan T.k_NoSpan (raises_own T.sb_NoSpan T.t_NoSpan) rfl))) pss_nil)),
    (s_if (t_or (t_val (v_call (a_cons v_var (a_cons (v_const T.i_FIRST) a_nil)))) (t_or (t_val (v_call (a_cons (v_const T.i_LAST) (a_cons v_var a_nil)))) (t_val (v_call (a_cons v_var (a_cons v_var a_nil)))))) (s_raise rfl) s_skip)⟩
theorem ok_law_take (T : Txt K mg base A) : FnOk P w K mg base (L2.CX P w) 2 A.f_law_take A.d_law_take p_law_take (spF (GG K A) F_law_take) :=
  fn_ok (k := 1) rfl rfl T.F_law_take sc_law_take fun cdv Ar outer s H E hr => ⟨_,
    (pss_cons (ps_asg (pe_op or_add (pe_ix ix_seq (pv 0) pe_int (fun _ _ => rfl)) pe_int) (pg_sub (pv 0) pe_int set_list))
    (pss_cons (ps_set (i := 2) sc_law_take.nd rfl (by first | exact Or.inl rfl | exact Or.inr rfl) pe_int)
    (pss_cons (ps_if (PW.pt (pw_and (pt_cmpR (or_eq hr.units) (pe_ix ix_seq (pv 0) pe_int (fun _ _ => rfl)) pe_int (nomark _)) (pw_and1 (pt_cmpR op_lt (pe_ix ix_seq (pv 0) pe_int (fun _ _ => rfl)) (pe_callB call_len (by rfl) T.z_len (by decide +kernel) (pa_cons (pe_ix ix_seq (pv 0) pe_int (fun _ _ => rfl)) pa_nil)) (nomark _))))) (pss_cons (ps_set (i := 2) sc_law_take.nd rfl (by first | exact Or.inl rfl | exact Or.inr rfl) (pe_ix ix_seq (pe_ix ix_seq (pv 0) pe_int (fun _ _ => rfl)) (pe_ix ix_seq (pv 0) pe_int (fun _ _ => rfl)) (fun _ _ => rfl)))
    (pss_cons (ps_asg (pe_op or_add (pe_ix ix_seq (pv 0) pe_int (fun _ _ => rfl)) pe_int) (pg_sub (pv 0) pe_int set_list))
    (pss_cons (ps_if (pt_cmpR op_lt (pv 2) (pe_op op_pow pe_int pe_int) (nomark _)) (pss_one (ps_ret (pe_callS (ok_law_mixed T) hr rfl T.g_law_mixed T.F_law_mixed.kp T.b_law_mixed (fun σ => passAt (takes_of rfl rfl rfl rfl) σ) (by exact (pa_cons (pv 2) (pa_cons (pe_ix ix_seq (pv 0) pe_int (fun _ _ => rfl)) (pa_cons (pv 1) pa_nil))))))) pss_nil)
    (pss_one (ps_asg (pv 2) (pg_sub (pv 0) pe_int set_list)))))) pss_nil)
    (pss_cons (ps_if (pt_cmpR op_gt (pe_ix ix_seq (pv 0) pe_int (fun _ _ => rfl)) pe_int (nomark _)) (pss_cons (ps_set (i := 3) sc_law_take.nd rfl (by first | exact Or.inl rfl | exact Or.inr rfl) (pe_op op_modN (pe_ix ix_seq (pv 0) pe_int (fun _ _ => rfl)) (pv 1)))
    (pss_cons (ps_asg (pe_op or_div (pe_ix ix_seq (pv 0) pe_int (fun _ _ => rfl)) (pv 1)) (pg_sub (pv 0) pe_int set_list))
    (pss_one (ps_ret (pv 3))))) pss_nil)
    (pss_cons (ps_if (pt_cmpR op_gt (pe_callB call_len (by rfl) T.z_len (by decide +kernel) (pa_cons (pe_ix ix_seq (pv 0) pe_int (fun _ _ => rfl)) pa_nil)) pe_int (nomark _)) (pss_one (ps_set (i := 2) sc_law_take.nd rfl (by first | exact Or.inl rfl | exact Or.inr rfl) (pe_ix ix_seq (pe_ix ix_seq (pv 0) pe_int (fun _ _ => rfl)) (pe_op op_modN (pe_ix ix_seq (pv 0) pe_int (fun _ _ => rfl)) (pe_callB call_len (by rfl) T.z_len (by decide +kernel) (pa_cons (pe_ix ix_seq (pv 0) pe_int (fun _ _ => rfl)) pa_nil))) (fun _ _ => rfl)))) pss_nil)
    (pss_one (ps_ret (pe_callS (ok_law_mixed T) hr rfl T.g_law_mixed T.F_law_mixed.kp T.b_law_mixed (fun σ => passAt (takes_of rfl rfl rfl rfl) σ) (by exact (pa_cons (pv 2) (pa_cons (pe_ix ix_seq (pv 0) pe_int (fun _ _ => rfl)) (pa_cons (pv 1) pa_nil)))))))))))),
    (s_seq (s_setI (v_op d_add (v_op d_ix v_var v_int) v_int) v_int)
    (s_seq (s_setF v_int)
    (s_seq (s_if (t_and (t_test (v_op d_eq (v_op d_ix v_var v_int) v_int)) (t_test (v_op d_lt (v_op d_ix v_var v_int) (v_cb c_len (a_cons (v_op d_ix v_var v_int) a_nil))))) (s_seq (s_setF (v_op d_ix (v_op d_ix v_var v_int) (v_op d_ix v_var v_int)))
    (s_seq (s_setI (v_op d_add (v_op d_ix v_var v_int) v_int) v_int)
    (s_seq (s_if (t_test (v_op d_lt v_var (v_op d_pow v_int v_int))) (s_ret (v_call (a_cons v_var (a_cons (v_op d_ix v_var v_int) (a_cons v_var a_nil))))) s_skip)
    (s_setI v_var v_int)))) s_skip)
    (s_seq (s_if (t_test (v_op d_gt (v_op d_ix v_var v_int) v_int)) (s_seq (s_setF (v_op d_mod (v_op d_ix v_var v_int) v_var))
    (s_seq (s_setI (v_op d_div (v_op d_ix v_var v_int) v_var) v_int)
    s_retV)) s_skip)
    (s_seq (s_if (t_test (v_op d_gt (v_cb c_len (a_cons (v_op d_ix v_var v_int) a_nil)) v_int)) (s_setF (v_op d_ix (v_op d_ix v_var v_int) (v_op d_mod (v_op d_ix v_var v_int) (v_cb c_len (a_cons (v_op d_ix v_var v_int) a_nil))))) s_skip)
    (s_ret (v_call (a_cons v_var (a_cons (v_op d_ix v_var v_int) (a_cons v_var a_nil))))))))))⟩
theorem ok_law_fraction (T : Txt K mg base A) : FnOk P w K mg base (L2.CX P w) 2 A.f_law_fraction A.d_law_fraction p_law_fraction (spF (GG K A) F_law_fraction) :=
  fn_ok (k := 1) rfl rfl T.F_law_fraction sc_law_fraction fun cdv Ar outer s H E hr => ⟨_,
    (pss_cons (ps_if (PW.pt (pw_or (pt_not (pt_val (pe_callB call_isi (by rfl) T.z_isinstance (by decide +kernel) (pa_cons (pv 0) (pa_cons (pe_bltn (v := .ty "tuple") (by rfl) T.z_tuple (by decide +kernel) rfl) pa_nil))))) (pw_or1 (pt_cmpR (or_ne hr.units) (pe_callB call_len (by rfl) T.z_len (by decide +kernel) (pa_cons (pv 0) pa_nil)) pe_int (nomark _))))) (pss_one (ps_ret pe_bl)) pss_nil)
    (pss_cons (ps_if (PW.pt (pw_or (pt_not (pt_val (pe_callS (ok_law_whole T) hr rfl T.g_law_whole T.F_law_whole.kp T.b_law_whole (fun σ => passAt (takes_of rfl rfl rfl rfl) σ) (by exact (pa_cons (pe_ix ix_seq (pv 0) pe_int (fun _ _ => rfl)) pa_nil))))) (pw_or (pt_not (pt_val (pe_callS (ok_law_whole T) hr rfl T.g_law_whole T.F_law_whole.kp T.b_law_whole (fun σ => passAt (takes_of rfl rfl rfl rfl) σ) (by exact (pa_cons (pe_ix ix_seq (pv 0) pe_int (fun _ _ => rfl)) pa_nil))))) (pw_or1 (pt_cmpR op_lt (pe_ix ix_seq (pv 0) pe_int (fun _ _ => rfl)) pe_int (nomark _)))))) (pss_one (ps_ret pe_bl)) pss_nil)
    (pss_one (ps_ret (pe_cmpR (or_eq hr.units) (pe_callS (ok_law_divisor T) hr rfl T.g_law_divisor T.F_law_divisor.kp T.b_law_divisor (fun σ => passAt (takes_of rfl rfl rfl rfl) σ) (by exact (pa_cons (pe_callB call_abs (by rfl) T.z_abs (by decide +kernel) (pa_cons (pe_ix ix_seq (pv 0) pe_int (fun _ _ => rfl)) pa_nil)) (pa_cons (pe_ix ix_seq (pv 0) pe_int (fun _ _ => rfl)) pa_nil)))) pe_int (nomark _)))))),
    (s_seq (s_if (t_or (t_not (t_val (v_isi v_var))) (t_test (v_op d_ne (v_cb c_len (a_cons v_var a_nil)) v_int))) (s_ret v_bl) s_skip)
    (s_seq (s_if (t_or (t_not (t_val (v_call (a_cons (v_op d_ix v_var v_int) a_nil)))) (t_or (t_not (t_val (v_call (a_cons (v_op d_ix v_var v_int) a_nil)))) (t_test (v_op d_lt (v_op d_ix v_var v_int) v_int)))) (s_ret v_bl) s_skip)
    (s_ret (v_op d_eq (v_call (a_cons (v_cb c_abs (a_cons (v_op d_ix v_var v_int) a_nil)) (a_cons (v_op d_ix v_var v_int) a_nil))) v_int))))⟩
theorem ok_law_content (T : Txt K mg base A) : FnOk P w K mg base (L2.CX P w) 2 A.f_law_content A.d_law_content p_law_content (spF (GG K A) F_law_content) :=
  fn_ok (k := 1) rfl rfl T.F_law_content sc_law_content fun cdv Ar outer s H E hr => ⟨_,
    (pss_cons (ps_asg (pv 0) (pg_tl rfl (pgs_cons (pg_name (i := 3) sc_law_content.nd rfl (by first | exact Or.inl rfl | exact Or.inr rfl)) (pgs_cons (pg_name (i := 4) sc_law_content.nd rfl (by first | exact Or.inl rfl | exact Or.inr rfl)) pgs_nil))))
    (pss_cons (ps_set (i := 2) sc_law_content.nd rfl (by first | exact Or.inl rfl | exact Or.inr rfl) (pe_op or_add (pe_op or_add (pe_lst (pa_cons (pe_tup (pa_cons pe_int (pa_cons pe_int pa_nil))) pa_nil)) (pv 3)) (pe_lst (pa_cons (pe_tup (pa_cons pe_int (pa_cons pe_int pa_nil))) pa_nil))))
    (pss_cons (ps_for (passes_of rfl) rfl (pi_enum (by rfl) T.z_enumerate (pa_cons (pv 4) pa_nil)) (pg_tl rfl (pgs_cons (pg_name (i := 5) sc_law_content.nd rfl (by first | exact Or.inl rfl | exact Or.inr rfl)) (pgs_cons (pg_name (i := 6) sc_law_content.nd rfl (by first | exact Or.inl rfl | exact Or.inr rfl)) pgs_nil))) (pss_cons (ps_set (i := 7) sc_law_content.nd rfl (by first | exact Or.inl rfl | exact Or.inr rfl) (pe_lc (own := [("_law_here", 8), ("_law_there", 9)]) rfl sc_law_content.nd (pi_zip (by rfl) T.z_zip (pa_cons (pv 2) (pa_cons (pe_slice sl_any (pv 2) (po_some pe_int) po_none) pa_nil))) (blkOk_by (N := n_law_content) (sc := defScope (s_law_content)) (by decide +kernel)) (fun _ _ _ _ _ => (pg_tl rfl (pgs_cons (pg_name (i := 8) sc_law_content.nd rfl (by first | exact Or.inl rfl | exact Or.inr rfl)) (pgs_cons (pg_name (i := 9) sc_law_content.nd rfl (by first | exact Or.inl rfl | exact Or.inr rfl)) pgs_nil)))) (fun _ _ _ _ _ => pts_nil) (fun _ _ _ _ _ => (pe_callS (ok_law_worth T) hr rfl T.g_law_worth T.F_law_worth.kp T.b_law_worth (fun σ => passAt takes0 σ) (by exact (pa_cons (pe_ix ix_seq (pv 1) (pv 6) (fun _ _ => rfl)) (pa_cons (pv 8) (pa_cons (pv 9) pa_nil))))))))
    (pss_one (ps_if (pt_val (pe_callB (cr_any rfl) (by rfl) T.z_any (by decide +kernel) (pa_cons (pe_lc (own := [("_law_worth_here", 10)]) rfl sc_law_content.nd (pi_any (pv 7)) (blkOk_by (N := n_law_content) (sc := defScope (s_law_content)) (by decide +kernel)) (fun _ _ _ _ _ => (pg_name (i := 10) sc_law_content.nd rfl (by first | exact Or.inl rfl | exact Or.inr rfl))) (fun _ _ _ _ _ => pts_nil) (fun _ _ _ _ _ => (pe_callS (ok_law_less T) hr rfl T.g_law_less T.F_law_less.kp T.b_law_less (fun σ => passAt takes0 σ) (by exact (pa_cons (pe_ix ix_seq (pv 7) (pv 5) (fun _ _ => rfl)) (pa_cons (pv 10) pa_nil)))))) pa_nil))) (pss_one (ps_ret pe_bl)) pss_nil))))
    (pss_one (ps_ret pe_bl))))),
    (s_seq (s_asg v_var (g_tl (gs_cons g_name (gs_cons g_name gs_nil))))
    (s_seq (s_setF (v_op d_add (v_op d_add (v_lst (a_cons (v_tup (a_cons v_int (a_cons v_int a_nil))) a_nil)) v_var) (v_lst (a_cons (v_tup (a_cons v_int (a_cons v_int a_nil))) a_nil))))
    (s_seq (s_for (i_enum (a_cons v_var a_nil)) (g_tl (gs_cons g_name (gs_cons g_name gs_nil))) (s_seq (s_setF (v_lc (vs := [8, 9]) (i_zip (a_cons v_var (a_cons (v_sl d_sl v_var (o_some v_int) o_none) a_nil))) (g_tl (gs_cons g_name (gs_cons g_name gs_nil))) (by decide) t_yes (v_call (a_cons (v_op d_ix v_var v_var) (a_cons v_var (a_cons v_var a_nil))))))
    (s_if (t_val (v_cb c_any (a_cons (v_lc (vs := [10]) (js := [10]) (i_any v_var) g_name (by decide) t_yes (v_call (a_cons (v_op d_ix v_var v_var) (a_cons v_var a_nil)))) a_nil))) (s_ret v_bl) s_skip)))
    (s_ret v_bl))))⟩
theorem ok_plus (T : Txt K mg base A) : FnOk P w K mg base (L2.CX P w) 3 A.f_plus A.d_plus p_plus (spF (GG K A) F_plus) :=
  fn_ok (k := 2) rfl rfl T.F_plus sc_plus fun cdv Ar outer s H E hr => ⟨_,
    (pss_one (ps_ret (by exact (pe_gN (ok_fraction_of T) hr rfl T.g_fraction_of T.F_fraction_of.kp T.B_fraction_of_2_ (fun σ => passAt (takes_of rfl rfl rfl rfl) σ) (by exact (pa_cons (pe_op or_add (pe_op or_mul (pe_ix ix_seq (pv 0) pe_int (fun _ _ => rfl)) (pe_ix ix_seq (pv 1) pe_int (fun _ _ => rfl))) (pe_op or_mul (pe_ix ix_seq (pv 1) pe_int (fun _ _ => rfl)) (pe_ix ix_seq (pv 0) pe_int (fun _ _ => rfl)))) (pa_cons (pe_op or_mul (pe_ix ix_seq (pv 0) pe_int (fun _ _ => rfl)) (pe_ix ix_seq (pv 1) pe_int (fun _ _ => rfl))) pa_nil))))))),
    (s_ret (v_callG (dd := [(.int 1)]) rfl (a_cons (v_op d_add (v_op d_mul (v_op d_ix v_var v_int) (v_op d_ix v_var v_int)) (v_op d_mul (v_op d_ix v_var v_int) (v_op d_ix v_var v_int))) (a_cons (v_op d_mul (v_op d_ix v_var v_int) (v_op d_ix v_var v_int)) a_nil)) a_nil))⟩
theorem ok_minus (T : Txt K mg base A) : FnOk P w K mg base (L2.CX P w) 3 A.f_minus A.d_minus p_minus (spF (GG K A) F_minus) :=
  fn_ok (k := 2) rfl rfl T.F_minus sc_minus fun cdv Ar outer s H E hr => ⟨_,
    (pss_one (ps_ret (by exact (pe_gN (ok_fraction_of T) hr rfl T.g_fraction_of T.F_fraction_of.kp T.B_fraction_of_2_ (fun σ => passAt (takes_of rfl rfl rfl rfl) σ) (by exact (pa_cons (pe_op op_sub (pe_op or_mul (pe_ix ix_seq (pv 0) pe_int (fun _ _ => rfl)) (pe_ix ix_seq (pv 1) pe_int (fun _ _ => rfl))) (pe_op or_mul (pe_ix ix_seq (pv 1) pe_int (fun _ _ => rfl)) (pe_ix ix_seq (pv 0) pe_int (fun _ _ => rfl)))) (pa_cons (pe_op or_mul (pe_ix ix_seq (pv 0) pe_int (fun _ _ => rfl)) (pe_ix ix_seq (pv 1) pe_int (fun _ _ => rfl))) pa_nil))))))),
    (s_ret (v_callG (dd := [(.int 1)]) rfl (a_cons (v_op d_sub (v_op d_mul (v_op d_ix v_var v_int) (v_op d_ix v_var v_int)) (v_op d_mul (v_op d_ix v_var v_int) (v_op d_ix v_var v_int))) (a_cons (v_op d_mul (v_op d_ix v_var v_int) (v_op d_ix v_var v_int)) a_nil)) a_nil))⟩
theorem ok_times (T : Txt K mg base A) : FnOk P w K mg base (L2.CX P w) 3 A.f_times A.d_times p_times (spF (GG K A) F_times) :=
  fn_ok (k := 2) rfl rfl T.F_times sc_times fun cdv Ar outer s H E hr => ⟨_,
    (pss_one (ps_ret (by exact (pe_gN (ok_fraction_of T) hr rfl T.g_fraction_of T.F_fraction_of.kp T.B_fraction_of_2_ (fun σ => passAt (takes_of rfl rfl rfl rfl) σ) (by exact (pa_cons (pe_op or_mul (pe_ix ix_seq (pv 0) pe_int (fun _ _ => rfl)) (pe_ix ix_seq (pv 1) pe_int (fun _ _ => rfl))) (pa_cons (pe_op or_mul (pe_ix ix_seq (pv 0) pe_int (fun _ _ => rfl)) (pe_ix ix_seq (pv 1) pe_int (fun _ _ => rfl))) pa_nil))))))),
    (s_ret (v_callG (dd := [(.int 1)]) rfl (a_cons (v_op d_mul (v_op d_ix v_var v_int) (v_op d_ix v_var v_int)) (a_cons (v_op d_mul (v_op d_ix v_var v_int) (v_op d_ix v_var v_int)) a_nil)) a_nil))⟩
theorem ok_over (T : Txt K mg base A) : FnOk P w K mg base (L2.CX P w) 3 A.f_over A.d_over p_over (spF (GG K A) F_over) :=
  fn_ok (k := 2) rfl rfl T.F_over sc_over fun cdv Ar outer s H E hr => ⟨_,
    (pss_one (ps_ret (by exact (pe_gN (ok_fraction_of T) hr rfl T.g_fraction_of T.F_fraction_of.kp T.B_fraction_of_2_ (fun σ => passAt (takes_of rfl rfl rfl rfl) σ) (by exact (pa_cons (pe_op or_mul (pe_ix ix_seq (pv 0) pe_int (fun _ _ => rfl)) (pe_ix ix_seq (pv 1) pe_int (fun _ _ => rfl))) (pa_cons (pe_op or_mul (pe_ix ix_seq (pv 0) pe_int (fun _ _ => rfl)) (pe_ix ix_seq (pv 1) pe_int (fun _ _ => rfl))) pa_nil))))))),
    (s_ret (v_callG (dd := [(.int 1)]) rfl (a_cons (v_op d_mul (v_op d_ix v_var v_int) (v_op d_ix v_var v_int)) (a_cons (v_op d_mul (v_op d_ix v_var v_int) (v_op d_ix v_var v_int)) a_nil)) a_nil))⟩
theorem ok_all_ends (T : Txt K mg base A) : FnOk P w K mg base (L2.CX P w) 3 A.f_all_ends A.d_all_ends p_all_ends (spF (GG K A) F_all_ends) :=
  fn_ok (k := 2) rfl rfl T.F_all_ends sc_all_ends fun cdv Ar outer s H E hr => ⟨_,
    (pss_cons (ps_set (i := 1) sc_all_ends.nd rfl (by first | exact Or.inl rfl | exact Or.inr rfl) (pe_lst pa_nil))
    (pss_cons (ps_for (passes_of rfl) rfl (pi_any (pv 0)) (pg_name (i := 2) sc_all_ends.nd rfl (by first | exact Or.inl rfl | exact Or.inr rfl)) (pss_one (ps_for (passes_of rfl) rfl (pi_any (by exact (pe_m0 (pv 2) T.cl_Table T.mt_Table_ends (ok_Table_ends T) (hr.mono (by decide)) T.B_Table_ends_1_ (fun σ => passAt (takes_of rfl rfl rfl rfl) σ)))) (pg_name (i := 3) sc_all_ends.nd rfl (by first | exact Or.inl rfl | exact Or.inr rfl)) (pss_one (ps_set (i := 1) sc_all_ends.nd rfl (by first | exact Or.inl rfl | exact Or.inr rfl) (pe_callS (ok_placed T) hr rfl T.g_placed T.F_placed.kp T.b_placed (fun σ => passAt (takes_of rfl rfl rfl rfl) σ) (by exact (pa_cons (pv 1) (pa_cons (pv 3) pa_nil)))))))))
    (pss_one (ps_ret (pv 1))))),
    (s_seq (s_setF (v_lst a_nil))
    (s_seq (s_for (i_any v_var) g_name (s_for (i_any (v_meth (c := 7) (m := "ends") (dd := []) nf_Table_ends rfl v_var a_nil a_nil)) g_name (s_setF (v_call (a_cons v_var (a_cons v_var a_nil))))))
    s_retV))⟩
theorem ok_bounds_of (T : Txt K mg base A) : FnOk P w K mg base (L2.CX P w) 3 A.f_bounds_of A.d_bounds_of p_bounds_of (spF (GG K A) F_bounds_of) :=
  fn_ok (k := 2) rfl rfl T.F_bounds_of sc_bounds_of fun cdv Ar outer s H E hr => ⟨_,
    (pss_cons (ps_set (i := 1) sc_bounds_of.nd rfl (by first | exact Or.inl rfl | exact Or.inr rfl) (pe_callB (cr_sum rfl) (by rfl) T.z_sum (by decide +kernel) (pa_cons (pe_lc (own := [("width", 4), ("worth", 5)]) rfl sc_bounds_of.nd (pi_any (pv 0)) (blkOk_by (N := n_bounds_of) (sc := defScope (s_bounds_of)) (by decide +kernel)) (fun _ _ _ _ _ => (pg_tl rfl (pgs_cons (pg_name (i := 4) sc_bounds_of.nd rfl (by first | exact Or.inl rfl | exact Or.inr rfl)) (pgs_cons (pg_name (i := 5) sc_bounds_of.nd rfl (by first | exact Or.inl rfl | exact Or.inr rfl)) pgs_nil)))) (fun _ _ _ _ _ => pts_nil) (fun _ _ _ _ _ => (pv 4))) pa_nil)))
    (pss_cons (ps_set (i := 2) sc_bounds_of.nd rfl (by first | exact Or.inl rfl | exact Or.inr rfl) (pe_lst (pa_cons (pe_glob (v := .ref A.a_FIRST) rfl T.m_FIRST rfl) pa_nil)))
    (pss_cons (ps_set (i := 3) sc_bounds_of.nd rfl (by first | exact Or.inl rfl | exact Or.inr rfl) pe_int)
    (pss_cons (ps_for (passes_of rfl) rfl (pi_any (pv 0)) (pg_tl rfl (pgs_cons (pg_name (i := 4) sc_bounds_of.nd rfl (by first | exact Or.inl rfl | exact Or.inr rfl)) (pgs_cons (pg_name (i := 5) sc_bounds_of.nd rfl (by first | exact Or.inl rfl | exact Or.inr rfl)) pgs_nil))) (pss_cons (ps_set (i := 3) sc_bounds_of.nd rfl (by first | exact Or.inl rfl | exact Or.inr rfl) (pe_op or_add (pv 3) (pv 4)))
    (pss_one (ps_expr (pe_bm PySem.F.plainAttrs_list PySem.F.slot_list_append PySem.F.type_list_append mt_append (pv 2) (pa_cons (by exact (pe_gN (ok_fraction_of T) hr rfl T.g_fraction_of T.F_fraction_of.kp T.B_fraction_of_2_ (fun σ => passAt (takes_of rfl rfl rfl rfl) σ) (by exact (pa_cons (pv 3) (pa_cons (pv 1) pa_nil))))) pa_nil))))))
    (pss_one (ps_ret (pv 2))))))),
    (s_seq (s_setF (v_cb c_sum (a_cons (v_lc (vs := [4, 5]) (i_any v_var) (g_tl (gs_cons g_name (gs_cons g_name gs_nil))) (by decide) t_yes v_var) a_nil)))
    (s_seq (s_set (v_lst (a_cons (v_const T.i_FIRST) a_nil)))
    (s_seq (s_setF v_int)
    (s_seq (s_for (i_any v_var) (g_tl (gs_cons g_name (gs_cons g_name gs_nil))) (s_seq (s_setF (v_op d_add v_var v_var))
    (s_mt m_append (a_cons (v_callG (dd := [(.int 1)]) rfl (a_cons v_var (a_cons v_var a_nil)) a_nil) a_nil))))
    s_retV))))⟩
theorem ok_law_stretches (T : Txt K mg base A) : FnOk P w K mg base (L2.CX P w) 3 A.f_law_stretches A.d_law_stretches p_law_stretches (spF (GG K A) F_law_stretches) :=
  fn_ok (k := 2) rfl rfl T.F_law_stretches sc_law_stretches fun cdv Ar outer s H E hr => ⟨_,
    (pss_cons (ps_set (i := 2) sc_law_stretches.nd rfl (by first | exact Or.inl rfl | exact Or.inr rfl) (pe_op or_add pe_int (pe_callS (ok_law_take T) hr rfl T.g_law_take T.F_law_take.kp T.b_law_take (fun σ => passAt (takes_of rfl rfl rfl rfl) σ) (by exact (pa_cons (pv 0) (pa_cons (pv 1) pa_nil))))))
    (pss_cons (ps_set (i := 3) sc_law_stretches.nd rfl (by first | exact Or.inl rfl | exact Or.inr rfl) (pe_ix ix_seq (pe_lst (pa_cons pe_int (pa_cons pe_int (pa_cons pe_int pa_nil)))) (pe_callS (ok_law_take T) hr rfl T.g_law_take T.F_law_take.kp T.b_law_take (fun σ => passAt (takes_of rfl rfl rfl rfl) σ) (by exact (pa_cons (pv 0) (pa_cons pe_int pa_nil)))) (fun _ _ => rfl)))
    (pss_cons (ps_set (i := 4) sc_law_stretches.nd rfl (by first | exact Or.inl rfl | exact Or.inr rfl) (pe_ix ix_seq (pe_lst (pa_cons pe_int (pa_cons pe_int (pa_cons (pe_op op_pow pe_int pe_int) (pa_cons (pe_op op_pow pe_int pe_int) pa_nil))))) (pe_callS (ok_law_take T) hr rfl T.g_law_take T.F_law_take.kp T.b_law_take (fun σ => passAt (takes_of rfl rfl rfl rfl) σ) (by exact (pa_cons (pv 0) (pa_cons pe_int pa_nil)))) (fun _ _ => rfl)))
    (pss_cons (ps_set (i := 5) sc_law_stretches.nd rfl (by first | exact Or.inl rfl | exact Or.inr rfl) (pe_lst pa_nil))
    (pss_cons (ps_for (passes_of rfl) rfl (pi_range1 (by rfl) T.z_range (pa_cons (pv 2) pa_nil)) (pg_name (i := 6) sc_law_stretches.nd rfl (by first | exact Or.inl rfl | exact Or.inr rfl)) (pss_cons (ps_set (i := 7) sc_law_stretches.nd rfl (by first | exact Or.inl rfl | exact Or.inr rfl) (pe_callS (ok_law_take T) hr rfl T.g_law_take T.F_law_take.kp T.b_law_take (fun σ => passAt (takes_of rfl rfl rfl rfl) σ) (by exact (pa_cons (pv 0) (pa_cons (pv 4) pa_nil)))))
    (pss_cons (ps_if (pt_cmpR (or_eq hr.units) (pe_callS (ok_law_take T) hr rfl T.g_law_take T.F_law_take.kp T.b_law_take (fun σ => passAt (takes_of rfl rfl rfl rfl) σ) (by exact (pa_cons (pv 0) (pa_cons pe_int pa_nil)))) pe_int (nomark _)) (pss_one (ps_set (i := 7) sc_law_stretches.nd rfl (by first | exact Or.inl rfl | exact Or.inr rfl) pe_int)) pss_nil)
    (pss_one (ps_expr (pe_bm PySem.F.plainAttrs_list PySem.F.slot_list_append PySem.F.type_list_append mt_append (pv 5) (pa_cons (pe_tup (pa_cons (pe_op or_add pe_int (pe_callS (ok_law_take T) hr rfl T.g_law_take T.F_law_take.kp T.b_law_take (fun σ => passAt (takes_of rfl rfl rfl rfl) σ) (by exact (pa_cons (pv 0) (pa_cons (pv 3) pa_nil))))) (pa_cons (pv 7) pa_nil))) pa_nil)))))))
    (pss_cons (ps_if (pt_cmpR (or_eq hr.units) (pe_callB (cr_sum rfl) (by rfl) T.z_sum (by decide +kernel) (pa_cons (pe_lc (own := [("_law_width", 9), ("_law_worth_here", 7)]) rfl sc_law_stretches.nd (pi_any (pv 5)) (blkOk_by (N := n_law_stretches) (sc := defScope (s_law_stretches)) (by decide +kernel)) (fun _ _ _ _ _ => (pg_tl rfl (pgs_cons (pg_name (i := 9) sc_law_stretches.nd rfl (by first | exact Or.inl rfl | exact Or.inr rfl)) (pgs_cons (pg_name (i := 7) sc_law_stretches.nd rfl (by first | exact Or.inl rfl | exact Or.inr rfl)) pgs_nil)))) (fun _ _ _ _ _ => pts_nil) (fun _ _ _ _ _ => (pv 7))) pa_nil)) pe_int (nomark _)) (pss_cons (ps_set (i := 8) sc_law_stretches.nd rfl (by first | exact Or.inl rfl | exact Or.inr rfl) (pe_callS (ok_law_take T) hr rfl T.g_law_take T.F_law_take.kp T.b_law_take (fun σ => passAt (takes_of rfl rfl rfl rfl) σ) (by exact (pa_cons (pv 0) (pa_cons (pv 2) pa_nil)))))
    (pss_one (ps_asg (pe_tup (pa_cons (pe_ix ix_seq (pe_ix ix_seq (pv 5) (pv 8) (fun _ _ => rfl)) pe_int (fun _ _ => rfl)) (pa_cons (pe_op or_add pe_int (pe_callS (ok_law_take T) hr rfl T.g_law_take T.F_law_take.kp T.b_law_take (fun σ => passAt (takes_of rfl rfl rfl rfl) σ) (by exact (pa_cons (pv 0) (pa_cons (pe_op op_sub (pe_op op_pow pe_int pe_int) pe_int) pa_nil))))) pa_nil))) (pg_sub (pv 5) (pv 8) set_list)))) pss_nil)
    (pss_one (ps_ret (pv 5))))))))),
    (s_seq (s_setF (v_op d_add v_int (v_call (a_cons v_var (a_cons v_var a_nil)))))
    (s_seq (s_setF (v_op d_ix (v_lst (a_cons v_int (a_cons v_int (a_cons v_int a_nil)))) (v_call (a_cons v_var (a_cons v_int a_nil)))))
    (s_seq (s_setF (v_op d_ix (v_lst (a_cons v_int (a_cons v_int (a_cons (v_op d_pow v_int v_int) (a_cons (v_op d_pow v_int v_int) a_nil))))) (v_call (a_cons v_var (a_cons v_int a_nil)))))
    (s_seq (s_set (v_lst a_nil))
    (s_seq (s_for (i_range1 (a_cons v_var a_nil)) g_name (s_seq (s_setF (v_call (a_cons v_var (a_cons v_var a_nil))))
    (s_seq (s_if (t_test (v_op d_eq (v_call (a_cons v_var (a_cons v_int a_nil))) v_int)) (s_setF v_int) s_skip)
    (s_mt m_append (a_cons (v_tup (a_cons (v_op d_add v_int (v_call (a_cons v_var (a_cons v_var a_nil)))) (a_cons v_var a_nil))) a_nil)))))
    (s_seq (s_if (t_test (v_op d_eq (v_cb c_sum (a_cons (v_lcE (vs := [9, 7]) (i_own (i := 5) (by decide)) (g_tl (gs_cons g_name (gs_cons g_name gs_nil))) (by decide) t_yes v_var) a_nil)) v_int)) (s_seq (s_setF (v_call (a_cons v_var (a_cons v_var a_nil))))
    (s_setI (v_tup (a_cons (v_op d_ix (v_op d_ix v_var v_var) v_int) (a_cons (v_op d_add v_int (v_call (a_cons v_var (a_cons (v_op d_sub (v_op d_pow v_int v_int) v_int) a_nil)))) a_nil))) v_var)) s_skip)
    s_retV))))))⟩
theorem ok_law_place (T : Txt K mg base A) : FnOk P w K mg base (L2.CX P w) 3 A.f_law_place A.d_law_place p_law_place (spF (GG K A) F_law_place) :=
  fn_ok (k := 2) rfl rfl T.F_law_place sc_law_place fun cdv Ar outer s H E hr => ⟨_,
    (pss_one (ps_ret (pe_and (pe_callS (ok_law_fraction T) hr rfl T.g_law_fraction T.F_law_fraction.kp T.b_law_fraction (fun σ => passAt (takes_of rfl rfl rfl rfl) σ) (by exact (pa_cons (pv 0) pa_nil))) (pe_one (pe_chain op_le op_le pe_int (pe_ix ix_seq (pv 0) pe_int (fun _ _ => rfl)) (pe_ix ix_seq (pv 0) pe_int (fun _ _ => rfl))))))),
    (s_ret (v_and (v_call (a_cons v_var a_nil)) (v_chain d_le d_le v_int (v_op d_ix v_var v_int) (v_op d_ix v_var v_int))))⟩
theorem ok_value_at (T : Txt K mg base A) : FnOk P w K mg base (L2.CX P w) 4 A.f_value_at A.d_value_at p_value_at (spF (GG K A) F_value_at) :=
  fn_ok (k := 3) rfl rfl T.F_value_at sc_value_at fun cdv Ar outer s H E hr => ⟨_,
    (pss_one (ps_ret (pe_callS (ok_plus T) hr rfl T.g_plus T.F_plus.kp T.b_plus (fun σ => passAt (takes_of rfl rfl rfl rfl) σ) (by exact (pa_cons (pe_tup (pa_cons (pe_ix ix_seq (pv 0) pe_int (fun _ _ => rfl)) (pa_cons pe_int pa_nil))) (pa_cons (pe_callS (ok_plus T) hr rfl T.g_plus T.F_plus.kp T.b_plus (fun σ => passAt (takes_of rfl rfl rfl rfl) σ) (by exact (pa_cons (pe_callS (ok_times T) hr rfl T.g_times T.F_times.kp T.b_times (fun σ => passAt (takes_of rfl rfl rfl rfl) σ) (by exact (pa_cons (pe_tup (pa_cons (pe_ix ix_seq (pv 0) pe_int (fun _ _ => rfl)) (pa_cons pe_int pa_nil))) (pa_cons (pe_ix ix_seq (pv 1) pe_int (fun _ _ => rfl)) pa_nil)))) (pa_cons (pe_callS (ok_times T) hr rfl T.g_times T.F_times.kp T.b_times (fun σ => passAt (takes_of rfl rfl rfl rfl) σ) (by exact (pa_cons (pe_tup (pa_cons (pe_ix ix_seq (pv 0) pe_int (fun _ _ => rfl)) (pa_cons pe_int pa_nil))) (pa_cons (pe_ix ix_seq (pv 1) pe_int (fun _ _ => rfl)) pa_nil)))) pa_nil)))) pa_nil)))))),
    (s_ret (v_call (a_cons (v_tup (a_cons (v_op d_ix v_var v_int) (a_cons v_int a_nil))) (a_cons (v_call (a_cons (v_call (a_cons (v_tup (a_cons (v_op d_ix v_var v_int) (a_cons v_int a_nil))) (a_cons (v_op d_ix v_var v_int) a_nil))) (a_cons (v_call (a_cons (v_tup (a_cons (v_op d_ix v_var v_int) (a_cons v_int a_nil))) (a_cons (v_op d_ix v_var v_int) a_nil))) a_nil))) a_nil))))⟩
theorem ok_crossing (T : Txt K mg base A) : FnOk P w K mg base (L2.CX P w) 4 A.f_crossing A.d_crossing p_crossing (spF (GG K A) F_crossing) :=
  fn_ok (k := 3) rfl rfl T.F_crossing sc_crossing fun cdv Ar outer s H E hr => ⟨_,
    (pss_cons (ps_set (i := 4) sc_crossing.nd rfl (by first | exact Or.inl rfl | exact Or.inr rfl) (pe_callS (ok_over T) hr rfl T.g_over T.F_over.kp T.b_over (fun σ => passAt (takes_of rfl rfl rfl rfl) σ) (by exact (pa_cons (pv 2) (pa_cons (pe_callS (ok_minus T) hr rfl T.g_minus T.F_minus.kp T.b_minus (fun σ => passAt (takes_of rfl rfl rfl rfl) σ) (by exact (pa_cons (pv 2) (pa_cons (pv 3) pa_nil)))) pa_nil)))))
    (pss_cons (ps_set (i := 5) sc_crossing.nd rfl (by first | exact Or.inl rfl | exact Or.inr rfl) (pe_callS (ok_plus T) hr rfl T.g_plus T.F_plus.kp T.b_plus (fun σ => passAt (takes_of rfl rfl rfl rfl) σ) (by exact (pa_cons (pe_ix ix_seq (pv 0) pe_int (fun _ _ => rfl)) (pa_cons (pe_callS (ok_times T) hr rfl T.g_times T.F_times.kp T.b_times (fun σ => passAt (takes_of rfl rfl rfl rfl) σ) (by exact (pa_cons (pe_callS (ok_minus T) hr rfl T.g_minus T.F_minus.kp T.b_minus (fun σ => passAt (takes_of rfl rfl rfl rfl) σ) (by exact (pa_cons (pe_ix ix_seq (pv 1) pe_int (fun _ _ => rfl)) (pa_cons (pe_ix ix_seq (pv 0) pe_int (fun _ _ => rfl)) pa_nil)))) (pa_cons (pv 4) pa_nil)))) pa_nil)))))
    (pss_one (ps_ret (pe_tup (pa_cons (pv 5) (pa_cons (pe_callS (ok_plus T) hr rfl T.g_plus T.F_plus.kp T.b_plus (fun σ => passAt (takes_of rfl rfl rfl rfl) σ) (by exact (pa_cons (pe_ix ix_seq (pv 0) pe_int (fun _ _ => rfl)) (pa_cons (pe_callS (ok_times T) hr rfl T.g_times T.F_times.kp T.b_times (fun σ => passAt (takes_of rfl rfl rfl rfl) σ) (by exact (pa_cons (pe_callS (ok_minus T) hr rfl T.g_minus T.F_minus.kp T.b_minus (fun σ => passAt (takes_of rfl rfl rfl rfl) σ) (by exact (pa_cons (pe_ix ix_seq (pv 1) pe_int (fun _ _ => rfl)) (pa_cons (pe_ix ix_seq (pv 0) pe_int (fun _ _ => rfl)) pa_nil)))) (pa_cons (pv 4) pa_nil)))) pa_nil)))) pa_nil))))))),
    (s_seq (s_setF (v_call (a_cons v_var (a_cons (v_call (a_cons v_var (a_cons v_var a_nil))) a_nil))))
    (s_seq (s_setF (v_call (a_cons (v_op d_ix v_var v_int) (a_cons (v_call (a_cons (v_call (a_cons (v_op d_ix v_var v_int) (a_cons (v_op d_ix v_var v_int) a_nil))) (a_cons v_var a_nil))) a_nil))))
    (s_ret (v_tup (a_cons v_var (a_cons (v_call (a_cons (v_op d_ix v_var v_int) (a_cons (v_call (a_cons (v_call (a_cons (v_op d_ix v_var v_int) (a_cons (v_op d_ix v_var v_int) a_nil))) (a_cons v_var a_nil))) a_nil))) a_nil))))))⟩
theorem ok_place_in (T : Txt K mg base A) : FnOk P w K mg base (L2.CX P w) 4 A.f_place_in A.d_place_in p_place_in (spF (GG K A) F_place_in) :=
  fn_ok (k := 3) rfl rfl T.F_place_in sc_place_in fun cdv Ar outer s H E hr => ⟨_,
    (pss_one (ps_ret (pe_callS (ok_plus T) hr rfl T.g_plus T.F_plus.kp T.b_plus (fun σ => passAt (takes_of rfl rfl rfl rfl) σ) (by exact (pa_cons (pe_ix ix_seq (pv 0) (pv 1) (fun _ _ => rfl)) (pa_cons (pe_callS (ok_times T) hr rfl T.g_times T.F_times.kp T.b_times (fun σ => passAt (takes_of rfl rfl rfl rfl) σ) (by exact (pa_cons (pe_callS (ok_minus T) hr rfl T.g_minus T.F_minus.kp T.b_minus (fun σ => passAt (takes_of rfl rfl rfl rfl) σ) (by exact (pa_cons (pe_ix ix_seq (pv 0) (pe_op or_add (pv 1) pe_int) (fun _ _ => rfl)) (pa_cons (pe_ix ix_seq (pv 0) (pv 1) (fun _ _ => rfl)) pa_nil)))) (pa_cons (pv 2) pa_nil)))) pa_nil)))))),
    (s_ret (v_call (a_cons (v_op d_ix v_var v_var) (a_cons (v_call (a_cons (v_call (a_cons (v_op d_ix v_var (v_op d_add v_var v_int)) (a_cons (v_op d_ix v_var v_var) a_nil))) (a_cons v_var a_nil))) a_nil))))⟩
theorem ok_Table___init__ (T : Txt K mg base A) : FnOk P w K mg base (L2.CX P w) 4 A.f_Table___init__ A.d_Table___init__ p_Table___init__ (spF (GG K A) F_Table___init__) :=
  fn_ok (k := 3) rfl rfl T.F_Table___init__ sc_Table___init__ fun cdv Ar outer s H E hr => ⟨_,
    (pss_cons (ps_if (PW.pt (pw_or (pt_cmpR op_lt (pe_callB call_len (by rfl) T.z_len (by decide +kernel) (pa_cons (pv 1) pa_nil)) pe_int (nomark _)) (pw_or1 (pt_cmpR op_gt (pe_callB call_len (by rfl) T.z_len (by decide +kernel) (pa_cons (pv 1) pa_nil)) (pe_glob (v := .int 8) rfl T.m_MOST_STRETCHES ⟨_, rfl⟩) (nomark _))))) (pss_one (ps_raise rfl (takes_of rfl rfl rfl rfl) (pmk_own PySem.F.excBase_ValueError T.x_NoTable T.g_NoTable T.k_NoTable (raises_own T.sb_NoTable T.t_NoTable) rfl))) pss_nil)
    (pss_cons (ps_for (passes_of rfl) rfl (pi_any (pv 1)) (pg_tl rfl (pgs_cons (pg_name (i := 2) sc_Table___init__.nd rfl (by first | exact Or.inl rfl | exact Or.inr rfl)) (pgs_cons (pg_name (i := 3) sc_Table___init__.nd rfl (by first | exact Or.inl rfl | exact Or.inr rfl)) pgs_nil))) (pss_one (ps_if (pt_not (pt_val (pe_callS (ok_is_stretch T) (hr.mono (by decide)) rfl T.g_is_stretch T.F_is_stretch.kp T.b_is_stretch (fun σ => passAt (takes_of rfl rfl rfl rfl) σ) (by exact (pa_cons (pv 2) (pa_cons (pv 3) pa_nil)))))) (pss_one (ps_raise rfl (takes_of rfl rfl rfl rfl) (pmk_own PySem.F.excBase_ValueError T.x_NoTable T.g_NoTable T.k_NoTable (raises_own T.sb_NoTable T.t_NoTable) rfl))) pss_nil)))
    (pss_cons (ps_if (pt_cmpR (or_eq hr.units) (pe_callB (cr_sum rfl) (by rfl) T.z_sum (by decide +kernel) (pa_cons (pe_lc (own := [("width", 2), ("worth", 3)]) rfl sc_Table___init__.nd (pi_any (pv 1)) (blkOk_by (N := n_Table___init__) (sc := defScope (s_Table___init__)) (by decide +kernel)) (fun _ _ _ _ _ => (pg_tl rfl (pgs_cons (pg_name (i := 2) sc_Table___init__.nd rfl (by first | exact Or.inl rfl | exact Or.inr rfl)) (pgs_cons (pg_name (i := 3) sc_Table___init__.nd rfl (by first | exact Or.inl rfl | exact Or.inr rfl)) pgs_nil)))) (fun _ _ _ _ _ => pts_nil) (fun _ _ _ _ _ => (pv 3))) pa_nil)) pe_int (nomark _)) (pss_one (ps_raise rfl (takes_of rfl rfl rfl rfl) (pmk_own PySem.F.excBase_ValueError T.x_NoTable T.g_NoTable T.k_NoTable (raises_own T.sb_NoTable T.t_NoTable) rfl))) pss_nil)
    (pss_cons (ps_fld (pv 0) (pe_lc (own := [("width", 2), ("worth", 3)]) rfl sc_Table___init__.nd (pi_any (pv 1)) (blkOk_by (N := n_Table___init__) (sc := defScope (s_Table___init__)) (by decide +kernel)) (fun _ _ _ _ _ => (pg_tl rfl (pgs_cons (pg_name (i := 2) sc_Table___init__.nd rfl (by first | exact Or.inl rfl | exact Or.inr rfl)) (pgs_cons (pg_name (i := 3) sc_Table___init__.nd rfl (by first | exact Or.inl rfl | exact Or.inr rfl)) pgs_nil)))) (fun _ _ _ _ _ => pts_nil) (fun _ _ _ _ _ => (pe_tup (pa_cons (pv 2) (pa_cons (pv 3) pa_nil))))) (by first | rfl | exact sw_any rfl))
    (pss_one (ps_fld (pv 0) (pe_callS (ok_bounds_of T) hr rfl T.g_bounds_of T.F_bounds_of.kp T.b_bounds_of (fun σ => passAt (takes_of rfl rfl rfl rfl) σ) (by exact (pa_cons (pe_fld (pv 0) rfl) pa_nil))) (by first | rfl | exact sw_any rfl))))))),
    (s_seq (s_if (t_or (t_test (v_op d_lt (v_cb c_len (a_cons v_var a_nil)) v_int)) (t_test (v_op d_gt (v_cb c_len (a_cons v_var a_nil)) v_int))) (s_raise rfl) s_skip)
    (s_seq (s_for (i_any v_var) (g_tl (gs_cons g_name (gs_cons g_name gs_nil))) (s_if (t_not (t_val (v_call (a_cons v_var (a_cons v_var a_nil))))) (s_raise rfl) s_skip))
    (s_seq (s_if (t_test (v_op d_eq (v_cb c_sum (a_cons (v_lc (vs := [2, 3]) (i_any v_var) (g_tl (gs_cons g_name (gs_cons g_name gs_nil))) (by decide) t_yes v_var) a_nil)) v_int)) (s_raise rfl) s_skip)
    (s_seq (s_fldS T.fo_kept v_var (v_lc (vs := [2, 3]) (i_any v_var) (g_tl (gs_cons g_name (gs_cons g_name gs_nil))) (by decide) t_yes (v_tup (a_cons v_var (a_cons v_var a_nil)))))
    (s_fldS T.fo_bounds v_var (v_call (a_cons (v_fld T.fo_kept v_var) a_nil)))))))⟩
theorem ok_Table_between (T : Txt K mg base A) : FnOk P w K mg base (L2.CX P w) 4 A.f_Table_between A.d_Table_between p_Table_between (spF (GG K A) F_Table_between) :=
  fn_ok (k := 3) rfl rfl T.F_Table_between sc_Table_between fun cdv Ar outer s H E hr => ⟨_,
    (pss_cons (ps_set (i := 3) sc_Table_between.nd rfl (by first | exact Or.inl rfl | exact Or.inr rfl) (pe_lst pa_nil))
    (pss_cons (ps_for (passes_of rfl) rfl (pi_enum (by rfl) T.z_enumerate (pa_cons (pe_fld (pv 0) rfl) pa_nil)) (pg_tl rfl (pgs_cons (pg_name (i := 4) sc_Table_between.nd rfl (by first | exact Or.inl rfl | exact Or.inr rfl)) (pgs_cons (pg_tl rfl (pgs_cons (pg_name (i := 7) sc_Table_between.nd rfl (by first | exact Or.inl rfl | exact Or.inr rfl)) (pgs_cons (pg_name (i := 8) sc_Table_between.nd rfl (by first | exact Or.inl rfl | exact Or.inr rfl)) pgs_nil))) pgs_nil))) (pss_cons (ps_set (i := 5) sc_Table_between.nd rfl (by first | exact Or.inl rfl | exact Or.inr rfl) (pe_callS (ok_greater T) (hr.mono (by decide)) rfl T.g_greater T.F_greater.kp T.b_greater (fun σ => passAt (takes_of rfl rfl rfl rfl) σ) (by exact (pa_cons (pv 1) (pa_cons (pe_ix ix_seq (pe_fld (pv 0) rfl) (pv 4) (fun _ _ => rfl)) pa_nil)))))
    (pss_cons (ps_set (i := 6) sc_Table_between.nd rfl (by first | exact Or.inl rfl | exact Or.inr rfl) (pe_callS (ok_lesser T) (hr.mono (by decide)) rfl T.g_lesser T.F_lesser.kp T.b_lesser (fun σ => passAt (takes_of rfl rfl rfl rfl) σ) (by exact (pa_cons (pv 2) (pa_cons (pe_ix ix_seq (pe_fld (pv 0) rfl) (pe_op or_add (pv 4) pe_int) (fun _ _ => rfl)) pa_nil)))))
    (pss_one (ps_if (pt_val (pe_callS (ok_is_less T) (hr.mono (by decide)) rfl T.g_is_less T.F_is_less.kp T.b_is_less (fun σ => passAt (takes_of rfl rfl rfl rfl) σ) (by exact (pa_cons (pv 5) (pa_cons (pv 6) pa_nil))))) (pss_cons (ps_set (i := 9) sc_Table_between.nd rfl (by first | exact Or.inl rfl | exact Or.inr rfl) (pe_callS (ok_minus T) hr rfl T.g_minus T.F_minus.kp T.b_minus (fun σ => passAt (takes_of rfl rfl rfl rfl) σ) (by exact (pa_cons (pe_ix ix_seq (pe_fld (pv 0) rfl) (pe_op or_add (pv 4) pe_int) (fun _ _ => rfl)) (pa_cons (pe_ix ix_seq (pe_fld (pv 0) rfl) (pv 4) (fun _ _ => rfl)) pa_nil)))))
    (pss_one (ps_expr (pe_bm PySem.F.plainAttrs_list PySem.F.slot_list_append PySem.F.type_list_append mt_append (pv 3) (pa_cons (pe_tup (pa_cons (pv 5) (pa_cons (pv 6) (pa_cons (pe_callS (ok_times T) hr rfl T.g_times T.F_times.kp T.b_times (fun σ => passAt (takes_of rfl rfl rfl rfl) σ) (by exact (pa_cons (pe_tup (pa_cons (pv 8) (pa_cons pe_int pa_nil))) (pa_cons (pe_callS (ok_over T) hr rfl T.g_over T.F_over.kp T.b_over (fun σ => passAt (takes_of rfl rfl rfl rfl) σ) (by exact (pa_cons (pe_callS (ok_minus T) hr rfl T.g_minus T.F_minus.kp T.b_minus (fun σ => passAt (takes_of rfl rfl rfl rfl) σ) (by exact (pa_cons (pv 6) (pa_cons (pv 5) pa_nil)))) (pa_cons (pv 9) pa_nil)))) pa_nil)))) pa_nil)))) pa_nil))))) pss_nil)))))
    (pss_one (ps_ret (pv 3))))),
    (s_seq (s_set (v_lst a_nil))
    (s_seq (s_for (i_enum (a_cons (v_fld T.fo_kept v_var) a_nil)) (g_tl (gs_cons g_name (gs_cons (g_tl (gs_cons g_name (gs_cons g_name gs_nil))) gs_nil))) (s_seq (s_setF (v_call (a_cons v_var (a_cons (v_op d_ix (v_fld T.fo_bounds v_var) v_var) a_nil))))
    (s_seq (s_setF (v_call (a_cons v_var (a_cons (v_op d_ix (v_fld T.fo_bounds v_var) (v_op d_add v_var v_int)) a_nil))))
    (s_if (t_val (v_call (a_cons v_var (a_cons v_var a_nil)))) (s_seq (s_setF (v_call (a_cons (v_op d_ix (v_fld T.fo_bounds v_var) (v_op d_add v_var v_int)) (a_cons (v_op d_ix (v_fld T.fo_bounds v_var) v_var) a_nil))))
    (s_mt m_append (a_cons (v_tup (a_cons v_var (a_cons v_var (a_cons (v_call (a_cons (v_tup (a_cons v_var (a_cons v_int a_nil))) (a_cons (v_call (a_cons (v_call (a_cons v_var (a_cons v_var a_nil))) (a_cons v_var a_nil))) a_nil))) a_nil)))) a_nil))) s_skip))))
    s_retV))⟩
theorem ok_law_paper (T : Txt K mg base A) : FnOk P w K mg base (L2.CX P w) 4 A.f_law_paper A.d_law_paper p_law_paper (spF (GG K A) F_law_paper) :=
  fn_ok (k := 3) rfl rfl T.F_law_paper sc_law_paper fun cdv Ar outer s H E hr => ⟨_,
    (pss_cons (ps_if (PW.pt (pw_or (pt_not (pt_val (pe_callB call_isi (by rfl) T.z_isinstance (by decide +kernel) (pa_cons (pv 0) (pa_cons (pe_bltn (v := .ty "tuple") (by rfl) T.z_tuple (by decide +kernel) rfl) pa_nil))))) (pw_or1 (pt_cmpR (or_ne hr.units) (pe_callB call_len (by rfl) T.z_len (by decide +kernel) (pa_cons (pv 0) pa_nil)) pe_int (nomark _))))) (pss_one (ps_ret pe_bl)) pss_nil)
    (pss_cons (ps_asg (pv 0) (pg_tl rfl (pgs_cons (pg_name (i := 3) sc_law_paper.nd rfl (by first | exact Or.inl rfl | exact Or.inr rfl)) (pgs_cons (pg_name (i := 4) sc_law_paper.nd rfl (by first | exact Or.inl rfl | exact Or.inr rfl)) pgs_nil))))
    (pss_cons (ps_if (PW.pt (pw_or (pt_not (pt_val (pe_callB call_isi (by rfl) T.z_isinstance (by decide +kernel) (pa_cons (pv 3) (pa_cons (pe_bltn (v := .ty "list") (by rfl) T.z_list (by decide +kernel) rfl) pa_nil))))) (pw_or (pt_not (pt_val (pe_callB call_isi (by rfl) T.z_isinstance (by decide +kernel) (pa_cons (pv 4) (pa_cons (pe_bltn (v := .ty "list") (by rfl) T.z_list (by decide +kernel) rfl) pa_nil))))) (pw_or1 (pt_cmpR (or_ne hr.units) (pe_callB call_len (by rfl) T.z_len (by decide +kernel) (pa_cons (pv 3) pa_nil)) (pe_op op_sub (pe_callB call_len (by rfl) T.z_len (by decide +kernel) (pa_cons (pv 1) pa_nil)) pe_int) (nomark _)))))) (pss_one (ps_ret pe_bl)) pss_nil)
    (pss_cons (ps_if (PW.pt (pw_or (pt_not (pt_val (pe_callB (cr_all rfl) (by rfl) T.z_all (by decide +kernel) (pa_cons (pe_lc (own := [("_law_cut", 7)]) rfl sc_law_paper.nd (pi_any (pv 3)) (blkOk_by (N := n_law_paper) (sc := defScope (s_law_paper)) (by decide +kernel)) (fun _ _ _ _ _ => (pg_name (i := 7) sc_law_paper.nd rfl (by first | exact Or.inl rfl | exact Or.inr rfl))) (fun _ _ _ _ _ => pts_nil) (fun _ _ _ _ _ => (pe_callS (ok_law_place T) hr rfl T.g_law_place T.F_law_place.kp T.b_law_place (fun σ => passAt takes0 σ) (by exact (pa_cons (pv 7) pa_nil))))) pa_nil)))) (pw_or1 (pt_not (pt_val (pe_callB (cr_all rfl) (by rfl) T.z_all (by decide +kernel) (pa_cons (pe_lc (own := [("_law_hand", 8)]) rfl sc_law_paper.nd (pi_any (pv 4)) (blkOk_by (N := n_law_paper) (sc := defScope (s_law_paper)) (by decide +kernel)) (fun _ _ _ _ _ => (pg_name (i := 8) sc_law_paper.nd rfl (by first | exact Or.inl rfl | exact Or.inr rfl))) (fun _ _ _ _ _ => pts_nil) (fun _ _ _ _ _ => (pe_callS (ok_law_whole T) (hr.mono (by decide)) rfl T.g_law_whole T.F_law_whole.kp T.b_law_whole (fun σ => passAt takes0 σ) (by exact (pa_cons (pv 8) pa_nil))))) pa_nil))))))) (pss_one (ps_ret pe_bl)) pss_nil)
    (pss_cons (ps_if (pt_cmpR (or_ne hr.units) (pe_callB (CallR.or cr_sorted cr_sortedQ) (by rfl) T.z_sorted (by decide +kernel) (pa_cons (pv 4) pa_nil)) (pe_listRg rfl (by rfl) T.z_list (prg_1 (by rfl) T.z_range (pe_callB call_len (by rfl) T.z_len (by decide +kernel) (pa_cons (pv 1) pa_nil)))) (nomark _)) (pss_one (ps_ret pe_bl)) pss_nil)
    (pss_cons (ps_set (i := 2) sc_law_paper.nd rfl (by first | exact Or.inl rfl | exact Or.inr rfl) (pe_op or_add (pe_op or_add (pe_lst (pa_cons (pe_tup (pa_cons pe_int (pa_cons pe_int pa_nil))) pa_nil)) (pv 3)) (pe_lst (pa_cons (pe_tup (pa_cons pe_int (pa_cons pe_int pa_nil))) pa_nil))))
    (pss_one (ps_ret (pe_callB (cr_all rfl) (by rfl) T.z_all (by decide +kernel) (pa_cons (pe_lc (own := [("_law_here", 5), ("_law_there", 6)]) rfl sc_law_paper.nd (pi_zip (by rfl) T.z_zip (pa_cons (pv 2) (pa_cons (pe_slice sl_any (pv 2) (po_some pe_int) po_none) pa_nil))) (blkOk_by (N := n_law_paper) (sc := defScope (s_law_paper)) (by decide +kernel)) (fun _ _ _ _ _ => (pg_tl rfl (pgs_cons (pg_name (i := 5) sc_law_paper.nd rfl (by first | exact Or.inl rfl | exact Or.inr rfl)) (pgs_cons (pg_name (i := 6) sc_law_paper.nd rfl (by first | exact Or.inl rfl | exact Or.inr rfl)) pgs_nil)))) (fun _ _ _ _ _ => pts_nil) (fun _ _ _ _ _ => (pe_callS (ok_law_less T) (hr.mono (by decide)) rfl T.g_law_less T.F_law_less.kp T.b_law_less (fun σ => passAt takes0 σ) (by exact (pa_cons (pv 5) (pa_cons (pv 6) pa_nil)))))) pa_nil)))))))))),
    (s_seq (s_if (t_or (t_not (t_val (v_isi v_var))) (t_test (v_op d_ne (v_cb c_len (a_cons v_var a_nil)) v_int))) (s_ret v_bl) s_skip)
    (s_seq (s_asg v_var (g_tl (gs_cons g_name (gs_cons g_name gs_nil))))
    (s_seq (s_if (t_or (t_not (t_val (v_isi v_var))) (t_or (t_not (t_val (v_isi v_var))) (t_test (v_op d_ne (v_cb c_len (a_cons v_var a_nil)) (v_op d_sub (v_cb c_len (a_cons v_var a_nil)) v_int))))) (s_ret v_bl) s_skip)
    (s_seq (s_if (t_or (t_not (t_val (v_cb c_all (a_cons (v_lc (vs := [7]) (js := [7]) (i_any v_var) g_name (by decide) t_yes (v_call (a_cons v_var a_nil))) a_nil)))) (t_not (t_val (v_cb c_all (a_cons (v_lc (vs := [8]) (js := [8]) (i_any v_var) g_name (by decide) t_yes (v_call (a_cons v_var a_nil))) a_nil))))) (s_ret v_bl) s_skip)
    (s_seq (s_if (t_test (v_op d_ne (v_cb c_sortedX (a_cons v_var a_nil)) (v_lr (v_cb c_len (a_cons v_var a_nil))))) (s_ret v_bl) s_skip)
    (s_seq (s_setF (v_op d_add (v_op d_add (v_lst (a_cons (v_tup (a_cons v_int (a_cons v_int a_nil))) a_nil)) v_var) (v_lst (a_cons (v_tup (a_cons v_int (a_cons v_int a_nil))) a_nil))))
    (s_ret (v_cb c_all (a_cons (v_lc (vs := [5, 6]) (i_zip (a_cons v_var (a_cons (v_sl d_sl v_var (o_some v_int) o_none) a_nil))) (g_tl (gs_cons g_name (gs_cons g_name gs_nil))) (by decide) t_yes (v_call (a_cons v_var (a_cons v_var a_nil)))) a_nil)))))))))⟩
theorem ok_law_long (T : Txt K mg base A) : FnOk P w K mg base (L2.CX P w) 4 A.f_law_long A.d_law_long p_law_long (spF (GG K A) F_law_long) :=
  fn_ok (k := 3) rfl rfl T.F_law_long sc_law_long fun cdv Ar outer s H E hr => ⟨_,
    (pss_cons (ps_set (i := 2) sc_law_long.nd rfl (by first | exact Or.inl rfl | exact Or.inr rfl) (pe_callS (ok_law_stretches T) hr rfl T.g_law_stretches T.F_law_stretches.kp T.b_law_stretches (fun σ => passAt (takes_of rfl rfl rfl rfl) σ) (by exact (pa_cons (pv 0) (pa_cons pe_int pa_nil)))))
    (pss_cons (ps_if (pt_cmpR (or_eq hr.units) (pv 1) pe_int (nomark _)) (pss_one (ps_ret (pv 2))) pss_nil)
    (pss_one (ps_ret (pe_slice sl_any (pe_op or_add (pe_op or_add (pv 2) (pv 2)) (pe_op or_mul (pe_lst (pa_cons (pe_tup (pa_cons pe_int (pa_cons pe_int pa_nil))) pa_nil)) pe_int)) po_none (po_some (pe_op or_add pe_int (pe_callS (ok_law_take T) (hr.mono (by decide)) rfl T.g_law_take T.F_law_take.kp T.b_law_take (fun σ => passAt (takes_of rfl rfl rfl rfl) σ) (by exact (pa_cons (pv 0) (pa_cons pe_int pa_nil))))))))))),
    (s_seq (s_setF (v_call (a_cons v_var (a_cons v_int a_nil))))
    (s_seq (s_if (t_test (v_op d_eq v_var v_int)) s_retV s_skip)
    (s_ret (v_sl d_sl (v_op d_add (v_op d_add v_var v_var) (v_op d_mul (v_lst (a_cons (v_tup (a_cons v_int (a_cons v_int a_nil))) a_nil)) v_int)) o_none (o_some (v_op d_add v_int (v_call (a_cons v_var (a_cons v_int a_nil)))))))))⟩
theorem ok_kept_side (T : Txt K mg base A) : FnOk P w K mg base (L2.CX P w) 5 A.f_kept_side A.d_kept_side p_kept_side (spF (GG K A) F_kept_side) :=
  fn_ok (k := 4) rfl rfl T.F_kept_side sc_kept_side fun cdv Ar outer s H E hr => ⟨_,
    (pss_cons (ps_set (i := 2) sc_kept_side.nd rfl (by first | exact Or.inl rfl | exact Or.inr rfl) (pe_lst pa_nil))
    (pss_cons (ps_setLc (i := 3) (own := [("corner", 5)]) rfl sc_kept_side.nd rfl rfl (sw_true rfl rfl rfl (by decide +kernel)) (pi_any (pv 0)) (blkOk_by (N := n_kept_side) (sc := defScope (s_kept_side)) (by decide +kernel)) (fun _ _ _ _ _ => (pg_name (i := 5) sc_kept_side.nd rfl (by first | exact Or.inl rfl | exact Or.inr rfl))) (fun _ _ _ _ _ => pts_nil) (fun _ _ _ _ _ => (pe_callS (ok_value_at T) hr rfl T.g_value_at T.F_value_at.kp T.b_value_at (fun σ => passAt takes0 σ) (by exact (pa_cons (pv 1) (pa_cons (pv 5) pa_nil))))))
    (pss_cons (ps_for (passes_of rfl) rfl (pi_enum (by rfl) T.z_enumerate (pa_cons (pv 0) pa_nil)) (pg_tl rfl (pgs_cons (pg_name (i := 4) sc_kept_side.nd rfl (by first | exact Or.inl rfl | exact Or.inr rfl)) (pgs_cons (pg_name (i := 5) sc_kept_side.nd rfl (by first | exact Or.inl rfl | exact Or.inr rfl)) pgs_nil))) (pss_cons (ps_if (pt_val (pe_callS (ok_is_less T) (hr.mono (by decide)) rfl T.g_is_less T.F_is_less.kp T.b_is_less (fun σ => passAt (takes_of rfl rfl rfl rfl) σ) (by exact (pa_cons (pe_callS (ok_times T) (hr.mono (by decide)) rfl T.g_times T.F_times.kp T.b_times (fun σ => passAt (takes_of rfl rfl rfl rfl) σ) (by exact (pa_cons (pe_ix ix_seq (pv 3) (pe_op op_sub (pv 4) pe_int) (fun _ _ => rfl)) (pa_cons (pe_ix ix_seq (pv 3) (pv 4) (fun _ _ => rfl)) pa_nil)))) (pa_cons (pe_glob (v := .ref A.a_NOUGHT) rfl T.m_NOUGHT rfl) pa_nil))))) (pss_one (ps_expr (pe_bm PySem.F.plainAttrs_list PySem.F.slot_list_append PySem.F.type_list_append mt_append (pv 2) (pa_cons (pe_callS (ok_crossing T) hr rfl T.g_crossing T.F_crossing.kp T.b_crossing (fun σ => passAt (takes_of rfl rfl rfl rfl) σ) (by exact (pa_cons (pe_ix ix_seq (pv 0) (pe_op op_sub (pv 4) pe_int) (fun _ _ => rfl)) (pa_cons (pv 5) (pa_cons (pe_ix ix_seq (pv 3) (pe_op op_sub (pv 4) pe_int) (fun _ _ => rfl)) (pa_cons (pe_ix ix_seq (pv 3) (pv 4) (fun _ _ => rfl)) pa_nil)))))) pa_nil)))) pss_nil)
    (pss_one (ps_if (pt_not (pt_val (pe_callS (ok_is_less T) (hr.mono (by decide)) rfl T.g_is_less T.F_is_less.kp T.b_is_less (fun σ => passAt (takes_of rfl rfl rfl rfl) σ) (by exact (pa_cons (pe_ix ix_seq (pv 3) (pv 4) (fun _ _ => rfl)) (pa_cons (pe_glob (v := .ref A.a_NOUGHT) rfl T.m_NOUGHT rfl) pa_nil)))))) (pss_one (ps_expr (pe_bm PySem.F.plainAttrs_list PySem.F.slot_list_append PySem.F.type_list_append mt_append (pv 2) (pa_cons (pv 5) pa_nil)))) pss_nil))))
    (pss_one (ps_ret (pv 2)))))),
    (s_seq (s_set (v_lst a_nil))
    (s_seq (s_setF (v_lc (vs := [5]) (js := [5]) (i_any v_var) g_name (by decide) t_yes (v_call (a_cons v_var (a_cons v_var a_nil)))))
    (s_seq (s_for (i_enum (a_cons v_var a_nil)) (g_tl (gs_cons g_name (gs_cons g_name gs_nil))) (s_seq (s_if (t_val (v_call (a_cons (v_call (a_cons (v_op d_ix v_var (v_op d_sub v_var v_int)) (a_cons (v_op d_ix v_var v_var) a_nil))) (a_cons (v_const T.i_NOUGHT) a_nil)))) (s_mt m_append (a_cons (v_call (a_cons (v_op d_ix v_var (v_op d_sub v_var v_int)) (a_cons v_var (a_cons (v_op d_ix v_var (v_op d_sub v_var v_int)) (a_cons (v_op d_ix v_var v_var) a_nil))))) a_nil)) s_skip)
    (s_if (t_not (t_val (v_call (a_cons (v_op d_ix v_var v_var) (a_cons (v_const T.i_NOUGHT) a_nil))))) (s_mt m_append (a_cons v_var a_nil)) s_skip)))
    s_retV)))⟩
theorem ok_Table_worth (T : Txt K mg base A) : FnOk P w K mg base (L2.CX P w) 5 A.f_Table_worth A.d_Table_worth p_Table_worth (spF (GG K A) F_Table_worth) :=
  fn_okD (k := 4) rfl rfl T.F_Table_worth sc_Table_worth fun cdv Ar outer s H E hr => ⟨_,
    (pss_cons (ps_set (i := 1) sc_Table_worth.nd rfl (by first | exact Or.inl rfl | exact Or.inr rfl) (pe_ifExp (pt_cmpR op_isN (pv 1) pe_non (nomark _)) (pe_glob (v := .ref A.a_FIRST) rfl T.m_FIRST rfl) (pv 1)))
    (pss_cons (ps_set (i := 2) sc_Table_worth.nd rfl (by first | exact Or.inl rfl | exact Or.inr rfl) (pe_ifExp (pt_cmpR op_isN (pv 2) pe_non (nomark _)) (pe_glob (v := .ref A.a_LAST) rfl T.m_LAST rfl) (pv 2)))
    (pss_cons (ps_expr (pe_callS (ok_ask_span T) (hr.mono (by decide)) rfl T.g_ask_span T.F_ask_span.kp T.b_ask_span (fun σ => passAt (takes_of rfl rfl rfl rfl) σ) (by exact (pa_cons (pv 1) (pa_cons (pv 2) pa_nil)))))
    (pss_cons (ps_set (i := 3) sc_Table_worth.nd rfl (by first | exact Or.inl rfl | exact Or.inr rfl) (pe_tup (pa_cons pe_int (pa_cons pe_int pa_nil))))
    (pss_cons (ps_for (passes_of rfl) rfl (pi_any (by exact (pe_mN (pv 0) T.cl_Table T.mt_Table_between (ok_Table_between T) hr T.B_Table_between_3_ (fun σ => passAt (takes_of rfl rfl rfl rfl) σ) (by exact (pa_cons (pv 1) (pa_cons (pv 2) pa_nil)))))) (pg_tl rfl (pgs_cons (pg_name (i := 4) sc_Table_worth.nd rfl (by first | exact Or.inl rfl | exact Or.inr rfl)) (pgs_cons (pg_name (i := 5) sc_Table_worth.nd rfl (by first | exact Or.inl rfl | exact Or.inr rfl)) (pgs_cons (pg_name (i := 6) sc_Table_worth.nd rfl (by first | exact Or.inl rfl | exact Or.inr rfl)) pgs_nil)))) (pss_one (ps_set (i := 3) sc_Table_worth.nd rfl (by first | exact Or.inl rfl | exact Or.inr rfl) (pe_callS (ok_plus T) (hr.mono (by decide)) rfl T.g_plus T.F_plus.kp T.b_plus (fun σ => passAt (takes_of rfl rfl rfl rfl) σ) (by exact (pa_cons (pv 3) (pa_cons (pv 6) pa_nil)))))))
    (pss_one (ps_ret (pv 3)))))))),
    (s_seq (s_setF (v_if (t_test (v_op d_isN v_var v_non)) (v_const T.i_FIRST) v_var))
    (s_seq (s_setF (v_if (t_test (v_op d_isN v_var v_non)) (v_const T.i_LAST) v_var))
    (s_seq (s_drop (v_call (a_cons v_var (a_cons v_var a_nil))))
    (s_seq (s_setF (v_tup (a_cons v_int (a_cons v_int a_nil))))
    (s_seq (s_for (i_any (v_meth (c := 7) (m := "between") (dd := []) nf_Table_between rfl v_var (a_cons v_var (a_cons v_var a_nil)) a_nil)) (g_tl (gs_cons g_name (gs_cons g_name (gs_cons g_name gs_nil)))) (s_setF (v_call (a_cons v_var (a_cons v_var a_nil)))))
    s_retV)))))⟩
theorem ok_Table_cut (T : Txt K mg base A) : FnOk P w K mg base (L2.CX P w) 5 A.f_Table_cut A.d_Table_cut p_Table_cut (spF (GG K A) F_Table_cut) :=
  fn_okD (k := 4) rfl rfl T.F_Table_cut sc_Table_cut fun cdv Ar outer s H E hr => ⟨_,
    (pss_cons (ps_set (i := 3) sc_Table_cut.nd rfl (by first | exact Or.inl rfl | exact Or.inr rfl) (pe_ifExp (pt_cmpR op_isN (pv 3) pe_non (nomark _)) (pe_glob (v := .ref A.a_LAST) rfl T.m_LAST rfl) (pv 3)))
    (pss_cons (ps_expr (pe_callS (ok_ask_span T) (hr.mono (by decide)) rfl T.g_ask_span T.F_ask_span.kp T.b_ask_span (fun σ => passAt (takes_of rfl rfl rfl rfl) σ) (by exact (pa_cons (pv 1) (pa_cons (pv 3) pa_nil)))))
    (pss_cons (ps_if (pt_val (pe_callS (ok_is_less T) (hr.mono (by decide)) rfl T.g_is_less T.F_is_less.kp T.b_is_less (fun σ => passAt (takes_of rfl rfl rfl rfl) σ) (by exact (pa_cons (pv 2) (pa_cons (pe_tup (pa_cons pe_int (pa_cons pe_int pa_nil))) pa_nil))))) (pss_one (ps_raise rfl (takes_of rfl rfl rfl rfl) (pmk_own PySem.F.excBase_ValueError T.x_NoWorth T.g_NoWorth T.k_NoWorth (raises_own T.sb_NoWorth T.t_NoWorth) rfl))) pss_nil)
    (pss_cons (ps_if (pt_cmpR (or_eq hr.units) (pe_ix ix_seq (pv 2) pe_int (fun _ _ => rfl)) pe_int (nomark _)) (pss_one (ps_ret (pv 1))) pss_nil)
    (pss_cons (ps_for (passes_of rfl) rfl (pi_any (by exact (pe_mN (pv 0) T.cl_Table T.mt_Table_between (ok_Table_between T) hr T.B_Table_between_3_ (fun σ => passAt (takes_of rfl rfl rfl rfl) σ) (by exact (pa_cons (pv 1) (pa_cons (pv 3) pa_nil)))))) (pg_tl rfl (pgs_cons (pg_name (i := 4) sc_Table_cut.nd rfl (by first | exact Or.inl rfl | exact Or.inr rfl)) (pgs_cons (pg_name (i := 5) sc_Table_cut.nd rfl (by first | exact Or.inl rfl | exact Or.inr rfl)) (pgs_cons (pg_name (i := 6) sc_Table_cut.nd rfl (by first | exact Or.inl rfl | exact Or.inr rfl)) pgs_nil)))) (pss_cons (ps_if (pt_not (pt_val (pe_callS (ok_is_less T) (hr.mono (by decide)) rfl T.g_is_less T.F_is_less.kp T.b_is_less (fun σ => passAt (takes_of rfl rfl rfl rfl) σ) (by exact (pa_cons (pv 6) (pa_cons (pv 2) pa_nil)))))) (pss_one (ps_ret (pe_callS (ok_plus T) (hr.mono (by decide)) rfl T.g_plus T.F_plus.kp T.b_plus (fun σ => passAt (takes_of rfl rfl rfl rfl) σ) (by exact (pa_cons (pv 4) (pa_cons (pe_callS (ok_times T) (hr.mono (by decide)) rfl T.g_times T.F_times.kp T.b_times (fun σ => passAt (takes_of rfl rfl rfl rfl) σ) (by exact (pa_cons (pe_callS (ok_over T) (hr.mono (by decide)) rfl T.g_over T.F_over.kp T.b_over (fun σ => passAt (takes_of rfl rfl rfl rfl) σ) (by exact (pa_cons (pv 2) (pa_cons (pv 6) pa_nil)))) (pa_cons (pe_callS (ok_minus T) (hr.mono (by decide)) rfl T.g_minus T.F_minus.kp T.b_minus (fun σ => passAt (takes_of rfl rfl rfl rfl) σ) (by exact (pa_cons (pv 5) (pa_cons (pv 4) pa_nil)))) pa_nil)))) pa_nil)))))) pss_nil)
    (pss_one (ps_set (i := 2) sc_Table_cut.nd rfl (by first | exact Or.inl rfl | exact Or.inr rfl) (pe_callS (ok_minus T) (hr.mono (by decide)) rfl T.g_minus T.F_minus.kp T.b_minus (fun σ => passAt (takes_of rfl rfl rfl rfl) σ) (by exact (pa_cons (pv 2) (pa_cons (pv 6) pa_nil))))))))
    (pss_one (ps_ret pe_non))))))),
    (s_seq (s_setF (v_if (t_test (v_op d_isN v_var v_non)) (v_const T.i_LAST) v_var))
    (s_seq (s_drop (v_call (a_cons v_var (a_cons v_var a_nil))))
    (s_seq (s_if (t_val (v_call (a_cons v_var (a_cons (v_tup (a_cons v_int (a_cons v_int a_nil))) a_nil)))) (s_raise rfl) s_skip)
    (s_seq (s_if (t_test (v_op d_eq (v_op d_ix v_var v_int) v_int)) s_retV s_skip)
    (s_seq (s_for (i_any (v_meth (c := 7) (m := "between") (dd := []) nf_Table_between rfl v_var (a_cons v_var (a_cons v_var a_nil)) a_nil)) (g_tl (gs_cons g_name (gs_cons g_name (gs_cons g_name gs_nil)))) (s_seq (s_if (t_not (t_val (v_call (a_cons v_var (a_cons v_var a_nil))))) (s_ret (v_call (a_cons v_var (a_cons (v_call (a_cons (v_call (a_cons v_var (a_cons v_var a_nil))) (a_cons (v_call (a_cons v_var (a_cons v_var a_nil))) a_nil))) a_nil)))) s_skip)
    (s_setF (v_call (a_cons v_var (a_cons v_var a_nil))))))
    (s_ret v_non))))))⟩
theorem ok_sums_up_to (T : Txt K mg base A) : FnOk P w K mg base (L2.CX P w) 6 A.f_sums_up_to A.d_sums_up_to p_sums_up_to (spF (GG K A) F_sums_up_to) :=
  fn_ok (k := 5) rfl rfl T.F_sums_up_to sc_sums_up_to fun cdv Ar outer s H E hr => ⟨_,
    (pss_cons (ps_setLc (i := 2) (own := [("end", 6)]) rfl sc_sums_up_to.nd rfl rfl (sw_true rfl rfl rfl (by decide +kernel)) (pi_any (pv 1)) (blkOk_by (N := n_sums_up_to) (sc := defScope (s_sums_up_to)) (by decide +kernel)) (fun _ _ _ _ _ => (pg_name (i := 6) sc_sums_up_to.nd rfl (by first | exact Or.inl rfl | exact Or.inr rfl))) (fun _ _ _ _ _ => pts_nil) (fun _ _ _ _ _ => (by exact (pe_mN (pv 0) T.cl_Table T.mt_Table_worth (ok_Table_worth T) hr T.B_Table_worth_3_ (fun σ => passAt takes0 σ) (by exact (pa_cons (pe_glob (v := .ref A.a_NOUGHT) rfl T.m_NOUGHT rfl) (pa_cons (pv 6) pa_nil)))))))
    (pss_cons (ps_set (i := 3) sc_sums_up_to.nd rfl (by first | exact Or.inl rfl | exact Or.inr rfl) pe_int)
    (pss_cons (ps_for (passes_of rfl) rfl (pi_any (pv 2)) (pg_tl rfl (pgs_cons (pg_name (i := 4) sc_sums_up_to.nd rfl (by first | exact Or.inl rfl | exact Or.inr rfl)) (pgs_cons (pg_name (i := 5) sc_sums_up_to.nd rfl (by first | exact Or.inl rfl | exact Or.inr rfl)) pgs_nil))) (pss_one (ps_set (i := 3) sc_sums_up_to.nd rfl (by first | exact Or.inl rfl | exact Or.inr rfl) (pe_op or_mul (pv 3) (pe_op or_div (pv 5) (pe_callS (ok_divisor T) (hr.mono (by decide)) rfl T.g_divisor T.F_divisor.kp T.b_divisor (fun σ => passAt (takes_of rfl rfl rfl rfl) σ) (by exact (pa_cons (pv 3) (pa_cons (pv 5) pa_nil)))))))))
    (pss_one (ps_ret (pe_lc (own := [("top", 4), ("bottom", 5)]) rfl sc_sums_up_to.nd (pi_any (pv 2)) (blkOk_by (N := n_sums_up_to) (sc := defScope (s_sums_up_to)) (by decide +kernel)) (fun _ _ _ _ _ => (pg_tl rfl (pgs_cons (pg_name (i := 4) sc_sums_up_to.nd rfl (by first | exact Or.inl rfl | exact Or.inr rfl)) (pgs_cons (pg_name (i := 5) sc_sums_up_to.nd rfl (by first | exact Or.inl rfl | exact Or.inr rfl)) pgs_nil)))) (fun _ _ _ _ _ => pts_nil) (fun _ _ _ _ _ => (pe_op or_mul (pv 4) (pe_op or_div (pv 3) (pv 5)))))))))),
    (s_seq (s_setF (v_lc (vs := [6]) (js := [6]) (i_any v_var) g_name (by decide) t_yes (v_meth (c := 7) (m := "worth") (dd := [.non, .non]) nf_Table_worth rfl v_var (a_cons (v_const T.i_NOUGHT) (a_cons v_var a_nil)) a_nil)))
    (s_seq (s_setF v_int)
    (s_seq (s_for (i_any v_var) (g_tl (gs_cons g_name (gs_cons g_name gs_nil))) (s_setF (v_op d_mul v_var (v_op d_div v_var (v_call (a_cons v_var (a_cons v_var a_nil)))))))
    (s_ret (v_lc (vs := [4, 5]) (i_any v_var) (g_tl (gs_cons g_name (gs_cons g_name gs_nil))) (by decide) t_yes (v_op d_mul v_var (v_op d_div v_var v_var)))))))⟩
theorem ok_corner_for (T : Txt K mg base A) : FnOk P w K mg base (L2.CX P w) 6 A.f_corner_for A.d_corner_for p_corner_for (spF (GG K A) F_corner_for) :=
  fn_ok (k := 5) rfl rfl T.F_corner_for sc_corner_for fun cdv Ar outer s H E hr => ⟨_,
    (pss_cons (ps_set (i := 4) sc_corner_for.nd rfl (by first | exact Or.inl rfl | exact Or.inr rfl) (pe_callS (ok_wishes T) (hr.mono (by decide)) rfl T.g_wishes T.F_wishes.kp T.b_wishes (fun σ => passAt (takes_of rfl rfl rfl rfl) σ) (by exact (pa_cons (pv 0) (pa_cons (pv 1) (pa_cons (pv 2) (pa_cons (pv 3) pa_nil)))))))
    (pss_cons (ps_if (pt_not (pt_val (pe_callB (cr_all rfl) (by rfl) T.z_all (by decide +kernel) (pa_cons (pe_lc (own := [("row", 6)]) rfl sc_corner_for.nd (pi_any (pv 4)) (blkOk_by (N := n_corner_for) (sc := defScope (s_corner_for)) (by decide +kernel)) (fun _ _ _ _ _ => (pg_name (i := 6) sc_corner_for.nd rfl (by first | exact Or.inl rfl | exact Or.inr rfl))) (fun _ _ _ _ _ => pts_nil) (fun _ _ _ _ _ => (pe_callS (ok_may_hold T) (hr.mono (by decide)) rfl T.g_may_hold T.F_may_hold.kp T.b_may_hold (fun σ => passAt takes0 σ) (by exact (pa_cons (pv 6) (pa_cons (pv 1) (pa_cons (pv 2) pa_nil))))))) pa_nil)))) (pss_one (ps_ret pe_non)) pss_nil)
    (pss_cons (ps_set (i := 5) sc_corner_for.nd rfl (by first | exact Or.inl rfl | exact Or.inr rfl) (pe_callS (ok_cell_corners T) (hr.mono (by decide)) rfl T.g_cell_corners T.F_cell_corners.kp T.b_cell_corners (fun σ => passAt (takes_of rfl rfl rfl rfl) σ) (by exact (pa_cons (pv 1) (pa_cons (pv 2) pa_nil)))))
    (pss_cons (ps_for (passes_of rfl) rfl (pi_any (pv 4)) (pg_name (i := 6) sc_corner_for.nd rfl (by first | exact Or.inl rfl | exact Or.inr rfl)) (pss_one (ps_set (i := 5) sc_corner_for.nd rfl (by first | exact Or.inl rfl | exact Or.inr rfl) (pe_callS (ok_kept_side T) hr rfl T.g_kept_side T.F_kept_side.kp T.b_kept_side (fun σ => passAt (takes_of rfl rfl rfl rfl) σ) (by exact (pa_cons (pv 5) (pa_cons (pv 6) pa_nil)))))))
    (pss_cons (ps_if (pt_cmpR (or_eq hr.units) (pe_callB call_len (by rfl) T.z_len (by decide +kernel) (pa_cons (pv 5) pa_nil)) pe_int (nomark _)) (pss_one (ps_ret pe_non)) pss_nil)
    (pss_one (ps_ret (pe_ix ix_seq (pv 5) pe_int (fun _ _ => rfl))))))))),
    (s_seq (s_setF (v_call (a_cons v_var (a_cons v_var (a_cons v_var (a_cons v_var a_nil))))))
    (s_seq (s_if (t_not (t_val (v_cb c_all (a_cons (v_lc (vs := [6]) (js := [6]) (i_any v_var) g_name (by decide) t_yes (v_call (a_cons v_var (a_cons v_var (a_cons v_var a_nil))))) a_nil)))) (s_ret v_non) s_skip)
    (s_seq (s_setF (v_call (a_cons v_var (a_cons v_var a_nil))))
    (s_seq (s_for (i_any v_var) g_name (s_setF (v_call (a_cons v_var (a_cons v_var a_nil)))))
    (s_seq (s_if (t_test (v_op d_eq (v_cb c_len (a_cons v_var a_nil)) v_int)) (s_ret v_non) s_skip)
    (s_ret (v_op d_ix v_var v_int)))))))⟩
theorem ok_two_pieces (T : Txt K mg base A) : FnOk P w K mg base (L2.CX P w) 6 A.f_two_pieces A.d_two_pieces p_two_pieces (spF (GG K A) F_two_pieces) :=
  fn_ok (k := 5) rfl rfl T.F_two_pieces sc_two_pieces fun cdv Ar outer s H E hr => ⟨_,
    (pss_cons (ps_set (i := 2) sc_two_pieces.nd rfl (by first | exact Or.inl rfl | exact Or.inr rfl) (by exact (pe_mN (pv 0) T.cl_Table T.mt_Table_cut (ok_Table_cut T) hr T.B_Table_cut_3_ (fun σ => passAt (takes_of rfl rfl rfl rfl) σ) (by exact (pa_cons (pe_glob (v := .ref A.a_NOUGHT) rfl T.m_NOUGHT rfl) (pa_cons (by exact (pe_gN (ok_fraction_of T) (hr.mono (by decide)) rfl T.g_fraction_of T.F_fraction_of.kp T.B_fraction_of_2_ (fun σ => passAt (takes_of rfl rfl rfl rfl) σ) (by exact (pa_cons (by exact (pe_m0 (pv 0) T.cl_Table T.mt_Table_total (ok_Table_total T) (hr.mono (by decide)) T.B_Table_total_1_ (fun σ => passAt (takes_of rfl rfl rfl rfl) σ))) (pa_cons pe_int pa_nil))))) pa_nil))))))
    (pss_cons (ps_if (pt_val (pe_callS (ok_is_less T) (hr.mono (by decide)) rfl T.g_is_less T.F_is_less.kp T.b_is_less (fun σ => passAt (takes_of rfl rfl rfl rfl) σ) (by exact (pa_cons (by exact (pe_mN (pv 1) T.cl_Table T.mt_Table_worth (ok_Table_worth T) hr T.B_Table_worth_3_ (fun σ => passAt (takes_of rfl rfl rfl rfl) σ) (by exact (pa_cons (pe_glob (v := .ref A.a_NOUGHT) rfl T.m_NOUGHT rfl) (pa_cons (pv 2) pa_nil))))) (pa_cons (by exact (pe_mN (pv 1) T.cl_Table T.mt_Table_worth (ok_Table_worth T) hr T.B_Table_worth_3_ (fun σ => passAt (takes_of rfl rfl rfl rfl) σ) (by exact (pa_cons (pv 2) (pa_cons (pe_glob (v := .ref A.a_ONE) rfl T.m_ONE rfl) pa_nil))))) pa_nil))))) (pss_one (ps_ret (pe_tup (pa_cons (pe_lst (pa_cons (pv 2) pa_nil)) (pa_cons (pe_lst (pa_cons pe_int (pa_cons pe_int pa_nil))) pa_nil))))) pss_nil)
    (pss_one (ps_ret (pe_tup (pa_cons (pe_lst (pa_cons (pv 2) pa_nil)) (pa_cons (pe_lst (pa_cons pe_int (pa_cons pe_int pa_nil))) pa_nil))))))),
    (s_seq (s_setF (v_meth (c := 7) (m := "cut") (dd := [.non]) nf_Table_cut rfl v_var (a_cons (v_const T.i_NOUGHT) (a_cons (v_callG (dd := [(.int 1)]) rfl (a_cons (v_meth (c := 7) (m := "total") (dd := []) nf_Table_total rfl v_var a_nil a_nil) (a_cons v_int a_nil)) a_nil) a_nil)) a_nil))
    (s_seq (s_if (t_val (v_call (a_cons (v_meth (c := 7) (m := "worth") (dd := [.non, .non]) nf_Table_worth rfl v_var (a_cons (v_const T.i_NOUGHT) (a_cons v_var a_nil)) a_nil) (a_cons (v_meth (c := 7) (m := "worth") (dd := [.non, .non]) nf_Table_worth rfl v_var (a_cons v_var (a_cons (v_const T.i_ONE) a_nil)) a_nil) a_nil)))) (s_ret (v_tup (a_cons (v_lst (a_cons v_var a_nil)) (a_cons (v_lst (a_cons v_int (a_cons v_int a_nil))) a_nil)))) s_skip)
    (s_ret (v_tup (a_cons (v_lst (a_cons v_var a_nil)) (a_cons (v_lst (a_cons v_int (a_cons v_int a_nil))) a_nil))))))⟩
theorem ok_three_pieces (T : Txt K mg base A) : FnOk P w K mg base (L2.CX P w) 7 A.f_three_pieces A.d_three_pieces p_three_pieces (spF (GG K A) F_three_pieces) :=
  fn_ok (k := 6) rfl rfl T.F_three_pieces sc_three_pieces fun cdv Ar outer s H E hr => ⟨_,
    (pss_cons (ps_set (i := 1) sc_three_pieces.nd rfl (by first | exact Or.inl rfl | exact Or.inr rfl) (pe_callS (ok_all_ends T) (hr.mono (by decide)) rfl T.g_all_ends T.F_all_ends.kp T.b_all_ends (fun σ => passAt (takes_of rfl rfl rfl rfl) σ) (by exact (pa_cons (pv 0) pa_nil))))
    (pss_cons (ps_setLc (i := 2) (own := [("table", 5)]) rfl sc_three_pieces.nd rfl rfl (sw_true rfl rfl rfl (by decide +kernel)) (pi_any (pv 0)) (blkOk_by (N := n_three_pieces) (sc := defScope (s_three_pieces)) (by decide +kernel)) (fun _ _ _ _ _ => (pg_name (i := 5) sc_three_pieces.nd rfl (by first | exact Or.inl rfl | exact Or.inr rfl))) (fun _ _ _ _ _ => pts_nil) (fun _ _ _ _ _ => (pe_callS (ok_sums_up_to T) hr rfl T.g_sums_up_to T.F_sums_up_to.kp T.b_sums_up_to (fun σ => passAt takes0 σ) (by exact (pa_cons (pv 5) (pa_cons (pv 1) pa_nil))))))
    (pss_cons (ps_for (passes_of rfl) rfl (pi_range1 (by rfl) T.z_range (pa_cons (pe_op op_sub (pe_callB call_len (by rfl) T.z_len (by decide +kernel) (pa_cons (pv 1) pa_nil)) pe_int) pa_nil)) (pg_name (i := 3) sc_three_pieces.nd rfl (by first | exact Or.inl rfl | exact Or.inr rfl)) (pss_one (ps_for (passes_of rfl) rfl (pi_range2 (by rfl) T.z_range (pa_cons (pv 3) (pa_cons (pe_op op_sub (pe_callB call_len (by rfl) T.z_len (by decide +kernel) (pa_cons (pv 1) pa_nil)) pe_int) pa_nil))) (pg_name (i := 4) sc_three_pieces.nd rfl (by first | exact Or.inl rfl | exact Or.inr rfl)) (pss_one (ps_for (passes_of rfl) rfl (pi_any (pe_glob (v := .ref A.a_ORDERS) rfl T.m_ORDERS rfl)) (pg_name (i := 6) sc_three_pieces.nd rfl (by first | exact Or.inl rfl | exact Or.inr rfl)) (pss_cons (ps_set (i := 7) sc_three_pieces.nd rfl (by first | exact Or.inl rfl | exact Or.inr rfl) (pe_callS (ok_corner_for T) hr rfl T.g_corner_for T.F_corner_for.kp T.b_corner_for (fun σ => passAt (takes_of rfl rfl rfl rfl) σ) (by exact (pa_cons (pv 2) (pa_cons (pv 3) (pa_cons (pv 4) (pa_cons (pv 6) pa_nil)))))))
    (pss_one (ps_if (pt_cmpR op_notN (pv 7) pe_non (nomark _)) (pss_one (ps_ret (pe_tup (pa_cons (pe_lst (pa_cons (pe_callS (ok_place_in T) (hr.mono (by decide)) rfl T.g_place_in T.F_place_in.kp T.b_place_in (fun σ => passAt (takes_of rfl rfl rfl rfl) σ) (by exact (pa_cons (pv 1) (pa_cons (pv 3) (pa_cons (pe_ix ix_seq (pv 7) pe_int (fun _ _ => rfl)) pa_nil))))) (pa_cons (pe_callS (ok_place_in T) (hr.mono (by decide)) rfl T.g_place_in T.F_place_in.kp T.b_place_in (fun σ => passAt (takes_of rfl rfl rfl rfl) σ) (by exact (pa_cons (pv 1) (pa_cons (pv 4) (pa_cons (pe_ix ix_seq (pv 7) pe_int (fun _ _ => rfl)) pa_nil))))) pa_nil))) (pa_cons (pe_callTy call_list_of (by rfl) T.z_list (by decide +kernel) (pa_cons (pv 6) pa_nil)) pa_nil))))) pss_nil))))))))
    (pss_one (ps_ret (pe_tup (pa_cons (pe_lst pa_nil) (pa_cons (pe_lst pa_nil) pa_nil)))))))),
    (s_seq (s_setF (v_call (a_cons v_var a_nil)))
    (s_seq (s_setF (v_lc (vs := [5]) (js := [5]) (i_any v_var) g_name (by decide) t_yes (v_call (a_cons v_var (a_cons v_var a_nil)))))
    (s_seq (s_for (i_range1 (a_cons (v_op d_sub (v_cb c_len (a_cons v_var a_nil)) v_int) a_nil)) g_name (s_for (i_range2 (a_cons v_var (a_cons (v_op d_sub (v_cb c_len (a_cons v_var a_nil)) v_int) a_nil))) g_name (s_for (i_any (v_const T.i_ORDERS)) g_name (s_seq (s_setF (v_call (a_cons v_var (a_cons v_var (a_cons v_var (a_cons v_var a_nil))))))
    (s_if (t_test (v_op d_notN v_var v_non)) (s_ret (v_tup (a_cons (v_lst (a_cons (v_call (a_cons v_var (a_cons v_var (a_cons (v_op d_ix v_var v_int) a_nil)))) (a_cons (v_call (a_cons v_var (a_cons v_var (a_cons (v_op d_ix v_var v_int) a_nil)))) a_nil))) (a_cons (v_cb c_list (a_cons v_var a_nil)) a_nil)))) s_skip)))))
    (s_ret (v_tup (a_cons (v_lst a_nil) (a_cons (v_lst a_nil) a_nil)))))))⟩
theorem ok_whole_pieces (T : Txt K mg base A) : FnOk P w K mg base (L2.CX P w) 8 A.f_whole_pieces A.d_whole_pieces p_whole_pieces (spF (GG K A) F_whole_pieces) :=
  fn_ok (k := 7) rfl rfl T.F_whole_pieces sc_whole_pieces fun cdv Ar outer s H E hr => ⟨_,
    (pss_cons (ps_if (PW.pt (pw_or (pt_cmpR op_lt (pe_callB call_len (by rfl) T.z_len (by decide +kernel) (pa_cons (pv 0) pa_nil)) pe_int (nomark _)) (pw_or1 (pt_cmpR op_gt (pe_callB call_len (by rfl) T.z_len (by decide +kernel) (pa_cons (pv 0) pa_nil)) pe_int (nomark _))))) (pss_one (ps_raise rfl (takes_of rfl rfl rfl rfl) (pmk_own PySem.F.excBase_ValueError T.x_NoHands T.g_NoHands T.k_NoHands (raises_own T.sb_NoHands T.t_NoHands) rfl))) pss_nil)
    (pss_cons (ps_if (pt_cmpR (or_eq hr.units) (pe_callB call_len (by rfl) T.z_len (by decide +kernel) (pa_cons (pv 0) pa_nil)) pe_int (nomark _)) (pss_one (ps_ret (pe_callS (ok_two_pieces T) (hr.mono (by decide)) rfl T.g_two_pieces T.F_two_pieces.kp T.b_two_pieces (fun σ => passAt (takes_of rfl rfl rfl rfl) σ) (by exact (pa_cons (pe_ix ix_seq (pv 0) pe_int (fun _ _ => rfl)) (pa_cons (pe_ix ix_seq (pv 0) pe_int (fun _ _ => rfl)) pa_nil)))))) pss_nil)
    (pss_cons (ps_if (pt_val (pe_callB (cr_any rfl) (by rfl) T.z_any (by decide +kernel) (pa_cons (pe_lc (own := [("table", 1)]) rfl sc_whole_pieces.nd (pi_any (pv 0)) (blkOk_by (N := n_whole_pieces) (sc := defScope (s_whole_pieces)) (by decide +kernel)) (fun _ _ _ _ _ => (pg_name (i := 1) sc_whole_pieces.nd rfl (by first | exact Or.inl rfl | exact Or.inr rfl))) (fun _ _ _ _ _ => pts_nil) (fun _ _ _ _ _ => (pe_cmpR op_gt (pe_callB (CallR.or call_len (call_lenO (G := GG K A) (k := 1) (Os := [(7, F_Table___len__)]) (List.forall_mem_cons.mpr ⟨⟨⟨_, _, _, T.mt_Table___len__, (ok_Table___len__ T).mono (by decide), T.b_Table___len__, rfl⟩⟩, (fun _ h => nomatch h)⟩) (hr.mono (by decide)))) (by rfl) T.z_len (by decide +kernel) (pa_cons (pv 1) pa_nil)) (pe_glob (v := .int 4) rfl T.m_MOST ⟨_, rfl⟩) (nomark _)))) pa_nil))) (pss_one (ps_raise rfl (takes_of rfl rfl rfl rfl) (pmk_own PySem.F.excBase_ValueError T.x_TooMany T.g_TooMany T.k_TooMany (raises_own T.sb_TooMany T.t_TooMany) rfl))) pss_nil)
    (pss_one (ps_ret (pe_callS (ok_three_pieces T) hr rfl T.g_three_pieces T.F_three_pieces.kp T.b_three_pieces (fun σ => passAt (takes_of rfl rfl rfl rfl) σ) (by exact (pa_cons (pv 0) pa_nil)))))))),
    (s_seq (s_if (t_or (t_test (v_op d_lt (v_cb c_len (a_cons v_var a_nil)) v_int)) (t_test (v_op d_gt (v_cb c_len (a_cons v_var a_nil)) v_int))) (s_raise rfl) s_skip)
    (s_seq (s_if (t_test (v_op d_eq (v_cb c_len (a_cons v_var a_nil)) v_int)) (s_ret (v_call (a_cons (v_op d_ix v_var v_int) (a_cons (v_op d_ix v_var v_int) a_nil)))) s_skip)
    (s_seq (s_if (t_val (v_cb c_any (a_cons (v_lc (vs := [1]) (js := [1]) (i_any v_var) g_name (by decide) t_yes (v_op d_gt (v_lenX v_var) v_int)) a_nil))) (s_raise rfl) s_skip)
    (s_ret (v_call (a_cons v_var a_nil))))))⟩
theorem ok_law_answer (T : Txt K mg base A) : FnOk P w K mg base (L2.CX P w) 9 A.f_law_answer A.d_law_answer p_law_answer (spF (GG K A) F_law_answer) :=
  fn_ok (k := 8) rfl rfl T.F_law_answer sc_law_answer fun cdv Ar outer s H E hr => ⟨_,
    (pss_cons (ps_set (i := 1) sc_law_answer.nd rfl (by first | exact Or.inl rfl | exact Or.inr rfl) pe_non)
    (pss_cons (ps_set (i := 2) sc_law_answer.nd rfl (by first | exact Or.inl rfl | exact Or.inr rfl) pe_str)
    (pss_cons (ps_try_mix rfl rfl (takes_of rfl rfl rfl rfl) (fun W pn xe tk po => (pss_one (ps_set (i := 1) sc_law_answer.nd rfl (by first | exact Or.inl rfl | exact Or.inr rfl) (pe_callS (ok_whole_pieces T) hr rfl T.g_whole_pieces T.F_whole_pieces.kp T.b_whole_pieces (fun σ => passAt tk σ) (by exact (pa_cons (pv 0) pa_nil)))))) (.cons (o := some 3) ⟨sc_law_answer.nd, rfl, rfl⟩ ⟨rfl, by decide, Or.inl T.g_NoHands⟩ (fun a oe cls d pn hz hf => (pss_one (ps_set (i := 2) sc_law_answer.nd rfl (by first | exact Or.inl rfl | exact Or.inr rfl) (pe_lst (pa_cons pe_str (pa_cons (pe_callB (call_isEx hz hf) (by rfl) T.z_isinstance (by decide +kernel) (pa_cons (pv 3) (pa_cons (pe_glob (v := .ref A.c_CrumbError) rfl T.g_CrumbError rfl) pa_nil))) (pa_cons (pe_callB (call_isEx hz hf) (by rfl) T.z_isinstance (by decide +kernel) (pa_cons (pv 3) (pa_cons (pe_bltn (v := .ty "ValueError") (by rfl) T.z_ValueError (by decide +kernel) rfl) pa_nil))) (pa_cons (pe_callB (call_isEx hz hf) (by rfl) T.z_isinstance (by decide +kernel) (pa_cons (pv 3) (pa_cons (pe_glob (v := .ref A.c_TooMany) rfl T.g_TooMany rfl) pa_nil))) pa_nil)))))))) (.cons (o := some 3) ⟨sc_law_answer.nd, rfl, rfl⟩ ⟨rfl, by decide, Or.inl T.g_TooMany⟩ (fun a oe cls d pn hz hf => (pss_one (ps_set (i := 2) sc_law_answer.nd rfl (by first | exact Or.inl rfl | exact Or.inr rfl) (pe_lst (pa_cons pe_str (pa_cons (pe_callB (call_isEx hz hf) (by rfl) T.z_isinstance (by decide +kernel) (pa_cons (pv 3) (pa_cons (pe_glob (v := .ref A.c_CrumbError) rfl T.g_CrumbError rfl) pa_nil))) (pa_cons (pe_callB (call_isEx hz hf) (by rfl) T.z_isinstance (by decide +kernel) (pa_cons (pv 3) (pa_cons (pe_bltn (v := .ty "ValueError") (by rfl) T.z_ValueError (by decide +kernel) rfl) pa_nil))) (pa_cons (pe_callB (call_isEx hz hf) (by rfl) T.z_isinstance (by decide +kernel) (pa_cons (pv 3) (pa_cons (pe_glob (v := .ref A.c_NoHands) rfl T.g_NoHands rfl) pa_nil))) pa_nil)))))))) .nil)))
    (pss_one (ps_ret (pe_tup (pa_cons (pv 1) (pa_cons (pv 2) pa_nil)))))))),
    (s_seq (s_setF v_non)
    (s_seq (s_setF v_str)
    (s_seq (s_tryM (G := GG K A) (fun W => (s_setF (v_call (a_cons v_var a_nil)))) (.consN (h := fun c l => (sSetF 2 (dLst (aCons (dC (.str "NoHands")) (aCons (dIsEN 3 l (sub_CrumbError c)) (aCons (dIsEN 3 l (sub_ValueError c)) (aCons (dIsEN 3 l (sub_TooMany c)) aNil))))))) T.ex_NoHands (fun c l a x cls d hc hx hx' hcls hdd => (s_setF (v_lst (a_cons v_str (a_cons (v_isEN (C := .ref A.c_CrumbError) (cv := .ref A.c_CrumbError) hcls hdd hx' (T.ec_NoHands c hc) (fun _ h => h) (T.ki_CrumbError c)) (a_cons (v_isEN (C := .ty "ValueError") (cv := .type "ValueError") hcls hdd hx' (T.ec_NoHands c hc) (fun _ h => h) (T.ki_ValueError c)) (a_cons (v_isEN (C := .ref A.c_TooMany) (cv := .ref A.c_TooMany) hcls hdd hx' (T.ec_NoHands c hc) (fun _ h => h) (T.ki_TooMany c)) a_nil))))))) (.consN (h := fun c l => (sSetF 2 (dLst (aCons (dC (.str "TooMany")) (aCons (dIsEN 3 l (sub_CrumbError c)) (aCons (dIsEN 3 l (sub_ValueError c)) (aCons (dIsEN 3 l (sub_NoHands c)) aNil))))))) T.ex_TooMany (fun c l a x cls d hc hx hx' hcls hdd => (s_setF (v_lst (a_cons v_str (a_cons (v_isEN (C := .ref A.c_CrumbError) (cv := .ref A.c_CrumbError) hcls hdd hx' (T.ec_TooMany c hc) (fun _ h => h) (T.ki_CrumbError c)) (a_cons (v_isEN (C := .ty "ValueError") (cv := .type "ValueError") hcls hdd hx' (T.ec_TooMany c hc) (fun _ h => h) (T.ki_ValueError c)) (a_cons (v_isEN (C := .ref A.c_NoHands) (cv := .ref A.c_NoHands) hcls hdd hx' (T.ec_TooMany c hc) (fun _ h => h) (T.ki_NoHands c)) a_nil))))))) .nil)))
    (s_ret (v_tup (a_cons v_var (a_cons v_var a_nil)))))))⟩
theorem ok_law_well (T : Txt K mg base A) : FnOk P w K mg base (L2.CX P w) 10 A.f_law_well A.d_law_well p_law_well (spF (GG K A) F_law_well) :=
  fn_ok (k := 9) rfl rfl T.F_law_well sc_law_well fun cdv Ar outer s H E hr => ⟨_,
    (pss_cons (ps_setLc (i := 1) (own := [("_law_row", 4)]) rfl sc_law_well.nd rfl rfl (sw_true rfl rfl rfl (by decide +kernel)) (pi_any (pv 0)) (blkOk_by (N := n_law_well) (sc := defScope (s_law_well)) (by decide +kernel)) (fun _ _ _ _ _ => (pg_name (i := 4) sc_law_well.nd rfl (by first | exact Or.inl rfl | exact Or.inr rfl))) (fun _ _ _ _ _ => pts_nil) (fun _ _ _ _ _ => (by exact (pe_kN T.mk_Table (ok_Table___init__ T) (hr.mono (by decide)) rfl T.g_Table T.B_Table___init___2_ (fun σ => passAt takes0 σ) (by exact (pa_cons (pv 4) pa_nil))))))
    (pss_cons (ps_asg (pe_callS (ok_law_answer T) hr rfl T.g_law_answer T.F_law_answer.kp T.b_law_answer (fun σ => passAt (takes_of rfl rfl rfl rfl) σ) (by exact (pa_cons (pv 1) pa_nil))) (pg_tl rfl (pgs_cons (pg_name (i := 2) sc_law_well.nd rfl (by first | exact Or.inl rfl | exact Or.inr rfl)) (pgs_cons (pg_name (i := 3) sc_law_well.nd rfl (by first | exact Or.inl rfl | exact Or.inr rfl)) pgs_nil))))
    (pss_cons (ps_if (PW.pt (pw_or (pt_cmpR op_lt (pe_callB call_len (by rfl) T.z_len (by decide +kernel) (pa_cons (pv 0) pa_nil)) pe_int (nomark _)) (pw_or1 (pt_cmpR op_gt (pe_callB call_len (by rfl) T.z_len (by decide +kernel) (pa_cons (pv 0) pa_nil)) pe_int (nomark _))))) (pss_one (ps_ret (pe_cmpR (or_eq hr.units) (pv 3) (pe_lst (pa_cons pe_str (pa_cons pe_bl (pa_cons pe_bl (pa_cons pe_bl pa_nil))))) (nomark _)))) pss_nil)
    (pss_cons (ps_if (PW.pt (pw_and (pt_cmpR (or_eq hr.units) (pe_callB call_len (by rfl) T.z_len (by decide +kernel) (pa_cons (pv 0) pa_nil)) pe_int (nomark _)) (pw_and1 (pt_cmpR op_gt (pe_callB (cr_max rfl) (by rfl) T.z_max (by decide +kernel) (pa_cons (pe_lc (own := [("_law_row", 4)]) rfl sc_law_well.nd (pi_any (pv 0)) (blkOk_by (N := n_law_well) (sc := defScope (s_law_well)) (by decide +kernel)) (fun _ _ _ _ _ => (pg_name (i := 4) sc_law_well.nd rfl (by first | exact Or.inl rfl | exact Or.inr rfl))) (fun _ _ _ _ _ => pts_nil) (fun _ _ _ _ _ => (pe_callB call_len (by rfl) T.z_len (by decide +kernel) (pa_cons (pv 4) pa_nil)))) pa_nil)) pe_int (nomark _))))) (pss_one (ps_ret (pe_cmpR (or_eq hr.units) (pv 3) (pe_lst (pa_cons pe_str (pa_cons pe_bl (pa_cons pe_bl (pa_cons pe_bl pa_nil))))) (nomark _)))) pss_nil)
    (pss_one (ps_ret (pe_and (pe_cmpR (or_eq hr.units) (pv 3) pe_str (nomark _)) (pe_and (pe_callS (ok_law_paper T) (hr.mono (by decide)) rfl T.g_law_paper T.F_law_paper.kp T.b_law_paper (fun σ => passAt (takes_of rfl rfl rfl rfl) σ) (by exact (pa_cons (pv 2) (pa_cons (pv 0) pa_nil)))) (pe_one (pe_callS (ok_law_content T) (hr.mono (by decide)) rfl T.g_law_content T.F_law_content.kp T.b_law_content (fun σ => passAt (takes_of rfl rfl rfl rfl) σ) (by exact (pa_cons (pv 2) (pa_cons (pv 0) pa_nil))))))))))))),
    (s_seq (s_setF (v_lc (vs := [4]) (js := [4]) (i_any v_var) g_name (by decide) t_yes (v_make (c := 7) (dd := []) rfl (a_cons v_var a_nil) a_nil)))
    (s_seq (s_asg (v_call (a_cons v_var a_nil)) (g_tl (gs_cons g_name (gs_cons g_name gs_nil))))
    (s_seq (s_if (t_or (t_test (v_op d_lt (v_cb c_len (a_cons v_var a_nil)) v_int)) (t_test (v_op d_gt (v_cb c_len (a_cons v_var a_nil)) v_int))) (s_ret (v_op d_eq v_var (v_lst (a_cons v_str (a_cons v_bl (a_cons v_bl (a_cons v_bl a_nil))))))) s_skip)
    (s_seq (s_if (t_and (t_test (v_op d_eq (v_cb c_len (a_cons v_var a_nil)) v_int)) (t_test (v_op d_gt (v_cb c_maxL (a_cons (v_lc (vs := [4]) (js := [4]) (i_any v_var) g_name (by decide) t_yes (v_cb c_len (a_cons v_var a_nil))) a_nil)) v_int))) (s_ret (v_op d_eq v_var (v_lst (a_cons v_str (a_cons v_bl (a_cons v_bl (a_cons v_bl a_nil))))))) s_skip)
    (s_ret (v_and (v_op d_eq v_var v_str) (v_and (v_call (a_cons v_var (a_cons v_var a_nil))) (v_call (a_cons v_var (a_cons v_var a_nil))))))))))⟩
theorem ok_law (T : Txt K mg base A) : FnOk P w K mg base (L2.CX P w) 11 A.f_law A.d_law p_law (spF (GG K A) F_law) :=
  fn_ok (k := 10) rfl rfl T.F_law sc_law fun cdv Ar outer s H E hr => ⟨_,
    (pss_cons (ps_set (i := 1) sc_law.nd rfl (by first | exact Or.inl rfl | exact Or.inr rfl) (pe_lst (pa_cons (pe_callTy call_list_of (by rfl) T.z_list (by decide +kernel) (pa_cons (pv 0) pa_nil)) (pa_cons pe_int (pa_cons pe_int (pa_cons pe_int pa_nil))))))
    (pss_cons (ps_set (i := 2) sc_law.nd rfl (by first | exact Or.inl rfl | exact Or.inr rfl) (pe_ix ix_seq (pe_lst (pa_cons pe_int (pa_cons pe_int (pa_cons pe_int (pa_cons pe_int (pa_cons pe_int (pa_cons pe_int (pa_cons pe_int (pa_cons pe_int pa_nil))))))))) (pe_callS (ok_law_take T) (hr.mono (by decide)) rfl T.g_law_take T.F_law_take.kp T.b_law_take (fun σ => passAt (takes_of rfl rfl rfl rfl) σ) (by exact (pa_cons (pv 1) (pa_cons pe_int pa_nil)))) (fun _ _ => rfl)))
    (pss_cons (ps_set (i := 3) sc_law.nd rfl (by first | exact Or.inl rfl | exact Or.inr rfl) (pe_callS (ok_law_take T) (hr.mono (by decide)) rfl T.g_law_take T.F_law_take.kp T.b_law_take (fun σ => passAt (takes_of rfl rfl rfl rfl) σ) (by exact (pa_cons (pv 1) (pa_cons pe_int pa_nil)))))
    (pss_cons (ps_setLc (i := 4) (own := [("_law_k", 5)]) rfl sc_law.nd rfl rfl (sw_true rfl rfl rfl (by decide +kernel)) (pi_range1 (by rfl) T.z_range (pa_cons (pv 2) pa_nil)) (blkOk_by (N := n_law) (sc := defScope (s_law)) (by decide +kernel)) (fun _ _ _ _ _ => (pg_name (i := 5) sc_law.nd rfl (by first | exact Or.inl rfl | exact Or.inr rfl))) (fun _ _ _ _ _ => pts_nil) (fun _ _ _ _ _ => (pe_callS (ok_law_long T) (hr.mono (by decide)) rfl T.g_law_long T.F_law_long.kp T.b_law_long (fun σ => passAt takes0 σ) (by exact (pa_cons (pv 1) (pa_cons (pe_callTy call_intA (by rfl) T.z_int (by decide +kernel) (pa_cons (pe_and (pe_cmpR (or_ne hr.units) (pv 5) (pv 3) (nomark _)) (pe_one (pe_cmpR op_lt (pv 3) pe_int (nomark _)))) pa_nil)) pa_nil))))))
    (pss_cons (ps_if (pt_not (pt_val (pe_callS (ok_law_well T) hr rfl T.g_law_well T.F_law_well.kp T.b_law_well (fun σ => passAt (takes_of rfl rfl rfl rfl) σ) (by exact (pa_cons (pv 4) pa_nil))))) (pss_one (ps_ret pe_bl)) pss_nil)
    (pss_one (ps_ret (pe_callS (ok_law_well T) hr rfl T.g_law_well T.F_law_well.kp T.b_law_well (fun σ => passAt (takes_of rfl rfl rfl rfl) σ) (by exact (pa_cons (pe_slice sl_any (pe_op or_add (pv 4) (pe_lst (pa_cons (pe_lst (pa_cons (pe_tup (pa_cons pe_int (pa_cons pe_int pa_nil))) pa_nil)) (pa_cons (pe_lst (pa_cons (pe_tup (pa_cons pe_int (pa_cons pe_int pa_nil))) (pa_cons (pe_tup (pa_cons pe_int (pa_cons pe_int pa_nil))) pa_nil))) pa_nil)))) po_none (po_some pe_int)) pa_nil)))))))))),
    (s_seq (s_setF (v_put (v_lst (a_cons (v_cb c_list (a_cons v_var a_nil)) (a_cons v_int (a_cons v_int (a_cons v_int a_nil)))))))
    (s_seq (s_setF (v_op d_ix (v_lst (a_cons v_int (a_cons v_int (a_cons v_int (a_cons v_int (a_cons v_int (a_cons v_int (a_cons v_int (a_cons v_int a_nil))))))))) (v_call (a_cons v_var (a_cons v_int a_nil)))))
    (s_seq (s_setF (v_call (a_cons v_var (a_cons v_int a_nil))))
    (s_seq (s_setF (v_lc (vs := [5]) (js := [5]) (i_range1 (a_cons v_var a_nil)) g_name (by decide) t_yes (v_call (a_cons v_var (a_cons (v_cb c_int (a_cons (v_and (v_op d_ne v_var v_var) (v_op d_lt v_var v_int)) a_nil)) a_nil)))))
    (s_seq (s_if (t_not (t_val (v_call (a_cons v_var a_nil)))) (s_ret v_bl) s_skip)
    (s_ret (v_call (a_cons (v_sl d_sl (v_op d_add v_var (v_lst (a_cons (v_lst (a_cons (v_tup (a_cons v_int (a_cons v_int a_nil))) a_nil)) (a_cons (v_lst (a_cons (v_tup (a_cons v_int (a_cons v_int a_nil))) (a_cons (v_tup (a_cons v_int (a_cons v_int a_nil))) a_nil))) a_nil)))) o_none (o_some v_int)) a_nil))))))))⟩
end
end Dn
namespace Dn
open PySem PySem.Spec PyProof.Rows L2
theorem all_mk {l : PySem.W.OpenLaw} {w : World} {K : PySem.W.Frag} {h : Heap} {mg : Str → Option Value} {fa : Addr} (X : K.In h) (G : h.Ns mainGlobals mg) (hfa : mg "law" = some (.ref fa))
    {c_CrumbError : Addr}
    {c_NoFraction : Addr}
    {c_NoTable : Addr}
    {c_NoSpan : Addr}
    {c_NoWorth : Addr}
    {c_NoHands : Addr}
    {c_TooMany : Addr}
    {c_Table : Addr}
    {f0 : Addr} {od0 an0 : Option Addr} {sl0 : Array (Option Value)} {oc0 kV0 dc0 pm0 ct0 : Value}
    {cd0 : Value}
    {f1 : Addr} {od1 an1 : Option Addr} {sl1 : Array (Option Value)} {oc1 kV1 dc1 pm1 ct1 : Value}
    {cd1 : Value}
    {f2 : Addr} {od2 an2 : Option Addr} {sl2 : Array (Option Value)} {oc2 kV2 dc2 pm2 ct2 : Value}
    {cd2 : Value}
    {f3 : Addr} {od3 an3 : Option Addr} {sl3 : Array (Option Value)} {oc3 kV3 dc3 pm3 ct3 : Value}
    {cd3 : Value}
    {f4 : Addr} {od4 an4 : Option Addr} {sl4 : Array (Option Value)} {oc4 kV4 dc4 pm4 ct4 : Value}
    {cd4 : Value}
    {f5 : Addr} {od5 an5 : Option Addr} {sl5 : Array (Option Value)} {oc5 kV5 dc5 pm5 ct5 : Value}
    {cd5 : Value}
    {f6 : Addr} {od6 an6 : Option Addr} {sl6 : Array (Option Value)} {oc6 kV6 dc6 pm6 ct6 : Value}
    {cd6 : Value}
    {f7 : Addr} {od7 an7 : Option Addr} {sl7 : Array (Option Value)} {oc7 kV7 dc7 pm7 ct7 : Value}
    {cd7 : Value}
    {f8 : Addr} {od8 an8 : Option Addr} {sl8 : Array (Option Value)} {oc8 kV8 dc8 pm8 ct8 : Value}
    {cd8 : Value}
    {f9 : Addr} {od9 an9 : Option Addr} {sl9 : Array (Option Value)} {oc9 kV9 dc9 pm9 ct9 : Value}
    {cd9 : Value}
    {f10 : Addr} {od10 an10 : Option Addr} {sl10 : Array (Option Value)} {oc10 kV10 dc10 pm10 ct10 : Value}
    {cd10 : Value}
    {f11 : Addr} {od11 an11 : Option Addr} {sl11 : Array (Option Value)} {oc11 kV11 dc11 pm11 ct11 : Value}
    {cd11 : Value}
    {f12 : Addr} {od12 an12 : Option Addr} {sl12 : Array (Option Value)} {oc12 kV12 dc12 pm12 ct12 : Value}
    {cd12 : Value}
    {f13 : Addr} {od13 an13 : Option Addr} {sl13 : Array (Option Value)} {oc13 kV13 dc13 pm13 ct13 : Value}
    {cd13 : Value}
    {f14 : Addr} {od14 an14 : Option Addr} {sl14 : Array (Option Value)} {oc14 kV14 dc14 pm14 ct14 : Value}
    {cd14 : Value}
    {T14 : Addr} {q14 : Value} {qd14 : Option Addr} {qn14 : Nat} {qs14 : Array (Option Value)}
    {tt14_0 : Tok}
    {f15 : Addr} {od15 an15 : Option Addr} {sl15 : Array (Option Value)} {oc15 kV15 dc15 pm15 ct15 : Value}
    {cd15 : Value}
    {f16 : Addr} {od16 an16 : Option Addr} {sl16 : Array (Option Value)} {oc16 kV16 dc16 pm16 ct16 : Value}
    {cd16 : Value}
    {f17 : Addr} {od17 an17 : Option Addr} {sl17 : Array (Option Value)} {oc17 kV17 dc17 pm17 ct17 : Value}
    {cd17 : Value}
    {f18 : Addr} {od18 an18 : Option Addr} {sl18 : Array (Option Value)} {oc18 kV18 dc18 pm18 ct18 : Value}
    {cd18 : Value}
    {f19 : Addr} {od19 an19 : Option Addr} {sl19 : Array (Option Value)} {oc19 kV19 dc19 pm19 ct19 : Value}
    {cd19 : Value}
    {f20 : Addr} {od20 an20 : Option Addr} {sl20 : Array (Option Value)} {oc20 kV20 dc20 pm20 ct20 : Value}
    {cd20 : Value}
    {f21 : Addr} {od21 an21 : Option Addr} {sl21 : Array (Option Value)} {oc21 kV21 dc21 pm21 ct21 : Value}
    {cd21 : Value}
    {f22 : Addr} {od22 an22 : Option Addr} {sl22 : Array (Option Value)} {oc22 kV22 dc22 pm22 ct22 : Value}
    {cd22 : Value}
    {f23 : Addr} {od23 an23 : Option Addr} {sl23 : Array (Option Value)} {oc23 kV23 dc23 pm23 ct23 : Value}
    {cd23 : Value}
    {f24 : Addr} {od24 an24 : Option Addr} {sl24 : Array (Option Value)} {oc24 kV24 dc24 pm24 ct24 : Value}
    {cd24 : Value}
    {f25 : Addr} {od25 an25 : Option Addr} {sl25 : Array (Option Value)} {oc25 kV25 dc25 pm25 ct25 : Value}
    {cd25 : Value}
    {f26 : Addr} {od26 an26 : Option Addr} {sl26 : Array (Option Value)} {oc26 kV26 dc26 pm26 ct26 : Value}
    {cd26 : Value}
    {f27 : Addr} {od27 an27 : Option Addr} {sl27 : Array (Option Value)} {oc27 kV27 dc27 pm27 ct27 : Value}
    {cd27 : Value}
    {f28 : Addr} {od28 an28 : Option Addr} {sl28 : Array (Option Value)} {oc28 kV28 dc28 pm28 ct28 : Value}
    {cd28 : Value}
    {f29 : Addr} {od29 an29 : Option Addr} {sl29 : Array (Option Value)} {oc29 kV29 dc29 pm29 ct29 : Value}
    {cd29 : Value}
    {f30 : Addr} {od30 an30 : Option Addr} {sl30 : Array (Option Value)} {oc30 kV30 dc30 pm30 ct30 : Value}
    {cd30 : Value}
    {f31 : Addr} {od31 an31 : Option Addr} {sl31 : Array (Option Value)} {oc31 kV31 dc31 pm31 ct31 : Value}
    {cd31 : Value}
    {f32 : Addr} {od32 an32 : Option Addr} {sl32 : Array (Option Value)} {oc32 kV32 dc32 pm32 ct32 : Value}
    {cd32 : Value}
    {f33 : Addr} {od33 an33 : Option Addr} {sl33 : Array (Option Value)} {oc33 kV33 dc33 pm33 ct33 : Value}
    {cd33 : Value}
    {f34 : Addr} {od34 an34 : Option Addr} {sl34 : Array (Option Value)} {oc34 kV34 dc34 pm34 ct34 : Value}
    {cd34 : Value}
    {f35 : Addr} {od35 an35 : Option Addr} {sl35 : Array (Option Value)} {oc35 kV35 dc35 pm35 ct35 : Value}
    {cd35 : Value}
    {f36 : Addr} {od36 an36 : Option Addr} {sl36 : Array (Option Value)} {oc36 kV36 dc36 pm36 ct36 : Value}
    {cd36 : Value}
    {f37 : Addr} {od37 an37 : Option Addr} {sl37 : Array (Option Value)} {oc37 kV37 dc37 pm37 ct37 : Value}
    {cd37 : Value}
    {f38 : Addr} {od38 an38 : Option Addr} {sl38 : Array (Option Value)} {oc38 kV38 dc38 pm38 ct38 : Value}
    {cd38 : Value}
    {f39 : Addr} {od39 an39 : Option Addr} {sl39 : Array (Option Value)} {oc39 kV39 dc39 pm39 ct39 : Value}
    {cd39 : Value}
    {T39 : Addr} {q39 : Value} {qd39 : Option Addr} {qn39 : Nat} {qs39 : Array (Option Value)}
    {f40 : Addr} {od40 an40 : Option Addr} {sl40 : Array (Option Value)} {oc40 kV40 dc40 pm40 ct40 : Value}
    {cd40 : Value}
    {T40 : Addr} {q40 : Value} {qd40 : Option Addr} {qn40 : Nat} {qs40 : Array (Option Value)}
    {f41 : Addr} {od41 an41 : Option Addr} {sl41 : Array (Option Value)} {oc41 kV41 dc41 pm41 ct41 : Value}
    {cd41 : Value}
    {f42 : Addr} {od42 an42 : Option Addr} {sl42 : Array (Option Value)} {oc42 kV42 dc42 pm42 ct42 : Value}
    {cd42 : Value}
    {f43 : Addr} {od43 an43 : Option Addr} {sl43 : Array (Option Value)} {oc43 kV43 dc43 pm43 ct43 : Value}
    {cd43 : Value}
    {f44 : Addr} {od44 an44 : Option Addr} {sl44 : Array (Option Value)} {oc44 kV44 dc44 pm44 ct44 : Value}
    {cd44 : Value}
    {f45 : Addr} {od45 an45 : Option Addr} {sl45 : Array (Option Value)} {oc45 kV45 dc45 pm45 ct45 : Value}
    {cd45 : Value}
    {f46 : Addr} {od46 an46 : Option Addr} {sl46 : Array (Option Value)} {oc46 kV46 dc46 pm46 ct46 : Value}
    {cd46 : Value}
    {f47 : Addr} {od47 an47 : Option Addr} {sl47 : Array (Option Value)} {oc47 kV47 dc47 pm47 ct47 : Value}
    {cd47 : Value}
    {f48 : Addr} {od48 an48 : Option Addr} {sl48 : Array (Option Value)} {oc48 kV48 dc48 pm48 ct48 : Value}
    {cd48 : Value}
    {a_FIRST_0 : Addr} {a_FIRST_0d : Option Addr} {a_FIRST_0n : Nat} {a_FIRST_0s : Array (Option Value)}
    {a_FIRST_0t0 : Tok}
    {a_FIRST_0t1 : Tok}
    {a_LAST_0 : Addr} {a_LAST_0d : Option Addr} {a_LAST_0n : Nat} {a_LAST_0s : Array (Option Value)}
    {a_LAST_0t0 : Tok}
    {a_LAST_0t1 : Tok}
    {t_MOST : Tok}
    {t_MOST_STRETCHES : Tok}
    {t_MOST_WIDTH : Tok}
    {t_MOST_WORTH : Tok}
    {a_NOUGHT_0 : Addr} {a_NOUGHT_0d : Option Addr} {a_NOUGHT_0n : Nat} {a_NOUGHT_0s : Array (Option Value)}
    {a_NOUGHT_0t0 : Tok}
    {a_NOUGHT_0t1 : Tok}
    {a_ONE_0 : Addr} {a_ONE_0d : Option Addr} {a_ONE_0n : Nat} {a_ONE_0s : Array (Option Value)}
    {a_ONE_0t0 : Tok}
    {a_ONE_0t1 : Tok}
    {a_ORDERS_0 : Addr} {a_ORDERS_0d : Option Addr} {a_ORDERS_0n : Nat} {a_ORDERS_0s : Array (Option Value)}
    {a_ORDERS_1 : Addr} {a_ORDERS_1d : Option Addr} {a_ORDERS_1n : Nat} {a_ORDERS_1s : Array (Option Value)}
    {a_ORDERS_1t0 : Tok}
    {a_ORDERS_1t1 : Tok}
    {a_ORDERS_1t2 : Tok}
    {a_ORDERS_2 : Addr} {a_ORDERS_2d : Option Addr} {a_ORDERS_2n : Nat} {a_ORDERS_2s : Array (Option Value)}
    {a_ORDERS_2t0 : Tok}
    {a_ORDERS_2t1 : Tok}
    {a_ORDERS_2t2 : Tok}
    {a_ORDERS_3 : Addr} {a_ORDERS_3d : Option Addr} {a_ORDERS_3n : Nat} {a_ORDERS_3s : Array (Option Value)}
    {a_ORDERS_3t0 : Tok}
    {a_ORDERS_3t1 : Tok}
    {a_ORDERS_3t2 : Tok}
    {a_ORDERS_4 : Addr} {a_ORDERS_4d : Option Addr} {a_ORDERS_4n : Nat} {a_ORDERS_4s : Array (Option Value)}
    {a_ORDERS_4t0 : Tok}
    {a_ORDERS_4t1 : Tok}
    {a_ORDERS_4t2 : Tok}
    {a_ORDERS_5 : Addr} {a_ORDERS_5d : Option Addr} {a_ORDERS_5n : Nat} {a_ORDERS_5s : Array (Option Value)}
    {a_ORDERS_5t0 : Tok}
    {a_ORDERS_5t1 : Tok}
    {a_ORDERS_5t2 : Tok}
    {a_ORDERS_6 : Addr} {a_ORDERS_6d : Option Addr} {a_ORDERS_6n : Nat} {a_ORDERS_6s : Array (Option Value)}
    {a_ORDERS_6t0 : Tok}
    {a_ORDERS_6t1 : Tok}
    {a_ORDERS_6t2 : Tok}
    (g_CrumbError : PySem.W.nsIn K mainGlobals "CrumbError" = some (some (.ref c_CrumbError)))
    (g_NoFraction : PySem.W.nsIn K mainGlobals "NoFraction" = some (some (.ref c_NoFraction)))
    (g_NoTable : PySem.W.nsIn K mainGlobals "NoTable" = some (some (.ref c_NoTable)))
    (g_NoSpan : PySem.W.nsIn K mainGlobals "NoSpan" = some (some (.ref c_NoSpan)))
    (g_NoWorth : PySem.W.nsIn K mainGlobals "NoWorth" = some (some (.ref c_NoWorth)))
    (g_NoHands : PySem.W.nsIn K mainGlobals "NoHands" = some (some (.ref c_NoHands)))
    (g_TooMany : PySem.W.nsIn K mainGlobals "TooMany" = some (some (.ref c_TooMany)))
    (g_Table : PySem.W.nsIn K mainGlobals "Table" = some (some (.ref c_Table)))
    (a0 : PySem.W.nsIn K mainGlobals "divisor" = some (some (.ref f0)))
    (l0 : K.lookup f0 = some ⟨oc0, od0, .func (PySem.W.fnOf "divisor" "divisor" (defArgs s_divisor) (defBody s_divisor) (defScope s_divisor) .none kV0 dc0 pm0 an0 cd0 ct0), sl0⟩)
    (c0 : PySem.W.codeIn K cd0 "divisor" = true)
    (k0 : PySem.W.keepIn K (.ref f0) = true)
    (a1 : PySem.W.nsIn K mainGlobals "is_less" = some (some (.ref f1)))
    (l1 : K.lookup f1 = some ⟨oc1, od1, .func (PySem.W.fnOf "is_less" "is_less" (defArgs s_is_less) (defBody s_is_less) (defScope s_is_less) .none kV1 dc1 pm1 an1 cd1 ct1), sl1⟩)
    (c1 : PySem.W.codeIn K cd1 "is_less" = true)
    (k1 : PySem.W.keepIn K (.ref f1) = true)
    (a2 : PySem.W.nsIn K mainGlobals "piece_row" = some (some (.ref f2)))
    (l2 : K.lookup f2 = some ⟨oc2, od2, .func (PySem.W.fnOf "piece_row" "piece_row" (defArgs s_piece_row) (defBody s_piece_row) (defScope s_piece_row) .none kV2 dc2 pm2 an2 cd2 ct2), sl2⟩)
    (c2 : PySem.W.codeIn K cd2 "piece_row" = true)
    (k2 : PySem.W.keepIn K (.ref f2) = true)
    (a3 : PySem.W.nsIn K mainGlobals "cell_corners" = some (some (.ref f3)))
    (l3 : K.lookup f3 = some ⟨oc3, od3, .func (PySem.W.fnOf "cell_corners" "cell_corners" (defArgs s_cell_corners) (defBody s_cell_corners) (defScope s_cell_corners) .none kV3 dc3 pm3 an3 cd3 ct3), sl3⟩)
    (c3 : PySem.W.codeIn K cd3 "cell_corners" = true)
    (k3 : PySem.W.keepIn K (.ref f3) = true)
    (a4 : PySem.W.nsIn K mainGlobals "may_hold" = some (some (.ref f4)))
    (l4 : K.lookup f4 = some ⟨oc4, od4, .func (PySem.W.fnOf "may_hold" "may_hold" (defArgs s_may_hold) (defBody s_may_hold) (defScope s_may_hold) .none kV4 dc4 pm4 an4 cd4 ct4), sl4⟩)
    (c4 : PySem.W.codeIn K cd4 "may_hold" = true)
    (k4 : PySem.W.keepIn K (.ref f4) = true)
    (a5 : PySem.W.nsIn K mainGlobals "is_stretch" = some (some (.ref f5)))
    (l5 : K.lookup f5 = some ⟨oc5, od5, .func (PySem.W.fnOf "is_stretch" "is_stretch" (defArgs s_is_stretch) (defBody s_is_stretch) (defScope s_is_stretch) .none kV5 dc5 pm5 an5 cd5 ct5), sl5⟩)
    (c5 : PySem.W.codeIn K cd5 "is_stretch" = true)
    (k5 : PySem.W.keepIn K (.ref f5) = true)
    (a6 : PySem.W.findIn K (.ref c_Table) "total" = some (some (.ref f6)))
    (l6 : K.lookup f6 = some ⟨oc6, od6, .func (PySem.W.fnOf "total" "Table.total" (defArgs s_Table_total) (defBody s_Table_total) (defScope s_Table_total) .none kV6 dc6 pm6 an6 cd6 ct6), sl6⟩)
    (c6 : PySem.W.codeIn K cd6 "Table.total" = true)
    (k6 : PySem.W.keepIn K (.ref f6) = true)
    (a7 : PySem.W.findIn K (.ref c_Table) "ends" = some (some (.ref f7)))
    (l7 : K.lookup f7 = some ⟨oc7, od7, .func (PySem.W.fnOf "ends" "Table.ends" (defArgs s_Table_ends) (defBody s_Table_ends) (defScope s_Table_ends) .none kV7 dc7 pm7 an7 cd7 ct7), sl7⟩)
    (c7 : PySem.W.codeIn K cd7 "Table.ends" = true)
    (k7 : PySem.W.keepIn K (.ref f7) = true)
    (a8 : PySem.W.findIn K (.ref c_Table) "__len__" = some (some (.ref f8)))
    (l8 : K.lookup f8 = some ⟨oc8, od8, .func (PySem.W.fnOf "__len__" "Table.__len__" (defArgs s_Table___len__) (defBody s_Table___len__) (defScope s_Table___len__) .none kV8 dc8 pm8 an8 cd8 ct8), sl8⟩)
    (c8 : PySem.W.codeIn K cd8 "Table.__len__" = true)
    (k8 : PySem.W.keepIn K (.ref f8) = true)
    (a9 : PySem.W.nsIn K mainGlobals "_law_mixed" = some (some (.ref f9)))
    (l9 : K.lookup f9 = some ⟨oc9, od9, .func (PySem.W.fnOf "_law_mixed" "_law_mixed" (defArgs s_law_mixed) (defBody s_law_mixed) (defScope s_law_mixed) .none kV9 dc9 pm9 an9 cd9 ct9), sl9⟩)
    (c9 : PySem.W.codeIn K cd9 "_law_mixed" = true)
    (k9 : PySem.W.keepIn K (.ref f9) = true)
    (a10 : PySem.W.nsIn K mainGlobals "_law_divisor" = some (some (.ref f10)))
    (l10 : K.lookup f10 = some ⟨oc10, od10, .func (PySem.W.fnOf "_law_divisor" "_law_divisor" (defArgs s_law_divisor) (defBody s_law_divisor) (defScope s_law_divisor) .none kV10 dc10 pm10 an10 cd10 ct10), sl10⟩)
    (c10 : PySem.W.codeIn K cd10 "_law_divisor" = true)
    (k10 : PySem.W.keepIn K (.ref f10) = true)
    (a11 : PySem.W.nsIn K mainGlobals "_law_whole" = some (some (.ref f11)))
    (l11 : K.lookup f11 = some ⟨oc11, od11, .func (PySem.W.fnOf "_law_whole" "_law_whole" (defArgs s_law_whole) (defBody s_law_whole) (defScope s_law_whole) .none kV11 dc11 pm11 an11 cd11 ct11), sl11⟩)
    (c11 : PySem.W.codeIn K cd11 "_law_whole" = true)
    (k11 : PySem.W.keepIn K (.ref f11) = true)
    (a12 : PySem.W.nsIn K mainGlobals "_law_worth" = some (some (.ref f12)))
    (l12 : K.lookup f12 = some ⟨oc12, od12, .func (PySem.W.fnOf "_law_worth" "_law_worth" (defArgs s_law_worth) (defBody s_law_worth) (defScope s_law_worth) .none kV12 dc12 pm12 an12 cd12 ct12), sl12⟩)
    (c12 : PySem.W.codeIn K cd12 "_law_worth" = true)
    (k12 : PySem.W.keepIn K (.ref f12) = true)
    (a13 : PySem.W.nsIn K mainGlobals "_law_less" = some (some (.ref f13)))
    (l13 : K.lookup f13 = some ⟨oc13, od13, .func (PySem.W.fnOf "_law_less" "_law_less" (defArgs s_law_less) (defBody s_law_less) (defScope s_law_less) .none kV13 dc13 pm13 an13 cd13 ct13), sl13⟩)
    (c13 : PySem.W.codeIn K cd13 "_law_less" = true)
    (k13 : PySem.W.keepIn K (.ref f13) = true)
    (a14 : PySem.W.nsIn K mainGlobals "fraction_of" = some (some (.ref f14)))
    (l14 : K.lookup f14 = some ⟨oc14, od14, .func (PySem.W.fnOf "fraction_of" "fraction_of" (defArgs s_fraction_of) (defBody s_fraction_of) (defScope s_fraction_of) (.ref T14) kV14 dc14 pm14 an14 cd14 ct14), sl14⟩)
    (c14 : PySem.W.codeIn K cd14 "fraction_of" = true)
    (k14 : PySem.W.keepIn K (.ref f14) = true)
    (lT14 : K.lookup T14 = some ⟨q14, qd14, .seq ([(.int 1 tt14_0)] : List Value).toArray qn14, qs14⟩)
    (a15 : PySem.W.nsIn K mainGlobals "lesser" = some (some (.ref f15)))
    (l15 : K.lookup f15 = some ⟨oc15, od15, .func (PySem.W.fnOf "lesser" "lesser" (defArgs s_lesser) (defBody s_lesser) (defScope s_lesser) .none kV15 dc15 pm15 an15 cd15 ct15), sl15⟩)
    (c15 : PySem.W.codeIn K cd15 "lesser" = true)
    (k15 : PySem.W.keepIn K (.ref f15) = true)
    (a16 : PySem.W.nsIn K mainGlobals "greater" = some (some (.ref f16)))
    (l16 : K.lookup f16 = some ⟨oc16, od16, .func (PySem.W.fnOf "greater" "greater" (defArgs s_greater) (defBody s_greater) (defScope s_greater) .none kV16 dc16 pm16 an16 cd16 ct16), sl16⟩)
    (c16 : PySem.W.codeIn K cd16 "greater" = true)
    (k16 : PySem.W.keepIn K (.ref f16) = true)
    (a17 : PySem.W.nsIn K mainGlobals "placed" = some (some (.ref f17)))
    (l17 : K.lookup f17 = some ⟨oc17, od17, .func (PySem.W.fnOf "placed" "placed" (defArgs s_placed) (defBody s_placed) (defScope s_placed) .none kV17 dc17 pm17 an17 cd17 ct17), sl17⟩)
    (c17 : PySem.W.codeIn K cd17 "placed" = true)
    (k17 : PySem.W.keepIn K (.ref f17) = true)
    (a18 : PySem.W.nsIn K mainGlobals "wishes" = some (some (.ref f18)))
    (l18 : K.lookup f18 = some ⟨oc18, od18, .func (PySem.W.fnOf "wishes" "wishes" (defArgs s_wishes) (defBody s_wishes) (defScope s_wishes) .none kV18 dc18 pm18 an18 cd18 ct18), sl18⟩)
    (c18 : PySem.W.codeIn K cd18 "wishes" = true)
    (k18 : PySem.W.keepIn K (.ref f18) = true)
    (a19 : PySem.W.nsIn K mainGlobals "ask_span" = some (some (.ref f19)))
    (l19 : K.lookup f19 = some ⟨oc19, od19, .func (PySem.W.fnOf "ask_span" "ask_span" (defArgs s_ask_span) (defBody s_ask_span) (defScope s_ask_span) .none kV19 dc19 pm19 an19 cd19 ct19), sl19⟩)
    (c19 : PySem.W.codeIn K cd19 "ask_span" = true)
    (k19 : PySem.W.keepIn K (.ref f19) = true)
    (a20 : PySem.W.nsIn K mainGlobals "_law_take" = some (some (.ref f20)))
    (l20 : K.lookup f20 = some ⟨oc20, od20, .func (PySem.W.fnOf "_law_take" "_law_take" (defArgs s_law_take) (defBody s_law_take) (defScope s_law_take) .none kV20 dc20 pm20 an20 cd20 ct20), sl20⟩)
    (c20 : PySem.W.codeIn K cd20 "_law_take" = true)
    (k20 : PySem.W.keepIn K (.ref f20) = true)
    (a21 : PySem.W.nsIn K mainGlobals "_law_fraction" = some (some (.ref f21)))
    (l21 : K.lookup f21 = some ⟨oc21, od21, .func (PySem.W.fnOf "_law_fraction" "_law_fraction" (defArgs s_law_fraction) (defBody s_law_fraction) (defScope s_law_fraction) .none kV21 dc21 pm21 an21 cd21 ct21), sl21⟩)
    (c21 : PySem.W.codeIn K cd21 "_law_fraction" = true)
    (k21 : PySem.W.keepIn K (.ref f21) = true)
    (a22 : PySem.W.nsIn K mainGlobals "_law_content" = some (some (.ref f22)))
    (l22 : K.lookup f22 = some ⟨oc22, od22, .func (PySem.W.fnOf "_law_content" "_law_content" (defArgs s_law_content) (defBody s_law_content) (defScope s_law_content) .none kV22 dc22 pm22 an22 cd22 ct22), sl22⟩)
    (c22 : PySem.W.codeIn K cd22 "_law_content" = true)
    (k22 : PySem.W.keepIn K (.ref f22) = true)
    (a23 : PySem.W.nsIn K mainGlobals "plus" = some (some (.ref f23)))
    (l23 : K.lookup f23 = some ⟨oc23, od23, .func (PySem.W.fnOf "plus" "plus" (defArgs s_plus) (defBody s_plus) (defScope s_plus) .none kV23 dc23 pm23 an23 cd23 ct23), sl23⟩)
    (c23 : PySem.W.codeIn K cd23 "plus" = true)
    (k23 : PySem.W.keepIn K (.ref f23) = true)
    (a24 : PySem.W.nsIn K mainGlobals "minus" = some (some (.ref f24)))
    (l24 : K.lookup f24 = some ⟨oc24, od24, .func (PySem.W.fnOf "minus" "minus" (defArgs s_minus) (defBody s_minus) (defScope s_minus) .none kV24 dc24 pm24 an24 cd24 ct24), sl24⟩)
    (c24 : PySem.W.codeIn K cd24 "minus" = true)
    (k24 : PySem.W.keepIn K (.ref f24) = true)
    (a25 : PySem.W.nsIn K mainGlobals "times" = some (some (.ref f25)))
    (l25 : K.lookup f25 = some ⟨oc25, od25, .func (PySem.W.fnOf "times" "times" (defArgs s_times) (defBody s_times) (defScope s_times) .none kV25 dc25 pm25 an25 cd25 ct25), sl25⟩)
    (c25 : PySem.W.codeIn K cd25 "times" = true)
    (k25 : PySem.W.keepIn K (.ref f25) = true)
    (a26 : PySem.W.nsIn K mainGlobals "over" = some (some (.ref f26)))
    (l26 : K.lookup f26 = some ⟨oc26, od26, .func (PySem.W.fnOf "over" "over" (defArgs s_over) (defBody s_over) (defScope s_over) .none kV26 dc26 pm26 an26 cd26 ct26), sl26⟩)
    (c26 : PySem.W.codeIn K cd26 "over" = true)
    (k26 : PySem.W.keepIn K (.ref f26) = true)
    (a27 : PySem.W.nsIn K mainGlobals "all_ends" = some (some (.ref f27)))
    (l27 : K.lookup f27 = some ⟨oc27, od27, .func (PySem.W.fnOf "all_ends" "all_ends" (defArgs s_all_ends) (defBody s_all_ends) (defScope s_all_ends) .none kV27 dc27 pm27 an27 cd27 ct27), sl27⟩)
    (c27 : PySem.W.codeIn K cd27 "all_ends" = true)
    (k27 : PySem.W.keepIn K (.ref f27) = true)
    (a28 : PySem.W.nsIn K mainGlobals "bounds_of" = some (some (.ref f28)))
    (l28 : K.lookup f28 = some ⟨oc28, od28, .func (PySem.W.fnOf "bounds_of" "bounds_of" (defArgs s_bounds_of) (defBody s_bounds_of) (defScope s_bounds_of) .none kV28 dc28 pm28 an28 cd28 ct28), sl28⟩)
    (c28 : PySem.W.codeIn K cd28 "bounds_of" = true)
    (k28 : PySem.W.keepIn K (.ref f28) = true)
    (a29 : PySem.W.nsIn K mainGlobals "_law_stretches" = some (some (.ref f29)))
    (l29 : K.lookup f29 = some ⟨oc29, od29, .func (PySem.W.fnOf "_law_stretches" "_law_stretches" (defArgs s_law_stretches) (defBody s_law_stretches) (defScope s_law_stretches) .none kV29 dc29 pm29 an29 cd29 ct29), sl29⟩)
    (c29 : PySem.W.codeIn K cd29 "_law_stretches" = true)
    (k29 : PySem.W.keepIn K (.ref f29) = true)
    (a30 : PySem.W.nsIn K mainGlobals "_law_place" = some (some (.ref f30)))
    (l30 : K.lookup f30 = some ⟨oc30, od30, .func (PySem.W.fnOf "_law_place" "_law_place" (defArgs s_law_place) (defBody s_law_place) (defScope s_law_place) .none kV30 dc30 pm30 an30 cd30 ct30), sl30⟩)
    (c30 : PySem.W.codeIn K cd30 "_law_place" = true)
    (k30 : PySem.W.keepIn K (.ref f30) = true)
    (a31 : PySem.W.nsIn K mainGlobals "value_at" = some (some (.ref f31)))
    (l31 : K.lookup f31 = some ⟨oc31, od31, .func (PySem.W.fnOf "value_at" "value_at" (defArgs s_value_at) (defBody s_value_at) (defScope s_value_at) .none kV31 dc31 pm31 an31 cd31 ct31), sl31⟩)
    (c31 : PySem.W.codeIn K cd31 "value_at" = true)
    (k31 : PySem.W.keepIn K (.ref f31) = true)
    (a32 : PySem.W.nsIn K mainGlobals "crossing" = some (some (.ref f32)))
    (l32 : K.lookup f32 = some ⟨oc32, od32, .func (PySem.W.fnOf "crossing" "crossing" (defArgs s_crossing) (defBody s_crossing) (defScope s_crossing) .none kV32 dc32 pm32 an32 cd32 ct32), sl32⟩)
    (c32 : PySem.W.codeIn K cd32 "crossing" = true)
    (k32 : PySem.W.keepIn K (.ref f32) = true)
    (a33 : PySem.W.nsIn K mainGlobals "place_in" = some (some (.ref f33)))
    (l33 : K.lookup f33 = some ⟨oc33, od33, .func (PySem.W.fnOf "place_in" "place_in" (defArgs s_place_in) (defBody s_place_in) (defScope s_place_in) .none kV33 dc33 pm33 an33 cd33 ct33), sl33⟩)
    (c33 : PySem.W.codeIn K cd33 "place_in" = true)
    (k33 : PySem.W.keepIn K (.ref f33) = true)
    (a34 : PySem.W.findIn K (.ref c_Table) "__init__" = some (some (.ref f34)))
    (l34 : K.lookup f34 = some ⟨oc34, od34, .func (PySem.W.fnOf "__init__" "Table.__init__" (defArgs s_Table___init__) (defBody s_Table___init__) (defScope s_Table___init__) .none kV34 dc34 pm34 an34 cd34 ct34), sl34⟩)
    (c34 : PySem.W.codeIn K cd34 "Table.__init__" = true)
    (k34 : PySem.W.keepIn K (.ref f34) = true)
    (a35 : PySem.W.findIn K (.ref c_Table) "between" = some (some (.ref f35)))
    (l35 : K.lookup f35 = some ⟨oc35, od35, .func (PySem.W.fnOf "between" "Table.between" (defArgs s_Table_between) (defBody s_Table_between) (defScope s_Table_between) .none kV35 dc35 pm35 an35 cd35 ct35), sl35⟩)
    (c35 : PySem.W.codeIn K cd35 "Table.between" = true)
    (k35 : PySem.W.keepIn K (.ref f35) = true)
    (a36 : PySem.W.nsIn K mainGlobals "_law_paper" = some (some (.ref f36)))
    (l36 : K.lookup f36 = some ⟨oc36, od36, .func (PySem.W.fnOf "_law_paper" "_law_paper" (defArgs s_law_paper) (defBody s_law_paper) (defScope s_law_paper) .none kV36 dc36 pm36 an36 cd36 ct36), sl36⟩)
    (c36 : PySem.W.codeIn K cd36 "_law_paper" = true)
    (k36 : PySem.W.keepIn K (.ref f36) = true)
    (a37 : PySem.W.nsIn K mainGlobals "_law_long" = some (some (.ref f37)))
    (l37 : K.lookup f37 = some ⟨oc37, od37, .func (PySem.W.fnOf "_law_long" "_law_long" (defArgs s_law_long) (defBody s_law_long) (defScope s_law_long) .none kV37 dc37 pm37 an37 cd37 ct37), sl37⟩)
    (c37 : PySem.W.codeIn K cd37 "_law_long" = true)
    (k37 : PySem.W.keepIn K (.ref f37) = true)
    (a38 : PySem.W.nsIn K mainGlobals "kept_side" = some (some (.ref f38)))
    (l38 : K.lookup f38 = some ⟨oc38, od38, .func (PySem.W.fnOf "kept_side" "kept_side" (defArgs s_kept_side) (defBody s_kept_side) (defScope s_kept_side) .none kV38 dc38 pm38 an38 cd38 ct38), sl38⟩)
    (c38 : PySem.W.codeIn K cd38 "kept_side" = true)
    (k38 : PySem.W.keepIn K (.ref f38) = true)
    (a39 : PySem.W.findIn K (.ref c_Table) "worth" = some (some (.ref f39)))
    (l39 : K.lookup f39 = some ⟨oc39, od39, .func (PySem.W.fnOf "worth" "Table.worth" (defArgs s_Table_worth) (defBody s_Table_worth) (defScope s_Table_worth) (.ref T39) kV39 dc39 pm39 an39 cd39 ct39), sl39⟩)
    (c39 : PySem.W.codeIn K cd39 "Table.worth" = true)
    (k39 : PySem.W.keepIn K (.ref f39) = true)
    (lT39 : K.lookup T39 = some ⟨q39, qd39, .seq ([.none, .none] : List Value).toArray qn39, qs39⟩)
    (a40 : PySem.W.findIn K (.ref c_Table) "cut" = some (some (.ref f40)))
    (l40 : K.lookup f40 = some ⟨oc40, od40, .func (PySem.W.fnOf "cut" "Table.cut" (defArgs s_Table_cut) (defBody s_Table_cut) (defScope s_Table_cut) (.ref T40) kV40 dc40 pm40 an40 cd40 ct40), sl40⟩)
    (c40 : PySem.W.codeIn K cd40 "Table.cut" = true)
    (k40 : PySem.W.keepIn K (.ref f40) = true)
    (lT40 : K.lookup T40 = some ⟨q40, qd40, .seq ([.none] : List Value).toArray qn40, qs40⟩)
    (a41 : PySem.W.nsIn K mainGlobals "sums_up_to" = some (some (.ref f41)))
    (l41 : K.lookup f41 = some ⟨oc41, od41, .func (PySem.W.fnOf "sums_up_to" "sums_up_to" (defArgs s_sums_up_to) (defBody s_sums_up_to) (defScope s_sums_up_to) .none kV41 dc41 pm41 an41 cd41 ct41), sl41⟩)
    (c41 : PySem.W.codeIn K cd41 "sums_up_to" = true)
    (k41 : PySem.W.keepIn K (.ref f41) = true)
    (a42 : PySem.W.nsIn K mainGlobals "corner_for" = some (some (.ref f42)))
    (l42 : K.lookup f42 = some ⟨oc42, od42, .func (PySem.W.fnOf "corner_for" "corner_for" (defArgs s_corner_for) (defBody s_corner_for) (defScope s_corner_for) .none kV42 dc42 pm42 an42 cd42 ct42), sl42⟩)
    (c42 : PySem.W.codeIn K cd42 "corner_for" = true)
    (k42 : PySem.W.keepIn K (.ref f42) = true)
    (a43 : PySem.W.nsIn K mainGlobals "two_pieces" = some (some (.ref f43)))
    (l43 : K.lookup f43 = some ⟨oc43, od43, .func (PySem.W.fnOf "two_pieces" "two_pieces" (defArgs s_two_pieces) (defBody s_two_pieces) (defScope s_two_pieces) .none kV43 dc43 pm43 an43 cd43 ct43), sl43⟩)
    (c43 : PySem.W.codeIn K cd43 "two_pieces" = true)
    (k43 : PySem.W.keepIn K (.ref f43) = true)
    (a44 : PySem.W.nsIn K mainGlobals "three_pieces" = some (some (.ref f44)))
    (l44 : K.lookup f44 = some ⟨oc44, od44, .func (PySem.W.fnOf "three_pieces" "three_pieces" (defArgs s_three_pieces) (defBody s_three_pieces) (defScope s_three_pieces) .none kV44 dc44 pm44 an44 cd44 ct44), sl44⟩)
    (c44 : PySem.W.codeIn K cd44 "three_pieces" = true)
    (k44 : PySem.W.keepIn K (.ref f44) = true)
    (a45 : PySem.W.nsIn K mainGlobals "whole_pieces" = some (some (.ref f45)))
    (l45 : K.lookup f45 = some ⟨oc45, od45, .func (PySem.W.fnOf "whole_pieces" "whole_pieces" (defArgs s_whole_pieces) (defBody s_whole_pieces) (defScope s_whole_pieces) .none kV45 dc45 pm45 an45 cd45 ct45), sl45⟩)
    (c45 : PySem.W.codeIn K cd45 "whole_pieces" = true)
    (k45 : PySem.W.keepIn K (.ref f45) = true)
    (a46 : PySem.W.nsIn K mainGlobals "_law_answer" = some (some (.ref f46)))
    (l46 : K.lookup f46 = some ⟨oc46, od46, .func (PySem.W.fnOf "_law_answer" "_law_answer" (defArgs s_law_answer) (defBody s_law_answer) (defScope s_law_answer) .none kV46 dc46 pm46 an46 cd46 ct46), sl46⟩)
    (c46 : PySem.W.codeIn K cd46 "_law_answer" = true)
    (k46 : PySem.W.keepIn K (.ref f46) = true)
    (a47 : PySem.W.nsIn K mainGlobals "_law_well" = some (some (.ref f47)))
    (l47 : K.lookup f47 = some ⟨oc47, od47, .func (PySem.W.fnOf "_law_well" "_law_well" (defArgs s_law_well) (defBody s_law_well) (defScope s_law_well) .none kV47 dc47 pm47 an47 cd47 ct47), sl47⟩)
    (c47 : PySem.W.codeIn K cd47 "_law_well" = true)
    (k47 : PySem.W.keepIn K (.ref f47) = true)
    (a48 : PySem.W.nsIn K mainGlobals "law" = some (some (.ref f48)))
    (l48 : K.lookup f48 = some ⟨oc48, od48, .func (PySem.W.fnOf "law" "law" (defArgs s_law) (defBody s_law) (defScope s_law) .none kV48 dc48 pm48 an48 cd48 ct48), sl48⟩)
    (c48 : PySem.W.codeIn K cd48 "law" = true)
    (k48 : PySem.W.keepIn K (.ref f48) = true)
    (pg_Table : PySem.W.plainGet K c_Table Str.empty = true)
    (hD_Table : PySem.W.hasDictIn K c_Table = true)
    (po_Table : PySem.W.plainOver K c_Table = true)
    (sa_Table : PySem.W.findIn K (.ref c_Table) "__setattr__" = some (some (.builtin "object.__setattr__")))
    (mm_Table : PySem.W.makesIn K c_Table = true)
    (mi_Table : PySem.W.findIn K (.ref c_Table) "__init__" = some (some (.ref f34)))
    (mf_Table : PySem.W.isFn K (.ref f34) = true)
    (mp_Table : PySem.W.keepIn K (.ref c_Table) = true)
    (ta_Table___len__ : PySem.W.findIn K (.ref c_Table) "__len__" = some (some (.ref f8)))
    (tf_Table___len__ : PySem.W.isFn K (.ref f8) = true)
    (ta_Table_between : PySem.W.findIn K (.ref c_Table) "between" = some (some (.ref f35)))
    (tf_Table_between : PySem.W.isFn K (.ref f35) = true)
    (ta_Table_cut : PySem.W.findIn K (.ref c_Table) "cut" = some (some (.ref f40)))
    (tf_Table_cut : PySem.W.isFn K (.ref f40) = true)
    (ta_Table_ends : PySem.W.findIn K (.ref c_Table) "ends" = some (some (.ref f7)))
    (tf_Table_ends : PySem.W.isFn K (.ref f7) = true)
    (ta_Table_total : PySem.W.findIn K (.ref c_Table) "total" = some (some (.ref f6)))
    (tf_Table_total : PySem.W.isFn K (.ref f6) = true)
    (ta_Table_worth : PySem.W.findIn K (.ref c_Table) "worth" = some (some (.ref f39)))
    (tf_Table_worth : PySem.W.isFn K (.ref f39) = true)
    (na_Table_bounds : PySem.W.findIn K (.ref c_Table) "bounds" = some none)
    (na_Table_kept : PySem.W.findIn K (.ref c_Table) "kept" = some none)
    (z_ValueError : PySem.W.nsIn K mainGlobals "ValueError" = some none)
    (z_abs : PySem.W.nsIn K mainGlobals "abs" = some none)
    (z_all : PySem.W.nsIn K mainGlobals "all" = some none)
    (z_any : PySem.W.nsIn K mainGlobals "any" = some none)
    (z_bool : PySem.W.nsIn K mainGlobals "bool" = some none)
    (z_enumerate : PySem.W.nsIn K mainGlobals "enumerate" = some none)
    (z_int : PySem.W.nsIn K mainGlobals "int" = some none)
    (z_isinstance : PySem.W.nsIn K mainGlobals "isinstance" = some none)
    (z_len : PySem.W.nsIn K mainGlobals "len" = some none)
    (z_list : PySem.W.nsIn K mainGlobals "list" = some none)
    (z_max : PySem.W.nsIn K mainGlobals "max" = some none)
    (z_min : PySem.W.nsIn K mainGlobals "min" = some none)
    (z_range : PySem.W.nsIn K mainGlobals "range" = some none)
    (z_sorted : PySem.W.nsIn K mainGlobals "sorted" = some none)
    (z_sum : PySem.W.nsIn K mainGlobals "sum" = some none)
    (z_tuple : PySem.W.nsIn K mainGlobals "tuple" = some none)
    (z_zip : PySem.W.nsIn K mainGlobals "zip" = some none)
    (m_FIRST : PySem.W.nsIn K mainGlobals "FIRST" = some (some (.ref a_FIRST_0)))
    (l_a_FIRST_0 : K.lookup a_FIRST_0 = some ⟨.type "tuple", a_FIRST_0d, .seq ([(.int 0 a_FIRST_0t0), (.int 1 a_FIRST_0t1)] : List Value).toArray a_FIRST_0n, a_FIRST_0s⟩)
    (m_LAST : PySem.W.nsIn K mainGlobals "LAST" = some (some (.ref a_LAST_0)))
    (l_a_LAST_0 : K.lookup a_LAST_0 = some ⟨.type "tuple", a_LAST_0d, .seq ([(.int 1 a_LAST_0t0), (.int 1 a_LAST_0t1)] : List Value).toArray a_LAST_0n, a_LAST_0s⟩)
    (m_MOST : PySem.W.nsIn K mainGlobals "MOST" = some (some (.int 4 t_MOST)))
    (m_MOST_STRETCHES : PySem.W.nsIn K mainGlobals "MOST_STRETCHES" = some (some (.int 8 t_MOST_STRETCHES)))
    (m_MOST_WIDTH : PySem.W.nsIn K mainGlobals "MOST_WIDTH" = some (some (.int 999 t_MOST_WIDTH)))
    (m_MOST_WORTH : PySem.W.nsIn K mainGlobals "MOST_WORTH" = some (some (.int 999999999 t_MOST_WORTH)))
    (m_NOUGHT : PySem.W.nsIn K mainGlobals "NOUGHT" = some (some (.ref a_NOUGHT_0)))
    (l_a_NOUGHT_0 : K.lookup a_NOUGHT_0 = some ⟨.type "tuple", a_NOUGHT_0d, .seq ([(.int 0 a_NOUGHT_0t0), (.int 1 a_NOUGHT_0t1)] : List Value).toArray a_NOUGHT_0n, a_NOUGHT_0s⟩)
    (m_ONE : PySem.W.nsIn K mainGlobals "ONE" = some (some (.ref a_ONE_0)))
    (l_a_ONE_0 : K.lookup a_ONE_0 = some ⟨.type "tuple", a_ONE_0d, .seq ([(.int 1 a_ONE_0t0), (.int 1 a_ONE_0t1)] : List Value).toArray a_ONE_0n, a_ONE_0s⟩)
    (m_ORDERS : PySem.W.nsIn K mainGlobals "ORDERS" = some (some (.ref a_ORDERS_0)))
    (l_a_ORDERS_0 : K.lookup a_ORDERS_0 = some ⟨.type "tuple", a_ORDERS_0d, .seq ([(.ref a_ORDERS_1), (.ref a_ORDERS_2), (.ref a_ORDERS_3), (.ref a_ORDERS_4), (.ref a_ORDERS_5), (.ref a_ORDERS_6)] : List Value).toArray a_ORDERS_0n, a_ORDERS_0s⟩)
    (l_a_ORDERS_6 : K.lookup a_ORDERS_6 = some ⟨.type "tuple", a_ORDERS_6d, .seq ([(.int 2 a_ORDERS_6t0), (.int 1 a_ORDERS_6t1), (.int 0 a_ORDERS_6t2)] : List Value).toArray a_ORDERS_6n, a_ORDERS_6s⟩)
    (l_a_ORDERS_5 : K.lookup a_ORDERS_5 = some ⟨.type "tuple", a_ORDERS_5d, .seq ([(.int 2 a_ORDERS_5t0), (.int 0 a_ORDERS_5t1), (.int 1 a_ORDERS_5t2)] : List Value).toArray a_ORDERS_5n, a_ORDERS_5s⟩)
    (l_a_ORDERS_4 : K.lookup a_ORDERS_4 = some ⟨.type "tuple", a_ORDERS_4d, .seq ([(.int 1 a_ORDERS_4t0), (.int 2 a_ORDERS_4t1), (.int 0 a_ORDERS_4t2)] : List Value).toArray a_ORDERS_4n, a_ORDERS_4s⟩)
    (l_a_ORDERS_3 : K.lookup a_ORDERS_3 = some ⟨.type "tuple", a_ORDERS_3d, .seq ([(.int 1 a_ORDERS_3t0), (.int 0 a_ORDERS_3t1), (.int 2 a_ORDERS_3t2)] : List Value).toArray a_ORDERS_3n, a_ORDERS_3s⟩)
    (l_a_ORDERS_2 : K.lookup a_ORDERS_2 = some ⟨.type "tuple", a_ORDERS_2d, .seq ([(.int 0 a_ORDERS_2t0), (.int 2 a_ORDERS_2t1), (.int 1 a_ORDERS_2t2)] : List Value).toArray a_ORDERS_2n, a_ORDERS_2s⟩)
    (l_a_ORDERS_1 : K.lookup a_ORDERS_1 = some ⟨.type "tuple", a_ORDERS_1d, .seq ([(.int 0 a_ORDERS_1t0), (.int 1 a_ORDERS_1t1), (.int 2 a_ORDERS_1t2)] : List Value).toArray a_ORDERS_1n, a_ORDERS_1s⟩)
    (x_NoFraction : PySem.W.excIn K c_NoFraction [.type "ValueError", .type "Exception", .type "BaseException", .type "object"] "ValueError.__new__" = true)
    (k_NoFraction : PySem.W.keepIn K (.ref c_NoFraction) = true)
    (x_NoHands : PySem.W.excIn K c_NoHands [.type "ValueError", .type "Exception", .type "BaseException", .type "object"] "ValueError.__new__" = true)
    (k_NoHands : PySem.W.keepIn K (.ref c_NoHands) = true)
    (x_NoSpan : PySem.W.excIn K c_NoSpan [.type "ValueError", .type "Exception", .type "BaseException", .type "object"] "ValueError.__new__" = true)
    (k_NoSpan : PySem.W.keepIn K (.ref c_NoSpan) = true)
    (x_NoTable : PySem.W.excIn K c_NoTable [.type "ValueError", .type "Exception", .type "BaseException", .type "object"] "ValueError.__new__" = true)
    (k_NoTable : PySem.W.keepIn K (.ref c_NoTable) = true)
    (x_NoWorth : PySem.W.excIn K c_NoWorth [.type "ValueError", .type "Exception", .type "BaseException", .type "object"] "ValueError.__new__" = true)
    (k_NoWorth : PySem.W.keepIn K (.ref c_NoWorth) = true)
    (x_TooMany : PySem.W.excIn K c_TooMany [.type "ValueError", .type "Exception", .type "BaseException", .type "object"] "ValueError.__new__" = true)
    (k_TooMany : PySem.W.keepIn K (.ref c_TooMany) = true)
    (sb_NoFraction : PySem.W.subIn K (.ref c_NoFraction) (.type "BaseException") = some true)
    (t_NoFraction : PySem.W.typeIn K (.ref c_NoFraction) = some (.type "type"))
    (sb_NoTable : PySem.W.subIn K (.ref c_NoTable) (.type "BaseException") = some true)
    (t_NoTable : PySem.W.typeIn K (.ref c_NoTable) = some (.type "type"))
    (sb_NoSpan : PySem.W.subIn K (.ref c_NoSpan) (.type "BaseException") = some true)
    (t_NoSpan : PySem.W.typeIn K (.ref c_NoSpan) = some (.type "type"))
    (sb_NoWorth : PySem.W.subIn K (.ref c_NoWorth) (.type "BaseException") = some true)
    (t_NoWorth : PySem.W.typeIn K (.ref c_NoWorth) = some (.type "type"))
    (sb_NoHands : PySem.W.subIn K (.ref c_NoHands) (.type "BaseException") = some true)
    (t_NoHands : PySem.W.typeIn K (.ref c_NoHands) = some (.type "type"))
    (sb_TooMany : PySem.W.subIn K (.ref c_TooMany) (.type "BaseException") = some true)
    (t_TooMany : PySem.W.typeIn K (.ref c_TooMany) = some (.type "type"))
    (hd_NoHands : PySem.W.hasDictIn K c_NoHands = true)
    (su_CrumbError_NoHands : PySem.W.subIn K (.ref c_CrumbError) (.ref c_NoHands) = some false)
    (su_NoFraction_NoHands : PySem.W.subIn K (.ref c_NoFraction) (.ref c_NoHands) = some false)
    (su_NoTable_NoHands : PySem.W.subIn K (.ref c_NoTable) (.ref c_NoHands) = some false)
    (su_NoSpan_NoHands : PySem.W.subIn K (.ref c_NoSpan) (.ref c_NoHands) = some false)
    (su_NoWorth_NoHands : PySem.W.subIn K (.ref c_NoWorth) (.ref c_NoHands) = some false)
    (su_NoHands_NoHands : PySem.W.subIn K (.ref c_NoHands) (.ref c_NoHands) = some true)
    (su_TooMany_NoHands : PySem.W.subIn K (.ref c_TooMany) (.ref c_NoHands) = some false)
    (hd_TooMany : PySem.W.hasDictIn K c_TooMany = true)
    (su_CrumbError_TooMany : PySem.W.subIn K (.ref c_CrumbError) (.ref c_TooMany) = some false)
    (su_NoFraction_TooMany : PySem.W.subIn K (.ref c_NoFraction) (.ref c_TooMany) = some false)
    (su_NoTable_TooMany : PySem.W.subIn K (.ref c_NoTable) (.ref c_TooMany) = some false)
    (su_NoSpan_TooMany : PySem.W.subIn K (.ref c_NoSpan) (.ref c_TooMany) = some false)
    (su_NoWorth_TooMany : PySem.W.subIn K (.ref c_NoWorth) (.ref c_TooMany) = some false)
    (su_NoHands_TooMany : PySem.W.subIn K (.ref c_NoHands) (.ref c_TooMany) = some false)
    (su_TooMany_TooMany : PySem.W.subIn K (.ref c_TooMany) (.ref c_TooMany) = some true)
    (hg_NoHands : PySem.W.findIn K (.ref c_NoHands) "__getattribute__" = some (some (.builtin "BaseException.__getattribute__")))
    (hk_NoHands : PySem.W.findIn K (.ref c_NoHands) "__getattr__" = some none)
    (hs_NoHands : PySem.W.subIn K (.ref c_NoHands) (.type "BaseException") = some true)
    (hh_NoHands : PySem.W.hasDictIn K c_NoHands = true)
    (ha_NoHands : PySem.W.findIn K (.ref c_NoHands) "__class__" = some (some (.builtin "object.__class__")))
    (hn_NoHands : PySem.W.specialIn K (.builtin "object.__class__") "__get__" = some (some (.builtin "getset_descriptor.__get__")))
    (ht_NoHands : PySem.W.takesIn K (.builtin "object.__class__") = some true)
    (hm_NoHands : PySem.W.mroIn K c_NoHands (.type "object") = some true)
    (hg_TooMany : PySem.W.findIn K (.ref c_TooMany) "__getattribute__" = some (some (.builtin "BaseException.__getattribute__")))
    (hk_TooMany : PySem.W.findIn K (.ref c_TooMany) "__getattr__" = some none)
    (hs_TooMany : PySem.W.subIn K (.ref c_TooMany) (.type "BaseException") = some true)
    (hh_TooMany : PySem.W.hasDictIn K c_TooMany = true)
    (ha_TooMany : PySem.W.findIn K (.ref c_TooMany) "__class__" = some (some (.builtin "object.__class__")))
    (hn_TooMany : PySem.W.specialIn K (.builtin "object.__class__") "__get__" = some (some (.builtin "getset_descriptor.__get__")))
    (ht_TooMany : PySem.W.takesIn K (.builtin "object.__class__") = some true)
    (hm_TooMany : PySem.W.mroIn K c_TooMany (.type "object") = some true)
    (ki_CrumbError_CrumbError : PySem.W.kitOne K (.ref c_CrumbError) (.ref c_CrumbError) = some true)
    (ki_NoFraction_CrumbError : PySem.W.kitOne K (.ref c_NoFraction) (.ref c_CrumbError) = some true)
    (ki_NoTable_CrumbError : PySem.W.kitOne K (.ref c_NoTable) (.ref c_CrumbError) = some true)
    (ki_NoSpan_CrumbError : PySem.W.kitOne K (.ref c_NoSpan) (.ref c_CrumbError) = some true)
    (ki_NoWorth_CrumbError : PySem.W.kitOne K (.ref c_NoWorth) (.ref c_CrumbError) = some true)
    (ki_NoHands_CrumbError : PySem.W.kitOne K (.ref c_NoHands) (.ref c_CrumbError) = some true)
    (ki_TooMany_CrumbError : PySem.W.kitOne K (.ref c_TooMany) (.ref c_CrumbError) = some true)
    (ki_CrumbError_NoHands : PySem.W.kitOne K (.ref c_CrumbError) (.ref c_NoHands) = some false)
    (ki_NoFraction_NoHands : PySem.W.kitOne K (.ref c_NoFraction) (.ref c_NoHands) = some false)
    (ki_NoTable_NoHands : PySem.W.kitOne K (.ref c_NoTable) (.ref c_NoHands) = some false)
    (ki_NoSpan_NoHands : PySem.W.kitOne K (.ref c_NoSpan) (.ref c_NoHands) = some false)
    (ki_NoWorth_NoHands : PySem.W.kitOne K (.ref c_NoWorth) (.ref c_NoHands) = some false)
    (ki_NoHands_NoHands : PySem.W.kitOne K (.ref c_NoHands) (.ref c_NoHands) = some true)
    (ki_TooMany_NoHands : PySem.W.kitOne K (.ref c_TooMany) (.ref c_NoHands) = some false)
    (ki_CrumbError_TooMany : PySem.W.kitOne K (.ref c_CrumbError) (.ref c_TooMany) = some false)
    (ki_NoFraction_TooMany : PySem.W.kitOne K (.ref c_NoFraction) (.ref c_TooMany) = some false)
    (ki_NoTable_TooMany : PySem.W.kitOne K (.ref c_NoTable) (.ref c_TooMany) = some false)
    (ki_NoSpan_TooMany : PySem.W.kitOne K (.ref c_NoSpan) (.ref c_TooMany) = some false)
    (ki_NoWorth_TooMany : PySem.W.kitOne K (.ref c_NoWorth) (.ref c_TooMany) = some false)
    (ki_NoHands_TooMany : PySem.W.kitOne K (.ref c_NoHands) (.ref c_TooMany) = some false)
    (ki_TooMany_TooMany : PySem.W.kitOne K (.ref c_TooMany) (.ref c_TooMany) = some true)
    (ki_CrumbError_ValueError : PySem.W.kitOne K (.ref c_CrumbError) (.type "ValueError") = some true)
    (ki_NoFraction_ValueError : PySem.W.kitOne K (.ref c_NoFraction) (.type "ValueError") = some true)
    (ki_NoTable_ValueError : PySem.W.kitOne K (.ref c_NoTable) (.type "ValueError") = some true)
    (ki_NoSpan_ValueError : PySem.W.kitOne K (.ref c_NoSpan) (.type "ValueError") = some true)
    (ki_NoWorth_ValueError : PySem.W.kitOne K (.ref c_NoWorth) (.type "ValueError") = some true)
    (ki_NoHands_ValueError : PySem.W.kitOne K (.ref c_NoHands) (.type "ValueError") = some true)
    (ki_TooMany_ValueError : PySem.W.kitOne K (.ref c_TooMany) (.type "ValueError") = some true) :
    ∃ fd : FuncData, (∀ (s : Shared) (v : Value), BindsTo s fd ⟨[v], []⟩ [("_law_script", v)]) ∧ ∀ base : Heap, K.In base → base.Ns mainGlobals mg → FnOk l.prog w K mg base (L2.CX l.prog w) 11 fa fd ["_law_script"] (spLaw K) := by
  have e := hfa.symm.trans (PySem.W.mg_of X G a48)
  cases e
  have ecNoHands : ExcC K c_NoHands := ⟨hg_NoHands, hk_NoHands, hs_NoHands, hh_NoHands, ha_NoHands, hn_NoHands, ht_NoHands, hm_NoHands⟩
  have ecTooMany : ExcC K c_TooMany := ⟨hg_TooMany, hk_TooMany, hs_TooMany, hh_TooMany, ha_TooMany, hn_TooMany, ht_TooMany, hm_TooMany⟩
  let A : Adr := { c_CrumbError := c_CrumbError, c_NoFraction := c_NoFraction, c_NoTable := c_NoTable, c_NoSpan := c_NoSpan, c_NoWorth := c_NoWorth, c_NoHands := c_NoHands, c_TooMany := c_TooMany, c_Table := c_Table, f_divisor := f0, d_divisor := (PySem.W.fnOf "divisor" "divisor" (defArgs s_divisor) (defBody s_divisor) (defScope s_divisor) .none kV0 dc0 pm0 an0 cd0 ct0), f_is_less := f1, d_is_less := (PySem.W.fnOf "is_less" "is_less" (defArgs s_is_less) (defBody s_is_less) (defScope s_is_less) .none kV1 dc1 pm1 an1 cd1 ct1), f_piece_row := f2, d_piece_row := (PySem.W.fnOf "piece_row" "piece_row" (defArgs s_piece_row) (defBody s_piece_row) (defScope s_piece_row) .none kV2 dc2 pm2 an2 cd2 ct2), f_cell_corners := f3, d_cell_corners := (PySem.W.fnOf "cell_corners" "cell_corners" (defArgs s_cell_corners) (defBody s_cell_corners) (defScope s_cell_corners) .none kV3 dc3 pm3 an3 cd3 ct3), f_may_hold := f4, d_may_hold := (PySem.W.fnOf "may_hold" "may_hold" (defArgs s_may_hold) (defBody s_may_hold) (defScope s_may_hold) .none kV4 dc4 pm4 an4 cd4 ct4), f_is_stretch := f5, d_is_stretch := (PySem.W.fnOf "is_stretch" "is_stretch" (defArgs s_is_stretch) (defBody s_is_stretch) (defScope s_is_stretch) .none kV5 dc5 pm5 an5 cd5 ct5), f_Table_total := f6, d_Table_total := (PySem.W.fnOf "total" "Table.total" (defArgs s_Table_total) (defBody s_Table_total) (defScope s_Table_total) .none kV6 dc6 pm6 an6 cd6 ct6), f_Table_ends := f7, d_Table_ends := (PySem.W.fnOf "ends" "Table.ends" (defArgs s_Table_ends) (defBody s_Table_ends) (defScope s_Table_ends) .none kV7 dc7 pm7 an7 cd7 ct7), f_Table___len__ := f8, d_Table___len__ := (PySem.W.fnOf "__len__" "Table.__len__" (defArgs s_Table___len__) (defBody s_Table___len__) (defScope s_Table___len__) .none kV8 dc8 pm8 an8 cd8 ct8), f_law_mixed := f9, d_law_mixed := (PySem.W.fnOf "_law_mixed" "_law_mixed" (defArgs s_law_mixed) (defBody s_law_mixed) (defScope s_law_mixed) .none kV9 dc9 pm9 an9 cd9 ct9), f_law_divisor := f10, d_law_divisor := (PySem.W.fnOf "_law_divisor" "_law_divisor" (defArgs s_law_divisor) (defBody s_law_divisor) (defScope s_law_divisor) .none kV10 dc10 pm10 an10 cd10 ct10), f_law_whole := f11, d_law_whole := (PySem.W.fnOf "_law_whole" "_law_whole" (defArgs s_law_whole) (defBody s_law_whole) (defScope s_law_whole) .none kV11 dc11 pm11 an11 cd11 ct11), f_law_worth := f12, d_law_worth := (PySem.W.fnOf "_law_worth" "_law_worth" (defArgs s_law_worth) (defBody s_law_worth) (defScope s_law_worth) .none kV12 dc12 pm12 an12 cd12 ct12), f_law_less := f13, d_law_less := (PySem.W.fnOf "_law_less" "_law_less" (defArgs s_law_less) (defBody s_law_less) (defScope s_law_less) .none kV13 dc13 pm13 an13 cd13 ct13), f_fraction_of := f14, d_fraction_of := (PySem.W.fnOf "fraction_of" "fraction_of" (defArgs s_fraction_of) (defBody s_fraction_of) (defScope s_fraction_of) (.ref T14) kV14 dc14 pm14 an14 cd14 ct14), f_lesser := f15, d_lesser := (PySem.W.fnOf "lesser" "lesser" (defArgs s_lesser) (defBody s_lesser) (defScope s_lesser) .none kV15 dc15 pm15 an15 cd15 ct15), f_greater := f16, d_greater := (PySem.W.fnOf "greater" "greater" (defArgs s_greater) (defBody s_greater) (defScope s_greater) .none kV16 dc16 pm16 an16 cd16 ct16), f_placed := f17, d_placed := (PySem.W.fnOf "placed" "placed" (defArgs s_placed) (defBody s_placed) (defScope s_placed) .none kV17 dc17 pm17 an17 cd17 ct17), f_wishes := f18, d_wishes := (PySem.W.fnOf "wishes" "wishes" (defArgs s_wishes) (defBody s_wishes) (defScope s_wishes) .none kV18 dc18 pm18 an18 cd18 ct18), f_ask_span := f19, d_ask_span := (PySem.W.fnOf "ask_span" "ask_span" (defArgs s_ask_span) (defBody s_ask_span) (defScope s_ask_span) .none kV19 dc19 pm19 an19 cd19 ct19), f_law_take := f20, d_law_take := (PySem.W.fnOf "_law_take" "_law_take" (defArgs s_law_take) (defBody s_law_take) (defScope s_law_take) .none kV20 dc20 pm20 an20 cd20 ct20), f_law_fraction := f21, d_law_fraction := (PySem.W.fnOf "_law_fraction" "_law_fraction" (defArgs s_law_fraction) (defBody s_law_fraction) (defScope s_law_fraction) .none kV21 dc21 pm21 an21 cd21 ct21), f_law_content := f22, d_law_content := (PySem.W.fnOf "_law_content" "_law_content" (defArgs s_law_content) (defBody s_law_content) (defScope s_law_content) .none kV22 dc22 pm22 an22 cd22 ct22), f_plus := f23, d_plus := (PySem.W.fnOf "plus" "plus" (defArgs s_plus) (defBody s_plus) (defScope s_plus) .none kV23 dc23 pm23 an23 cd23 ct23), f_minus := f24, d_minus := (PySem.W.fnOf "minus" "minus" (defArgs s_minus) (defBody s_minus) (defScope s_minus) .none kV24 dc24 pm24 an24 cd24 ct24), f_times := f25, d_times := (PySem.W.fnOf "times" "times" (defArgs s_times) (defBody s_times) (defScope s_times) .none kV25 dc25 pm25 an25 cd25 ct25), f_over := f26, d_over := (PySem.W.fnOf "over" "over" (defArgs s_over) (defBody s_over) (defScope s_over) .none kV26 dc26 pm26 an26 cd26 ct26), f_all_ends := f27, d_all_ends := (PySem.W.fnOf "all_ends" "all_ends" (defArgs s_all_ends) (defBody s_all_ends) (defScope s_all_ends) .none kV27 dc27 pm27 an27 cd27 ct27), f_bounds_of := f28, d_bounds_of := (PySem.W.fnOf "bounds_of" "bounds_of" (defArgs s_bounds_of) (defBody s_bounds_of) (defScope s_bounds_of) .none kV28 dc28 pm28 an28 cd28 ct28), f_law_stretches := f29, d_law_stretches := (PySem.W.fnOf "_law_stretches" "_law_stretches" (defArgs s_law_stretches) (defBody s_law_stretches) (defScope s_law_stretches) .none kV29 dc29 pm29 an29 cd29 ct29), f_law_place := f30, d_law_place := (PySem.W.fnOf "_law_place" "_law_place" (defArgs s_law_place) (defBody s_law_place) (defScope s_law_place) .none kV30 dc30 pm30 an30 cd30 ct30), f_value_at := f31, d_value_at := (PySem.W.fnOf "value_at" "value_at" (defArgs s_value_at) (defBody s_value_at) (defScope s_value_at) .none kV31 dc31 pm31 an31 cd31 ct31), f_crossing := f32, d_crossing := (PySem.W.fnOf "crossing" "crossing" (defArgs s_crossing) (defBody s_crossing) (defScope s_crossing) .none kV32 dc32 pm32 an32 cd32 ct32), f_place_in := f33, d_place_in := (PySem.W.fnOf "place_in" "place_in" (defArgs s_place_in) (defBody s_place_in) (defScope s_place_in) .none kV33 dc33 pm33 an33 cd33 ct33), f_Table___init__ := f34, d_Table___init__ := (PySem.W.fnOf "__init__" "Table.__init__" (defArgs s_Table___init__) (defBody s_Table___init__) (defScope s_Table___init__) .none kV34 dc34 pm34 an34 cd34 ct34), f_Table_between := f35, d_Table_between := (PySem.W.fnOf "between" "Table.between" (defArgs s_Table_between) (defBody s_Table_between) (defScope s_Table_between) .none kV35 dc35 pm35 an35 cd35 ct35), f_law_paper := f36, d_law_paper := (PySem.W.fnOf "_law_paper" "_law_paper" (defArgs s_law_paper) (defBody s_law_paper) (defScope s_law_paper) .none kV36 dc36 pm36 an36 cd36 ct36), f_law_long := f37, d_law_long := (PySem.W.fnOf "_law_long" "_law_long" (defArgs s_law_long) (defBody s_law_long) (defScope s_law_long) .none kV37 dc37 pm37 an37 cd37 ct37), f_kept_side := f38, d_kept_side := (PySem.W.fnOf "kept_side" "kept_side" (defArgs s_kept_side) (defBody s_kept_side) (defScope s_kept_side) .none kV38 dc38 pm38 an38 cd38 ct38), f_Table_worth := f39, d_Table_worth := (PySem.W.fnOf "worth" "Table.worth" (defArgs s_Table_worth) (defBody s_Table_worth) (defScope s_Table_worth) (.ref T39) kV39 dc39 pm39 an39 cd39 ct39), f_Table_cut := f40, d_Table_cut := (PySem.W.fnOf "cut" "Table.cut" (defArgs s_Table_cut) (defBody s_Table_cut) (defScope s_Table_cut) (.ref T40) kV40 dc40 pm40 an40 cd40 ct40), f_sums_up_to := f41, d_sums_up_to := (PySem.W.fnOf "sums_up_to" "sums_up_to" (defArgs s_sums_up_to) (defBody s_sums_up_to) (defScope s_sums_up_to) .none kV41 dc41 pm41 an41 cd41 ct41), f_corner_for := f42, d_corner_for := (PySem.W.fnOf "corner_for" "corner_for" (defArgs s_corner_for) (defBody s_corner_for) (defScope s_corner_for) .none kV42 dc42 pm42 an42 cd42 ct42), f_two_pieces := f43, d_two_pieces := (PySem.W.fnOf "two_pieces" "two_pieces" (defArgs s_two_pieces) (defBody s_two_pieces) (defScope s_two_pieces) .none kV43 dc43 pm43 an43 cd43 ct43), f_three_pieces := f44, d_three_pieces := (PySem.W.fnOf "three_pieces" "three_pieces" (defArgs s_three_pieces) (defBody s_three_pieces) (defScope s_three_pieces) .none kV44 dc44 pm44 an44 cd44 ct44), f_whole_pieces := f45, d_whole_pieces := (PySem.W.fnOf "whole_pieces" "whole_pieces" (defArgs s_whole_pieces) (defBody s_whole_pieces) (defScope s_whole_pieces) .none kV45 dc45 pm45 an45 cd45 ct45), f_law_answer := f46, d_law_answer := (PySem.W.fnOf "_law_answer" "_law_answer" (defArgs s_law_answer) (defBody s_law_answer) (defScope s_law_answer) .none kV46 dc46 pm46 an46 cd46 ct46), f_law_well := f47, d_law_well := (PySem.W.fnOf "_law_well" "_law_well" (defArgs s_law_well) (defBody s_law_well) (defScope s_law_well) .none kV47 dc47 pm47 an47 cd47 ct47), f_law := fa, d_law := (PySem.W.fnOf "law" "law" (defArgs s_law) (defBody s_law) (defScope s_law) .none kV48 dc48 pm48 an48 cd48 ct48), a_FIRST := a_FIRST_0, a_LAST := a_LAST_0, t_MOST := t_MOST, t_MOST_STRETCHES := t_MOST_STRETCHES, t_MOST_WIDTH := t_MOST_WIDTH, t_MOST_WORTH := t_MOST_WORTH, a_NOUGHT := a_NOUGHT_0, a_ONE := a_ONE_0, a_ORDERS := a_ORDERS_0 }
  have T : ∀ base : Heap, Txt K mg base A := fun base => {
    g_CrumbError := PySem.W.mg_of X G g_CrumbError
    g_NoFraction := PySem.W.mg_of X G g_NoFraction
    g_NoTable := PySem.W.mg_of X G g_NoTable
    g_NoSpan := PySem.W.mg_of X G g_NoSpan
    g_NoWorth := PySem.W.mg_of X G g_NoWorth
    g_NoHands := PySem.W.mg_of X G g_NoHands
    g_TooMany := PySem.W.mg_of X G g_TooMany
    g_Table := PySem.W.mg_of X G g_Table
    g_divisor := PySem.W.mg_of X G a0
    F_divisor := fun_mk (st := s_divisor) l0 c0 k0
    b_divisor := (fun_mk (st := s_divisor) l0 c0 k0).binds (ps := p_divisor) fun _ _ _ _ _ _ us hl => match us, hl with | [_, _], _ => rfl
    g_is_less := PySem.W.mg_of X G a1
    F_is_less := fun_mk (st := s_is_less) l1 c1 k1
    b_is_less := (fun_mk (st := s_is_less) l1 c1 k1).binds (ps := p_is_less) fun _ _ _ _ _ _ us hl => match us, hl with | [_, _], _ => rfl
    g_piece_row := PySem.W.mg_of X G a2
    F_piece_row := fun_mk (st := s_piece_row) l2 c2 k2
    b_piece_row := (fun_mk (st := s_piece_row) l2 c2 k2).binds (ps := p_piece_row) fun _ _ _ _ _ _ us hl => match us, hl with | [_, _, _, _], _ => rfl
    g_cell_corners := PySem.W.mg_of X G a3
    F_cell_corners := fun_mk (st := s_cell_corners) l3 c3 k3
    b_cell_corners := (fun_mk (st := s_cell_corners) l3 c3 k3).binds (ps := p_cell_corners) fun _ _ _ _ _ _ us hl => match us, hl with | [_, _], _ => rfl
    g_may_hold := PySem.W.mg_of X G a4
    F_may_hold := fun_mk (st := s_may_hold) l4 c4 k4
    b_may_hold := (fun_mk (st := s_may_hold) l4 c4 k4).binds (ps := p_may_hold) fun _ _ _ _ _ _ us hl => match us, hl with | [_, _, _], _ => rfl
    g_is_stretch := PySem.W.mg_of X G a5
    F_is_stretch := fun_mk (st := s_is_stretch) l5 c5 k5
    b_is_stretch := (fun_mk (st := s_is_stretch) l5 c5 k5).binds (ps := p_is_stretch) fun _ _ _ _ _ _ us hl => match us, hl with | [_, _], _ => rfl
    F_Table_total := fun_mk (st := s_Table_total) l6 c6 k6
    b_Table_total := (fun_mk (st := s_Table_total) l6 c6 k6).binds (ps := p_Table_total) fun _ _ _ _ _ _ us hl => match us, hl with | [_], _ => rfl
    F_Table_ends := fun_mk (st := s_Table_ends) l7 c7 k7
    b_Table_ends := (fun_mk (st := s_Table_ends) l7 c7 k7).binds (ps := p_Table_ends) fun _ _ _ _ _ _ us hl => match us, hl with | [_], _ => rfl
    F_Table___len__ := fun_mk (st := s_Table___len__) l8 c8 k8
    b_Table___len__ := (fun_mk (st := s_Table___len__) l8 c8 k8).binds (ps := p_Table___len__) fun _ _ _ _ _ _ us hl => match us, hl with | [_], _ => rfl
    g_law_mixed := PySem.W.mg_of X G a9
    F_law_mixed := fun_mk (st := s_law_mixed) l9 c9 k9
    b_law_mixed := (fun_mk (st := s_law_mixed) l9 c9 k9).binds (ps := p_law_mixed) fun _ _ _ _ _ _ us hl => match us, hl with | [_, _, _], _ => rfl
    g_law_divisor := PySem.W.mg_of X G a10
    F_law_divisor := fun_mk (st := s_law_divisor) l10 c10 k10
    b_law_divisor := (fun_mk (st := s_law_divisor) l10 c10 k10).binds (ps := p_law_divisor) fun _ _ _ _ _ _ us hl => match us, hl with | [_, _], _ => rfl
    g_law_whole := PySem.W.mg_of X G a11
    F_law_whole := fun_mk (st := s_law_whole) l11 c11 k11
    b_law_whole := (fun_mk (st := s_law_whole) l11 c11 k11).binds (ps := p_law_whole) fun _ _ _ _ _ _ us hl => match us, hl with | [_], _ => rfl
    g_law_worth := PySem.W.mg_of X G a12
    F_law_worth := fun_mk (st := s_law_worth) l12 c12 k12
    b_law_worth := (fun_mk (st := s_law_worth) l12 c12 k12).binds (ps := p_law_worth) fun _ _ _ _ _ _ us hl => match us, hl with | [_, _, _], _ => rfl
    g_law_less := PySem.W.mg_of X G a13
    F_law_less := fun_mk (st := s_law_less) l13 c13 k13
    b_law_less := (fun_mk (st := s_law_less) l13 c13 k13).binds (ps := p_law_less) fun _ _ _ _ _ _ us hl => match us, hl with | [_, _], _ => rfl
    g_fraction_of := PySem.W.mg_of X G a14
    F_fraction_of := ⟨⟨_, _, _, _, _, _, _, _, _, _, rfl, l14, c14, .inr ⟨by simp, _, _, _, _, rfl, lT14, rfl, (.cons ⟨_, rfl⟩ .nil)⟩, .inl rfl⟩, k14⟩
    g_lesser := PySem.W.mg_of X G a15
    F_lesser := fun_mk (st := s_lesser) l15 c15 k15
    b_lesser := (fun_mk (st := s_lesser) l15 c15 k15).binds (ps := p_lesser) fun _ _ _ _ _ _ us hl => match us, hl with | [_, _], _ => rfl
    g_greater := PySem.W.mg_of X G a16
    F_greater := fun_mk (st := s_greater) l16 c16 k16
    b_greater := (fun_mk (st := s_greater) l16 c16 k16).binds (ps := p_greater) fun _ _ _ _ _ _ us hl => match us, hl with | [_, _], _ => rfl
    g_placed := PySem.W.mg_of X G a17
    F_placed := fun_mk (st := s_placed) l17 c17 k17
    b_placed := (fun_mk (st := s_placed) l17 c17 k17).binds (ps := p_placed) fun _ _ _ _ _ _ us hl => match us, hl with | [_, _], _ => rfl
    g_wishes := PySem.W.mg_of X G a18
    F_wishes := fun_mk (st := s_wishes) l18 c18 k18
    b_wishes := (fun_mk (st := s_wishes) l18 c18 k18).binds (ps := p_wishes) fun _ _ _ _ _ _ us hl => match us, hl with | [_, _, _, _], _ => rfl
    g_ask_span := PySem.W.mg_of X G a19
    F_ask_span := fun_mk (st := s_ask_span) l19 c19 k19
    b_ask_span := (fun_mk (st := s_ask_span) l19 c19 k19).binds (ps := p_ask_span) fun _ _ _ _ _ _ us hl => match us, hl with | [_, _], _ => rfl
    g_law_take := PySem.W.mg_of X G a20
    F_law_take := fun_mk (st := s_law_take) l20 c20 k20
    b_law_take := (fun_mk (st := s_law_take) l20 c20 k20).binds (ps := p_law_take) fun _ _ _ _ _ _ us hl => match us, hl with | [_, _], _ => rfl
    g_law_fraction := PySem.W.mg_of X G a21
    F_law_fraction := fun_mk (st := s_law_fraction) l21 c21 k21
    b_law_fraction := (fun_mk (st := s_law_fraction) l21 c21 k21).binds (ps := p_law_fraction) fun _ _ _ _ _ _ us hl => match us, hl with | [_], _ => rfl
    g_law_content := PySem.W.mg_of X G a22
    F_law_content := fun_mk (st := s_law_content) l22 c22 k22
    b_law_content := (fun_mk (st := s_law_content) l22 c22 k22).binds (ps := p_law_content) fun _ _ _ _ _ _ us hl => match us, hl with | [_, _], _ => rfl
    g_plus := PySem.W.mg_of X G a23
    F_plus := fun_mk (st := s_plus) l23 c23 k23
    b_plus := (fun_mk (st := s_plus) l23 c23 k23).binds (ps := p_plus) fun _ _ _ _ _ _ us hl => match us, hl with | [_, _], _ => rfl
    g_minus := PySem.W.mg_of X G a24
    F_minus := fun_mk (st := s_minus) l24 c24 k24
    b_minus := (fun_mk (st := s_minus) l24 c24 k24).binds (ps := p_minus) fun _ _ _ _ _ _ us hl => match us, hl with | [_, _], _ => rfl
    g_times := PySem.W.mg_of X G a25
    F_times := fun_mk (st := s_times) l25 c25 k25
    b_times := (fun_mk (st := s_times) l25 c25 k25).binds (ps := p_times) fun _ _ _ _ _ _ us hl => match us, hl with | [_, _], _ => rfl
    g_over := PySem.W.mg_of X G a26
    F_over := fun_mk (st := s_over) l26 c26 k26
    b_over := (fun_mk (st := s_over) l26 c26 k26).binds (ps := p_over) fun _ _ _ _ _ _ us hl => match us, hl with | [_, _], _ => rfl
    g_all_ends := PySem.W.mg_of X G a27
    F_all_ends := fun_mk (st := s_all_ends) l27 c27 k27
    b_all_ends := (fun_mk (st := s_all_ends) l27 c27 k27).binds (ps := p_all_ends) fun _ _ _ _ _ _ us hl => match us, hl with | [_], _ => rfl
    g_bounds_of := PySem.W.mg_of X G a28
    F_bounds_of := fun_mk (st := s_bounds_of) l28 c28 k28
    b_bounds_of := (fun_mk (st := s_bounds_of) l28 c28 k28).binds (ps := p_bounds_of) fun _ _ _ _ _ _ us hl => match us, hl with | [_], _ => rfl
    g_law_stretches := PySem.W.mg_of X G a29
    F_law_stretches := fun_mk (st := s_law_stretches) l29 c29 k29
    b_law_stretches := (fun_mk (st := s_law_stretches) l29 c29 k29).binds (ps := p_law_stretches) fun _ _ _ _ _ _ us hl => match us, hl with | [_, _], _ => rfl
    g_law_place := PySem.W.mg_of X G a30
    F_law_place := fun_mk (st := s_law_place) l30 c30 k30
    b_law_place := (fun_mk (st := s_law_place) l30 c30 k30).binds (ps := p_law_place) fun _ _ _ _ _ _ us hl => match us, hl with | [_], _ => rfl
    g_value_at := PySem.W.mg_of X G a31
    F_value_at := fun_mk (st := s_value_at) l31 c31 k31
    b_value_at := (fun_mk (st := s_value_at) l31 c31 k31).binds (ps := p_value_at) fun _ _ _ _ _ _ us hl => match us, hl with | [_, _], _ => rfl
    g_crossing := PySem.W.mg_of X G a32
    F_crossing := fun_mk (st := s_crossing) l32 c32 k32
    b_crossing := (fun_mk (st := s_crossing) l32 c32 k32).binds (ps := p_crossing) fun _ _ _ _ _ _ us hl => match us, hl with | [_, _, _, _], _ => rfl
    g_place_in := PySem.W.mg_of X G a33
    F_place_in := fun_mk (st := s_place_in) l33 c33 k33
    b_place_in := (fun_mk (st := s_place_in) l33 c33 k33).binds (ps := p_place_in) fun _ _ _ _ _ _ us hl => match us, hl with | [_, _, _], _ => rfl
    F_Table___init__ := fun_mk (st := s_Table___init__) l34 c34 k34
    b_Table___init__ := (fun_mk (st := s_Table___init__) l34 c34 k34).binds (ps := p_Table___init__) fun _ _ _ _ _ _ us hl => match us, hl with | [_, _], _ => rfl
    F_Table_between := fun_mk (st := s_Table_between) l35 c35 k35
    b_Table_between := (fun_mk (st := s_Table_between) l35 c35 k35).binds (ps := p_Table_between) fun _ _ _ _ _ _ us hl => match us, hl with | [_, _, _], _ => rfl
    g_law_paper := PySem.W.mg_of X G a36
    F_law_paper := fun_mk (st := s_law_paper) l36 c36 k36
    b_law_paper := (fun_mk (st := s_law_paper) l36 c36 k36).binds (ps := p_law_paper) fun _ _ _ _ _ _ us hl => match us, hl with | [_, _], _ => rfl
    g_law_long := PySem.W.mg_of X G a37
    F_law_long := fun_mk (st := s_law_long) l37 c37 k37
    b_law_long := (fun_mk (st := s_law_long) l37 c37 k37).binds (ps := p_law_long) fun _ _ _ _ _ _ us hl => match us, hl with | [_, _], _ => rfl
    g_kept_side := PySem.W.mg_of X G a38
    F_kept_side := fun_mk (st := s_kept_side) l38 c38 k38
    b_kept_side := (fun_mk (st := s_kept_side) l38 c38 k38).binds (ps := p_kept_side) fun _ _ _ _ _ _ us hl => match us, hl with | [_, _], _ => rfl
    F_Table_worth := ⟨⟨_, _, _, _, _, _, _, _, _, _, rfl, l39, c39, .inr ⟨by simp, _, _, _, _, rfl, lT39, rfl, (.cons rfl (.cons rfl .nil))⟩, .inl rfl⟩, k39⟩
    F_Table_cut := ⟨⟨_, _, _, _, _, _, _, _, _, _, rfl, l40, c40, .inr ⟨by simp, _, _, _, _, rfl, lT40, rfl, (.cons rfl .nil)⟩, .inl rfl⟩, k40⟩
    g_sums_up_to := PySem.W.mg_of X G a41
    F_sums_up_to := fun_mk (st := s_sums_up_to) l41 c41 k41
    b_sums_up_to := (fun_mk (st := s_sums_up_to) l41 c41 k41).binds (ps := p_sums_up_to) fun _ _ _ _ _ _ us hl => match us, hl with | [_, _], _ => rfl
    g_corner_for := PySem.W.mg_of X G a42
    F_corner_for := fun_mk (st := s_corner_for) l42 c42 k42
    b_corner_for := (fun_mk (st := s_corner_for) l42 c42 k42).binds (ps := p_corner_for) fun _ _ _ _ _ _ us hl => match us, hl with | [_, _, _, _], _ => rfl
    g_two_pieces := PySem.W.mg_of X G a43
    F_two_pieces := fun_mk (st := s_two_pieces) l43 c43 k43
    b_two_pieces := (fun_mk (st := s_two_pieces) l43 c43 k43).binds (ps := p_two_pieces) fun _ _ _ _ _ _ us hl => match us, hl with | [_, _], _ => rfl
    g_three_pieces := PySem.W.mg_of X G a44
    F_three_pieces := fun_mk (st := s_three_pieces) l44 c44 k44
    b_three_pieces := (fun_mk (st := s_three_pieces) l44 c44 k44).binds (ps := p_three_pieces) fun _ _ _ _ _ _ us hl => match us, hl with | [_], _ => rfl
    g_whole_pieces := PySem.W.mg_of X G a45
    F_whole_pieces := fun_mk (st := s_whole_pieces) l45 c45 k45
    b_whole_pieces := (fun_mk (st := s_whole_pieces) l45 c45 k45).binds (ps := p_whole_pieces) fun _ _ _ _ _ _ us hl => match us, hl with | [_], _ => rfl
    g_law_answer := PySem.W.mg_of X G a46
    F_law_answer := fun_mk (st := s_law_answer) l46 c46 k46
    b_law_answer := (fun_mk (st := s_law_answer) l46 c46 k46).binds (ps := p_law_answer) fun _ _ _ _ _ _ us hl => match us, hl with | [_], _ => rfl
    g_law_well := PySem.W.mg_of X G a47
    F_law_well := fun_mk (st := s_law_well) l47 c47 k47
    b_law_well := (fun_mk (st := s_law_well) l47 c47 k47).binds (ps := p_law_well) fun _ _ _ _ _ _ us hl => match us, hl with | [_], _ => rfl
    g_law := PySem.W.mg_of X G a48
    F_law := fun_mk (st := s_law) l48 c48 k48
    b_law := (fun_mk (st := s_law) l48 c48 k48).binds (ps := p_law) fun _ _ _ _ _ _ us hl => match us, hl with | [_], _ => rfl
    cl_Table := ⟨pg_Table, hD_Table, po_Table, sa_Table⟩
    mk_Table := ⟨mm_Table, mi_Table, mf_Table, mp_Table⟩
    mt_Table___len__ := ⟨ta_Table___len__, tf_Table___len__, k8⟩
    mt_Table_between := ⟨ta_Table_between, tf_Table_between, k35⟩
    mt_Table_cut := ⟨ta_Table_cut, tf_Table_cut, k40⟩
    mt_Table_ends := ⟨ta_Table_ends, tf_Table_ends, k7⟩
    mt_Table_total := ⟨ta_Table_total, tf_Table_total, k6⟩
    mt_Table_worth := ⟨ta_Table_worth, tf_Table_worth, k39⟩
    fo_bounds := ⟨fun c i h => match c, h with
      | 7, h => by cases h; exact ⟨rfl, nd_Table, nl_Table, ⟨pg_Table, hD_Table, po_Table, sa_Table⟩, na_Table_bounds⟩⟩
    fo_kept := ⟨fun c i h => match c, h with
      | 7, h => by cases h; exact ⟨rfl, nd_Table, nl_Table, ⟨pg_Table, hD_Table, po_Table, sa_Table⟩, na_Table_kept⟩⟩
    B_Table___init___2_ := callB_n fun us ws h1 h2 => match us, h1, ws, h2 with | [_, _], _, [], _ => rfl
    B_Table_between_3_ := callB_n fun us ws h1 h2 => match us, h1, ws, h2 with | [_, _, _], _, [], _ => rfl
    B_Table_cut_3_ := callB_d lT40 rfl (.cons rfl .nil) fun us ws h1 h2 => match us, h1, ws, h2 with | [_, _, _], _, [], _ => ⟨_, rfl, rfl⟩
    B_Table_ends_1_ := callB_n fun us ws h1 h2 => match us, h1, ws, h2 with | [_], _, [], _ => rfl
    B_Table_total_1_ := callB_n fun us ws h1 h2 => match us, h1, ws, h2 with | [_], _, [], _ => rfl
    B_Table_worth_3_ := callB_d lT39 rfl (.cons rfl (.cons rfl .nil)) fun us ws h1 h2 => match us, h1, ws, h2 with | [_, _, _], _, [], _ => ⟨_, rfl, rfl⟩
    B_fraction_of_2_ := callB_d lT14 rfl (.cons ⟨_, rfl⟩ .nil) fun us ws h1 h2 => match us, h1, ws, h2 with | [_, _], _, [], _ => ⟨_, rfl, rfl⟩
    z_ValueError := PySem.W.mg_none_of X G z_ValueError
    z_abs := PySem.W.mg_none_of X G z_abs
    z_all := PySem.W.mg_none_of X G z_all
    z_any := PySem.W.mg_none_of X G z_any
    z_bool := PySem.W.mg_none_of X G z_bool
    z_enumerate := PySem.W.mg_none_of X G z_enumerate
    z_int := PySem.W.mg_none_of X G z_int
    z_isinstance := PySem.W.mg_none_of X G z_isinstance
    z_len := PySem.W.mg_none_of X G z_len
    z_list := PySem.W.mg_none_of X G z_list
    z_max := PySem.W.mg_none_of X G z_max
    z_min := PySem.W.mg_none_of X G z_min
    z_range := PySem.W.mg_none_of X G z_range
    z_sorted := PySem.W.mg_none_of X G z_sorted
    z_sum := PySem.W.mg_none_of X G z_sum
    z_tuple := PySem.W.mg_none_of X G z_tuple
    z_zip := PySem.W.mg_none_of X G z_zip
    m_FIRST := PySem.W.mg_of X G m_FIRST
    i_FIRST := fun as H => (.tup (xs := [(.int 0), (.int 1)]) (.inr ⟨_, _, _, l_a_FIRST_0, rfl, rfl, show 2 ≤ sizeLine by decide, (.cons ⟨_, rfl⟩ (.cons ⟨_, rfl⟩ .nil))⟩) (.cons (.int _) (.cons (.int _) .nil)))
    m_LAST := PySem.W.mg_of X G m_LAST
    i_LAST := fun as H => (.tup (xs := [(.int 1), (.int 1)]) (.inr ⟨_, _, _, l_a_LAST_0, rfl, rfl, show 2 ≤ sizeLine by decide, (.cons ⟨_, rfl⟩ (.cons ⟨_, rfl⟩ .nil))⟩) (.cons (.int _) (.cons (.int _) .nil)))
    m_MOST := PySem.W.mg_of X G m_MOST
    m_MOST_STRETCHES := PySem.W.mg_of X G m_MOST_STRETCHES
    m_MOST_WIDTH := PySem.W.mg_of X G m_MOST_WIDTH
    m_MOST_WORTH := PySem.W.mg_of X G m_MOST_WORTH
    m_NOUGHT := PySem.W.mg_of X G m_NOUGHT
    i_NOUGHT := fun as H => (.tup (xs := [(.int 0), (.int 1)]) (.inr ⟨_, _, _, l_a_NOUGHT_0, rfl, rfl, show 2 ≤ sizeLine by decide, (.cons ⟨_, rfl⟩ (.cons ⟨_, rfl⟩ .nil))⟩) (.cons (.int _) (.cons (.int _) .nil)))
    m_ONE := PySem.W.mg_of X G m_ONE
    i_ONE := fun as H => (.tup (xs := [(.int 1), (.int 1)]) (.inr ⟨_, _, _, l_a_ONE_0, rfl, rfl, show 2 ≤ sizeLine by decide, (.cons ⟨_, rfl⟩ (.cons ⟨_, rfl⟩ .nil))⟩) (.cons (.int _) (.cons (.int _) .nil)))
    m_ORDERS := PySem.W.mg_of X G m_ORDERS
    i_ORDERS := fun as H => (.tup (xs := [(.ref a_ORDERS_1), (.ref a_ORDERS_2), (.ref a_ORDERS_3), (.ref a_ORDERS_4), (.ref a_ORDERS_5), (.ref a_ORDERS_6)]) (.inr ⟨_, _, _, l_a_ORDERS_0, rfl, rfl, show 6 ≤ sizeLine by decide, (.cons rfl (.cons rfl (.cons rfl (.cons rfl (.cons rfl (.cons rfl .nil))))))⟩) (.cons (.tup (xs := [(.int 0), (.int 1), (.int 2)]) (.inr ⟨_, _, _, l_a_ORDERS_1, rfl, rfl, show 3 ≤ sizeLine by decide, (.cons ⟨_, rfl⟩ (.cons ⟨_, rfl⟩ (.cons ⟨_, rfl⟩ .nil)))⟩) (.cons (.int _) (.cons (.int _) (.cons (.int _) .nil)))) (.cons (.tup (xs := [(.int 0), (.int 2), (.int 1)]) (.inr ⟨_, _, _, l_a_ORDERS_2, rfl, rfl, show 3 ≤ sizeLine by decide, (.cons ⟨_, rfl⟩ (.cons ⟨_, rfl⟩ (.cons ⟨_, rfl⟩ .nil)))⟩) (.cons (.int _) (.cons (.int _) (.cons (.int _) .nil)))) (.cons (.tup (xs := [(.int 1), (.int 0), (.int 2)]) (.inr ⟨_, _, _, l_a_ORDERS_3, rfl, rfl, show 3 ≤ sizeLine by decide, (.cons ⟨_, rfl⟩ (.cons ⟨_, rfl⟩ (.cons ⟨_, rfl⟩ .nil)))⟩) (.cons (.int _) (.cons (.int _) (.cons (.int _) .nil)))) (.cons (.tup (xs := [(.int 1), (.int 2), (.int 0)]) (.inr ⟨_, _, _, l_a_ORDERS_4, rfl, rfl, show 3 ≤ sizeLine by decide, (.cons ⟨_, rfl⟩ (.cons ⟨_, rfl⟩ (.cons ⟨_, rfl⟩ .nil)))⟩) (.cons (.int _) (.cons (.int _) (.cons (.int _) .nil)))) (.cons (.tup (xs := [(.int 2), (.int 0), (.int 1)]) (.inr ⟨_, _, _, l_a_ORDERS_5, rfl, rfl, show 3 ≤ sizeLine by decide, (.cons ⟨_, rfl⟩ (.cons ⟨_, rfl⟩ (.cons ⟨_, rfl⟩ .nil)))⟩) (.cons (.int _) (.cons (.int _) (.cons (.int _) .nil)))) (.cons (.tup (xs := [(.int 2), (.int 1), (.int 0)]) (.inr ⟨_, _, _, l_a_ORDERS_6, rfl, rfl, show 3 ≤ sizeLine by decide, (.cons ⟨_, rfl⟩ (.cons ⟨_, rfl⟩ (.cons ⟨_, rfl⟩ .nil)))⟩) (.cons (.int _) (.cons (.int _) (.cons (.int _) .nil)))) .nil)))))))
    x_NoFraction := x_NoFraction
    k_NoFraction := k_NoFraction
    x_NoHands := x_NoHands
    k_NoHands := k_NoHands
    x_NoSpan := x_NoSpan
    k_NoSpan := k_NoSpan
    x_NoTable := x_NoTable
    k_NoTable := k_NoTable
    x_NoWorth := x_NoWorth
    k_NoWorth := k_NoWorth
    x_TooMany := x_TooMany
    k_TooMany := k_TooMany
    sb_NoFraction := sb_NoFraction
    t_NoFraction := t_NoFraction
    sb_NoTable := sb_NoTable
    t_NoTable := t_NoTable
    sb_NoSpan := sb_NoSpan
    t_NoSpan := t_NoSpan
    sb_NoWorth := sb_NoWorth
    t_NoWorth := t_NoWorth
    sb_NoHands := sb_NoHands
    t_NoHands := t_NoHands
    sb_TooMany := sb_TooMany
    t_TooMany := t_TooMany
    ex_NoHands := fun c b h => match c, h with
      | 0, h => by cases h; exact PySem.W.exm_ref sb_NoHands hd_NoHands t_NoHands su_CrumbError_NoHands
      | 1, h => by cases h; exact PySem.W.exm_ref sb_NoHands hd_NoHands t_NoHands su_NoFraction_NoHands
      | 2, h => by cases h; exact PySem.W.exm_ref sb_NoHands hd_NoHands t_NoHands su_NoTable_NoHands
      | 3, h => by cases h; exact PySem.W.exm_ref sb_NoHands hd_NoHands t_NoHands su_NoSpan_NoHands
      | 4, h => by cases h; exact PySem.W.exm_ref sb_NoHands hd_NoHands t_NoHands su_NoWorth_NoHands
      | 5, h => by cases h; exact PySem.W.exm_ref sb_NoHands hd_NoHands t_NoHands su_NoHands_NoHands
      | 6, h => by cases h; exact PySem.W.exm_ref sb_NoHands hd_NoHands t_NoHands su_TooMany_NoHands
    ec_NoHands := fun c h => match c, h with
      | 0, h => by cases h
      | 1, h => by cases h
      | 2, h => by cases h
      | 3, h => by cases h
      | 4, h => by cases h
      | 5, h => ecNoHands
      | 6, h => by cases h
    ex_TooMany := fun c b h => match c, h with
      | 0, h => by cases h; exact PySem.W.exm_ref sb_TooMany hd_TooMany t_TooMany su_CrumbError_TooMany
      | 1, h => by cases h; exact PySem.W.exm_ref sb_TooMany hd_TooMany t_TooMany su_NoFraction_TooMany
      | 2, h => by cases h; exact PySem.W.exm_ref sb_TooMany hd_TooMany t_TooMany su_NoTable_TooMany
      | 3, h => by cases h; exact PySem.W.exm_ref sb_TooMany hd_TooMany t_TooMany su_NoSpan_TooMany
      | 4, h => by cases h; exact PySem.W.exm_ref sb_TooMany hd_TooMany t_TooMany su_NoWorth_TooMany
      | 5, h => by cases h; exact PySem.W.exm_ref sb_TooMany hd_TooMany t_TooMany su_NoHands_TooMany
      | 6, h => by cases h; exact PySem.W.exm_ref sb_TooMany hd_TooMany t_TooMany su_TooMany_TooMany
    ec_TooMany := fun c h => match c, h with
      | 0, h => by cases h
      | 1, h => by cases h
      | 2, h => by cases h
      | 3, h => by cases h
      | 4, h => by cases h
      | 5, h => by cases h
      | 6, h => ecTooMany
    ki_CrumbError := fun c b h => match c, h with
      | 0, h => by cases h; exact ki_CrumbError_CrumbError
      | 1, h => by cases h; exact ki_NoFraction_CrumbError
      | 2, h => by cases h; exact ki_NoTable_CrumbError
      | 3, h => by cases h; exact ki_NoSpan_CrumbError
      | 4, h => by cases h; exact ki_NoWorth_CrumbError
      | 5, h => by cases h; exact ki_NoHands_CrumbError
      | 6, h => by cases h; exact ki_TooMany_CrumbError
    ki_NoHands := fun c b h => match c, h with
      | 0, h => by cases h; exact ki_CrumbError_NoHands
      | 1, h => by cases h; exact ki_NoFraction_NoHands
      | 2, h => by cases h; exact ki_NoTable_NoHands
      | 3, h => by cases h; exact ki_NoSpan_NoHands
      | 4, h => by cases h; exact ki_NoWorth_NoHands
      | 5, h => by cases h; exact ki_NoHands_NoHands
      | 6, h => by cases h; exact ki_TooMany_NoHands
    ki_TooMany := fun c b h => match c, h with
      | 0, h => by cases h; exact ki_CrumbError_TooMany
      | 1, h => by cases h; exact ki_NoFraction_TooMany
      | 2, h => by cases h; exact ki_NoTable_TooMany
      | 3, h => by cases h; exact ki_NoSpan_TooMany
      | 4, h => by cases h; exact ki_NoWorth_TooMany
      | 5, h => by cases h; exact ki_NoHands_TooMany
      | 6, h => by cases h; exact ki_TooMany_TooMany
    ki_ValueError := fun c b h => match c, h with
      | 0, h => by cases h; exact ki_CrumbError_ValueError
      | 1, h => by cases h; exact ki_NoFraction_ValueError
      | 2, h => by cases h; exact ki_NoTable_ValueError
      | 3, h => by cases h; exact ki_NoSpan_ValueError
      | 4, h => by cases h; exact ki_NoWorth_ValueError
      | 5, h => by cases h; exact ki_NoHands_ValueError
      | 6, h => by cases h; exact ki_TooMany_ValueError }
  exact ⟨A.d_law, fun s v => .of_eq rfl, fun base _ _ => (ok_law (T base)).imp fun vs H Q E q => law_imp (G := GG K A) rfl law_true vs H Q E q⟩
end Dn
open PySem PySem.W PyProof.Rows
set_option maxRecDepth 100000 in
set_option maxHeartbeats 0 in
theorem PySem.Challenge.cw_halfcrumb_k50_whole_pieces_refused_holds : PySem.Challenge.rw_halfcrumb_k50_whole_pieces_refused.Holds := by
  w_on; o_law; k_head; (case hw => w_witness2)
  k_fill
  refine Dn.walkL (k := 11) (x := "_law_script") ⟨rfl, by decide, by decide⟩ (l := PySem.Challenge.rw_halfcrumb_k50_whole_pieces_refused) rfl rfl (fun w h Y => by first | exact PySem.W.kIn_of Y | exact PySem.W.km_in_of Y) ?F
  case F =>
    intro w mg fa h KX G hmg
    refine' Dn.all_mk KX G hmg ?g_CrumbError ?g_NoFraction ?g_NoTable ?g_NoSpan ?g_NoWorth ?g_NoHands ?g_TooMany ?g_Table ?a0 ?l0 ?c0 ?k0 ?a1 ?l1 ?c1 ?k1 ?a2 ?l2 ?c2 ?k2 ?a3 ?l3 ?c3 ?k3 ?a4 ?l4 ?c4 ?k4 ?a5 ?l5 ?c5 ?k5 ?a6 ?l6 ?c6 ?k6 ?a7 ?l7 ?c7 ?k7 ?a8 ?l8 ?c8 ?k8 ?a9 ?l9 ?c9 ?k9 ?a10 ?l10 ?c10 ?k10 ?a11 ?l11 ?c11 ?k11 ?a12 ?l12 ?c12 ?k12 ?a13 ?l13 ?c13 ?k13 ?a14 ?l14 ?c14 ?k14 ?lT14 ?a15 ?l15 ?c15 ?k15 ?a16 ?l16 ?c16 ?k16 ?a17 ?l17 ?c17 ?k17 ?a18 ?l18 ?c18 ?k18 ?a19 ?l19 ?c19 ?k19 ?a20 ?l20 ?c20 ?k20 ?a21 ?l21 ?c21 ?k21 ?a22 ?l22 ?c22 ?k22 ?a23 ?l23 ?c23 ?k23 ?a24 ?l24 ?c24 ?k24 ?a25 ?l25 ?c25 ?k25 ?a26 ?l26 ?c26 ?k26 ?a27 ?l27 ?c27 ?k27 ?a28 ?l28 ?c28 ?k28 ?a29 ?l29 ?c29 ?k29 ?a30 ?l30 ?c30 ?k30 ?a31 ?l31 ?c31 ?k31 ?a32 ?l32 ?c32 ?k32 ?a33 ?l33 ?c33 ?k33 ?a34 ?l34 ?c34 ?k34 ?a35 ?l35 ?c35 ?k35 ?a36 ?l36 ?c36 ?k36 ?a37 ?l37 ?c37 ?k37 ?a38 ?l38 ?c38 ?k38 ?a39 ?l39 ?c39 ?k39 ?lT39 ?a40 ?l40 ?c40 ?k40 ?lT40 ?a41 ?l41 ?c41 ?k41 ?a42 ?l42 ?c42 ?k42 ?a43 ?l43 ?c43 ?k43 ?a44 ?l44 ?c44 ?k44 ?a45 ?l45 ?c45 ?k45 ?a46 ?l46 ?c46 ?k46 ?a47 ?l47 ?c47 ?k47 ?a48 ?l48 ?c48 ?k48 ?pg_Table ?hD_Table ?po_Table ?sa_Table ?mm_Table ?mi_Table ?mf_Table ?mp_Table ?ta_Table___len__ ?tf_Table___len__ ?ta_Table_between ?tf_Table_between ?ta_Table_cut ?tf_Table_cut ?ta_Table_ends ?tf_Table_ends ?ta_Table_total ?tf_Table_total ?ta_Table_worth ?tf_Table_worth ?na_Table_bounds ?na_Table_kept ?z_ValueError ?z_abs ?z_all ?z_any ?z_bool ?z_enumerate ?z_int ?z_isinstance ?z_len ?z_list ?z_max ?z_min ?z_range ?z_sorted ?z_sum ?z_tuple ?z_zip ?m_FIRST ?l_a_FIRST_0 ?m_LAST ?l_a_LAST_0 ?m_MOST ?m_MOST_STRETCHES ?m_MOST_WIDTH ?m_MOST_WORTH ?m_NOUGHT ?l_a_NOUGHT_0 ?m_ONE ?l_a_ONE_0 ?m_ORDERS ?l_a_ORDERS_0 ?l_a_ORDERS_6 ?l_a_ORDERS_5 ?l_a_ORDERS_4 ?l_a_ORDERS_3 ?l_a_ORDERS_2 ?l_a_ORDERS_1 ?x_NoFraction ?k_NoFraction ?x_NoHands ?k_NoHands ?x_NoSpan ?k_NoSpan ?x_NoTable ?k_NoTable ?x_NoWorth ?k_NoWorth ?x_TooMany ?k_TooMany ?sb_NoFraction ?t_NoFraction ?sb_NoTable ?t_NoTable ?sb_NoSpan ?t_NoSpan ?sb_NoWorth ?t_NoWorth ?sb_NoHands ?t_NoHands ?sb_TooMany ?t_TooMany ?hd_NoHands ?su_CrumbError_NoHands ?su_NoFraction_NoHands ?su_NoTable_NoHands ?su_NoSpan_NoHands ?su_NoWorth_NoHands ?su_NoHands_NoHands ?su_TooMany_NoHands ?hd_TooMany ?su_CrumbError_TooMany ?su_NoFraction_TooMany ?su_NoTable_TooMany ?su_NoSpan_TooMany ?su_NoWorth_TooMany ?su_NoHands_TooMany ?su_TooMany_TooMany ?hg_NoHands ?hk_NoHands ?hs_NoHands ?hh_NoHands ?ha_NoHands ?hn_NoHands ?ht_NoHands ?hm_NoHands ?hg_TooMany ?hk_TooMany ?hs_TooMany ?hh_TooMany ?ha_TooMany ?hn_TooMany ?ht_TooMany ?hm_TooMany ?ki_CrumbError_CrumbError ?ki_NoFraction_CrumbError ?ki_NoTable_CrumbError ?ki_NoSpan_CrumbError ?ki_NoWorth_CrumbError ?ki_NoHands_CrumbError ?ki_TooMany_CrumbError ?ki_CrumbError_NoHands ?ki_NoFraction_NoHands ?ki_NoTable_NoHands ?ki_NoSpan_NoHands ?ki_NoWorth_NoHands ?ki_NoHands_NoHands ?ki_TooMany_NoHands ?ki_CrumbError_TooMany ?ki_NoFraction_TooMany ?ki_NoTable_TooMany ?ki_NoSpan_TooMany ?ki_NoWorth_TooMany ?ki_NoHands_TooMany ?ki_TooMany_TooMany ?ki_CrumbError_ValueError ?ki_NoFraction_ValueError ?ki_NoTable_ValueError ?ki_NoSpan_ValueError ?ki_NoWorth_ValueError ?ki_NoHands_ValueError ?ki_TooMany_ValueError
    (case g_CrumbError => k_is)
    (case g_NoFraction => k_is)
    (case g_NoTable => k_is)
    (case g_NoSpan => k_is)
    (case g_NoWorth => k_is)
    (case g_NoHands => k_is)
    (case g_TooMany => k_is)
    (case g_Table => k_is)
    (case a0 => k_is)
    (case l0 => k_is)
    (case c0 => k_is)
    (case k0 => k_is)
    (case a1 => k_is)
    (case l1 => k_is)
    (case c1 => k_is)
    (case k1 => k_is)
    (case a2 => k_is)
    (case l2 => k_is)
    (case c2 => k_is)
    (case k2 => k_is)
    (case a3 => k_is)
    (case l3 => k_is)
    (case c3 => k_is)
    (case k3 => k_is)
    (case a4 => k_is)
    (case l4 => k_is)
    (case c4 => k_is)
    (case k4 => k_is)
    (case a5 => k_is)
    (case l5 => k_is)
    (case c5 => k_is)
    (case k5 => k_is)
    (case a6 => k_is)
    (case l6 => k_is)
    (case c6 => k_is)
    (case k6 => k_is)
    (case a7 => k_is)
    (case l7 => k_is)
    (case c7 => k_is)
    (case k7 => k_is)
    (case a8 => k_is)
    (case l8 => k_is)
    (case c8 => k_is)
    (case k8 => k_is)
    (case a9 => k_is)
    (case l9 => k_is)
    (case c9 => k_is)
    (case k9 => k_is)
    (case a10 => k_is)
    (case l10 => k_is)
    (case c10 => k_is)
    (case k10 => k_is)
    (case a11 => k_is)
    (case l11 => k_is)
    (case c11 => k_is)
    (case k11 => k_is)
    (case a12 => k_is)
    (case l12 => k_is)
    (case c12 => k_is)
    (case k12 => k_is)
    (case a13 => k_is)
    (case l13 => k_is)
    (case c13 => k_is)
    (case k13 => k_is)
    (case a14 => k_is)
    (case l14 => k_is)
    (case c14 => k_is)
    (case k14 => k_is)
    (case lT14 => k_is)
    (case a15 => k_is)
    (case l15 => k_is)
    (case c15 => k_is)
    (case k15 => k_is)
    (case a16 => k_is)
    (case l16 => k_is)
    (case c16 => k_is)
    (case k16 => k_is)
    (case a17 => k_is)
    (case l17 => k_is)
    (case c17 => k_is)
    (case k17 => k_is)
    (case a18 => k_is)
    (case l18 => k_is)
    (case c18 => k_is)
    (case k18 => k_is)
    (case a19 => k_is)
    (case l19 => k_is)
    (case c19 => k_is)
    (case k19 => k_is)
    (case a20 => k_is)
    (case l20 => k_is)
    (case c20 => k_is)
    (case k20 => k_is)
    (case a21 => k_is)
    (case l21 => k_is)
    (case c21 => k_is)
    (case k21 => k_is)
    (case a22 => k_is)
    (case l22 => k_is)
    (case c22 => k_is)
    (case k22 => k_is)
    (case a23 => k_is)
    (case l23 => k_is)
    (case c23 => k_is)
    (case k23 => k_is)
    (case a24 => k_is)
    (case l24 => k_is)
    (case c24 => k_is)
    (case k24 => k_is)
    (case a25 => k_is)
    (case l25 => k_is)
    (case c25 => k_is)
    (case k25 => k_is)
    (case a26 => k_is)
    (case l26 => k_is)
    (case c26 => k_is)
    (case k26 => k_is)
    (case a27 => k_is)
    (case l27 => k_is)
    (case c27 => k_is)
    (case k27 => k_is)
    (case a28 => k_is)
    (case l28 => k_is)
    (case c28 => k_is)
    (case k28 => k_is)
    (case a29 => k_is)
    (case l29 => k_is)
    (case c29 => k_is)
    (case k29 => k_is)
    (case a30 => k_is)
    (case l30 => k_is)
    (case c30 => k_is)
    (case k30 => k_is)
    (case a31 => k_is)
    (case l31 => k_is)
    (case c31 => k_is)
    (case k31 => k_is)
    (case a32 => k_is)
    (case l32 => k_is)
    (case c32 => k_is)
    (case k32 => k_is)
    (case a33 => k_is)
    (case l33 => k_is)
    (case c33 => k_is)
    (case k33 => k_is)
    (case a34 => k_is)
    (case l34 => k_is)
    (case c34 => k_is)
    (case k34 => k_is)
    (case a35 => k_is)
    (case l35 => k_is)
    (case c35 => k_is)
    (case k35 => k_is)
    (case a36 => k_is)
    (case l36 => k_is)
    (case c36 => k_is)
    (case k36 => k_is)
    (case a37 => k_is)
    (case l37 => k_is)
    (case c37 => k_is)
    (case k37 => k_is)
    (case a38 => k_is)
    (case l38 => k_is)
    (case c38 => k_is)
    (case k38 => k_is)
    (case a39 => k_is)
    (case l39 => k_is)
    (case c39 => k_is)
    (case k39 => k_is)
    (case lT39 => k_is)
    (case a40 => k_is)
    (case l40 => k_is)
    (case c40 => k_is)
    (case k40 => k_is)
    (case lT40 => k_is)
    (case a41 => k_is)
    (case l41 => k_is)
    (case c41 => k_is)
    (case k41 => k_is)
    (case a42 => k_is)
    (case l42 => k_is)
    (case c42 => k_is)
    (case k42 => k_is)
    (case a43 => k_is)
    (case l43 => k_is)
    (case c43 => k_is)
    (case k43 => k_is)
    (case a44 => k_is)
    (case l44 => k_is)
    (case c44 => k_is)
    (case k44 => k_is)
    (case a45 => k_is)
    (case l45 => k_is)
    (case c45 => k_is)
    (case k45 => k_is)
    (case a46 => k_is)
    (case l46 => k_is)
    (case c46 => k_is)
    (case k46 => k_is)
    (case a47 => k_is)
    (case l47 => k_is)
    (case c47 => k_is)
    (case k47 => k_is)
    (case a48 => k_is)
    (case l48 => k_is)
    (case c48 => k_is)
    (case k48 => k_is)
    (case pg_Table => k_is)
    (case hD_Table => k_is)
    (case po_Table => k_is)
    (case sa_Table => k_is)
    (case mm_Table => k_is)
    (case mi_Table => k_is)
    (case mf_Table => k_is)
    (case mp_Table => k_is)
    (case ta_Table___len__ => k_is)
    (case tf_Table___len__ => k_is)
    (case ta_Table_between => k_is)
    (case tf_Table_between => k_is)
    (case ta_Table_cut => k_is)
    (case tf_Table_cut => k_is)
    (case ta_Table_ends => k_is)
    (case tf_Table_ends => k_is)
    (case ta_Table_total => k_is)
    (case tf_Table_total => k_is)
    (case ta_Table_worth => k_is)
    (case tf_Table_worth => k_is)
    (case na_Table_bounds => k_is)
    (case na_Table_kept => k_is)
    (case z_ValueError => k_is)
    (case z_abs => k_is)
    (case z_all => k_is)
    (case z_any => k_is)
    (case z_bool => k_is)
    (case z_enumerate => k_is)
    (case z_int => k_is)
    (case z_isinstance => k_is)
    (case z_len => k_is)
    (case z_list => k_is)
    (case z_max => k_is)
    (case z_min => k_is)
    (case z_range => k_is)
    (case z_sorted => k_is)
    (case z_sum => k_is)
    (case z_tuple => k_is)
    (case z_zip => k_is)
    (case m_FIRST => k_is)
    (case l_a_FIRST_0 => k_is)
    (case m_LAST => k_is)
    (case l_a_LAST_0 => k_is)
    (case m_MOST => k_is)
    (case m_MOST_STRETCHES => k_is)
    (case m_MOST_WIDTH => k_is)
    (case m_MOST_WORTH => k_is)
    (case m_NOUGHT => k_is)
    (case l_a_NOUGHT_0 => k_is)
    (case m_ONE => k_is)
    (case l_a_ONE_0 => k_is)
    (case m_ORDERS => k_is)
    (case l_a_ORDERS_0 => k_is)
    (case l_a_ORDERS_6 => k_is)
    (case l_a_ORDERS_5 => k_is)
    (case l_a_ORDERS_4 => k_is)
    (case l_a_ORDERS_3 => k_is)
    (case l_a_ORDERS_2 => k_is)
    (case l_a_ORDERS_1 => k_is)
    (case x_NoFraction => k_exc)
    (case k_NoFraction => k_is)
    (case x_NoHands => k_exc)
    (case k_NoHands => k_is)
    (case x_NoSpan => k_exc)
    (case k_NoSpan => k_is)
    (case x_NoTable => k_exc)
    (case k_NoTable => k_is)
    (case x_NoWorth => k_exc)
    (case k_NoWorth => k_is)
    (case x_TooMany => k_exc)
    (case k_TooMany => k_is)
    (case sb_NoFraction => k_is)
    (case t_NoFraction => k_is)
    (case sb_NoTable => k_is)
    (case t_NoTable => k_is)
    (case sb_NoSpan => k_is)
    (case t_NoSpan => k_is)
    (case sb_NoWorth => k_is)
    (case t_NoWorth => k_is)
    (case sb_NoHands => k_is)
    (case t_NoHands => k_is)
    (case sb_TooMany => k_is)
    (case t_TooMany => k_is)
    (case hd_NoHands => k_is)
    (case su_CrumbError_NoHands => first | rfl | k_is)
    (case su_NoFraction_NoHands => first | rfl | k_is)
    (case su_NoTable_NoHands => first | rfl | k_is)
    (case su_NoSpan_NoHands => first | rfl | k_is)
    (case su_NoWorth_NoHands => first | rfl | k_is)
    (case su_NoHands_NoHands => first | rfl | k_is)
    (case su_TooMany_NoHands => first | rfl | k_is)
    (case hd_TooMany => k_is)
    (case su_CrumbError_TooMany => first | rfl | k_is)
    (case su_NoFraction_TooMany => first | rfl | k_is)
    (case su_NoTable_TooMany => first | rfl | k_is)
    (case su_NoSpan_TooMany => first | rfl | k_is)
    (case su_NoWorth_TooMany => first | rfl | k_is)
    (case su_NoHands_TooMany => first | rfl | k_is)
    (case su_TooMany_TooMany => first | rfl | k_is)
    (case hg_NoHands => first | rfl | k_is)
    (case hk_NoHands => first | rfl | k_is)
    (case hs_NoHands => first | rfl | k_is)
    (case hh_NoHands => first | rfl | k_is)
    (case ha_NoHands => first | rfl | k_is)
    (case hn_NoHands => first | rfl | k_is)
    (case ht_NoHands => first | rfl | k_is)
    (case hm_NoHands => first | rfl | k_is)
    (case hg_TooMany => first | rfl | k_is)
    (case hk_TooMany => first | rfl | k_is)
    (case hs_TooMany => first | rfl | k_is)
    (case hh_TooMany => first | rfl | k_is)
    (case ha_TooMany => first | rfl | k_is)
    (case hn_TooMany => first | rfl | k_is)
    (case ht_TooMany => first | rfl | k_is)
    (case hm_TooMany => first | rfl | k_is)
    (case ki_CrumbError_CrumbError => first | rfl | k_is)
    (case ki_NoFraction_CrumbError => first | rfl | k_is)
    (case ki_NoTable_CrumbError => first | rfl | k_is)
    (case ki_NoSpan_CrumbError => first | rfl | k_is)
    (case ki_NoWorth_CrumbError => first | rfl | k_is)
    (case ki_NoHands_CrumbError => first | rfl | k_is)
    (case ki_TooMany_CrumbError => first | rfl | k_is)
    (case ki_CrumbError_NoHands => first | rfl | k_is)
    (case ki_NoFraction_NoHands => first | rfl | k_is)
    (case ki_NoTable_NoHands => first | rfl | k_is)
    (case ki_NoSpan_NoHands => first | rfl | k_is)
    (case ki_NoWorth_NoHands => first | rfl | k_is)
    (case ki_NoHands_NoHands => first | rfl | k_is)
    (case ki_TooMany_NoHands => first | rfl | k_is)
    (case ki_CrumbError_TooMany => first | rfl | k_is)
    (case ki_NoFraction_TooMany => first | rfl | k_is)
    (case ki_NoTable_TooMany => first | rfl | k_is)
    (case ki_NoSpan_TooMany => first | rfl | k_is)
    (case ki_NoWorth_TooMany => first | rfl | k_is)
    (case ki_NoHands_TooMany => first | rfl | k_is)
    (case ki_TooMany_TooMany => first | rfl | k_is)
    (case ki_CrumbError_ValueError => first | rfl | k_is)
    (case ki_NoFraction_ValueError => first | rfl | k_is)
    (case ki_NoTable_ValueError => first | rfl | k_is)
    (case ki_NoSpan_ValueError => first | rfl | k_is)
    (case ki_NoWorth_ValueError => first | rfl | k_is)
    (case ki_NoHands_ValueError => first | rfl | k_is)
    (case ki_TooMany_ValueError => first | rfl | k_is)
