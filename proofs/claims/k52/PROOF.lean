import PyProof.Rows.All
import Wide.All
import OpenK.AllK
import Wide.FinOn
import HandS.Lambda
import HandS.EndTab
import HandS.ForMost
import HandS.ForExc
import HandS.TryMany
import HandS.Wide
import HandS.IsInst
import HandS.Defaults
import HandS.FStr
import HandS.StrMore
import HandS.TupAny
import HandS.ExcIs
import HandS.EndBits
import HandS.Style
import HandS.Deep
import HandS.Steps
import HandS.Conv
import HandS.More
import KE.KFmtOwn
import HandS.RaiseMore
import HandS.SortRule
import HandS.SortInts
import HandS.TryOnly
import HandS.ExcInit
import HandS.ExcField
import HandS.ClsMeth
import HandS.GenList
import HandS.Keys
import KE.KDictZip
import HandS.SetFor
import HandS.Zip
import HandS.Dict
import KE.DataMinKey
import KE.KMinKey
import PyProof.AutoSeq1
import HandS.Set
import HandS.Strs
import HandS.OwnEq
import HandS.HeadWalk
import HandS.Head0
import HandS.Head1
import HandS.Head2
import HandS.HeadEnd
import HandS.HeadHook1
import HandS.HeadHook2
import HandS.HeadHook3
import HandS.HeadHook4
import PyProof.Rows.StrDigitsNeg
import PyProof.Rows.ReprOcc
import PySem.Challenge.RW_halfcrumb_k52_shared_looked_at
set_option Elab.async false
set_option linter.all false
set_option maxRecDepth 100000
set_option exponentiation.threshold 5000
set_option maxHeartbeats 40000000
namespace LamP
open PySem PySem.Spec PyProof.Rows L2 LamX
section
variable {X : Cx} {pins : List (Addr × Obj)} {σ : L2.St} {H : Hp} {s : Shared}
theorem make3 {c P : Addr} {ps : Array Value} {params : Arguments} {body : Expr} {scope : Scope} {pos : Pos} {E : Value → Shared → Prop} {Q : Value → Shared → Prop} (I : Inv X pins σ H s) (TB : TabB X.base X.mg c P) (hcode : X.env.code = .ref c)
    (hP : H P = some (.tbl ps)) (ht : TriplesOk ps.toList) (ha : ∀ (pos : Pos) (cv : Value), codeAmong pos ps.toList = some cv → ∃ c, cv = .ref c ∧ H c = some (CodeO c (X.env.qual ++ "<lambda>"))) (hdef : defaultsOf params X.env = ([], [])) (hfree : ∀ y ∈ scope.names, y.2 = .free → ∃ c, X.env.cells.lookup y.1 = some c)
    (h : ∀ (f c' : Addr) (pm ctv : Value) (H1 : Hp) (s' : Shared), Inv X pins σ H1 s' →
      ((∃ ps' : Array Value, H1 = upd (upd H P (.tbl ps')) c' (CodeO c' (X.env.qual ++ "<lambda>")) ∧ H c' = none ∧ c' ≠ P ∧ TriplesOk ps'.toList ∧ ∀ (pos : Pos) (cv : Value), codeAmong pos ps'.toList = some cv → codeAmong pos ps.toList = some cv ∨ cv = .ref c') ∨
        (H1 = H ∧ ∃ pos, codeAmong pos ps.toList = some (.ref c'))) →
      s'.heap.get? f = some (PySem.W.kla_obj "<lambda>" (X.env.qual ++ "<lambda>") params body scope (cloFrom X.env.cells scope.names []) pm c' ctv) → H1 f = none → f ∉ frs X.stack → Q (.ref f) s') :
    wpAny (model X.prog X.w) X.A (eval (.Lambda params body scope pos) X.env) Q E s := by
  refine PySem.W.kla_eval hdef ?_
  have bP : s.heap.BuiltinsAt X.mg P := TB.bm.keeps I.bk
  have hP' : s.heap.get? P = some { cls := .none, data := .fields ps } := I.hok P _ hP
  have nofr : ∀ f, s.heap.objs.size ≤ f → f ∉ frs X.stack := fun f hf z => by
    rcases List.mem_cons.mp (I.stkSub _ z) with e | e
    · have h1 := I.lt
      rw [← e] at h1
      exact Nat.lt_irrefl _ (Nat.lt_of_lt_of_le h1 hf)
    · exact I.nofs hf e
  cases hc : codeAmong pos ps.toList with
  | none =>
    refine PySem.W.kla_makeFunction (mg := X.mg) (c := c) (P := P) (ps := ps) (closure_ok hfree) I.ok.glob (I.mod.glob.keeps I.bk) hcode (TB.code.keeps I.bk) hP' ht hc TB.gP bP fun c' ctv h' tk hx hge hlt hrec htb => ?_
    obtain ⟨c2, oc, vs, t, e2, hoc, hd, hv⟩ := hrec
    cases e2
    have hsz : s.heap.objs.size ≤ h'.objs.size := Nat.le_trans hge (Nat.le_of_lt hlt)
    have nC : H c' = none := I.hok.fresh hge
    have I1 := inv_table (t' := tk) (more := #[rawInt pos.line, rawInt pos.col, .ref c']) (h' := h'.push (PySem.W.kla_obj "<lambda>" (X.env.qual ++ "<lambda>") params body scope (cloFrom X.env.cells scope.names []) ((X.mg "__name__").getD .none) c' ctv)) I hP
      (fun b o hb e => Heap.get?_push_of_some _ (hx b o hb e)) (Heap.get?_push_of_some _ htb) hge ⟨oc, vs, t, Heap.get?_push_of_some _ hoc, hd, hv⟩
    have eL : (ps ++ #[rawInt pos.line, rawInt pos.col, .ref c']).toList = ps.toList ++ [rawInt pos.line, rawInt pos.col, .ref c'] := by simp
    refine h h'.objs.size c' ((X.mg "__name__").getD .none) ctv _ _ I1 (.inl ⟨_, rfl, nC, (fun z => by rw [z, hP] at nC; cases nC), (by rw [eL]; exact PySem.TriplesOk_snoc _ _ _ _ ht), fun p' cv hcv => ?_⟩) (Heap.get?_push_size _ rfl) ?_ (nofr _ hsz)
    · rw [eL] at hcv
      exact among_app _ ht hcv
    · have n1 : h'.objs.size ≠ c' := Nat.ne_of_gt hlt
      have n2 : h'.objs.size ≠ P := Nat.ne_of_gt (Nat.lt_of_lt_of_le (Heap.lt_size hP') hsz)
      rw [upd_ne n1, upd_ne n2]
      exact I.hok.fresh hsz
  | some cv =>
    obtain ⟨c', e, hco⟩ := ha pos cv hc
    subst e
    refine PySem.W.kla_makeFunctionHit (mg := X.mg) (c := c) (P := P) (ps := ps) (closure_ok hfree) I.ok.glob (I.mod.glob.keeps I.bk) hcode (TB.code.keeps I.bk) hP' ht hc bP fun ctv h' tk hx hsz => ?_
    have I1 : Inv X pins σ H { s with heap := h'.push (PySem.W.kla_obj "<lambda>" (X.env.qual ++ "<lambda>") params body scope (cloFrom X.env.cells scope.names []) ((X.mg "__name__").getD .none) c' ctv), toks := tk } := I.kept fun b o e => Heap.get?_push_of_some _ (hx b o e)
    exact h h'.objs.size c' ((X.mg "__name__").getD .none) ctv H _ I1 (.inr ⟨rfl, pos, hc⟩) (Heap.get?_push_size _ rfl) (I.hok.fresh hsz) (nofr _ hsz)
end
structure LamN (sc scope : Scope) (a b : Str) : Prop where
  kind : scope.kind = .function
  co : scope.isCoroutine = false
  gen : scope.isGenerator = false
  own : ∀ y ∈ scope.names, y.2 ≠ .cell ∧ (y.2 = .local → y.1 = a ∨ y.1 = b)
  pa : scope.names.lookup a = some .local
  pb : scope.names.lookup b = some .local
  ne : a ≠ b
  free : ∀ y ∈ scope.names, y.2 = .free → sc.names.lookup y.1 = some .cell ∨ sc.names.lookup y.1 = some .free
def lamNB (sc scope : Scope) (a b : Str) : Bool :=
  decide (scope.kind = .function) && !scope.isCoroutine && !scope.isGenerator && decide (scope.names.lookup a = some .local) && decide (scope.names.lookup b = some .local) && !decide (a = b) &&
    scope.names.all fun y => !decide (y.2 = .cell) && (!decide (y.2 = .local) || decide (y.1 = a) || decide (y.1 = b)) && (!decide (y.2 = .free) || decide (sc.names.lookup y.1 = some .cell) || decide (sc.names.lookup y.1 = some .free))
theorem lamN_by {sc scope : Scope} {a b : Str} (h : lamNB sc scope a b = true) : LamN sc scope a b := by
  unfold lamNB at h
  simp only [Bool.and_eq_true, Bool.or_eq_true, Bool.not_eq_true', decide_eq_true_eq, decide_eq_false_iff_not, List.all_eq_true] at h
  obtain ⟨⟨⟨⟨⟨⟨h1, h2⟩, h3⟩, h4⟩, h5⟩, h6⟩, h7⟩ := h
  refine ⟨h1, h2, h3, fun y hy => ⟨(h7 y hy).1.1, fun e => ?_⟩, h4, h5, h6, fun y hy e => ?_⟩
  · rcases (h7 y hy).1.2 with (z | z) | z
    · exact absurd e z
    · exact .inl z
    · exact .inr z
  · rcases (h7 y hy).2 with (z | z) | z
    · exact absurd e z
    · exact .inl z
    · exact .inr z
theorem LamN.has {X : Cx} {scope : Scope} {a b : Str} (L : LamN X.env.scope scope a b) (ok : X.Ok) : ∀ y ∈ scope.names, y.2 = .free → ∃ c, X.env.cells.lookup y.1 = some c := fun y hy e => by
  rcases L.free y hy e with k | k
  · exact ok.has _ (.inl k)
  · exact ok.has _ (.inr k)
theorem nd_ix {N : List Str} (h : N.Nodup) {i j : Nat} {y : Str} (hi : N[i]? = some y) (hj : N[j]? = some y) : i = j := by
  have hil := (List.getElem?_eq_some_iff.mp hi).1
  have e := hi.trans hj.symm
  exact (List.getElem?_inj hil h).mp e
section
variable {X : Cx} {pins : List (Addr × Obj)} {σ : L2.St} {H HZ : Hp} {s s1 : Shared}
theorem start3 {A : Around} {outer : List Env} {E : XK} {scope : Scope} {f c' : Addr} {h₁ : Heap} {tk : Nat} {a b : Str} {ja jb : Nat} {va vb : V} {ua ub : Value} (I : Inv X pins σ H s) (L : LamN X.env.scope scope a b) (hN : X.N.Nodup) (hja : X.N[ja]? = some a) (hjb : X.N[jb]? = some b) (ra : RelV va ua) (rb : RelV vb ub)
    (e0 : Env0 X.prog X.w X.K X.mg X.base A outer s1 HZ) (hd : A.handled = none)
    (un : Un (frs X.stack) [] H HZ s.heap s1.heap) (hns : h₁.Ns s1.heap.objs.size fun y => ([(a, ua), (b, ub)] : List (Str × Value)).reverse.lookup y) (kp : ∀ b o, s1.heap.get? b = some o → h₁.get? b = some o) :
    Inv (lamCx X A outer s1 HZ E scope f c') [] ((σ.set ja (some va)).set jb (some vb)) HZ { s1 with heap := h₁, toks := tk } := by
  have hfree := L.has I.ok
  have cm : ∀ {y c}, (cloFrom X.env.cells scope.names []).lookup y = some c → X.env.cells.lookup y = some c := fun {y c} e => by
    rcases cloFrom_mem (PySem.mem_of_lookup e) with hm | ⟨h1, h2⟩
    · cases hm
    · obtain ⟨c1, hc⟩ := hfree _ h1 rfl
      have hc : X.env.cells.lookup y = some c1 := hc
      have e2 : c = c1 := by
        rw [h2, hc] <;> rfl
      rw [e2]
      exact hc
  have look : ∀ {y}, scope.names.lookup y = some .free → ∃ c, (cloFrom X.env.cells scope.names []).lookup y = some c := fun {y} hl => by
    have hy : (y, NameKind.free) ∈ scope.names := PySem.mem_of_lookup hl
    exact mem_lookup (cloFrom_has (cells := X.env.cells) (acc := []) hy)
  have cellK : ∀ {c : Addr} {v : Option Value}, H c = none → s.heap.IsCell c v → h₁.IsCell c v := fun {c v} n ⟨o, ho, hd⟩ => by
    obtain ⟨sl, q⟩ := un.any ho n (by simp)
    exact ⟨_, kp _ _ q, hd⟩
  have noA : ∀ b : Addr, b ∉ (lamCx X A outer s1 HZ E scope f c').ex := fun b z => absurd (show b ∈ ([] : List Addr) from z) (by simp)
  have hla : ja < σ.length := by rw [I.len]; exact (List.getElem?_eq_some_iff.mp hja).1
  have hlb : jb < σ.length := by rw [I.len]; exact (List.getElem?_eq_some_iff.mp hjb).1
  have jne : ja ≠ jb := fun z => by
    rw [z, hjb] at hja
    exact L.ne (Option.some.inj hja).symm
  have sa : ((σ.set ja (some va)).set jb (some vb))[ja]? = some (some va) := by
    rw [List.getElem?_set_ne (Ne.symm jne), List.getElem?_set_self hla]
  have sb : ((σ.set ja (some va)).set jb (some vb))[jb]? = some (some vb) := List.getElem?_set_self (by simpa using hlb)
  refine ⟨⟨e0.mod, L.kind, rfl, rfl, Nat.le_refl _, fun y z c e1 e2 => I.ok.inj y z c (cm e1) (cm e2), fun y hy => ?_, fun y c z _ => ?_, fun _ => hd, Around.frames_deeper e0.frames, .inr ⟨rfl, rfl⟩, fun b z => absurd z (noA b), e0.bs, e0.bsz, fun b _ _ => noA b,
      fun b z => absurd z (noA b), e0.funs, e0.frf⟩,
    rfl, e0.bare, Un.kept kp, ⟨_, hns, fun i y v e1 e2 e3 => ?_⟩, fun y c e => ?_, e0.hok.fresh (Nat.le_refl _), fun y c e => ?_, fun q hq => absurd (show q ∈ ([] : List (Addr × Obj)) ++ [] from hq) (by simp), e0.hok.kept kp, ?_⟩
  · have hy : scope.names.lookup y = some .cell ∨ scope.names.lookup y = some .free := hy
    rcases hy with hy | hy
    · exact absurd rfl (L.own _ (PySem.mem_of_lookup hy)).1
    · exact look hy
  · have z : false = true := z
    cases z
  · have e3 : Vis scope y := e3
    have e1 : X.N[i]? = some y := e1
    rcases e3 with k | k | k
    · rcases (L.own _ (PySem.mem_of_lookup k)).2 rfl with rfl | rfl
      · have := nd_ix hN e1 hja
        subst this
        rw [sa] at e2
        cases e2
        refine ⟨ua, ra, .inl ⟨k, ?_⟩⟩
        have : (y == b) = false := by simpa using L.ne
        simp [List.lookup, this]
      · have := nd_ix hN e1 hjb
        subst this
        rw [sb] at e2
        cases e2
        refine ⟨ub, rb, .inl ⟨k, ?_⟩⟩
        simp [List.lookup]
    · exact absurd rfl (L.own _ (PySem.mem_of_lookup k)).1
    · have na : i ≠ ja := fun z => by
        rw [z, hja] at e1
        cases e1
        rw [show scope.names.lookup a = some .local from L.pa] at k
        cases k
      have nb : i ≠ jb := fun z => by
        rw [z, hjb] at e1
        cases e1
        rw [show scope.names.lookup b = some .local from L.pb] at k
        cases k
      rw [List.getElem?_set_ne (Ne.symm nb), List.getElem?_set_ne (Ne.symm na)] at e2
      obtain ⟨m, hn, hl⟩ := I.loc
      have hvis : Vis X.env.scope y := (L.free _ (PySem.mem_of_lookup k) rfl).elim (fun k => .inr (.inl k)) (fun k => .inr (.inr k))
      obtain ⟨w', r, q⟩ := hl i y v e1 e2 hvis
      obtain ⟨c2, h2⟩ := look k
      refine ⟨w', r, .inr ⟨.inr k, c2, h2, ?_⟩⟩
      have c1 := cm h2
      rcases q with ⟨k', _⟩ | ⟨_, c3, e', z⟩
      · have k' : X.env.scope.names.lookup y = some .local := k'
        rcases L.free _ (PySem.mem_of_lookup k) rfl with k2 | k2 <;> rw [show X.env.scope.names.lookup y = _ from k2] at k' <;> cases k'
      · rw [c1] at e'
        cases e'
        exact cellK (I.freeC y _ c1) z
  · obtain ⟨w', z⟩ := I.cell y c (cm e)
    exact ⟨w', cellK (I.freeC y c (cm e)) z⟩
  · obtain ⟨v, o, ho, hd⟩ := I.cell y c (cm e)
    exact un.free c o ho (I.freeC y c (cm e)) (by simp)
  · show ((σ.set ja (some va)).set jb (some vb)).length = X.N.length
    simpa using I.len
theorem act3 {CXg : CXT} {Eg : XK} {Ng : List Str} {qg : Str} {sg : Scope} {g f c' : Addr} {cdg pm ctv : Value} {params : Arguments} {body : Expr} {scope : Scope} {k i : Nat} {x a b : Str} {ja jb : Nat} {pn : List (Addr × Obj)} {xe : Value → Shared → Prop} {W : WX} {E : XK} {tb : TE} {p1 p2 : Pos} {e : Expr} {es : List Expr} {ta : TA}
    (I : Inv X pins σ H s) (L : LamN X.env.scope scope a b) (hNd : X.N.Nodup) (hja : X.N[ja]? = some a) (hjb : X.N[jb]? = some b) (hf : s.heap.get? f = some (PySem.W.kla_obj "<lambda>" (X.env.qual ++ "<lambda>") params body scope (cloFrom X.env.cells scope.names []) pm c' ctv)) (hfn : H f = none) (hfr : f ∉ frs X.stack)
    (hbind : ∀ u v : Value, bindArgs (PySem.W.kla_fn "<lambda>" (X.env.qual ++ "<lambda>") params body scope (cloFrom X.env.cells scope.names []) pm (.ref c') ctv) ⟨[u, v], []⟩ = pure [(a, u), (b, v)])
    (tk : Takes ((cxOf CXg X.prog X.w X.K X.mg X.base Ng qg sg g cdg X.A X.stack s H Eg).tr pn xe) W) (hW : ∀ cls d σ' H', E cls d H' → W cls d σ' H') (hr : Room (k + 1) (X.A.deeper (envOfC qg sg s.heap.objs.size g cdg)))
    (hbody : ∀ (A : Around) (outer : List Env) (s : Shared) (H : Hp), Room k (A.deeper (lamEnv X scope s.heap.objs.size f c')) → PE (lamCx X A outer s H E scope f c') body tb)
    (ha : PA ((cxOf CXg X.prog X.w X.K X.mg X.base Ng qg sg g cdg X.A X.stack s H Eg).tr pn xe) (e :: es) ta)
    (hN : Ng[i]? = some x) (hv : Vis sg x) (hd : (x == ("__debug__" : Str)) = false := by decide) (hcd : (x == ("__classdict__" : Str)) = false := by decide)
    (he : starEach (e :: es) ((cxOf CXg X.prog X.w X.K X.mg X.base Ng qg sg g cdg X.A X.stack s H Eg).tr pn xe).env = (false, eval e ((cxOf CXg X.prog X.w X.K X.mg X.base Ng qg sg g cdg X.A X.stack s H Eg).tr pn xe).env) :: starEach es ((cxOf CXg X.prog X.w X.K X.mg X.base Ng qg sg g cdg X.A X.stack s H Eg).tr pn xe).env := by rfl)
    (hpl : (backTo p2 (starEach es ((cxOf CXg X.prog X.w X.K X.mg X.base Ng qg sg g cdg X.A X.stack s H Eg).tr pn xe).env)).any (·.1) = false := by rfl) :
    PE ((cxOf CXg X.prog X.w X.K X.mg X.base Ng qg sg g cdg X.A X.stack s H Eg).tr pn xe) (.Call (.Name x p1) (e :: es) [] p2)
      (fun σZ HZ Q => σZ[i]? = some (some (.ref f)) ∧ ta σZ HZ fun vs HZ1 => ∃ va vb, vs = [va, vb] ∧ HZ1 c' = some (CodeO c' (X.env.qual ++ "<lambda>")) ∧ tb ((σ.set ja (some va)).set jb (some vb)) HZ1 Q) := by
  refine ⟨fun pinsZ sZ σZ HZ0 Q IZ h => ?_⟩
  obtain ⟨hs, ht⟩ := h
  refine wpAny_Call_Name_kw (thn ((pe_var (pos := p1) (i := i) hN hv hd hcd).run pinsZ sZ σZ HZ0 (fun v H1 => v = .ref f ∧ H1 = HZ0) IZ ⟨.ref f, hs, rfl, rfl⟩) fun u s1 ⟨v, H1, I1, r1, q1⟩ => ?_)
  obtain ⟨ev, eH⟩ := q1
  subst ev
  rw [eH] at I1
  obtain rfl : u = Value.ref f := r1
  have ofAt : ∀ {sy : Shared} {Hy : Hp}, Inv ((cxOf CXg X.prog X.w X.K X.mg X.base Ng qg sg g cdg X.A X.stack s H Eg).tr pn xe) pinsZ σZ Hy sy → sy.heap.get? f = some (PySem.W.kla_obj "<lambda>" (X.env.qual ++ "<lambda>") params body scope (cloFrom X.env.cells scope.names []) pm c' ctv) := fun J => J.base.keep f _ hf hfn hfr (fun z => nomatch (show f ∈ ([] : List Addr) from z))
  refine PySem.W.callWith_F ⟨_, _, _, _, ofAt I1⟩ (thn (ha.run p2 pinsZ s1 σZ HZ0 _ I1 ht) fun us s2 ⟨vs, HZ, I2, r, va, vb, evs, hc, htb⟩ => ⟨⟨_, _, _, _, ofAt I2⟩, ?_⟩) he hpl
  subst evs
  obtain ⟨ua, ub, rfl, ra, rb⟩ : ∃ ua ub, us = [ua, ub] ∧ RelV va ua ∧ RelV vb ub := by
    cases r with
    | cons r1 r2 => cases r2 with | cons r2 r3 => cases r3; exact ⟨_, _, rfl, r1, r2⟩
  have of1 := ofAt I2
  have un : Un (frs X.stack) [] H HZ s.heap s2.heap := I2.base
  obtain ⟨⟨oc, vs, t, hoc, hdc, hvc⟩, _, _⟩ := I2.hok c' _ hc
  have rc : codeAny (model X.prog X.w) (X.A.deeper (envOfC qg sg s.heap.objs.size g cdg)) (.call (.ref f) ⟨[ua, ub], []⟩) (CR (L2.CX X.prog X.w) (envOfC qg sg s.heap.objs.size g cdg :: X.stack) X.prog X.w HZ s2 Q E) s2 := by
    refine PySem.W.kla_callFunE hr.depth of1 rfl L.co L.gen rfl ⟨c', oc, vs, t, rfl, hoc, hdc, hvc⟩ ?_
    rw [hbind]
    refine wpAny_pure (wpAny_newFunctionEnv (fun y hy => (L.own y hy).1) (fun y hy => ?_) (fun h₁ hns hsb => ⟨I2.nolimit.fresh _ hsb, ?_⟩) L.kind)
    · rcases List.mem_cons.mp hy with rfl | hy
      · exact L.pa
      · rcases List.mem_cons.mp hy with rfl | hy
        · exact L.pb
        · cases hy
    show codeAny _ _ (.expr body (lamEnv X scope s2.heap.objs.size f c')) _ _
    have kp : ∀ b o, s2.heap.get? b = some o → h₁.get? b = some o := fun b o e => hsb.extBut b o (Nat.ne_of_lt (Heap.lt_size e)) (Heap.get?_push_of_some _ e)
    have J : Inv (lamCx X (X.A.deeper (envOfC qg sg s.heap.objs.size g cdg)) (envOfC qg sg s.heap.objs.size g cdg :: X.stack) s2 HZ E scope f c') [] ((σ.set ja (some va)).set jb (some vb)) HZ { s2 with heap := h₁, toks := s2.toks + ([(a, ua), (b, ub)] : List (Str × Value)).length } :=
      start3 I L hNd hja hjb ra rb I2.env0 hr.hd un hns kp
    refine PySem.W.kla_codeExpr (wpAny_mono ((hbody _ _ s2 HZ (hr.deeper _)).run [] _ _ HZ Q J htb) (fun v s' hq => ?_) fun e s' hq => hq)
    obtain ⟨w', H', J', rv, q⟩ := hq
    exact ⟨w', H', J'.os, J'.bare, J'.base, J'.hok, rv, q⟩
  have hx : Passes (L2.CX X.prog X.w) ((cxOf CXg X.prog X.w X.K X.mg X.base Ng qg sg g cdg X.A X.stack s H Eg).tr pn xe) E := passes_call tk hW
  refine wpAny_call (codeAny_mono rc fun r s' hq => ?_)
  cases r with
  | error e => exact hx pinsZ σZ HZ s2 e s' I2 hq
  | ok fl =>
    cases fl with
    | ret u => exact I2.after hq
    | next => exact False.elim hq
    | brk => exact False.elim hq
    | cont => exact False.elim hq
end
def Made (q : Str) (P : Addr) (ps : Array Value) (H H1 : Hp) (c' : Addr) : Prop :=
  (∃ ps' : Array Value, H1 = upd (upd H P (.tbl ps')) c' (CodeO c' q) ∧ H c' = none ∧ c' ≠ P ∧ TriplesOk ps'.toList ∧ ∀ (pos : Pos) (cv : Value), codeAmong pos ps'.toList = some cv → codeAmong pos ps.toList = some cv ∨ cv = .ref c') ∨
    (H1 = H ∧ ∃ pos, codeAmong pos ps.toList = some (.ref c'))
def tLam3 (q : Str) (P : Addr) (t1 : TE) (TT : Addr → Addr → L2.St → V → Hp → VK → Prop) : TE := fun σ H Q => t1 σ H fun v1 H0 => ∃ ps : Array Value, H0 P = some (.tbl ps) ∧ TriplesOk ps.toList ∧ (∀ (pos : Pos) (cv : Value), codeAmong pos ps.toList = some cv → ∃ c, cv = .ref c ∧ H0 c = some (CodeO c q)) ∧
  ∀ f c' H1, Made q P ps H0 H1 c' → H1 f = none → TT f c' σ v1 H1 Q
section
variable {X : Cx}
theorem lamcall3 {x : Str} {g c P : Addr} {k : Nat} {pg : Arguments} {bg : List Stmt} {sg : Scope} {dV kV doc pm cdv ct oc : Value} {an od : Option Addr} {osl : Array (Option Value)} {Ng : List Str} {pa pb a b : Str} {e1 : Expr} {t1 : TE} {TT : Addr → Addr → L2.St → V → Hp → VK → Prop}
    {params : Arguments} {body : Expr} {scope : Scope} {p lpos pos : Pos} (hg : Gl X x) (hm : X.mg x = some (.ref g)) (hk : PySem.W.keepIn X.K (.ref g) = true)
    (lk : X.K.lookup g = some ⟨oc, od, .func (PySem.W.fnOf x x pg bg sg dV kV doc pm an cdv ct), osl⟩) (hcg : PySem.W.codeIn X.K cdv x = true) (hb : L2.Binds X.K (PySem.W.fnOf x x pg bg sg dV kV doc pm an cdv ct) [pa, pb] []) (Sg : FnScope Ng [pa, pb] sg)
    (he1 : PE X e1 t1) (TB : TabB X.base X.mg c P) (hcode : X.env.code = .ref c) (hr : Room (k + 2) X.A) (L : LamN X.env.scope scope a b) (hdef : defaultsOf params X.env = ([], []))
    (hG : ∀ (pins : List (Addr × Obj)) (s' : Shared) (σ : L2.St) (H1 : Hp) (f c' : Addr) (pm ctv : Value) (v1 : V) (Q : VK), Inv X pins σ H1 s' → s'.heap.get? f = some (PySem.W.kla_obj "<lambda>" (X.env.qual ++ "<lambda>") params body scope (cloFrom X.env.cells scope.names []) pm c' ctv) → H1 f = none → f ∉ frs X.stack →
      Room (k + 1) (X.A.deeper (envOfC x sg s'.heap.objs.size g cdv)) → TT f c' σ v1 H1 Q →
      ∃ t, PSs (cxOf (L2.CX X.prog X.w) X.prog X.w X.K X.mg X.base Ng x sg g cdv X.A X.stack s' H1 (fun _ _ _ => False)) bg t ∧ t { nx := fun _ H' => Q .non H', rt := Q } (L2.start Ng [v1, .ref f]) H1)
    (hdb : (x == ("__debug__" : Str)) = false := by decide) (hs1 : starEach [e1, .Lambda params body scope lpos] X.env = (false, eval e1 X.env) :: starEach [.Lambda params body scope lpos] X.env := by rfl) :
    PE X (.Call (.Name x p) [e1, .Lambda params body scope lpos] [] pos) (tLam3 (X.env.qual ++ "<lambda>") P t1 TT) := by
  refine ⟨fun pins s σ H Q I h => ?_⟩
  refine wpAny_Call_Name_kw (ld_glob I hg hm ?_ hdb)
  refine PySem.W.callWith_K (h₀ := X.base) I.ok.mod.kin hk ?_ hs1 (by rfl)
  rw [hs1]
  show wpAny _ _ (spliced ((false, eval e1 X.env) :: backTo pos (starEach [.Lambda params body scope lpos] X.env))) _ _ s
  refine Calls.spliced_cons (thn (he1.run pins s σ H _ I h) fun u1 s1 ⟨v1, H0, I0, r1, ps, hP, ht, ha, hT⟩ => ?_)
  show wpAny _ _ (spliced ((false, eval (.Lambda params body scope lpos) X.env) :: backTo pos (starEach [] X.env))) _ _ s1
  refine Calls.spliced_cons (make3 I0 TB hcode hP ht ha hdef (L.has I0.ok) fun f c' pm' ctv H1 s' I1 hmade hf hfn hfr => ?_)
  refine Calls.spliced_nil ⟨I1.kIn, ?_⟩
  have rc : codeAny (model X.prog X.w) X.A (.call (.ref g) ⟨[u1, .ref f], []⟩) (CR (L2.CX X.prog X.w) X.stack X.prog X.w H1 s' Q (fun _ _ _ => False)) s' :=
    run_ofS (N := Ng) (ps := [pa, pb]) (us := [u1, .ref f]) (vs := [v1, .ref f]) lk hcg Sg hr I1.env0 (hb s' [u1, .ref f] I1.kIn rfl) (.cons r1 (.cons rfl .nil)) rfl fun hr' => hG pins s' σ H1 f c' pm' ctv v1 Q I1 hf hfn hfr hr' (hT f c' H1 hmade hfn)
  refine wpAny_call (codeAny_mono rc fun r s2 hq => ?_)
  cases r with
  | error e =>
    obtain ⟨_, _, _, _, _, _, _, _, _, _, _, _, z⟩ := hq
    exact z.elim
  | ok fl =>
    cases fl with
    | ret u => exact I1.after hq
    | next => exact False.elim hq
    | brk => exact False.elim hq
    | cont => exact False.elim hq
end
end LamP
namespace Dn
open PySem PySem.Spec PyProof.Rows L2
inductive D where
  | non | bl (b : Bool) | int (i : Int) | str (x : Str) | tup (l : List D) | lst (l : List D) | obj (c : Nat) (l : List D) | scr (l : List Int) | ptr (n : Nat)
inductive Ob where | lst (l : List D) | ins (c : Nat) (l : List D) | tbl (q : Str) | dct (l : List (Str × D))
abbrev Sto := List Ob
structure Gm where
  K : PySem.W.Frag
  ca : Nat → Addr
  fn : Nat → List Str
  ea : Addr
  cl : List (Option V) := []
  cc : Addr := 0
  cq : Str := Str.empty
  tb : List Addr := []
  ed : Option Addr := none
  en : List Str := []
  el : List D := []
structure Hs where
  as : List Addr
  f : Hp
  h : Hp
mutual
inductive Is (G : Gm) (as : List Addr) (H : Hp) : V → D → Prop
  | non : Is G as H .non .non
  | bl (b : Bool) : Is G as H (.bl b) (.bl b)
  | int (i : Int) : Is G as H (.int i) (.int i)
  | str (x : Str) : Is G as H (.str x) (.str x)
  | tup {a : Addr} {xs : List V} {ds : List D} : SqT G.K H a xs → IsL G as H xs ds → Is G as H (.ref a) (.tup ds)
  | lst {a : Addr} {xs : List V} {ds : List D} : H a = some (.lst xs) → IsL G as H xs ds → Is G as H (.ref a) (.lst ds)
  | obj {a dx : Addr} {c : Nat} {xs : List V} {ds : List D} : H a = some (.ins (G.ca c) dx ((G.fn c).zip xs)) → (G.fn c).length = xs.length → IsL G as H xs ds → Is G as H (.ref a) (.obj c ds)
  | scr {a : Addr} {l : List Int} : SqL G.K H a (l.map V.int) → Is G as H (.ref a) (.scr l)
  | ptr {a : Addr} {n : Nat} : as[n]? = some a → Is G as H (.ref a) (.ptr n)
inductive IsL (G : Gm) (as : List Addr) (H : Hp) : List V → List D → Prop
  | nil : IsL G as H [] []
  | cons {v : V} {vs : List V} {d : D} {ds : List D} : Is G as H v d → IsL G as H vs ds → IsL G as H (v :: vs) (d :: ds)
end
def Ext (as bs : List Addr) : Prop := ∀ (n : Nat) (a : Addr), as[n]? = some a → bs[n]? = some a
theorem Ext.refl (as : List Addr) : Ext as as := fun _ _ h => h
theorem Ext.trans {as bs cs : List Addr} (x : Ext as bs) (y : Ext bs cs) : Ext as cs := fun n a h => y n a (x n a h)
theorem Ext.mem {as bs : List Addr} (x : Ext as bs) {a : Addr} (h : a ∈ as) : a ∈ bs := by
  obtain ⟨n, hn⟩ := List.mem_iff_getElem?.mp h
  exact List.mem_iff_getElem?.mpr ⟨n, x n a hn⟩
theorem Ext.app (as bs : List Addr) : Ext as (as ++ bs) := fun n a h => by
  rw [List.getElem?_append_left (List.getElem?_eq_some_iff.mp h).1]; exact h
theorem same_t {K : PySem.W.Frag} {H H' : Hp} {a : Addr} {xs : List V} (e : Same H H') (h : SqT K H a xs) : SqT K H' a xs := by
  rcases h with (h | ⟨o, h⟩) | h
  · exact .inl (.inl (e _ _ h))
  · exact .inl (.inr ⟨o, e _ _ h⟩)
  · exact .inr h
mutual
theorem Is.mono {G : Gm} {as bs : List Addr} {H H' : Hp} (x : Ext as bs) (e : Same H H') : ∀ (d : D) {v : V}, Is G as H v d → Is G bs H' v d
  | .non, _, h => by cases h; exact .non
  | .bl _, _, h => by cases h; exact .bl _
  | .int _, _, h => by cases h; exact .int _
  | .str _, _, h => by cases h; exact .str _
  | .tup ds, _, h => by cases h with | tup a b => exact .tup (same_t e a) (IsL.mono x e ds b)
  | .lst ds, _, h => by cases h with | lst a b => exact .lst (e _ _ a) (IsL.mono x e ds b)
  | .scr l, _, h => by cases h with | scr a => exact .scr (e.seq a)
  | .ptr n, _, h => by cases h with | ptr a => exact .ptr (x _ _ a)
  | .obj c ds, _, h => by cases h with | obj a l b => exact .obj (e _ _ a) l (IsL.mono x e ds b)
theorem IsL.mono {G : Gm} {as bs : List Addr} {H H' : Hp} (x : Ext as bs) (e : Same H H') : ∀ (ds : List D) {vs : List V}, IsL G as H vs ds → IsL G bs H' vs ds
  | [], _, h => by cases h; exact .nil
  | d :: ds, _, h => by cases h with | cons a b => exact .cons (Is.mono x e d a) (IsL.mono x e ds b)
end
def Gm.at_ (G : Gm) (a : Addr) : Gm := { G with ea := a }
mutual
theorem Is.ea {G : Gm} {as : List Addr} {H : Hp} (x : Addr) : ∀ (d : D) {v : V}, Is G as H v d → Is (G.at_ x) as H v d
  | .non, _, h => by cases h; exact .non
  | .bl _, _, h => by cases h; exact .bl _
  | .int _, _, h => by cases h; exact .int _
  | .str _, _, h => by cases h; exact .str _
  | .tup ds, _, h => by cases h with | tup a b => exact .tup a (IsL.ea x ds b)
  | .lst ds, _, h => by cases h with | lst a b => exact .lst a (IsL.ea x ds b)
  | .scr l, _, h => by cases h with | scr a => exact .scr a
  | .ptr n, _, h => by cases h with | ptr a => exact .ptr a
  | .obj c ds, _, h => by cases h with | obj a l b => exact .obj a l (IsL.ea x ds b)
theorem IsL.ea {G : Gm} {as : List Addr} {H : Hp} (x : Addr) : ∀ (ds : List D) {vs : List V}, IsL G as H vs ds → IsL (G.at_ x) as H vs ds
  | [], _, h => by cases h; exact .nil
  | d :: ds, _, h => by cases h with | cons a b => exact .cons (Is.ea x d a) (IsL.ea x ds b)
end
section
variable {G : Gm} {as bs : List Addr} {H H' : Hp}
theorem Is.up {v : V} {d : D} (h : Is G as H v d) (x : Ext as bs) (e : Same H H') : Is G bs H' v d := Is.mono x e d h
theorem IsL.up {v : List V} {d : List D} (h : IsL G as H v d) (x : Ext as bs) (e : Same H H') : IsL G bs H' v d := IsL.mono x e d h
theorem IsL.len : ∀ {ds : List D} {vs : List V}, IsL G as H vs ds → vs.length = ds.length
  | [], _, h => by cases h; rfl
  | d :: ds, _, h => by cases h with | cons a b => exact congrArg Nat.succ b.len
theorem IsL.get : ∀ {ds : List D} {vs : List V} {i : Nat} {d : D}, IsL G as H vs ds → ds[i]? = some d → ∃ v, vs[i]? = some v ∧ Is G as H v d
  | [], _, _, _, _, e => by simp at e
  | d :: ds, _, 0, _, h, e => by cases h with | cons a b => simp at e; subst e; exact ⟨_, rfl, a⟩
  | d :: ds, _, i + 1, _, h, e => by
    cases h with
    | cons a b =>
      obtain ⟨v, h1, h2⟩ := IsL.get (i := i) b (by simpa using e)
      exact ⟨v, by simpa using h1, h2⟩
theorem IsL.getV {ds : List D} {vs : List V} {i : Nat} {v : V} (h : IsL G as H vs ds) (e : vs[i]? = some v) : ∃ d, ds[i]? = some d ∧ Is G as H v d := by
  have hl := h.len
  have hi : i < vs.length := (List.getElem?_eq_some_iff.mp e).1
  have : ds[i]? = some (ds[i]'(by omega)) := List.getElem?_eq_getElem (by omega)
  obtain ⟨w, h1, h2⟩ := h.get this
  rw [e] at h1
  cases h1
  exact ⟨_, this, h2⟩
theorem IsL.append : ∀ {ds es : List D} {vs ws : List V}, IsL G as H vs ds → IsL G as H ws es → IsL G as H (vs ++ ws) (ds ++ es)
  | [], _, _, _, h, k => by cases h; exact k
  | d :: ds, _, _, _, h, k => by cases h with | cons a b => exact .cons a (IsL.append b k)
theorem IsL.one {v : V} {d : D} (h : Is G as H v d) : IsL G as H [v] [d] := .cons h .nil
theorem IsL.take : ∀ (n : Nat) {ds : List D} {vs : List V}, IsL G as H vs ds → IsL G as H (vs.take n) (ds.take n)
  | 0, _, _, _ => .nil
  | n + 1, [], _, h => by cases h; exact .nil
  | n + 1, d :: ds, _, h => by cases h with | cons a b => exact .cons a (IsL.take n b)
theorem IsL.drop : ∀ (n : Nat) {ds : List D} {vs : List V}, IsL G as H vs ds → IsL G as H (vs.drop n) (ds.drop n)
  | 0, _, _, h => h
  | n + 1, [], _, h => by cases h; exact .nil
  | n + 1, d :: ds, _, h => by cases h with | cons a b => exact IsL.drop n b
theorem IsL.set {v : V} {d : D} (q : Is G as H v d) : ∀ (n : Nat) {ds : List D} {vs : List V}, IsL G as H vs ds → IsL G as H (vs.set n v) (ds.set n d)
  | _, [], _, h => by cases h; exact .nil
  | 0, _ :: ds, _, h => by cases h with | cons a b => exact .cons q b
  | n + 1, _ :: ds, _, h => by cases h with | cons a b => exact .cons a (IsL.set q n b)
theorem IsL.eraseIdx : ∀ (n : Nat) {ds : List D} {vs : List V}, IsL G as H vs ds → IsL G as H (vs.eraseIdx n) (ds.eraseIdx n)
  | _, [], _, h => by cases h; exact .nil
  | 0, _ :: ds, _, h => by cases h with | cons a b => exact b
  | n + 1, _ :: ds, _, h => by cases h with | cons a b => exact .cons a (IsL.eraseIdx n b)
theorem IsL.reverse : ∀ {ds : List D} {vs : List V}, IsL G as H vs ds → IsL G as H vs.reverse ds.reverse
  | [], _, h => by cases h; exact .nil
  | d :: ds, _, h => by
    cases h with
    | cons a b =>
      rw [List.reverse_cons, List.reverse_cons]
      exact (IsL.reverse b).append (.one a)
inductive KsR (G : Gm) (as : List Addr) (H : Hp) : List (Key × V) → List (Str × D) → Prop
  | nil : KsR G as H [] []
  | cons {x : Str} {v : V} {d : D} {ps : List (Key × V)} {ds : List (Str × D)} : Is G as H v d → KsR G as H ps ds → KsR G as H ((.inr x, v) :: ps) ((x, d) :: ds)
theorem KsR.up {ps : List (Key × V)} {ds : List (Str × D)} (h : KsR G as H ps ds) (x : Ext as bs) (e : Same H H') : KsR G bs H' ps ds := by
  induction h with
  | nil => exact .nil
  | cons a b ih => exact .cons (a.up x e) ih
theorem KsR.ea {ps : List (Key × V)} {ds : List (Str × D)} (x : Addr) (h : KsR G as H ps ds) : KsR (G.at_ x) as H ps ds := by
  induction h with
  | nil => exact .nil
  | cons a b ih => exact .cons (Is.ea x _ a) ih
def flat : D → Bool
  | .non | .bl _ | .int _ | .str _ => true
  | _ => false
theorem Is.flat (bs : List Addr) (H' : Hp) {v : V} {d : D} (h : Is G as H v d) (f : flat d = true) : Is G bs H' v d := by
  cases h <;> first | exact .non | exact .bl _ | exact .int _ | exact .str _ | cases f
end
theorem same_new {H : Hp} {p : Addr} {o : HO} (h : H p = none) : Same H (upd H p o) := fun a u e => by
  rw [upd_ne (ne_of_none e h)]
  exact e
structure Gro (s t : Hs) : Prop where
  a : Ext s.as t.as
  f : Same s.f t.f
  h : ∀ p o, s.h p = some o → p ∉ s.as → t.h p = some o
  sf : Same t.f t.h
  n : ∀ p o, s.h p = some o → s.f p = none → t.f p = none
  w : ∀ x, x ∈ t.as → x ∈ s.as ∨ s.h x = none
  z : ∀ x, x ∈ t.as → t.f x = none
theorem Gro.trans {s t u : Hs} (x : Gro s t) (y : Gro t u) : Gro s u where
  a := x.a.trans y.a
  f := x.f.trans y.f
  h := fun p o e q => y.h p o (x.h p o e q) fun m => (x.w p m).elim q fun z => by rw [e] at z; cases z
  sf := y.sf
  n := fun p o e q => by
    by_cases m : p ∈ s.as
    · exact y.z p (y.a.mem (x.a.mem m))
    · exact y.n p o (x.h p o e m) (x.n p o e q)
  w := fun p m => (y.w p m).elim (fun m => x.w p m) fun z => by
    by_cases m : p ∈ s.as
    · exact .inl m
    · cases e : s.h p with
      | none => exact .inr rfl
      | some o => rw [x.h p o e m] at z; cases z
  z := y.z
def ObOk (G : Gm) (s : Hs) (a : Addr) : Ob → Prop
  | .lst ds => ∃ vs, s.h a = some (.lst vs) ∧ IsL G s.as s.f vs ds
  | .ins c ds => ∃ dx vs, s.h a = some (.ins (G.ca c) dx ((G.fn c).zip vs)) ∧ vs.length ≤ (G.fn c).length ∧ IsL G s.as s.f vs ds
  | .tbl q => ∃ ps : Array Value, s.h a = some (.tbl ps) ∧ TriplesOk ps.toList ∧ ∀ (pos : Pos) (cv : Value), codeAmong pos ps.toList = some cv → ∃ c, cv = .ref c ∧ s.f c = some (LamX.CodeO c q)
  | .dct l => ∃ kvs : List (Key × V), s.h a = some (.dK kvs) ∧ KsR G s.as s.f kvs l
def ExF (G : Gm) (s : Hs) : Prop := ∀ da, G.ed = some da → ∃ xs, s.f da = some (.xd (G.en.zip xs)) ∧ G.en.length = xs.length ∧ IsL G s.as s.f xs G.el
theorem ExF.up {G : Gm} {s t : Hs} (k : ExF G s) (a : Ext s.as t.as) (f : Same s.f t.f) : ExF G t := fun da h => by
  obtain ⟨xs, h1, h2, h3⟩ := k da h
  exact ⟨xs, f _ _ h1, h2, h3.up a f⟩
structure StOk (G : Gm) (s : Hs) (st : Sto) : Prop where
  sf : Same s.f s.h
  len : s.as.length = st.length
  nd : s.as.Nodup
  ob : ∀ (n : Nat) (a : Addr) (o : Ob), s.as[n]? = some a → st[n]? = some o → ObOk G s a o
  nf : ∀ x, x ∈ s.as → s.f x = none
  tb : ∀ (n : Nat) (P : Addr), G.tb[n]? = some P → s.as[n]? = some P
  ex : ExF G s
theorem Gro.refl {G : Gm} {s : Hs} {st : Sto} (o : StOk G s st) : Gro s s := ⟨Ext.refl _, Same.refl _, fun _ _ e _ => e, o.sf, fun _ _ _ q => q, fun _ m => .inl m, o.nf⟩
theorem StOk.in_ {G : Gm} {s : Hs} {st : Sto} (o : StOk G s st) {x : Addr} (m : x ∈ s.as) : ∃ u, s.h x = some u := by
  obtain ⟨n, hn⟩ := List.mem_iff_getElem?.mp m
  have hl : n < st.length := by rw [← o.len]; exact (List.getElem?_eq_some_iff.mp hn).1
  have q := o.ob n x st[n] hn (List.getElem?_eq_getElem hl)
  cases e : st[n] with
  | lst ds => rw [e] at q; obtain ⟨vs, h, _⟩ := q; exact ⟨_, h⟩
  | ins c ds => rw [e] at q; obtain ⟨dx, vs, h, _⟩ := q; exact ⟨_, h⟩
  | tbl w => rw [e] at q; obtain ⟨ps, h, _⟩ := q; exact ⟨_, h⟩
  | dct l => rw [e] at q; obtain ⟨ps, h, _⟩ := q; exact ⟨_, h⟩
theorem StOk.new {G : Gm} {s : Hs} {st : Sto} (o : StOk G s st) {p : Addr} (h : s.h p = none) : p ∉ s.as := fun m => by
  obtain ⟨u, e⟩ := o.in_ m
  rw [h] at e; cases e
theorem ObOk.keep {G : Gm} {s t : Hs} {a : Addr} {o : Ob} (q : ObOk G s a o) (x : Ext s.as t.as) (f : Same s.f t.f) (h : ∀ u, s.h a = some u → t.h a = some u) : ObOk G t a o := by
  cases o with
  | lst ds => obtain ⟨vs, h1, h2⟩ := q; exact ⟨vs, h _ h1, h2.up x f⟩
  | ins c ds => obtain ⟨dx, vs, h1, hl, h2⟩ := q; exact ⟨dx, vs, h _ h1, hl, h2.up x f⟩
  | tbl w =>
    obtain ⟨ps, h1, h2, h3⟩ := q
    refine ⟨ps, h _ h1, h2, fun pos cv hc => ?_⟩
    obtain ⟨c, e1, e2⟩ := h3 pos cv hc
    exact ⟨c, e1, f _ _ e2⟩
  | dct l => obtain ⟨kvs, h1, h2⟩ := q; exact ⟨kvs, h _ h1, h2.up x f⟩
theorem Gro.new {G : Gm} {s : Hs} {st : Sto} {p : Addr} {o : HO} (k : StOk G s st) (h : s.h p = none) : Gro s ⟨s.as, upd s.f p o, upd s.h p o⟩ := by
  refine ⟨Ext.refl _, same_new (k.sf.free h), fun a u e _ => ?_, fun a u e => ?_, fun a u e q => ?_, fun _ m => .inl m, fun x m => ?_⟩
  · show upd s.h p o a = some u
    rw [upd_ne (ne_of_none e h)]; exact e
  · have e' : upd s.f p o a = some u := e
    show upd s.h p o a = some u
    by_cases z : a = p
    · subst z; rw [upd_same] at e' ⊢; exact e'
    · rw [upd_ne z] at e' ⊢; exact k.sf _ _ e'
  · show upd s.f p o a = none
    rw [upd_ne (ne_of_none e h)]; exact q
  · show upd s.f p o x = none
    have : x ≠ p := fun z => by subst z; exact k.new h m
    rw [upd_ne this]; exact k.nf x m
theorem Gro.loose {G : Gm} {s : Hs} {st : Sto} {p : Addr} {o : HO} (k : StOk G s st) (h : s.h p = none) : Gro s ⟨s.as, s.f, upd s.h p o⟩ :=
  ⟨Ext.refl _, Same.refl _, fun a u e _ => by show upd s.h p o a = some u; rw [upd_ne (ne_of_none e h)]; exact e, k.sf.trans (same_new h), fun _ _ _ q => q, fun _ m => .inl m, k.nf⟩
theorem StOk.grow {G : Gm} {s : Hs} {st : Sto} {p : Addr} {o : HO} (k : StOk G s st) (h : s.h p = none) : StOk G ⟨s.as, upd s.f p o, upd s.h p o⟩ st := by
  have g := Gro.new (o := o) k h
  refine ⟨g.sf, k.len, k.nd, fun n a b e1 e2 => (k.ob n a b e1 e2).keep g.a g.f fun u e => ?_, g.z, k.tb, k.ex.up g.a g.f⟩
  show upd s.h p o a = some u
  rw [upd_ne (ne_of_none e h)]; exact e
theorem StOk.loose {G : Gm} {s : Hs} {st : Sto} {p : Addr} {o : HO} (k : StOk G s st) (h : s.h p = none) : StOk G ⟨s.as, s.f, upd s.h p o⟩ st := by
  have g := Gro.loose (o := o) k h
  refine ⟨g.sf, k.len, k.nd, fun n a b e1 e2 => (k.ob n a b e1 e2).keep g.a g.f fun u e => ?_, g.z, k.tb, k.ex.up g.a g.f⟩
  show upd s.h p o a = some u
  rw [upd_ne (ne_of_none e h)]; exact e
theorem Gro.ice {G : Gm} {s t : Hs} {st : Sto} {p : Addr} {o : HO} (g : Gro s t) (k : StOk G t st) (hp : t.h p = some o) (hs : s.h p = none) (hf : t.f p = none) (ha : p ∉ t.as) : Gro s ⟨t.as, upd t.f p o, t.h⟩ := by
  refine ⟨g.a, g.f.trans (same_new hf), g.h, fun a u e => ?_, fun a u e q => ?_, g.w, fun x m => ?_⟩
  · have e' : upd t.f p o a = some u := e
    show t.h a = some u
    by_cases z : a = p
    · subst z; rw [upd_same] at e'; rw [← e']; exact hp
    · rw [upd_ne z] at e'; exact g.sf _ _ e'
  · show upd t.f p o a = none
    rw [upd_ne (ne_of_none e hs)]; exact g.n _ _ e q
  · show upd t.f p o x = none
    have : x ≠ p := fun z => by subst z; exact ha m
    rw [upd_ne this]; exact g.z x m
theorem StOk.ice {G : Gm} {t : Hs} {st : Sto} {p : Addr} {o : HO} (k : StOk G t st) (hp : t.h p = some o) (hf : t.f p = none) (ha : p ∉ t.as) : StOk G ⟨t.as, upd t.f p o, t.h⟩ st := by
  refine ⟨fun a u e => ?_, k.len, k.nd, fun n a b e1 e2 => (k.ob n a b e1 e2).keep (Ext.refl _) (same_new hf) fun u e => e, fun x m => ?_, k.tb, k.ex.up (Ext.refl _) (same_new hf)⟩
  · have e' : upd t.f p o a = some u := e
    show t.h a = some u
    by_cases z : a = p
    · subst z; rw [upd_same] at e'; rw [← e']; exact hp
    · rw [upd_ne z] at e'; exact k.sf _ _ e'
  · show upd t.f p o x = none
    have : x ≠ p := fun z => by subst z; exact ha m
    rw [upd_ne this]; exact k.nf x m
theorem Gro.chg {s t : Hs} {p : Addr} {o : HO} (g : Gro s t) (h : s.h p = none) (hf : t.f p = none) : Gro s ⟨t.as, t.f, upd t.h p o⟩ :=
  ⟨g.a, g.f, fun a u e q => by show upd t.h p o a = some u; rw [upd_ne (ne_of_none e h)]; exact g.h _ _ e q, fun a u e => by show upd t.h p o a = some u; rw [upd_ne (ne_of_none e hf)]; exact g.sf _ _ e, g.n, g.w, g.z⟩
theorem StOk.chg {G : Gm} {t : Hs} {st : Sto} {p : Addr} {o : HO} (k : StOk G t st) (hf : t.f p = none) (ha : p ∉ t.as) : StOk G ⟨t.as, t.f, upd t.h p o⟩ st := by
  refine ⟨fun a u e => by show upd t.h p o a = some u; rw [upd_ne (ne_of_none e hf)]; exact k.sf _ _ e, k.len, k.nd, fun n a b e1 e2 => (k.ob n a b e1 e2).keep (Ext.refl _) (Same.refl _) fun u e => ?_, k.nf, k.tb, k.ex.up (Ext.refl _) (Same.refl _)⟩
  show upd t.h p o a = some u
  have : a ≠ p := fun z => by subst z; exact ha (List.mem_iff_getElem?.mpr ⟨n, e1⟩)
  rw [upd_ne this]; exact e
theorem Gro.put {G : Gm} {s t : Hs} {st : Sto} {p : Addr} (g : Gro s t) (k : StOk G t st) (hs : s.h p = none) (hf : t.f p = none) : Gro s ⟨t.as ++ [p], t.f, t.h⟩ := by
  refine ⟨g.a.trans (Ext.app _ _), g.f, g.h, g.sf, g.n, fun x m => ?_, fun x m => ?_⟩
  · rcases List.mem_append.mp m with m | m
    · exact g.w x m
    · have : x = p := by simpa using m
      subst this; exact .inr hs
  · rcases List.mem_append.mp m with m | m
    · exact g.z x m
    · have : x = p := by simpa using m
      subst this; exact hf
theorem StOk.put {G : Gm} {t : Hs} {st : Sto} {p : Addr} {o : Ob} (k : StOk G t st) (hf : t.f p = none) (ha : p ∉ t.as) (ho : ObOk G ⟨t.as ++ [p], t.f, t.h⟩ p o) : StOk G ⟨t.as ++ [p], t.f, t.h⟩ (st ++ [o]) := by
  refine ⟨k.sf, by simp [k.len], ?_, fun n a b e1 e2 => ?_, fun x m => ?_, fun n P h => Ext.app _ _ n P (k.tb n P h), k.ex.up (Ext.app _ _) (Same.refl _)⟩
  · show (t.as ++ [p]).Nodup
    rw [List.nodup_append]
    refine ⟨k.nd, by simp, fun a h1 b h2 z => ?_⟩
    have : b = p := by simpa using h2
    subst this; subst z; exact ha h1
  · have e1' : (t.as ++ [p])[n]? = some a := e1
    by_cases hn : n < t.as.length
    · rw [List.getElem?_append_left hn] at e1'
      rw [List.getElem?_append_left (by rw [← k.len]; exact hn)] at e2
      exact (k.ob n a b e1' e2).keep (Ext.app _ _) (Same.refl _) fun u e => e
    · have hn' : n = t.as.length := by
        have := (List.getElem?_eq_some_iff.mp e1').1
        simp at this; omega
      subst hn'
      rw [List.getElem?_append_right (Nat.le_refl _)] at e1'
      rw [k.len, List.getElem?_append_right (Nat.le_refl _)] at e2
      simp at e1' e2
      subst e1'; subst e2
      exact ho
  · rcases List.mem_append.mp m with m | m
    · exact k.nf x m
    · have : x = p := by simpa using m
      subst this; exact hf
theorem Gro.mod {G : Gm} {s t : Hs} {st : Sto} {n : Nat} {a : Addr} {o : HO} (g : Gro s t) (k : StOk G t st) (ha : t.as[n]? = some a) : Gro s ⟨t.as, t.f, upd t.h a o⟩ := by
  have m : a ∈ t.as := List.mem_iff_getElem?.mpr ⟨n, ha⟩
  refine ⟨g.a, g.f, fun p u e q => ?_, fun p u e => ?_, g.n, g.w, g.z⟩
  · show upd t.h a o p = some u
    have : p ≠ a := fun z => by
      subst z
      exact (g.w p m).elim q fun z => by rw [e] at z; cases z
    rw [upd_ne this]; exact g.h _ _ e q
  · show upd t.h a o p = some u
    have : p ≠ a := fun z => by
      subst z
      have := k.nf p m
      rw [show t.f p = some u from e] at this; cases this
    rw [upd_ne this]; exact k.sf _ _ e
theorem StOk.mod {G : Gm} {t : Hs} {st : Sto} {n : Nat} {a : Addr} {o : HO} {b : Ob} (k : StOk G t st) (ha : t.as[n]? = some a) (ho : ObOk G ⟨t.as, t.f, upd t.h a o⟩ a b) : StOk G ⟨t.as, t.f, upd t.h a o⟩ (st.set n b) := by
  have m : a ∈ t.as := List.mem_iff_getElem?.mpr ⟨n, ha⟩
  refine ⟨fun p u e => ?_, by simp [k.len], k.nd, fun j x c e1 e2 => ?_, k.nf, k.tb, k.ex.up (Ext.refl _) (Same.refl _)⟩
  · show upd t.h a o p = some u
    have : p ≠ a := fun z => by
      subst z
      have := k.nf p m
      rw [show t.f p = some u from e] at this; cases this
    rw [upd_ne this]; exact k.sf _ _ e
  · by_cases z : n = j
    · subst z
      rw [List.getElem?_set_self (by rw [← k.len]; exact (List.getElem?_eq_some_iff.mp ha).1)] at e2
      cases e2
      have e1' : t.as[n]? = some x := e1
      rw [ha] at e1'; cases e1'
      exact ho
    · rw [List.getElem?_set_ne z] at e2
      refine (k.ob j x c e1 e2).keep (Ext.refl _) (Same.refl _) fun u e => ?_
      show upd t.h a o x = some u
      have : x ≠ a := fun y => by
        subst y
        have e1' : t.as[j]? = some x := e1
        exact z (nd_ix k.nd ha e1')
      rw [upd_ne this]; exact e
inductive Md where | P | B | N
  deriving DecidableEq
def VOk (G : Gm) (s t : Hs) : Md → V → D → Prop
  | .P, v, d => Is G t.as t.f v d
  | .B, v, d => ∃ p vs l, v = .ref p ∧ d = .lst l ∧ t.h p = some (.lst vs) ∧ IsL G t.as t.f vs l ∧ p ∉ t.as
  | .N, v, d => ∃ p vs l, v = .ref p ∧ d = .lst l ∧ t.h p = some (.lst vs) ∧ IsL G t.as t.f vs l ∧ p ∉ t.as ∧ s.h p = none ∧ t.f p = none
def U (G : Gm) (t : Hs) (v : V) (d : D) : Prop := Is G t.as t.f v d ∨ ∃ p vs l, v = .ref p ∧ d = .lst l ∧ t.h p = some (.lst vs) ∧ IsL G t.as t.f vs l ∧ p ∉ t.as
section
variable {G : Gm} {s t t' : Hs} {v : V} {d : D} {m : Md}
theorem VOk.u (h : VOk G s t m v d) : U G t v d := by
  cases m with
  | P => exact .inl h
  | B => exact .inr h
  | N => obtain ⟨p, vs, l, a, b, c, e, f, _⟩ := h; exact .inr ⟨p, vs, l, a, b, c, e, f⟩
theorem U.up (h : U G t v d) (g : Gro t t') : U G t' v d := by
  rcases h with h | ⟨p, vs, l, a, b, c, e, f⟩
  · exact .inl (h.up g.a g.f)
  · exact .inr ⟨p, vs, l, a, b, g.h _ _ c f, e.up g.a g.f, fun m => (g.w p m).elim f fun z => by rw [c] at z; cases z⟩
theorem U.lst {l : List D} (h : U G t v (.lst l)) (s : Same t.f t.h) : ∃ p vs, v = .ref p ∧ t.h p = some (.lst vs) ∧ IsL G t.as t.f vs l := by
  rcases h with h | ⟨p, vs, l', rfl, e, c, q, _⟩
  · cases h with | lst a b => exact ⟨_, _, rfl, s _ _ a, b⟩
  · cases e; exact ⟨p, vs, rfl, c, q⟩
theorem U.scr {l : List Int} (h : U G t v (.scr l)) (s : Same t.f t.h) : ∃ p, v = .ref p ∧ SqL G.K t.h p (l.map V.int) := by
  rcases h with h | ⟨p, vs, l', rfl, e, c, q, _⟩
  · cases h with | scr a => exact ⟨_, rfl, s.seq a⟩
  · cases e
theorem U.tup {l : List D} (h : U G t v (.tup l)) (s : Same t.f t.h) : ∃ p vs, v = .ref p ∧ SqT G.K t.h p vs ∧ IsL G t.as t.f vs l := by
  rcases h with h | ⟨p, vs, l', rfl, e, c, q, _⟩
  · cases h with | tup a b => exact ⟨_, _, rfl, same_t s a, b⟩
  · cases e
theorem U.tupI {l : List D} (h : U G t v (.tup l)) : Is G t.as t.f v (.tup l) := by
  rcases h with h | ⟨p, vs, l', a, b, _⟩
  · exact h
  · cases b
theorem U.ptr {n : Nat} (h : U G t v (.ptr n)) : ∃ p, v = .ref p ∧ t.as[n]? = some p := by
  rcases h with h | ⟨p, vs, l', rfl, e, c, q, _⟩
  · cases h with | ptr a => exact ⟨_, rfl, a⟩
  · cases e
theorem U.obj {c : Nat} {l : List D} (h : U G t v (.obj c l)) (s : Same t.f t.h) : ∃ p dx vs, v = .ref p ∧ t.h p = some (.ins (G.ca c) dx ((G.fn c).zip vs)) ∧ (G.fn c).length = vs.length ∧ IsL G t.as t.f vs l := by
  rcases h with h | ⟨p, vs, l', rfl, e, c, q, _⟩
  · cases h with | obj a l b => exact ⟨_, _, _, rfl, s _ _ a, l, b⟩
  · cases e
theorem U.int {i : Int} (h : U G t v (.int i)) : v = .int i := by
  rcases h with h | ⟨p, vs, l', rfl, e, _⟩
  · cases h; rfl
  · cases e
theorem U.bl {i : Bool} (h : U G t v (.bl i)) : v = .bl i := by
  rcases h with h | ⟨p, vs, l', rfl, e, _⟩
  · cases h; rfl
  · cases e
theorem U.str {i : Str} (h : U G t v (.str i)) : v = .str i := by
  rcases h with h | ⟨p, vs, l', rfl, e, _⟩
  · cases h; rfl
  · cases e
theorem U.non (h : U G t v .non) : v = .non := by
  rcases h with h | ⟨p, vs, l', rfl, e, _⟩
  · cases h; rfl
  · cases e
theorem VOk.up (h : VOk G s t m v d) (g : Gro t t') : VOk G s t' m v d := by
  have na : ∀ {p : Addr} {o : HO}, t.h p = some o → p ∉ t.as → p ∉ t'.as := fun {p o} c f m => (g.w p m).elim f fun z => by rw [c] at z; cases z
  cases m with
  | P => exact Is.up h g.a g.f
  | B => obtain ⟨p, vs, l, a, b, c, e, f⟩ := h; exact ⟨p, vs, l, a, b, g.h _ _ c f, e.up g.a g.f, na c f⟩
  | N => obtain ⟨p, vs, l, a, b, c, e, f, n, z⟩ := h; exact ⟨p, vs, l, a, b, g.h _ _ c f, e.up g.a g.f, na c f, n, g.n _ _ c z⟩
theorem VOk.back {r : Hs} {st : Sto} (h : VOk G s t m v d) (g : Gro r s) (k : StOk G s st) : VOk G r t m v d := by
  cases m with
  | P => exact h
  | B => exact h
  | N =>
    obtain ⟨p, vs, l, a, b, c, e, f, n, z⟩ := h
    refine ⟨p, vs, l, a, b, c, e, f, ?_, z⟩
    cases q : r.h p with
    | none => rfl
    | some o =>
      by_cases i : p ∈ r.as
      · exact absurd (g.a.mem i) (k.new n)
      · rw [g.h p o q i] at n; cases n
theorem VOk.freeze {st : Sto} (h : VOk G s t m v d) (g : Gro s t) (k : StOk G t st) (hm : m ≠ .B) : ∃ f, Gro s ⟨t.as, f, t.h⟩ ∧ StOk G ⟨t.as, f, t.h⟩ st ∧ Same t.f f ∧ Is G t.as f v d := by
  cases m with
  | P => exact ⟨t.f, g, k, Same.refl _, h⟩
  | B => exact absurd rfl hm
  | N =>
    obtain ⟨p, vs, l, rfl, rfl, c, e, f, n, z⟩ := h
    exact ⟨upd t.f p (.lst vs), g.ice k c n z f, k.ice c z f, same_new z, .lst upd_same (e.up (Ext.refl _) (same_new z))⟩
end
inductive SL where | emp | val (d : D) | own (l : List D) | exn | clo (ds : List (Option D))
abbrev DE := List SL
structure En where
  e : DE
  st : Sto
def SlotOk (G : Gm) (s t : Hs) : Option V → SL → Prop
  | _, .emp => True
  | o, .exn => o = some (.ref G.ea)
  | o, .clo ds => o = some (.ref G.ea) ∧ G.cl.length = ds.length ∧ t.f G.cc = some (LamX.CodeO G.cc G.cq) ∧ ∀ (i : Nat) (d : D), ds[i]? = some (some d) → ∃ v, G.cl[i]? = some (some v) ∧ Is G t.as t.f v d
  | o, .val d => ∃ v, o = some v ∧ Is G t.as t.f v d
  | o, .own l => ∃ p vs, o = some (.ref p) ∧ s.h p = none ∧ t.f p = none ∧ t.h p = some (.lst vs) ∧ IsL G t.as t.f vs l ∧ p ∉ t.as
structure EnvOk (G : Gm) (s t : Hs) (σ : L2.St) (e : DE) : Prop where
  gr : Gro s t
  len : σ.length = e.length
  at_ : ∀ (i : Nat) (o : Option V) (x : SL), σ[i]? = some o → e[i]? = some x → SlotOk G s t o x
  dis : ∀ (i j : Nat) (p : Addr) (l m : List D), i ≠ j → σ[i]? = some (some (.ref p)) → e[i]? = some (.own l) → σ[j]? = some (some (.ref p)) → e[j]? = some (.own m) → False
section
variable {G : Gm} {s t t' : Hs} {σ : L2.St} {e : DE} {st : Sto}
theorem SlotOk.up {o : Option V} {x : SL} (h : SlotOk G s t o x) (g : Gro t t') : SlotOk G s t' o x := by
  cases x with
  | emp => trivial
  | exn => exact h
  | clo ds =>
    obtain ⟨h1, h2, h3, h4⟩ := h
    refine ⟨h1, h2, g.f _ _ h3, fun i d hd => ?_⟩
    obtain ⟨v, a, b⟩ := h4 i d hd
    exact ⟨v, a, b.up g.a g.f⟩
  | val d => obtain ⟨v, a, b⟩ := h; exact ⟨v, a, b.up g.a g.f⟩
  | own l => obtain ⟨p, vs, a, b, c, d, e, f⟩ := h; exact ⟨p, vs, a, b, g.n _ _ d c, g.h _ _ d f, e.up g.a g.f, fun m => (g.w p m).elim f fun z => by rw [d] at z; cases z⟩
theorem EnvOk.up (h : EnvOk G s t σ e) (g : Gro t t') : EnvOk G s t' σ e :=
  ⟨h.gr.trans g, h.len, fun i o s a b => (h.at_ i o s a b).up g, h.dis⟩
theorem EnvOk.slot {i : Nat} {x : SL} (h : EnvOk G s t σ e) (hs : e[i]? = some x) : ∃ o, σ[i]? = some o ∧ SlotOk G s t o x := by
  have hi : i < e.length := (List.getElem?_eq_some_iff.mp hs).1
  have e1 : σ[i]? = some (σ[i]'(by have := h.len; omega)) := List.getElem?_eq_getElem _
  exact ⟨_, e1, h.at_ i _ x e1 hs⟩
theorem EnvOk.set {i : Nat} {o : Option V} {x : SL} (h : EnvOk G s t σ e) (hs : SlotOk G s t o x) (hn : ∀ l, x ≠ .own l) : EnvOk G s t (σ.set i o) (e.set i x) := by
  refine ⟨h.gr, by simp [h.len], fun j o' s' a b => ?_, fun j k p l m hjk a b c d => ?_⟩
  · by_cases z : i = j
    · subst z
      have hi : i < σ.length := by
        have := (List.getElem?_eq_some_iff.mp a).1
        simpa using this
      rw [List.getElem?_set_self hi] at a
      rw [List.getElem?_set_self (by rw [← h.len]; exact hi)] at b
      cases a; cases b; exact hs
    · rw [List.getElem?_set_ne z] at a b
      exact h.at_ j o' s' a b
  · by_cases z : i = j
    · subst z
      have hi : i < e.length := by
        have := (List.getElem?_eq_some_iff.mp b).1
        simpa using this
      rw [List.getElem?_set_self hi] at b
      cases b
      exact absurd rfl (hn l)
    · by_cases z2 : i = k
      · subst z2
        have hi : i < e.length := by
          have := (List.getElem?_eq_some_iff.mp d).1
          simpa using this
        rw [List.getElem?_set_self hi] at d
        cases d
        exact absurd rfl (hn m)
      · rw [List.getElem?_set_ne z] at a b
        rw [List.getElem?_set_ne z2] at c d
        exact h.dis j k p l m hjk a b c d
theorem EnvOk.setOwn {i : Nat} {p : Addr} {vs : List V} {l : List D} (h : EnvOk G s t σ e) (h0 : s.h p = none) (hf : t.f p = none) (hp : t.h p = some (.lst vs)) (hl : IsL G t.as t.f vs l) (ha : p ∉ t.as)
    (hne : ∀ (j : Nat) (m : List D), j ≠ i → σ[j]? = some (some (.ref p)) → e[j]? = some (.own m) → False) : EnvOk G s t (σ.set i (some (.ref p))) (e.set i (.own l)) := by
  refine ⟨h.gr, by simp [h.len], fun j o' s' a b => ?_, fun j k q l1 m hjk a b c d => ?_⟩
  · by_cases z : i = j
    · subst z
      have hi : i < σ.length := by
        have := (List.getElem?_eq_some_iff.mp a).1
        simpa using this
      rw [List.getElem?_set_self hi] at a
      rw [List.getElem?_set_self (by rw [← h.len]; exact hi)] at b
      cases a; cases b; exact ⟨p, vs, rfl, h0, hf, hp, hl, ha⟩
    · rw [List.getElem?_set_ne z] at a b
      exact h.at_ j o' s' a b
  · by_cases z : i = j
    · subst z
      have hi : i < σ.length := by
        have := (List.getElem?_eq_some_iff.mp a).1
        simpa using this
      rw [List.getElem?_set_self hi] at a
      rw [List.getElem?_set_ne hjk] at c d
      cases a
      exact hne k m (fun z => hjk z.symm) c d
    · by_cases z2 : i = k
      · subst z2
        have hi : i < σ.length := by
          have := (List.getElem?_eq_some_iff.mp c).1
          simpa using this
        rw [List.getElem?_set_self hi] at c
        rw [List.getElem?_set_ne z] at a b
        cases c
        exact hne j l1 hjk a b
      · rw [List.getElem?_set_ne z] at a b
        rw [List.getElem?_set_ne z2] at c d
        exact h.dis j k q l1 m hjk a b c d
theorem EnvOk.chg {i : Nat} {p : Addr} {vs : List V} {l l' : List D} (h : EnvOk G s t σ e) (hσ : σ[i]? = some (some (.ref p))) (he : e[i]? = some (.own l')) (h0 : s.h p = none) (hf : t.f p = none) (hl : IsL G t.as t.f vs l) (ha : p ∉ t.as) :
    EnvOk G s ⟨t.as, t.f, upd t.h p (.lst vs)⟩ σ (e.set i (.own l)) := by
  refine ⟨h.gr.chg h0 hf, by simp [h.len], fun j o' s' a b => ?_, fun j k q l1 m hjk a b c d => ?_⟩
  · by_cases z : i = j
    · subst z
      have hi : i < e.length := (List.getElem?_eq_some_iff.mp he).1
      rw [List.getElem?_set_self hi] at b
      rw [hσ] at a
      cases a; cases b; exact ⟨p, vs, rfl, h0, hf, upd_same, hl, ha⟩
    · rw [List.getElem?_set_ne z] at b
      have q := h.at_ j o' s' a b
      cases s' with
      | emp => trivial
      | exn => exact q
      | clo ds => exact q
      | val d => exact q
      | own m =>
        obtain ⟨p', vs', rfl, b1, b2, b3, b4, b5⟩ := q
        have : p' ≠ p := fun zz => by subst zz; exact h.dis i j p' l' m z hσ he a b
        exact ⟨p', vs', rfl, b1, b2, by show upd t.h p (.lst vs) p' = _; rw [upd_ne this]; exact b3, b4, b5⟩
  · have own_of : ∀ (j : Nat) (l1 : List D), (e.set i (.own l))[j]? = some (.own l1) → ∃ l2, e[j]? = some (.own l2) := fun j l1 b => by
      by_cases z : i = j
      · subst z; exact ⟨l', he⟩
      · rw [List.getElem?_set_ne z] at b; exact ⟨l1, b⟩
    obtain ⟨l2, b'⟩ := own_of j l1 b
    obtain ⟨l3, d'⟩ := own_of k m d
    exact h.dis j k q l2 l3 hjk a b' c d'
theorem EnvOk.other {p : Addr} {o : HO} (E : EnvOk G s t σ e) (h0 : s.h p = none) (hf : t.f p = none)
    (hne : ∀ (j : Nat) (m : List D), σ[j]? = some (some (.ref p)) → e[j]? = some (.own m) → False) : EnvOk G s ⟨t.as, t.f, upd t.h p o⟩ σ e := by
  refine ⟨E.gr.chg h0 hf, E.len, fun i x y a b => ?_, E.dis⟩
  have ok := E.at_ i x y a b
  cases y with
  | emp => trivial
  | exn => exact ok
  | clo ds => exact ok
  | val d => exact ok
  | own l =>
    obtain ⟨q, vs, rfl, a1, a2, a3, a4, a5⟩ := ok
    have : q ≠ p := fun z => by subst z; exact hne i l a b
    exact ⟨q, vs, rfl, a1, a2, by show upd t.h p o q = _; rw [upd_ne this]; exact a3, a4, a5⟩
end
inductive ER where | val (m : Md) (d : D) (st : Sto) | exc (c : Nat) (l : List D) (st : Sto) | bad
def ExcOk (G : Gm) (s : Hs) (c : Nat) (l : List D) (x : Option Addr) : Prop :=
  (l = [] ∧ x = none) ∨ ∃ da xs, x = some da ∧ l ≠ [] ∧ s.f da = some (.xd ((G.fn c).zip xs)) ∧ (G.fn c).length = xs.length ∧ IsL G s.as s.f xs l
theorem ExcOk.up {G : Gm} {s t : Hs} {c : Nat} {l : List D} {x : Option Addr} (h : ExcOk G s c l x) (g : Gro s t) : ExcOk G t c l x := by
  rcases h with h | ⟨da, xs, a, b, c, d, e⟩
  · exact .inl h
  · exact .inr ⟨da, xs, a, b, g.f _ _ c, d, e.up g.a g.f⟩
def RPost (G : Gm) (W : WX) (s : Hs) (σ : L2.St) (Q : VK) : ER → Prop
  | .val m d st => ∀ t v, Gro s t → StOk G t st → VOk G s t m v d → Q v t.h
  | .exc c l st => ∀ t x, Gro s t → StOk G t st → ExcOk G t c l x → W (.ref (G.ca c)) x σ t.h
  | .bad => False
section
variable {G : Gm} {W : WX} {s t : Hs} {σ : L2.St} {Q Q' : VK} {st : Sto}
theorem RPost.step {r : ER} (g : Gro s t) (k : StOk G t st) (h : RPost G W s σ Q r) : RPost G W t σ Q r := by
  cases r with
  | val m d st' => exact fun u v g' o' o => h u v (g.trans g') o' (o.back g k)
  | exc c l st' => exact fun u x g' o' o => h u x (g.trans g') o' o
  | bad => exact h
def ER.bind (r : ER) (k : D → Sto → ER) : ER := match r with
  | .val _ d st => k d st
  | .exc c l st => .exc c l st
  | .bad => .bad
@[simp] theorem ER.bind_val (m : Md) (d : D) (st : Sto) (k : D → Sto → ER) : (ER.val m d st).bind k = k d st := rfl
@[simp] theorem ER.bind_exc (c : Nat) (l : List D) (st : Sto) (k : D → Sto → ER) : (ER.exc c l st).bind k = .exc c l st := rfl
@[simp] theorem ER.bind_bad (k : D → Sto → ER) : ER.bad.bind k = .bad := rfl
def DEv (G : Gm) (W : WX) (te : TE) (f : En → ER) : Prop :=
  ∀ s t σ e st, EnvOk G s t σ e → StOk G t st → ∀ Q : VK, RPost G W t σ Q (f ⟨e, st⟩) → te σ t.h Q
theorem RPost.bind {r : ER} {k : D → Sto → ER} (h : RPost G W s σ Q (r.bind k))
    (hk : ∀ m d st t v, Gro s t → StOk G t st → VOk G s t m v d → RPost G W t σ Q (k d st) → Q' v t.h) : RPost G W s σ Q' r := by
  cases r with
  | val m d st => exact fun t v g o' o => hk m d st t v g o' o (RPost.step g o' h)
  | exc c l st => exact h
  | bad => exact h
end
end Dn
namespace Dn
open PySem PySem.Spec PyProof.Rows L2
def rOr (r r' : R2) : R2 := fun x y H Q => r x y H Q ∨ r' x y H Q
theorem opOr {X : Cx} {f : Value → Value → Sem Value} {r r' : R2} (h : OpR X f r) (h' : OpR X f r') : OpR X f (rOr r r') := by
  intro pins s σ H x y v u Q I rx ry q
  rcases q with q | q
  · exact h pins s σ H x y v u Q I rx ry q
  · exact h' pins s σ H x y v u Q I rx ry q
def DOp (G : Gm) (r : R2) (o : D → D → Sto → ER) : Prop :=
  ∀ (W : WX) (σ : L2.St) (s : Hs) (st : Sto) (v w : V) (d d' : D), StOk G s st → U G s v d → U G s w d' → ∀ Q : VK, RPost G W s σ Q (o d d' st) → r v w s.h Q
section
variable {G : Gm} {W : WX} {s : Hs} {σ : L2.St} {Q : VK} {st : Sto}
theorem RPost.now {v : V} {d : D} (k : StOk G s st) (h : RPost G W s σ Q (.val .P d st)) (hv : Is G s.as s.f v d) : Q v s.h := h s v (Gro.refl k) k hv
theorem RPost.newL {vs : List V} {l : List D} (k : StOk G s st) (h : RPost G W s σ Q (.val .N (.lst l) st)) (hv : IsL G s.as s.f vs l) {p : Addr} (hp : s.h p = none) : Q (.ref p) (upd s.h p (.lst vs)) :=
  h ⟨s.as, s.f, upd s.h p (.lst vs)⟩ _ (Gro.loose k hp) (k.loose hp) ⟨p, vs, l, rfl, rfl, upd_same, hv, k.new hp, hp, k.sf.free hp⟩
theorem RPost.newT {vs : List V} {l : List D} (k : StOk G s st) (h : RPost G W s σ Q (.val .P (.tup l) st)) (hv : IsL G s.as s.f vs l) {p : Addr} (hp : s.h p = none) : Q (.ref p) (upd s.h p (.tup vs)) :=
  h ⟨s.as, upd s.f p (.tup vs), upd s.h p (.tup vs)⟩ _ (Gro.new k hp) (k.grow hp) (.tup (SqT.of upd_same) (hv.up (Ext.refl _) (same_new (k.sf.free hp))))
theorem RPost.cond (c : Prop) [Decidable c] (r : ER) (h : RPost G W s σ Q (if c then r else .bad)) : c ∧ RPost G W s σ Q r := by
  by_cases q : c
  · rw [if_pos q] at h; exact ⟨q, h⟩
  · rw [if_neg q] at h; exact h.elim
def ofOpt {α : Type} (o : Option α) (k : α → ER) : ER := match o with
  | some d => k d
  | none => .bad
@[simp] theorem ofOpt_some {α : Type} (a : α) (k : α → ER) : ofOpt (some a) k = k a := rfl
@[simp] theorem ofOpt_none {α : Type} (k : α → ER) : ofOpt none k = .bad := rfl
theorem RPost.opt {α : Type} (o : Option α) (k : α → ER) (h : RPost G W s σ Q (ofOpt o k)) : ∃ d, o = some d ∧ RPost G W s σ Q (k d) := by
  cases o with
  | none => exact h.elim
  | some d => exact ⟨d, rfl, h⟩
end
theorem sz {n : Nat} (h : n ≤ 1000000) : n ≤ sizeLine := Nat.le_trans h (by decide)
theorem szlt {n : Nat} (h : n < 1000000) : n < sizeLine := Nat.lt_of_lt_of_le h (by decide)
section
variable {G : Gm}
def oAdd : D → D → Sto → ER
  | .int i, .int j, st => .val .P (.int (i + j)) st
  | .str a, .str b, st => if a.length + b.length ≤ 1000000 then .val .P (.str (a ++ b)) st else .bad
  | .lst a, .lst b, st => if a.length + b.length ≤ 1000000 then .val .N (.lst (a ++ b)) st else .bad
  | .tup a, .tup b, st => if a.length + b.length ≤ 1000000 then .val .P (.tup (a ++ b)) st else .bad
  | _, _, _ => .bad
abbrev rAddS : R2 := fun x y H Q => ∃ i j, x = .str i ∧ y = .str j ∧ i.length + j.length ≤ sizeLine ∧ Q (.str (i ++ j)) H
abbrev rAddA (K : PySem.W.Frag) : R2 := rOr (rI0 fun i j => .int (i + j)) (rOr rAddS (rOr rCat (L2.rCatA K)))
theorem or_add {X : Cx} : OpR X (binaryOp .Add) (rAddA X.K) := opOr op_add (opOr op_add_str (opOr op_cat L2.op_catA))
theorem d_add : DOp G (rAddA G.K) oAdd := by
  intro W σ s st v w d d' k hv hw Q post
  cases d <;> cases d' <;> try exact post.elim
  case int.int i j =>
    obtain rfl := hv.int; obtain rfl := hw.int
    exact .inl ⟨i, j, rfl, rfl, post.now k (.int _)⟩
  case str.str a b =>
    obtain rfl := hv.str; obtain rfl := hw.str
    obtain ⟨h, post⟩ := RPost.cond (a.length + b.length ≤ 1000000) (.val .P (.str (a ++ b)) st) post
    exact .inr (.inl ⟨a, b, rfl, rfl, sz h, post.now k (.str _)⟩)
  case lst.lst a b =>
    obtain ⟨p, vs, rfl, hp, hl⟩ := hv.lst k.sf
    obtain ⟨q, ws, rfl, hq, hm⟩ := hw.lst k.sf
    obtain ⟨h, post⟩ := RPost.cond (a.length + b.length ≤ 1000000) (.val .N (.lst (a ++ b)) st) post
    exact .inr (.inr (.inl ⟨p, q, vs, ws, rfl, rfl, hp, hq, by rw [hl.len, hm.len]; exact sz h, fun r hr => post.newL k (hl.append hm) hr⟩))
  case tup.tup a b =>
    obtain ⟨p, vs, rfl, hp, hl⟩ := hv.tup k.sf
    obtain ⟨q, ws, rfl, hq, hm⟩ := hw.tup k.sf
    obtain ⟨h, post⟩ := RPost.cond (a.length + b.length ≤ 1000000) (.val .P (.tup (a ++ b)) st) post
    refine .inr (.inr (.inr ⟨p, q, vs, ws, rfl, rfl, hp, hq, by rw [hl.len, hm.len]; exact sz h, fun z => ?_, fun _ z => ?_, fun _ _ r hr => post.newT k (hl.append hm) hr⟩))
    · have : a = [] := by have := hl.len; subst z; exact List.length_eq_zero_iff.mp this.symm
      subst this; exact post.now k hw.tupI
    · have : b = [] := by have := hm.len; subst z; exact List.length_eq_zero_iff.mp this.symm
      subst this; rw [List.append_nil] at post; exact post.now k hv.tupI
def oSub : D → D → Sto → ER
  | .int i, .int j, st => .val .P (.int (i - j)) st
  | _, _, _ => .bad
theorem d_sub : DOp G (rI0 fun i j => .int (i - j)) oSub := by
  intro W σ s st v w d d' k hv hw Q post
  cases d <;> cases d' <;> try exact post.elim
  obtain rfl := hv.int; obtain rfl := hw.int
  exact ⟨_, _, rfl, rfl, post.now k (.int _)⟩
theorem IsL.rep {as : List Addr} {H : Hp} {vs : List V} {l : List D} (h : IsL G as H vs l) : ∀ n : Nat, IsL G as H (List.replicate n vs).flatten (List.replicate n l).flatten
  | 0 => .nil
  | n + 1 => by
    rw [List.replicate_succ, List.replicate_succ, List.flatten_cons, List.flatten_cons]
    exact h.append (IsL.rep h n)
def oMul : D → D → Sto → ER
  | .int i, .int j, st => if i.natAbs.log2 + j.natAbs.log2 < 1000000 then .val .P (.int (i * j)) st else .bad
  | .lst a, .int k, st => if -(2 ^ 63) ≤ k ∧ k < 2 ^ 63 ∧ a.length * k.toNat ≤ 1000000 then .val .N (.lst (List.replicate k.toNat a).flatten) st else .bad
  | _, _, _ => .bad
abbrev rMulA : R2 := rOr (rI CMulW fun i j => .int (i * j)) rRep
theorem or_mul {X : Cx} : OpR X (binaryOp .Mult) rMulA := opOr op_mulW op_rep
theorem d_mul : DOp G rMulA oMul := by
  intro W σ s st v w d d' k hv hw Q post
  cases d <;> cases d' <;> try exact post.elim
  case int.int i j =>
    obtain rfl := hv.int; obtain rfl := hw.int
    obtain ⟨h, post⟩ := RPost.cond (i.natAbs.log2 + j.natAbs.log2 < 1000000) (.val .P (.int (i * j)) st) post
    exact .inl ⟨_, _, rfl, rfl, h, post.now k (.int _)⟩
  case lst.int a n =>
    obtain ⟨p, vs, rfl, hp, hl⟩ := hv.lst k.sf
    obtain rfl := hw.int
    obtain ⟨h, post⟩ := RPost.cond (-(2 ^ 63) ≤ n ∧ n < 2 ^ 63 ∧ a.length * n.toNat ≤ 1000000) (.val .N (.lst (List.replicate n.toNat a).flatten) st) post
    exact .inr ⟨p, n, vs, rfl, rfl, hp, h.1, h.2.1, by rw [hl.len]; exact sz h.2.2, fun r hr => post.newL k (hl.rep _) hr⟩
def oDiv : D → D → Sto → ER
  | .int i, .int j, st => if j ≠ 0 ∧ j.natAbs.log2 < 9000 then .val .P (.int (i.fdiv j)) st else .bad
  | _, _, _ => .bad
theorem or_div {X : Cx} : OpR X (binaryOp .FloorDiv) (rI (fun _ j => j ≠ 0 ∧ j.natAbs.log2 < 9000) fun i j => .int (i.fdiv j)) := opI fun i j _ _ _ _ _ hc q => floordiv_int hc.1 q (.inl (PyProof.noPylong_of_log2 hc.2))
theorem d_div : DOp G (rI (fun _ j => j ≠ 0 ∧ j.natAbs.log2 < 9000) fun i j => .int (i.fdiv j)) oDiv := by
  intro W σ s st v w d d' k hv hw Q post
  cases d <;> cases d' <;> try exact post.elim
  rename_i i j
  obtain rfl := hv.int; obtain rfl := hw.int
  obtain ⟨h, post⟩ := RPost.cond (j ≠ 0 ∧ j.natAbs.log2 < 9000) (.val .P (.int (i.fdiv j)) st) post
  exact ⟨_, _, rfl, rfl, h, post.now k (.int _)⟩
def oMod : D → D → Sto → ER
  | .int i, .int j, st => if j ≠ 0 then .val .P (.int (i.fmod j)) st else .bad
  | _, _, _ => .bad
theorem d_mod : DOp G (rI (fun _ j => j ≠ 0) fun i j => .int (i.fmod j)) oMod := by
  intro W σ s st v w d d' k hv hw Q post
  cases d <;> cases d' <;> try exact post.elim
  rename_i i j
  obtain rfl := hv.int; obtain rfl := hw.int
  obtain ⟨h, post⟩ := RPost.cond (j ≠ 0) (.val .P (.int (i.fmod j)) st) post
  exact ⟨_, _, rfl, rfl, h, post.now k (.int _)⟩
def oPow : D → D → Sto → ER
  | .int i, .int j, st => if 0 ≤ j ∧ j ≤ 1000000 ∧ i.natAbs < 2 ^ 64 then .val .P (.int (i ^ j.toNat)) st else .bad
  | _, _, _ => .bad
theorem d_pow : DOp G (rI CPow fun i j => .int (i ^ j.toNat)) oPow := by
  intro W σ s st v w d d' k hv hw Q post
  cases d <;> cases d' <;> try exact post.elim
  rename_i i j
  obtain rfl := hv.int; obtain rfl := hw.int
  obtain ⟨h, post⟩ := RPost.cond (0 ≤ j ∧ j ≤ 1000000 ∧ i.natAbs < 2 ^ 64) (.val .P (.int (i ^ j.toNat)) st) post
  exact ⟨_, _, rfl, rfl, h, post.now k (.int _)⟩
def oCmp (p : Int → Int → Bool) : D → D → Sto → ER
  | .int i, .int j, st => .val .P (.bl (p i j)) st
  | _, _, _ => .bad
theorem d_cmp {p : Int → Int → Bool} : DOp G (rI0 fun i j => .bl (p i j)) (oCmp p) := by
  intro W σ s st v w d d' k hv hw Q post
  cases d <;> cases d' <;> try exact post.elim
  obtain rfl := hv.int; obtain rfl := hw.int
  exact ⟨_, _, rfl, rfl, post.now k (.bl _)⟩
abbrev oLt := oCmp fun i j => decide (i < j)
abbrev oGt := oCmp fun i j => decide (j < i)
theorem d_lt : DOp G (rI0 fun i j => .bl (decide (i < j))) oLt := d_cmp
theorem d_gt : DOp G (rI0 fun i j => .bl (decide (j < i))) oGt := d_cmp
def isNon : D → Bool
  | .non => true
  | _ => false
def oIsN (a b : D) (st : Sto) : ER := match b with
  | .non => .val .P (.bl (isNon a)) st
  | _ => .bad
def oNotN (a b : D) (st : Sto) : ER := match b with
  | .non => .val .P (.bl (!isNon a)) st
  | _ => .bad
mutual
def py : D → PyData
  | .non => .none
  | .bl b => .bool b
  | .int i => .int i
  | .str x => .str x
  | .tup l => .tuple (pyL l)
  | .lst l => .list (pyL l)
  | .obj _ _ => .none
  | .scr _ => .none
  | .ptr _ => .none
def pyL : List D → List PyData
  | [] => []
  | d :: l => py d :: pyL l
end
mutual
def isPy : D → Bool
  | .non | .bl _ | .int _ | .str _ => true
  | .tup l => isPyL l
  | .lst l => isPyL l
  | .obj _ _ => false
  | .scr _ => false
  | .ptr _ => false
def isPyL : List D → Bool
  | [] => true
  | d :: l => isPy d && isPyL l
end
mutual
theorem dp_of {as : List Addr} {f H : Hp} (s : Same f H) : ∀ (d : D) {v : V}, isPy d = true → Is G as f v d → Dp G.K H v (py d)
  | .non, _, _, h => by cases h; exact .non
  | .bl _, _, _, h => by cases h; exact .bl _
  | .int _, _, _, h => by cases h; exact .int _
  | .str _, _, _, h => by cases h; exact .str _
  | .tup l, _, q, h => by cases h with | tup a b => exact .tup (same_t s a) (dpL_of s l (by simpa [isPy] using q) b)
  | .lst l, _, q, h => by cases h with | lst a b => exact .lst (SqL.of (s _ _ a)) (dpL_of s l (by simpa [isPy] using q) b)
  | .obj _ _, _, q, _ => by simp [isPy] at q
  | .scr _, _, q, _ => by simp [isPy] at q
  | .ptr _, _, q, _ => by simp [isPy] at q
theorem dpL_of {as : List Addr} {f H : Hp} (s : Same f H) : ∀ (l : List D) {vs : List V}, isPyL l = true → IsL G as f vs l → DpAll G.K H vs (pyL l)
  | [], _, _, h => by cases h; exact .nil
  | d :: l, _, q, h => by
    cases h with
    | cons a b =>
      have q' : isPy d = true ∧ isPyL l = true := by simpa [isPyL] using q
      exact .cons (dp_of s d q'.1 a) (dpL_of s l q'.2 b)
end
theorem dp_u {s : Hs} {v : V} {d : D} (sm : Same s.f s.h) (q : isPy d = true) (h : U G s v d) : Dp G.K s.h v (py d) := by
  rcases h with h | ⟨p, vs, l, rfl, rfl, c, e, _⟩
  · exact dp_of sm d q h
  · exact .lst (SqL.of c) (dpL_of sm l (by simpa [isPy] using q) e)
def scalD : D → D → Bool
  | .non, .non | .non, .int _ | .int _, .non | .non, .bl _ | .bl _, .non | .non, .str _ | .str _, .non => true
  | .int _, .int _ | .bl _, .bl _ | .str _, .str _ | .int _, .str _ | .str _, .int _ | .bl _, .str _ | .str _, .bl _ => true
  | _, _ => false
def eqF : D → D → Bool
  | .non, .non => true
  | .int i, .int j => decide (i = j)
  | .bl i, .bl j => decide (i = j)
  | .str i, .str j => decide (i = j)
  | _, _ => false
def eqAny (a b : D) : Option Bool :=
  if scalD a b = true then some (eqF a b)
  else if isPy a = true ∧ isPy b = true ∧ SeqAt.shaped (py a) = true ∧ SeqAt.shaped (py b) = true then some (PyData.eqv (py a) (py b))
  else none
def oEq (a b : D) (st : Sto) : ER := match eqAny a b with | some r => .val .P (.bl r) st | none => .bad
def oNe (a b : D) (st : Sto) : ER := match eqAny a b with | some r => .val .P (.bl (!r)) st | none => .bad
abbrev rEqA (K : PySem.W.Frag) : R2 := rOr rEq (rEqD K)
abbrev rNeA (K : PySem.W.Frag) : R2 := rOr rNe (rNeD K)
theorem or_eq {X : Cx} (hu : X.A.units + 64 < cLine) : OpR X (compareOp .Eq) (rEqA X.K) := opOr op_eq (op_eqD hu)
theorem or_ne {X : Cx} (hu : X.A.units + 64 < cLine) : OpR X (compareOp .NotEq) (rNeA X.K) := opOr op_ne (op_neD hu)
theorem scal_of {s : Hs} {v w : V} {a b : D} (h : scalD a b = true) (hv : U G s v a) (hw : U G s w b) : scal v w = true ∧ decide (v = w) = eqF a b := by
  cases a <;> cases b <;> simp only [scalD] at h <;> first
    | (exact absurd h Bool.false_ne_true)
    | skip
  all_goals (first | obtain rfl := hv.int | obtain rfl := hv.str | obtain rfl := hv.bl | obtain rfl := hv.non)
  all_goals (first | obtain rfl := hw.int | obtain rfl := hw.str | obtain rfl := hw.bl | obtain rfl := hw.non)
  all_goals (refine ⟨rfl, ?_⟩; simp [eqF])
theorem d_eq : DOp G (rEqA G.K) oEq := by
  intro W σ s st v w d d' k hv hw Q post
  unfold oEq eqAny at post
  by_cases h : scalD d d' = true
  · obtain ⟨h1, h2⟩ := scal_of h hv hw
    rw [if_pos h] at post
    exact .inl ⟨h1, by rw [h2]; exact RPost.now k post (.bl _)⟩
  · rw [if_neg h] at post
    split at post
    · rename_i r hr
      split at hr
      · rename_i q
        cases hr
        exact .inr ⟨py d, py d', dp_u k.sf q.1 hv, dp_u k.sf q.2.1 hw, q.2.2.1, q.2.2.2, post.now k (.bl _)⟩
      · cases hr
    · exact post.elim
theorem d_ne : DOp G (rNeA G.K) oNe := by
  intro W σ s st v w d d' k hv hw Q post
  unfold oNe eqAny at post
  by_cases h : scalD d d' = true
  · obtain ⟨h1, h2⟩ := scal_of h hv hw
    rw [if_pos h] at post
    exact .inl ⟨h1, by rw [h2]; exact RPost.now k post (.bl _)⟩
  · rw [if_neg h] at post
    split at post
    · rename_i r hr
      split at hr
      · rename_i q
        cases hr
        exact .inr ⟨py d, py d', dp_u k.sf q.1 hv, dp_u k.sf q.2.1 hw, q.2.2.1, q.2.2.2, post.now k (.bl _)⟩
      · cases hr
    · exact post.elim
def stLst (st : Sto) (n : Nat) : Option (List D) := match st[n]? with
  | some (.lst l) => some l
  | _ => none
theorem StOk.lst {s : Hs} {st : Sto} {n : Nat} {l : List D} {p : Addr} (k : StOk G s st) (ha : s.as[n]? = some p) (h : stLst st n = some l) : ∃ vs, s.h p = some (.lst vs) ∧ IsL G s.as s.f vs l := by
  unfold stLst at h
  split at h
  · rename_i l' q
    cases h
    exact k.ob n p _ ha q
  · cases h
def oIx : D → D → Sto → ER
  | .lst l, .int i, st => ofOpt (atI l i) fun d => .val .P d st
  | .tup l, .int i, st => ofOpt (atI l i) fun d => .val .P d st
  | .scr l, .int i, st => ofOpt (atI l i) fun d => .val .P (.int d) st
  | .str z, .int i, st => if z.length ≤ 1000000 then ofOpt (atI z.cps.toList i) (fun c => .val .P (.str ⟨#[c]⟩) st) else .bad
  | .ptr n, .int i, st => ofOpt (stLst st n) fun l => ofOpt (atI l i) fun d => .val .P d st
  | _, _, _ => .bad
theorem atI_L {as : List Addr} {H : Hp} {vs : List V} {l : List D} {i : Int} {d : D} (h : IsL G as H vs l) (e : atI l i = some d) : ∃ v, atI vs i = some v ∧ Is G as H v d := by
  unfold atI at e ⊢
  rw [h.len]
  cases q : ixN l.length i with
  | none => rw [q] at e; cases e
  | some j =>
    rw [q] at e
    exact h.get e
theorem atI_map {l : List Int} {i : Int} {d : Int} (e : atI l i = some d) : atI (l.map V.int) i = some (V.int d) := by
  unfold atI at e ⊢
  rw [List.length_map]
  cases q : ixN l.length i with
  | none => rw [q] at e; cases e
  | some j =>
    rw [q] at e
    have e' : l[j]? = some d := e
    show (l.map V.int)[j]? = some (V.int d)
    rw [List.getElem?_map, e']
    rfl
theorem d_ix : DOp G (rIx G.K) oIx := by
  intro W σ s st v w d d' k hv hw Q post
  cases d <;> cases d' <;> try exact post.elim
  case lst.int l i =>
    obtain ⟨p, vs, rfl, hp, hl⟩ := hv.lst k.sf
    obtain rfl := hw.int
    obtain ⟨y, q, post⟩ := RPost.opt (atI l i) (fun d => .val .P d st) post
    obtain ⟨x, h1, h2⟩ := atI_L hl q
    exact .inl ⟨p, vs, i, x, rfl, rfl, SqL.of hp, h1, post.now k h2⟩
  case ptr.int n i =>
    obtain ⟨p, rfl, hp⟩ := hv.ptr
    obtain rfl := hw.int
    obtain ⟨l, ql, post⟩ := RPost.opt (stLst st n) (fun l => ofOpt (atI l i) fun d => .val .P d st) post
    obtain ⟨y, q, post⟩ := RPost.opt (atI l i) (fun d => .val .P d st) post
    obtain ⟨vs, hh, hl⟩ := k.lst hp ql
    obtain ⟨x, h1, h2⟩ := atI_L hl q
    exact .inl ⟨p, vs, i, x, rfl, rfl, SqL.of hh, h1, post.now k h2⟩
  case tup.int l i =>
    obtain ⟨p, vs, rfl, hp, hl⟩ := hv.tup k.sf
    obtain rfl := hw.int
    obtain ⟨y, q, post⟩ := RPost.opt (atI l i) (fun d => .val .P d st) post
    obtain ⟨x, h1, h2⟩ := atI_L hl q
    exact .inr (.inl ⟨p, vs, i, x, rfl, rfl, hp, h1, post.now k h2⟩)
  case scr.int l i =>
    obtain ⟨p, rfl, hp⟩ := hv.scr k.sf
    obtain rfl := hw.int
    obtain ⟨y, q, post⟩ := RPost.opt (atI l i) (fun d => .val .P (.int d) st) post
    exact .inl ⟨p, _, i, _, rfl, rfl, hp, atI_map q, post.now k (.int _)⟩
  case str.int z i =>
    obtain rfl := hv.str; obtain rfl := hw.int
    obtain ⟨h, post⟩ := RPost.cond (z.length ≤ 1000000) (ofOpt (atI z.cps.toList i) (fun c => .val .P (.str ⟨#[c]⟩) st)) post
    obtain ⟨c, q, post⟩ := RPost.opt (atI z.cps.toList i) (fun c => .val .P (.str ⟨#[c]⟩) st) post
    exact .inr (.inr ⟨z, i, c, rfl, rfl, sz h, q, post.now k (.str _)⟩)
end
section
variable {G : Gm} {W : WX}
def dVar (i : Nat) : En → ER := fun E => match E.e[i]? with
  | some (.val d) => .val .P d E.st
  | some (.own l) => .val .B (.lst l) E.st
  | _ => .bad
theorem v_var {i : Nat} : DEv G W (tVar i) (dVar i) := by
  intro s t σ e st E k Q post
  unfold dVar at post
  split at post
  · rename_i d q
    obtain ⟨o, h1, v, rfl, h2⟩ := E.slot q
    exact ⟨v, h1, post.now k h2⟩
  · rename_i l q
    obtain ⟨o, h1, p, vs, rfl, a, b, c, d, f⟩ := E.slot q
    exact ⟨_, h1, post t _ (Gro.refl k) k ⟨p, vs, l, rfl, rfl, c, d, f⟩⟩
  · exact post.elim
def dC (d : D) : En → ER := fun E => .val .P d E.st
theorem v_int {n : Int} : DEv G W (tC (.int n)) (dC (.int n)) := fun _ _ _ _ _ _ k _ post => RPost.now k post (.int _)
theorem v_bl {n : Bool} : DEv G W (tC (.bl n)) (dC (.bl n)) := fun _ _ _ _ _ _ k _ post => RPost.now k post (.bl _)
theorem v_const {v : V} {d : D} (h : ∀ as H, Is G as H v d) : DEv G W (tC v) (dC d) := fun _ _ _ _ _ _ k _ post => RPost.now k post (h _ _)
def dOp (o : D → D → Sto → ER) (f g : En → ER) : En → ER := fun E => (f E).bind fun x st => (g ⟨E.e, st⟩).bind fun y st => o x y st
theorem v_op {r : R2} {o : D → D → Sto → ER} {ta tb : TE} {f g : En → ER} (hr : DOp G r o) (ha : DEv G W ta f) (hb : DEv G W tb g) : DEv G W (tOp r ta tb) (dOp o f g) := by
  intro s t σ e st E k Q post
  refine ha s t σ e st E k _ (RPost.bind post fun m d st1 t1 v g1 k1 o1 p1 => ?_)
  refine hb s t1 σ e st1 (E.up g1) k1 _ (RPost.bind p1 fun m2 d2 st2 t2 w g2 k2 o2 p2 => ?_)
  exact hr W σ t2 st2 v w d d2 k2 ((o1.up g2).u) o2.u Q p2
def DUn (G : Gm) (r : V → Hp → VK → Prop) (o : D → Sto → ER) : Prop :=
  ∀ (W : WX) (σ : L2.St) (s : Hs) (st : Sto) (v : V) (d : D), StOk G s st → U G s v d → ∀ Q : VK, RPost G W s σ Q (o d st) → r v s.h Q
def dUn (o : D → Sto → ER) (f : En → ER) : En → ER := fun E => (f E).bind o
theorem v_un {r : V → Hp → VK → Prop} {o : D → Sto → ER} {ta : TE} {f : En → ER} (hr : DUn G r o) (ha : DEv G W ta f) : DEv G W (tUn r ta) (dUn o f) := by
  intro s t σ e st E k Q post
  refine ha s t σ e st E k _ (RPost.bind post fun m d st1 t1 v g1 k1 o1 p1 => ?_)
  exact hr W σ t1 st1 v d k1 o1.u Q p1
def oNeg : D → Sto → ER
  | .int i, st => .val .P (.int (-i)) st
  | _, _ => .bad
theorem d_neg : DUn G (rU fun i => .int (-i)) oNeg := by
  intro W σ s st v d k hv Q post
  cases d <;> try exact post.elim
  obtain rfl := hv.int
  exact ⟨_, rfl, post.now k (.int _)⟩
def TPost (G : Gm) (W : WX) (s : Hs) (σ : L2.St) (Q : Bool → Hp → Prop) : ER → Prop
  | .val _ (.bl b) st => ∀ t, Gro s t → StOk G t st → Q b t.h
  | .exc c l st => ∀ t x, Gro s t → StOk G t st → ExcOk G t c l x → W (.ref (G.ca c)) x σ t.h
  | _ => False
def DTt (G : Gm) (W : WX) (tt : TT) (f : En → ER) : Prop :=
  ∀ s t σ e st, EnvOk G s t σ e → StOk G t st → ∀ Q : Bool → Hp → Prop, TPost G W t σ Q (f ⟨e, st⟩) → tt σ t.h Q
theorem TPost.step {s t : Hs} {σ : L2.St} {Q : Bool → Hp → Prop} {r : ER} (g : Gro s t) (h : TPost G W s σ Q r) : TPost G W t σ Q r := by
  cases r with
  | val m d st =>
    cases d <;> first | exact h.elim | skip
    exact fun u g' => h u (g.trans g')
  | exc c l st => exact fun u x g' => h u x (g.trans g')
  | bad => exact h
def ER.bindB (r : ER) (k : Bool → Sto → ER) : ER := match r with
  | .val _ (.bl b) st => k b st
  | .exc c l st => .exc c l st
  | _ => .bad
@[simp] theorem ER.bindB_val (m : Md) (b : Bool) (st : Sto) (k : Bool → Sto → ER) : (ER.val m (.bl b) st).bindB k = k b st := rfl
@[simp] theorem ER.bindB_exc (c : Nat) (l : List D) (st : Sto) (k : Bool → Sto → ER) : (ER.exc c l st).bindB k = .exc c l st := rfl
@[simp] theorem ER.bindB_bad (k : Bool → Sto → ER) : ER.bad.bindB k = .bad := rfl
theorem t_val {te : TE} {f : En → ER} (h : DEv G W te f) : DTt G W (tB te) f := by
  intro s t σ e st E k Q post
  refine h s t σ e st E k _ ?_
  cases q : f ⟨e, st⟩ with
  | val m d st' =>
    rw [q] at post
    intro t' v g k' o
    cases d <;> first | exact post.elim | skip
    obtain rfl := o.u.bl
    exact ⟨_, rfl, post t' g k'⟩
  | exc c l st' => rw [q] at post; exact post
  | bad => rw [q] at post; exact post
theorem t_test {te : TE} {f : En → ER} (h : DEv G W te f) : DTt G W (tTest te) f := t_val h
theorem TPost.bindB {s : Hs} {σ : L2.St} {Q Q' : Bool → Hp → Prop} {r : ER} {k : Bool → Sto → ER} (h : TPost G W s σ Q (r.bindB k)) (hk : ∀ b st t, Gro s t → StOk G t st → TPost G W t σ Q (k b st) → Q' b t.h) : TPost G W s σ Q' r := by
  cases r with
  | val m d st =>
    cases d <;> first | exact h.elim | skip
    exact fun t g k' => hk _ st t g k' (TPost.step g h)
  | exc c l st => exact h
  | bad => exact h
def dAnd (f g : En → ER) : En → ER := fun E => (f E).bindB fun b st => if b = true then g ⟨E.e, st⟩ else .val .P (.bl false) st
def dOr (f g : En → ER) : En → ER := fun E => (f E).bindB fun b st => if b = true then .val .P (.bl true) st else g ⟨E.e, st⟩
def dNot (f : En → ER) : En → ER := fun E => (f E).bindB fun b st => .val .P (.bl (!b)) st
theorem TPost.of {s : Hs} {st : Sto} {σ : L2.St} {Q : Bool → Hp → Prop} {b : Bool} (k : StOk G s st) (h : TPost G W s σ Q (.val .P (.bl b) st)) : Q b s.h := h s (Gro.refl k) k
theorem t_and {t u : TT} {f g : En → ER} (ht : DTt G W t f) (hu : DTt G W u g) : DTt G W (tAnd t u) (dAnd f g) := by
  intro s t σ e st E k Q post
  refine ht s t σ e st E k _ (TPost.bindB post fun b st1 t1 g1 k1 p1 => ?_)
  cases b with
  | true => exact iteT (hu s t1 σ e st1 (E.up g1) k1 Q p1)
  | false => exact iteF (TPost.of k1 p1)
theorem t_or {t u : TT} {f g : En → ER} (ht : DTt G W t f) (hu : DTt G W u g) : DTt G W (tOr t u) (dOr f g) := by
  intro s t σ e st E k Q post
  refine ht s t σ e st E k _ (TPost.bindB post fun b st1 t1 g1 k1 p1 => ?_)
  cases b with
  | false => exact iteF (hu s t1 σ e st1 (E.up g1) k1 Q p1)
  | true => exact iteT (TPost.of k1 p1)
theorem t_not {t : TT} {f : En → ER} (ht : DTt G W t f) : DTt G W (tNot t) (dNot f) := by
  intro s t σ e st E k Q post
  exact ht s t σ e st E k _ (TPost.bindB post fun b st1 t1 g1 k1 p1 => TPost.of k1 p1)
theorem RPost.bindB {s : Hs} {σ : L2.St} {Q Q' : VK} {r : ER} {k : Bool → Sto → ER} (h : RPost G W s σ Q (r.bindB k))
    (hk : ∀ b st t, Gro s t → StOk G t st → RPost G W t σ Q (k b st) → Q' (.bl b) t.h) : RPost G W s σ Q' r := by
  cases r with
  | val m d st =>
    cases d <;> first | exact h.elim | skip
    intro t v g k' o
    obtain rfl := o.u.bl
    exact hk _ st t g k' (RPost.step g k' h)
  | exc c l st => exact h
  | bad => exact h
theorem v_and {ta tb : TE} {f g : En → ER} (ha : DEv G W ta f) (hb : DEv G W tb g) : DEv G W (tAndV ta tb) (dAnd f g) := by
  intro s t σ e st E k Q post
  refine ha s t σ e st E k _ (RPost.bindB post fun b st1 t1 g1 k1 p1 => ?_)
  cases b with
  | true => exact ⟨true, rfl, iteT (hb s t1 σ e st1 (E.up g1) k1 Q p1)⟩
  | false => exact ⟨false, rfl, iteF (RPost.now k1 p1 (.bl _))⟩
theorem v_not {ta : TE} {f : En → ER} (ha : DEv G W ta f) : DEv G W (tNotV ta) (dNot f) := by
  intro s t σ e st E k Q post
  exact ha s t σ e st E k _ (RPost.bindB post fun b st1 t1 g1 k1 p1 => ⟨b, rfl, RPost.now k1 p1 (.bl _)⟩)
def dIf (c f g : En → ER) : En → ER := fun E => (c E).bindB fun b st => if b = true then f ⟨E.e, st⟩ else g ⟨E.e, st⟩
def dChain (o o' : D → D → Sto → ER) (f g h : En → ER) : En → ER := fun E => (f E).bind fun x st => (g ⟨E.e, st⟩).bind fun y st => (o x y st).bindB fun b st => if b = true then (h ⟨E.e, st⟩).bind fun z st => o' y z st else .val .P (.bl false) st
end
end Dn
namespace Dn
open PySem PySem.Spec PyProof.Rows L2
inductive UL (G : Gm) (s : Hs) : List V → List D → Prop
  | nil : UL G s [] []
  | cons {v : V} {vs : List V} {d : D} {ds : List D} : U G s v d → UL G s vs ds → UL G s (v :: vs) (d :: ds)
theorem UL.len {G : Gm} {s : Hs} : ∀ {ds : List D} {vs : List V}, UL G s vs ds → vs.length = ds.length
  | [], _, h => by cases h; rfl
  | d :: ds, _, h => by cases h with | cons a b => exact congrArg Nat.succ b.len
theorem UL.up {G : Gm} {s t : Hs} (g : Gro s t) : ∀ {ds : List D} {vs : List V}, UL G s vs ds → UL G t vs ds
  | [], _, h => by cases h; exact .nil
  | d :: ds, _, h => by cases h with | cons a b => exact .cons (a.up g) (UL.up g b)
inductive AR where | ok (p : Bool) (l : List D) (st : Sto) | exc (c : Nat) (l : List D) (st : Sto) | bad
def APost (G : Gm) (W : WX) (s : Hs) (σ : L2.St) (Q : List V → Hp → Prop) : AR → Prop
  | .ok p l st => ∀ t vs, Gro s t → StOk G t st → (p = true → IsL G t.as t.f vs l) → UL G t vs l → Q vs t.h
  | .exc c l st => ∀ t x, Gro s t → StOk G t st → ExcOk G t c l x → W (.ref (G.ca c)) x σ t.h
  | .bad => False
theorem APost.step {G : Gm} {W : WX} {s t : Hs} {σ : L2.St} {Q : List V → Hp → Prop} {r : AR} (g : Gro s t) (h : APost G W s σ Q r) : APost G W t σ Q r := by
  cases r with
  | ok p l st => exact fun u v g' => h u v (g.trans g')
  | exc c l st => exact fun u x g' => h u x (g.trans g')
  | bad => exact h
def AR.cons (p : Bool) (d : D) : AR → AR
  | .ok q l st => .ok (p && q) (d :: l) st
  | .exc c l st => .exc c l st
  | .bad => .bad
def ER.cons (r : ER) (a : Sto → AR) : AR := match r with
  | .val .B d st => (a st).cons false d
  | .val .P d st => (a st).cons true d
  | .val .N d st => (a st).cons true d
  | .exc c l st => .exc c l st
  | .bad => .bad
def DAr (G : Gm) (W : WX) (ta : TA) (f : En → AR) : Prop :=
  ∀ s t σ e st, EnvOk G s t σ e → StOk G t st → ∀ Q : List V → Hp → Prop, APost G W t σ Q (f ⟨e, st⟩) → ta σ t.h Q
section
variable {G : Gm} {W : WX}
def aNil : En → AR := fun E => .ok true [] E.st
theorem a_nil : DAr G W tNil aNil := fun _ t _ _ _ _ k _ post => post t [] (Gro.refl k) k (fun _ => .nil) .nil
def aCons (f : En → ER) (g : En → AR) : En → AR := fun E => (f E).cons fun st => g ⟨E.e, st⟩
theorem APost.consP {s : Hs} {σ : L2.St} {Q : List V → Hp → Prop} {d : D} {v : V} {a : AR} (h : APost G W s σ Q (a.cons true d)) (hv : Is G s.as s.f v d) : APost G W s σ (fun xs H2 => Q (v :: xs) H2) a := by
  cases a with
  | ok p l st => exact fun t vs g k q u => h t (v :: vs) g k (fun z => .cons (hv.up g.a g.f) (q (by simpa using z))) (.cons (.inl (hv.up g.a g.f)) u)
  | exc c l st => exact h
  | bad => exact h
theorem APost.consB {s : Hs} {σ : L2.St} {Q : List V → Hp → Prop} {d : D} {v : V} {a : AR} (h : APost G W s σ Q (a.cons false d)) (hv : U G s v d) : APost G W s σ (fun xs H2 => Q (v :: xs) H2) a := by
  cases a with
  | ok p l st => exact fun t vs g k q u => h t (v :: vs) g k (fun z => by simp at z) (.cons (hv.up g) u)
  | exc c l st => exact h
  | bad => exact h
theorem a_cons {te : TE} {tr : TA} {f : En → ER} {g : En → AR} (ha : DEv G W te f) (hr : DAr G W tr g) : DAr G W (tCons te tr) (aCons f g) := by
  intro s t σ e st E k Q post
  refine ha s t σ e st E k _ ?_
  unfold aCons at post
  cases q : f ⟨e, st⟩ with
  | val m d st1 =>
    rw [q] at post
    intro t1 v g1 k1 o1
    cases m with
    | P => exact hr s t1 σ e st1 (E.up g1) k1 _ (APost.consP (APost.step g1 post) o1)
    | B => exact hr s t1 σ e st1 (E.up g1) k1 _ (APost.consB (APost.step g1 post) o1.u)
    | N =>
      obtain ⟨f2, g2, k2, _, i2⟩ := o1.freeze g1 k1 (by decide)
      exact hr s ⟨t1.as, f2, t1.h⟩ σ e st1 (E.up g2) k2 _ (APost.consP (APost.step g2 post) i2)
  | exc c l st1 => rw [q] at post; exact post
  | bad => rw [q] at post; exact post
def dTup (f : En → AR) : En → ER := fun E => match f E with
  | .ok true l st => if l.length ≤ 1000000 then .val .P (.tup l) st else .bad
  | .exc c l st => .exc c l st
  | _ => .bad
theorem v_tup {ta : TA} {f : En → AR} (h : DAr G W ta f) : DEv G W (tTup ta) (dTup f) := by
  intro s t σ e st E k Q post
  refine h s t σ e st E k _ ?_
  unfold dTup at post
  cases q : f ⟨e, st⟩ with
  | ok p l st1 =>
    rw [q] at post
    cases p with
    | false => exact post.elim
    | true =>
      obtain ⟨c, post⟩ := RPost.cond _ _ post
      exact fun t1 vs g1 k1 i1 u1 => ⟨by rw [u1.len]; exact sz c, fun p hp => (RPost.step g1 k1 post).newT k1 (i1 rfl) hp⟩
  | exc c l st1 => rw [q] at post; exact post
  | bad => rw [q] at post; exact post
def dLst (f : En → AR) : En → ER := fun E => match f E with
  | .ok true l st => if l.length ≤ 1000000 then .val .N (.lst l) st else .bad
  | .exc c l st => .exc c l st
  | _ => .bad
theorem v_lst {ta : TA} {f : En → AR} (h : DAr G W ta f) : DEv G W (tLst ta) (dLst f) := by
  intro s t σ e st E k Q post
  refine h s t σ e st E k _ ?_
  unfold dLst at post
  cases q : f ⟨e, st⟩ with
  | ok p l st1 =>
    rw [q] at post
    cases p with
    | false => exact post.elim
    | true =>
      obtain ⟨c, post⟩ := RPost.cond _ _ post
      exact fun t1 vs g1 k1 i1 u1 => ⟨by rw [u1.len]; exact sz c, fun p hp => (RPost.step g1 k1 post).newL k1 (i1 rfl) hp⟩
  | exc c l st1 => rw [q] at post; exact post
  | bad => rw [q] at post; exact post
def dPut (f : En → ER) : En → ER := fun E => match f E with
  | .val .N (.lst l) st => .val .P (.ptr st.length) (st ++ [.lst l])
  | .exc c l st => .exc c l st
  | _ => .bad
theorem v_put {te : TE} {f : En → ER} (h : DEv G W te f) : DEv G W te (dPut f) := by
  intro s t σ e st E k Q post
  refine h s t σ e st E k _ ?_
  unfold dPut at post
  cases q : f ⟨e, st⟩ with
  | val m d st1 =>
    rw [q] at post
    cases m with
    | P => cases d <;> exact post.elim
    | B => cases d <;> exact post.elim
    | N =>
      intro t1 v g1 k1 o1
      obtain ⟨p, vs, l, rfl, rfl, a, b, c, n, z⟩ := o1
      have k2 : StOk G ⟨t1.as ++ [p], t1.f, t1.h⟩ (st1 ++ [.lst l]) := k1.put z c ⟨vs, a, b.up (Ext.app _ _) (Same.refl _)⟩
      refine post ⟨t1.as ++ [p], t1.f, t1.h⟩ _ (g1.put k1 n z) k2 (.ptr ?_)
      show (t1.as ++ [p])[st1.length]? = some p
      rw [← k1.len, List.getElem?_append_right (Nat.le_refl _)]
      simp
  | exc c l st1 => rw [q] at post; exact post
  | bad => rw [q] at post; exact post
def spF (G : Gm) (F : List D → Sto → ER) : Sp := fun vs H Q E => ∃ (s : Hs) (ds : List D) (st : Sto), s.h = H ∧ StOk G s st ∧ IsL G s.as s.f vs ds ∧ RPost G (fun c x _ H' => E c x H') s [] Q (F ds st)
def dCall (F : List D → Sto → ER) (f : En → AR) : En → ER := fun E => match f E with
  | .ok true l st => F l st
  | .exc c l st => .exc c l st
  | _ => .bad
theorem RPost.w {W' : WX} {s : Hs} {σ σ' : L2.St} {Q : VK} {r : ER} (h : RPost G W s σ Q r) (hw : ∀ c x H', W c x σ H' → W' c x σ' H') : RPost G W' s σ' Q r := by
  cases r with
  | val m d st => exact h
  | exc c l st => exact fun t x g k o => hw _ _ _ (h t x g k o)
  | bad => exact h
theorem v_call {F : List D → Sto → ER} {ta : TA} {f : En → AR} (ha : DAr G W ta f) : DEv G W (tCallS (spF G F) (WE W) ta) (dCall F f) := by
  intro s t σ e st E k Q post
  refine ha s t σ e st E k _ ?_
  unfold dCall at post
  cases q : f ⟨e, st⟩ with
  | ok p l st1 =>
    rw [q] at post
    cases p with
    | true => exact fun t1 vs g1 k1 i1 u1 => ⟨t1, l, st1, rfl, k1, i1 rfl, (RPost.step g1 k1 post).w (fun c x H' h => h)⟩
    | false => exact post.elim
  | exc c l st1 => rw [q] at post; exact post
  | bad => rw [q] at post; exact post
def DCal (G : Gm) (r : List V → Hp → VK → Prop) (o : List D → Sto → ER) : Prop :=
  ∀ (W : WX) (σ : L2.St) (s : Hs) (st : Sto) (vs : List V) (ds : List D), StOk G s st → UL G s vs ds → ∀ Q : VK, RPost G W s σ Q (o ds st) → r vs s.h Q
def dCB (o : List D → Sto → ER) (f : En → AR) : En → ER := fun E => match f E with
  | .ok _ l st => o l st
  | .exc c l st => .exc c l st
  | .bad => .bad
theorem v_cb {r : List V → Hp → VK → Prop} {o : List D → Sto → ER} {ta : TA} {f : En → AR} (hr : DCal G r o) (ha : DAr G W ta f) : DEv G W (tCB r ta) (dCB o f) := by
  intro s t σ e st E k Q post
  refine ha s t σ e st E k _ ?_
  unfold dCB at post
  cases q : f ⟨e, st⟩ with
  | ok p l st1 => rw [q] at post; exact fun t1 vs g1 k1 i1 u1 => hr W σ t1 st1 vs l k1 u1 Q (RPost.step g1 k1 post)
  | exc c l st1 => rw [q] at post; exact post
  | bad => rw [q] at post; exact post
theorem UL.one {s : Hs} {vs : List V} {d : D} (h : UL G s vs [d]) : ∃ v, vs = [v] ∧ U G s v d := by
  cases h with | cons a b => cases b; exact ⟨_, rfl, a⟩
theorem UL.two {s : Hs} {vs : List V} {d e : D} (h : UL G s vs [d, e]) : ∃ v w, vs = [v, w] ∧ U G s v d ∧ U G s w e := by
  cases h with | cons a b => cases b with | cons c d => cases d; exact ⟨_, _, rfl, a, c⟩
theorem DCal.one1 {r : List V → Hp → VK → Prop} {o : List D → Sto → ER} (h0 : ∀ st, o [] st = .bad) (h2 : ∀ a b l st, o (a :: b :: l) st = .bad)
    (h : ∀ (W : WX) (σ : L2.St) (s : Hs) (st : Sto) (v : V) (d : D), StOk G s st → U G s v d → ∀ Q : VK, RPost G W s σ Q (o [d] st) → r [v] s.h Q) : DCal G r o := by
  intro W σ s st vs ds k hv Q post
  match ds, hv, post with
  | [], _, post => rw [h0] at post; exact post.elim
  | [d], hv, post => obtain ⟨v, rfl, hv1⟩ := hv.one; exact h W σ s st v d k hv1 Q post
  | a :: b :: l, _, post => rw [h2] at post; exact post.elim
def oAbs : List D → Sto → ER
  | [.int i], st => .val .P (.int (if i < 0 then -i else i)) st
  | _, _ => .bad
theorem c_abs : DCal G (fun xs H Q => ∃ i, xs = [.int i] ∧ Q (.int (if i < 0 then -i else i)) H) oAbs := by
  refine DCal.one1 (fun _ => rfl) (fun a b l _ => by cases a <;> rfl) fun W σ s st v d k hv Q post => ?_
  cases d <;> try exact post.elim
  obtain rfl := hv.int
  exact ⟨_, rfl, post.now k (.int _)⟩
def oLen : List D → Sto → ER
  | [.lst l], st => .val .P (.int l.length) st
  | [.tup l], st => .val .P (.int l.length) st
  | [.scr l], st => .val .P (.int l.length) st
  | [.ptr n], st => ofOpt (stLst st n) fun l => .val .P (.int l.length) st
  | [.str z], st => if z.length ≤ 1000000 then .val .P (.int z.length) st else .bad
  | _, _ => .bad
theorem c_len : DCal G (fun xs H Q => ∃ x n, xs = [x] ∧ LenV G.K x H n ∧ Q (.int n) H) oLen := by
  refine DCal.one1 (fun _ => rfl) (fun a b l _ => by cases a <;> rfl) fun W σ s st v d k hv Q post => ?_
  cases d <;> try exact post.elim
  case lst l =>
    obtain ⟨p, vs, rfl, hp, hl⟩ := hv.lst k.sf
    exact ⟨_, l.length, rfl, .inl ⟨vs, SqL.of hp, hl.len.symm⟩, post.now k (.int _)⟩
  case tup l =>
    obtain ⟨p, vs, rfl, hp, hl⟩ := hv.tup k.sf
    exact ⟨_, l.length, rfl, .inr ⟨vs, hp, hl.len.symm⟩, post.now k (.int _)⟩
  case scr l =>
    obtain ⟨p, rfl, hp⟩ := hv.scr k.sf
    exact ⟨_, l.length, rfl, .inl ⟨_, hp, by rw [List.length_map]⟩, post.now k (.int _)⟩
  case ptr n =>
    obtain ⟨p, rfl, hp⟩ := hv.ptr
    obtain ⟨l, ql, post⟩ := RPost.opt (stLst st n) (fun l => .val .P (.int l.length) st) post
    obtain ⟨vs, hh, hl⟩ := k.lst hp ql
    exact ⟨_, l.length, rfl, .inl ⟨vs, SqL.of hh, hl.len.symm⟩, post.now k (.int _)⟩
  case str z =>
    obtain rfl := hv.str
    obtain ⟨c, post⟩ := RPost.cond (z.length ≤ 1000000) (.val .P (.int z.length) st) post
    exact ⟨_, z.length, rfl, ⟨sz c, rfl⟩, post.now k (.int _)⟩
def oMax2 : List D → Sto → ER
  | [.int i, .int j], st => .val .P (.int (if j > i then j else i)) st
  | _, _ => .bad
def oMin2 : List D → Sto → ER
  | [.int i, .int j], st => .val .P (.int (if j < i then j else i)) st
  | _, _ => .bad
theorem DCal.two2 {r : List V → Hp → VK → Prop} {o : List D → Sto → ER} (h0 : ∀ st, o [] st = .bad) (h1 : ∀ a st, o [a] st = .bad) (h3 : ∀ a b c l st, o (a :: b :: c :: l) st = .bad)
    (h : ∀ (W : WX) (σ : L2.St) (s : Hs) (st : Sto) (v w : V) (d d' : D), StOk G s st → U G s v d → U G s w d' → ∀ Q : VK, RPost G W s σ Q (o [d, d'] st) → r [v, w] s.h Q) : DCal G r o := by
  intro W σ s st vs ds k hv Q post
  match ds, hv, post with
  | [], _, post => rw [h0] at post; exact post.elim
  | [a], _, post => rw [h1] at post; exact post.elim
  | [d, d'], hv, post => obtain ⟨v, w, rfl, hv1, hv2⟩ := hv.two; exact h W σ s st v w d d' k hv1 hv2 Q post
  | a :: b :: c :: l, _, post => rw [h3] at post; exact post.elim
theorem c_max2 : DCal G (fun xs H Q => ∃ i j, xs = [.int i, .int j] ∧ Q (.int (if j > i then j else i)) H) oMax2 := by
  refine DCal.two2 (fun _ => rfl) (fun a _ => by cases a <;> rfl) (fun a b c l _ => by cases a <;> first | rfl | (cases b <;> rfl)) fun W σ s st v w d d' k hv hw Q post => ?_
  cases d <;> cases d' <;> try exact post.elim
  obtain rfl := hv.int; obtain rfl := hw.int
  exact ⟨_, _, rfl, post.now k (.int _)⟩
def intsOf : List D → Option (List Int)
  | [] => some []
  | .int i :: l => (intsOf l).map (i :: ·)
  | _ => none
def oSum : List D → Sto → ER
  | [.lst l], st => ofOpt (intsOf l) fun ns => .val .P (.int ns.sum) st
  | _, _ => .bad
theorem IsL.ints {as : List Addr} {H : Hp} : ∀ (l : List Int), IsL G as H (l.map V.int) (l.map D.int)
  | [] => .nil
  | i :: l => .cons (.int i) (IsL.ints l)
def oList : List D → Sto → ER
  | [.lst l], st => .val .N (.lst l) st
  | [.tup l], st => .val .N (.lst l) st
  | [.scr l], st => .val .N (.lst (l.map .int)) st
  | [.ptr n], st => ofOpt (stLst st n) fun l => .val .N (.lst l) st
  | _, _ => .bad
theorem c_list : DCal G (fun xs H Q => ∃ p ys, xs = [.ref p] ∧ (SqL G.K H p ys ∨ SqT G.K H p ys) ∧ ∀ l, H l = none → Q (.ref l) (upd H l (.lst ys))) oList := by
  refine DCal.one1 (fun _ => rfl) (fun a b l _ => by cases a <;> rfl) fun W σ s st v d k hv Q post => ?_
  cases d <;> try exact post.elim
  case lst l =>
    obtain ⟨p, vs, rfl, hp, hl⟩ := hv.lst k.sf
    exact ⟨p, vs, rfl, .inl (SqL.of hp), fun r hr => RPost.newL k post hl hr⟩
  case tup l =>
    obtain ⟨p, vs, rfl, hp, hl⟩ := hv.tup k.sf
    exact ⟨p, vs, rfl, .inr hp, fun r hr => RPost.newL k post hl hr⟩
  case scr l =>
    obtain ⟨p, rfl, hp⟩ := hv.scr k.sf
    exact ⟨p, _, rfl, .inl hp, fun r hr => RPost.newL k post (IsL.ints _) hr⟩
  case ptr n =>
    obtain ⟨p, rfl, hp⟩ := hv.ptr
    obtain ⟨l, ql, post⟩ := RPost.opt (stLst st n) (fun l => .val .N (.lst l) st) post
    obtain ⟨vs, hh, hl⟩ := k.lst hp ql
    exact ⟨p, vs, rfl, .inl (SqL.of hh), fun r hr => RPost.newL k post hl hr⟩
def oTuple : List D → Sto → ER
  | [.lst l], st => .val .P (.tup l) st
  | [.tup l], st => .val .P (.tup l) st
  | _, _ => .bad
def cutG {α : Type} (xs : List α) (lo hi : Option Int) : List α := (xs.drop (HT.sIx xs.length 0 lo)).take (HT.sIx xs.length xs.length hi - HT.sIx xs.length 0 lo)
theorem cut_L {as : List Addr} {f : Hp} {vs : List V} {l : List D} (h : IsL G as f vs l) (lo hi : Option Int) : IsL G as f (cutV vs lo hi) (cutG l lo hi) := by
  unfold cutV cutG
  rw [h.len]
  exact (h.drop _).take _
def DTo (G : Gm) (W : WX) (to : TO) (f : En → Option ER) : Prop :=
  ∀ s t σ e st, EnvOk G s t σ e → StOk G t st → ∀ (Q : Option Int → Hp → Prop) (o : Option Int) (st' : Sto),
    (match f ⟨e, st⟩ with
      | none => o = none ∧ st' = st
      | some (.val _ (.int i) st1) => o = some i ∧ st' = st1
      | _ => False) → (∀ t', Gro t t' → StOk G t' st' → Q o t'.h) → to σ t.h Q
theorem o_none : DTo G W tNoPart (fun _ => none) := fun _ t _ _ _ _ k _ _ _ ⟨h1, h2⟩ post => by
  subst h1; subst h2; exact post t (Gro.refl k) k
theorem o_some {te : TE} {f : En → ER} (h : DEv G W te f) : DTo G W (tPart te) (fun E => some (f E)) := by
  intro s t σ e st E k Q o st' c post
  refine h s t σ e st E k _ ?_
  cases q : f ⟨e, st⟩ with
  | val m d st1 =>
    simp only [q] at c
    cases d <;> first | exact c.elim | skip
    obtain ⟨rfl, rfl⟩ := c
    intro t' v g k' o
    obtain rfl := o.u.int
    exact ⟨_, rfl, post t' g k'⟩
  | exc c' l st1 => simp only [q] at c
  | bad => simp only [q] at c
def partI (o : Option ER) (st : Sto) : Option (Option Int × Sto) := match o with
  | none => some (none, st)
  | some (.val _ (.int i) st1) => some (some i, st1)
  | _ => none
def DSl (G : Gm) (r : V → Option Int → Option Int → Hp → VK → Prop) (o : D → Option Int → Option Int → Sto → ER) : Prop :=
  ∀ (W : WX) (σ : L2.St) (s : Hs) (st : Sto) (v : V) (d : D) (lo hi : Option Int), StOk G s st → U G s v d → ∀ Q : VK, RPost G W s σ Q (o d lo hi st) → r v lo hi s.h Q
def dSl (o : D → Option Int → Option Int → Sto → ER) (f : En → ER) (lo hi : En → Option ER) : En → ER := fun E => (f E).bind fun x st => ofOpt (partI (lo ⟨E.e, st⟩) st) fun l => ofOpt (partI (hi ⟨E.e, l.2⟩) l.2) fun u => o x l.1 u.1 u.2
theorem part_post {tl : TO} {lo : En → Option ER} (hl : DTo G W tl lo) {s t : Hs} {σ : L2.St} {e : DE} {st : Sto} (E : EnvOk G s t σ e) (k : StOk G t st) {l : Option Int × Sto} (hp : partI (lo ⟨e, st⟩) st = some l) {Q : Option Int → Hp → Prop} (post : ∀ t', Gro t t' → StOk G t' l.2 → Q l.1 t'.h) : tl σ t.h Q := by
  refine hl s t σ e st E k Q l.1 l.2 ?_ post
  cases q : lo ⟨e, st⟩ with
  | none => rw [q] at hp; cases hp; exact ⟨rfl, rfl⟩
  | some r =>
    rw [q] at hp
    cases r with
    | val m d st1 =>
      cases d <;> first | (cases hp; done) | skip
      cases hp
      exact ⟨rfl, rfl⟩
    | exc c l st1 => cases hp
    | bad => cases hp
theorem v_sl {r : V → Option Int → Option Int → Hp → VK → Prop} {o : D → Option Int → Option Int → Sto → ER} {te : TE} {tl th : TO} {f : En → ER} {lo hi : En → Option ER} (hr : DSl G r o) (he : DEv G W te f) (hl : DTo G W tl lo) (hh : DTo G W th hi) : DEv G W (tSl r te tl th) (dSl o f lo hi) := by
  intro s t σ e st E k Q post
  refine he s t σ e st E k _ (RPost.bind post fun m d st1 t1 v g1 k1 o1 p1 => ?_)
  obtain ⟨l, h1, p1⟩ := RPost.opt _ _ p1
  obtain ⟨u, h2, p1⟩ := RPost.opt _ _ p1
  refine part_post hl (E.up g1) k1 h1 fun t2 g2 k2 => part_post hh ((E.up g1).up g2) k2 h2 fun t3 g3 k3 => ?_
  exact hr W σ t3 u.2 v d l.1 u.1 k3 (((o1.up g2).up g3).u) Q (RPost.step (g2.trans g3) k3 p1)
abbrev rSlA (K : PySem.W.Frag) : V → Option Int → Option Int → Hp → VK → Prop := fun x lo hi H Q => rSlL K x lo hi H Q ∨ (fun x lo hi H Q => L2.rSlA K x lo hi H Q ∨ rSlS x lo hi H Q) x lo hi H Q
theorem sl_any {X : Cx} : SlR X (rSlA X.K) := sl_list.or (L2.sl_tupA.or sl_str)
def oSl (d : D) (lo hi : Option Int) (st : Sto) : ER := match d with
  | .lst l => .val .N (.lst (cutG l lo hi)) st
  | .scr l => .val .N (.lst ((cutG l lo hi).map .int)) st
  | .tup l => .val .P (.tup (cutG l lo hi)) st
  | .str z => if z.length ≤ 1000000 then .val .P (.str (cutS z lo hi)) st else .bad
  | _ => .bad
theorem cut_map (l : List Int) (lo hi : Option Int) : cutV (l.map V.int) lo hi = (cutG l lo hi).map V.int := by
  unfold cutV cutG
  rw [List.length_map, List.map_take, List.map_drop]
theorem d_sl : DSl G (rSlA G.K) oSl := by
  intro W σ s st v d lo hi k hv Q post
  cases d <;> try exact post.elim
  case lst l =>
    obtain ⟨p, vs, rfl, hp, hl⟩ := hv.lst k.sf
    exact .inl ⟨p, vs, rfl, SqL.of hp, fun r hr => RPost.newL k post (cut_L hl lo hi) hr⟩
  case scr l =>
    obtain ⟨p, rfl, hp⟩ := hv.scr k.sf
    exact .inl ⟨p, _, rfl, hp, fun r hr => by rw [cut_map]; exact RPost.newL k post (IsL.ints _) hr⟩
  case tup l =>
    obtain ⟨p, vs, rfl, hp, hl⟩ := hv.tup k.sf
    refine .inr (.inl ⟨p, vs, rfl, hp, fun c => ?_, fun _ r hr => RPost.newT k post (cut_L hl lo hi) hr⟩)
    rw [hl.len] at c
    have e : cutG l lo hi = l := by
      unfold cutG
      rw [c.1, c.2]; simp
    rw [show oSl (.tup l) lo hi st = .val .P (.tup (cutG l lo hi)) st from rfl, e] at post
    exact RPost.now k post hv.tupI
  case str z =>
    obtain rfl := hv.str
    obtain ⟨c, post⟩ := RPost.cond (z.length ≤ 1000000) (.val .P (.str (cutS z lo hi)) st) post
    exact .inr (.inr ⟨z, rfl, sz c, post.now k (.str _)⟩)
end
end Dn
namespace Dn
open PySem PySem.Spec PyProof.Rows L2
structure Up (s t : Hs) : Prop where
  a : Ext s.as t.as
  f : Same s.f t.f
theorem Up.refl (s : Hs) : Up s s := ⟨Ext.refl _, Same.refl _⟩
theorem Up.trans {s t u : Hs} (x : Up s t) (y : Up t u) : Up s u := ⟨x.a.trans y.a, x.f.trans y.f⟩
theorem Gro.up {s t : Hs} (g : Gro s t) : Up s t := ⟨g.a, g.f⟩
def DTg (G : Gm) (g : TG) (js : List Nat) (h : D → DE → Option DE) : Prop :=
  ∀ s t σ e st v d, EnvOk G s t σ e → StOk G t st → Is G t.as t.f v d → ∀ Q : L2.St → Hp → Prop, ∀ e', h d e = some e' →
    (∀ σ', EnvOk G s t σ' e' → σ'.length = σ.length → (∀ i, i ∉ js → σ'[i]? = σ[i]?) → Q σ' t.h) → g v σ t.h Q
def DTgs (G : Gm) (g : TGs) (js : List Nat) (h : List D → DE → Option DE) : Prop :=
  ∀ s t σ e st vs ds, EnvOk G s t σ e → StOk G t st → IsL G t.as t.f vs ds → ∀ Q : L2.St → Hp → Prop, ∀ e', h ds e = some e' →
    (∀ σ', EnvOk G s t σ' e' → σ'.length = σ.length → (∀ i, i ∉ js → σ'[i]? = σ[i]?) → Q σ' t.h) → g vs σ t.h Q
section
variable {G : Gm} {W : WX}
def tgN (i : Nat) : D → DE → Option DE := fun d e => some (e.set i (.val d))
theorem g_name {i : Nat} : DTg G (gName i) [i] (tgN i) := by
  intro s t σ e st v d E k hv Q e' he post
  cases he
  refine post _ (E.set ⟨v, rfl, hv⟩ (fun l z => nomatch z)) (by simp) fun j hj => ?_
  have : i ≠ j := fun z => hj (by simp [z])
  rw [List.getElem?_set_ne this]
def tgsNil : List D → DE → Option DE := fun l e => match l with | [] => some e | _ => none
theorem gs_nil : DTgs G gNil [] tgsNil := by
  intro s t σ e st vs ds E k hv Q e' he post
  cases ds with
  | nil => cases hv; cases he; exact ⟨rfl, post σ E rfl fun _ _ => rfl⟩
  | cons d l => cases he
def tgsCons (t : D → DE → Option DE) (u : List D → DE → Option DE) : List D → DE → Option DE := fun l e => match l with
  | [] => none
  | d :: l => (t d e).bind (u l)
theorem gs_cons {g : TG} {gs : TGs} {js ks : List Nat} {t : D → DE → Option DE} {u : List D → DE → Option DE} (h1 : DTg G g js t) (h2 : DTgs G gs ks u) : DTgs G (gCons g gs) (js ++ ks) (tgsCons t u) := by
  intro s t0 σ e st vs ds E k hv Q e' he post
  cases ds with
  | nil => cases he
  | cons d l =>
    cases hv with
    | cons a b =>
      have he' : (t d e).bind (u l) = some e' := he
      cases q : t d e with
      | none => rw [q] at he'; cases he'
      | some e1 =>
        rw [q] at he'
        refine ⟨_, _, rfl, h1 s t0 σ e st _ d E k a _ e1 q fun σ1 E1 l1 w1 => ?_⟩
        refine h2 s t0 σ1 e1 st _ l E1 k b _ e' he' fun σ2 E2 l2 w2 => ?_
        refine post σ2 E2 (l2.trans l1) fun i hi => ?_
        rw [w2 i (fun z => hi (List.mem_append_right _ z)), w1 i (fun z => hi (List.mem_append_left _ z))]
def tgT (n : Nat) (u : List D → DE → Option DE) : D → DE → Option DE := fun d e => match d with
  | .tup l => if l.length = n then u l e else none
  | .lst l => if l.length = n then u l e else none
  | _ => none
abbrev gTL (K : PySem.W.Frag) (n : Nat) (t : TGs) : TG := fun v σ H Q => gTup K n t v σ H Q ∨ gLst K n t v σ H Q
theorem pg_tl {X : Cx} {pos : Pos} {es : List Expr} {k : Nat} {t : TGs} {n : Nat} (hc : X.calm = true) (h : PGs X es t)
    (hn : (assignEach es X.env).length = n := by rfl) (hst : (assignEach es X.env).findIdx? (·.1) = none := by rfl) : PG X (.Tuple es k pos) (gTL X.K n t) :=
  ⟨fun pins s σ H v u Q I r hw => hw.elim (fun z => (pg_tup hc h hn hst).run pins s σ H v u Q I r z) (fun z => (pg_lst hc h hn hst).run pins s σ H v u Q I r z)⟩
theorem g_tl {n : Nat} {t : TGs} {js : List Nat} {u : List D → DE → Option DE} (h : DTgs G t js u) : DTg G (gTL G.K n t) js (tgT n u) := by
  intro s t0 σ e st v d E k hv Q e' he post
  cases d <;> try (cases he; done)
  case tup l =>
    have he' : (if l.length = n then u l e else none) = some e' := he
    split at he'
    · rename_i hn
      cases hv with
      | tup a b => exact .inl ⟨_, _, rfl, same_t k.sf a, b.len.trans hn, h s t0 σ e st _ l E k b Q e' he' post⟩
    · cases he'
  case lst l =>
    have he' : (if l.length = n then u l e else none) = some e' := he
    split at he'
    · rename_i hn
      cases hv with
      | lst a b => exact .inr ⟨_, _, rfl, SqL.of (k.sf _ _ a), b.len.trans hn, h s t0 σ e st _ l E k b Q e' he' post⟩
    · cases he'
end
inductive SR where | nx (E : En) | rt (m : Md) (d : D) (st : Sto) | bk (E : En) | ct (E : En) | exc (c : Nat) (l : List D) (E : En) | bad
def SPost (G : Gm) (W : WX) (s t : Hs) (N : Ends) : SR → Prop
  | .nx E => ∀ t' σ', Up t t' → EnvOk G s t' σ' E.e → StOk G t' E.st → N.nx σ' t'.h
  | .rt m d st => ∀ t' v, Up t t' → Gro s t' → StOk G t' st → VOk G s t' m v d → N.rt v t'.h
  | .bk E => ∀ t' σ', Up t t' → EnvOk G s t' σ' E.e → StOk G t' E.st → N.bk σ' t'.h
  | .ct E => ∀ t' σ', Up t t' → EnvOk G s t' σ' E.e → StOk G t' E.st → N.ct σ' t'.h
  | .exc c l E => ∀ t' σ' x, Up t t' → EnvOk G s t' σ' E.e → StOk G t' E.st → ExcOk G t' c l x → W (.ref (G.ca c)) x σ' t'.h
  | .bad => False
theorem SPost.mono {G : Gm} {W : WX} {s t t1 : Hs} {N : Ends} {r : SR} (u : Up t t1) (h : SPost G W s t N r) : SPost G W s t1 N r := by
  cases r with
  | nx E => exact fun t' σ' q => h t' σ' (u.trans q)
  | rt m d st => exact fun t' v q => h t' v (u.trans q)
  | bk E => exact fun t' σ' q => h t' σ' (u.trans q)
  | ct E => exact fun t' σ' q => h t' σ' (u.trans q)
  | exc c l E => exact fun t' σ' x q => h t' σ' x (u.trans q)
  | bad => exact h
def DSt (G : Gm) (W : WX) (ts : TS) (g : En → SR) : Prop :=
  ∀ s t σ e st, EnvOk G s t σ e → StOk G t st → ∀ N : Ends, SPost G W s t N (g ⟨e, st⟩) → ts N σ t.h
def SR.bind (r : SR) (k : En → SR) : SR := match r with
  | .nx E => k E
  | r => r
@[simp] theorem SR.bind_nx (E : En) (k : En → SR) : (SR.nx E).bind k = k E := rfl
@[simp] theorem SR.bind_rt (m : Md) (d : D) (st : Sto) (k : En → SR) : (SR.rt m d st).bind k = .rt m d st := rfl
@[simp] theorem SR.bind_bk (E : En) (k : En → SR) : (SR.bk E).bind k = .bk E := rfl
@[simp] theorem SR.bind_ct (E : En) (k : En → SR) : (SR.ct E).bind k = .ct E := rfl
@[simp] theorem SR.bind_exc (c : Nat) (l : List D) (E : En) (k : En → SR) : (SR.exc c l E).bind k = .exc c l E := rfl
@[simp] theorem SR.bind_bad (k : En → SR) : SR.bad.bind k = .bad := rfl
section
variable {G : Gm} {W : WX}
def sSeq (f g : En → SR) : En → SR := fun E => (f E).bind g
theorem s_seq {t u : TS} {f g : En → SR} (h1 : DSt G W t f) (h2 : DSt G W u g) : DSt G W (tSeq t u) (sSeq f g) := by
  intro s t0 σ e st E k N post
  refine h1 s t0 σ e st E k _ ?_
  unfold sSeq at post
  cases q : f ⟨e, st⟩ with
  | nx E1 => rw [q] at post; exact fun t' σ' u E' k' => h2 s t' σ' E1.e E1.st E' k' N (SPost.mono u post)
  | rt m d st => rw [q] at post; exact post
  | bk e => rw [q] at post; exact post
  | ct e => rw [q] at post; exact post
  | exc c l e => rw [q] at post; exact post
  | bad => rw [q] at post; exact post
def sSkip : En → SR := .nx
theorem s_skip : DSt G W tNext sSkip := fun s t σ e st E k N post => post t σ (Up.refl _) E k
def sBreak : En → SR := .bk
def sCont : En → SR := .ct
theorem ev_st {te : TE} {f : En → ER} (h : DEv G W te f) {s t : Hs} {σ : L2.St} {e : DE} {st : Sto} (E : EnvOk G s t σ e) (k : StOk G t st) {N : Ends} {Q : VK} (hx : ∀ c l st1, f ⟨e, st⟩ = .exc c l st1 → SPost G W s t N (.exc c l ⟨e, st1⟩)) (hb : f ⟨e, st⟩ ≠ .bad)
    (hv : ∀ m d st1, f ⟨e, st⟩ = .val m d st1 → ∀ t' v, Gro t t' → StOk G t' st1 → VOk G t t' m v d → Q v t'.h) : te σ t.h Q := by
  refine h s t σ e st E k _ ?_
  cases q : f ⟨e, st⟩ with
  | val m d st1 => exact hv m d st1 q
  | exc c l st1 => exact fun t' x g k' o => hx c l st1 q t' σ x g.up (E.up g) k' o
  | bad => exact absurd q hb
def sSet (i : Nat) (f : En → ER) : En → SR := fun E => match f E with
  | .val .P d st => .nx ⟨E.e.set i (.val d), st⟩
  | .val .N (.lst l) st => .nx ⟨E.e.set i (.own l), st⟩
  | .exc c l st => .exc c l ⟨E.e, st⟩
  | _ => .bad
theorem s_set {i : Nat} {te : TE} {f : En → ER} (h : DEv G W te f) : DSt G W (tAsg te (gName i)) (sSet i f) := by
  intro s t σ e st E k N post
  unfold sSet at post
  refine ev_st (N := N) h E k (fun c l st1 q => by rw [q] at post; exact post) (fun q => by rw [q] at post; exact post) fun m d st1 q t' v g k' o => ?_
  rw [q] at post
  cases m with
  | P => exact post t' _ g.up ((E.up g).set ⟨v, rfl, o⟩ (fun l z => nomatch z)) k'
  | B => cases d <;> exact post.elim
  | N =>
    obtain ⟨p, vs, l, rfl, rfl, a, b, c, n, z⟩ := o
    have n0 : s.h p = none := by
      cases q : s.h p with
      | none => rfl
      | some o =>
        by_cases i : p ∈ s.as
        · exact absurd (E.gr.a.mem i) (k.new n)
        · rw [E.gr.h p o q i] at n; cases n
    refine post t' _ g.up ((E.up g).setOwn n0 z a b c fun j m hj s1 s2 => ?_) k'
    obtain ⟨o, h1, p', vs', h2, _, _, h3, _⟩ := E.slot s2
    rw [s1] at h1; cases h1
    cases h2
    rw [n] at h3; cases h3
def sSetF (i : Nat) (f : En → ER) : En → SR := fun E => match f E with
  | .val .P d st => .nx ⟨E.e.set i (.val d), st⟩
  | .val .N d st => .nx ⟨E.e.set i (.val d), st⟩
  | .exc c l st => .exc c l ⟨E.e, st⟩
  | _ => .bad
theorem s_setF {i : Nat} {te : TE} {f : En → ER} (h : DEv G W te f) : DSt G W (tAsg te (gName i)) (sSetF i f) := by
  intro s t σ e st E k N post
  unfold sSetF at post
  refine ev_st (N := N) h E k (fun c l st1 q => by rw [q] at post; exact post) (fun q => by rw [q] at post; exact post) fun m d st1 q t' v g k' o => ?_
  rw [q] at post
  cases m with
  | P => exact post t' _ g.up ((E.up g).set ⟨v, rfl, o⟩ (fun l z => nomatch z)) k'
  | B => exact post.elim
  | N =>
    obtain ⟨f2, g2, k2, _, i2⟩ := o.freeze g k' (by decide)
    exact post ⟨t'.as, f2, t'.h⟩ _ g2.up ((E.up g2).set ⟨v, rfl, i2⟩ (fun l z => nomatch z)) k2
def sAsg (t : D → DE → Option DE) (f : En → ER) : En → SR := fun E => match f E with
  | .val .B _ _ => .bad
  | .val _ d st => (match t d E.e with | some e' => .nx ⟨e', st⟩ | none => .bad)
  | .exc c l st => .exc c l ⟨E.e, st⟩
  | _ => .bad
def sPar (i j : Nat) (f : En → AR) : En → SR := fun E => match f E with
  | .ok true [a, b] st => .nx ⟨(E.e.set i (.val a)).set j (.val b), st⟩
  | .exc c l st => .exc c l ⟨E.e, st⟩
  | _ => .bad
theorem s_par {i j : Nat} {ta : TA} {f : En → AR} (h : DAr G W ta f) : DSt G W (tPar i j ta) (sPar i j f) := by
  intro s t σ e st E k N post
  unfold sPar at post
  refine h s t σ e st E k _ ?_
  cases q : f ⟨e, st⟩ with
  | ok p l st1 =>
    rw [q] at post
    cases p with
    | false => exact post.elim
    | true =>
      match l, post with
      | [], post => exact post.elim
      | [a], post => exact post.elim
      | [a, b], post =>
        intro t' vs g k' i2 _
        have i2 := i2 rfl
        cases i2 with
        | cons ia ib =>
          cases ib with
          | cons ib ic =>
            cases ic
            exact ⟨_, _, rfl, post t' _ g.up (((E.up g).set (x := .val a) ⟨_, rfl, ia⟩ (fun l z => nomatch z)).set (x := .val b) ⟨_, rfl, ib⟩ (fun l z => nomatch z)) k'⟩
      | a :: b :: c :: l, post => exact post.elim
  | exc c l st1 => rw [q] at post; exact fun t' x g k' o => post t' σ x g.up (E.up g) k' o
  | bad => rw [q] at post; exact post
def sDrop (f : En → ER) : En → SR := fun E => match f E with
  | .val _ _ st => .nx ⟨E.e, st⟩
  | .exc c l st => .exc c l ⟨E.e, st⟩
  | .bad => .bad
theorem s_drop {te : TE} {f : En → ER} (h : DEv G W te f) : DSt G W (tDrop te) (sDrop f) := by
  intro s t σ e st E k N post
  unfold sDrop at post
  refine ev_st (N := N) h E k (fun c l st1 q => by rw [q] at post; exact post) (fun q => by rw [q] at post; exact post) fun m d st1 q t' v g k' o => ?_
  rw [q] at post
  exact post t' σ g.up (E.up g) k'
def sRet (f : En → ER) : En → SR := fun E => match f E with
  | .val .P d st => .rt .P d st
  | .val .N d st => .rt .N d st
  | .exc c l st => .exc c l ⟨E.e, st⟩
  | _ => .bad
theorem s_ret {te : TE} {f : En → ER} (h : DEv G W te f) : DSt G W (tRet te) (sRet f) := by
  intro s t σ e st E k N post
  unfold sRet at post
  refine ev_st (N := N) h E k (fun c l st1 q => by rw [q] at post; exact post) (fun q => by rw [q] at post; exact post) fun m d st1 q t' v g k' o => ?_
  rw [q] at post
  cases m with
  | P => exact post t' v g.up (E.gr.trans g) k' o
  | B => exact post.elim
  | N => exact post t' v g.up (E.gr.trans g) k' (o.back E.gr k)
def sRetV (i : Nat) : En → SR := fun E => match E.e[i]? with
  | some (.val d) => .rt .P d E.st
  | some (.own l) => .rt .N (.lst l) E.st
  | _ => .bad
theorem s_retV {i : Nat} : DSt G W (tRet (tVar i)) (sRetV i) := by
  intro s t σ e st E k N post
  unfold sRetV at post
  split at post
  · rename_i d q
    obtain ⟨o, h1, v, rfl, h2⟩ := E.slot q
    exact ⟨v, h1, post t v (Up.refl _) E.gr k h2⟩
  · rename_i l q
    obtain ⟨o, h1, p, vs, rfl, a, b, c, d, f⟩ := E.slot q
    exact ⟨_, h1, post t _ (Up.refl _) E.gr k ⟨p, vs, l, rfl, rfl, c, d, f, a, b⟩⟩
  · exact post.elim
def sRetN : En → SR := fun E => .rt .P .non E.st
def sIf (c : En → ER) (f g : En → SR) : En → SR := fun E => match c E with
  | .val _ (.bl b) st => if b = true then f ⟨E.e, st⟩ else g ⟨E.e, st⟩
  | .exc c l st => .exc c l ⟨E.e, st⟩
  | _ => .bad
theorem tst_st {tt : TT} {f : En → ER} (h : DTt G W tt f) {s t : Hs} {σ : L2.St} {e : DE} {st : Sto} (E : EnvOk G s t σ e) (k : StOk G t st) {N : Ends} {Q : Bool → Hp → Prop} (hx : ∀ c l st1, f ⟨e, st⟩ = .exc c l st1 → SPost G W s t N (.exc c l ⟨e, st1⟩)) (hb : ∃ m b st1, f ⟨e, st⟩ = .val m (.bl b) st1 ∨ ∃ c l, f ⟨e, st⟩ = .exc c l st1)
    (hv : ∀ m b st1, f ⟨e, st⟩ = .val m (.bl b) st1 → ∀ t', Gro t t' → StOk G t' st1 → Q b t'.h) : tt σ t.h Q := by
  refine h s t σ e st E k _ ?_
  obtain ⟨m, b, st1, q | ⟨c, l, q⟩⟩ := hb
  · rw [q]; exact hv m b st1 q
  · rw [q]; exact fun t' x g k' o => hx c l st1 q t' σ x g.up (E.up g) k' o
theorem s_if {tc : TT} {t u : TS} {c : En → ER} {f g : En → SR} (hc : DTt G W tc c) (ht : DSt G W t f) (hu : DSt G W u g) : DSt G W (tIfS tc t u) (sIf c f g) := by
  intro s t0 σ e st E k N post
  unfold sIf at post
  refine tst_st (N := N) hc E k (fun c l st1 q => by rw [q] at post; exact post) ?_ fun m b st1 q t' g1 k' => ?_
  · cases q : c ⟨e, st⟩ with
    | val m d st1 =>
      rw [q] at post
      cases d <;> first | exact post.elim | exact ⟨m, _, st1, .inl rfl⟩
    | exc k l st1 => exact ⟨.P, true, st1, .inr ⟨k, l, rfl⟩⟩
    | bad => rw [q] at post; exact post.elim
  · rw [q] at post
    have post' : SPost G W s t0 N (if b = true then f ⟨e, st1⟩ else g ⟨e, st1⟩) := post
    cases b with
    | true => exact iteT (ht s t' σ e st1 (E.up g1) k' N (SPost.mono g1.up post'))
    | false => exact iteF (hu s t' σ e st1 (E.up g1) k' N (SPost.mono g1.up post'))
def frz (i : Nat) (e : DE) : DE := match e[i]? with
  | some (.own l) => e.set i (.val (.lst l))
  | _ => e
theorem EnvOk.frz {s t : Hs} {σ : L2.St} {e : DE} {st : Sto} (i : Nat) (E : EnvOk G s t σ e) (k : StOk G t st) : ∃ f, Same t.f f ∧ EnvOk G s ⟨t.as, f, t.h⟩ σ (frz i e) ∧ StOk G ⟨t.as, f, t.h⟩ st := by
  unfold Dn.frz
  split
  · rename_i l q
    obtain ⟨o, h1, p, vs, rfl, a, b, c, d, f⟩ := E.slot q
    have s1 : Same t.f (upd t.f p (.lst vs)) := same_new b
    refine ⟨upd t.f p (.lst vs), s1, ⟨E.gr.ice k c a b f, by simp [E.len], fun j o x y z => ?_, fun j m x l1 l2 hjk y z w u => ?_⟩, k.ice c b f⟩
    · by_cases zz : i = j
      · subst zz
        rw [List.getElem?_set_self (List.getElem?_eq_some_iff.mp q).1] at z
        rw [h1] at y; cases y; cases z
        exact ⟨_, rfl, .lst upd_same (d.up (Ext.refl _) s1)⟩
      · rw [List.getElem?_set_ne zz] at z
        have ok := E.at_ j o x y z
        cases x with
        | emp => trivial
        | exn => exact ok
        | clo ds =>
          obtain ⟨h1, h2, h3, h4⟩ := ok
          refine ⟨h1, h2, s1 _ _ h3, fun i d hd => ?_⟩
          obtain ⟨v, a, b⟩ := h4 i d hd
          exact ⟨v, a, b.up (Ext.refl _) s1⟩
        | val d => obtain ⟨v, a1, a2⟩ := ok; exact ⟨v, a1, a2.up (Ext.refl _) s1⟩
        | own m =>
          obtain ⟨p', vs', rfl, b1, b2, b3, b4, b5⟩ := ok
          have : p' ≠ p := fun zzz => by subst zzz; exact E.dis i j p' l m zz h1 q y z
          exact ⟨p', vs', rfl, b1, by show upd t.f p (.lst vs) p' = none; rw [upd_ne this]; exact b2, b3, b4.up (Ext.refl _) s1, b5⟩
    · have own_of : ∀ (j : Nat) (l1 : List D), (e.set i (.val (.lst l)))[j]? = some (.own l1) → e[j]? = some (.own l1) := fun j l1 z => by
        by_cases zz : i = j
        · subst zz
          rw [List.getElem?_set_self (List.getElem?_eq_some_iff.mp q).1] at z
          cases z
        · rw [List.getElem?_set_ne zz] at z; exact z
      exact E.dis j m x l1 l2 hjk y (own_of j l1 z) w (own_of m l2 u)
  · exact ⟨t.f, Same.refl _, E, k⟩
def sFrz (i : Nat) (g : En → SR) : En → SR := fun E => g ⟨frz i E.e, E.st⟩
theorem s_frz {i : Nat} {t : TS} {g : En → SR} (h : DSt G W t g) : DSt G W t (sFrz i g) := by
  intro s t0 σ e st E k N post
  obtain ⟨f, sm, E', k'⟩ := E.frz i k
  exact h s ⟨t0.as, f, t0.h⟩ σ _ st E' k' N (SPost.mono (t := t0) (t1 := ⟨t0.as, f, t0.h⟩) ⟨Ext.refl _, sm⟩ post)
theorem SPost.cond {s t : Hs} {N : Ends} (c : Prop) [Decidable c] (r : SR) (h : SPost G W s t N (if c then r else .bad)) : c ∧ SPost G W s t N r := by
  by_cases q : c
  · rw [if_pos q] at h; exact ⟨q, h⟩
  · rw [if_neg q] at h; exact h.elim
def sApp (i : Nat) (f : En → ER) : En → SR := fun E => match E.e[i]? with
  | some (.own l) => (match f E with
    | .val .B _ _ => .bad
    | .val _ d st => if l.length < 1000000 then .nx ⟨E.e.set i (.own (l ++ [d])), st⟩ else .bad
    | .exc c l st => .exc c l ⟨E.e, st⟩
    | .bad => .bad)
  | _ => .bad
theorem EnvOk.modS {s t : Hs} {σ : L2.St} {e : DE} {st : Sto} {n : Nat} {a : Addr} {o : HO} (E : EnvOk G s t σ e) (k : StOk G t st) (ha : t.as[n]? = some a) : EnvOk G s ⟨t.as, t.f, upd t.h a o⟩ σ e := by
  have m : a ∈ t.as := List.mem_iff_getElem?.mpr ⟨n, ha⟩
  refine ⟨E.gr.mod k ha, E.len, fun i x y p q => ?_, E.dis⟩
  have ok := E.at_ i x y p q
  cases y with
  | emp => trivial
  | exn => exact ok
  | clo ds => exact ok
  | val d => exact ok
  | own l =>
    obtain ⟨p', vs, rfl, a1, a2, a3, a4, a5⟩ := ok
    have : p' ≠ a := fun z => by subst z; exact a5 m
    exact ⟨p', vs, rfl, a1, a2, by show upd t.h a o p' = _; rw [upd_ne this]; exact a3, a4, a5⟩
def sSetO (x : Nat) (f fi : En → ER) : En → SR := fun E => match E.e[x]? with
  | some (.own l) => (match f E with
    | .val .B _ _ => .bad
    | .val _ d st => (match fi ⟨E.e, st⟩ with
      | .val _ (.int i) st1 => (match ixN l.length i with | some j => .nx ⟨E.e.set x (.own (l.set j d)), st1⟩ | none => .bad)
      | .exc c l st => .exc c l ⟨E.e, st⟩
      | _ => .bad)
    | .exc c l st => .exc c l ⟨E.e, st⟩
    | .bad => .bad)
  | _ => .bad
theorem s_setO {x : Nat} {te ti : TE} {f fi : En → ER} (h : DEv G W te f) (hi : DEv G W ti fi) : DSt G W (tAsg te (gSub (tVar x) ti rSetL)) (sSetO x f fi) := by
  intro s t σ e st E k N post
  unfold sSetO at post
  split at post
  · rename_i l hx
    have hx : e[x]? = some (.own l) := hx
    obtain ⟨o, hσ, p, vs, rfl, p0, pf, ph, pl, pa⟩ := E.slot hx
    refine ev_st (N := N) h E k (fun c l st1 q => by rw [q] at post; exact post) (fun q => by rw [q] at post; exact post) fun m d st1 q t1 v g1 k1 o1 => ?_
    rw [q] at post
    have fin : ∀ f2, Gro t ⟨t1.as, f2, t1.h⟩ → StOk G ⟨t1.as, f2, t1.h⟩ st1 → Is G t1.as f2 v d → SPost G W s t N (match fi ⟨e, st1⟩ with
      | .val _ (.int i) st1 => (match ixN l.length i with | some j => .nx ⟨e.set x (.own (l.set j d)), st1⟩ | none => .bad)
      | .exc c l st => .exc c l ⟨e, st⟩
      | _ => .bad) → gSub (tVar x) ti rSetL v σ t1.h N.nx := fun f2 g2 k2 i2 post => by
      refine ⟨_, hσ, ?_⟩
      refine ev_st (N := N) hi (E.up g2) k2 (fun c l st3 q3 => ?_) (fun q3 => ?_) fun mi di st3 q3 t3 w g3 k3 o3 => ?_
      · rw [q3] at post; exact SPost.mono g2.up post
      · rw [q3] at post; exact post
      · rw [q3] at post
        cases di <;> try exact post.elim
        rename_i i
        obtain rfl := o3.u.int
        have g23 := g2.trans g3
        cases hj : ixN l.length i with
        | none => simp only [hj] at post; exact post.elim
        | some j =>
          simp only [hj] at post
          have hp' : t3.h p = some (.lst vs) := g23.h _ _ ph pa
          have hf' : t3.f p = none := g23.n _ _ ph pf
          have ha' : p ∉ t3.as := fun m => (g23.w p m).elim pa fun z => by rw [ph] at z; cases z
          refine ⟨p, vs, i, j, rfl, rfl, hp', by rw [pl.len]; exact hj, ?_⟩
          have pl' := (pl.up g23.a g23.f).set (i2.up g3.a g3.f) j
          exact post ⟨t3.as, t3.f, upd t3.h p (.lst (vs.set j v))⟩ σ ⟨g23.a, g23.f⟩ ((E.up g23).chg hσ hx p0 hf' pl' ha') (k3.chg hf' ha')
    cases m with
    | P => exact fin t1.f g1 k1 o1 post
    | B => exact post.elim
    | N =>
      obtain ⟨f2, g2, k2, _, i2⟩ := o1.freeze g1 k1 (by decide)
      exact fin f2 g2 k2 i2 post
  · exact post.elim
def sSetP (fb f fi : En → ER) : En → SR := fun E => match f E with
  | .val .B _ _ => .bad
  | .val _ d st => (match fb ⟨E.e, st⟩ with
    | .val _ (.ptr n) st1 => (match fi ⟨E.e, st1⟩ with
      | .val _ (.int i) st2 => (match stLst st2 n with
        | some l => (match ixN l.length i with | some j => .nx ⟨E.e, st2.set n (.lst (l.set j d))⟩ | none => .bad)
        | none => .bad)
      | .exc c l st => .exc c l ⟨E.e, st⟩
      | _ => .bad)
    | .exc c l st => .exc c l ⟨E.e, st⟩
    | _ => .bad)
  | .exc c l st => .exc c l ⟨E.e, st⟩
  | .bad => .bad
theorem s_setP {tb te ti : TE} {fb f fi : En → ER} (hb : DEv G W tb fb) (h : DEv G W te f) (hi : DEv G W ti fi) : DSt G W (tAsg te (gSub tb ti rSetL)) (sSetP fb f fi) := by
  intro s t σ e st E k N post
  unfold sSetP at post
  refine ev_st (N := N) h E k (fun c l st1 q => by rw [q] at post; exact post) (fun q => by rw [q] at post; exact post) fun m d st1 q t1 v g1 k1 o1 => ?_
  rw [q] at post
  have fin : ∀ f2, Gro t ⟨t1.as, f2, t1.h⟩ → StOk G ⟨t1.as, f2, t1.h⟩ st1 → Is G t1.as f2 v d → SPost G W s t N (match fb ⟨e, st1⟩ with
    | .val _ (.ptr n) st1 => (match fi ⟨e, st1⟩ with
      | .val _ (.int i) st2 => (match stLst st2 n with
        | some l => (match ixN l.length i with | some j => .nx ⟨e, st2.set n (.lst (l.set j d))⟩ | none => .bad)
        | none => .bad)
      | .exc c l st => .exc c l ⟨e, st⟩
      | _ => .bad)
    | .exc c l st => .exc c l ⟨e, st⟩
    | _ => .bad) → gSub tb ti rSetL v σ t1.h N.nx := fun f2 g2 k2 i2 post => by
    refine ev_st (N := N) hb (E.up g2) k2 (fun c l st3 q3 => ?_) (fun q3 => ?_) fun mb db st3 q3 t3 b g3 k3 o3 => ?_
    · rw [q3] at post; exact SPost.mono g2.up post
    · rw [q3] at post; exact post
    · rw [q3] at post
      cases db <;> try exact post.elim
      rename_i n
      obtain ⟨p, rfl, hp⟩ := o3.u.ptr
      have g23 := g2.trans g3
      have post : SPost G W s t N (match fi ⟨e, st3⟩ with
        | .val _ (.int i) st2 => (match stLst st2 n with
          | some l => (match ixN l.length i with | some j => .nx ⟨e, st2.set n (.lst (l.set j d))⟩ | none => .bad)
          | none => .bad)
        | .exc c l st => .exc c l ⟨e, st⟩
        | _ => .bad) := post
      refine ev_st (N := N) hi (E.up g23) k3 (fun c l st4 q4 => ?_) (fun q4 => ?_) fun mi di st4 q4 t4 w g4 k4 o4 => ?_
      · rw [q4] at post; exact SPost.mono g23.up post
      · rw [q4] at post; exact post
      · rw [q4] at post
        cases di <;> try exact post.elim
        rename_i i
        obtain rfl := o4.u.int
        have g24 := g23.trans g4
        have hp4 := g4.a n p hp
        have post : SPost G W s t N (match stLst st4 n with
          | some l => (match ixN l.length i with | some j => .nx ⟨e, st4.set n (.lst (l.set j d))⟩ | none => .bad)
          | none => .bad) := post
        cases hl : stLst st4 n with
        | none => simp only [hl] at post; exact post.elim
        | some l =>
          simp only [hl] at post
          cases hj : ixN l.length i with
          | none => simp only [hj] at post; exact post.elim
          | some j =>
            simp only [hj] at post
            obtain ⟨vs, hh, il⟩ := k4.lst hp4 hl
            refine ⟨p, vs, i, j, rfl, rfl, hh, by rw [il.len]; exact hj, ?_⟩
            have il' := il.set (i2.up (g3.trans g4).a (g3.trans g4).f) j
            exact post ⟨t4.as, t4.f, upd t4.h p (.lst (vs.set j v))⟩ σ ⟨g24.a, g24.f⟩ ((E.up g24).modS k4 hp4) (k4.mod hp4 ⟨_, upd_same, il'⟩)
  cases m with
  | P => exact fin t1.f g1 k1 o1 post
  | B => exact post.elim
  | N =>
    obtain ⟨f2, g2, k2, _, i2⟩ := o1.freeze g1 k1 (by decide)
    exact fin f2 g2 k2 i2 post
def sSetI (x : Nat) (f fi : En → ER) : En → SR := fun E => match E.e[x]? with
  | some (.own _) => sSetO x f fi E
  | _ => sSetP (dVar x) f fi E
theorem s_setI {x : Nat} {te ti : TE} {f fi : En → ER} (h : DEv G W te f) (hi : DEv G W ti fi) : DSt G W (tAsg te (gSub (tVar x) ti rSetL)) (sSetI x f fi) := by
  intro s t σ e st E k N post
  unfold sSetI at post
  split at post
  · exact s_setO h hi s t σ e st E k N post
  · exact s_setP v_var h hi s t σ e st E k N post
end
end Dn
namespace Dn
open PySem PySem.Spec PyProof.Rows L2
def ItOk (G : Gm) (t1 : Hs) (J : It) (l : List D) : Prop := ∀ (i : Nat) (t : Hs) (st : Sto), Up t1 t → StOk G t st → (l.length ≤ i → J.stop i t.h) ∧
  ∀ d, l[i]? = some d → J.go i t.h ∧ ∀ x H', J.yld i t.h x H' → ∃ t', t'.h = H' ∧ Gro t t' ∧ StOk G t' st ∧ Is G t'.as t'.f x d
def IPost (G : Gm) (W : WX) (t : Hs) (σ : L2.St) (R : It → Hp → Prop) : AR → Prop
  | .ok _ l st => ∀ t' J, Gro t t' → StOk G t' st → ItOk G t' J l → R J t'.h
  | .exc c l st => ∀ t' x, Gro t t' → StOk G t' st → ExcOk G t' c l x → W (.ref (G.ca c)) x σ t'.h
  | .bad => False
def DIt (G : Gm) (W : WX) (wi : TI) (f : En → AR) : Prop := ∀ s t σ e st, EnvOk G s t σ e → StOk G t st → ∀ R : It → Hp → Prop, IPost G W t σ R (f ⟨e, st⟩) → wi σ t.h R
section
variable {G : Gm} {W : WX}
def iAny (K : PySem.W.Frag) (te : TE) : TI := fun σ H R => iList K te σ H R ∨ iTup K te σ H R ∨ iStr te σ H R
theorem pi_any {X : Cx} {tg e : Expr} {te : TE} (he : PE X e te) : PI X tg e (iAny X.K te) :=
  ⟨fun pins s σ H R I h => h.elim (fun z => (pi_list he).run pins s σ H R I z) fun z => z.elim (fun z => (pi_tup he).run pins s σ H R I z) (fun z => (pi_str he).run pins s σ H R I z)⟩
def itemsOf : D → Option (List D)
  | .lst l => some l
  | .tup l => some l
  | .scr l => some (l.map .int)
  | .str z => some (z.cps.toList.map fun c => .str ⟨#[c]⟩)
  | _ => none
def dIter (f : En → ER) : En → AR := fun E => match f E with
  | .val .B _ _ => .bad
  | .val _ d st => (match itemsOf d with | some l => .ok true l st | none => .bad)
  | .exc c l st => .exc c l st
  | .bad => .bad
theorem it_list {t1 : Hs} {a : Addr} {vs : List V} {l : List D} (h : ∀ t, Up t1 t → Same t.f t.h → SqL G.K t.h a vs ∧ IsL G t.as t.f vs l) : ItOk G t1 (Itl G.K a) l := by
  intro i t st u k
  obtain ⟨q, il⟩ := h t u k.sf
  refine ⟨fun hi => ⟨vs, q, by rw [il.len]; exact hi⟩, fun d hd => ?_⟩
  obtain ⟨v, h1, h2⟩ := il.get hd
  refine ⟨⟨vs, v, q, h1⟩, fun x H' y => ?_⟩
  obtain ⟨rfl, y⟩ := y
  have := y vs q
  rw [h1] at this; cases this
  exact ⟨t, rfl, Gro.refl k, k, h2⟩
theorem it_tup {t1 : Hs} {a : Addr} {vs : List V} {l : List D} (h : ∀ t, Up t1 t → Same t.f t.h → SqT G.K t.h a vs ∧ IsL G t.as t.f vs l) : ItOk G t1 (Itt G.K a) l := by
  intro i t st u k
  obtain ⟨q, il⟩ := h t u k.sf
  refine ⟨fun hi => ⟨vs, q, by rw [il.len]; exact hi⟩, fun d hd => ?_⟩
  obtain ⟨v, h1, h2⟩ := il.get hd
  refine ⟨⟨vs, v, q, h1⟩, fun x H' y => ?_⟩
  obtain ⟨rfl, y⟩ := y
  have := y vs q
  rw [h1] at this; cases this
  exact ⟨t, rfl, Gro.refl k, k, h2⟩
theorem it_str {t1 : Hs} (z : Str) : ItOk G t1 (Its z) (z.cps.toList.map fun c => .str ⟨#[c]⟩) := by
  intro i t st u k
  refine ⟨fun hi => by (show z.cps.size ≤ i); simpa using hi, fun d hd => ?_⟩
  rw [List.getElem?_map] at hd
  cases q : z.cps.toList[i]? with
  | none => rw [q] at hd; cases hd
  | some c =>
    rw [q] at hd
    cases hd
    have hi : i < z.cps.size := by
      have := (List.getElem?_eq_some_iff.mp q).1
      simpa using this
    refine ⟨hi, fun x H' y => ?_⟩
    obtain ⟨rfl, c', h1, rfl⟩ := y
    have : z.cps[i]? = some c := by rw [← Array.getElem?_toList]; exact q
    rw [this] at h1; cases h1
    exact ⟨t, rfl, Gro.refl k, k, .str _⟩
theorem i_any {te : TE} {f : En → ER} (h : DEv G W te f) : DIt G W (iAny G.K te) (dIter f) := by
  intro s t σ e st E k0 R post
  have hx : ∀ {Q : VK}, (∀ m d st1, f ⟨e, st⟩ = .val m d st1 → m ≠ .B → ∀ l, itemsOf d = some l → ∀ t' v, Gro t t' → StOk G t' st1 → Is G t'.as t'.f v d → Q v t'.h) → te σ t.h Q := fun {Q} k => by
    refine h s t σ e st E k0 _ ?_
    cases q : f ⟨e, st⟩ with
    | val m d st1 =>
      simp only [dIter, q] at post
      intro t' v g k' o
      have nb : m ≠ .B := fun z => by subst z; exact post.elim
      have : ∃ l, itemsOf d = some l := by
        cases m <;> first | exact absurd rfl nb | (cases q2 : itemsOf d <;> first | (simp only [q2] at post; exact post.elim) | exact ⟨_, rfl⟩)
      obtain ⟨l, hl⟩ := this
      obtain ⟨f2, g2, k2, _, i2⟩ := o.freeze g k' nb
      exact k m d st1 q nb l hl ⟨t'.as, f2, t'.h⟩ v g2 k2 i2
    | exc c l st1 => simp only [dIter, q] at post; exact post
    | bad => simp only [dIter, q] at post; exact post
  have hp : ∀ m d l st1, f ⟨e, st⟩ = .val m d st1 → m ≠ .B → itemsOf d = some l → ∀ t' J, Gro t t' → StOk G t' st1 → ItOk G t' J l → R J t'.h := fun m d l st1 q nb hl => by
    simp only [dIter, q] at post
    cases m <;> first | exact absurd rfl nb | (simp only [hl] at post; exact post)
  cases q : f ⟨e, st⟩ with
  | val m d st1 =>
    cases d with
    | tup l0 =>
      refine .inr (.inl (hx fun m' d' st' q' nb l hl t' v g k' i2 => ?_))
      rw [q] at q'; cases q'; cases hl
      cases i2 with
      | tup a b => exact ⟨_, rfl, ⟨_, same_t k'.sf a⟩, hp m (.tup l0) l0 st1 q nb rfl t' _ g k' (it_tup fun t2 u s2 => ⟨same_t (u.f.trans s2) a, b.up u.a u.f⟩)⟩
    | str z =>
      refine .inr (.inr (hx fun m' d' st' q' nb l hl t' v g k' i2 => ?_))
      rw [q] at q'; cases q'; cases hl
      cases i2 with
      | str => exact ⟨z, rfl, hp m (.str z) _ st1 q nb rfl t' _ g k' (it_str z)⟩
    | lst l0 =>
      refine .inl (hx fun m' d' st' q' nb l hl t' v g k' i2 => ?_)
      rw [q] at q'; cases q'; cases hl
      cases i2 with
      | lst a b => exact ⟨_, rfl, ⟨_, SqL.of (k'.sf _ _ a)⟩, hp m (.lst l0) l0 st1 q nb rfl t' _ g k' (it_list fun t2 u s2 => ⟨SqL.of (s2 _ _ (u.f _ _ a)), b.up u.a u.f⟩)⟩
    | scr l0 =>
      refine .inl (hx fun m' d' st' q' nb l hl t' v g k' i2 => ?_)
      rw [q] at q'; cases q'; cases hl
      cases i2 with
      | scr a => exact ⟨_, rfl, ⟨_, k'.sf.seq a⟩, hp m (.scr l0) _ st1 q nb rfl t' _ g k' (it_list fun t2 u s2 => ⟨(u.f.trans s2).seq a, IsL.ints _⟩)⟩
    | _ => refine .inl (hx fun m' d' st' q' nb l hl t' v g k' i2 => ?_); rw [q] at q'; cases q'; cases hl
  | exc c l st1 => refine .inl (hx fun m' d' st' q' => ?_); rw [q] at q'; cases q'
  | bad => refine .inl (hx fun m' d' st' q' => ?_); rw [q] at q'; cases q'
def rangeD (lo : Int) (n : Nat) : List D := (List.range n).map fun (k : Nat) => .int (lo + (k : Int))
theorem rangeD_get {lo : Int} {n i : Nat} {d : D} (h : (rangeD lo n)[i]? = some d) : i < n ∧ d = .int (lo + (i : Int)) := by
  unfold rangeD at h
  rw [List.getElem?_map] at h
  by_cases hi : i < n
  · rw [List.getElem?_range hi] at h; cases h; exact ⟨hi, rfl⟩
  · rw [List.getElem?_eq_none (by simpa using hi)] at h; cases h
theorem it_range {t1 : Hs} (lo : Int) (n : Nat) : ItOk G t1 (Itr lo n) (rangeD lo n) := by
  intro i t st u k
  refine ⟨fun hi => by (show n ≤ i); simpa [rangeD] using hi, fun d hd => ?_⟩
  obtain ⟨hi, rfl⟩ := rangeD_get hd
  refine ⟨hi, fun x H' y => ?_⟩
  obtain ⟨rfl, rfl⟩ := y
  exact ⟨t, rfl, Gro.refl k, k, .int _⟩
def rng1 : List D → Option (Int × Nat)
  | [.int j] => if -(2 ^ 62) ≤ j ∧ j < 2 ^ 62 then some (0, j.toNat) else none
  | _ => none
def rng2 : List D → Option (Int × Nat)
  | [.int i, .int j] => if -(2 ^ 62) ≤ i ∧ i < 2 ^ 62 ∧ -(2 ^ 62) ≤ j ∧ j < 2 ^ 62 then some (i, (j - i).toNat) else none
  | _ => none
def dRng (r : List D → Option (Int × Nat)) (f : En → AR) : En → AR := fun E => match f E with
  | .ok _ l st => (match r l with | some r => .ok true (rangeD r.1 r.2) st | none => .bad)
  | .exc c l st => .exc c l st
  | _ => .bad
theorem i_rng {ta : TA} {f : En → AR} {ro : List D → Option (Int × Nat)} {r : List V → Hp → (It → Hp → Prop) → Prop} (h : DAr G W ta f) (hr : ∀ t vs l p R, UL G t vs l → ro l = some p → R (Itr p.1 p.2) t.h → r vs t.h R) : DIt G W (fun σ H R => ta σ H fun vs H1 => r vs H1 R) (dRng ro f) := by
  intro s t σ e st E k R post
  refine h s t σ e st E k _ ?_
  unfold dRng at post
  cases q : f ⟨e, st⟩ with
  | ok p l st1 =>
    rw [q] at post
    intro t1 vs g1 k1 _ u1
    cases hl : ro l with
    | none => simp only [hl] at post; exact post.elim
    | some p =>
      simp only [hl] at post
      exact hr t1 vs l p R u1 hl (post t1 _ g1 k1 (it_range _ _))
  | exc c l st1 => rw [q] at post; exact post
  | bad => rw [q] at post; exact post
theorem i_range1 {ta : TA} {f : En → AR} (h : DAr G W ta f) : DIt G W (iRng1 ta) (dRng rng1 f) :=
  i_rng (r := fun vs H1 R => ∃ j : Int, vs = [.int j] ∧ -(2 ^ 62) ≤ j ∧ j < 2 ^ 62 ∧ R (Itr 0 j.toNat) H1) h fun t vs l p R u hl hR => by
    unfold rng1 at hl
    split at hl
    · rename_i j
      split at hl
      · rename_i c
        cases hl
        obtain ⟨v, rfl, hv⟩ := u.one
        obtain rfl := hv.int
        exact ⟨j, rfl, c.1, c.2, hR⟩
      · cases hl
    · cases hl
def enumD : Nat → List D → List D
  | _, [] => []
  | k, d :: l => .tup [.int (k : Int), d] :: enumD (k + 1) l
def dEnum (f : En → AR) : En → AR := fun E => match f E with
  | .ok true [.lst l] st => .ok true (enumD 0 l) st
  | .exc c l st => .exc c l st
  | _ => .bad
def zipD : List D → List D → List D
  | a :: l, b :: m => .tup [a, b] :: zipD l m
  | _, _ => []
theorem zipD_get : ∀ {l m : List D} {i : Nat} {d : D}, (zipD l m)[i]? = some d → ∃ x y, l[i]? = some x ∧ m[i]? = some y ∧ d = .tup [x, y]
  | [], _, _, _, h => by simp [zipD] at h
  | _ :: _, [], _, _, h => by simp [zipD] at h
  | a :: l, b :: m, 0, d, h => by simp [zipD] at h; subst h; exact ⟨a, b, rfl, rfl, rfl⟩
  | a :: l, b :: m, i + 1, d, h => by
    obtain ⟨x, y, h1, h2, h3⟩ := zipD_get (l := l) (m := m) (i := i) (d := d) (by simpa [zipD] using h)
    exact ⟨x, y, by simpa using h1, by simpa using h2, h3⟩
theorem zipD_len : ∀ (l m : List D), (zipD l m).length = min l.length m.length
  | [], _ => by simp [zipD]
  | _ :: _, [] => by simp [zipD]
  | a :: l, b :: m => by simp [zipD, zipD_len l m]
theorem it_zip {t1 : Hs} {a b : Addr} {vs ws : List V} {l m : List D} (h : ∀ t, Up t1 t → Same t.f t.h → SqL G.K t.h a vs ∧ IsL G t.as t.f vs l) (h' : ∀ t, Up t1 t → Same t.f t.h → SqL G.K t.h b ws ∧ IsL G t.as t.f ws m) : ItOk G t1 (Itz G.K a b) (zipD l m) := by
  intro i t st u k
  obtain ⟨q, il⟩ := h t u k.sf
  obtain ⟨q', im⟩ := h' t u k.sf
  refine ⟨fun hi => ⟨vs, ws, q, q', by rw [il.len, im.len]; rw [zipD_len] at hi; omega⟩, fun d hd => ?_⟩
  obtain ⟨x, y, h1, h2, rfl⟩ := zipD_get hd
  obtain ⟨v, h3, h4⟩ := il.get h1
  obtain ⟨w, h5, h6⟩ := im.get h2
  refine ⟨⟨vs, ws, v, w, q, q', h3, h5⟩, fun y H' z => ?_⟩
  obtain ⟨T, v', w', rfl, hT, rfl, z, z'⟩ := z
  have := z vs q
  rw [h3] at this; cases this
  have := z' ws q'
  rw [h5] at this; cases this
  have sn := same_new (o := .tup [v, w]) (k.sf.free hT)
  exact ⟨⟨t.as, upd t.f T _, upd t.h T _⟩, rfl, Gro.new k hT, k.grow hT, .tup (SqT.of upd_same) (.cons (h4.up (Ext.refl _) sn) (.cons (h6.up (Ext.refl _) sn) .nil))⟩
def dZip (f : En → AR) : En → AR := fun E => match f E with
  | .ok true [.lst l, .lst m] st => .ok true (zipD l m) st
  | .exc c l st => .exc c l st
  | _ => .bad
theorem i_zip {ta : TA} {f : En → AR} (h : DAr G W ta f) : DIt G W (iZip G.K ta) (dZip f) := by
  intro s t σ e st E k R post
  refine h s t σ e st E k _ ?_
  unfold dZip at post
  cases q : f ⟨e, st⟩ with
  | ok p l st1 =>
    rw [q] at post
    cases p with
    | false => exact post.elim
    | true =>
      match l, post with
      | [], post => exact post.elim
      | [d], post => cases d <;> exact post.elim
      | [d, d'], post =>
        cases d <;> first | exact post.elim | skip
        cases d' <;> first | exact post.elim | skip
        intro t' vs g k' i0 _
        have i := i0 rfl
        clear i0
        cases i with
        | cons i j =>
          cases j with
          | cons j k =>
            cases k
            cases i with
            | lst a b =>
              cases j with
              | lst a' b' => exact ⟨_, _, _, _, rfl, SqL.of (k'.sf _ _ a), SqL.of (k'.sf _ _ a'), post t' _ g k' (it_zip (fun t2 u s2 => ⟨SqL.of (s2 _ _ (u.f _ _ a)), b.up u.a u.f⟩) (fun t2 u s2 => ⟨SqL.of (s2 _ _ (u.f _ _ a')), b'.up u.a u.f⟩))⟩
      | a :: b :: c :: l, post => cases a <;> first | exact post.elim | (cases b <;> exact post.elim)
  | exc c l st1 => rw [q] at post; exact post
  | bad => rw [q] at post; exact post
def forD (b : D → En → SR) : List D → En → SR
  | [], e => .nx e
  | x :: xs, e => match b x e with
    | .nx e' => forD b xs e'
    | .ct e' => forD b xs e'
    | .bk e' => .nx e'
    | r => r
def tgB (t : D → DE → Option DE) (b : En → SR) : D → En → SR := fun d E => match t d E.e with
  | some e' => b ⟨e', E.st⟩
  | none => .bad
def sFor (src : En → AR) (t : D → DE → Option DE) (b : En → SR) : En → SR := fun E => match src E with
  | .ok _ l st => forD (tgB t b) l ⟨E.e, st⟩
  | .exc c l st => .exc c l ⟨E.e, st⟩
  | .bad => .bad
theorem s_for {wi : TI} {g : TG} {tb : TS} {src : En → AR} {js : List Nat} {t : D → DE → Option DE} {b : En → SR} (hi : DIt G W wi src) (hg : DTg G g js t) (hb : DSt G W tb b) : DSt G W (tFor wi g tb) (sFor src t b) := by
  intro s t0 σ e st E k0 N post
  refine hi s t0 σ e st E k0 _ ?_
  unfold sFor at post
  cases q : src ⟨e, st⟩ with
  | ok p l st1 =>
    rw [q] at post
    have post : SPost G W s t0 N (forD (tgB t b) l ⟨e, st1⟩) := post
    intro t1 J g1 k1 it
    refine ⟨fun i m σ H => m = l.length - i ∧ i ≤ l.length ∧ ∃ t2 E2, t2.h = H ∧ Up t1 t2 ∧ EnvOk G s t2 σ E2.e ∧ StOk G t2 E2.st ∧ SPost G W s t2 N (forD (tgB t b) (l.drop i) E2),
      ⟨l.length, by simp, Nat.zero_le _, t1, ⟨e, st1⟩, rfl, Up.refl _, E.up g1, k1, SPost.mono g1.up post⟩, ?_⟩
    rintro i m σ2 H2 ⟨rfl, hi, t2, F2, rfl, s2, E2, k2, p2⟩
    obtain ⟨i1, i2⟩ := it i t2 F2.st s2 k2
    by_cases hlt : i < l.length
    · right
      have hd : l[i]? = some l[i] := List.getElem?_eq_getElem hlt
      obtain ⟨go, y⟩ := i2 _ hd
      rw [List.drop_eq_getElem_cons hlt] at p2
      refine ⟨go, fun σ' H' => i + 1 ≤ l.length ∧ ∃ t2 E2, t2.h = H' ∧ Up t1 t2 ∧ EnvOk G s t2 σ' E2.e ∧ StOk G t2 E2.st ∧ SPost G W s t2 N (forD (tgB t b) (l.drop (i + 1)) E2), fun σ' H' h => ⟨l.length - (i + 1), by omega, rfl, h⟩, fun x H' hy => ?_⟩
      obtain ⟨t3, rfl, g3, k3, i3⟩ := y x H' hy
      cases q3 : t l[i] F2.e with
      | none =>
        have : forD (tgB t b) (l[i] :: l.drop (i + 1)) F2 = .bad := by
          unfold forD tgB; rw [q3]
        rw [this] at p2
        exact p2.elim
      | some e3 =>
        have tgb : tgB t b l[i] F2 = b ⟨e3, F2.st⟩ := by unfold tgB; rw [q3]
        refine hg s t3 σ2 F2.e F2.st x l[i] (E2.up g3) k3 i3 _ e3 q3 fun σ4 E4 _ _ => ?_
        refine hb s t3 σ4 e3 F2.st E4 k3 _ ?_
        have p4 := SPost.mono g3.up p2
        unfold forD at p4
        rw [tgb] at p4
        have s3 := s2.trans g3.up
        cases q5 : b ⟨e3, F2.st⟩ with
        | nx e5 => rw [q5] at p4; exact fun t6 σ6 s6 E6 k6 => ⟨hlt, t6, e5, rfl, s3.trans s6, E6, k6, SPost.mono s6 p4⟩
        | ct e5 => rw [q5] at p4; exact fun t6 σ6 s6 E6 k6 => ⟨hlt, t6, e5, rfl, s3.trans s6, E6, k6, SPost.mono s6 p4⟩
        | bk e5 => rw [q5] at p4; exact p4
        | rt m d st => rw [q5] at p4; exact p4
        | exc c l e => rw [q5] at p4; exact p4
        | bad => rw [q5] at p4; exact p4
    · left
      have : i = l.length := by omega
      subst this
      refine ⟨i1 (Nat.le_refl _), ?_⟩
      rw [List.drop_length] at p2
      exact p2 t2 σ2 (Up.refl _) E2 k2
  | exc c l st1 => rw [q] at post; exact fun t' x g k' o => post t' σ x g.up (E.up g) k' o
  | bad => rw [q] at post; exact post
def whN (c : En → ER) (b : En → SR) : Nat → En → Option SR
  | 0, _ => none
  | n + 1, E => match c E with
    | .val _ (.bl true) st => (match b ⟨E.e, st⟩ with
      | .nx e' => whN c b n e'
      | .ct e' => whN c b n e'
      | .bk e' => some (.nx e')
      | r => some r)
    | .val _ (.bl false) st => some (.nx ⟨E.e, st⟩)
    | .exc k l st => some (.exc k l ⟨E.e, st⟩)
    | _ => some .bad
theorem whN_mono {c : En → ER} {b : En → SR} : ∀ {n m : Nat} {e : En} {r : SR}, whN c b n e = some r → n ≤ m → whN c b m e = some r
  | 0, _, _, _, h, _ => by cases h
  | n + 1, 0, _, _, _, hm => by omega
  | n + 1, m + 1, e, r, h, hm => by
    unfold whN at h ⊢
    split at h
    · split at h
      · rename_i q; exact whN_mono h (by omega)
      · rename_i q; exact whN_mono h (by omega)
      · exact h
      · exact h
    · exact h
    · exact h
    · exact h
open Classical in
noncomputable def sWhile (c : En → ER) (b : En → SR) : En → SR := fun e => if h : ∃ n r, whN c b n e = some r then Classical.choose (Classical.choose_spec h) else .bad
theorem sWhile_eq {c : En → ER} {b : En → SR} {n : Nat} {e : En} {r : SR} (h : whN c b n e = some r) : sWhile c b e = r := by
  have hx : ∃ n r, whN c b n e = some r := ⟨n, r, h⟩
  unfold sWhile
  rw [dif_pos hx]
  have h2 := Classical.choose_spec (Classical.choose_spec hx)
  have h3 := whN_mono h (Nat.le_max_left n (Classical.choose hx))
  have h4 := whN_mono h2 (Nat.le_max_right n (Classical.choose hx))
  rw [h3] at h4
  exact (Option.some.inj h4).symm
theorem s_while {tc : TT} {tb : TS} {c : En → ER} {b : En → SR} (hc : DTt G W tc c) (hb : DSt G W tb b) : DSt G W (tWhile tc tb) (sWhile c b) := by
  intro s t σ e st E k N post
  unfold sWhile at post
  split at post
  · rename_i hx
    have h2 := Classical.choose_spec (Classical.choose_spec hx)
    generalize Classical.choose (Classical.choose_spec hx) = r at post h2
    generalize Classical.choose hx = n at h2
    refine ⟨fun m σ H => ∃ t2 F2, t2.h = H ∧ Up t t2 ∧ EnvOk G s t2 σ F2.e ∧ StOk G t2 F2.st ∧ whN c b m F2 = some r, ⟨n, t, ⟨e, st⟩, rfl, Up.refl _, E, k, h2⟩, ?_⟩
    rintro m σ2 H2 ⟨t2, F2, rfl, s2, E2, k2, w2⟩
    cases m with
    | zero => cases w2
    | succ m =>
      unfold whN at w2
      refine tst_st (N := N) hc E2 k2 (fun k l st1 q => ?_) ?_ fun k bb st1 q t3 g3 k3 => ?_
      · have q : c F2 = .exc k l st1 := q
        rw [q] at w2
        cases w2
        exact SPost.mono s2 post
      · show ∃ m b st1, c F2 = .val m (.bl b) st1 ∨ ∃ k l, c F2 = .exc k l st1
        cases q : c F2 with
        | val k d st1 =>
          rw [q] at w2
          cases d with
          | bl x => exact ⟨k, x, st1, .inl rfl⟩
          | _ => cases w2; exact post.elim
        | exc k l st1 => exact ⟨.P, true, st1, .inr ⟨k, l, rfl⟩⟩
        | bad => rw [q] at w2; cases w2; exact post.elim
      · have q : c F2 = .val k (.bl bb) st1 := q
        rw [q] at w2
        cases bb with
        | false =>
          cases w2
          exact iteF (post t3 σ2 (s2.trans g3.up) (E2.up g3) k3)
        | true =>
          refine iteT ⟨fun σ H => ∃ t4 F4, t4.h = H ∧ Up t t4 ∧ EnvOk G s t4 σ F4.e ∧ StOk G t4 F4.st ∧ whN c b m F4 = some r, fun σ' H' h => ⟨m, Nat.lt_succ_self _, h⟩, ?_⟩
          refine hb s t3 σ2 F2.e st1 (E2.up g3) k3 _ ?_
          have s3 := s2.trans g3.up
          have w3 : (match b ⟨F2.e, st1⟩ with | .nx e' => whN c b m e' | .ct e' => whN c b m e' | .bk e' => some (.nx e') | r => some r) = some r := w2
          cases q5 : b ⟨F2.e, st1⟩ with
          | nx e5 => rw [q5] at w3; exact fun t6 σ6 s6 E6 k6 => ⟨t6, e5, rfl, s3.trans s6, E6, k6, w3⟩
          | ct e5 => rw [q5] at w3; exact fun t6 σ6 s6 E6 k6 => ⟨t6, e5, rfl, s3.trans s6, E6, k6, w3⟩
          | bk e5 => rw [q5] at w3; cases w3; exact SPost.mono s3 post
          | rt k d st => rw [q5] at w3; cases w3; exact SPost.mono s3 post
          | exc k l e => rw [q5] at w3; cases w3; exact SPost.mono s3 post
          | bad => rw [q5] at w3; cases w3; exact post.elim
  · exact post.elim
end
end Dn
namespace Dn
open PySem PySem.Spec PyProof.Rows L2
section
variable {G : Gm} {W : WX}
abbrev W0 : WX := fun _ _ _ _ => False
def wipeE (e : DE) : List Nat → DE
  | [] => e
  | v :: vs => (wipeE e vs).set v .emp
theorem EnvOk.wipe {s t : Hs} {σ : L2.St} {e : DE} (E : EnvOk G s t σ e) : ∀ vs : List Nat, EnvOk G s t (L2.wipe σ vs) (wipeE e vs)
  | [] => E
  | v :: vs => (E.wipe vs).set (x := .emp) trivial (fun l z => nomatch z)
theorem wipe_agree {σ τ : L2.St} {vs js : List Nat} (hl : τ.length = σ.length) (hj : ∀ j ∈ js, j ∈ vs) (h : ∀ i, i ∉ js → τ[i]? = (L2.wipe σ vs)[i]?) (hl2 : τ.length = (L2.wipe σ vs).length) : L2.wipe τ vs = L2.wipe σ vs := by
  have key : ∀ (σ : L2.St) (us : List Nat) (i : Nat), i ∈ us → i < σ.length → (L2.wipe σ us)[i]? = some none := by
    intro σ us
    induction us with
    | nil => intro i h; cases h
    | cons v us ih =>
      intro i h hi
      unfold L2.wipe
      by_cases z : v = i
      · subst z
        rw [List.getElem?_set_self (by rw [L2.wipe_length]; exact hi)]
      · rw [List.getElem?_set_ne z]
        rcases List.mem_cons.mp h with rfl | h
        · exact absurd rfl z
        · exact ih i h hi
  apply List.ext_getElem?
  intro i
  by_cases hi : i ∈ vs
  · by_cases hlt : i < σ.length
    · rw [key τ vs i hi (by omega), key σ vs i hi hlt]
    · rw [List.getElem?_eq_none (by rw [L2.wipe_length]; omega), List.getElem?_eq_none (by rw [L2.wipe_length]; omega)]
  · rw [L2.wipe_out hi, h i (fun z => hi (hj i z))]
def lcStep (t : D → DE → Option DE) (c f : En → ER) (e : DE) (d : D) (st : Sto) : Option (Option D × Sto) := match t d e with
  | none => none
  | some e2 => (match c ⟨e2, st⟩ with
    | .val _ (.bl b) st1 => if b = true then (match f ⟨e2, st1⟩ with | .val .P y st2 => some (some y, st2) | .val .N y st2 => some (some y, st2) | _ => none) else some (none, st1)
    | _ => none)
def lcGo (k : D → Sto → Option (Option D × Sto)) : List D → Sto → Option (List D × Sto)
  | [], st => some ([], st)
  | d :: l, st => (k d st).bind fun o => (lcGo k l o.2).bind fun r => some (o.1.toList ++ r.1, r.2)
def dLc (src : En → AR) (t : D → DE → Option DE) (c f : En → ER) (vs : List Nat) : En → ER := fun E => match src E with
  | .ok _ l st => if l.length ≤ 1000000 then ofOpt (lcGo (lcStep t c f (wipeE E.e vs)) l st) fun r => .val .N (.lst r.1) r.2 else .bad
  | .exc k l st => .exc k l st
  | .bad => .bad
theorem t_yes : DTt G W tYes (fun E => .val .P (.bl true) E.st) := fun s t σ e st E k Q post => post t (Gro.refl k) k
theorem v_lc {wi : TI} {g : TG} {tt : TT} {te : TE} {vs js : List Nat} {src : En → AR} {t : D → DE → Option DE} {c f : En → ER} (hi : DIt G W wi src) (hg : DTg G g js t) (hj : ∀ j ∈ js, j ∈ vs) (ht : DTt G W0 tt c) (he : DEv G W0 te f) : DEv G W (tLc wi g tt te vs) (dLc src t c f vs) := by
  intro s t0 σ e st E k0 Q post
  refine hi s t0 σ e st E k0 _ ?_
  unfold dLc at post
  cases q : src ⟨e, st⟩ with
  | ok p l st1 =>
    rw [q] at post
    obtain ⟨hlen, post⟩ := RPost.cond _ _ post
    obtain ⟨out, hout, post⟩ := RPost.opt _ _ post
    intro t1 J g1 k1 it Dl hD
    have hDH : t0.h Dl = none := by
      cases q : t0.h Dl with
      | none => rfl
      | some o =>
        by_cases i : Dl ∈ t0.as
        · exact absurd (g1.a.mem i) (k1.new hD)
        · rw [g1.h Dl o q i] at hD; cases hD
    have hD0 : s.h Dl = none := by
      cases q : s.h Dl with
      | none => rfl
      | some o =>
        by_cases i : Dl ∈ s.as
        · exact absurd (E.gr.a.mem i) (k0.new hDH)
        · rw [E.gr.h Dl o q i] at hDH; cases hDH
    have hDf : t1.f Dl = none := k1.sf.free hD
    have hDa : Dl ∉ t1.as := k1.new hD
    have Ew := (E.up g1).wipe vs
    have hne : ∀ (j : Nat) (m : List D), (L2.wipe σ vs)[j]? = some (some (.ref Dl)) → (wipeE e vs)[j]? = some (.own m) → False := fun j m a b => by
      obtain ⟨o, h1, p', vs', h2, _, _, h3, _⟩ := Ew.slot b
      rw [a] at h1; cases h1
      cases h2
      rw [hD] at h3; cases h3
    have gd := g1.chg (o := .lst []) hDH hDf
    refine ⟨fun i m H' => m = l.length - i ∧ i ≤ l.length ∧ ∃ t2 st2 acc vacc rest, t2.h = H' ∧ Up t1 t2 ∧ Gro t0 t2 ∧ StOk G t2 st2 ∧ EnvOk G s t2 (L2.wipe σ vs) (wipeE e vs) ∧ t2.h Dl = some (.lst vacc) ∧ IsL G t2.as t2.f vacc acc ∧ t2.f Dl = none ∧ Dl ∉ t2.as ∧ acc.length ≤ i ∧
      lcGo (lcStep t c f (wipeE e vs)) (l.drop i) st2 = some (rest, out.2) ∧ acc ++ rest = out.1, ⟨l.length, by simp, Nat.zero_le _, ⟨t1.as, t1.f, upd t1.h Dl (.lst [])⟩, st1, [], [], out.1, rfl, ⟨Ext.refl _, Same.refl _⟩, gd, k1.chg hDf hDa, Ew.other hD0 hDf hne, upd_same, .nil, hDf, hDa, Nat.zero_le _, hout, rfl⟩, ?_⟩
    rintro i m H2 ⟨rfl, hi, t2, st2, acc, vacc, rest, rfl, s2, g2, k2, E2, d2, a2, n2, na2, l2, r2, o2⟩
    obtain ⟨i1, i2⟩ := it i t2 st2 s2 k2
    by_cases hlt : i < l.length
    · right
      have hd : l[i]? = some l[i] := List.getElem?_eq_getElem hlt
      obtain ⟨go, y⟩ := i2 _ hd
      rw [List.drop_eq_getElem_cons hlt] at r2
      refine ⟨go, fun H' => i + 1 ≤ l.length ∧ ∃ t2 st2 acc vacc rest, t2.h = H' ∧ Up t1 t2 ∧ Gro t0 t2 ∧ StOk G t2 st2 ∧ EnvOk G s t2 (L2.wipe σ vs) (wipeE e vs) ∧ t2.h Dl = some (.lst vacc) ∧ IsL G t2.as t2.f vacc acc ∧ t2.f Dl = none ∧ Dl ∉ t2.as ∧ acc.length ≤ i + 1 ∧
        lcGo (lcStep t c f (wipeE e vs)) (l.drop (i + 1)) st2 = some (rest, out.2) ∧ acc ++ rest = out.1, fun H' h => ⟨l.length - (i + 1), by omega, rfl, h⟩, fun x H' hy => ?_⟩
      obtain ⟨t3, rfl, g3, k3, i3⟩ := y x H' hy
      unfold lcGo at r2
      cases sk : lcStep t c f (wipeE e vs) l[i] st2 with
      | none => rw [sk] at r2; cases r2
      | some o =>
        rw [sk] at r2
        have r2 : ((lcGo (lcStep t c f (wipeE e vs)) (l.drop (i + 1)) o.2).bind fun r => some (o.1.toList ++ r.1, r.2)) = some (rest, out.2) := r2
        cases lg : lcGo (lcStep t c f (wipeE e vs)) (l.drop (i + 1)) o.2 with
        | none => rw [lg] at r2; cases r2
        | some rest' =>
          rw [lg] at r2
          have r3 : (o.1.toList ++ rest'.1, rest'.2) = (rest, out.2) := Option.some.inj r2
          have r4 : o.1.toList ++ rest'.1 = rest := (Prod.mk.inj r3).1
          have r5 : rest'.2 = out.2 := (Prod.mk.inj r3).2
          have lg' : lcGo (lcStep t c f (wipeE e vs)) (l.drop (i + 1)) o.2 = some (rest'.1, out.2) := by rw [lg, ← r5]
          unfold lcStep at sk
          cases q3 : t l[i] (wipeE e vs) with
          | none => rw [q3] at sk; cases sk
          | some e3 =>
            rw [q3] at sk
            refine hg s t3 (L2.wipe σ vs) (wipeE e vs) st2 x l[i] (E2.up g3) k3 i3 _ e3 q3 fun σ4 E4 l4 w4 => ?_
            refine ⟨wipe_agree (by rw [l4, L2.wipe_length]) hj w4 l4, ?_⟩
            refine ht s t3 σ4 e3 st2 E4 k3 _ ?_
            have sk' : (match c ⟨e3, st2⟩ with
              | .val _ (.bl b) st1 => if b = true then (match f ⟨e3, st1⟩ with | .val .P y st2 => some (some y, st2) | .val .N y st2 => some (some y, st2) | _ => none) else some (none, st1)
              | _ => none) = some o := sk
            cases q4 : c ⟨e3, st2⟩ with
            | exc k l st => rw [q4] at sk'; cases sk'
            | bad => rw [q4] at sk'; cases sk'
            | val mm d st4 =>
              rw [q4] at sk'
              cases d with
              | bl b =>
                intro t5 g5 k5
                have gg := g3.trans g5
                cases b with
                | false =>
                  cases sk'
                  refine iteF ⟨hlt, t5, st4, acc, vacc, rest'.1, rfl, s2.trans gg.up, g2.trans gg, k5, E2.up gg, gg.h _ _ d2 na2, a2.up gg.a gg.f, gg.n _ _ d2 n2, (fun m => (gg.w Dl m).elim na2 fun z => by rw [d2] at z; cases z), by omega, lg', ?_⟩
                  rw [← o2, ← r4]; rfl
                | true =>
                  refine iteT (he s t5 σ4 e3 st4 (E4.up g5) k5 _ ?_)
                  have fin : ∀ y st6 t6 v, Gro t5 t6 → StOk G t6 st6 → Is G t6.as t6.f v y → o = (some y, st6) → ∃ acc, t6.h Dl = some (.lst acc) ∧ acc.length < sizeLine ∧ (i + 1 ≤ l.length ∧ ∃ t2 st2 acc_1 vacc rest, t2.h = upd t6.h Dl (.lst (acc ++ [v])) ∧ Up t1 t2 ∧ Gro t0 t2 ∧ StOk G t2 st2 ∧ EnvOk G s t2 (L2.wipe σ vs) (wipeE e vs) ∧
                      t2.h Dl = some (.lst vacc) ∧ IsL G t2.as t2.f vacc acc_1 ∧ t2.f Dl = none ∧ Dl ∉ t2.as ∧ acc_1.length ≤ i + 1 ∧ lcGo (lcStep t c f (wipeE e vs)) (l.drop (i + 1)) st2 = some (rest, out.2) ∧ acc_1 ++ rest = out.1) := fun y st6 t6 v g6 k6 i6 ho => by
                    subst ho
                    have gh := gg.trans g6
                    have nn := gh.n _ _ d2 n2
                    have na : Dl ∉ t6.as := fun m => (gh.w Dl m).elim na2 fun z => by rw [d2] at z; cases z
                    have cl := a2.len
                    refine ⟨vacc, gh.h _ _ d2 na2, by rw [cl]; exact szlt (by omega), hlt, ⟨t6.as, t6.f, upd t6.h Dl (.lst (vacc ++ [v]))⟩, st6, acc ++ [y], vacc ++ [v], rest'.1, rfl, ?_, (g2.trans gh).chg hDH nn, k6.chg nn na, (E2.up gh).other hD0 nn hne, upd_same, (a2.up gh.a gh.f).append (.one i6), nn, na, by simp; omega, lg', ?_⟩
                    · exact ⟨s2.a.trans gh.a, s2.f.trans gh.f⟩
                    · rw [← o2, ← r4]
                      simp
                  have sk2 : (match f ⟨e3, st4⟩ with | .val .P y st2 => some (some y, st2) | .val .N y st2 => some (some y, st2) | _ => none) = some o := sk'
                  cases q6 : f ⟨e3, st4⟩ with
                  | val m6 y st6 =>
                    rw [q6] at sk2
                    intro t6 v g6 k6 o6
                    cases m6 with
                    | P => exact fin y st6 t6 v g6 k6 o6 (Option.some.inj sk2).symm
                    | B => cases sk2
                    | N =>
                      obtain ⟨f7, g7, k7, _, i7⟩ := o6.freeze g6 k6 (by decide)
                      exact fin y st6 ⟨t6.as, f7, t6.h⟩ v g7 k7 i7 (Option.some.inj sk2).symm
                  | exc k l st => rw [q6] at sk2; cases sk2
                  | bad => rw [q6] at sk2; cases sk2
              | _ => cases sk'
    · left
      have : i = l.length := by omega
      subst this
      refine ⟨i1 (Nat.le_refl _), ?_⟩
      rw [List.drop_length] at r2
      have r3 : (([] : List D), st2) = (rest, out.2) := Option.some.inj r2
      have r4 : [] = rest := (Prod.mk.inj r3).1
      have r5 : st2 = out.2 := (Prod.mk.inj r3).2
      subst r4
      rw [List.append_nil] at o2
      rw [← o2, ← r5] at post
      exact post t2 _ g2 k2 ⟨Dl, vacc, acc, rfl, rfl, d2, a2, na2, hDH, n2⟩
  | exc c l st1 => rw [q] at post; exact post
  | bad => rw [q] at post; exact post
def sRaise (c : Nat) : En → SR := fun E => .exc c [] E
theorem s_raise {c : Nat} {C : Addr} (hc : G.ca c = C) : DSt G W (fun _ σ H => (fun (_ : L2.St) (H : Hp) (Q : XK) => Q (.ref C) none H) σ H fun cls d H' => W cls d σ H') (sRaise c) := by
  intro s t σ e st E k N post
  subst hc
  exact post t σ none (Up.refl _) E k (.inl ⟨rfl, rfl⟩)
def SR.ret : SR → ER
  | .nx E => .val .P .non E.st
  | .rt m d st => .val m d st
  | .exc c l E => .exc c l E.st
  | _ => .bad
def startE (n : Nat) (ds : List D) : DE := ds.map .val ++ List.replicate (n - ds.length) .emp
def fnD (n N : Nat) (g : En → SR) : List D → Sto → ER := fun ds st => if ds.length = n then (g ⟨startE N ds, st⟩).ret else .bad
theorem start_ok {N : List Str} {t : Hs} {st : Sto} {vs : List V} {ds : List D} (k : StOk G t st) (h : IsL G t.as t.f vs ds) : EnvOk G t t (L2.start N vs) (startE N.length ds) := by
  have hl := h.len
  have noown : ∀ (j : Nat) (m : List D), (startE N.length ds)[j]? ≠ some (.own m) := fun j m z => by
    unfold startE at z
    rw [List.getElem?_append] at z
    split at z
    · rw [List.getElem?_map] at z
      cases q : ds[j]? <;> rw [q] at z <;> cases z
    · rw [List.getElem?_replicate] at z
      split at z <;> cases z
  refine ⟨Gro.refl k, by simp [L2.start, startE, hl], fun i o sl a b => ?_, fun i j p l m hij a b => absurd b (noown i l)⟩
  unfold L2.start at a
  unfold startE at b
  rw [List.getElem?_append] at a b
  rw [List.length_map] at a b
  split at a
  · rename_i hi
    rw [if_pos (by omega)] at b
    rw [List.getElem?_map] at a b
    cases q : vs[i]? with
    | none => rw [q] at a; cases a
    | some v =>
      obtain ⟨d, h1, h2⟩ := h.getV q
      rw [q] at a; rw [h1] at b
      cases a; cases b
      exact ⟨v, rfl, h2⟩
  · rename_i hi
    rw [if_neg (by omega)] at b
    rw [List.getElem?_replicate] at b
    split at b
    · cases b; trivial
    · cases b
theorem body_ok {N : List Str} {vs : List V} {H : Hp} {Q : VK} {E : XK} {ts : TS} {g : En → SR} {n : Nat} {D0 : Ends} (h2 : DSt G (fun c x _ H => E c x H) ts g) (hnx : D0.nx = fun _ H => Q .non H) (hrt : D0.rt = Q)
    (h : spF G (fnD n N.length g) vs H Q E) : ts D0 (L2.start N vs) H := by
  obtain ⟨t, ds, st, rfl, k, i, p⟩ := h
  obtain ⟨hl, p⟩ := RPost.cond _ _ p
  refine h2 t t _ _ st (start_ok k i) k _ ?_
  cases q : g ⟨startE N.length ds, st⟩ with
  | nx e => rw [q] at p; exact fun t' σ' s' E' k' => by rw [hnx]; exact p t' .non E'.gr k' .non
  | rt m d st1 => rw [q] at p; exact fun t' v s' g' k' o => by rw [hrt]; exact p t' v g' k' o
  | bk e => rw [q] at p; exact p.elim
  | ct e => rw [q] at p; exact p.elim
  | exc c l e => rw [q] at p; exact fun t' σ' x s' E' k' o => p t' x E'.gr k' o
  | bad => rw [q] at p; exact p.elim
theorem sp_len {n N : Nat} {g : En → SR} {vs : List V} {H : Hp} {Q : VK} {E : XK} (h : spF G (fnD n N g) vs H Q E) : vs.length = n := by
  obtain ⟨t, ds, st, rfl, k, i, p⟩ := h
  unfold fnD at p
  split at p
  · rename_i hl; rw [i.len]; exact hl
  · exact p.elim
theorem fn_ok {P : Program} {w : World} {K : PySem.W.Frag} {mg : Str → Option Value} {base : Heap} {x qual : Str} {st : Stmt} {f : Addr} {fd : FuncData} {N ps : List Str} {k : Nat} {g : En → SR} {n : Nat} (hn : ps.length = n) {m : Nat} (hm : N.length = m)
    (F : Fun K x qual st f fd) (S : FnScope N ps (defScope st))
    (hbody : ∀ (cdv : Value) (A : Around) (outer : List Env) (s : Shared) (H : Hp) (E : XK), Room k (A.deeper (envOfC qual (defScope st) s.heap.objs.size f cdv)) →
      ∃ t, PSs (cxOf (L2.CX P w) P w K mg base N qual (defScope st) f cdv A outer s H E) (defBody st) t ∧ DSt G (fun c x _ H => E c x H) t g) : FnOk P w K mg base (L2.CX P w) (k + 1) f fd ps (spF G (fnD n m g)) := by
  subst hn hm
  refine F.okX S (fun vs H Q E h => sp_len h) fun cdv A outer s H vs Q E hr h => ?_
  obtain ⟨t, h1, h2⟩ := hbody cdv A outer s H E hr
  exact ⟨t, h1, body_ok h2 rfl rfl h⟩
end
end Dn
namespace Dn
open PySem PySem.Spec PyProof.Rows L2
def pickL {α : Type} (idx : List Nat) (l : List α) : List α := idx.filterMap fun k => l[k]?
structure CallB (K : PySem.W.Frag) (fd : FuncData) (ps : List Str) (n : Nat) (ks : List Str) (idx : List Nat) (dvs : List V) : Prop where
  ex : ∃ its : List Value, Vals dvs its ∧ ∀ (s : Shared) (us ws : List Value), K.In s.heap → us.length = n → ws.length = ks.length → BindsTo s fd ⟨us, ks.zip ws⟩ (ps.zip (pickL idx (us ++ ws ++ its)))
theorem vals_pick {vs : List V} {us : List Value} (h : Vals vs us) : ∀ idx : List Nat, Vals (pickL idx vs) (pickL idx us)
  | [] => .nil
  | k :: idx => by
    have ih := vals_pick h idx
    unfold pickL at ih ⊢
    rw [List.filterMap_cons, List.filterMap_cons]
    cases q : vs[k]? with
    | none => rw [h.none_of q]; exact ih
    | some v => obtain ⟨u, h1, h2⟩ := h.get q; rw [h1]; exact .cons h2 ih
theorem isL_pick {G : Gm} {as : List Addr} {H : Hp} {vs : List V} {ds : List D} (h : IsL G as H vs ds) : ∀ idx : List Nat, IsL G as H (pickL idx vs) (pickL idx ds)
  | [] => .nil
  | k :: idx => by
    have ih := isL_pick h idx
    unfold pickL at ih ⊢
    rw [List.filterMap_cons, List.filterMap_cons]
    cases q : ds[k]? with
    | none =>
      have : vs[k]? = none := by
        rw [List.getElem?_eq_none_iff] at q ⊢
        rw [h.len]; exact q
      rw [this]; exact ih
    | some d => obtain ⟨u, h1, h2⟩ := h.get q; rw [h1]; exact .cons h2 ih
def toV : D → V
  | .bl b => .bl b
  | .int i => .int i
  | .str x => .str x
  | _ => .non
theorem is_toV {G : Gm} {as : List Addr} {H : Hp} {d : D} (h : flat d = true) : Is G as H (toV d) d := by
  cases d <;> first | exact .non | exact .bl _ | exact .int _ | exact .str _ | cases h
theorem isL_toV {G : Gm} {as : List Addr} {H : Hp} : ∀ {ds : List D}, ds.all flat = true → IsL G as H (ds.map toV) ds
  | [], _ => .nil
  | d :: ds, h => by
    have h' : flat d = true ∧ ds.all flat = true := by simpa using h
    exact .cons (is_toV h'.1) (isL_toV h'.2)
def tCallG (n m : Nat) (idx : List Nat) (dvs : List V) (sp : Sp) (E : L2.St → XK) (t tk : TA) : TE := fun σ H Q => t σ H fun vs H1 => tk σ H1 fun zs H2 => vs.length = n ∧ zs.length = m ∧ sp (pickL idx (vs ++ zs ++ dvs)) H2 Q (E σ)
section
variable {X : Cx} {CX : CXT} {k n : Nat} {f : Addr} {fd : FuncData} {ps ks : List Str} {idx : List Nat} {dvs : List V} {sp : Sp} {E : L2.St → XK} {x : Str} {p pos : Pos} {e : Expr} {es : List Expr} {kws : List Keyword} {t tk : TA}
theorem run_fnG {pins : List (Addr × Obj)} {σ : L2.St} {H : Hp} {s : Shared} {Q : VK} {us ws : List Value} {vs zs : List V} (F : FnOk X.prog X.w X.K X.mg X.base CX k f fd ps sp) (hr : Room k X.A) (hb : CallB X.K fd ps n ks idx dvs) (hx : PassesAt CX X σ (E σ))
    (I : Inv X pins σ H s) (r : Vals vs us) (rz : Vals zs ws) (l1 : vs.length = n) (l2 : zs.length = ks.length) (h : sp (pickL idx (vs ++ zs ++ dvs)) H Q (E σ)) : wpAny (model X.prog X.w) X.A (call (.ref f) us (ks.zip ws)) (EP X pins σ Q) X.xe s := by
  obtain ⟨its, rd, hb⟩ := hb.ex
  refine wpAny_call (codeAny_mono (F.run X.A X.stack s H ⟨us, ks.zip ws⟩ (pickL idx (us ++ ws ++ its)) (pickL idx (vs ++ zs ++ dvs)) Q (E σ) hr I.env0 (hb s us ws I.kIn (r.length.symm.trans l1) (rz.length.symm.trans l2)) (vals_pick ((r.append rz).append rd) idx) h) fun r s' hq => ?_)
  cases r with
  | error e => exact hx pins H s e s' I hq
  | ok fl =>
    cases fl with
    | ret u => exact I.after hq
    | next => exact False.elim hq
    | brk => exact False.elim hq
    | cont => exact False.elim hq
theorem pe_gN (F : FnOk X.prog X.w X.K X.mg X.base CX k f fd ps sp) (hr : Room k X.A) (hg : Gl X x) (hm : X.mg x = some (.ref f)) (hk : PySem.W.keepIn X.K (.ref f) = true) (hb : CallB X.K fd ps n [] idx dvs) (hx : ∀ σ, PassesAt CX X σ (E σ))
    (ha : PA X (e :: es) t) (hdb : (x == ("__debug__" : Str)) = false := by decide) (he : starEach (e :: es) X.env = (false, eval e X.env) :: starEach es X.env := by rfl) (hpl : (backTo pos (starEach es X.env)).any (·.1) = false := by rfl) :
    PE X (.Call (.Name x p) (e :: es) [] pos) (tCallG n 0 idx dvs sp E t tNil) := by
  refine ⟨fun pins s σ H Q I h => ?_⟩
  refine wpAny_Call_Name_kw (ld_glob I hg hm ?_ hdb)
  refine PySem.W.callWith_K (h₀ := X.base) I.ok.mod.kin hk (thn (ha.run pos pins s σ H _ I h) fun us s1 ⟨vs, H1, I1, r, l1, l2, q⟩ => ⟨I1.kIn, ?_⟩) he hpl
  exact run_fnG (ks := []) (ws := []) (zs := []) F hr hb (hx σ) I1 r .nil l1 rfl q
end
end Dn
namespace Dn
open PySem PySem.Spec PyProof.Rows L2
section
variable {G : Gm} {W : WX}
def dCallG (F : List D → Sto → ER) (n m : Nat) (idx : List Nat) (dd : List D) (f g : En → AR) : En → ER := fun E => match f E with
  | .ok true l st => (match g ⟨E.e, st⟩ with
    | .ok true z st1 => if l.length = n ∧ z.length = m then F (pickL idx (l ++ z ++ dd)) st1 else .bad
    | .exc c l st => .exc c l st
    | _ => .bad)
  | .exc c l st => .exc c l st
  | _ => .bad
theorem v_callG {F : List D → Sto → ER} {n m : Nat} {idx : List Nat} {dd : List D} {ta tk : TA} {f g : En → AR} (hd : dd.all flat = true) (ha : DAr G W ta f) (hk : DAr G W tk g) : DEv G W (tCallG n m idx (dd.map toV) (spF G F) (WE W) ta tk) (dCallG F n m idx dd f g) := by
  intro s t σ e st E k Q post
  refine ha s t σ e st E k _ ?_
  unfold dCallG at post
  cases q : f ⟨e, st⟩ with
  | ok p l st1 =>
    rw [q] at post
    cases p with
    | false => exact post.elim
    | true =>
      have post : RPost G W t σ Q (match g ⟨e, st1⟩ with
        | .ok true z st1 => if l.length = n ∧ z.length = m then F (pickL idx (l ++ z ++ dd)) st1 else .bad
        | .exc c l st => .exc c l st
        | _ => .bad) := post
      intro t1 vs g1 k1 i1 u1
      have i1 := i1 rfl
      refine hk s t1 σ e st1 (E.up g1) k1 _ ?_
      cases q2 : g ⟨e, st1⟩ with
      | ok p2 z st2 =>
        rw [q2] at post
        cases p2 with
        | false => exact post.elim
        | true =>
          obtain ⟨c, post⟩ := RPost.cond (l.length = n ∧ z.length = m) (F (pickL idx (l ++ z ++ dd)) st2) post
          intro t2 zs g2 k2 i2 u2
          have i2 := i2 rfl
          refine ⟨by rw [u1.len]; exact c.1, by rw [u2.len]; exact c.2, t2, _, st2, rfl, k2, isL_pick (((i1.up g2.a g2.f).append i2).append (isL_toV hd)) idx, (RPost.step (g1.trans g2) k2 post).w (fun c x H' h => h)⟩
      | exc c l st2 => rw [q2] at post; exact fun t' x g' => post t' x (g1.trans g')
      | bad => rw [q2] at post; exact post
  | exc c l st1 => rw [q] at post; exact post
  | bad => rw [q] at post; exact post
def tyN : D → String
  | .non => "NoneType"
  | .bl _ => "bool"
  | .int _ => "int"
  | .str _ => "str"
  | .tup _ => "tuple"
  | .lst _ => "list"
  | .scr _ => "list"
  | .obj _ _ => "object"
  | .ptr _ => "object"
def isT (T : String) : D → Sto → ER
  | .obj _ _, _ => .bad
  | .scr _, _ => .bad
  | .ptr _, _ => .bad
  | d, st => ofOpt (kitB (tyN d) T) fun b => .val .P (.bl b) st
def plainT : D → Prop
  | .obj _ _ => False
  | .scr _ => False
  | .ptr _ => False
  | _ => True
theorem tyX_of {t : Hs} {v : V} {d : D} (s : Same t.f t.h) (h : U G t v d) (hd : plainT d) : TyX G.K t.h v (.type (tyN d)) := by
  cases d with
  | non => obtain rfl := h.non; exact .base .non
  | bl b => obtain rfl := h.bl; exact .base (.bl b)
  | int i => obtain rfl := h.int; exact .base (.int i)
  | str x => obtain rfl := h.str; exact .base (.str x)
  | tup l =>
    obtain ⟨p, vs, rfl, a, b⟩ := h.tup s
    rcases a with (a | ⟨o, a⟩) | ⟨o, its, n, hk, hc, _⟩
    · exact .base (.tup a)
    · exact .fTuple a
    · exact .kTuple hk hc
  | lst l => obtain ⟨p, vs, rfl, a, b⟩ := h.lst s; exact .base (.lst a)
  | obj c l => exact hd.elim
  | scr a => exact hd.elim
  | ptr n => exact hd.elim
def dIsi (T : String) (f : En → ER) : En → ER := fun E => (f E).bind (isT T)
theorem v_isi {T : String} {te : TE} {f : En → ER} (h : DEv G W te f) : DEv G W (tCB (rIsi G.K) (tCons te (tCons (tC (.ty T)) tNil))) (dIsi T f) := by
  intro s t σ e st E k Q post
  refine h s t σ e st E k _ (RPost.bind post fun m d st1 t1 v g1 k1 o1 p1 => ?_)
  have key : ∀ (hd : plainT d) (p1 : RPost G W t1 σ Q (ofOpt (kitB (tyN d) T) fun b => .val .P (.bl b) st1)), rIsi G.K [v, .ty T] t1.h Q := fun hd p1 => by
    obtain ⟨b, hb, p1⟩ := RPost.opt _ _ p1
    exact ⟨v, .ty T, _, _, b, rfl, .ty T, tyX_of k1.sf o1.u hd, kit_ty hb, p1.now k1 (.bl _)⟩
  cases d <;> first | exact key trivial p1 | exact p1.elim
def clr (e : DE) : DE := e.map fun s => match s with | .exn => .emp | .clo _ => .emp | s => s
theorem SlotOk.ea {s t : Hs} {o : Option V} {sl : SL} (x : Addr) (h : SlotOk G s t o sl) (hs : sl ≠ .exn ∧ ∀ ds, sl ≠ .clo ds) : SlotOk (G.at_ x) s t o sl := by
  cases sl with
  | emp => trivial
  | exn => exact absurd rfl hs.1
  | clo ds => exact absurd rfl (hs.2 ds)
  | val d => obtain ⟨v, a, b⟩ := h; exact ⟨v, a, b.ea x⟩
  | own l => obtain ⟨p, vs, a, b, c, d, e, f⟩ := h; exact ⟨p, vs, a, b, c, d, e.ea x, f⟩
theorem clr_get {e : DE} {i : Nat} {s : SL} (h : (clr e)[i]? = some s) : (s ≠ .exn ∧ ∀ ds, s ≠ .clo ds) ∧ (s = .emp ∨ e[i]? = some s) := by
  unfold clr at h
  rw [List.getElem?_map] at h
  cases q : e[i]? with
  | none => rw [q] at h; cases h
  | some s' =>
    rw [q] at h
    cases s' <;> cases h <;> first | exact ⟨⟨(fun z => nomatch z), fun _ z => nomatch z⟩, .inl rfl⟩ | exact ⟨⟨(fun z => nomatch z), fun _ z => nomatch z⟩, .inr rfl⟩
theorem EnvOk.ea {s t : Hs} {σ : L2.St} {e : DE} (x : Addr) (E : EnvOk G s t σ e) : EnvOk (G.at_ x) s t σ (clr e) := by
  refine ⟨E.gr, by rw [E.len]; simp [clr], fun i o s a b => ?_, fun i j p l m hij a b c d => ?_⟩
  · obtain ⟨h1, h2 | h2⟩ := clr_get b
    · subst h2; trivial
    · exact (E.at_ i o s a h2).ea x h1
  · obtain ⟨_, h2 | h2⟩ := clr_get b
    · cases h2
    · obtain ⟨_, h3 | h3⟩ := clr_get d
      · cases h3
      · exact E.dis i j p l m hij a h2 c h3
theorem ObOk.ea {s : Hs} {a : Addr} {o : Ob} (x : Addr) (h : ObOk G s a o) : ObOk (G.at_ x) s a o := by
  cases o with
  | lst l => obtain ⟨vs, h1, h2⟩ := h; exact ⟨vs, h1, h2.ea x⟩
  | ins c l => obtain ⟨dx, vs, h1, h2, h3⟩ := h; exact ⟨dx, vs, h1, h2, h3.ea x⟩
  | tbl q => exact h
  | dct l => obtain ⟨kvs, h1, h2⟩ := h; exact ⟨kvs, h1, h2.ea x⟩
theorem StOk.ea {s : Hs} {st : Sto} (x : Addr) (k : StOk G s st) : StOk (G.at_ x) s st := ⟨k.sf, k.len, k.nd, fun n a o h1 h2 => (k.ob n a o h1 h2).ea x, k.nf, k.tb, fun da h => by
  obtain ⟨xs, h1, h2, h3⟩ := k.ex da h
  exact ⟨xs, h1, h2, h3.ea x⟩⟩
def sTryAs (i : Nat) (catch? : Nat → Option Bool) (g : En → SR) (h : Nat → List D → En → SR) : En → SR := fun E => match g E with
  | .exc c l E1 => (match catch? c with
    | some true => (match h c l ⟨(clr E1.e).set i .exn, E1.st⟩ with
      | .nx E2 => .nx ⟨(clr E2.e).set i .emp, E2.st⟩
      | .bk E2 => .bk ⟨(clr E2.e).set i .emp, E2.st⟩
      | .ct E2 => .ct ⟨(clr E2.e).set i .emp, E2.st⟩
      | .rt m d st => .rt m d st
      | _ => .bad)
    | some false => .exc c l E1
    | none => .bad)
  | r => r
theorem VOk.ea {s t : Hs} {m : Md} {v : V} {d : D} (x : Addr) (h : VOk G s t m v d) : VOk (G.at_ x) s t m v d := by
  cases m with
  | P => exact Is.ea x _ h
  | B => obtain ⟨p, vs, l, a, b, c, e, f⟩ := h; exact ⟨p, vs, l, a, b, c, e.ea x, f⟩
  | N => obtain ⟨p, vs, l, a, b, c, e, f, n, z⟩ := h; exact ⟨p, vs, l, a, b, c, e.ea x, f, n, z⟩
def dIsE (i : Nat) (b : Option Bool) : En → ER := fun E => match E.e[i]? with
  | some .exn => ofOpt b fun b => .val .P (.bl b) E.st
  | _ => .bad
end
theorem fn_okD {G : Gm} {P : Program} {w : World} {K : PySem.W.Frag} {mg : Str → Option Value} {base : Heap} {x qual : Str} {params : Arguments} {body : List Stmt} {scope : Scope} {dvs : List V} {f : Addr} {fd : FuncData} {N ps : List Str} {k : Nat} {g : En → SR} {n : Nat} (hn : ps.length = n) {m : Nat} (hm : N.length = m)
    (F : FunD K x qual params body scope dvs [] f fd) (S : FnScope N ps scope)
    (hbody : ∀ (cdv : Value) (A : Around) (outer : List Env) (s : Shared) (H : Hp) (E : XK), Room k (A.deeper (envOfC qual scope s.heap.objs.size f cdv)) →
      ∃ t, PSs (cxOf (L2.CX P w) P w K mg base N qual scope f cdv A outer s H E) body t ∧ DSt G (fun c x _ H => E c x H) t g) : FnOk P w K mg base (L2.CX P w) (k + 1) f fd ps (spF G (fnD n m g)) := by
  subst hn hm
  refine F.ok S (fun vs H Q E h => sp_len h) fun cdv A outer s H vs Q E hr h => ?_
  obtain ⟨t, h1, h2⟩ := hbody cdv A outer s H E hr
  exact ⟨t, h1, body_ok h2 rfl rfl h⟩
theorem callB_d {K : PySem.W.Frag} {x qual : Str} {params : Arguments} {body : List Stmt} {scope : Scope} {T : Addr} {kV doc pm : Value} {an : Option Addr} {cdv ct : Value} {o : Obj} {its : List Value} {m : Nat} {dvs : List V} {ps ks : List Str} {n : Nat} {idx : List Nat} (lT : K.lookup T = some o) (oT : o.data = .seq its.toArray m) (rd : Vals dvs its)
    (h : ∀ (us ws : List Value), us.length = n → ws.length = ks.length → ∃ k, bindArgs (PySem.W.fnOf x qual params body scope (.ref T) kV doc pm an cdv ct) ⟨us, ks.zip ws⟩ = seqItems? (.ref T) >>= k ∧ k (some its.toArray) = pure (ps.zip (pickL idx (us ++ ws ++ its)))) :
    CallB K (PySem.W.fnOf x qual params body scope (.ref T) kV doc pm an cdv ct) ps n ks idx dvs :=
  ⟨its, rd, fun s us ws X l1 l2 => BindsTo.of_looks fun M => by
    obtain ⟨k, e1, e2⟩ := h us ws l1 l2
    rw [e1]
    exact looks_items X lT oT (.of_pure e2)⟩
theorem callB_n {K : PySem.W.Frag} {fd : FuncData} {ps ks : List Str} {n : Nat} {idx : List Nat} (h : ∀ (us ws : List Value), us.length = n → ws.length = ks.length → bindArgs fd ⟨us, ks.zip ws⟩ = pure (ps.zip (pickL idx (us ++ ws ++ [])))) : CallB K fd ps n ks idx [] :=
  ⟨[], .nil, fun s us ws X l1 l2 => .of_eq (h us ws l1 l2)⟩
def nilOnly (l : List D) (g : En → SR) : En → SR := fun e => match l with
  | [] => g e
  | _ => .bad
def Yes (r : ER) : Prop := ∃ st, r = .val .P (.bl true) st
end Dn
namespace Dn
open PySem PySem.Spec PyProof.Rows L2
section
variable {G : Gm} {W : WX}
def DMt (G : Gm) (r : V → List V → Hp → VK → Prop) (op : List D → List D → Option (D × List D)) : Prop :=
  ∀ (s : Hs) (p : Addr) (vs : List V) (l : List D) (xs : List V) (ds : List D) (o : D × List D), s.h p = some (.lst vs) → IsL G s.as s.f vs l → IsL G s.as s.f xs ds → op l ds = some o → Same s.f s.h →
    ∃ v vs', Is G s.as s.f v o.1 ∧ IsL G s.as s.f vs' o.2 ∧ ∀ Q : VK, Q v (upd s.h p (.lst vs')) → r (.ref p) xs s.h Q
def mAppend (l ds : List D) : Option (D × List D) := match ds with
  | [d] => if l.length < 1000000 then some (.non, l ++ [d]) else none
  | _ => none
def mInsert (l ds : List D) : Option (D × List D) := match ds with
  | [.int i, d] => if l.length < 1000000 ∧ 0 ≤ i ∧ i < 2 ^ 63 then some (.non, l.take i.toNat ++ [d] ++ l.drop i.toNat) else none
  | _ => none
def mPop (l ds : List D) : Option (D × List D) := match ds with
  | [] => (match l[l.length - 1]? with | some d => some (d, l.dropLast) | none => none)
  | _ => none
def mPopAt (l ds : List D) : Option (D × List D) := match ds with
  | [.int i] => if -(2 ^ 63) ≤ i ∧ i < 2 ^ 63 then (match seqIndex? i l.length with
    | some k => (match l[k]? with | some d => some (d, l.eraseIdx k) | none => none)
    | none => none) else none
  | _ => none
def mReverse (l ds : List D) : Option (D × List D) := match ds with
  | [] => some (.non, l.reverse)
  | _ => none
theorem m_append : DMt G rAppend mAppend := by
  intro s p vs l xs ds o hp il ix ho _sf
  unfold mAppend at ho
  split at ho
  · rename_i d
    split at ho
    · rename_i hl
      cases ho
      cases ix with
      | cons a b => cases b; exact ⟨.non, _, .non, il.append (.one a), fun Q q => ⟨p, vs, _, rfl, rfl, hp, by rw [il.len]; exact szlt hl, q⟩⟩
    · cases ho
  · cases ho
abbrev rInsert : V → List V → Hp → VK → Prop := fun x vs H Q => ∃ (l : Addr) (xs : List V) (i : Int) (y : V), x = .ref l ∧ vs = [.int i, y] ∧ H l = some (.lst xs) ∧ xs.length < sizeLine ∧ 0 ≤ i ∧ i < 2 ^ 63 ∧
    Q .non (upd H l (.lst (xs.take i.toNat ++ [y] ++ xs.drop i.toNat)))
theorem m_insert : DMt G rInsert mInsert := by
  intro s p vs l xs ds o hp il ix ho _sf
  unfold mInsert at ho
  split at ho
  · rename_i i d
    split at ho
    · rename_i hl
      cases ho
      cases ix with
      | cons a b =>
        cases b with
        | cons b c =>
          cases c
          cases a
          exact ⟨.non, _, .non, ((il.take _).append (.one b)).append (il.drop _), fun Q q => ⟨p, vs, i, _, rfl, rfl, hp, by rw [il.len]; exact szlt hl.1, hl.2.1, hl.2.2, q⟩⟩
    · cases ho
  · cases ho
theorem IsL.dropLast {as : List Addr} {H : Hp} {ds : List D} {vs : List V} (h : IsL G as H vs ds) : IsL G as H vs.dropLast ds.dropLast := by
  rw [List.dropLast_eq_take, List.dropLast_eq_take, h.len]
  exact h.take _
theorem m_popAt : DMt G rPopAt mPopAt := by
  intro s p vs l xs ds o hp il ix ho _sf
  unfold mPopAt at ho
  split at ho
  · rename_i i
    split at ho
    · rename_i hi
      split at ho
      · rename_i k hk
        split at ho
        · rename_i d hd
          cases ho
          cases ix with
          | cons a b =>
            cases b
            cases a
            obtain ⟨v, h1, h2⟩ := il.get hd
            exact ⟨v, _, h2, il.eraseIdx k, fun Q q => ⟨p, vs, i, k, v, rfl, rfl, hp, hi.1, hi.2, by rw [il.len]; exact hk, h1, q⟩⟩
        · cases ho
      · cases ho
    · cases ho
  · cases ho
def dMtP (op : List D → List D → Option (D × List D)) (fb : En → ER) (fa : En → AR) : En → ER := fun E => match fb E with
  | .val _ (.ptr n) st => (match stLst st n with
    | some _ => (match fa ⟨E.e, st⟩ with
      | .ok true ds st1 => (match stLst st1 n with
        | some l => (match op l ds with | some o => .val .P o.1 (st1.set n (.lst o.2)) | none => .bad)
        | none => .bad)
      | .exc c l st => .exc c l st
      | _ => .bad)
    | none => .bad)
  | .exc c l st => .exc c l st
  | _ => .bad
theorem mt_end {r : V → List V → Hp → VK → Prop} {op : List D → List D → Option (D × List D)} (hm : DMt G r op) {t : Hs} {st : Sto} {n : Nat} {p : Addr} {xs : List V} {ds l : List D} {o : D × List D} (k : StOk G t st) (hp : t.as[n]? = some p) (hl : stLst st n = some l) (ix : IsL G t.as t.f xs ds) (ho : op l ds = some o) {σ : L2.St} {Q : VK}
    (post : RPost G W t σ Q (.val .P o.1 (st.set n (.lst o.2)))) : r (.ref p) xs t.h Q := by
  obtain ⟨vs, hh, il⟩ := k.lst hp hl
  obtain ⟨v, vs', h1, h2, h3⟩ := hm t p vs l xs ds o hh il ix ho k.sf
  exact h3 Q (post ⟨t.as, t.f, upd t.h p (.lst vs')⟩ v (Gro.mod (Gro.refl k) k hp) (k.mod hp ⟨vs', upd_same, h2⟩) h1)
theorem v_mtP {r : V → List V → Hp → VK → Prop} {op : List D → List D → Option (D × List D)} {tb : TE} {ta : TA} {fb : En → ER} {fa : En → AR} (hm : DMt G r op) (hb : DEv G W tb fb) (ha : DAr G W ta fa) : DEv G W (tBM G.K "list" r tb ta) (dMtP op fb fa) := by
  intro s t σ e st E k Q post
  unfold dMtP at post
  refine hb s t σ e st E k _ ?_
  cases q : fb ⟨e, st⟩ with
  | val m d st1 =>
    rw [q] at post
    cases d <;> first | exact post.elim | skip
    rename_i n
    cases hl : stLst st1 n with
    | none => simp only [hl] at post; exact post.elim
    | some l0 =>
      simp only [hl] at post
      intro t1 v g1 k1 o1
      obtain ⟨p, rfl, hp⟩ := o1.u.ptr
      obtain ⟨vs, hh, _⟩ := k1.lst hp hl
      refine ⟨.inl ⟨rfl, vs, SqL.of hh⟩, ha s t1 σ e st1 (E.up g1) k1 _ ?_⟩
      cases q2 : fa ⟨e, st1⟩ with
      | ok b ds st2 =>
        rw [q2] at post
        cases b with
        | false => exact post.elim
        | true =>
          intro t2 xs g2 k2 i2 _
          cases hl2 : stLst st2 n with
          | none => simp only [hl2] at post; exact post.elim
          | some l =>
            simp only [hl2] at post
            cases ho : op l ds with
            | none => simp only [ho] at post; exact post.elim
            | some o =>
              simp only [ho] at post
              exact mt_end hm k2 (g2.a n p hp) hl2 (i2 rfl) ho (RPost.step (g1.trans g2) k2 post)
      | exc c l st2 => rw [q2] at post; exact fun t' x g' => post t' x (g1.trans g')
      | bad => rw [q2] at post; exact post
  | exc c l st1 => rw [q] at post; exact post
  | bad => rw [q] at post; exact post
def putAt (j : Option Nat) (d : D) (e : DE) : DE := match j with
  | some j => e.set j (.val d)
  | none => e
def sMtO (j : Option Nat) (op : List D → List D → Option (D × List D)) (i : Nat) (fa : En → AR) : En → SR := fun E => match E.e[i]? with
  | some (.own l) => (match fa E with
    | .ok true ds st1 => (match op l ds with | some o => .nx ⟨putAt j o.1 (E.e.set i (.own o.2)), st1⟩ | none => .bad)
    | .exc c l st => .exc c l ⟨E.e, st⟩
    | _ => .bad)
  | _ => .bad
theorem mtO_run {r : V → List V → Hp → VK → Prop} {op : List D → List D → Option (D × List D)} {ta : TA} {fa : En → AR} {i : Nat} (hm : DMt G r op) (ha : DAr G W ta fa) {s t : Hs} {σ : L2.St} {e : DE} {st : Sto} {l : List D} (E : EnvOk G s t σ e) (k : StOk G t st) (hx : e[i]? = some (.own l)) {N : Ends} {Q : VK} {j : Option Nat}
    (post : SPost G W s t N (match fa ⟨e, st⟩ with
      | .ok true ds st1 => (match op l ds with | some o => .nx ⟨putAt j o.1 (e.set i (.own o.2)), st1⟩ | none => .bad)
      | .exc c l st => .exc c l ⟨e, st⟩
      | _ => .bad))
    (fin : ∀ t' v d st1 l', Up t t' → EnvOk G s t' σ (e.set i (.own l')) → StOk G t' st1 → Is G t'.as t'.f v d → SPost G W s t N (.nx ⟨putAt j d (e.set i (.own l')), st1⟩) → Q v t'.h) : tBM G.K "list" r (tVar i) ta σ t.h Q := by
  obtain ⟨o, hσ, p, vs, rfl, p0, pf, ph, pl, pa⟩ := E.slot hx
  refine ⟨_, hσ, .inl ⟨rfl, vs, SqL.of ph⟩, ha s t σ e st E k _ ?_⟩
  cases q2 : fa ⟨e, st⟩ with
  | ok b ds st2 =>
    rw [q2] at post
    cases b with
    | false => exact post.elim
    | true =>
      intro t2 xs g2 k2 i2 _
      cases ho : op l ds with
      | none => simp only [ho] at post; exact post.elim
      | some o =>
        simp only [ho] at post
        have hp' : t2.h p = some (.lst vs) := g2.h _ _ ph pa
        have hf' : t2.f p = none := g2.n _ _ ph pf
        have ha' : p ∉ t2.as := fun m => (g2.w p m).elim pa fun z => by rw [ph] at z; cases z
        obtain ⟨v, vs', h1, h2, h3⟩ := hm t2 p vs l xs ds o hp' (pl.up g2.a g2.f) (i2 rfl) ho k2.sf
        exact h3 _ (fin ⟨t2.as, t2.f, upd t2.h p (.lst vs')⟩ v o.1 st2 o.2 ⟨g2.a, g2.f⟩ ((E.up g2).chg hσ hx p0 hf' h2 ha') (k2.chg hf' ha') h1 post)
  | exc c l st2 => rw [q2] at post; exact fun t' x g' k' o => post t' σ x g'.up (E.up g') k' o
  | bad => rw [q2] at post; exact post
theorem s_mtO {r : V → List V → Hp → VK → Prop} {op : List D → List D → Option (D × List D)} {ta : TA} {fa : En → AR} {i : Nat} (hm : DMt G r op) (ha : DAr G W ta fa) : DSt G W (tDrop (tBM G.K "list" r (tVar i) ta)) (sMtO none op i fa) := by
  intro s t σ e st E k N post
  unfold sMtO at post
  split at post
  · rename_i l hx
    exact mtO_run hm ha E k hx post fun t' v d st1 l' u E' k' _ p => p t' σ u E' k'
  · exact post.elim
def sMt (op : List D → List D → Option (D × List D)) (i : Nat) (fa : En → AR) : En → SR := fun E => match E.e[i]? with
  | some (.own _) => sMtO none op i fa E
  | _ => sDrop (dMtP op (dVar i) fa) E
theorem s_mt {r : V → List V → Hp → VK → Prop} {op : List D → List D → Option (D × List D)} {ta : TA} {fa : En → AR} {i : Nat} (hm : DMt G r op) (ha : DAr G W ta fa) : DSt G W (tDrop (tBM G.K "list" r (tVar i) ta)) (sMt op i fa) := by
  intro s t σ e st E k N post
  unfold sMt at post
  split at post
  · exact s_mtO hm ha s t σ e st E k N post
  · exact s_drop (v_mtP hm v_var ha) s t σ e st E k N post
def sMtA (j : Nat) (op : List D → List D → Option (D × List D)) (i : Nat) (fa : En → AR) : En → SR := fun E => match E.e[i]? with
  | some (.own _) => sMtO (some j) op i fa E
  | _ => sSetF j (dMtP op (dVar i) fa) E
end
end Dn
namespace Dn
open PySem PySem.Spec PyProof.Rows L2
def stIns (st : Sto) (n : Nat) : Option (Nat × List D) := match st[n]? with
  | some (.ins c l) => some (c, l)
  | _ => none
section
variable {G : Gm} {W : WX}
theorem StOk.ins {s : Hs} {st : Sto} {n c : Nat} {l : List D} {p : Addr} (k : StOk G s st) (ha : s.as[n]? = some p) (h : stIns st n = some (c, l)) : ∃ dx vs, s.h p = some (.ins (G.ca c) dx ((G.fn c).zip vs)) ∧ vs.length ≤ (G.fn c).length ∧ IsL G s.as s.f vs l := by
  unfold stIns at h
  split at h
  · rename_i c' l' q
    cases h
    exact k.ob n p _ ha q
  · cases h
structure FldOk (G : Gm) (f : Str) (ix : Nat → Option Nat) : Prop where
  ok : ∀ c i, ix c = some i → (G.fn c)[i]? = some f ∧ (G.fn c).Nodup ∧ (G.fn c).length < 1000 ∧ Cls G.K (G.ca c) ∧ NoAttr G.K (G.ca c) f
theorem zip_lookup {f : Str} : ∀ {ns : List Str} {vs : List V} {i : Nat} {v : V}, ns.Nodup → ns[i]? = some f → vs[i]? = some v → (ns.zip vs).lookup f = some v
  | [], _, _, _, _, h, _ => by simp at h
  | n :: ns, [], _, _, _, _, h => by simp at h
  | n :: ns, w :: vs, 0, v, _, h1, h2 => by
    simp at h1 h2
    subst h1; subst h2
    simp [List.zip_cons_cons, List.lookup]
  | n :: ns, w :: vs, i + 1, v, hn, h1, h2 => by
    have hn' := List.nodup_cons.mp hn
    have h1' : ns[i]? = some f := by simpa using h1
    have h2' : vs[i]? = some v := by simpa using h2
    have ne : f ≠ n := fun z => hn'.1 (z ▸ List.mem_of_getElem? h1')
    have : (f == n) = false := by simpa using ne
    simp only [List.zip_cons_cons, List.lookup, this]
    exact zip_lookup hn'.2 h1' h2'
theorem zip_no {f : Str} : ∀ {ns : List Str} (vs : List V), f ∉ ns → (ns.zip vs).lookup f = none
  | [], _, _ => rfl
  | n :: ns, [], _ => rfl
  | n :: ns, w :: vs, h => by
    have h' : f ≠ n ∧ f ∉ ns := by simpa using h
    have : (f == n) = false := by simpa using h'.1
    simp only [List.zip_cons_cons, List.lookup, this]
    exact zip_no vs h'.2
def putI (i : Nat) (d : D) (l : List D) : Option (List D) := if i < l.length then some (l.set i d) else if i = l.length then some (l ++ [d]) else none
theorem zip_put {f : Str} {z : V} : ∀ {ns : List Str} {vs : List V} {i : Nat}, ns.Nodup → ns[i]? = some f → i ≤ vs.length → putF f z (ns.zip vs) = ns.zip (if i < vs.length then vs.set i z else vs ++ [z])
  | [], _, _, _, h, _ => by simp at h
  | n :: ns, [], i, _, h1, h2 => by
    have : i = 0 := by simpa using h2
    subst this
    simp at h1
    subst h1
    simp [putF]
  | n :: ns, w :: vs, 0, _, h1, _ => by
    simp at h1
    subst h1
    simp [putF, List.zip_cons_cons]
  | n :: ns, w :: vs, i + 1, hn, h1, h2 => by
    have hn' := List.nodup_cons.mp hn
    have h1' : ns[i]? = some f := by simpa using h1
    have ne : n ≠ f := fun z => hn'.1 (z ▸ List.mem_of_getElem? h1')
    have ih := zip_put (z := z) hn'.2 h1' (vs := vs) (by simpa using h2)
    simp only [List.zip_cons_cons, putF, if_neg ne, ih]
    by_cases c : i < vs.length
    · simp [c]
    · simp [c]
def dFld (ix : Nat → Option Nat) (fe : En → ER) : En → ER := fun E => (fe E).bind fun x st => match x with
  | .ptr n => (match stIns st n with
    | some (c, l) => (match ix c with
      | some i => ofOpt l[i]? fun d => .val .P d st
      | none => .bad)
    | none => .bad)
  | _ => .bad
theorem v_fld {f : Str} {ix : Nat → Option Nat} {te : TE} {fe : En → ER} (hf : FldOk G f ix) (he : DEv G W te fe) : DEv G W (tFld G.K te f) (dFld ix fe) := by
  intro s t σ e st E k Q post
  refine he s t σ e st E k _ (RPost.bind post fun m d st1 t1 v g1 k1 o1 p1 => ?_)
  cases d <;> first | exact p1.elim | skip
  rename_i n
  obtain ⟨p, rfl, hp⟩ := o1.u.ptr
  cases hi : stIns st1 n with
  | none => simp only [hi] at p1; exact p1.elim
  | some cl =>
    obtain ⟨c, l⟩ := cl
    simp only [hi] at p1
    cases hx : ix c with
    | none => simp only [hx] at p1; exact p1.elim
    | some i =>
      simp only [hx] at p1
      obtain ⟨d, hd, p1⟩ := RPost.opt _ _ p1
      obtain ⟨dx, vs, hh, hl, il⟩ := k1.ins hp hi
      obtain ⟨v, h1, h2⟩ := il.get hd
      obtain ⟨fi, fnd, _, fc, fa⟩ := hf.ok c i hx
      exact ⟨p, _, dx, _, v, rfl, hh, fc, fa, zip_lookup fnd fi h1, p1.now k1 h2⟩
def sFldS (ix : Nat → Option Nat) (fo fe : En → ER) : En → SR := fun E => match fe E with
  | .val .B _ _ => .bad
  | .val _ d st => (match fo ⟨E.e, st⟩ with
    | .val _ (.ptr n) st1 => (match stIns st1 n with
      | some (c, l) => (match ix c with
        | some i => (match putI i d l with
          | some l' => .nx ⟨E.e, st1.set n (.ins c l')⟩
          | none => .bad)
        | none => .bad)
      | none => .bad)
    | .exc c l st => .exc c l ⟨E.e, st⟩
    | _ => .bad)
  | .exc c l st => .exc c l ⟨E.e, st⟩
  | .bad => .bad
theorem s_fldS {f : Str} {ix : Nat → Option Nat} {to te : TE} {fo fe : En → ER} (hf : FldOk G f ix) (ho : DEv G W to fo) (he : DEv G W te fe) : DSt G W (sFld G.K to te f) (sFldS ix fo fe) := by
  intro s t σ e st E k N post
  unfold sFldS at post
  refine ev_st (N := N) he E k (fun c l st1 q => by rw [q] at post; exact post) (fun q => by rw [q] at post; exact post) fun m d st1 q t1 v g1 k1 o1 => ?_
  rw [q] at post
  have fin : ∀ f2, Gro t ⟨t1.as, f2, t1.h⟩ → StOk G ⟨t1.as, f2, t1.h⟩ st1 → Is G t1.as f2 v d → SPost G W s t N (match fo ⟨e, st1⟩ with
    | .val _ (.ptr n) st1 => (match stIns st1 n with
      | some (c, l) => (match ix c with
        | some i => (match putI i d l with
          | some l' => .nx ⟨e, st1.set n (.ins c l')⟩
          | none => .bad)
        | none => .bad)
      | none => .bad)
    | .exc c l st => .exc c l ⟨e, st⟩
    | _ => .bad) → to σ t1.h fun x H2 => ∃ a C dx fs, x = .ref a ∧ H2 a = some (.ins C dx fs) ∧ Cls G.K C ∧ NoAttr G.K C f ∧ fs.length < 1000 ∧ N.nx σ (upd H2 a (.ins C dx (putF f v fs))) := fun f2 g2 k2 i2 post => by
    refine ev_st (N := N) ho (E.up g2) k2 (fun c l st3 q3 => ?_) (fun q3 => ?_) fun mb db st3 q3 t3 b g3 k3 o3 => ?_
    · rw [q3] at post; exact SPost.mono g2.up post
    · rw [q3] at post; exact post
    · rw [q3] at post
      cases db <;> try exact post.elim
      rename_i n
      obtain ⟨p, rfl, hp⟩ := o3.u.ptr
      have g23 := g2.trans g3
      cases hi : stIns st3 n with
      | none => simp only [hi] at post; exact post.elim
      | some cl =>
        obtain ⟨c, l⟩ := cl
        simp only [hi] at post
        cases hx : ix c with
        | none => simp only [hx] at post; exact post.elim
        | some i =>
          simp only [hx] at post
          cases hu : putI i d l with
          | none => simp only [hu] at post; exact post.elim
          | some l' =>
            simp only [hu] at post
            obtain ⟨dx, vs, hh, hl, il⟩ := k3.ins hp hi
            obtain ⟨fi, fnd, flen, fc, fa⟩ := hf.ok c i hx
            have ile := il.len
            have hik : i ≤ vs.length := by
              rw [ile]
              unfold putI at hu
              split at hu
              · omega
              · split at hu
                · omega
                · cases hu
            refine ⟨p, _, dx, _, rfl, hh, fc, fa, by rw [List.length_zip]; omega, ?_⟩
            rw [zip_put fnd fi hik]
            have iv := i2.up g3.a g3.f
            have il' : IsL G t3.as t3.f (if i < vs.length then vs.set i v else vs ++ [v]) l' := by
              unfold putI at hu
              rw [ile]
              split at hu
              · rename_i c1
                cases hu
                rw [if_pos c1]; exact il.set iv i
              · rename_i c1
                split at hu
                · cases hu; rw [if_neg c1]; exact il.append (.one iv)
                · cases hu
            have hlen : (if i < vs.length then vs.set i v else vs ++ [v]).length ≤ (G.fn c).length := by
              have : i < (G.fn c).length := (List.getElem?_eq_some_iff.mp fi).1
              split
              · simpa using hl
              · simp; omega
            exact post ⟨t3.as, t3.f, upd t3.h p (.ins (G.ca c) dx ((G.fn c).zip _))⟩ σ ⟨g23.a, g23.f⟩ ((E.up g23).modS k3 hp) (k3.mod hp ⟨dx, _, upd_same, hlen, il'⟩)
  cases m with
  | P => exact fin t1.f g1 k1 o1 post
  | B => exact post.elim
  | N =>
    obtain ⟨f2, g2, k2, _, i2⟩ := o1.freeze g1 k1 (by decide)
    exact fin f2 g2 k2 i2 post
end
def tMethG (C : Addr) (m : Str) (n r : Nat) (idx : List Nat) (dvs : List V) (sp : Sp) (E : L2.St → XK) (ta : TE) (t tk : TA) : TE := fun σ H Q => ta σ H fun x H1 => ∃ a dx fs, x = .ref a ∧ H1 a = some (.ins C dx fs) ∧ fs.lookup m = none ∧
  t σ H1 fun vs H2 => tk σ H2 fun zs H3 => (x :: vs).length = n ∧ zs.length = r ∧ sp (pickL idx ((x :: vs) ++ zs ++ dvs)) H3 Q (E σ)
section
variable {X : Cx} {CX : CXT} {k n : Nat} {f C : Addr} {fd : FuncData} {ps ks : List Str} {idx : List Nat} {dvs : List V} {sp : Sp} {E : L2.St → XK} {x m : Str} {p pos apos : Pos} {o e : Expr} {es : List Expr} {kws : List Keyword} {ta : TE} {t tk : TA}
theorem pe_mN {pl : Sem Bool} (he : PE X o ta) (c : Cls X.K C) (hm : Meth X.K C m f) (F : FnOk X.prog X.w X.K X.mg X.base CX k f fd ps sp) (hr : Room k X.A) (hb : CallB X.K fd ps n [] idx dvs) (hx : ∀ σ, PassesAt CX X σ (E σ)) (ha : PA X (e :: es) t)
    (hst : starEach (e :: es) X.env = (false, eval e X.env) :: starEach es X.env := by rfl) (hpl : (backTo pos (starEach es X.env)).any (·.1) = false := by rfl)
    (ht : eval (.Call (.Attribute o m apos) (e :: es) [] pos) X.env = (do
      let ov ← eval o X.env
      standAt apos.atName
      let (f, first) ← holding [ov] (getMethod ov m pl)
      callWith pos f first (backTo pos (starEach (e :: es) X.env)) (backToKw pos (keywordEach [] X.env))) := by rfl) :
    PE X (.Call (.Attribute o m apos) (e :: es) [] pos) (tMethG C m n 0 idx dvs sp E ta t tNil) := by
  refine ⟨fun pins s σ H Q I h => ?_⟩
  refine PySem.W.methodCall_KW (pl := pl) (thn (he.run pins s σ H _ I h) fun u s1 ⟨x, H1, I1, rx, a, dx, fs, ex, ea, l, q⟩ => ?_) ht
  subst ex
  obtain rfl : u = Value.ref a := rx
  refine getmeth_ok I1 ea c hm l ?_
  refine PySem.W.callWith_K (first := [.ref a]) (h₀ := X.base) I.ok.mod.kin hm.kp (thn (ha.run pos pins s1 σ H1 _ I1 q) fun us s2 ⟨vs, H2, I2, r, l1, l2, q2⟩ => ⟨I2.kIn, ?_⟩) hst hpl
  exact run_fnG (us := .ref a :: us) (vs := .ref a :: vs) (ks := []) (ws := []) (zs := []) F hr hb (hx σ) I2 (.cons rfl r) .nil l1 rfl q2
theorem pe_m0 {pl : Sem Bool} (he : PE X o ta) (c : Cls X.K C) (hm : Meth X.K C m f) (F : FnOk X.prog X.w X.K X.mg X.base CX k f fd ps sp) (hr : Room k X.A) (hb : CallB X.K fd ps n [] idx dvs) (hx : ∀ σ, PassesAt CX X σ (E σ))
    (ht : eval (.Call (.Attribute o m apos) [] [] pos) X.env = (do
      let ov ← eval o X.env
      standAt apos.atName
      let (f, first) ← holding [ov] (getMethod ov m pl)
      callWith pos f first (backTo pos (starEach [] X.env)) (backToKw pos (keywordEach [] X.env))) := by rfl) :
    PE X (.Call (.Attribute o m apos) [] [] pos) (tMethG C m n 0 idx dvs sp E ta tNil tNil) := by
  refine ⟨fun pins s σ H Q I h => ?_⟩
  refine PySem.W.methodCall_KW (pl := pl) (thn (he.run pins s σ H _ I h) fun u s1 ⟨x, H1, I1, rx, a, dx, fs, ex, ea, l, q⟩ => ?_) ht
  subst ex
  obtain rfl : u = Value.ref a := rx
  refine getmeth_ok I1 ea c hm l ?_
  obtain ⟨l1, l2, q⟩ := q
  exact PySem.W.callWith_K0 (first := [.ref a]) I1.kIn hm.kp (run_fnG (us := [.ref a]) (vs := [.ref a]) (ks := []) (ws := []) (zs := []) F hr hb (hx σ) I1 (.cons rfl .nil) .nil l1 rfl q)
def tMakeG (C : Addr) (n r : Nat) (idx : List Nat) (dvs : List V) (sp : Sp) (E : L2.St → XK) (t tk : TA) : TE := fun σ H Q => t σ H fun vs H1 => tk σ H1 fun zs H2 => vs.length + 1 = n ∧ zs.length = r ∧ ∀ x dx, H2 x = none → H2 dx = none → dx ≠ x →
  sp (pickL idx ((.ref x :: vs) ++ zs ++ dvs)) (upd (upd H2 dx (.own x)) x (.ins C dx [])) (fun v H3 => v = .non ∧ Q (.ref x) H3) (E σ)
theorem run_makeG {pins : List (Addr × Obj)} {σ : L2.St} {H : Hp} {s : Shared} {Q : VK} {us ws : List Value} {vs zs : List V} (M : Mk X.K C f) (F : FnOk X.prog X.w X.K X.mg X.base CX k f fd ps sp) (hr : Room (k + 1) X.A) (hb : CallB X.K fd ps n ks idx dvs)
    (hx : PassesAt CX X σ (E σ)) (I : Inv X pins σ H s) (r : Vals vs us) (rz : Vals zs ws) (l1 : vs.length + 1 = n) (l2 : zs.length = ks.length)
    (h : ∀ x dx, H x = none → H dx = none → dx ≠ x → sp (pickL idx ((.ref x :: vs) ++ zs ++ dvs)) (upd (upd H dx (.own x)) x (.ins C dx [])) (fun v H2 => v = .non ∧ Q (.ref x) H2) (E σ)) :
    wpAny (model X.prog X.w) X.A (call (.ref C) us (ks.zip ws)) (EP X pins σ Q) X.xe s := by
  have hq := h (s.heap.objs.size + 1) s.heap.objs.size (I.hok.fresh (Nat.le_succ _)) (I.hok.fresh (Nat.le_refl _)) (Nat.ne_of_lt (Nat.lt_succ_self _))
  have I2 := Inv.made (C := C) I
  obtain ⟨its, rd, hb⟩ := hb.ex
  have r1 : Vals (V.ref (s.heap.objs.size + 1) :: vs) (Value.ref (s.heap.objs.size + 1) :: us) := .cons rfl r
  have l3 : (Value.ref (s.heap.objs.size + 1) :: us).length = n := by rw [← r1.length]; exact l1
  refine wpAny_call (make_map (f := f) I.kIn M.makes M.init (beq_iff_eq.mp M.fn) (codeAny_mono (F.run _ X.stack _ _ ⟨Value.ref (s.heap.objs.size + 1) :: us, ks.zip ws⟩ (pickL idx ((Value.ref (s.heap.objs.size + 1) :: us) ++ ws ++ its)) _ _ (E σ) (hr.make C us (ks.zip ws))
    (I2.env0.make C us (ks.zip ws)) (hb _ (Value.ref (s.heap.objs.size + 1) :: us) ws I2.kIn l3 (rz.length.symm.trans l2)) (vals_pick ((r1.append rz).append rd) idx) hq) fun r s' hq' => ?_))
  cases r with
  | error e => exact hx pins _ _ e s' I2 hq'
  | ok fl =>
    cases fl with
    | ret u =>
      obtain ⟨v, H', I3, rv, ev, q3⟩ := I2.after hq'
      subst ev
      exact ⟨rv, ⟨V.ref (s.heap.objs.size + 1), H', I3, rfl, q3⟩⟩
    | next => exact False.elim hq'
    | brk => exact False.elim hq'
    | cont => exact False.elim hq'
theorem pe_kN (M : Mk X.K C f) (F : FnOk X.prog X.w X.K X.mg X.base CX k f fd ps sp) (hr : Room (k + 1) X.A) (hg : Gl X x) (hm : X.mg x = some (.ref C)) (hb : CallB X.K fd ps n [] idx dvs) (hx : ∀ σ, PassesAt CX X σ (E σ))
    (ha : PA X (e :: es) t) (hdb : (x == ("__debug__" : Str)) = false := by decide) (he : starEach (e :: es) X.env = (false, eval e X.env) :: starEach es X.env := by rfl) (hpl : (backTo pos (starEach es X.env)).any (·.1) = false := by rfl) :
    PE X (.Call (.Name x p) (e :: es) [] pos) (tMakeG C n 0 idx dvs sp E t tNil) := by
  refine ⟨fun pins s σ H Q I h => ?_⟩
  refine wpAny_Call_Name_kw (ld_glob I hg hm ?_ hdb)
  refine PySem.W.callWith_K (h₀ := X.base) I.ok.mod.kin M.kp (thn (ha.run pos pins s σ H _ I h) fun us s1 ⟨vs, H1, I1, r, l1, l2, q⟩ => ⟨I1.kIn, ?_⟩) he hpl
  exact run_makeG (ks := []) (ws := []) (zs := []) M F hr hb (hx σ) I1 r .nil l1 rfl q
theorem PE.or {X : Cx} {e : Expr} {t u : TE} (h : PE X e t) (h' : PE X e u) : PE X e (fun σ H Q => t σ H Q ∨ u σ H Q) :=
  ⟨fun pins s σ H Q I z => z.elim (fun z => h.run pins s σ H Q I z) (fun z => h'.run pins s σ H Q I z)⟩
end
section
variable {G : Gm} {W : WX}
def dMeth (c : Nat) (F : List D → Sto → ER) (n r : Nat) (idx : List Nat) (dd : List D) (fo : En → ER) (fa fk : En → AR) : En → ER := fun E => (fo E).bind fun x st => match x with
  | .ptr p => (match stIns st p with
    | some (c', _) => if c' = c then (match fa ⟨E.e, st⟩ with
      | .ok true l st1 => (match fk ⟨E.e, st1⟩ with
        | .ok true z st2 => if l.length + 1 = n ∧ z.length = r then F (pickL idx ((.ptr p :: l) ++ z ++ dd)) st2 else .bad
        | .exc c l st => .exc c l st
        | _ => .bad)
      | .exc c l st => .exc c l st
      | _ => .bad) else .bad
    | none => .bad)
  | _ => .bad
theorem v_meth {c n r : Nat} {m : Str} {F : List D → Sto → ER} {idx : List Nat} {dd : List D} {to : TE} {ta tk : TA} {fo : En → ER} {fa fk : En → AR} (hm : m ∉ G.fn c) (hd : dd.all flat = true) (ho : DEv G W to fo) (ha : DAr G W ta fa) (hk : DAr G W tk fk) : DEv G W (tMethG (G.ca c) m n r idx (dd.map toV) (spF G F) (WE W) to ta tk) (dMeth c F n r idx dd fo fa fk) := by
  intro s t σ e st E k Q post
  refine ho s t σ e st E k _ (RPost.bind post fun mo d st1 t1 v g1 k1 o1 p1 => ?_)
  cases d <;> first | exact p1.elim | skip
  rename_i p
  obtain ⟨a, rfl, hp⟩ := o1.u.ptr
  cases hi : stIns st1 p with
  | none => simp only [hi] at p1; exact p1.elim
  | some cl =>
    obtain ⟨c', l0⟩ := cl
    simp only [hi] at p1
    obtain ⟨hc, p2⟩ := RPost.cond _ _ p1
    clear p1
    have p1 := p2
    clear p2
    subst hc
    obtain ⟨dx, fs, hh, hl, il⟩ := k1.ins hp hi
    refine ⟨a, dx, _, rfl, hh, zip_no fs hm, ha s t1 σ e st1 (E.up g1) k1 _ ?_⟩
    cases q : fa ⟨e, st1⟩ with
    | ok b l st2 =>
      rw [q] at p1
      cases b with
      | false => exact p1.elim
      | true =>
        have p1 : RPost G W t1 σ Q (match fk ⟨e, st2⟩ with
          | .ok true z st2 => if l.length + 1 = n ∧ z.length = r then F (pickL idx ((.ptr p :: l) ++ z ++ dd)) st2 else .bad
          | .exc c l st => .exc c l st
          | _ => .bad) := p1
        intro t2 vs g2 k2 i2 u2
        have i2 := i2 rfl
        refine hk s t2 σ e st2 ((E.up g1).up g2) k2 _ ?_
        cases q2 : fk ⟨e, st2⟩ with
        | ok b2 z st3 =>
          rw [q2] at p1
          cases b2 with
          | false => exact p1.elim
          | true =>
            obtain ⟨hc, p1⟩ := RPost.cond (l.length + 1 = n ∧ z.length = r) (F (pickL idx ((.ptr p :: l) ++ z ++ dd)) st3) p1
            intro t3 zs g3 k3 i3 u3
            have i3 := i3 rfl
            have ip : IsL G t3.as t3.f (.ref a :: vs) (.ptr p :: l) := .cons (.ptr (g3.a _ _ (g2.a _ _ hp))) (i2.up g3.a g3.f)
            exact ⟨by rw [← hc.1]; simp [u2.len], by rw [u3.len]; exact hc.2, t3, _, st3, rfl, k3, isL_pick ((ip.append i3).append (isL_toV hd)) idx, (RPost.step (g2.trans g3) k3 p1).w (fun c x H' h => h)⟩
        | exc c l st3 => rw [q2] at p1; exact fun t' x g' => p1 t' x (g2.trans g')
        | bad => rw [q2] at p1; exact p1
    | exc c l st2 => rw [q] at p1; exact p1
    | bad => rw [q] at p1; exact p1
def isC (c : Nat) (fo : En → ER) (E : En) : Bool := match fo E with
  | .val _ (.ptr n) st => (match stIns st n with | some (c', _) => c' == c | none => false)
  | _ => false
def dAlt (p : En → Bool) (f g : En → ER) : En → ER := fun E => if p E = true then f E else g E
def dMake (c : Nat) (F : List D → Sto → ER) (n r : Nat) (idx : List Nat) (dd : List D) (fa fk : En → AR) : En → ER := fun E => match fa E with
  | .ok true l st => (match fk ⟨E.e, st⟩ with
    | .ok true z st1 => if l.length + 1 = n ∧ z.length = r then (match F (pickL idx ((.ptr st1.length :: l) ++ z ++ dd)) (st1 ++ [.ins c []]) with
      | .val _ .non st2 => .val .P (.ptr st1.length) st2
      | .exc c l st => .exc c l st
      | _ => .bad) else .bad
    | .exc c l st => .exc c l st
    | _ => .bad)
  | .exc c l st => .exc c l st
  | _ => .bad
theorem v_make {c n r : Nat} {F : List D → Sto → ER} {idx : List Nat} {dd : List D} {ta tk : TA} {fa fk : En → AR} (hd : dd.all flat = true) (ha : DAr G W ta fa) (hk : DAr G W tk fk) : DEv G W (tMakeG (G.ca c) n r idx (dd.map toV) (spF G F) (WE W) ta tk) (dMake c F n r idx dd fa fk) := by
  intro s t σ e st E k Q post
  unfold dMake at post
  refine ha s t σ e st E k _ ?_
  cases q : fa ⟨e, st⟩ with
  | ok b l st2 =>
    rw [q] at post
    cases b with
    | false => exact post.elim
    | true =>
      have post : RPost G W t σ Q (match fk ⟨e, st2⟩ with
        | .ok true z st1 => if l.length + 1 = n ∧ z.length = r then (match F (pickL idx ((.ptr st1.length :: l) ++ z ++ dd)) (st1 ++ [.ins c []]) with
          | .val _ .non st2 => .val .P (.ptr st1.length) st2
          | .exc c l st => .exc c l st
          | _ => .bad) else .bad
        | .exc c l st => .exc c l st
        | _ => .bad) := post
      intro t2 vs g2 k2 i2 u2
      have i2 := i2 rfl
      refine hk s t2 σ e st2 (E.up g2) k2 _ ?_
      cases q2 : fk ⟨e, st2⟩ with
      | ok b2 z st3 =>
        rw [q2] at post
        cases b2 with
        | false => exact post.elim
        | true =>
          obtain ⟨hc, post⟩ := RPost.cond (l.length + 1 = n ∧ z.length = r) _ post
          intro t3 zs g3 k3 i3 u3
          have i3 := i3 rfl
          refine ⟨by rw [u2.len]; exact hc.1, by rw [u3.len]; exact hc.2, fun x dx hx hdx hne => ?_⟩
          have g4 := Gro.loose (o := .own x) k3 hdx
          have k4 := k3.loose (o := .own x) hdx
          have hx4 : upd t3.h dx (.own x) x = none := by rw [upd_ne (fun z => hne z.symm)]; exact hx
          have g5 := Gro.loose (o := .ins (G.ca c) dx []) k4 hx4
          have k5 := k4.loose (o := .ins (G.ca c) dx []) hx4
          have hf5 : t3.f x = none := k3.sf.free hx
          have hx0 : t.h x = none := by
            cases qx : t.h x with
            | none => rfl
            | some o =>
              by_cases i : x ∈ t.as
              · exact absurd ((g2.trans g3).a.mem i) (k3.new hx)
              · rw [(g2.trans g3).h x o qx i] at hx; cases hx
          have g6 := ((g2.trans g3).trans (g4.trans g5)).put k5 hx0 hf5
          have k6 : StOk G ⟨t3.as ++ [x], t3.f, upd (upd t3.h dx (.own x)) x (.ins (G.ca c) dx [])⟩ (st3 ++ [.ins c []]) :=
            k5.put (o := .ins c []) hf5 (k3.new hx) ⟨dx, [], by show upd _ x _ x = _; rw [upd_same, List.zip_nil_right], Nat.zero_le _, .nil⟩
          have hpx : (t3.as ++ [x])[st3.length]? = some x := by
            rw [← k3.len, List.getElem?_append_right (Nat.le_refl _)]; simp
          have ip : IsL G (t3.as ++ [x]) t3.f (.ref x :: vs) (.ptr st3.length :: l) := .cons (.ptr hpx) ((i2.up g3.a g3.f).up (Ext.app _ _) (Same.refl _))
          refine ⟨⟨t3.as ++ [x], t3.f, upd (upd t3.h dx (.own x)) x (.ins (G.ca c) dx [])⟩, _, st3 ++ [.ins c []], rfl, k6, isL_pick ((ip.append (i3.up (Ext.app _ _) (Same.refl _))).append (isL_toV hd)) idx, ?_⟩
          cases q3 : F (pickL idx ((.ptr st3.length :: l) ++ z ++ dd)) (st3 ++ [.ins c []]) with
          | val m d st4 =>
            rw [q3] at post
            cases d <;> first | exact post.elim | skip
            intro t7 v g7 k7 o7
            obtain rfl := o7.u.non
            exact ⟨rfl, post t7 _ (g6.trans g7) k7 (.ptr (g7.a _ _ hpx))⟩
          | exc c l st4 =>
            rw [q3] at post
            exact fun t7 x7 g7 k7 o7 => post t7 x7 (g6.trans g7) k7 o7
          | bad => rw [q3] at post; exact post.elim
      | exc c l st3 => rw [q2] at post; exact fun t' x g' => post t' x (g2.trans g')
      | bad => rw [q2] at post; exact post
  | exc c l st1 => rw [q] at post; exact post
  | bad => rw [q] at post; exact post
end
end Dn
namespace Dn
open PySem PySem.Spec PyProof.Rows L2
section
variable {G : Gm} {W : WX}
def ItOkE (G : Gm) (s : Hs) (σ : L2.St) (e : DE) (vs : List Nat) (t1 : Hs) (J : It) (l : List D) : Prop := ∀ (i : Nat) (t : Hs) (st : Sto), Up t1 t → EnvOk G s t (L2.wipe σ vs) (wipeE e vs) → StOk G t st → (l.length ≤ i → J.stop i t.h) ∧
  ∀ d, l[i]? = some d → J.go i t.h ∧ ∀ x H', J.yld i t.h x H' → ∃ t', t'.h = H' ∧ Gro t t' ∧ StOk G t' st ∧ Is G t'.as t'.f x d
def IPostE (G : Gm) (W : WX) (s : Hs) (e : DE) (vs : List Nat) (t : Hs) (σ : L2.St) (R : It → Hp → Prop) : AR → Prop
  | .ok _ l st => ∀ t' J, Gro t t' → StOk G t' st → ItOkE G s σ e vs t' J l → R J t'.h
  | .exc c l st => ∀ t' x, Gro t t' → StOk G t' st → ExcOk G t' c l x → W (.ref (G.ca c)) x σ t'.h
  | .bad => False
def DItE (G : Gm) (W : WX) (vs : List Nat) (wi : TI) (f : En → AR) : Prop := ∀ s t σ e st, EnvOk G s t σ e → StOk G t st → ∀ R : It → Hp → Prop, IPostE G W s e vs t σ R (f ⟨e, st⟩) → wi σ t.h R
theorem DIt.e {vs : List Nat} {wi : TI} {f : En → AR} (h : DIt G W wi f) : DItE G W vs wi f := by
  intro s t σ e st E k R post
  refine h s t σ e st E k R ?_
  cases q : f ⟨e, st⟩ with
  | ok p l st1 => rw [q] at post; exact fun t' J g k' it => post t' J g k' fun i t2 st2 u _ k2 => it i t2 st2 u k2
  | exc c l st1 => rw [q] at post; exact post
  | bad => rw [q] at post; exact post
def dIterV (i : Nat) : En → AR := fun E => match E.e[i]? with
  | some (.own l) => .ok false l E.st
  | _ => dIter (dVar i) E
theorem wipe_get {σ : L2.St} {e : DE} {i : Nat} : ∀ {vs : List Nat}, i ∉ vs → (L2.wipe σ vs)[i]? = σ[i]? ∧ (wipeE e vs)[i]? = e[i]?
  | [], _ => ⟨rfl, rfl⟩
  | v :: vs, h => by
    have h' : i ≠ v ∧ i ∉ vs := by simpa using h
    obtain ⟨a, b⟩ := wipe_get (σ := σ) (e := e) h'.2
    refine ⟨L2.wipe_out h, ?_⟩
    unfold wipeE
    rw [List.getElem?_set_ne (Ne.symm h'.1)]
    exact b
theorem i_own {i : Nat} {vs : List Nat} (hi : i ∉ vs) : DItE G W vs (iAny G.K (tVar i)) (dIterV i) := by
  intro s t σ e st E k R post
  unfold dIterV at post
  split at post
  · rename_i l q
    obtain ⟨o, h1, p, ws, rfl, a, b, c, d, f⟩ := E.slot q
    refine .inl ⟨_, h1, p, rfl, ⟨_, SqL.of c⟩, post t _ (Gro.refl k) k ?_⟩
    intro j t2 st2 u E2 k2
    obtain ⟨w1, w2⟩ := wipe_get (σ := σ) (e := e) hi
    obtain ⟨o2, g1, p2, vs2, g2, a2, b2, c2, d2, f2⟩ := E2.slot (w2.trans q)
    have w1' := w1.trans h1
    rw [g1] at w1'
    cases w1'
    cases g2
    refine ⟨fun hj => ⟨vs2, SqL.of c2, by rw [d2.len]; exact hj⟩, fun x hx => ?_⟩
    obtain ⟨v, v1, v2⟩ := d2.get hx
    refine ⟨⟨vs2, v, SqL.of c2, v1⟩, fun y H' z => ?_⟩
    obtain ⟨rfl, z⟩ := z
    have := z vs2 (SqL.of c2)
    rw [v1] at this; cases this
    exact ⟨t2, rfl, Gro.refl k2, k2, v2⟩
  · exact (DIt.e (vs := vs) (i_any v_var)) s t σ e st E k R post
theorem v_lcE {wi : TI} {g : TG} {tt : TT} {te : TE} {vs js : List Nat} {src : En → AR} {t : D → DE → Option DE} {c f : En → ER} (hi : DItE G W vs wi src) (hg : DTg G g js t) (hj : ∀ j ∈ js, j ∈ vs) (ht : DTt G W0 tt c) (he : DEv G W0 te f) : DEv G W (tLc wi g tt te vs) (dLc src t c f vs) := by
  intro s t0 σ e st E k0 Q post
  refine hi s t0 σ e st E k0 _ ?_
  unfold dLc at post
  cases q : src ⟨e, st⟩ with
  | ok p l st1 =>
    rw [q] at post
    obtain ⟨hlen, post⟩ := RPost.cond _ _ post
    obtain ⟨out, hout, post⟩ := RPost.opt _ _ post
    intro t1 J g1 k1 it Dl hD
    have hDH : t0.h Dl = none := by
      cases q : t0.h Dl with
      | none => rfl
      | some o =>
        by_cases i : Dl ∈ t0.as
        · exact absurd (g1.a.mem i) (k1.new hD)
        · rw [g1.h Dl o q i] at hD; cases hD
    have hD0 : s.h Dl = none := by
      cases q : s.h Dl with
      | none => rfl
      | some o =>
        by_cases i : Dl ∈ s.as
        · exact absurd (E.gr.a.mem i) (k0.new hDH)
        · rw [E.gr.h Dl o q i] at hDH; cases hDH
    have hDf : t1.f Dl = none := k1.sf.free hD
    have hDa : Dl ∉ t1.as := k1.new hD
    have Ew := (E.up g1).wipe vs
    have hne : ∀ (j : Nat) (m : List D), (L2.wipe σ vs)[j]? = some (some (.ref Dl)) → (wipeE e vs)[j]? = some (.own m) → False := fun j m a b => by
      obtain ⟨o, h1, p', vs', h2, _, _, h3, _⟩ := Ew.slot b
      rw [a] at h1; cases h1
      cases h2
      rw [hD] at h3; cases h3
    have gd := g1.chg (o := .lst []) hDH hDf
    refine ⟨fun i m H' => m = l.length - i ∧ i ≤ l.length ∧ ∃ t2 st2 acc vacc rest, t2.h = H' ∧ Up t1 t2 ∧ Gro t0 t2 ∧ StOk G t2 st2 ∧ EnvOk G s t2 (L2.wipe σ vs) (wipeE e vs) ∧ t2.h Dl = some (.lst vacc) ∧ IsL G t2.as t2.f vacc acc ∧ t2.f Dl = none ∧ Dl ∉ t2.as ∧ acc.length ≤ i ∧
      lcGo (lcStep t c f (wipeE e vs)) (l.drop i) st2 = some (rest, out.2) ∧ acc ++ rest = out.1, ⟨l.length, by simp, Nat.zero_le _, ⟨t1.as, t1.f, upd t1.h Dl (.lst [])⟩, st1, [], [], out.1, rfl, ⟨Ext.refl _, Same.refl _⟩, gd, k1.chg hDf hDa, Ew.other hD0 hDf hne, upd_same, .nil, hDf, hDa, Nat.zero_le _, hout, rfl⟩, ?_⟩
    rintro i m H2 ⟨rfl, hi, t2, st2, acc, vacc, rest, rfl, s2, g2, k2, E2, d2, a2, n2, na2, l2, r2, o2⟩
    obtain ⟨i1, i2⟩ := it i t2 st2 s2 E2 k2
    by_cases hlt : i < l.length
    · right
      have hd : l[i]? = some l[i] := List.getElem?_eq_getElem hlt
      obtain ⟨go, y⟩ := i2 _ hd
      rw [List.drop_eq_getElem_cons hlt] at r2
      refine ⟨go, fun H' => i + 1 ≤ l.length ∧ ∃ t2 st2 acc vacc rest, t2.h = H' ∧ Up t1 t2 ∧ Gro t0 t2 ∧ StOk G t2 st2 ∧ EnvOk G s t2 (L2.wipe σ vs) (wipeE e vs) ∧ t2.h Dl = some (.lst vacc) ∧ IsL G t2.as t2.f vacc acc ∧ t2.f Dl = none ∧ Dl ∉ t2.as ∧ acc.length ≤ i + 1 ∧
        lcGo (lcStep t c f (wipeE e vs)) (l.drop (i + 1)) st2 = some (rest, out.2) ∧ acc ++ rest = out.1, fun H' h => ⟨l.length - (i + 1), by omega, rfl, h⟩, fun x H' hy => ?_⟩
      obtain ⟨t3, rfl, g3, k3, i3⟩ := y x H' hy
      unfold lcGo at r2
      cases sk : lcStep t c f (wipeE e vs) l[i] st2 with
      | none => rw [sk] at r2; cases r2
      | some o =>
        rw [sk] at r2
        have r2 : ((lcGo (lcStep t c f (wipeE e vs)) (l.drop (i + 1)) o.2).bind fun r => some (o.1.toList ++ r.1, r.2)) = some (rest, out.2) := r2
        cases lg : lcGo (lcStep t c f (wipeE e vs)) (l.drop (i + 1)) o.2 with
        | none => rw [lg] at r2; cases r2
        | some rest' =>
          rw [lg] at r2
          have r3 : (o.1.toList ++ rest'.1, rest'.2) = (rest, out.2) := Option.some.inj r2
          have r4 : o.1.toList ++ rest'.1 = rest := (Prod.mk.inj r3).1
          have r5 : rest'.2 = out.2 := (Prod.mk.inj r3).2
          have lg' : lcGo (lcStep t c f (wipeE e vs)) (l.drop (i + 1)) o.2 = some (rest'.1, out.2) := by rw [lg, ← r5]
          unfold lcStep at sk
          cases q3 : t l[i] (wipeE e vs) with
          | none => rw [q3] at sk; cases sk
          | some e3 =>
            rw [q3] at sk
            refine hg s t3 (L2.wipe σ vs) (wipeE e vs) st2 x l[i] (E2.up g3) k3 i3 _ e3 q3 fun σ4 E4 l4 w4 => ?_
            refine ⟨wipe_agree (by rw [l4, L2.wipe_length]) hj w4 l4, ?_⟩
            refine ht s t3 σ4 e3 st2 E4 k3 _ ?_
            have sk' : (match c ⟨e3, st2⟩ with
              | .val _ (.bl b) st1 => if b = true then (match f ⟨e3, st1⟩ with | .val .P y st2 => some (some y, st2) | .val .N y st2 => some (some y, st2) | _ => none) else some (none, st1)
              | _ => none) = some o := sk
            cases q4 : c ⟨e3, st2⟩ with
            | exc k l st => rw [q4] at sk'; cases sk'
            | bad => rw [q4] at sk'; cases sk'
            | val mm d st4 =>
              rw [q4] at sk'
              cases d with
              | bl b =>
                intro t5 g5 k5
                have gg := g3.trans g5
                cases b with
                | false =>
                  cases sk'
                  refine iteF ⟨hlt, t5, st4, acc, vacc, rest'.1, rfl, s2.trans gg.up, g2.trans gg, k5, E2.up gg, gg.h _ _ d2 na2, a2.up gg.a gg.f, gg.n _ _ d2 n2, (fun m => (gg.w Dl m).elim na2 fun z => by rw [d2] at z; cases z), by omega, lg', ?_⟩
                  rw [← o2, ← r4]; rfl
                | true =>
                  refine iteT (he s t5 σ4 e3 st4 (E4.up g5) k5 _ ?_)
                  have fin : ∀ y st6 t6 v, Gro t5 t6 → StOk G t6 st6 → Is G t6.as t6.f v y → o = (some y, st6) → ∃ acc, t6.h Dl = some (.lst acc) ∧ acc.length < sizeLine ∧ (i + 1 ≤ l.length ∧ ∃ t2 st2 acc_1 vacc rest, t2.h = upd t6.h Dl (.lst (acc ++ [v])) ∧ Up t1 t2 ∧ Gro t0 t2 ∧ StOk G t2 st2 ∧ EnvOk G s t2 (L2.wipe σ vs) (wipeE e vs) ∧
                      t2.h Dl = some (.lst vacc) ∧ IsL G t2.as t2.f vacc acc_1 ∧ t2.f Dl = none ∧ Dl ∉ t2.as ∧ acc_1.length ≤ i + 1 ∧ lcGo (lcStep t c f (wipeE e vs)) (l.drop (i + 1)) st2 = some (rest, out.2) ∧ acc_1 ++ rest = out.1) := fun y st6 t6 v g6 k6 i6 ho => by
                    subst ho
                    have gh := gg.trans g6
                    have nn := gh.n _ _ d2 n2
                    have na : Dl ∉ t6.as := fun m => (gh.w Dl m).elim na2 fun z => by rw [d2] at z; cases z
                    have cl := a2.len
                    refine ⟨vacc, gh.h _ _ d2 na2, by rw [cl]; exact szlt (by omega), hlt, ⟨t6.as, t6.f, upd t6.h Dl (.lst (vacc ++ [v]))⟩, st6, acc ++ [y], vacc ++ [v], rest'.1, rfl, ?_, (g2.trans gh).chg hDH nn, k6.chg nn na, (E2.up gh).other hD0 nn hne, upd_same, (a2.up gh.a gh.f).append (.one i6), nn, na, by simp; omega, lg', ?_⟩
                    · exact ⟨s2.a.trans gh.a, s2.f.trans gh.f⟩
                    · rw [← o2, ← r4]
                      simp
                  have sk2 : (match f ⟨e3, st4⟩ with | .val .P y st2 => some (some y, st2) | .val .N y st2 => some (some y, st2) | _ => none) = some o := sk'
                  cases q6 : f ⟨e3, st4⟩ with
                  | val m6 y st6 =>
                    rw [q6] at sk2
                    intro t6 v g6 k6 o6
                    cases m6 with
                    | P => exact fin y st6 t6 v g6 k6 o6 (Option.some.inj sk2).symm
                    | B => cases sk2
                    | N =>
                      obtain ⟨f7, g7, k7, _, i7⟩ := o6.freeze g6 k6 (by decide)
                      exact fin y st6 ⟨t6.as, f7, t6.h⟩ v g7 k7 i7 (Option.some.inj sk2).symm
                  | exc k l st => rw [q6] at sk2; cases sk2
                  | bad => rw [q6] at sk2; cases sk2
              | _ => cases sk'
    · left
      have : i = l.length := by omega
      subst this
      refine ⟨i1 (Nat.le_refl _), ?_⟩
      rw [List.drop_length] at r2
      have r3 : (([] : List D), st2) = (rest, out.2) := Option.some.inj r2
      have r4 : [] = rest := (Prod.mk.inj r3).1
      have r5 : st2 = out.2 := (Prod.mk.inj r3).2
      subst r4
      rw [List.append_nil] at o2
      rw [← o2, ← r5] at post
      exact post t2 _ g2 k2 ⟨Dl, vacc, acc, rfl, rfl, d2, a2, na2, hDH, n2⟩
  | exc c l st1 => rw [q] at post; exact post
  | bad => rw [q] at post; exact post
end
end Dn
namespace Dn
open PySem PySem.Spec PyProof.Rows L2
section
variable {G : Gm} {W : WX}
def boolsOf : List D → Option (List Bool)
  | [] => some []
  | .bl i :: l => (boolsOf l).map (i :: ·)
  | _ => none
theorem boolsOf_V {as : List Addr} {H : Hp} : ∀ {l : List D} {vs : List V} {ns : List Bool}, boolsOf l = some ns → IsL G as H vs l → vs = ns.map V.bl
  | [], _, _, h, i => by cases i; cases h; rfl
  | d :: l, _, ns, h, i => by
    cases i with
    | cons a b =>
      cases d <;> first | (cases h; done) | skip
      rename_i i
      have h' : (boolsOf l).map (i :: ·) = some ns := h
      cases q : boolsOf l with
      | none => rw [q] at h'; cases h'
      | some ms =>
        rw [q] at h'; cases h'
        cases a
        rw [boolsOf_V q b]; rfl
def oAll : List D → Sto → ER
  | [.lst l], st => ofOpt (boolsOf l) fun ns => .val .P (.bl (ns.all id)) st
  | _, _ => .bad
def oAny : List D → Sto → ER
  | [.lst l], st => ofOpt (boolsOf l) fun ns => .val .P (.bl (ns.any id)) st
  | _, _ => .bad
theorem c_any : DCal G (rAny G.K) oAny := by
  refine DCal.one1 (fun _ => rfl) (fun a b l _ => by cases a <;> rfl) fun W σ s st v d k hv Q post => ?_
  cases d <;> try exact post.elim
  rename_i l
  obtain ⟨p, vs, rfl, hp, hl⟩ := hv.lst k.sf
  obtain ⟨ns, h, post⟩ := RPost.opt (boolsOf l) (fun ns => .val .P (.bl (ns.any id)) st) post
  have := boolsOf_V h hl
  subst this
  exact ⟨p, ns, rfl, SqL.of hp, post.now k (.bl _)⟩
def oRev : D → Sto → ER
  | .lst l, st => .val .N (.lst l.reverse) st
  | .ptr n, st => ofOpt (stLst st n) fun l => .val .N (.lst l.reverse) st
  | _, _ => .bad
def dRev (f : En → ER) : En → ER := fun E => (f E).bind oRev
def mClear (l ds : List D) : Option (D × List D) := match ds with
  | [] => some (.non, [])
  | _ => none
def dMtX (op : List D → List D → Option (D × List D)) (fb : En → ER) (fa : En → AR) : En → ER := fun E => match fb E with
  | .val .N (.lst l) st => (match fa ⟨E.e, st⟩ with
    | .ok true ds st1 => (match op l ds with | some o => .val .P o.1 st1 | none => .bad)
    | .exc c l st => .exc c l st
    | _ => .bad)
  | _ => dMtP op fb fa E
theorem v_mtX {r : V → List V → Hp → VK → Prop} {op : List D → List D → Option (D × List D)} {tb : TE} {ta : TA} {fb : En → ER} {fa : En → AR} (hm : DMt G r op) (hb : DEv G W tb fb) (ha : DAr G W ta fa) : DEv G W (tBM G.K "list" r tb ta) (dMtX op fb fa) := by
  intro s t σ e st E k Q post
  unfold dMtX at post
  split at post
  · rename_i l st1 q
    refine hb s t σ e st E k _ ?_
    rw [q]
    intro t1 v g1 k1 o1
    obtain ⟨p, vs, l', rfl, e', c, il, na, n0, nf⟩ := o1
    cases e'
    refine ⟨.inl ⟨rfl, vs, SqL.of c⟩, ha s t1 σ e st1 (E.up g1) k1 _ ?_⟩
    cases q2 : fa ⟨e, st1⟩ with
    | ok b ds st2 =>
      rw [q2] at post
      cases b with
      | false => exact post.elim
      | true =>
        intro t2 xs g2 k2 i2 _
        cases ho : op l ds with
        | none => simp only [ho] at post; exact post.elim
        | some o =>
          simp only [ho] at post
          have hp' : t2.h p = some (.lst vs) := g2.h _ _ c na
          have hf' : t2.f p = none := g2.n _ _ c nf
          have ha' : p ∉ t2.as := fun m => (g2.w p m).elim na fun z => by rw [c] at z; cases z
          obtain ⟨v, vs', h1, h2, h3⟩ := hm t2 p vs l xs ds o hp' (il.up g2.a g2.f) (i2 rfl) ho k2.sf
          exact h3 _ (post ⟨t2.as, t2.f, upd t2.h p (.lst vs')⟩ v ((g1.trans g2).chg n0 hf') (k2.chg hf' ha') h1)
    | exc c l st2 => rw [q2] at post; exact fun t' x g' => post t' x (g1.trans g')
    | bad => rw [q2] at post; exact post
  · exact v_mtP hm hb ha s t σ e st E k Q post
end
end Dn
namespace Dn
open PySem PySem.Spec PyProof.Rows L2
theorem unit65 {k : Nat} {A : Around} (r : Room k A) : A.units + 65 < cLine := by have := r.un; omega
section
variable {G : Gm} {W : WX}
def inL (d : D) (l : List D) : Option Bool := if isPy d = true ∧ isPyL l = true ∧ SeqAt.shaped (py d) = true ∧ SeqAt.shaped (.list (pyL l)) = true then some ((pyL l).any fun z => PyData.eqv z (py d)) else none
def oIn (a b : D) (st : Sto) : ER := match b with
  | .lst l => ofOpt (inL a l) fun r => .val .P (.bl r) st
  | .ptr n => ofOpt (stLst st n) fun l => ofOpt (inL a l) fun r => .val .P (.bl r) st
  | .str z => (match a with
    | .str x => (match x.cps.toList with | [c] => .val .P (.bl (decide (c ∈ z.cps.toList))) st | _ => .bad)
    | _ => .bad)
  | _ => .bad
def oNotIn (a b : D) (st : Sto) : ER := match b with
  | .lst l => ofOpt (inL a l) fun r => .val .P (.bl (!r)) st
  | .ptr n => ofOpt (stLst st n) fun l => ofOpt (inL a l) fun r => .val .P (.bl (!r)) st
  | .str z => (match a with
    | .str x => (match x.cps.toList with | [c] => .val .P (.bl (!decide (c ∈ z.cps.toList))) st | _ => .bad)
    | _ => .bad)
  | _ => .bad
abbrev rNotInA (K : PySem.W.Frag) : R2 := rOr (rNotInD K) rNotInS
theorem or_notin {X : Cx} (hu : X.A.units + 65 < cLine) : OpR X (compareOp .NotIn) (rNotInA X.K) := opOr (op_notInD hu) op_notInS
theorem one_sign {x : Str} {c : Nat} (h : x.cps.toList = [c]) : x = ⟨#[c]⟩ := by
  cases x with | mk a =>
  have h' : a.toList = [c] := h
  have : a = #[c] := by apply Array.ext'; simpa using h'
  rw [this]
theorem inL_dp {s : Hs} {v w : V} {d : D} {l : List D} {r : Bool} (sm : Same s.f s.h) (hv : U G s v d) (p : Addr) (vs : List V) (hp : s.h p = some (.lst vs)) (hl : IsL G s.as s.f vs l) (h : inL d l = some r) : Dp G.K s.h v (py d) ∧ Dp G.K s.h (.ref p) (.list (pyL l)) ∧ SeqAt.shaped (py d) = true ∧ SeqAt.shaped (.list (pyL l)) = true ∧ r = (pyL l).any fun z => PyData.eqv z (py d) := by
  unfold inL at h
  split at h
  · rename_i c
    exact ⟨dp_u sm c.1 hv, .lst (SqL.of hp) (dpL_of sm l c.2.1 hl), c.2.2.1, c.2.2.2, (Option.some.inj h).symm⟩
  · cases h
theorem d_notin : DOp G (rNotInA G.K) oNotIn := by
  intro W σ s st v w d d' k hv hw Q post
  cases d' <;> try exact post.elim
  case lst l =>
    obtain ⟨r, hr, post⟩ := RPost.opt (inL d l) (fun r => .val .P (.bl (!r)) st) post
    obtain ⟨p, vs, rfl, hp, hl⟩ := hw.lst k.sf
    obtain ⟨a, b, c, e, f⟩ := inL_dp (w := .non) k.sf hv p vs hp hl hr
    exact .inl ⟨_, _, a, b, c, e, by rw [← f]; exact post.now k (.bl _)⟩
  case ptr n =>
    obtain ⟨l, hl, post⟩ := RPost.opt (stLst st n) (fun l => ofOpt (inL d l) fun r => .val .P (.bl (!r)) st) post
    obtain ⟨r, hr, post⟩ := RPost.opt (inL d l) (fun r => .val .P (.bl (!r)) st) post
    obtain ⟨p, rfl, hp⟩ := hw.ptr
    obtain ⟨vs, hh, il⟩ := k.lst hp hl
    obtain ⟨a, b, c, e, f⟩ := inL_dp (w := .non) k.sf hv p vs hh il hr
    exact .inl ⟨_, _, a, b, c, e, by rw [← f]; exact post.now k (.bl _)⟩
  case str z =>
    cases d <;> try exact post.elim
    rename_i x
    obtain rfl := hv.str; obtain rfl := hw.str
    cases q : x.cps.toList with
    | nil => simp only [oNotIn, q] at post; exact post.elim
    | cons c l =>
      cases l with
      | nil =>
        simp only [oNotIn, q] at post
        have := one_sign q
        subst this
        exact .inr ⟨c, z, rfl, rfl, RPost.now k post (.bl _)⟩
      | cons b l => simp only [oNotIn, q] at post; exact post.elim
end
end Dn
namespace Dn
open PySem PySem.Spec PyProof.Rows L2
section
variable {G : Gm} {W : WX}
def srt (ns : List Int) : List Int := ns.mergeSort (fun a b => decide (a ≤ b))
def oSorted : List D → Sto → ER
  | [.lst l], st => ofOpt (intsOf l) fun ns => if ns.length < 64 then .val .N (.lst ((srt ns).map .int)) st else .bad
  | _, _ => .bad
def dLr (f : En → ER) : En → ER := fun E => match f E with
  | .val _ (.int n) st => if -4611686018427387904 ≤ n ∧ n ≤ 1000000 then .val .N (.lst (rangeD 0 n.toNat)) st else .bad
  | .exc c l st => .exc c l st
  | _ => .bad
end
end Dn
namespace Dn
open PySem PySem.Spec PyProof.Rows L2 LamX
structure Alike (G G' : Gm) : Prop where
  K : G'.K = G.K
  ca : G'.ca = G.ca
  fn : G'.fn = G.fn
  tb : G'.tb = G.tb
  ed : G'.ed = G.ed
  en : G'.en = G.en
  el : G'.el = G.el
theorem Alike.symm {G G' : Gm} (a : Alike G G') : Alike G' G := ⟨a.K.symm, a.ca.symm, a.fn.symm, a.tb.symm, a.ed.symm, a.en.symm, a.el.symm⟩
mutual
theorem Is.sw {G G' : Gm} (a : Alike G G') {as : List Addr} {H : Hp} : ∀ (d : D) {v : V}, Is G as H v d → Is G' as H v d
  | .non, _, h => by cases h; exact .non
  | .bl _, _, h => by cases h; exact .bl _
  | .int _, _, h => by cases h; exact .int _
  | .str _, _, h => by cases h; exact .str _
  | .tup ds, _, h => by cases h with | tup p b => exact .tup (by rw [a.K]; exact p) (IsL.sw a ds b)
  | .lst ds, _, h => by cases h with | lst p b => exact .lst p (IsL.sw a ds b)
  | .scr l, _, h => by cases h with | scr p => exact .scr (by rw [a.K]; exact p)
  | .ptr n, _, h => by cases h with | ptr p => exact .ptr p
  | .obj c ds, _, h => by cases h with | obj p l b => exact .obj (by rw [a.ca, a.fn]; exact p) (by rw [a.fn]; exact l) (IsL.sw a ds b)
theorem IsL.sw {G G' : Gm} (a : Alike G G') {as : List Addr} {H : Hp} : ∀ (ds : List D) {vs : List V}, IsL G as H vs ds → IsL G' as H vs ds
  | [], _, h => by cases h; exact .nil
  | d :: ds, _, h => by cases h with | cons p b => exact .cons (Is.sw a d p) (IsL.sw a ds b)
end
section
variable {G G' : Gm} (a : Alike G G')
include a
theorem ObOk.sw {s : Hs} {x : Addr} {o : Ob} (h : ObOk G s x o) : ObOk G' s x o := by
  cases o with
  | lst l => obtain ⟨vs, h1, h2⟩ := h; exact ⟨vs, h1, IsL.sw a _ h2⟩
  | ins c l => obtain ⟨dx, vs, h1, h2, h3⟩ := h; exact ⟨dx, vs, by rw [a.ca, a.fn]; exact h1, by rw [a.fn]; exact h2, IsL.sw a _ h3⟩
  | tbl q => exact h
  | dct l => obtain ⟨kvs, h1, h2⟩ := h; exact ⟨kvs, h1, by
      clear h1
      induction h2 with
      | nil => exact .nil
      | cons p q ih => exact .cons (Is.sw a _ p) ih⟩
theorem StOk.sw {s : Hs} {st : Sto} (k : StOk G s st) : StOk G' s st := ⟨k.sf, k.len, k.nd, fun n x o h1 h2 => ObOk.sw a (k.ob n x o h1 h2), k.nf, by rw [a.tb]; exact k.tb, fun da h => by
  rw [a.ed] at h
  obtain ⟨xs, h1, h2, h3⟩ := k.ex da h
  rw [a.en, a.el]
  exact ⟨xs, h1, h2, IsL.sw a _ h3⟩⟩
theorem VOk.sw {s t : Hs} {m : Md} {v : V} {d : D} (h : VOk G s t m v d) : VOk G' s t m v d := by
  cases m with
  | P => exact Is.sw a _ h
  | B => obtain ⟨p, vs, l, x, b, c, e, f⟩ := h; exact ⟨p, vs, l, x, b, c, IsL.sw a _ e, f⟩
  | N => obtain ⟨p, vs, l, x, b, c, e, f, n, z⟩ := h; exact ⟨p, vs, l, x, b, c, IsL.sw a _ e, f, n, z⟩
theorem RPost.sw {s : Hs} {σ σ' : L2.St} {Q : VK} {r : ER} (h : RPost G' W0 s σ Q r) : RPost G W0 s σ' Q r := by
  cases r with
  | val m d st => exact fun t v g k o => h t v g (StOk.sw a k) (VOk.sw a o)
  | exc c l st =>
    intro t x g k o
    refine h t x g (StOk.sw a k) ?_
    rcases o with o | ⟨da, xs, o1, o2, o3, o4, o5⟩
    · exact .inl o
    · exact .inr ⟨da, xs, o1, o2, by rw [a.fn]; exact o3, by rw [a.fn]; exact o4, IsL.sw a _ o5⟩
  | bad => exact h
end
def Gm.lam (G : Gm) (f : Addr) (σ : L2.St) (c : Addr) (q : Str) : Gm := { G with ea := f, cl := σ, cc := c, cq := q }
theorem lam_alike (G : Gm) (f : Addr) (σ : L2.St) (c : Addr) (q : Str) : Alike G (G.lam f σ c q) := ⟨rfl, rfl, rfl, rfl, rfl, rfl, rfl⟩
def slO : Option D → SL
  | some d => .val d
  | none => .emp
def cloOf (e : DE) : List (Option D) := e.map fun s => match s with | .val d => some d | _ => none
def cloE (ds : List (Option D)) (ja jb : Nat) (x y : D) : DE := ((ds.map slO).set ja (.val x)).set jb (.val y)
def startL (n : Nat) (d : D) (ds : List (Option D)) : DE := .val d :: .clo ds :: List.replicate (n - 2) .emp
section
variable {G : Gm}
theorem start_lam {N : List Str} {t : Hs} {st : Sto} {v1 : V} {d1 : D} {ds : List (Option D)} {f c : Addr} {σ : L2.St} {q : Str} (hN : 2 ≤ N.length) (k : StOk G t st) (h1 : Is G t.as t.f v1 d1) (hl : σ.length = ds.length) (hc : t.f c = some (CodeO c q))
    (hd : ∀ (i : Nat) (d : D), ds[i]? = some (some d) → ∃ v, σ[i]? = some (some v) ∧ Is G t.as t.f v d) : EnvOk (G.lam f σ c q) t t (L2.start N [v1, .ref f]) (startL N.length d1 ds) := by
  have a := lam_alike G f σ c q
  have noown : ∀ (j : Nat) (m : List D), (startL N.length d1 ds)[j]? ≠ some (.own m) := fun j m z => by
    unfold startL at z
    rcases j with _ | _ | j
    · simp at z
    · simp at z
    · simp only [List.getElem?_cons_succ, List.getElem?_replicate] at z
      split at z <;> cases z
  refine ⟨Gro.refl (StOk.sw a k), by simp [L2.start, startL], fun i o sl p b => ?_, fun i j p l m hij x b => absurd b (noown i l)⟩
  unfold startL at b
  rcases i with _ | _ | i
  · simp [L2.start] at p b
    subst p; subst b
    exact ⟨v1, rfl, Is.sw a _ h1⟩
  · simp [L2.start] at p b
    subst p; subst b
    refine ⟨rfl, hl, hc, fun i d h => ?_⟩
    obtain ⟨v, e1, e2⟩ := hd i d h
    exact ⟨v, e1, Is.sw a _ e2⟩
  · simp only [List.getElem?_cons_succ, List.getElem?_replicate] at b
    split at b
    · cases b; trivial
    · cases b
def dHeld (i : Nat) (h : List (Option D) → D → D → Sto → ER) (fa : En → AR) : En → ER := fun E => match E.e[i]? with
  | some (.clo ds) => (match fa E with
    | .ok true [x, y] st => h ds x y st
    | .exc c l st => .exc c l st
    | _ => .bad)
  | _ => .bad
theorem v_held {i ja jb : Nat} {f c : Addr} {σ : L2.St} {q : Str} {ta : TA} {fa : En → AR} {tb : TE} {fb : En → ER} (ha : DAr (G.lam f σ c q) W0 ta fa) (hb : DEv G W0 tb fb) :
    DEv (G.lam f σ c q) W0 (fun σZ HZ Q => σZ[i]? = some (some (.ref f)) ∧ ta σZ HZ fun vs HZ1 => ∃ va vb, vs = [va, vb] ∧ HZ1 c = some (CodeO c q) ∧ tb ((σ.set ja (some va)).set jb (some vb)) HZ1 Q) (dHeld i (fun ds x y st => fb ⟨cloE ds ja jb x y, st⟩) fa) := by
  intro s t σZ e st E k Q post
  have al := lam_alike G f σ c q
  unfold dHeld at post
  split at post
  · rename_i ds hi
    obtain ⟨o, h1, h2, h3, h4, h5⟩ := E.slot hi
    have h2 : o = some (.ref f) := h2
    subst h2
    refine ⟨h1, ha s t σZ e st E k _ ?_⟩
    cases q2 : fa ⟨e, st⟩ with
    | ok b l st1 =>
      rw [q2] at post
      match b, l, post with
      | true, [x, y], post =>
        intro t1 vs g1 k1 i1 _
        have i1 := i1 rfl
        cases i1 with
        | cons ix i1 =>
          cases i1 with
          | cons iy i1 =>
            cases i1
            refine ⟨_, _, rfl, k1.sf _ _ (g1.f _ _ h4), ?_⟩
            have base : EnvOk G s t1 σ (ds.map slO) := by
              refine ⟨E.gr.trans g1, by rw [List.length_map]; exact h3, fun j o sl p b => ?_, fun j m p l l2 hjm x b => ?_⟩
              · rw [List.getElem?_map] at b
                cases hj : ds[j]? with
                | none => rw [hj] at b; cases b
                | some od =>
                  rw [hj] at b
                  cases od with
                  | none => cases b; trivial
                  | some d =>
                    cases b
                    obtain ⟨v, e1, e2⟩ := h5 j d hj
                    have e1 : σ[j]? = some (some v) := e1
                    rw [p] at e1; cases e1
                    exact ⟨v, rfl, (Is.sw al.symm _ e2).up g1.a g1.f⟩
              · rw [List.getElem?_map] at b
                cases hj : ds[j]? with
                | none => rw [hj] at b; cases b
                | some od => rw [hj] at b; cases od <;> cases b
            have E1 := (base.set (i := ja) (x := .val x) ⟨_, rfl, Is.sw al.symm _ ix⟩ (fun l z => nomatch z)).set (i := jb) (x := .val y) ⟨_, rfl, Is.sw al.symm _ iy⟩ (fun l z => nomatch z)
            exact hb s t1 _ _ st1 E1 (StOk.sw al.symm k1) Q (RPost.sw al (RPost.step g1 k1 post))
      | true, [], post => exact post.elim
      | true, [_], post => exact post.elim
      | true, _ :: _ :: _ :: _, post => exact post.elim
      | false, l, post => exact post.elim
    | exc c l st1 => rw [q2] at post; exact post
    | bad => rw [q2] at post; exact post
  · exact post.elim
def valOnly : ER → ER
  | .val m d st => .val m d st
  | _ => .bad
def dLamC (np : Nat) (q : Str) (N : Nat) (g : En → SR) (f1 : En → ER) : En → ER := fun E => match f1 E with
  | .val .B _ _ => .bad
  | .val _ d1 st => (match st[np]? with
    | some (.tbl q') => if q' = q then valOnly (g ⟨startL N d1 (cloOf E.e), st⟩).ret else .bad
    | _ => .bad)
  | .exc c l st => .exc c l st
  | .bad => .bad
def TTd (G : Gm) (q : Str) (N : Nat) (g : En → SR) : Addr → Addr → L2.St → V → Hp → VK → Prop := fun f c' σ v1 H1 Q => ∃ (t : Hs) (st : Sto) (d1 : D) (ds : List (Option D)), t.h = H1 ∧ StOk G t st ∧ Is G t.as t.f v1 d1 ∧ σ.length = ds.length ∧ t.f c' = some (CodeO c' q) ∧
  (∀ (i : Nat) (d : D), ds[i]? = some (some d) → ∃ v, σ[i]? = some (some v) ∧ Is G t.as t.f v d) ∧ RPost G W0 t σ Q (valOnly (g ⟨startL N d1 ds, st⟩).ret)
theorem upd_comm {H : Hp} {a b : Addr} {x y : HO} (h : a ≠ b) : upd (upd H a x) b y = upd (upd H b y) a x := by
  funext c
  by_cases e1 : c = a
  · subst e1; rw [upd_ne h, upd_same, upd_same]
  · by_cases e2 : c = b
    · subst e2; rw [upd_same, upd_ne e1, upd_same]
    · rw [upd_ne e2, upd_ne e1, upd_ne e1, upd_ne e2]
theorem RPost.val_w {W W' : WX} {s : Hs} {σ σ' : L2.St} {Q : VK} {r : ER} (h : RPost G W s σ Q (valOnly r)) : RPost G W' s σ' Q (valOnly r) := by
  cases r with
  | val m d st => exact h
  | exc c l st => exact h.elim
  | bad => exact h.elim
theorem cloOf_ok {s t : Hs} {σ : L2.St} {e : DE} (E : EnvOk G s t σ e) : σ.length = (cloOf e).length ∧ ∀ (i : Nat) (d : D), (cloOf e)[i]? = some (some d) → ∃ v, σ[i]? = some (some v) ∧ Is G t.as t.f v d := by
  refine ⟨by rw [E.len]; simp [cloOf], fun i d h => ?_⟩
  unfold cloOf at h
  rw [List.getElem?_map] at h
  cases hs : e[i]? with
  | none => rw [hs] at h; cases h
  | some sl =>
    rw [hs] at h
    cases sl <;> cases h
    obtain ⟨o, h1, v, rfl, h2⟩ := E.slot hs
    exact ⟨v, h1, h2⟩
theorem v_lamC {W : WX} {np : Nat} {q : Str} {P : Addr} {N : Nat} {g : En → SR} {t1 : TE} {f1 : En → ER} (hP : G.tb[np]? = some P) (h1 : DEv G W t1 f1) : DEv G W (LamP.tLam3 q P t1 (TTd G q N g)) (dLamC np q N g f1) := by
  intro s t σ e st E k Q post
  refine h1 s t σ e st E k _ ?_
  unfold dLamC at post
  cases q1 : f1 ⟨e, st⟩ with
  | exc c l st1 => rw [q1] at post; exact post
  | bad => rw [q1] at post; exact post
  | val m d1 st1 =>
    rw [q1] at post
    intro ta v1 ga ka oa
    have key : ∀ (tf : Hs), Gro t tf → StOk G tf st1 → Is G tf.as tf.f v1 d1 → tf.h = ta.h → RPost G W t σ Q (match st1[np]? with
        | some (.tbl q') => if q' = q then valOnly (g ⟨startL N d1 (cloOf e), st1⟩).ret else .bad
        | _ => .bad) → ∃ ps : Array Value, ta.h P = some (.tbl ps) ∧ TriplesOk ps.toList ∧ (∀ (pos : Pos) (cv : Value), codeAmong pos ps.toList = some cv → ∃ c, cv = .ref c ∧ ta.h c = some (CodeO c q)) ∧ ∀ f c' H1, LamP.Made q P ps ta.h H1 c' → H1 f = none → TTd G q N g f c' σ v1 H1 Q := by
      intro tf gf kf i1 eh post
      cases hs : st1[np]? with
      | none => simp only [hs] at post; exact post.elim
      | some o =>
        simp only [hs] at post
        cases o with
        | lst l => exact post.elim
        | ins c l => exact post.elim
        | dct l => exact post.elim
        | tbl q' =>
          obtain ⟨hq, post2⟩ := RPost.cond _ _ post
          clear post
          subst hq
          have hPa := kf.tb np P hP
          obtain ⟨ps, p1, p2, p3⟩ := kf.ob np P _ hPa hs
          rw [← eh]
          refine ⟨ps, p1, p2, fun pos cv hc => ?_, fun f c' H1 hm hf => ?_⟩
          · obtain ⟨c, c1, c2⟩ := p3 pos cv hc
            exact ⟨c, c1, kf.sf _ _ c2⟩
          · obtain ⟨cl, cd⟩ := cloOf_ok (E.up gf)
            rcases hm with ⟨ps', rfl, nC, nP, m1, m2⟩ | ⟨rfl, pos, hc⟩
            · have g1 := Gro.new (o := CodeO c' q') kf nC
              have k1 := kf.grow (o := CodeO c' q') nC
              have g2 := Gro.mod (o := .tbl ps') (Gro.refl k1) k1 hPa
              have k2 := StOk.mod (o := .tbl ps') (b := .tbl q') k1 hPa ⟨ps', upd_same, m1, fun pos cv hc => by
                rcases m2 pos cv hc with z | z
                · obtain ⟨c, c1, c2⟩ := p3 pos cv z
                  exact ⟨c, c1, g1.f _ _ c2⟩
                · exact ⟨c', z, upd_same⟩⟩
              have hset : st1.set np (.tbl q') = st1 := by
                apply List.ext_getElem?
                intro j
                by_cases z : np = j
                · subst z
                  rw [List.getElem?_set_self (List.getElem?_eq_some_iff.mp hs).1, hs]
                · rw [List.getElem?_set_ne z]
              rw [hset] at k2
              have g12 := g1.trans g2
              refine ⟨_, st1, d1, cloOf e, upd_comm nP, k2, i1.up g12.a g12.f, cl, upd_same, fun i d h => ?_, RPost.val_w (RPost.step (gf.trans g12) k2 post2)⟩
              obtain ⟨v, a1, a2⟩ := cd i d h
              exact ⟨v, a1, a2.up g12.a g12.f⟩
            · obtain ⟨c, c1, c2⟩ := p3 pos _ hc
              cases c1
              exact ⟨tf, st1, d1, cloOf e, rfl, kf, i1, cl, c2, cd, RPost.val_w (RPost.step gf kf post2)⟩
    cases m with
    | B => exact post.elim
    | P => exact key ta ga ka oa rfl post
    | N =>
      obtain ⟨f2, g2, k2, _, i2⟩ := oa.freeze ga ka (by decide)
      exact key ⟨ta.as, f2, ta.h⟩ g2 k2 i2 rfl post
theorem lam_body {q : Str} {N : List Str} {g : En → SR} {ts : TS} {f c' : Addr} {σ : L2.St} {v1 : V} {H1 : Hp} {Q : VK} {D0 : Ends} (hN : 2 ≤ N.length) (hb : DSt (G.lam f σ c' q) W0 ts g) (hnx : D0.nx = fun _ H => Q .non H) (hrt : D0.rt = Q) (h : TTd G q N.length g f c' σ v1 H1 Q) : ts D0 (L2.start N [v1, .ref f]) H1 := by
  obtain ⟨t, st, d1, ds, rfl, k, i1, hl, hc, hd, post⟩ := h
  have al := lam_alike G f σ c' q
  refine hb t t _ _ st (start_lam hN k i1 hl hc hd) (StOk.sw al k) _ ?_
  cases q2 : g ⟨startL N.length d1 ds, st⟩ with
  | nx e => rw [q2] at post; exact fun t' σ' s' E' k' => by rw [hnx]; exact post t' .non E'.gr (StOk.sw al.symm k') .non
  | rt m d st1 => rw [q2] at post; exact fun t' v s' g' k' o => by rw [hrt]; exact post t' v g' (StOk.sw al.symm k') (VOk.sw al.symm o)
  | bk e => rw [q2] at post; exact post.elim
  | ct e => rw [q2] at post; exact post.elim
  | exc c l e => rw [q2] at post; exact post.elim
  | bad => rw [q2] at post; exact post.elim
end
end Dn
namespace Dn
open PySem PySem.Spec PyProof.Rows L2 LamX
section
variable {G : Gm} {W : WX}
def sBad : En → SR := fun _ => .bad
def dBad : En → ER := fun _ => .bad
end
structure FunC (K : PySem.W.Frag) (x qual : Str) (st : Stmt) (f : Addr) (fd : FuncData) (c : Addr) : Prop where
  ex : ∃ (oc : Value) (od : Option Addr) (kV doc pm : Value) (an : Option Addr) (ct : Value) (osl : Array (Option Value)),
    fd = PySem.W.fnOf x qual (defArgs st) (defBody st) (defScope st) .none kV doc pm an (.ref c) ct ∧ K.lookup f = some ⟨oc, od, .func fd, osl⟩ ∧ PySem.W.codeIn K (.ref c) qual = true
  kp : PySem.W.keepIn K (.ref f) = true
theorem fn_okC {G : Gm} {P : Program} {w : World} {K : PySem.W.Frag} {mg : Str → Option Value} {base : Heap} {x qual : Str} {st : Stmt} {f c : Addr} {fd : FuncData} {N ps : List Str} {k : Nat} {g : En → SR} {n : Nat} (hn : ps.length = n) {m : Nat} (hm : N.length = m)
    (F : FunC K x qual st f fd c) (S : FnScope N ps (defScope st))
    (hbody : ∀ (A : Around) (outer : List Env) (s : Shared) (H : Hp) (E : XK), Room k (A.deeper (envOfC qual (defScope st) s.heap.objs.size f (.ref c))) →
      ∃ t, PSs (cxOf (L2.CX P w) P w K mg base N qual (defScope st) f (.ref c) A outer s H E) (defBody st) t ∧ DSt G (fun c x _ H => E c x H) t g) : FnOk P w K mg base (L2.CX P w) (k + 1) f fd ps (spF G (fnD n m g)) := by
  subst hn hm
  obtain ⟨oc, od, kV, doc, pm, an, ct, osl, rfl, lk, hcd⟩ := F.ex
  refine fn_of lk hcd S (fun vs H Q E h => sp_len h) fun A outer s H vs Q E hr h => ?_
  obtain ⟨t, h1, h2⟩ := hbody A outer s H E hr
  exact ⟨t, h1, body_ok h2 rfl rfl h⟩
theorem lamcallF {X : Cx} {x : Str} {st : Stmt} {fd : FuncData} {g c P : Addr} {k : Nat} {Ng : List Str} {pa pb a b : Str} {e1 : Expr} {t1 : TE} {TT : Addr → Addr → L2.St → V → Hp → VK → Prop}
    {params : Arguments} {body : Expr} {scope : Scope} {p lpos pos : Pos} (hg : Gl X x) (hm : X.mg x = some (.ref g)) (F : Fun X.K x x st g fd) (hb : L2.Binds X.K fd [pa, pb] []) (Sg : FnScope Ng [pa, pb] (defScope st))
    (he1 : PE X e1 t1) (TB : TabB X.base X.mg c P) (hcode : X.env.code = .ref c) (hr : Room (k + 2) X.A) (L : LamP.LamN X.env.scope scope a b) (hdef : defaultsOf params X.env = ([], []))
    (hG : ∀ (cdg : Value) (pins : List (Addr × Obj)) (s' : Shared) (σ : L2.St) (H1 : Hp) (f c' : Addr) (pm ctv : Value) (v1 : V) (Q : VK), Inv X pins σ H1 s' → s'.heap.get? f = some (PySem.W.kla_obj "<lambda>" (X.env.qual ++ "<lambda>") params body scope (cloFrom X.env.cells scope.names []) pm c' ctv) → H1 f = none → f ∉ frs X.stack →
      Room (k + 1) (X.A.deeper (envOfC x (defScope st) s'.heap.objs.size g cdg)) → TT f c' σ v1 H1 Q →
      ∃ t, PSs (cxOf (L2.CX X.prog X.w) X.prog X.w X.K X.mg X.base Ng x (defScope st) g cdg X.A X.stack s' H1 (fun _ _ _ => False)) (defBody st) t ∧ t { nx := fun _ H' => Q .non H', rt := Q } (L2.start Ng [v1, .ref f]) H1)
    (hdb : (x == ("__debug__" : Str)) = false := by decide) (hs1 : starEach [e1, .Lambda params body scope lpos] X.env = (false, eval e1 X.env) :: starEach [.Lambda params body scope lpos] X.env := by rfl) :
    PE X (.Call (.Name x p) [e1, .Lambda params body scope lpos] [] pos) (LamP.tLam3 (X.env.qual ++ "<lambda>") P t1 TT) := by
  obtain ⟨oc, od, kV, doc, pm, an, cdv, ct, osl, rfl, lk, hcd⟩ := F.ex
  exact LamP.lamcall3 hg hm F.kp lk hcd hb Sg he1 TB hcode hr L hdef (hG cdv) hdb hs1
def spLawT (K : PySem.W.Frag) (Ps : List Addr) : Sp := fun vs H Q _ => ∃ (a : Addr) (ns : List Int), vs = [.ref a] ∧ SqL K H a (ns.map V.int) ∧ ns.length ≤ 63 ∧ (∀ z ∈ ns, Builtin.Int.intBits z ≤ 1048576) ∧ (∀ P ∈ Ps, H P = some (.tbl #[])) ∧ ∀ H', Q (.bl true) H'
theorem law_impT {G : Gm} {F : List D → Sto → ER} (qs : List Str) (hq : G.tb.length = qs.length) (hn : G.tb.Nodup) (hF : ∀ ns : List Int, ns.length ≤ 63 → (∀ z ∈ ns, Builtin.Int.intBits z ≤ 1048576) → Yes (F [.scr ns] (qs.map .tbl))) (vs : List V) (H : Hp) (Q : VK) (E : XK) (h : spLawT G.K G.tb vs H Q E) (hE : G.ed = none := by rfl) : spF G F vs H Q E := by
  obtain ⟨a, ns, rfl, hS, h1, h2, hT, k⟩ := h
  obtain ⟨st, hF⟩ := hF ns h1 h2
  let f : Hp := fun x => if x ∈ G.tb then none else H x
  have fo : ∀ x o, f x = some o → H x = some o := fun x o e => by
    have e : (if x ∈ G.tb then none else H x) = some o := e
    split at e
    · cases e
    · exact e
  have hi : ∀ x o, H x = some o → (∀ ps, o ≠ .tbl ps) → f x = some o := fun x o e n => by
    show (if x ∈ G.tb then none else H x) = some o
    split
    · rename_i m
      rw [hT x m] at e; cases e
      exact absurd rfl (n #[])
    · exact e
  have hS' : SqL G.K f a (ns.map V.int) := by
    rcases hS with (h | ⟨o, h⟩) | h
    · exact .inl (.inl (hi _ _ h fun ps z => nomatch z))
    · exact .inl (.inr ⟨o, hi _ _ h fun ps z => nomatch z⟩)
    · exact .inr h
  refine ⟨⟨G.tb, f, H⟩, [.scr ns], qs.map .tbl, rfl, ⟨fo, by simpa using hq, hn, fun n x o h1 h2 => ?_, fun x m => if_pos m, fun n P h => h, fun da h => by rw [hE] at h; cases h⟩, .cons (.scr hS') .nil, ?_⟩
  · rw [List.getElem?_map] at h2
    cases q : qs[n]? with
    | none => rw [q] at h2; cases h2
    | some w =>
      rw [q] at h2; cases h2
      exact ⟨#[], hT x (List.mem_iff_getElem?.mpr ⟨n, h1⟩), True.intro, fun pos cv hc => by cases hc⟩
  · rw [hF]
    intro t v g k' o
    cases o
    exact k t.h
theorem walkT {k : Nat} (hk : Room k callerA) {l : PySem.W.OpenLaw} {q : Program} {loose : List Str} {XP : (Str → Option Value) → Heap → Prop} {YP : World → Heap → Prop} {d : DefRec} {K : Params → PySem.W.Frag} {x : Str} (hn : l.most = some 63) (hdf : d.params.defaults = [])
    (hY : ∀ (w : World) (h : Heap), YP w h → (K w.params).In h)
    (F : ∀ (w : World) (mg : Str → Option Value) (fa : Addr) (h : Heap), YP w h → (K w.params).In h → h.Ns mainGlobals mg → mg d.name = some (.ref fa) →
      ∃ (fd : FuncData) (cs : List (Addr × Addr)), (∀ p ∈ cs, h.get? p.2 = some { cls := .none, data := .fields #[] }) ∧ (∀ p ∈ cs, (K w.params).lookup p.2 = none) ∧ (∀ p ∈ cs, PySem.W.CodeHd h p.1 p.2) ∧ (∀ (s : Shared) (u : Value), BindsTo s fd ⟨[u], []⟩ [(x, u)]) ∧
        ∀ base : Heap, (K w.params).In base → base.Ns mainGlobals mg → (∀ p ∈ cs, TabB base mg p.1 p.2) → FnOk l.prog w (K w.params) mg base (L2.CX l.prog w) k fa fd [x] (spLawT (K w.params) (cs.map (·.2)))) :
    PySem.W.WalkO q loose XP YP l.row.toRowW d [] (fun f vs => PySem.call f vs) :=
  LamX.walk_ofTs (n := 63) (k := k) (x := x) (CX := fun w => L2.CX l.prog w) hn (by decide) hdf hk hY (fun w mg fa h Y KX hG hmg => by
    obtain ⟨fd, cs, h1, h2, h3, h4, h5⟩ := F w mg fa h Y KX hG hmg
    refine ⟨fd, cs, spLawT (K w.params) (cs.map (·.2)), h1, h2, h3, h4, fun H a ns hl hb hT hS => ⟨a, ns, rfl, hS, hl, hb, fun P hP => ?_, fun _ => rfl⟩, h5⟩
    obtain ⟨p, hp, rfl⟩ := List.mem_map.mp hP
    exact hT p hp) fun w H s e s' h => by
    obtain ⟨_, _, _, _, _, _, _, _, _, _, _, _, z⟩ := h
    exact z.elim
end Dn
namespace Dn
open PySem PySem.Spec PyProof.Rows L2
section
variable {G : Gm} {W : WX}
def ItOkC (G : Gm) (C : Sto → Prop) (t1 : Hs) (J : It) (l : List D) : Prop := ∀ (i : Nat) (t : Hs) (st : Sto), Up t1 t → StOk G t st → C st → (l.length ≤ i → J.stop i t.h) ∧
  ∀ d, l[i]? = some d → J.go i t.h ∧ ∀ x H', J.yld i t.h x H' → ∃ t', t'.h = H' ∧ Gro t t' ∧ StOk G t' st ∧ Is G t'.as t'.f x d
theorem it_ptr {t1 : Hs} {n : Nat} {p : Addr} {l : List D} (hp : t1.as[n]? = some p) : ItOkC G (fun st => stLst st n = some l) t1 (Itl G.K p) l := by
  intro i t st u k hc
  obtain ⟨vs, hh, il⟩ := k.lst (u.a n p hp) hc
  refine ⟨fun hi => ⟨vs, SqL.of hh, by rw [il.len]; exact hi⟩, fun d hd => ?_⟩
  obtain ⟨v, v1, v2⟩ := il.get hd
  refine ⟨⟨vs, v, SqL.of hh, v1⟩, fun y H' z => ?_⟩
  obtain ⟨rfl, z⟩ := z
  have := z vs (SqL.of hh)
  rw [v1] at this; cases this
  exact ⟨t, rfl, Gro.refl k, k, v2⟩
open Classical in
noncomputable def forPD (n : Nat) (L : List D) (b : D → En → SR) : List D → En → SR
  | [], E => if stLst E.st n = some L then .nx E else .bad
  | x :: xs, E => if stLst E.st n = some L then (match b x E with
    | .nx E' => forPD n L b xs E'
    | .ct E' => forPD n L b xs E'
    | .bk E' => .nx E'
    | r => r) else .bad
noncomputable def sForX (f : En → ER) (t : D → DE → Option DE) (b : En → SR) : En → SR := fun E => match f E with
  | .val _ (.ptr n) st => (match stLst st n with | some l => forPD n l (tgB t b) l ⟨E.e, st⟩ | none => .bad)
  | _ => sFor (dIter f) t b E
theorem s_forX {te : TE} {g : TG} {tb : TS} {f : En → ER} {js : List Nat} {t : D → DE → Option DE} {b : En → SR} (hf : DEv G W te f) (hg : DTg G g js t) (hb : DSt G W tb b) : DSt G W (tFor (iAny G.K te) g tb) (sForX f t b) := by
  intro s t0 σ e st E k0 N post
  unfold sForX at post
  split at post
  · rename_i m n st1 q
    refine .inl (hf s t0 σ e st E k0 _ ?_)
    rw [q]
    intro t1 v g1 k1 o1
    obtain ⟨p, rfl, hp⟩ := o1.u.ptr
    cases hl : stLst st1 n with
    | none => simp only [hl] at post; exact post.elim
    | some l =>
      simp only [hl] at post
      have it := it_ptr (G := G) (l := l) hp
      obtain ⟨vs0, hh0, _⟩ := k1.lst hp hl
      refine ⟨p, rfl, ⟨vs0, SqL.of hh0⟩, ?_⟩
      have post : SPost G W s t0 N (forPD n l (tgB t b) l ⟨e, st1⟩) := post
      have cnd : ∀ {t2 : Hs} {xs : List D} {F : En}, SPost G W s t2 N (forPD n l (tgB t b) xs F) → stLst F.st n = some l := fun {t2 xs F} h => by
        by_cases c : stLst F.st n = some l
        · exact c
        · cases xs <;> (unfold forPD at h; rw [if_neg c] at h; exact h.elim)
      refine ⟨fun i m σ H => m = l.length - i ∧ i ≤ l.length ∧ ∃ t2 E2, t2.h = H ∧ Up t1 t2 ∧ EnvOk G s t2 σ E2.e ∧ StOk G t2 E2.st ∧ SPost G W s t2 N (forPD n l (tgB t b) (l.drop i) E2),
        ⟨l.length, by simp, Nat.zero_le _, t1, ⟨e, st1⟩, rfl, Up.refl _, E.up g1, k1, SPost.mono g1.up post⟩, ?_⟩
      rintro i m σ2 H2 ⟨rfl, hi, t2, F2, rfl, s2, E2, k2, p2⟩
      have c2 := cnd p2
      obtain ⟨i1, i2⟩ := it i t2 F2.st s2 k2 c2
      by_cases hlt : i < l.length
      · right
        have hd : l[i]? = some l[i] := List.getElem?_eq_getElem hlt
        obtain ⟨go, y⟩ := i2 _ hd
        rw [List.drop_eq_getElem_cons hlt] at p2
        refine ⟨go, fun σ' H' => i + 1 ≤ l.length ∧ ∃ t2 E2, t2.h = H' ∧ Up t1 t2 ∧ EnvOk G s t2 σ' E2.e ∧ StOk G t2 E2.st ∧ SPost G W s t2 N (forPD n l (tgB t b) (l.drop (i + 1)) E2), fun σ' H' h => ⟨l.length - (i + 1), by omega, rfl, h⟩, fun x H' hy => ?_⟩
        obtain ⟨t3, rfl, g3, k3, i3⟩ := y x H' hy
        unfold forPD at p2
        rw [if_pos c2] at p2
        cases q3 : t l[i] F2.e with
        | none =>
          have tgb : tgB t b l[i] F2 = .bad := by unfold tgB; rw [q3]
          rw [tgb] at p2
          exact p2.elim
        | some e3 =>
          have tgb : tgB t b l[i] F2 = b ⟨e3, F2.st⟩ := by unfold tgB; rw [q3]
          refine hg s t3 σ2 F2.e F2.st x l[i] (E2.up g3) k3 i3 _ e3 q3 fun σ4 E4 _ _ => ?_
          refine hb s t3 σ4 e3 F2.st E4 k3 _ ?_
          have p4 := SPost.mono g3.up p2
          rw [tgb] at p4
          have s3 := s2.trans g3.up
          cases q5 : b ⟨e3, F2.st⟩ with
          | nx e5 => rw [q5] at p4; exact fun t6 σ6 s6 E6 k6 => ⟨hlt, t6, e5, rfl, s3.trans s6, E6, k6, SPost.mono s6 p4⟩
          | ct e5 => rw [q5] at p4; exact fun t6 σ6 s6 E6 k6 => ⟨hlt, t6, e5, rfl, s3.trans s6, E6, k6, SPost.mono s6 p4⟩
          | bk e5 => rw [q5] at p4; exact p4
          | rt m d st => rw [q5] at p4; exact p4
          | exc c l e => rw [q5] at p4; exact p4
          | bad => rw [q5] at p4; exact p4
      · left
        have : i = l.length := by omega
        subst this
        refine ⟨i1 (Nat.le_refl _), ?_⟩
        rw [List.drop_length] at p2
        unfold forPD at p2
        rw [if_pos c2] at p2
        exact p2 t2 σ2 (Up.refl _) E2 k2
  · exact s_for (i_any hf) hg hb s t0 σ e st E k0 N post
def deref (st : Sto) (d : D) : D := match d with
  | .ptr n => (match stLst st n with | some l => .lst l | none => .ptr n)
  | d => d
def oEqX (a b : D) (st : Sto) : ER := oEq (deref st a) (deref st b) st
def oNeX (a b : D) (st : Sto) : ER := oNe (deref st a) (deref st b) st
end
end Dn
namespace Dn
open PySem PySem.Spec PySem.Calls PyProof.Rows L2
structure OwnM (P : Program) (w : World) (K : PySem.W.Frag) (mg : Str → Option Value) (base : Heap) (G : Gm) (m : Str) (n k : Nat) (c : Nat) (F : List D → Sto → ER) : Prop where
  ex : ∃ (f : Addr) (fd : FuncData) (ps : List Str), Meth K (G.ca c) m f ∧ FnOk P w K mg base (L2.CX P w) k f fd ps (spF G F) ∧ L2.Binds K fd ps [] ∧ ps.length = n
theorem cx_false {P : Program} {w : World} {st : List Env} {H : Hp} {s s' : Shared} {e : Value} (h : L2.CX P w st H s (fun _ _ _ => False) e s') : False := by
  obtain ⟨_, _, _, _, _, _, _, _, _, _, _, _, z⟩ := h
  exact z
section
variable {X : Cx} {G : Gm} {pins : List (Addr × Obj)} {σ : L2.St} {H : Hp} {s : Shared}
abbrev OwnL := List (Nat × (List D → Sto → ER))
theorem CallR.or {f : Value} {r r' : List V → Hp → VK → Prop} (h : CallR X f r) (h' : CallR X f r') : CallR X f (fun xs H Q => r xs H Q ∨ r' xs H Q) := by
  intro pins s σ H xs us Q I rr z
  rcases z with z | z
  · exact h pins s σ H xs us Q I rr z
  · exact h' pins s σ H xs us Q I rr z
structure NeC (K : PySem.W.Frag) (C : Addr) : Prop where
  ne : PySem.W.findIn K (.ref C) "__ne__" = some (some (.builtin "object.__ne__"))
  mo : PySem.W.mroIn K C (.type "object") = some true
end
def ownF : OwnL → Nat → Option (List D → Sto → ER)
  | [], _ => none
  | (c', F) :: l, c => if c = c' then some F else ownF l c
section
variable {G : Gm} {W : WX}
def asLen : ER → ER
  | .val _ (.int i) st => if 0 ≤ i ∧ i < 2 ^ 63 then .val .P (.int i) st else .bad
  | _ => .bad
def dLenX (Os : OwnL) (f : En → ER) : En → ER := fun E => match f E with
  | .val _ (.ptr n) st => (match stIns st n with
    | some (c, _) => ofOpt (ownF Os c) fun F => asLen (F [.ptr n] st)
    | none => oLen [.ptr n] st)
  | .val _ d st => oLen [d] st
  | .exc c l st => .exc c l st
  | .bad => .bad
def asStr : ER → ER
  | .val _ (.str i) st => .val .P (.str i) st
  | _ => .bad
def asBl (neg : Bool) : ER → ER
  | .val _ (.bl i) st => .val .P (.bl (i != neg)) st
  | _ => .bad
def oInt : List D → Sto → ER
  | [.int i], st => .val .P (.int i) st
  | [.bl b], st => .val .P (.int (if b then 1 else 0)) st
  | [.str a], st => if a.length ≤ 640 then ofOpt (PySem.intText? a) fun n => .val .P (.int n) st else .bad
  | _, _ => .bad
abbrev rIntA : List V → Hp → VK → Prop := fun xs H Q => ((∃ i, xs = [.int i] ∧ Q (.int i) H) ∨ ∃ k, xs = [.bl k] ∧ Q (.int (if k then 1 else 0)) H) ∨ ∃ a n, xs = [.str a] ∧ PySem.intText? a = some n ∧ a.length ≤ 640 ∧ Q (.int n) H
theorem call_intA {X : Cx} : CallR X (.type "int") rIntA := CallR.or call_int1 call_int_str
theorem c_int : DCal G rIntA oInt := by
  refine DCal.one1 (fun _ => rfl) (fun a b l _ => by cases a <;> rfl) fun W σ s st v d k hv Q post => ?_
  cases d <;> try exact post.elim
  case int i => obtain rfl := hv.int; exact .inl (.inl ⟨_, rfl, post.now k (.int _)⟩)
  case bl i => obtain rfl := hv.bl; exact .inl (.inr ⟨_, rfl, post.now k (.int _)⟩)
  case str a =>
    obtain rfl := hv.str
    obtain ⟨h, post⟩ := RPost.cond (a.length ≤ 640) (ofOpt (PySem.intText? a) fun n => .val .P (.int n) st) post
    obtain ⟨n, hn, post⟩ := RPost.opt (PySem.intText? a) (fun n => .val .P (.int n) st) post
    exact .inr ⟨a, n, rfl, hn, h, post.now k (.int _)⟩
def itxt (i : Int) : Str := toString i
def oStr : List D → Sto → ER
  | [.int i], st => if i.natAbs.log2 < 1920 then .val .P (.str (itxt i)) st else .bad
  | [.str a], st => .val .P (.str a) st
  | _, _ => .bad
def dStrX (Os : OwnL) (f : En → ER) : En → ER := fun E => match f E with
  | .val _ (.ptr n) st => (match stIns st n with
    | some (c, _) => ofOpt (ownF Os c) fun F => asStr (F [.ptr n] st)
    | none => .bad)
  | .val _ d st => oStr [d] st
  | .exc c l st => .exc c l st
  | .bad => .bad
structure ClsI (K : PySem.W.Frag) (C : Addr) : Prop where
  cl : Cls K C
  ha : PySem.W.findIn K (.ref C) "__class__" = some (some (.builtin "object.__class__"))
  hn : PySem.W.specialIn K (.builtin "object.__class__") "__get__" = some (some (.builtin "getset_descriptor.__get__"))
  htk : PySem.W.takesIn K (.builtin "object.__class__") = some true
  hm : PySem.W.mroIn K C (.type "object") = some true
def plainTs : List String := ["NoneType", "bool", "int", "str", "tuple", "list"]
def isO (tab : Nat → Option Bool) : D → Sto → ER
  | .ptr n, st => (match stIns st n with | some (c, _) => ofOpt (tab c) fun b => .val .P (.bl b) st | none => (match stLst st n with | some _ => .val .P (.bl false) st | none => .bad))
  | .obj _ _, _ => .bad
  | .scr _, _ => .bad
  | _, st => .val .P (.bl false) st
def dIsO (tab : Nat → Option Bool) (f : En → ER) : En → ER := fun E => (f E).bind (isO tab)
structure IsOk (G : Gm) (C : Addr) (tab : Nat → Option Bool) : Prop where
  ki : ∀ c b, tab c = some b → PySem.W.kitOne G.K (.ref (G.ca c)) (.ref C) = some b
  ci : ∀ c b, tab c = some b → ClsI G.K (G.ca c)
  kt : ∀ T ∈ plainTs, PySem.W.kitOne G.K (.type T) (.ref C) = some false
structure EqOk (G : Gm) (Os : OwnL) (Cs : List Nat) : Prop where
  pt : ∀ x ∈ Os, ∀ T ∈ plainTs, PySem.W.notFirst G.K (G.ca x.1) (.type T) = true
  pc : ∀ x ∈ Os, ∀ c ∈ Cs, PySem.W.notFirst G.K (G.ca x.1) (.ref (G.ca c)) = true
  ci : ∀ c ∈ Cs, ClsI G.K (G.ca c)
def eqArg (Cs : List Nat) : D → Sto → Bool
  | .ptr n, st => (match stIns st n with | some (c, _) => Cs.contains c | none => false)
  | .obj _ _, _ => false
  | .scr _, _ => false
  | _, _ => true
def eqO2 (Os : OwnL) (Cs : List Nat) (neg : Bool) (o : D → D → Sto → ER) (m : Md) (x y : D) (st : Sto) : ER := match x with
  | .ptr n => (match stIns st n with
    | some (c, _) => ofOpt (ownF Os c) fun F => if m ≠ .B ∧ eqArg Cs y st = true then asBl neg (F [.ptr n, y] st) else .bad
    | none => o x y st)
  | _ => o x y st
def dEqO (Os : OwnL) (Cs : List Nat) (neg : Bool) (o : D → D → Sto → ER) (f g : En → ER) : En → ER := fun E => match f E with
  | .val _ x st => (match g ⟨E.e, st⟩ with
    | .val m y st1 => eqO2 Os Cs neg o m x y st1
    | .exc c l st => .exc c l st
    | .bad => .bad)
  | .exc c l st => .exc c l st
  | .bad => .bad
end
end Dn
namespace Dn
open PySem PySem.Spec PyProof.Rows L2
def lexLe (a b : Int × Int) : Bool := !SrtO.lexB b a
def srtP (rs : List (Int × Int)) : List (Int × Int) := rs.mergeSort lexLe
def rowsOf : List D → Option (List (Int × Int))
  | [] => some []
  | .tup [.int a, .int b] :: l => (rowsOf l).map ((a, b) :: ·)
  | _ => none
section
variable {G : Gm} {W : WX}
def oSortedX : List D → Sto → ER
  | [.lst l], st => (match intsOf l with
    | some ns => if ns.length < 64 then .val .N (.lst ((srt ns).map .int)) st else .bad
    | none => ofOpt (rowsOf l) fun rs => .val .N (.lst ((srtP rs).map fun r => .tup [.int r.1, .int r.2])) st)
  | _, _ => .bad
end
end Dn
namespace Dn
open PySem PySem.Spec PyProof.Rows L2
section
variable {G : Gm} {W : WX}
def dMs (op : Str → List D → Sto → ER) (fb : En → ER) (fa : En → AR) : En → ER := fun E => match fb E with
  | .val _ (.str x) st => (match fa ⟨E.e, st⟩ with
    | .ok _ ds st1 => op x ds st1
    | .exc c l st => .exc c l st
    | .bad => .bad)
  | .exc c l st => .exc c l st
  | _ => .bad
def strsOf : List D → Option (List Str)
  | [] => some []
  | .str i :: l => (strsOf l).map (i :: ·)
  | _ => none
def seqStrs : D → Sto → Option (List Str)
  | .lst l, _ => strsOf l
  | .tup l, _ => strsOf l
  | .ptr n, st => (stLst st n).bind strsOf
  | _, _ => none
def msJoin (a : Str) (ds : List D) (st : Sto) : ER := match ds with
  | [d] => ofOpt (seqStrs d st) fun ys => if (ys.map (·.length)).sum + ys.length * a.length ≤ 1000000 then .val .P (.str (Txt.join a ys)) st else .bad
  | _ => .bad
def msSplit (a : Str) (ds : List D) (st : Sto) : ER := match ds with
  | [.str b] => if (b.length == 0) = false ∧ a.length + 2 ≤ 1000000 then .val .N (.lst ((Txt.split a b).map .str)) st else .bad
  | _ => .bad
def msPartition (a : Str) (ds : List D) (st : Sto) : ER := match ds with
  | [.str b] => if (b.length == 0) = false ∧ a.length ≤ 1000000 then .val .P (.tup [.str (Txt.partition a b).1, .str (Txt.partition a b).2.1, .str (Txt.partition a b).2.2]) st else .bad
  | _ => .bad
def msCount (a : Str) (ds : List D) (st : Sto) : ER := match ds with
  | [.str b] => .val .P (.int (Txt.count a b)) st
  | _ => .bad
def dFmt (f : En → ER) : En → ER := fun E => match f E with
  | .val _ (.str y) st => if y.length ≤ 1000000 then .val .P (.str y) st else .bad
  | .val _ (.int i) st => if i.natAbs.log2 < 1920 then .val .P (.str (itxt i)) st else .bad
  | .exc c l st => .exc c l st
  | _ => .bad
inductive DJs (G : Gm) (W : WX) : List TE → List (En → ER) → Prop
  | nil : DJs G W [] []
  | cons {t : TE} {ts : List TE} {f : En → ER} {fs : List (En → ER)} : DEv G W t f → DJs G W ts fs → DJs G W (t :: ts) (f :: fs)
def jsGo : List (En → ER) → Str → DE → Sto → ER
  | [], acc, _, st => .val .P (.str acc) st
  | f :: fs, acc, e, st => match f ⟨e, st⟩ with
    | .val _ (.str y) st1 => if (acc ++ y).length ≤ 1000000 then jsGo fs (acc ++ y) e st1 else .bad
    | .exc c l st => .exc c l st
    | _ => .bad
def dJs (fs : List (En → ER)) : En → ER := fun E => jsGo fs Str.empty E.e E.st
end
end Dn
namespace Dn
open PySem PySem.Spec PyProof.Rows L2
section
variable {G : Gm} {W : WX}
def isTP (T : String) : D → Sto → ER
  | .ptr n, st => (match stLst st n with | some _ => ofOpt (kitB "list" T) fun b => .val .P (.bl b) st | none => .bad)
  | d, st => isT T d st
def dIsiP (T : String) (f : En → ER) : En → ER := fun E => (f E).bind (isTP T)
end
end Dn
namespace Dn
open PySem PySem.Spec PyProof.Rows L2
@[simp] theorem e_oAdd_1 : ∀ i j st, oAdd (.int i) (.int j) st = .val .P (.int (i + j)) st := fun _ _ _ => rfl
@[simp] theorem e_oAdd_2 : ∀ a b st, oAdd (.str a) (.str b) st = if a.length + b.length ≤ 1000000 then .val .P (.str (a ++ b)) st else .bad := fun _ _ _ => rfl
@[simp] theorem e_oAdd_3 : ∀ a b st, oAdd (.lst a) (.lst b) st = if a.length + b.length ≤ 1000000 then .val .N (.lst (a ++ b)) st else .bad := fun _ _ _ => rfl
@[simp] theorem e_oAdd_4 : ∀ a b st, oAdd (.tup a) (.tup b) st = if a.length + b.length ≤ 1000000 then .val .P (.tup (a ++ b)) st else .bad := fun _ _ _ => rfl
@[simp] theorem e_oSub_1 : ∀ i j st, oSub (.int i) (.int j) st = .val .P (.int (i - j)) st := fun _ _ _ => rfl
@[simp] theorem e_oMul_1 : ∀ i j st, oMul (.int i) (.int j) st = if i.natAbs.log2 + j.natAbs.log2 < 1000000 then .val .P (.int (i * j)) st else .bad := fun _ _ _ => rfl
@[simp] theorem e_oMul_2 : ∀ a k st, oMul (.lst a) (.int k) st = if -(2 ^ 63) ≤ k ∧ k < 2 ^ 63 ∧ a.length * k.toNat ≤ 1000000 then .val .N (.lst (List.replicate k.toNat a).flatten) st else .bad := fun _ _ _ => rfl
@[simp] theorem e_oDiv_1 : ∀ i j st, oDiv (.int i) (.int j) st = if j ≠ 0 ∧ j.natAbs.log2 < 9000 then .val .P (.int (i.fdiv j)) st else .bad := fun _ _ _ => rfl
@[simp] theorem e_oMod_1 : ∀ i j st, oMod (.int i) (.int j) st = if j ≠ 0 then .val .P (.int (i.fmod j)) st else .bad := fun _ _ _ => rfl
@[simp] theorem e_oPow_1 : ∀ i j st, oPow (.int i) (.int j) st = if 0 ≤ j ∧ j ≤ 1000000 ∧ i.natAbs < 2 ^ 64 then .val .P (.int (i ^ j.toNat)) st else .bad := fun _ _ _ => rfl
@[simp] theorem e_oCmp_1 {p : Int → Int → Bool} : ∀ i j st, oCmp p (.int i) (.int j) st = .val .P (.bl (p i j)) st := fun _ _ _ => rfl
@[simp] theorem e_oIx_1 : ∀ l i st, oIx (.lst l) (.int i) st = ofOpt (atI l i) fun d => .val .P d st := fun _ _ _ => rfl
@[simp] theorem e_oIx_2 : ∀ l i st, oIx (.tup l) (.int i) st = ofOpt (atI l i) fun d => .val .P d st := fun _ _ _ => rfl
@[simp] theorem e_oIx_3 : ∀ l i st, oIx (.scr l) (.int i) st = ofOpt (atI l i) fun d => .val .P (.int d) st := fun _ _ _ => rfl
@[simp] theorem e_oIx_4 : ∀ z i st, oIx (.str z) (.int i) st = if z.length ≤ 1000000 then ofOpt (atI z.cps.toList i) (fun c => .val .P (.str ⟨#[c]⟩) st) else .bad := fun _ _ _ => rfl
@[simp] theorem e_oIx_5 : ∀ n i st, oIx (.ptr n) (.int i) st = ofOpt (stLst st n) fun l => ofOpt (atI l i) fun d => .val .P d st := fun _ _ _ => rfl
@[simp] theorem e_dVar {i : Nat} {E : En} : dVar i E = match E.e[i]? with
  | some (.val d) => .val .P d E.st
  | some (.own l) => .val .B (.lst l) E.st
  | _ => .bad := rfl
@[simp] theorem e_dC {d : D} {E : En} : dC d E = .val .P d E.st := rfl
@[simp] theorem e_dOp {o : D → D → Sto → ER} {f g : En → ER} {E : En} : dOp o f g E = (f E).bind fun x st => (g ⟨E.e, st⟩).bind fun y st => o x y st := rfl
@[simp] theorem e_dUn {o : D → Sto → ER} {f : En → ER} {E : En} : dUn o f E = (f E).bind o := rfl
@[simp] theorem e_oNeg_1 : ∀ i st, oNeg (.int i) st = .val .P (.int (-i)) st := fun _ _ => rfl
@[simp] theorem e_dAnd {f g : En → ER} {E : En} : dAnd f g E = (f E).bindB fun b st => if b = true then g ⟨E.e, st⟩ else .val .P (.bl false) st := rfl
@[simp] theorem e_dOr {f g : En → ER} {E : En} : dOr f g E = (f E).bindB fun b st => if b = true then .val .P (.bl true) st else g ⟨E.e, st⟩ := rfl
@[simp] theorem e_dNot {f : En → ER} {E : En} : dNot f E = (f E).bindB fun b st => .val .P (.bl (!b)) st := rfl
@[simp] theorem e_dIf {c f g : En → ER} {E : En} : dIf c f g E = (c E).bindB fun b st => if b = true then f ⟨E.e, st⟩ else g ⟨E.e, st⟩ := rfl
@[simp] theorem e_dChain {o o' : D → D → Sto → ER} {f g h : En → ER} {E : En} : dChain o o' f g h E = (f E).bind fun x st => (g ⟨E.e, st⟩).bind fun y st => (o x y st).bindB fun b st => if b = true then (h ⟨E.e, st⟩).bind fun z st => o' y z st else .val .P (.bl false) st := rfl
@[simp] theorem e_aNil {E : En} : aNil  E = .ok true [] E.st := rfl
@[simp] theorem e_aCons {f : En → ER} {g : En → AR} {E : En} : aCons f g E = (f E).cons fun st => g ⟨E.e, st⟩ := rfl
@[simp] theorem e_dTup {f : En → AR} {E : En} : dTup f E = match f E with
  | .ok true l st => if l.length ≤ 1000000 then .val .P (.tup l) st else .bad
  | .exc c l st => .exc c l st
  | _ => .bad := rfl
@[simp] theorem e_dLst {f : En → AR} {E : En} : dLst f E = match f E with
  | .ok true l st => if l.length ≤ 1000000 then .val .N (.lst l) st else .bad
  | .exc c l st => .exc c l st
  | _ => .bad := rfl
@[simp] theorem e_dPut {f : En → ER} {E : En} : dPut f E = match f E with
  | .val .N (.lst l) st => .val .P (.ptr st.length) (st ++ [.lst l])
  | .exc c l st => .exc c l st
  | _ => .bad := rfl
@[simp] theorem e_dCall {F : List D → Sto → ER} {f : En → AR} {E : En} : dCall F f E = match f E with
  | .ok true l st => F l st
  | .exc c l st => .exc c l st
  | _ => .bad := rfl
@[simp] theorem e_dCB {o : List D → Sto → ER} {f : En → AR} {E : En} : dCB o f E = match f E with
  | .ok _ l st => o l st
  | .exc c l st => .exc c l st
  | .bad => .bad := rfl
@[simp] theorem e_oAbs_1 : ∀ i st, oAbs ([.int i]) st = .val .P (.int (if i < 0 then -i else i)) st := fun _ _ => rfl
@[simp] theorem e_oLen_1 : ∀ l st, oLen ([.lst l]) st = .val .P (.int l.length) st := fun _ _ => rfl
@[simp] theorem e_oLen_2 : ∀ l st, oLen ([.tup l]) st = .val .P (.int l.length) st := fun _ _ => rfl
@[simp] theorem e_oLen_3 : ∀ l st, oLen ([.scr l]) st = .val .P (.int l.length) st := fun _ _ => rfl
@[simp] theorem e_oLen_4 : ∀ n st, oLen ([.ptr n]) st = ofOpt (stLst st n) fun l => .val .P (.int l.length) st := fun _ _ => rfl
@[simp] theorem e_oLen_5 : ∀ z st, oLen ([.str z]) st = if z.length ≤ 1000000 then .val .P (.int z.length) st else .bad := fun _ _ => rfl
@[simp] theorem e_oMax2_1 : ∀ i j st, oMax2 ([.int i, .int j]) st = .val .P (.int (if j > i then j else i)) st := fun _ _ _ => rfl
@[simp] theorem e_oMin2_1 : ∀ i j st, oMin2 ([.int i, .int j]) st = .val .P (.int (if j < i then j else i)) st := fun _ _ _ => rfl
@[simp] theorem e_oSum_1 : ∀ l st, oSum ([.lst l]) st = ofOpt (intsOf l) fun ns => .val .P (.int ns.sum) st := fun _ _ => rfl
@[simp] theorem e_oList_1 : ∀ l st, oList ([.lst l]) st = .val .N (.lst l) st := fun _ _ => rfl
@[simp] theorem e_oList_2 : ∀ l st, oList ([.tup l]) st = .val .N (.lst l) st := fun _ _ => rfl
@[simp] theorem e_oList_3 : ∀ l st, oList ([.scr l]) st = .val .N (.lst (l.map .int)) st := fun _ _ => rfl
@[simp] theorem e_oList_4 : ∀ n st, oList ([.ptr n]) st = ofOpt (stLst st n) fun l => .val .N (.lst l) st := fun _ _ => rfl
@[simp] theorem e_oTuple_1 : ∀ l st, oTuple ([.lst l]) st = .val .P (.tup l) st := fun _ _ => rfl
@[simp] theorem e_oTuple_2 : ∀ l st, oTuple ([.tup l]) st = .val .P (.tup l) st := fun _ _ => rfl
@[simp] theorem e_dSl {o : D → Option Int → Option Int → Sto → ER} {f : En → ER} {lo hi : En → Option ER} {E : En} : dSl o f lo hi E = (f E).bind fun x st => ofOpt (partI (lo ⟨E.e, st⟩) st) fun l => ofOpt (partI (hi ⟨E.e, l.2⟩) l.2) fun u => o x l.1 u.1 u.2 := rfl
@[simp] theorem e_sSeq {f g : En → SR} {E : En} : sSeq f g E = (f E).bind g := rfl
@[simp] theorem e_sSet {i : Nat} {f : En → ER} {E : En} : sSet i f E = match f E with
  | .val .P d st => .nx ⟨E.e.set i (.val d), st⟩
  | .val .N (.lst l) st => .nx ⟨E.e.set i (.own l), st⟩
  | .exc c l st => .exc c l ⟨E.e, st⟩
  | _ => .bad := rfl
@[simp] theorem e_sSetF {i : Nat} {f : En → ER} {E : En} : sSetF i f E = match f E with
  | .val .P d st => .nx ⟨E.e.set i (.val d), st⟩
  | .val .N d st => .nx ⟨E.e.set i (.val d), st⟩
  | .exc c l st => .exc c l ⟨E.e, st⟩
  | _ => .bad := rfl
@[simp] theorem e_sAsg {t : D → DE → Option DE} {f : En → ER} {E : En} : sAsg t f E = match f E with
  | .val .B _ _ => .bad
  | .val _ d st => (match t d E.e with | some e' => .nx ⟨e', st⟩ | none => .bad)
  | .exc c l st => .exc c l ⟨E.e, st⟩
  | _ => .bad := rfl
@[simp] theorem e_sPar {i j : Nat} {f : En → AR} {E : En} : sPar i j f E = match f E with
  | .ok true [a, b] st => .nx ⟨(E.e.set i (.val a)).set j (.val b), st⟩
  | .exc c l st => .exc c l ⟨E.e, st⟩
  | _ => .bad := rfl
@[simp] theorem e_sDrop {f : En → ER} {E : En} : sDrop f E = match f E with
  | .val _ _ st => .nx ⟨E.e, st⟩
  | .exc c l st => .exc c l ⟨E.e, st⟩
  | .bad => .bad := rfl
@[simp] theorem e_sRet {f : En → ER} {E : En} : sRet f E = match f E with
  | .val .P d st => .rt .P d st
  | .val .N d st => .rt .N d st
  | .exc c l st => .exc c l ⟨E.e, st⟩
  | _ => .bad := rfl
@[simp] theorem e_sRetV {i : Nat} {E : En} : sRetV i E = match E.e[i]? with
  | some (.val d) => .rt .P d E.st
  | some (.own l) => .rt .N (.lst l) E.st
  | _ => .bad := rfl
@[simp] theorem e_sRetN {E : En} : sRetN  E = .rt .P .non E.st := rfl
@[simp] theorem e_sIf {c : En → ER} {f g : En → SR} {E : En} : sIf c f g E = match c E with
  | .val _ (.bl b) st => if b = true then f ⟨E.e, st⟩ else g ⟨E.e, st⟩
  | .exc c l st => .exc c l ⟨E.e, st⟩
  | _ => .bad := rfl
@[simp] theorem e_sFrz {i : Nat} {g : En → SR} {E : En} : sFrz i g E = g ⟨frz i E.e, E.st⟩ := rfl
@[simp] theorem e_sApp {i : Nat} {f : En → ER} {E : En} : sApp i f E = match E.e[i]? with
  | some (.own l) => (match f E with
    | .val .B _ _ => .bad
    | .val _ d st => if l.length < 1000000 then .nx ⟨E.e.set i (.own (l ++ [d])), st⟩ else .bad
    | .exc c l st => .exc c l ⟨E.e, st⟩
    | .bad => .bad)
  | _ => .bad := rfl
@[simp] theorem e_sSetO {x : Nat} {f fi : En → ER} {E : En} : sSetO x f fi E = match E.e[x]? with
  | some (.own l) => (match f E with
    | .val .B _ _ => .bad
    | .val _ d st => (match fi ⟨E.e, st⟩ with
      | .val _ (.int i) st1 => (match ixN l.length i with | some j => .nx ⟨E.e.set x (.own (l.set j d)), st1⟩ | none => .bad)
      | .exc c l st => .exc c l ⟨E.e, st⟩
      | _ => .bad)
    | .exc c l st => .exc c l ⟨E.e, st⟩
    | .bad => .bad)
  | _ => .bad := rfl
@[simp] theorem e_sSetP {fb f fi : En → ER} {E : En} : sSetP fb f fi E = match f E with
  | .val .B _ _ => .bad
  | .val _ d st => (match fb ⟨E.e, st⟩ with
    | .val _ (.ptr n) st1 => (match fi ⟨E.e, st1⟩ with
      | .val _ (.int i) st2 => (match stLst st2 n with
        | some l => (match ixN l.length i with | some j => .nx ⟨E.e, st2.set n (.lst (l.set j d))⟩ | none => .bad)
        | none => .bad)
      | .exc c l st => .exc c l ⟨E.e, st⟩
      | _ => .bad)
    | .exc c l st => .exc c l ⟨E.e, st⟩
    | _ => .bad)
  | .exc c l st => .exc c l ⟨E.e, st⟩
  | .bad => .bad := rfl
@[simp] theorem e_dIter {f : En → ER} {E : En} : dIter f E = match f E with
  | .val .B _ _ => .bad
  | .val _ d st => (match itemsOf d with | some l => .ok true l st | none => .bad)
  | .exc c l st => .exc c l st
  | .bad => .bad := rfl
@[simp] theorem e_dRng {r : List D → Option (Int × Nat)} {f : En → AR} {E : En} : dRng r f E = match f E with
  | .ok _ l st => (match r l with | some r => .ok true (rangeD r.1 r.2) st | none => .bad)
  | .exc c l st => .exc c l st
  | _ => .bad := rfl
@[simp] theorem e_dEnum {f : En → AR} {E : En} : dEnum f E = match f E with
  | .ok true [.lst l] st => .ok true (enumD 0 l) st
  | .exc c l st => .exc c l st
  | _ => .bad := rfl
@[simp] theorem e_dZip {f : En → AR} {E : En} : dZip f E = match f E with
  | .ok true [.lst l, .lst m] st => .ok true (zipD l m) st
  | .exc c l st => .exc c l st
  | _ => .bad := rfl
@[simp] theorem e_sFor {src : En → AR} {t : D → DE → Option DE} {b : En → SR} {E : En} : sFor src t b E = match src E with
  | .ok _ l st => forD (tgB t b) l ⟨E.e, st⟩
  | .exc c l st => .exc c l ⟨E.e, st⟩
  | .bad => .bad := rfl
@[simp] theorem e_dLc {src : En → AR} {t : D → DE → Option DE} {c f : En → ER} {vs : List Nat} {E : En} : dLc src t c f vs E = match src E with
  | .ok _ l st => if l.length ≤ 1000000 then ofOpt (lcGo (lcStep t c f (wipeE E.e vs)) l st) fun r => .val .N (.lst r.1) r.2 else .bad
  | .exc k l st => .exc k l st
  | .bad => .bad := rfl
@[simp] theorem e_sRaise {c : Nat} {E : En} : sRaise c E = .exc c [] E := rfl
@[simp] theorem e_dCallG {F : List D → Sto → ER} {n m : Nat} {idx : List Nat} {dd : List D} {f g : En → AR} {E : En} : dCallG F n m idx dd f g E = match f E with
  | .ok true l st => (match g ⟨E.e, st⟩ with
    | .ok true z st1 => if l.length = n ∧ z.length = m then F (pickL idx (l ++ z ++ dd)) st1 else .bad
    | .exc c l st => .exc c l st
    | _ => .bad)
  | .exc c l st => .exc c l st
  | _ => .bad := rfl
@[simp] theorem e_dIsi {T : String} {f : En → ER} {E : En} : dIsi T f E = (f E).bind (isT T) := rfl
@[simp] theorem e_sTryAs {i : Nat} {catch? : Nat → Option Bool} {g : En → SR} {h : Nat → List D → En → SR} {E : En} : sTryAs i catch? g h E = match g E with
  | .exc c l E1 => (match catch? c with
    | some true => (match h c l ⟨(clr E1.e).set i .exn, E1.st⟩ with
      | .nx E2 => .nx ⟨(clr E2.e).set i .emp, E2.st⟩
      | .bk E2 => .bk ⟨(clr E2.e).set i .emp, E2.st⟩
      | .ct E2 => .ct ⟨(clr E2.e).set i .emp, E2.st⟩
      | .rt m d st => .rt m d st
      | _ => .bad)
    | some false => .exc c l E1
    | none => .bad)
  | r => r := rfl
@[simp] theorem e_dIsE {i : Nat} {b : Option Bool} {E : En} : dIsE i b E = match E.e[i]? with
  | some .exn => ofOpt b fun b => .val .P (.bl b) E.st
  | _ => .bad := rfl
@[simp] theorem e_dMtP {op : List D → List D → Option (D × List D)} {fb : En → ER} {fa : En → AR} {E : En} : dMtP op fb fa E = match fb E with
  | .val _ (.ptr n) st => (match stLst st n with
    | some _ => (match fa ⟨E.e, st⟩ with
      | .ok true ds st1 => (match stLst st1 n with
        | some l => (match op l ds with | some o => .val .P o.1 (st1.set n (.lst o.2)) | none => .bad)
        | none => .bad)
      | .exc c l st => .exc c l st
      | _ => .bad)
    | none => .bad)
  | .exc c l st => .exc c l st
  | _ => .bad := rfl
@[simp] theorem e_sMtO {j : Option Nat} {op : List D → List D → Option (D × List D)} {i : Nat} {fa : En → AR} {E : En} : sMtO j op i fa E = match E.e[i]? with
  | some (.own l) => (match fa E with
    | .ok true ds st1 => (match op l ds with | some o => .nx ⟨putAt j o.1 (E.e.set i (.own o.2)), st1⟩ | none => .bad)
    | .exc c l st => .exc c l ⟨E.e, st⟩
    | _ => .bad)
  | _ => .bad := rfl
@[simp] theorem e_sMt {op : List D → List D → Option (D × List D)} {i : Nat} {fa : En → AR} {E : En} : sMt op i fa E = match E.e[i]? with
  | some (.own _) => sMtO none op i fa E
  | _ => sDrop (dMtP op (dVar i) fa) E := rfl
@[simp] theorem e_sMtA {j : Nat} {op : List D → List D → Option (D × List D)} {i : Nat} {fa : En → AR} {E : En} : sMtA j op i fa E = match E.e[i]? with
  | some (.own _) => sMtO (some j) op i fa E
  | _ => sSetF j (dMtP op (dVar i) fa) E := rfl
@[simp] theorem e_dFld {ix : Nat → Option Nat} {fe : En → ER} {E : En} : dFld ix fe E = (fe E).bind fun x st => match x with
  | .ptr n => (match stIns st n with
    | some (c, l) => (match ix c with
      | some i => ofOpt l[i]? fun d => .val .P d st
      | none => .bad)
    | none => .bad)
  | _ => .bad := rfl
@[simp] theorem e_sFldS {ix : Nat → Option Nat} {fo fe : En → ER} {E : En} : sFldS ix fo fe E = match fe E with
  | .val .B _ _ => .bad
  | .val _ d st => (match fo ⟨E.e, st⟩ with
    | .val _ (.ptr n) st1 => (match stIns st1 n with
      | some (c, l) => (match ix c with
        | some i => (match putI i d l with
          | some l' => .nx ⟨E.e, st1.set n (.ins c l')⟩
          | none => .bad)
        | none => .bad)
      | none => .bad)
    | .exc c l st => .exc c l ⟨E.e, st⟩
    | _ => .bad)
  | .exc c l st => .exc c l ⟨E.e, st⟩
  | .bad => .bad := rfl
@[simp] theorem e_dMeth {c : Nat} {F : List D → Sto → ER} {n r : Nat} {idx : List Nat} {dd : List D} {fo : En → ER} {fa fk : En → AR} {E : En} : dMeth c F n r idx dd fo fa fk E = (fo E).bind fun x st => match x with
  | .ptr p => (match stIns st p with
    | some (c', _) => if c' = c then (match fa ⟨E.e, st⟩ with
      | .ok true l st1 => (match fk ⟨E.e, st1⟩ with
        | .ok true z st2 => if l.length + 1 = n ∧ z.length = r then F (pickL idx ((.ptr p :: l) ++ z ++ dd)) st2 else .bad
        | .exc c l st => .exc c l st
        | _ => .bad)
      | .exc c l st => .exc c l st
      | _ => .bad) else .bad
    | none => .bad)
  | _ => .bad := rfl
@[simp] theorem e_dAlt {p : En → Bool} {f g : En → ER} {E : En} : dAlt p f g E = if p E = true then f E else g E := rfl
@[simp] theorem e_dMake {c : Nat} {F : List D → Sto → ER} {n r : Nat} {idx : List Nat} {dd : List D} {fa fk : En → AR} {E : En} : dMake c F n r idx dd fa fk E = match fa E with
  | .ok true l st => (match fk ⟨E.e, st⟩ with
    | .ok true z st1 => if l.length + 1 = n ∧ z.length = r then (match F (pickL idx ((.ptr st1.length :: l) ++ z ++ dd)) (st1 ++ [.ins c []]) with
      | .val _ .non st2 => .val .P (.ptr st1.length) st2
      | .exc c l st => .exc c l st
      | _ => .bad) else .bad
    | .exc c l st => .exc c l st
    | _ => .bad)
  | .exc c l st => .exc c l st
  | _ => .bad := rfl
@[simp] theorem e_oAll_1 : ∀ l st, oAll ([.lst l]) st = ofOpt (boolsOf l) fun ns => .val .P (.bl (ns.all id)) st := fun _ _ => rfl
@[simp] theorem e_oAny_1 : ∀ l st, oAny ([.lst l]) st = ofOpt (boolsOf l) fun ns => .val .P (.bl (ns.any id)) st := fun _ _ => rfl
@[simp] theorem e_oRev_1 : ∀ l st, oRev (.lst l) st = .val .N (.lst l.reverse) st := fun _ _ => rfl
@[simp] theorem e_oRev_2 : ∀ n st, oRev (.ptr n) st = ofOpt (stLst st n) fun l => .val .N (.lst l.reverse) st := fun _ _ => rfl
@[simp] theorem e_dRev {f : En → ER} {E : En} : dRev f E = (f E).bind oRev := rfl
@[simp] theorem e_dMtX {op : List D → List D → Option (D × List D)} {fb : En → ER} {fa : En → AR} {E : En} : dMtX op fb fa E = match fb E with
  | .val .N (.lst l) st => (match fa ⟨E.e, st⟩ with
    | .ok true ds st1 => (match op l ds with | some o => .val .P o.1 st1 | none => .bad)
    | .exc c l st => .exc c l st
    | _ => .bad)
  | _ => dMtP op fb fa E := rfl
@[simp] theorem e_oSorted_1 : ∀ l st, oSorted ([.lst l]) st = ofOpt (intsOf l) fun ns => if ns.length < 64 then .val .N (.lst ((srt ns).map .int)) st else .bad := fun _ _ => rfl
@[simp] theorem e_dLr {f : En → ER} {E : En} : dLr f E = match f E with
  | .val _ (.int n) st => if -4611686018427387904 ≤ n ∧ n ≤ 1000000 then .val .N (.lst (rangeD 0 n.toNat)) st else .bad
  | .exc c l st => .exc c l st
  | _ => .bad := rfl
@[simp] theorem e_dHeld {i : Nat} {h : List (Option D) → D → D → Sto → ER} {fa : En → AR} {E : En} : dHeld i h fa E = match E.e[i]? with
  | some (.clo ds) => (match fa E with
    | .ok true [x, y] st => h ds x y st
    | .exc c l st => .exc c l st
    | _ => .bad)
  | _ => .bad := rfl
@[simp] theorem e_dLamC {np : Nat} {q : Str} {N : Nat} {g : En → SR} {f1 : En → ER} {E : En} : dLamC np q N g f1 E = match f1 E with
  | .val .B _ _ => .bad
  | .val _ d1 st => (match st[np]? with
    | some (.tbl q') => if q' = q then valOnly (g ⟨startL N d1 (cloOf E.e), st⟩).ret else .bad
    | _ => .bad)
  | .exc c l st => .exc c l st
  | .bad => .bad := rfl
@[simp] theorem e_dLenX {Os : OwnL} {f : En → ER} {E : En} : dLenX Os f E = match f E with
  | .val _ (.ptr n) st => (match stIns st n with
    | some (c, _) => ofOpt (ownF Os c) fun F => asLen (F [.ptr n] st)
    | none => oLen [.ptr n] st)
  | .val _ d st => oLen [d] st
  | .exc c l st => .exc c l st
  | .bad => .bad := rfl
@[simp] theorem e_oInt_1 : ∀ i st, oInt ([.int i]) st = .val .P (.int i) st := fun _ _ => rfl
@[simp] theorem e_oInt_2 : ∀ b st, oInt ([.bl b]) st = .val .P (.int (if b then 1 else 0)) st := fun _ _ => rfl
@[simp] theorem e_oInt_3 : ∀ a st, oInt ([.str a]) st = if a.length ≤ 640 then ofOpt (PySem.intText? a) fun n => .val .P (.int n) st else .bad := fun _ _ => rfl
@[simp] theorem e_oStr_1 : ∀ i st, oStr ([.int i]) st = if i.natAbs.log2 < 1920 then .val .P (.str (itxt i)) st else .bad := fun _ _ => rfl
@[simp] theorem e_oStr_2 : ∀ a st, oStr ([.str a]) st = .val .P (.str a) st := fun _ _ => rfl
@[simp] theorem e_dStrX {Os : OwnL} {f : En → ER} {E : En} : dStrX Os f E = match f E with
  | .val _ (.ptr n) st => (match stIns st n with
    | some (c, _) => ofOpt (ownF Os c) fun F => asStr (F [.ptr n] st)
    | none => .bad)
  | .val _ d st => oStr [d] st
  | .exc c l st => .exc c l st
  | .bad => .bad := rfl
@[simp] theorem e_dIsO {tab : Nat → Option Bool} {f : En → ER} {E : En} : dIsO tab f E = (f E).bind (isO tab) := rfl
@[simp] theorem e_dEqO {Os : OwnL} {Cs : List Nat} {neg : Bool} {o : D → D → Sto → ER} {f g : En → ER} {E : En} : dEqO Os Cs neg o f g E = match f E with
  | .val _ x st => (match g ⟨E.e, st⟩ with
    | .val m y st1 => eqO2 Os Cs neg o m x y st1
    | .exc c l st => .exc c l st
    | .bad => .bad)
  | .exc c l st => .exc c l st
  | .bad => .bad := rfl
@[simp] theorem e_dMs {op : Str → List D → Sto → ER} {fb : En → ER} {fa : En → AR} {E : En} : dMs op fb fa E = match fb E with
  | .val _ (.str x) st => (match fa ⟨E.e, st⟩ with
    | .ok _ ds st1 => op x ds st1
    | .exc c l st => .exc c l st
    | .bad => .bad)
  | .exc c l st => .exc c l st
  | _ => .bad := rfl
@[simp] theorem e_dFmt {f : En → ER} {E : En} : dFmt f E = match f E with
  | .val _ (.str y) st => if y.length ≤ 1000000 then .val .P (.str y) st else .bad
  | .val _ (.int i) st => if i.natAbs.log2 < 1920 then .val .P (.str (itxt i)) st else .bad
  | .exc c l st => .exc c l st
  | _ => .bad := rfl
@[simp] theorem e_dJs {fs : List (En → ER)} {E : En} : dJs fs E = jsGo fs Str.empty E.e E.st := rfl
@[simp] theorem e_dIsiP {T : String} {f : En → ER} {E : En} : dIsiP T f E = (f E).bind (isTP T) := rfl
@[simp] theorem e_sSkip {E : En} : sSkip E = .nx E := rfl
@[simp] theorem e_sBreak {E : En} : sBreak E = .bk E := rfl
@[simp] theorem e_sCont {E : En} : sCont E = .ct E := rfl
@[simp] theorem cons_P {d : D} {st : Sto} {a : Sto → AR} : (ER.val .P d st).cons a = (a st).cons true d := rfl
@[simp] theorem cons_N {d : D} {st : Sto} {a : Sto → AR} : (ER.val .N d st).cons a = (a st).cons true d := rfl
@[simp] theorem cons_B {d : D} {st : Sto} {a : Sto → AR} : (ER.val .B d st).cons a = (a st).cons false d := rfl
@[simp] theorem cons_exc {k : Nat} {l : List D} {st : Sto} {a : Sto → AR} : (ER.exc k l st).cons a = .exc k l st := rfl
@[simp] theorem cons_bad {a : Sto → AR} : ER.bad.cons a = .bad := rfl
@[simp] theorem acons_ok {p q : Bool} {d : D} {l : List D} {st : Sto} : (AR.ok q l st).cons p d = .ok (p && q) (d :: l) st := rfl
@[simp] theorem acons_exc {p : Bool} {d : D} {k : Nat} {l : List D} {st : Sto} : (AR.exc k l st).cons p d = .exc k l st := rfl
@[simp] theorem acons_bad {p : Bool} {d : D} : AR.bad.cons p d = .bad := rfl
@[simp] theorem e_pickNil {α : Type} {l : List α} : pickL [] l = [] := rfl
@[simp] theorem e_pickCons {α : Type} {k : Nat} {ks : List Nat} {l : List α} : pickL (k :: ks) l = (match l[k]? with | some x => [x] | none => []) ++ pickL ks l := by
  unfold pickL; rw [List.filterMap_cons]; cases l[k]? <;> rfl
@[simp] theorem e_part0 {st : Sto} : partI none st = some (none, st) := rfl
@[simp] theorem e_partI {m : Md} {i : Int} {st st1 : Sto} : partI (some (.val m (.int i) st1)) st = some (some i, st1) := rfl
@[simp] theorem e_tgN {i : Nat} {e : DE} {d : D} : tgN i d e = some (e.set i (.val d)) := rfl
@[simp] theorem e_tgsNil {e : DE} : tgsNil [] e = some e := rfl
@[simp] theorem e_tgsCons {e : DE} {q : D → DE → Option DE} {qs : List D → DE → Option DE} {d : D} {l : List D} : tgsCons q qs (d :: l) e = (q d e).bind (qs l) := rfl
@[simp] theorem e_tgTt {e : DE} {n : Nat} {qs : List D → DE → Option DE} {l : List D} : tgT n qs (.tup l) e = if l.length = n then qs l e else none := rfl
@[simp] theorem e_tgTl {e : DE} {n : Nat} {qs : List D → DE → Option DE} {l : List D} : tgT n qs (.lst l) e = if l.length = n then qs l e else none := rfl
@[simp] theorem e_tgB {E : En} {s : En → SR} {q : D → DE → Option DE} {d : D} : tgB q s d E = match q d E.e with | some e' => s ⟨e', E.st⟩ | none => .bad := rfl
@[simp] theorem e_for0 {b : D → En → SR} {E : En} : forD b [] E = .nx E := rfl
theorem e_forC {b : D → En → SR} {x : D} {xs : List D} {E : En} : forD b (x :: xs) E = match b x E with | .nx e' => forD b xs e' | .ct e' => forD b xs e' | .bk e' => .nx e' | r => r := rfl
@[simp] theorem e_itL {l : List D} : itemsOf (.lst l) = some l := rfl
@[simp] theorem e_itT {l : List D} : itemsOf (.tup l) = some l := rfl
@[simp] theorem e_itS {z : Str} : itemsOf (.str z) = some (z.cps.toList.map fun c => .str ⟨#[c]⟩) := rfl
@[simp] theorem e_itR {l : List Int} : itemsOf (.scr l) = some (l.map .int) := rfl
@[simp] theorem e_rng1 {j : Int} : rng1 [.int j] = if -(2 ^ 62) ≤ j ∧ j < 2 ^ 62 then some (0, j.toNat) else none := rfl
@[simp] theorem e_rng2 {i j : Int} : rng2 [.int i, .int j] = if -(2 ^ 62) ≤ i ∧ i < 2 ^ 62 ∧ -(2 ^ 62) ≤ j ∧ j < 2 ^ 62 then some (i, (j - i).toNat) else none := rfl
@[simp] theorem e_wipe0 {e : DE} : wipeE e [] = e := rfl
@[simp] theorem e_wipeC {e : DE} {v : Nat} {vs : List Nat} : wipeE e (v :: vs) = (wipeE e vs).set v .emp := rfl
@[simp] theorem e_lc0 {k : D → Sto → Option (Option D × Sto)} {st : Sto} : lcGo k [] st = some ([], st) := rfl
theorem e_lcC {k : D → Sto → Option (Option D × Sto)} {d : D} {l : List D} {st : Sto} : lcGo k (d :: l) st = (k d st).bind fun o => (lcGo k l o.2).bind fun r => some (o.1.toList ++ r.1, r.2) := rfl
@[simp] theorem e_lcStep {q : D → DE → Option DE} {c f : En → ER} {e : DE} {d : D} {st : Sto} : lcStep q c f e d st = match q d e with
  | none => none
  | some e2 => (match c ⟨e2, st⟩ with
    | .val _ (.bl b) st1 => if b = true then (match f ⟨e2, st1⟩ with | .val .P y st2 => some (some y, st2) | .val .N y st2 => some (some y, st2) | _ => none) else some (none, st1)
    | _ => none) := rfl
@[simp] theorem e_nilOnly {s : En → SR} {E : En} : nilOnly [] s E = s E := rfl
@[simp] theorem e_clr0 : clr [] = [] := rfl
@[simp] theorem e_clrC {x : SL} {r : DE} : clr (x :: r) = (match x with | .exn => .emp | .clo _ => .emp | s => s) :: clr r := rfl
@[simp] theorem e_ret_nx {E : En} : (SR.nx E).ret = .val .P .non E.st := rfl
@[simp] theorem e_ret_rt {m : Md} {d : D} {st : Sto} : (SR.rt m d st).ret = .val m d st := rfl
@[simp] theorem e_ret_exc {k : Nat} {l : List D} {E : En} : (SR.exc k l E).ret = .exc k l E.st := rfl
@[simp] theorem e_ret_bad : SR.bad.ret = .bad := rfl
@[simp] theorem e_fnD {n m : Nat} {s : En → SR} {ds : List D} {st : Sto} : fnD n m s ds st = if ds.length = n then (s ⟨startE m ds, st⟩).ret else .bad := rfl
@[simp] theorem e_startE {n : Nat} {ds : List D} : startE n ds = ds.map .val ++ List.replicate (n - ds.length) .emp := rfl
@[simp] theorem e_frz {i : Nat} {e : DE} : frz i e = match e[i]? with | some (.own l) => e.set i (.val (.lst l)) | _ => e := rfl
@[simp] theorem e_sSetI {x : Nat} {f fi : En → ER} {E : En} : sSetI x f fi E = match E.e[x]? with | some (.own _) => sSetO x f fi E | _ => sSetP (dVar x) f fi E := rfl
@[simp] theorem e_stLst {st : Sto} {n : Nat} : stLst st n = match st[n]? with | some (.lst l) => some l | _ => none := rfl
@[simp] theorem e_slL {l : List D} {lo hi : Option Int} {st : Sto} : oSl (.lst l) lo hi st = .val .N (.lst (cutG l lo hi)) st := rfl
@[simp] theorem e_slR {l : List Int} {lo hi : Option Int} {st : Sto} : oSl (.scr l) lo hi st = .val .N (.lst ((cutG l lo hi).map .int)) st := rfl
@[simp] theorem e_slS {z : Str} {lo hi : Option Int} {st : Sto} : oSl (.str z) lo hi st = if z.length ≤ 1000000 then .val .P (.str (cutS z lo hi)) st else .bad := rfl
@[simp] theorem e_isN {a : D} {st : Sto} : oIsN a .non st = .val .P (.bl (isNon a)) st := rfl
@[simp] theorem e_notN {a : D} {st : Sto} : oNotN a .non st = .val .P (.bl (!isNon a)) st := rfl
@[simp] theorem isNon_non : isNon .non = true := rfl
@[simp] theorem isNon_int {i : Int} : isNon (.int i) = false := rfl
@[simp] theorem isNon_str {i : Str} : isNon (.str i) = false := rfl
@[simp] theorem isNon_lst {i : List D} : isNon (.lst i) = false := rfl
@[simp] theorem isNon_tup {i : List D} : isNon (.tup i) = false := rfl
@[simp] theorem isNon_obj {c : Nat} {i : List D} : isNon (.obj c i) = false := rfl
@[simp] theorem e_eqI {i j : Int} {st : Sto} : oEq (.int i) (.int j) st = .val .P (.bl (decide (i = j))) st := rfl
@[simp] theorem e_neI {i j : Int} {st : Sto} : oNe (.int i) (.int j) st = .val .P (.bl (!decide (i = j))) st := rfl
@[simp] theorem e_eqS {i j : Str} {st : Sto} : oEq (.str i) (.str j) st = .val .P (.bl (decide (i = j))) st := rfl
@[simp] theorem e_neS {i j : Str} {st : Sto} : oNe (.str i) (.str j) st = .val .P (.bl (!decide (i = j))) st := rfl
theorem kit_ii : kitB "int" "int" = some true := by decide +kernel
theorem kit_ib : kitB "int" "bool" = some false := by decide +kernel
theorem kit_tt : kitB "tuple" "tuple" = some true := by decide +kernel
theorem kit_ll : kitB "list" "list" = some true := by decide +kernel
theorem kit_ss : kitB "str" "str" = some true := by decide +kernel
theorem kit_si : kitB "str" "int" = some false := by decide +kernel
theorem kit_is : kitB "int" "str" = some false := by decide +kernel
theorem kit_ti : kitB "tuple" "int" = some false := by decide +kernel
theorem kit_it : kitB "int" "tuple" = some false := by decide +kernel
@[simp] theorem e_is_ii {i : Int} {st : Sto} : isT "int" (.int i) st = .val .P (.bl true) st := by simp only [isT, tyN, kit_ii, ofOpt_some]
@[simp] theorem e_is_ib {i : Int} {st : Sto} : isT "bool" (.int i) st = .val .P (.bl false) st := by simp only [isT, tyN, kit_ib, ofOpt_some]
@[simp] theorem e_is_tt {l : List D} {st : Sto} : isT "tuple" (.tup l) st = .val .P (.bl true) st := by simp only [isT, tyN, kit_tt, ofOpt_some]
@[simp] theorem e_is_ll {l : List D} {st : Sto} : isT "list" (.lst l) st = .val .P (.bl true) st := by simp only [isT, tyN, kit_ll, ofOpt_some]
@[simp] theorem e_is_ss {l : Str} {st : Sto} : isT "str" (.str l) st = .val .P (.bl true) st := by simp only [isT, tyN, kit_ss, ofOpt_some]
@[simp] theorem e_is_is {i : Int} {st : Sto} : isT "str" (.int i) st = .val .P (.bl false) st := by simp only [isT, tyN, kit_is, ofOpt_some]
@[simp] theorem e_is_it {i : Int} {st : Sto} : isT "tuple" (.int i) st = .val .P (.bl false) st := by simp only [isT, tyN, kit_it, ofOpt_some]
@[simp] theorem e_is_si {l : Str} {st : Sto} : isT "int" (.str l) st = .val .P (.bl false) st := by simp only [isT, tyN, kit_si, ofOpt_some]
@[simp] theorem e_is_ti {l : List D} {st : Sto} : isT "int" (.tup l) st = .val .P (.bl false) st := by simp only [isT, tyN, kit_ti, ofOpt_some]
theorem eqAny_of {a b : D} {r : Bool} {st : Sto} (hs : scalD a b = false) (h1 : isPy a = true) (h2 : isPy b = true) (h3 : SeqAt.shaped (py a) = true) (h4 : SeqAt.shaped (py b) = true) (he : PyData.eqv (py a) (py b) = r) : oEq a b st = .val .P (.bl r) st := by
  unfold oEq eqAny
  rw [if_neg (by rw [hs]; exact Bool.false_ne_true), if_pos ⟨h1, h2, h3, h4⟩, he]
theorem py_ints : ∀ l : List Int, pyL (l.map D.int) = l.map PyData.int
  | [] => rfl
  | i :: l => by simp [pyL, py, py_ints l]
theorem isPy_ints : ∀ l : List Int, isPyL (l.map D.int) = true
  | [] => rfl
  | i :: l => by simp [isPyL, isPy, isPy_ints l]
theorem eqv_ints : ∀ l m : List Int, PyData.eqvAll (l.map PyData.int) (m.map PyData.int) = decide (l = m)
  | [], [] => by simp [PyData.eqvAll]
  | [], _ :: _ => by simp [PyData.eqvAll]
  | _ :: _, [] => by simp [PyData.eqvAll]
  | i :: l, j :: m => by
    simp only [List.map_cons, PyData.eqvAll, PyData.eqv, eqv_ints l m]
    by_cases h : i = j <;> simp [h]
theorem lay_ints : ∀ l : List Int, PyData.canLayAll0 (l.map PyData.int) = true
  | [] => by simp [PyData.canLayAll0]
  | i :: l => by simp [PyData.canLayAll0, PyData.canLay0, lay_ints l]
theorem depth_ints : ∀ l : List Int, PyData.depthAll (l.map PyData.int) = 0
  | [] => by simp [PyData.depthAll]
  | i :: l => by simp [PyData.depthAll, PyData.depth, depth_ints l]
theorem eq_tupInts (l m : List Int) (st : Sto) : oEq (.tup (l.map .int)) (.tup (m.map .int)) st = .val .P (.bl (decide (l = m))) st := by
  refine eqAny_of rfl ?_ ?_ ?_ ?_ ?_
  · simp [isPy, isPy_ints]
  · simp [isPy, isPy_ints]
  · simp [SeqAt.shaped, py, py_ints, PyData.canLay0, PyData.depth, lay_ints, depth_ints]
  · simp [SeqAt.shaped, py, py_ints, PyData.canLay0, PyData.depth, lay_ints, depth_ints]
  · simp [py, py_ints, PyData.eqv, eqv_ints]
@[simp] theorem eq_tup2 {a b c d : Int} {st : Sto} : oEq (.tup [.int a, .int b]) (.tup [.int c, .int d]) st = .val .P (.bl (decide (a = c ∧ b = d))) st := by
  have h := eq_tupInts [a, b] [c, d] st
  simp only [List.map_cons, List.map_nil] at h
  rw [h]
  simp
theorem ne_of_eq {a b : D} {st : Sto} {r : Bool} (h : oEq a b st = .val .P (.bl r) st) : oNe a b st = .val .P (.bl (!r)) st := by
  unfold oEq at h; unfold oNe
  cases q : eqAny a b with
  | none => rw [q] at h; cases h
  | some x => rw [q] at h; cases h; rfl
@[simp] theorem ne_tup2 {a b c d : Int} {st : Sto} : oNe (.tup [.int a, .int b]) (.tup [.int c, .int d]) st = .val .P (.bl (!decide (a = c ∧ b = d))) st := ne_of_eq eq_tup2
@[simp] theorem e_stIns {st : Sto} {n : Nat} : stIns st n = match st[n]? with | some (.ins c l) => some (c, l) | _ => none := rfl
@[simp] theorem e_putI {i : Nat} {d : D} {l : List D} : putI i d l = if i < l.length then some (l.set i d) else if i = l.length then some (l ++ [d]) else none := rfl
@[simp] theorem e_mAppend {l : List D} {d : D} : mAppend l [d] = if l.length < 1000000 then some (.non, l ++ [d]) else none := rfl
@[simp] theorem e_mInsert {l : List D} {i : Int} {d : D} : mInsert l [.int i, d] = if l.length < 1000000 ∧ 0 ≤ i ∧ i < 2 ^ 63 then some (.non, l.take i.toNat ++ [d] ++ l.drop i.toNat) else none := rfl
@[simp] theorem e_mPop {l : List D} : mPop l [] = match l[l.length - 1]? with | some d => some (d, l.dropLast) | none => none := rfl
@[simp] theorem e_mPopAt {l : List D} {i : Int} : mPopAt l [.int i] = if -(2 ^ 63) ≤ i ∧ i < 2 ^ 63 then (match seqIndex? i l.length with | some k => (match l[k]? with | some d => some (d, l.eraseIdx k) | none => none) | none => none) else none := rfl
@[simp] theorem e_mReverse {l : List D} : mReverse l [] = some (.non, l.reverse) := rfl
@[simp] theorem e_putAt0 {d : D} {e : DE} : putAt none d e = e := rfl
@[simp] theorem e_putAt1 {d : D} {e : DE} {j : Nat} : putAt (some j) d e = e.set j (.val d) := rfl
@[simp] theorem e_isC {c : Nat} {fo : En → ER} {E : En} : isC c fo E = match fo E with
  | .val _ (.ptr n) st => (match stIns st n with | some (c', _) => c' == c | none => false)
  | _ => false := rfl
@[simp] theorem e_dIterV {i : Nat} {E : En} : dIterV i E = match E.e[i]? with
  | some (.own l) => .ok false l E.st
  | _ => dIter (dVar i) E := rfl
@[simp] theorem e_mClear {l : List D} : mClear l [] = some (.non, []) := rfl
@[simp] theorem boolsOf_map {α : Type} (f : α → Bool) : ∀ l : List α, boolsOf (l.map fun a => .bl (f a)) = some (l.map f)
  | [] => rfl
  | a :: l => by simp [boolsOf, boolsOf_map f l]
@[simp] theorem e_oIn_1 {a : D} {l : List D} {st : Sto} : oIn a (.lst l) st = ofOpt (inL a l) fun r => .val .P (.bl r) st := rfl
@[simp] theorem e_oIn_2 {a : D} {n : Nat} {st : Sto} : oIn a (.ptr n) st = ofOpt (stLst st n) fun l => ofOpt (inL a l) fun r => .val .P (.bl r) st := rfl
@[simp] theorem e_oNotIn_1 {a : D} {l : List D} {st : Sto} : oNotIn a (.lst l) st = ofOpt (inL a l) fun r => .val .P (.bl (!r)) st := rfl
@[simp] theorem e_oNotIn_2 {a : D} {n : Nat} {st : Sto} : oNotIn a (.ptr n) st = ofOpt (stLst st n) fun l => ofOpt (inL a l) fun r => .val .P (.bl (!r)) st := rfl
@[simp] theorem e_cloOf0 : cloOf [] = [] := rfl
@[simp] theorem e_cloOfC {x : SL} {r : DE} : cloOf (x :: r) = (match x with | .val d => some d | _ => none) :: cloOf r := rfl
@[simp] theorem e_cloE {ds : List (Option D)} {ja jb : Nat} {x y : D} : cloE ds ja jb x y = ((ds.map slO).set ja (.val x)).set jb (.val y) := rfl
@[simp] theorem e_slO1 {d : D} : slO (some d) = .val d := rfl
@[simp] theorem e_slO0 : slO none = .emp := rfl
@[simp] theorem e_startL {n : Nat} {d : D} {ds : List (Option D)} : startL n d ds = .val d :: .clo ds :: List.replicate (n - 2) .emp := rfl
@[simp] theorem e_valOnly {m : Md} {d : D} {st : Sto} : valOnly (.val m d st) = .val m d st := rfl
@[simp] theorem e_sBad {E : En} : sBad E = .bad := rfl
@[simp] theorem e_dBad {E : En} : dBad E = .bad := rfl
@[simp] theorem e_sForX {f : En → ER} {t : D → DE → Option DE} {b : En → SR} {E : En} : sForX f t b E = match f E with
  | .val _ (.ptr n) st => (match stLst st n with | some l => forPD n l (tgB t b) l ⟨E.e, st⟩ | none => .bad)
  | _ => sFor (dIter f) t b E := rfl
@[simp] theorem e_derefL {st : Sto} {l : List D} : deref st (.lst l) = .lst l := rfl
@[simp] theorem e_derefT {st : Sto} {l : List D} : deref st (.tup l) = .tup l := rfl
@[simp] theorem e_derefI {st : Sto} {i : Int} : deref st (.int i) = .int i := rfl
@[simp] theorem e_derefS {st : Sto} {x : Str} : deref st (.str x) = .str x := rfl
@[simp] theorem e_derefB {st : Sto} {x : Bool} : deref st (.bl x) = .bl x := rfl
@[simp] theorem e_derefN {st : Sto} : deref st .non = .non := rfl
@[simp] theorem e_derefP {st : Sto} {n : Nat} : deref st (.ptr n) = (match stLst st n with | some l => .lst l | none => .ptr n) := rfl
@[simp] theorem e_oEqX {a b : D} {st : Sto} : oEqX a b st = oEq (deref st a) (deref st b) st := rfl
@[simp] theorem e_oNeX {a b : D} {st : Sto} : oNeX a b st = oNe (deref st a) (deref st b) st := rfl
@[simp] theorem e_ownF0 {c : Nat} : ownF [] c = none := rfl
@[simp] theorem e_ownFC {c c' : Nat} {F : List D → Sto → ER} {l : OwnL} : ownF ((c', F) :: l) c = if c = c' then some F else ownF l c := rfl
@[simp] theorem e_asLen {m : Md} {i : Int} {st : Sto} : asLen (.val m (.int i) st) = if 0 ≤ i ∧ i < 2 ^ 63 then .val .P (.int i) st else .bad := rfl
@[simp] theorem e_asStr {m : Md} {i : Str} {st : Sto} : asStr (.val m (.str i) st) = .val .P (.str i) st := rfl
@[simp] theorem e_asBl {m : Md} {i n : Bool} {st : Sto} : asBl n (.val m (.bl i) st) = .val .P (.bl (i != n)) st := rfl
@[simp] theorem e_isOP {t : Nat → Option Bool} {n : Nat} {st : Sto} : isO t (.ptr n) st = (match stIns st n with | some (c, _) => ofOpt (t c) fun b => .val .P (.bl b) st | none => (match stLst st n with | some _ => .val .P (.bl false) st | none => .bad)) := rfl
@[simp] theorem e_isON {t : Nat → Option Bool} {st : Sto} : isO t .non st = .val .P (.bl false) st := rfl
@[simp] theorem e_isOI {t : Nat → Option Bool} {i : Int} {st : Sto} : isO t (.int i) st = .val .P (.bl false) st := rfl
@[simp] theorem e_isOB {t : Nat → Option Bool} {i : Bool} {st : Sto} : isO t (.bl i) st = .val .P (.bl false) st := rfl
@[simp] theorem e_isOS {t : Nat → Option Bool} {i : Str} {st : Sto} : isO t (.str i) st = .val .P (.bl false) st := rfl
@[simp] theorem e_isOT {t : Nat → Option Bool} {l : List D} {st : Sto} : isO t (.tup l) st = .val .P (.bl false) st := rfl
@[simp] theorem e_isOL {t : Nat → Option Bool} {l : List D} {st : Sto} : isO t (.lst l) st = .val .P (.bl false) st := rfl
@[simp] theorem e_eqArgP {Cs : List Nat} {n : Nat} {st : Sto} : eqArg Cs (.ptr n) st = (match stIns st n with | some (c, _) => Cs.contains c | none => false) := rfl
@[simp] theorem e_eqArgN {Cs : List Nat} {st : Sto} : eqArg Cs .non st = true := rfl
@[simp] theorem e_eqArgI {Cs : List Nat} {i : Int} {st : Sto} : eqArg Cs (.int i) st = true := rfl
@[simp] theorem e_eqArgB {Cs : List Nat} {i : Bool} {st : Sto} : eqArg Cs (.bl i) st = true := rfl
@[simp] theorem e_eqArgS {Cs : List Nat} {i : Str} {st : Sto} : eqArg Cs (.str i) st = true := rfl
@[simp] theorem e_eqArgT {Cs : List Nat} {i : List D} {st : Sto} : eqArg Cs (.tup i) st = true := rfl
@[simp] theorem e_eqArgL {Cs : List Nat} {i : List D} {st : Sto} : eqArg Cs (.lst i) st = true := rfl
@[simp] theorem e_eqO2P {Os : OwnL} {Cs : List Nat} {neg : Bool} {o : D → D → Sto → ER} {m : Md} {n : Nat} {y : D} {st : Sto} : eqO2 Os Cs neg o m (.ptr n) y st = (match stIns st n with
    | some (c, _) => ofOpt (ownF Os c) fun F => if m ≠ .B ∧ eqArg Cs y st = true then asBl neg (F [.ptr n, y] st) else .bad
    | none => o (.ptr n) y st) := rfl
@[simp] theorem e_eqO2I {Os : OwnL} {Cs : List Nat} {neg : Bool} {o : D → D → Sto → ER} {m : Md} {i : Int} {y : D} {st : Sto} : eqO2 Os Cs neg o m (.int i) y st = o (.int i) y st := rfl
@[simp] theorem e_eqO2L {Os : OwnL} {Cs : List Nat} {neg : Bool} {o : D → D → Sto → ER} {m : Md} {i : List D} {y : D} {st : Sto} : eqO2 Os Cs neg o m (.lst i) y st = o (.lst i) y st := rfl
@[simp] theorem e_rowsOf {α : Type} {f g : α → Int} : ∀ l : List α, rowsOf (l.map fun a => .tup [.int (f a), .int (g a)]) = some (l.map fun a => (f a, g a))
  | [] => rfl
  | a :: l => by simp only [List.map_cons, rowsOf, e_rowsOf l]; rfl
@[simp] theorem e_strsOf {α : Type} {f : α → Str} : ∀ l : List α, strsOf (l.map fun a => .str (f a)) = some (l.map f)
  | [] => rfl
  | a :: l => by simp only [List.map_cons, strsOf, e_strsOf l]; rfl
@[simp] theorem e_seqL {l : List D} {st : Sto} : seqStrs (.lst l) st = strsOf l := rfl
@[simp] theorem e_seqT {l : List D} {st : Sto} : seqStrs (.tup l) st = strsOf l := rfl
@[simp] theorem e_seqP {n : Nat} {st : Sto} : seqStrs (.ptr n) st = (stLst st n).bind strsOf := rfl
@[simp] theorem e_js0 {a : Str} {e : DE} {st : Sto} : jsGo [] a e st = .val .P (.str a) st := rfl
@[simp] theorem e_jsC {f : En → ER} {fs : List (En → ER)} {acc : Str} {e : DE} {st : Sto} : jsGo (f :: fs) acc e st = match f ⟨e, st⟩ with
    | .val _ (.str y) st1 => if (acc ++ y).length ≤ 1000000 then jsGo fs (acc ++ y) e st1 else .bad
    | .exc c l st => .exc c l st
    | _ => .bad := rfl
@[simp] theorem e_oSortedX {l : List D} {st : Sto} : oSortedX [.lst l] st = (match intsOf l with
    | some ns => if ns.length < 64 then .val .N (.lst ((srt ns).map .int)) st else .bad
    | none => ofOpt (rowsOf l) fun rs => .val .N (.lst ((srtP rs).map fun r => .tup [.int r.1, .int r.2])) st) := rfl
@[simp] theorem e_msJoin {a : Str} {d : D} {st : Sto} : msJoin a [d] st = ofOpt (seqStrs d st) fun ys => if (ys.map (·.length)).sum + ys.length * a.length ≤ 1000000 then .val .P (.str (Txt.join a ys)) st else .bad := rfl
@[simp] theorem e_msSplit {a b : Str} {st : Sto} : msSplit a [.str b] st = if (b.length == 0) = false ∧ a.length + 2 ≤ 1000000 then .val .N (.lst ((Txt.split a b).map .str)) st else .bad := rfl
@[simp] theorem e_msPartition {a b : Str} {st : Sto} : msPartition a [.str b] st = if (b.length == 0) = false ∧ a.length ≤ 1000000 then .val .P (.tup [.str (Txt.partition a b).1, .str (Txt.partition a b).2.1, .str (Txt.partition a b).2.2]) st else .bad := rfl
@[simp] theorem e_msCount {a b : Str} {st : Sto} : msCount a [.str b] st = .val .P (.int (Txt.count a b)) st := rfl
@[simp] theorem e_isTPp {T : String} {n : Nat} {st : Sto} : isTP T (.ptr n) st = (match stLst st n with | some _ => ofOpt (kitB "list" T) fun b => .val .P (.bl b) st | none => .bad) := rfl
@[simp] theorem e_isTPl {T : String} {l : List D} {st : Sto} : isTP T (.lst l) st = isT T (.lst l) st := rfl
@[simp] theorem e_isTPt {T : String} {l : List D} {st : Sto} : isTP T (.tup l) st = isT T (.tup l) st := rfl
end Dn
namespace Dn
open PySem PySem.Spec PyProof.Rows L2
def sThru (g : En → SR) : En → SR := fun E => match g E with
  | .exc _ _ _ => .bad
  | r => r
@[simp] theorem e_sThru {g : En → SR} {E : En} : sThru g E = match g E with
  | .exc _ _ _ => .bad
  | r => r := rfl
end Dn
namespace Dn
open PySem PySem.Spec PyProof.Rows L2
section
variable {G : Gm} {W : WX}
def sSwI (x : Nat) (f : En → ER) (f1 f2 : En → ER) : En → SR := fun E => match f E with
  | .val .P (.tup [a, b]) st => (match E.e[x]? with
    | some (.own l) => (match f1 ⟨E.e, st⟩ with
      | .val _ (.int i) st1 => (match ixN l.length i with
        | some j => (match f2 ⟨E.e.set x (.own (l.set j a)), st1⟩ with
          | .val _ (.int i2) st2 => (match ixN l.length i2 with
            | some j2 => .nx ⟨(E.e.set x (.own (l.set j a))).set x (.own ((l.set j a).set j2 b)), st2⟩
            | none => .bad)
          | _ => .bad)
        | none => .bad)
      | _ => .bad)
    | _ => .bad)
  | .exc c l st => .exc c l ⟨E.e, st⟩
  | _ => .bad
@[simp] theorem e_sSwI {x : Nat} {f f1 f2 : En → ER} {E : En} : sSwI x f f1 f2 E = match f E with
  | .val .P (.tup [a, b]) st => (match E.e[x]? with
    | some (.own l) => (match f1 ⟨E.e, st⟩ with
      | .val _ (.int i) st1 => (match ixN l.length i with
        | some j => (match f2 ⟨E.e.set x (.own (l.set j a)), st1⟩ with
          | .val _ (.int i2) st2 => (match ixN l.length i2 with
            | some j2 => .nx ⟨(E.e.set x (.own (l.set j a))).set x (.own ((l.set j a).set j2 b)), st2⟩
            | none => .bad)
          | _ => .bad)
        | none => .bad)
      | _ => .bad)
    | _ => .bad)
  | .exc c l st => .exc c l ⟨E.e, st⟩
  | _ => .bad := rfl
end
end Dn
namespace L2
open PySem PySem.Spec PyProof.Rows
end L2
namespace Dn
open PySem PySem.Spec PyProof.Rows L2
section
variable {G : Gm} {W : WX}
def cntL (d : D) (l : List D) : Option Nat := if isPy d = true ∧ isPyL l = true ∧ SeqAt.shaped (py d) = true ∧ SeqAt.shaped (.list (pyL l)) = true then some ((pyL l).countP fun z => PyData.eqv z (py d)) else none
def dCnt (fb : En → ER) (fa : En → AR) : En → ER := fun E => match fb E with
  | .val _ (.lst l) st => (match fa ⟨E.e, st⟩ with
    | .ok _ [d] st1 => ofOpt (cntL d l) fun n => .val .P (.int (n : Nat)) st1
    | .exc c l st => .exc c l st
    | _ => .bad)
  | .exc c l st => .exc c l st
  | _ => .bad
@[simp] theorem e_dCnt {fb : En → ER} {fa : En → AR} {E : En} : dCnt fb fa E = match fb E with
  | .val _ (.lst l) st => (match fa ⟨E.e, st⟩ with
    | .ok _ [d] st1 => ofOpt (cntL d l) fun n => .val .P (.int (n : Nat)) st1
    | .exc c l st => .exc c l st
    | _ => .bad)
  | .exc c l st => .exc c l st
  | _ => .bad := rfl
def oInT (a b : D) (st : Sto) : ER := match a, b with
  | .str x, .tup l => ofOpt (strsOf l) fun ys => .val .P (.bl (inV (.str x) (ys.map V.str))) st
  | _, _ => .bad
@[simp] theorem e_oInT {x : Str} {l : List D} {st : Sto} : oInT (.str x) (.tup l) st = ofOpt (strsOf l) fun ys => .val .P (.bl (inV (.str x) (ys.map V.str))) st := rfl
end
end Dn
namespace Dn
open PySem PySem.Spec PyProof.Rows L2
def pickN (n : Nat) (lo hi : Option Int) (c : Int) : List Nat := sliceRange (sliceBounds lo hi (some c) n).1 (sliceBounds lo hi (some c) n).2.1 (sliceBounds lo hi (some c) n).2.2
def stepG {α : Type} (l : List α) (lo hi : Option Int) (c : Int) : List α := (pickN l.length lo hi c).filterMap (l[·]?)
section
variable {G : Gm} {W : WX}
def dStp (c : Int) (f : En → ER) (lo hi : En → Option ER) : En → ER := fun E => (f E).bind fun x st => ofOpt (partI (lo ⟨E.e, st⟩) st) fun l => ofOpt (partI (hi ⟨E.e, l.2⟩) l.2) fun u => match x with
  | .lst xs => if (stepG xs l.1 u.1 c).length ≤ xs.length then .val .N (.lst (stepG xs l.1 u.1 c)) u.2 else .bad
  | _ => .bad
@[simp] theorem e_dStp {c : Int} {f : En → ER} {lo hi : En → Option ER} {E : En} : dStp c f lo hi E = (f E).bind fun x st => ofOpt (partI (lo ⟨E.e, st⟩) st) fun l => ofOpt (partI (hi ⟨E.e, l.2⟩) l.2) fun u => match x with
  | .lst xs => if (stepG xs l.1 u.1 c).length ≤ xs.length then .val .N (.lst (stepG xs l.1 u.1 c)) u.2 else .bad
  | _ => .bad := rfl
end
section
variable {G : Gm} {W : WX}
def msIndex (a : Str) (ds : List D) (st : Sto) : ER := match ds with
  | [.str b] => ofOpt (Txt.index0 a b) fun k => .val .P (.int (k : Nat)) st
  | _ => .bad
@[simp] theorem e_msIndex {a b : Str} {st : Sto} : msIndex a [.str b] st = ofOpt (Txt.index0 a b) fun k => .val .P (.int (k : Nat)) st := rfl
end
section
variable {G : Gm} {W : WX}
def sAugO (x : Nat) (o : Int → Int → Int) (fi fe : En → ER) : En → SR := fun E => match E.e[x]? with
  | some (.own l) => (match fi E with
    | .val _ (.int i) st1 => if 0 ≤ i then (match ixN l.length i with
      | some j => (match l[j]? with
        | some (.int a) => (match fe ⟨E.e, st1⟩ with
          | .val _ (.int b) st2 => .nx ⟨E.e.set x (.own (l.set j (.int (o a b)))), st2⟩
          | _ => .bad)
        | _ => .bad)
      | none => .bad) else .bad
    | _ => .bad)
  | _ => .bad
@[simp] theorem e_sAugO {x : Nat} {o : Int → Int → Int} {fi fe : En → ER} {E : En} : sAugO x o fi fe E = match E.e[x]? with
  | some (.own l) => (match fi E with
    | .val _ (.int i) st1 => if 0 ≤ i then (match ixN l.length i with
      | some j => (match l[j]? with
        | some (.int a) => (match fe ⟨E.e, st1⟩ with
          | .val _ (.int b) st2 => .nx ⟨E.e.set x (.own (l.set j (.int (o a b)))), st2⟩
          | _ => .bad)
        | _ => .bad)
      | none => .bad) else .bad
    | _ => .bad)
  | _ => .bad := rfl
end
section
variable {G : Gm} {W : WX}
def dEnumS (f : En → AR) : En → AR := fun E => match f E with
  | .ok _ [.str z] st => .ok true (enumD 0 (z.cps.toList.map fun c => .str ⟨#[c]⟩)) st
  | .exc c l st => .exc c l st
  | _ => .bad
@[simp] theorem e_dEnumS {f : En → AR} {E : En} : dEnumS f E = match f E with
  | .ok _ [.str z] st => .ok true (enumD 0 (z.cps.toList.map fun c => .str ⟨#[c]⟩)) st
  | .exc c l st => .exc c l st
  | _ => .bad := rfl
end
section
variable {G : Gm} {W : WX}
def oListS : List D → Sto → ER
  | [.str x], st => if x.length ≤ 1000000 then .val .N (.lst (x.cps.toList.map fun c => .str ⟨#[c]⟩)) st else .bad
  | _, _ => .bad
@[simp] theorem e_oListS {x : Str} {st : Sto} : oListS [.str x] st = if x.length ≤ 1000000 then .val .N (.lst (x.cps.toList.map fun c => .str ⟨#[c]⟩)) st else .bad := rfl
end
section
variable {G : Gm} {W : WX}
def oMulS : D → D → Sto → ER
  | .str a, .int n, st => if 0 ≤ n ∧ n ≤ 1000 ∧ a.length ≤ 1000 then .val .P (.str (Txt.mul a n)) st else .bad
  | _, _, _ => .bad
@[simp] theorem e_oMulS {a : Str} {n : Int} {st : Sto} : oMulS (.str a) (.int n) st = if 0 ≤ n ∧ n ≤ 1000 ∧ a.length ≤ 1000 then .val .P (.str (Txt.mul a n)) st else .bad := rfl
end
end Dn
namespace Dn
open PySem PySem.Spec PyProof.Rows L2
section
variable {G : Gm} {W : WX}
def sTryO (catch? : Nat → Option Bool) (g : En → SR) (h : En → SR) : En → SR := fun E => match g E with
  | .exc c l E1 => (match catch? c with
    | some true => (match h ⟨clr E1.e, E1.st⟩ with
      | .nx E2 => .nx ⟨clr E2.e, E2.st⟩
      | .bk E2 => .bk ⟨clr E2.e, E2.st⟩
      | .ct E2 => .ct ⟨clr E2.e, E2.st⟩
      | .rt m d st => .rt m d st
      | _ => .bad)
    | some false => .exc c l E1
    | none => .bad)
  | r => r
@[simp] theorem e_sTryO {catch? : Nat → Option Bool} {g h : En → SR} {E : En} : sTryO catch? g h E = match g E with
  | .exc c l E1 => (match catch? c with
    | some true => (match h ⟨clr E1.e, E1.st⟩ with
      | .nx E2 => .nx ⟨clr E2.e, E2.st⟩
      | .bk E2 => .bk ⟨clr E2.e, E2.st⟩
      | .ct E2 => .ct ⟨clr E2.e, E2.st⟩
      | .rt m d st => .rt m d st
      | _ => .bad)
    | some false => .exc c l E1
    | none => .bad)
  | r => r := rfl
end
section
variable {G : Gm} {W : WX}
def sRaiseF (c : Nat) (fa : En → AR) : En → SR := fun E => match fa E with
  | .ok true [d] st => .exc c [d] ⟨E.e, st⟩
  | .exc c' l st => .exc c' l ⟨E.e, st⟩
  | _ => .bad
@[simp] theorem e_sRaiseF {c : Nat} {fa : En → AR} {E : En} : sRaiseF c fa E = match fa E with
  | .ok true [d] st => .exc c [d] ⟨E.e, st⟩
  | .exc c' l st => .exc c' l ⟨E.e, st⟩
  | _ => .bad := rfl
end
def Gm.exn (G : Gm) (a : Addr) (x : Option Addr) (c : Nat) (l : List D) : Gm := { G with ea := a, ed := x, en := G.fn c, el := l }
mutual
theorem Is.swI {G G' : Gm} (eK : G'.K = G.K) (ec : G'.ca = G.ca) (ef : G'.fn = G.fn) {as : List Addr} {H : Hp} : ∀ (d : D) {v : V}, Is G as H v d → Is G' as H v d
  | .non, _, h => by cases h; exact .non
  | .bl _, _, h => by cases h; exact .bl _
  | .int _, _, h => by cases h; exact .int _
  | .str _, _, h => by cases h; exact .str _
  | .tup ds, _, h => by cases h with | tup p b => exact .tup (by rw [eK]; exact p) (IsL.swI eK ec ef ds b)
  | .lst ds, _, h => by cases h with | lst p b => exact .lst p (IsL.swI eK ec ef ds b)
  | .scr l, _, h => by cases h with | scr p => exact .scr (by rw [eK]; exact p)
  | .ptr n, _, h => by cases h with | ptr p => exact .ptr p
  | .obj c ds, _, h => by cases h with | obj p l b => exact .obj (by rw [ec, ef]; exact p) (by rw [ef]; exact l) (IsL.swI eK ec ef ds b)
theorem IsL.swI {G G' : Gm} (eK : G'.K = G.K) (ec : G'.ca = G.ca) (ef : G'.fn = G.fn) {as : List Addr} {H : Hp} : ∀ (ds : List D) {vs : List V}, IsL G as H vs ds → IsL G' as H vs ds
  | [], _, h => by cases h; exact .nil
  | d :: ds, _, h => by cases h with | cons p b => exact .cons (Is.swI eK ec ef d p) (IsL.swI eK ec ef ds b)
end
section
variable {G G' : Gm} (eK : G'.K = G.K) (ec : G'.ca = G.ca) (ef : G'.fn = G.fn)
include eK ec ef
theorem ObOk.swI {s : Hs} {x : Addr} {o : Ob} (h : ObOk G s x o) : ObOk G' s x o := by
  cases o with
  | lst l => obtain ⟨vs, h1, h2⟩ := h; exact ⟨vs, h1, IsL.swI eK ec ef _ h2⟩
  | ins c l => obtain ⟨dx, vs, h1, h2, h3⟩ := h; exact ⟨dx, vs, by rw [ec, ef]; exact h1, by rw [ef]; exact h2, IsL.swI eK ec ef _ h3⟩
  | tbl q => exact h
  | dct l => obtain ⟨kvs, h1, h2⟩ := h; exact ⟨kvs, h1, by
      clear h1
      induction h2 with
      | nil => exact .nil
      | cons p q ih => exact .cons (Is.swI eK ec ef _ p) ih⟩
theorem StOk.swI {s : Hs} {st : Sto} (et : G'.tb = G.tb) (k : StOk G s st) (hx : ExF G' s) : StOk G' s st := ⟨k.sf, k.len, k.nd, fun n x o h1 h2 => ObOk.swI eK ec ef (k.ob n x o h1 h2), k.nf, by rw [et]; exact k.tb, hx⟩
theorem VOk.swI {s t : Hs} {m : Md} {v : V} {d : D} (h : VOk G s t m v d) : VOk G' s t m v d := by
  cases m with
  | P => exact Is.swI eK ec ef _ h
  | B => obtain ⟨p, vs, l, x, b, c, e, f⟩ := h; exact ⟨p, vs, l, x, b, c, IsL.swI eK ec ef _ e, f⟩
  | N => obtain ⟨p, vs, l, x, b, c, e, f, g⟩ := h; exact ⟨p, vs, l, x, b, c, IsL.swI eK ec ef _ e, f, g⟩
theorem SlotOk.swI {s t : Hs} {o : Option V} {sl : SL} (h : SlotOk G s t o sl) (hs : sl ≠ .exn ∧ ∀ ds, sl ≠ .clo ds) : SlotOk G' s t o sl := by
  cases sl with
  | emp => trivial
  | exn => exact absurd rfl hs.1
  | clo ds => exact absurd rfl (hs.2 ds)
  | val d => obtain ⟨v, a, b⟩ := h; exact ⟨v, a, Is.swI eK ec ef _ b⟩
  | own l => obtain ⟨p, vs, a, b, c, d, e, f⟩ := h; exact ⟨p, vs, a, b, c, d, IsL.swI eK ec ef _ e, f⟩
theorem EnvOk.swI {s t : Hs} {σ : L2.St} {e : DE} (E : EnvOk G s t σ e) : EnvOk G' s t σ (clr e) := by
  refine ⟨E.gr, by rw [E.len]; simp [clr], fun i o s a b => ?_, fun i j p l m hij a b c d => ?_⟩
  · obtain ⟨h1, h2 | h2⟩ := clr_get b
    · subst h2; trivial
    · exact (E.at_ i o s a h2).swI eK ec ef h1
  · obtain ⟨_, h2 | h2⟩ := clr_get b
    · cases h2
    · obtain ⟨_, h3 | h3⟩ := clr_get d
      · cases h3
      · exact E.dis i j p l m hij a h2 c h3
end
section
variable {G : Gm} {W : WX}
def dXf (i : Nat) (o : Option D) : En → ER := fun E => match E.e[i]? with
  | some .exn => ofOpt o fun d => .val .P d E.st
  | _ => .bad
@[simp] theorem e_dXf {i : Nat} {o : Option D} {E : En} : dXf i o E = match E.e[i]? with
  | some .exn => ofOpt o fun d => .val .P d E.st
  | _ => .bad := rfl
end
end Dn
namespace Dn
open PySem PySem.W PySem.Spec PyProof.Rows L2
end Dn
namespace Dn
open PySem PySem.Spec PyProof.Rows L2
section
variable {G : Gm} {W : WX}
open Classical in
noncomputable def lcGoC (C : Sto → Prop) (k : D → Sto → Option (Option D × Sto)) : List D → Sto → Option (List D × Sto)
  | [], st => if C st then some ([], st) else none
  | d :: l, st => if C st then (k d st).bind fun o => (lcGoC C k l o.2).bind fun r => some (o.1.toList ++ r.1, r.2) else none
noncomputable def dLcX (f : En → ER) (t : D → DE → Option DE) (c g : En → ER) (vs : List Nat) : En → ER := fun E => match f E with
  | .val _ (.ptr n) st => (match stLst st n with
    | some l => if l.length ≤ 1000000 then ofOpt (lcGoC (fun st => stLst st n = some l) (lcStep t c g (wipeE E.e vs)) l st) fun r => .val .N (.lst r.1) r.2 else .bad
    | none => .bad)
  | _ => dLc (dIter f) t c g vs E
theorem v_lcX {g : TG} {tt : TT} {te : TE} {tf : TE} {vs js : List Nat} {fs : En → ER} {t : D → DE → Option DE} {c f : En → ER} (hf : DEv G W tf fs) (hg : DTg G g js t) (hj : ∀ j ∈ js, j ∈ vs) (ht : DTt G W0 tt c) (he : DEv G W0 te f) : DEv G W (tLc (iAny G.K tf) g tt te vs) (dLcX fs t c f vs) := by
  intro s t0 σ e st E k0 Q post
  unfold dLcX at post
  split at post
  · rename_i m n st1 q
    refine .inl (hf s t0 σ e st E k0 _ ?_)
    rw [q]
    intro t1 v g1 k1 o1
    obtain ⟨p, rfl, hp⟩ := o1.u.ptr
    cases hl : stLst st1 n with
    | none => simp only [hl] at post; exact post.elim
    | some l =>
    simp only [hl] at post
    have it := it_ptr (G := G) (l := l) hp
    obtain ⟨vs0, hh0, _⟩ := k1.lst hp hl
    refine ⟨p, rfl, ⟨vs0, SqL.of hh0⟩, ?_⟩
    obtain ⟨hlen, post⟩ := RPost.cond _ _ post
    obtain ⟨out, hout, post⟩ := RPost.opt _ _ post
    have cnd : ∀ {xs : List D} {kk : D → Sto → Option (Option D × Sto)} {st : Sto} {o : List D × Sto}, lcGoC (fun st => stLst st n = some l) kk xs st = some o → stLst st n = some l := fun {xs kk st o} h => by
      by_cases c : stLst st n = some l
      · exact c
      · cases xs <;> (unfold lcGoC at h; rw [if_neg c] at h; cases h)
    intro Dl hD
    have hDH : t0.h Dl = none := by
      cases q : t0.h Dl with
      | none => rfl
      | some o =>
        by_cases i : Dl ∈ t0.as
        · exact absurd (g1.a.mem i) (k1.new hD)
        · rw [g1.h Dl o q i] at hD; cases hD
    have hD0 : s.h Dl = none := by
      cases q : s.h Dl with
      | none => rfl
      | some o =>
        by_cases i : Dl ∈ s.as
        · exact absurd (E.gr.a.mem i) (k0.new hDH)
        · rw [E.gr.h Dl o q i] at hDH; cases hDH
    have hDf : t1.f Dl = none := k1.sf.free hD
    have hDa : Dl ∉ t1.as := k1.new hD
    have Ew := (E.up g1).wipe vs
    have hne : ∀ (j : Nat) (m : List D), (L2.wipe σ vs)[j]? = some (some (.ref Dl)) → (wipeE e vs)[j]? = some (.own m) → False := fun j m a b => by
      obtain ⟨o, h1, p', vs', h2, _, _, h3, _⟩ := Ew.slot b
      rw [a] at h1; cases h1
      cases h2
      rw [hD] at h3; cases h3
    have gd := g1.chg (o := .lst []) hDH hDf
    refine ⟨fun i m H' => m = l.length - i ∧ i ≤ l.length ∧ ∃ t2 st2 acc vacc rest, t2.h = H' ∧ Up t1 t2 ∧ Gro t0 t2 ∧ StOk G t2 st2 ∧ EnvOk G s t2 (L2.wipe σ vs) (wipeE e vs) ∧ t2.h Dl = some (.lst vacc) ∧ IsL G t2.as t2.f vacc acc ∧ t2.f Dl = none ∧ Dl ∉ t2.as ∧ acc.length ≤ i ∧
      lcGoC (fun st => stLst st n = some l) (lcStep t c f (wipeE e vs)) (l.drop i) st2 = some (rest, out.2) ∧ acc ++ rest = out.1, ⟨l.length, by simp, Nat.zero_le _, ⟨t1.as, t1.f, upd t1.h Dl (.lst [])⟩, st1, [], [], out.1, rfl, ⟨Ext.refl _, Same.refl _⟩, gd, k1.chg hDf hDa, Ew.other hD0 hDf hne, upd_same, .nil, hDf, hDa, Nat.zero_le _, hout, rfl⟩, ?_⟩
    rintro i m H2 ⟨rfl, hi, t2, st2, acc, vacc, rest, rfl, s2, g2, k2, E2, d2, a2, n2, na2, l2, r2, o2⟩
    have c2 := cnd r2
    obtain ⟨i1, i2⟩ := it i t2 st2 s2 k2 c2
    by_cases hlt : i < l.length
    · right
      have hd : l[i]? = some l[i] := List.getElem?_eq_getElem hlt
      obtain ⟨go, y⟩ := i2 _ hd
      rw [List.drop_eq_getElem_cons hlt] at r2
      refine ⟨go, fun H' => i + 1 ≤ l.length ∧ ∃ t2 st2 acc vacc rest, t2.h = H' ∧ Up t1 t2 ∧ Gro t0 t2 ∧ StOk G t2 st2 ∧ EnvOk G s t2 (L2.wipe σ vs) (wipeE e vs) ∧ t2.h Dl = some (.lst vacc) ∧ IsL G t2.as t2.f vacc acc ∧ t2.f Dl = none ∧ Dl ∉ t2.as ∧ acc.length ≤ i + 1 ∧
        lcGoC (fun st => stLst st n = some l) (lcStep t c f (wipeE e vs)) (l.drop (i + 1)) st2 = some (rest, out.2) ∧ acc ++ rest = out.1, fun H' h => ⟨l.length - (i + 1), by omega, rfl, h⟩, fun x H' hy => ?_⟩
      obtain ⟨t3, rfl, g3, k3, i3⟩ := y x H' hy
      unfold lcGoC at r2; rw [if_pos c2] at r2
      cases sk : lcStep t c f (wipeE e vs) l[i] st2 with
      | none => rw [sk] at r2; cases r2
      | some o =>
        rw [sk] at r2
        have r2 : ((lcGoC (fun st => stLst st n = some l) (lcStep t c f (wipeE e vs)) (l.drop (i + 1)) o.2).bind fun r => some (o.1.toList ++ r.1, r.2)) = some (rest, out.2) := r2
        cases lg : lcGoC (fun st => stLst st n = some l) (lcStep t c f (wipeE e vs)) (l.drop (i + 1)) o.2 with
        | none => rw [lg] at r2; cases r2
        | some rest' =>
          rw [lg] at r2
          have r3 : (o.1.toList ++ rest'.1, rest'.2) = (rest, out.2) := Option.some.inj r2
          have r4 : o.1.toList ++ rest'.1 = rest := (Prod.mk.inj r3).1
          have r5 : rest'.2 = out.2 := (Prod.mk.inj r3).2
          have lg' : lcGoC (fun st => stLst st n = some l) (lcStep t c f (wipeE e vs)) (l.drop (i + 1)) o.2 = some (rest'.1, out.2) := by rw [lg, ← r5]
          unfold lcStep at sk
          cases q3 : t l[i] (wipeE e vs) with
          | none => rw [q3] at sk; cases sk
          | some e3 =>
            rw [q3] at sk
            refine hg s t3 (L2.wipe σ vs) (wipeE e vs) st2 x l[i] (E2.up g3) k3 i3 _ e3 q3 fun σ4 E4 l4 w4 => ?_
            refine ⟨wipe_agree (by rw [l4, L2.wipe_length]) hj w4 l4, ?_⟩
            refine ht s t3 σ4 e3 st2 E4 k3 _ ?_
            have sk' : (match c ⟨e3, st2⟩ with
              | .val _ (.bl b) st1 => if b = true then (match f ⟨e3, st1⟩ with | .val .P y st2 => some (some y, st2) | .val .N y st2 => some (some y, st2) | _ => none) else some (none, st1)
              | _ => none) = some o := sk
            cases q4 : c ⟨e3, st2⟩ with
            | exc k l st => rw [q4] at sk'; cases sk'
            | bad => rw [q4] at sk'; cases sk'
            | val mm d st4 =>
              rw [q4] at sk'
              cases d with
              | bl b =>
                intro t5 g5 k5
                have gg := g3.trans g5
                cases b with
                | false =>
                  cases sk'
                  refine iteF ⟨hlt, t5, st4, acc, vacc, rest'.1, rfl, s2.trans gg.up, g2.trans gg, k5, E2.up gg, gg.h _ _ d2 na2, a2.up gg.a gg.f, gg.n _ _ d2 n2, (fun m => (gg.w Dl m).elim na2 fun z => by rw [d2] at z; cases z), by omega, lg', ?_⟩
                  rw [← o2, ← r4]; rfl
                | true =>
                  refine iteT (he s t5 σ4 e3 st4 (E4.up g5) k5 _ ?_)
                  have fin : ∀ y st6 t6 v, Gro t5 t6 → StOk G t6 st6 → Is G t6.as t6.f v y → o = (some y, st6) → ∃ acc, t6.h Dl = some (.lst acc) ∧ acc.length < sizeLine ∧ (i + 1 ≤ l.length ∧ ∃ t2 st2 acc_1 vacc rest, t2.h = upd t6.h Dl (.lst (acc ++ [v])) ∧ Up t1 t2 ∧ Gro t0 t2 ∧ StOk G t2 st2 ∧ EnvOk G s t2 (L2.wipe σ vs) (wipeE e vs) ∧
                      t2.h Dl = some (.lst vacc) ∧ IsL G t2.as t2.f vacc acc_1 ∧ t2.f Dl = none ∧ Dl ∉ t2.as ∧ acc_1.length ≤ i + 1 ∧ lcGoC (fun st => stLst st n = some l) (lcStep t c f (wipeE e vs)) (l.drop (i + 1)) st2 = some (rest, out.2) ∧ acc_1 ++ rest = out.1) := fun y st6 t6 v g6 k6 i6 ho => by
                    subst ho
                    have gh := gg.trans g6
                    have nn := gh.n _ _ d2 n2
                    have na : Dl ∉ t6.as := fun m => (gh.w Dl m).elim na2 fun z => by rw [d2] at z; cases z
                    have cl := a2.len
                    refine ⟨vacc, gh.h _ _ d2 na2, by rw [cl]; exact szlt (by omega), hlt, ⟨t6.as, t6.f, upd t6.h Dl (.lst (vacc ++ [v]))⟩, st6, acc ++ [y], vacc ++ [v], rest'.1, rfl, ?_, (g2.trans gh).chg hDH nn, k6.chg nn na, (E2.up gh).other hD0 nn hne, upd_same, (a2.up gh.a gh.f).append (.one i6), nn, na, by simp; omega, lg', ?_⟩
                    · exact ⟨s2.a.trans gh.a, s2.f.trans gh.f⟩
                    · rw [← o2, ← r4]
                      simp
                  have sk2 : (match f ⟨e3, st4⟩ with | .val .P y st2 => some (some y, st2) | .val .N y st2 => some (some y, st2) | _ => none) = some o := sk'
                  cases q6 : f ⟨e3, st4⟩ with
                  | val m6 y st6 =>
                    rw [q6] at sk2
                    intro t6 v g6 k6 o6
                    cases m6 with
                    | P => exact fin y st6 t6 v g6 k6 o6 (Option.some.inj sk2).symm
                    | B => cases sk2
                    | N =>
                      obtain ⟨f7, g7, k7, _, i7⟩ := o6.freeze g6 k6 (by decide)
                      exact fin y st6 ⟨t6.as, f7, t6.h⟩ v g7 k7 i7 (Option.some.inj sk2).symm
                  | exc k l st => rw [q6] at sk2; cases sk2
                  | bad => rw [q6] at sk2; cases sk2
              | _ => cases sk'
    · left
      have : i = l.length := by omega
      subst this
      refine ⟨i1 (Nat.le_refl _), ?_⟩
      rw [List.drop_length] at r2
      unfold lcGoC at r2
      rw [if_pos c2] at r2
      have r3 : (([] : List D), st2) = (rest, out.2) := Option.some.inj r2
      have r4 : [] = rest := (Prod.mk.inj r3).1
      have r5 : st2 = out.2 := (Prod.mk.inj r3).2
      subst r4
      rw [List.append_nil] at o2
      rw [← o2, ← r5] at post
      exact post t2 _ g2 k2 ⟨Dl, vacc, acc, rfl, rfl, d2, a2, na2, hDH, n2⟩
  · exact v_lc (i_any hf) hg hj ht he s t0 σ e st E k0 Q post
end
section
variable {G : Gm} {W : WX}
def oNotInF (a b : D) (st : Sto) : ER := match b with
  | .tup l => if flat a = true ∧ l.all flat = true then .val .P (.bl (!inV (toV a) (l.map toV))) st else .bad
  | _ => .bad
@[simp] theorem e_oNotInF {a : D} {l : List D} {st : Sto} : oNotInF a (.tup l) st = if flat a = true ∧ l.all flat = true then .val .P (.bl (!inV (toV a) (l.map toV))) st else .bad := rfl
end
end Dn
namespace Dn
open PySem PySem.Spec PyProof.Rows L2
def ZS (h : Heap) (z TI TO i1 i2 l1 l2 S : Addr) (k : Nat) : Prop := IsPair h TI (.ref i1) (.ref i2) ∧ h.IsListIter i1 l1 k ∧ h.IsListIter i2 l2 k ∧ (∃ o, h.get? TO = some o) ∧
  ((IsZip h z TI TO .none ∧ ∃ a b, IsPair h TO a b) ∨ ∃ T f oT, IsZipHeld h z TI TO T f ∧ h.get? T = some oT ∧ T ≠ z ∧ T ≠ i1 ∧ T ≠ i2 ∧ T ≠ S)
theorem ZS.keep {h h' : Heap} {z TI TO i1 i2 l1 l2 S : Addr} {k : Nat} (q : ZS h z TI TO i1 i2 l1 l2 S k) (nS : S ≠ z ∧ S ≠ TI ∧ S ≠ TO ∧ S ≠ i1 ∧ S ≠ i2) (hk : ∀ b o, b ≠ S → h.get? b = some o → h'.get? b = some o) : ZS h' z TI TO i1 i2 l1 l2 S k := by
  obtain ⟨a, b, c, ⟨oo, w⟩, d⟩ := q
  obtain ⟨n1, n2, n3, n4, n5⟩ := nS
  refine ⟨hk _ _ (Ne.symm n2) a, b.at fun o e => hk _ o (Ne.symm n4) e, c.at fun o e => hk _ o (Ne.symm n5) e, ⟨oo, hk _ _ (Ne.symm n3) w⟩, ?_⟩
  rcases d with ⟨d, x, y, e⟩ | ⟨T, f, oT, d, e, r1, r2, r3, r4⟩
  · exact .inl ⟨hk _ _ (Ne.symm n1) d, x, y, hk _ _ (Ne.symm n3) e⟩
  · exact .inr ⟨T, f, oT, hk _ _ (Ne.symm n1) d, hk _ _ r4 e, r1, r2, r3, r4⟩
section
variable {G : Gm} {W : WX}
def lstOf (st : Sto) : D → Option (List D)
  | .lst l => some l
  | .ptr n => stLst st n
  | _ => none
def dLz (f : En → AR) : En → ER := fun E => match f E with
  | .ok _ [a, b] st => ofOpt (lstOf st a) fun l => ofOpt (lstOf st b) fun m => if min l.length m.length ≤ 1000000 then .val .N (.lst (zipD l m)) st else .bad
  | .exc c l st => .exc c l st
  | _ => .bad
@[simp] theorem e_dLz {f : En → AR} {E : En} : dLz f E = match f E with
  | .ok _ [a, b] st => ofOpt (lstOf st a) fun l => ofOpt (lstOf st b) fun m => if min l.length m.length ≤ 1000000 then .val .N (.lst (zipD l m)) st else .bad
  | .exc c l st => .exc c l st
  | _ => .bad := rfl
@[simp] theorem lstOf_lst {st : Sto} {l : List D} : lstOf st (.lst l) = some l := rfl
@[simp] theorem lstOf_ptr {st : Sto} {n : Nat} : lstOf st (.ptr n) = stLst st n := rfl
end
theorem FldOk.sw {G G' : Gm} {f : Str} {ix : Nat → Option Nat} (h : FldOk G f ix) (eK : G'.K = G.K := by rfl) (ec : G'.ca = G.ca := by rfl) (ef : G'.fn = G.fn := by rfl) : FldOk G' f ix := ⟨fun c i q => by rw [eK, ec, ef]; exact h.ok c i q⟩
@[simp] theorem e_dLcX {f : En → ER} {t : D → DE → Option DE} {c g : En → ER} {vs : List Nat} {E : En} : dLcX f t c g vs E = match f E with
  | .val _ (.ptr n) st => (match stLst st n with
    | some l => if l.length ≤ 1000000 then ofOpt (lcGoC (fun st => stLst st n = some l) (lcStep t c g (wipeE E.e vs)) l st) fun r => .val .N (.lst r.1) r.2 else .bad
    | none => .bad)
  | _ => dLc (dIter f) t c g vs E := rfl
end Dn
namespace Dn
open PySem PySem.Spec PyProof.Rows L2
open HandSPX
end Dn
namespace Dn
open PySem PySem.Spec PyProof.Rows L2
inductive LR where | ok (o : Option D) (st : Sto) | exc (c : Nat) (l : List D) (st : Sto) | bad
def lcStepE (t : D → DE → Option DE) (c f : En → ER) (e : DE) (d : D) (st : Sto) : LR := match t d e with
  | none => .bad
  | some e2 => (match c ⟨e2, st⟩ with
    | .val _ (.bl b) st1 => if b = true then (match f ⟨e2, st1⟩ with | .val .P y st2 => .ok (some y) st2 | .val .N y st2 => .ok (some y) st2 | .exc k l st2 => .exc k l st2 | _ => .bad) else .ok none st1
    | _ => .bad)
def lcGoE (k : D → Sto → LR) : List D → List D → Sto → ER
  | [], acc, st => .val .N (.lst acc) st
  | d :: l, acc, st => match k d st with
    | .ok o st1 => lcGoE k l (acc ++ o.toList) st1
    | .exc c x st1 => .exc c x st1
    | .bad => .bad
def dLcE (src : En → AR) (t : D → DE → Option DE) (c f : En → ER) (vs : List Nat) : En → ER := fun E => match src E with
  | .ok _ l st => if l.length ≤ 1000000 then lcGoE (lcStepE t c f (wipeE E.e vs)) l [] st else .bad
  | .exc k l st => .exc k l st
  | .bad => .bad
@[simp] theorem e_dLcE {src : En → AR} {t : D → DE → Option DE} {c f : En → ER} {vs : List Nat} {E : En} : dLcE src t c f vs E = match src E with
  | .ok _ l st => if l.length ≤ 1000000 then lcGoE (lcStepE t c f (wipeE E.e vs)) l [] st else .bad
  | .exc k l st => .exc k l st
  | .bad => .bad := rfl
end Dn
namespace Dn
open PySem PySem.Spec PyProof.Rows L2
section
variable {G : Gm} {W : WX}
def oAddX (a b : D) (st : Sto) : ER := match deref st a, deref st b with
  | .lst x, .lst y => if x.length + y.length ≤ 1000000 then .val .N (.lst (x ++ y)) st else .bad
  | _, _ => oAdd a b st
def oSlX (d : D) (lo hi : Option Int) (st : Sto) : ER := match deref st d with
  | .lst l => .val .N (.lst (cutG l lo hi)) st
  | _ => oSl d lo hi st
def firstI (k : Int) : List Int → Option Nat
  | [] => none
  | n :: r => if n = k then some 0 else (firstI k r).map (· + 1)
def mRemove (l ds : List D) : Option (D × List D) := match ds with
  | [.int k] => (intsOf l).bind fun ns => (firstI k ns).map fun j => (.non, (ns.eraseIdx j).map .int)
  | _ => none
end
@[simp] theorem e_oAddX {a b : D} {st : Sto} : oAddX a b st = (match deref st a, deref st b with
  | .lst x, .lst y => if x.length + y.length ≤ 1000000 then .val .N (.lst (x ++ y)) st else .bad
  | _, _ => oAdd a b st) := rfl
@[simp] theorem e_oSlX {d : D} {lo hi : Option Int} {st : Sto} : oSlX d lo hi st = (match deref st d with
  | .lst l => .val .N (.lst (cutG l lo hi)) st
  | _ => oSl d lo hi st) := rfl
@[simp] theorem e_mRemove {l : List D} {k : Int} : mRemove l [.int k] = (intsOf l).bind fun ns => (firstI k ns).map fun j => (.non, (ns.eraseIdx j).map .int) := rfl
end Dn
namespace Dn
open PySem PySem.Spec PyProof.Rows L2
section
variable {G : Gm} {W : WX}
def hdl : List ((Nat → Option Bool) × (En → SR)) → Nat → Option (Option (En → SR))
  | [], _ => some none
  | x :: r, c => match x.1 c with
    | some true => some (some x.2)
    | some false => hdl r c
    | none => none
def clrS : SR → SR
  | .nx E => .nx ⟨clr E.e, E.st⟩
  | .bk E => .bk ⟨clr E.e, E.st⟩
  | .ct E => .ct ⟨clr E.e, E.st⟩
  | .rt m d st => .rt m d st
  | _ => .bad
def sTryL (hs : List ((Nat → Option Bool) × (En → SR))) (g : En → SR) : En → SR := fun E => match g E with
  | .exc c l E1 => (match hdl hs c with
    | some (some h) => clrS (h ⟨clr E1.e, E1.st⟩)
    | some none => .exc c l E1
    | none => .bad)
  | r => r
inductive HsD (G : Gm) : List (Value × (Addr → Value → Option Addr → TS)) → List ((Nat → Option Bool) × (En → SR)) → Prop
  | nil : HsD G [] []
  | cons {C : Value} {ts : Addr → Value → Option Addr → TS} {p : Nat → Option Bool} {h : En → SR} {l : List (Value × (Addr → Value → Option Addr → TS))} {hs : List ((Nat → Option Bool) × (En → SR))} (hc : ∀ c b, p c = some b → PySem.W.exmOne G.K (.ref (G.ca c)) C = some b) (hd : ∀ a cls d, DSt (G.at_ a) W0 (ts a cls d) h) (r : HsD G l hs) : HsD G ((C, ts) :: l) ((p, h) :: hs)
end
@[simp] theorem e_hdl0 {c : Nat} : hdl [] c = some none := rfl
@[simp] theorem e_hdlC {p : Nat → Option Bool} {h : En → SR} {r : List ((Nat → Option Bool) × (En → SR))} {c : Nat} : hdl ((p, h) :: r) c = (match p c with
    | some true => some (some h)
    | some false => hdl r c
    | none => none) := rfl
@[simp] theorem e_sTryL {hs : List ((Nat → Option Bool) × (En → SR))} {g : En → SR} {E : En} : sTryL hs g E = match g E with
  | .exc c l E1 => (match hdl hs c with
    | some (some h) => clrS (h ⟨clr E1.e, E1.st⟩)
    | some none => .exc c l E1
    | none => .bad)
  | r => r := rfl
@[simp] theorem e_clrSN {E : En} : clrS (.nx E) = .nx ⟨clr E.e, E.st⟩ := rfl
@[simp] theorem e_clrSB {E : En} : clrS (.bk E) = .bk ⟨clr E.e, E.st⟩ := rfl
@[simp] theorem e_clrSC {E : En} : clrS (.ct E) = .ct ⟨clr E.e, E.st⟩ := rfl
@[simp] theorem e_clrSR {m : Md} {d : D} {st : Sto} : clrS (.rt m d st) = .rt m d st := rfl
end Dn
namespace Dn
open PySem PySem.Spec PyProof.Rows L2
section
variable {G : Gm} {W : WX}
def oTupleX : List D → Sto → ER
  | [.ptr n], st => ofOpt (stLst st n) fun l => .val .P (.tup l) st
  | l, st => oTuple l st
def dIdx (fb : En → ER) (fa : En → AR) : En → ER := fun E => match fb E with
  | .val _ (.lst l) st => (match fa ⟨E.e, st⟩ with
    | .ok _ [.int k] st1 => ofOpt ((intsOf l).bind (firstI k)) fun n => .val .P (.int (n : Nat)) st1
    | .exc c l st => .exc c l st
    | _ => .bad)
  | .exc c l st => .exc c l st
  | _ => .bad
end
@[simp] theorem e_oTupleXP {n : Nat} {st : Sto} : oTupleX [.ptr n] st = ofOpt (stLst st n) fun l => .val .P (.tup l) st := rfl
@[simp] theorem e_oTupleXL {l : List D} {st : Sto} : oTupleX [.lst l] st = .val .P (.tup l) st := rfl
@[simp] theorem e_oTupleXT {l : List D} {st : Sto} : oTupleX [.tup l] st = .val .P (.tup l) st := rfl
@[simp] theorem e_dIdx {fb : En → ER} {fa : En → AR} {E : En} : dIdx fb fa E = match fb E with
  | .val _ (.lst l) st => (match fa ⟨E.e, st⟩ with
    | .ok _ [.int k] st1 => ofOpt ((intsOf l).bind (firstI k)) fun n => .val .P (.int (n : Nat)) st1
    | .exc c l st => .exc c l st
    | _ => .bad)
  | .exc c l st => .exc c l st
  | _ => .bad := rfl
end Dn
namespace Dn
open PySem PySem.Spec PyProof.Rows L2
section
variable {G : Gm} {W : WX}
def derefN : Nat → Sto → D → D
  | 0, _, d => d
  | k + 1, st, .ptr n => (match stLst st n with | some l => .lst (l.map (derefN k st)) | none => .ptr n)
  | k + 1, st, .tup l => .tup (l.map (derefN k st))
  | k + 1, st, .lst l => .lst (l.map (derefN k st))
  | _ + 1, _, d => d
def oEqN (a b : D) (st : Sto) : ER := oEq (derefN 4 st a) (derefN 4 st b) st
def oNeN (a b : D) (st : Sto) : ER := oNe (derefN 4 st a) (derefN 4 st b) st
@[simp] theorem e_oEqN {a b : D} {st : Sto} : oEqN a b st = oEq (derefN 4 st a) (derefN 4 st b) st := rfl
@[simp] theorem e_oNeN {a b : D} {st : Sto} : oNeN a b st = oNe (derefN 4 st a) (derefN 4 st b) st := rfl
end
end Dn
namespace Dn
open PySem PySem.Spec PyProof.Rows L2
section
variable {G : Gm} {W : WX}
def dZipA (f : En → AR) : En → AR := fun E => match f E with
  | .ok true [.lst l, .lst m] st => .ok true (zipD l m) st
  | .ok true [.tup l, .tup m] st => .ok true (zipD l m) st
  | .exc c l st => .exc c l st
  | _ => .bad
@[simp] theorem e_dZipA {f : En → AR} {E : En} : dZipA f E = match f E with
  | .ok true [.lst l, .lst m] st => .ok true (zipD l m) st
  | .ok true [.tup l, .tup m] st => .ok true (zipD l m) st
  | .exc c l st => .exc c l st
  | _ => .bad := rfl
end
end Dn
namespace Dn
open PySem PySem.Spec PyProof.Rows L2
section
variable {G : Gm} {W : WX}
noncomputable def dLcZ (f : En → AR) (t : D → DE → Option DE) (c g : En → ER) (vs : List Nat) : En → ER := fun E => match f E with
  | .ok true [.ptr n, .lst m] st => (match stLst st n with
    | some l => if (zipD l m).length ≤ 1000000 then ofOpt (lcGoC (fun st => stLst st n = some l) (lcStep t c g (wipeE E.e vs)) (zipD l m) st) fun r => .val .N (.lst r.1) r.2 else .bad
    | none => .bad)
  | _ => dLc (dZipA f) t c g vs E
end
@[simp] theorem e_dLcZ {fs : En → AR} {t : D → DE → Option DE} {c f : En → ER} {vs : List Nat} {E : En} : dLcZ fs t c f vs E = match fs E with
  | .ok true [.ptr n, .lst m] st => (match stLst st n with
    | some l => if (zipD l m).length ≤ 1000000 then ofOpt (lcGoC (fun st => stLst st n = some l) (lcStep t c f (wipeE E.e vs)) (zipD l m) st) fun r => .val .N (.lst r.1) r.2 else .bad
    | none => .bad)
  | _ => dLc (dZipA fs) t c f vs E := rfl
section
variable {G : Gm}
def mExtend (l ds : List D) : Option (D × List D) := match ds with
  | [.lst z] => if l.length + z.length ≤ 1000000 then some (.non, l ++ z) else none
  | _ => none
@[simp] theorem e_mExtend {l z : List D} : mExtend l [.lst z] = if l.length + z.length ≤ 1000000 then some (.non, l ++ z) else none := rfl
end
end Dn
namespace Dn
open PySem PySem.W PySem.Spec PyProof.Rows L2
end Dn
namespace Dn
open PySem PySem.W PySem.Spec PyProof.Rows L2
def anyO : List (Option Bool) → Option Bool
  | [] => some false
  | none :: _ => none
  | some true :: _ => some true
  | some false :: l => anyO l
@[simp] theorem e_anyO_nil : anyO [] = some false := rfl
@[simp] theorem e_anyO_t {l : List (Option Bool)} : anyO (some true :: l) = some true := rfl
@[simp] theorem e_anyO_f {l : List (Option Bool)} : anyO (some false :: l) = anyO l := rfl
end Dn
namespace Dn
open PySem PySem.Spec PyProof.Rows L2
section
variable {G : Gm} {W : WX}
def oInF (a b : D) (st : Sto) : ER := match b with
  | .tup l => if flat a = true ∧ l.all flat = true then .val .P (.bl (inV (toV a) (l.map toV))) st else .bad
  | _ => .bad
@[simp] theorem e_oInF {a : D} {l : List D} {st : Sto} : oInF a (.tup l) st = if flat a = true ∧ l.all flat = true then .val .P (.bl (inV (toV a) (l.map toV))) st else .bad := rfl
end
end Dn
namespace Dn
open PySem PySem.Spec PyProof.Rows L2
section
variable {G : Gm} {W : WX}
noncomputable def sForE (f : En → AR) (t : D → DE → Option DE) (b : En → SR) : En → SR := fun E => match f E with
  | .ok true [.ptr n] st => (match stLst st n with | some l => forPD n l (tgB t b) (enumD 0 l) ⟨E.e, st⟩ | none => .bad)
  | _ => sFor (dEnum f) t b E
def oSortedP : List D → Sto → ER
  | [.ptr n], st => (match stLst st n with
    | some l => (match intsOf l with
      | some ns => if ns.length < 64 then .val .N (.lst ((srt ns).map .int)) st else .bad
      | none => .bad)
    | none => .bad)
  | l, st => oSortedX l st
@[simp] theorem e_oSortedP_1 {n : Nat} {st : Sto} : oSortedP [.ptr n] st = (match stLst st n with
    | some l => (match intsOf l with
      | some ns => if ns.length < 64 then .val .N (.lst ((srt ns).map .int)) st else .bad
      | none => .bad)
    | none => .bad) := rfl
@[simp] theorem e_oSortedP_2 {l : List D} {st : Sto} : oSortedP [.lst l] st = oSortedX [.lst l] st := rfl
@[simp] theorem e_sForE {f : En → AR} {t : D → DE → Option DE} {b : En → SR} {E : En} : sForE f t b E = match f E with
  | .ok true [.ptr n] st => (match stLst st n with | some l => forPD n l (tgB t b) (enumD 0 l) ⟨E.e, st⟩ | none => .bad)
  | _ => sFor (dEnum f) t b E := rfl
end
end Dn
namespace L2
open PySem PySem.Spec PyProof.Rows
end L2
namespace Dn
open PySem PySem.Spec PyProof.Rows L2
def dctAt : List (Str × D) → Str → Option D
  | [], _ => none
  | p :: r, k => if p.1 = k then some p.2 else dctAt r k
def dctPut (l : List (Str × D)) (k : Str) (d : D) : List (Str × D) :=
  if (dctAt l k).isSome = true then l.map (fun p => if p.1 = k then (p.1, d) else p) else l ++ [(k, d)]
def dctDrop (l : List (Str × D)) (k : Str) : List (Str × D) := l.filter fun p => decide (p.1 ≠ k)
def stDct (st : Sto) (n : Nat) : Option (List (Str × D)) := match st[n]? with
  | some (.dct l) => some l
  | _ => none
section
variable {G : Gm} {W : WX}
theorem StOk.dct {s : Hs} {st : Sto} {n : Nat} {l : List (Str × D)} {p : Addr} (k : StOk G s st) (ha : s.as[n]? = some p) (h : stDct st n = some l) : ∃ kvs : List (Key × V), s.h p = some (.dK kvs) ∧ KsR G s.as s.f kvs l := by
  unfold stDct at h
  split at h
  · rename_i l' q
    cases h
    exact k.ob n p _ ha q
  · cases h
section
variable {as : List Addr} {H : Hp} {kvs : List (Key × V)} {l : List (Str × D)}
theorem inr_ne {x k : Str} (e : ¬ x = k) : ¬ (Sum.inr x : Key) = .inr k := fun z => e (Sum.inr.inj z)
theorem KsR.get (h : KsR G as H kvs l) {k : Str} {d : D} (e : dctAt l k = some d) : ∃ v, valV kvs (.inr k) = some v ∧ Is G as H v d := by
  induction h with
  | nil => cases e
  | @cons x v d' ps ds a b ih =>
    unfold dctAt at e
    by_cases c : x = k
    · rw [if_pos c] at e
      cases e
      exact ⟨v, valV_pos (p := ((.inr x : Key), v)) (congrArg Sum.inr c), a⟩
    · rw [if_neg c] at e
      rw [valV_neg (p := ((.inr x : Key), v)) (inr_ne c)]
      exact ih e
theorem KsR.is (h : KsR G as H kvs l) (k : Str) : (valV kvs (.inr k)).isSome = (dctAt l k).isSome := by
  induction h with
  | nil => rfl
  | @cons x v d' ps ds a b ih =>
    unfold dctAt
    by_cases c : x = k
    · rw [if_pos c, valV_pos (p := ((.inr x : Key), v)) (congrArg Sum.inr c)]; rfl
    · rw [if_neg c, valV_neg (p := ((.inr x : Key), v)) (inr_ne c)]
      exact ih
theorem KsR.len (h : KsR G as H kvs l) : kvs.length = l.length := by
  induction h with
  | nil => rfl
  | cons a b ih => exact congrArg Nat.succ ih
theorem KsR.snoc (h : KsR G as H kvs l) {x : Str} {v : V} {d : D} (q : Is G as H v d) : KsR G as H (kvs ++ [(.inr x, v)]) (l ++ [(x, d)]) := by
  induction h with
  | nil => exact .cons q .nil
  | cons a b ih => exact .cons a ih
theorem KsR.repl (h : KsR G as H kvs l) {x : Str} {v : V} {d : D} (q : Is G as H v d) : KsR G as H (kvs.map fun kv => if kv.1 = .inr x then (kv.1, v) else kv) (l.map fun p => if p.1 = x then (p.1, d) else p) := by
  induction h with
  | nil => exact .nil
  | @cons y w d' ps ds a b ih =>
    rw [List.map_cons, List.map_cons]
    by_cases c : y = x
    · rw [if_pos (show ((Sum.inr y : Key), w).1 = .inr x from congrArg Sum.inr c), if_pos c]; exact .cons q ih
    · rw [if_neg (show ¬ ((Sum.inr y : Key), w).1 = .inr x from inr_ne c), if_neg c]; exact .cons a ih
theorem KsR.put (h : KsR G as H kvs l) {x : Str} {v : V} {d : D} (q : Is G as H v d) : KsR G as H (putK kvs (.inr x) v) (dctPut l x d) := by
  unfold putK dctPut
  rw [valV_any, h.is x]
  by_cases c : (dctAt l x).isSome = true
  · rw [if_pos c, if_pos c]; exact h.repl q
  · rw [if_neg c, if_neg c]; exact h.snoc q
theorem KsR.drop (h : KsR G as H kvs l) (x : Str) : KsR G as H (dropK kvs (.inr x)) (dctDrop l x) := by
  unfold dropK dctDrop
  induction h with
  | nil => exact .nil
  | @cons y w d' ps ds a b ih =>
    rw [List.filter_cons, List.filter_cons]
    by_cases c : y = x
    · rw [if_neg (by simp [c]), if_neg (by simp [c])]; exact ih
    · rw [if_pos (by simp [c]), if_pos (by simp [c])]; exact .cons a ih
end
def dDNew : En → ER := fun E => .val .P (.ptr E.st.length) (E.st ++ [.dct []])
def oInD (a b : D) (st : Sto) : ER := match a, b with
  | .str x, .ptr n => ofOpt (stDct st n) fun l => .val .P (.bl (dctAt l x).isSome) st
  | _, _ => .bad
def oNotInD (a b : D) (st : Sto) : ER := match a, b with
  | .str x, .ptr n => ofOpt (stDct st n) fun l => .val .P (.bl (!(dctAt l x).isSome)) st
  | _, _ => .bad
def oIxD (a b : D) (st : Sto) : ER := match a, b with
  | .ptr n, .str x => ofOpt (stDct st n) fun l => ofOpt (dctAt l x) fun d => .val .P d st
  | _, _ => .bad
def sSetD (fb f fi : En → ER) : En → SR := fun E => match f E with
  | .val .B _ _ => .bad
  | .val _ d st => (match fb ⟨E.e, st⟩ with
    | .val _ (.ptr n) st1 => (match fi ⟨E.e, st1⟩ with
      | .val _ (.str x) st2 => (match stDct st2 n with
        | some l => if l.length < 1000000 then .nx ⟨E.e, st2.set n (.dct (dctPut l x d))⟩ else .bad
        | none => .bad)
      | .exc c l st => .exc c l ⟨E.e, st⟩
      | _ => .bad)
    | .exc c l st => .exc c l ⟨E.e, st⟩
    | _ => .bad)
  | .exc c l st => .exc c l ⟨E.e, st⟩
  | .bad => .bad
def dDPop (f g : En → ER) : En → ER := fun E => match f E with
  | .val _ (.ptr n) st => (match stDct st n with
    | some _ => (match g ⟨E.e, st⟩ with
      | .val _ (.str x) st1 => (match stDct st1 n with
        | some l => (match dctAt l x with
          | some d => .val .P d (st1.set n (.dct (dctDrop l x)))
          | none => .bad)
        | none => .bad)
      | .exc c l st => .exc c l st
      | _ => .bad)
    | none => .bad)
  | .exc c l st => .exc c l st
  | _ => .bad
@[simp] theorem e_stDct {st : Sto} {n : Nat} : stDct st n = match st[n]? with | some (.dct l) => some l | _ => none := rfl
@[simp] theorem e_dDNew {E : En} : dDNew E = .val .P (.ptr E.st.length) (E.st ++ [.dct []]) := rfl
@[simp] theorem e_oInD {x : Str} {n : Nat} {st : Sto} : oInD (.str x) (.ptr n) st = ofOpt (stDct st n) fun l => .val .P (.bl (dctAt l x).isSome) st := rfl
@[simp] theorem e_oNotInD {x : Str} {n : Nat} {st : Sto} : oNotInD (.str x) (.ptr n) st = ofOpt (stDct st n) fun l => .val .P (.bl (!(dctAt l x).isSome)) st := rfl
@[simp] theorem e_oIxD {x : Str} {n : Nat} {st : Sto} : oIxD (.ptr n) (.str x) st = ofOpt (stDct st n) fun l => ofOpt (dctAt l x) fun d => .val .P d st := rfl
@[simp] theorem e_sSetD {fb f fi : En → ER} {E : En} : sSetD fb f fi E = match f E with
  | .val .B _ _ => .bad
  | .val _ d st => (match fb ⟨E.e, st⟩ with
    | .val _ (.ptr n) st1 => (match fi ⟨E.e, st1⟩ with
      | .val _ (.str x) st2 => (match stDct st2 n with
        | some l => if l.length < 1000000 then .nx ⟨E.e, st2.set n (.dct (dctPut l x d))⟩ else .bad
        | none => .bad)
      | .exc c l st => .exc c l ⟨E.e, st⟩
      | _ => .bad)
    | .exc c l st => .exc c l ⟨E.e, st⟩
    | _ => .bad)
  | .exc c l st => .exc c l ⟨E.e, st⟩
  | .bad => .bad := rfl
@[simp] theorem e_dDPop {f g : En → ER} {E : En} : dDPop f g E = match f E with
  | .val _ (.ptr n) st => (match stDct st n with
    | some _ => (match g ⟨E.e, st⟩ with
      | .val _ (.str x) st1 => (match stDct st1 n with
        | some l => (match dctAt l x with
          | some d => .val .P d (st1.set n (.dct (dctDrop l x)))
          | none => .bad)
        | none => .bad)
      | .exc c l st => .exc c l st
      | _ => .bad)
    | none => .bad)
  | .exc c l st => .exc c l st
  | _ => .bad := rfl
end
end Dn
namespace Dn
open PySem PySem.Spec PyProof.Rows L2
section
variable {G : Gm} {W : WX}
def oIsB (a b : D) (st : Sto) : ER := match a, b with
  | .bl x, .bl y => .val .P (.bl (decide (x = y))) st
  | _, _ => .bad
@[simp] theorem e_oIsB {x y : Bool} {st : Sto} : oIsB (.bl x) (.bl y) st = .val .P (.bl (decide (x = y))) st := rfl
end
end Dn
namespace Dn
open PySem PySem.Spec PyProof.Rows L2
end Dn
namespace Dn
open PySem PySem.Spec PyProof.Rows L2
section
variable {G : Gm} {W : WX}
def firstS (k : Str) : List Str → Option Nat
  | [] => none
  | n :: r => if n = k then some 0 else (firstS k r).map (· + 1)
def dIdxX (fb : En → ER) (fa : En → AR) : En → ER := fun E => match fb E with
  | .val _ (.ptr n) st => (match stLst st n with
    | some _ => (match fa ⟨E.e, st⟩ with
      | .ok _ [.str k] st1 => ofOpt ((stLst st1 n).bind fun l => (strsOf l).bind (firstS k)) fun j => .val .P (.int (j : Nat)) st1
      | .exc c l st => .exc c l st
      | _ => .bad)
    | none => .bad)
  | .exc c l st => .exc c l st
  | _ => .bad
end
@[simp] theorem e_dIdxX {fb : En → ER} {fa : En → AR} {E : En} : dIdxX fb fa E = match fb E with
  | .val _ (.ptr n) st => (match stLst st n with
    | some _ => (match fa ⟨E.e, st⟩ with
      | .ok _ [.str k] st1 => ofOpt ((stLst st1 n).bind fun l => (strsOf l).bind (firstS k)) fun j => .val .P (.int (j : Nat)) st1
      | .exc c l st => .exc c l st
      | _ => .bad)
    | none => .bad)
  | .exc c l st => .exc c l st
  | _ => .bad := rfl
end Dn
namespace L2
open PySem PySem.Spec PySem.Calls PyProof.Rows
theorem argsMin2K (a b v : Value) : argsOk "min" ⟨[a, b], [(Str.ofString "key", v)]⟩ := by unfold argsOk; kernel_rfl
theorem argsMax2K (a b v : Value) : argsOk "max" ⟨[a, b], [(Str.ofString "key", v)]⟩ := by unfold argsOk; kernel_rfl
theorem Inv.moved {X : Cx} {pins : List (Addr × Obj)} {σ : St} {H : Hp} {s s' : Shared} {fp : List Addr} (I : Inv X pins σ H s) (hf : ∀ b ∈ fp, FpOk X pins H b) (m : Moved fp (fun a b => b = a) s s') : Inv X pins σ H s' := by
  obtain ⟨hh, g, d, t, os⟩ := s'
  obtain rfl : g = s.gens := m.gens
  obtain rfl : d = s.drawn := m.drawn
  obtain rfl : os = s.os := m.os
  have mh : ∀ b o, b ∉ fp → s.heap.get? b = some o → hh.get? b = some o := m.heap
  have nit : ∀ b u, H b = some u → b ∉ fp := fun b u e z => by rw [(hf b z).1] at e; cases e
  refine I.step (g' := s.gens) (d' := s.drawn) (ch := fp) (fun b hb => ?_) (fun b o _ _ hc e _ => mh b o hc e) (fun b o _ _ hc e _ => ⟨o.slots, mh b o hc e⟩) (fun _ _ _ _ n => n) (fun b o hc e => ⟨o, mh b o hc e⟩) (fun _ _ e => e) (fun _ _ _ e => e) (fun b ps e => ⟨#[], by rw [e]; simp⟩) (fun mm hm => ?_) (fun b u e => ?_) I.bare
  · obtain ⟨_, f1, f2, f3, f4, f5⟩ := hf b hb
    exact ⟨f3, f1, f4, f5⟩
  · obtain ⟨o, es, ep, ho, r⟩ := hm
    exact ⟨o, es, ep, mh _ o (fun z => (hf _ z).2.1 rfl) ho, r⟩
  · refine (I.hok b u e).stay (fun c v hc q => mh c v ?_ q) (fun _ q => q) fun _ _ q => q
    rcases hc with z | z
    · rw [z]; exact nit b u e
    · exact nit c _ z
structure KeyC (X : Cx) (A : Around) (q : Addr) (r : V → Hp → VK → Prop) : Prop where
  run : ∀ (pins : List (Addr × Obj)) (σ : St) (H : Hp) (s : Shared) (v : V) (u : Value) (Q : VK) (E : Value → Shared → Prop), Inv X pins σ H s → RelV v u → r v H Q → wpAny (model X.prog X.w) A (call (.ref q) [u]) (fun k s' => CE X.stack X.prog X.w H s Q k s') E s
section
variable {X : Cx} {q : Addr} {r : V → Hp → VK → Prop} {pins : List (Addr × Obj)} {σ : St} {S I T : Addr} {items : Array Value} {JH : Hp → Prop} {kf : Nat → Int}
def JK (X : Cx) (pins : List (Addr × Obj)) (σ : St) (fp : List Addr) (JH : Hp → Prop) (s : Shared) : Prop := ∃ H, Inv X pins σ H s ∧ (∀ b ∈ fp, FpOk X pins H b) ∧ JH H
theorem keyrun {op : CmpOp} {bt : Nat → Nat → Bool} {xs : List V} (Kc : KeyC X X.A.in1 q r) (hv : Vals xs items.toList) (hk : ∀ (i : Nat) x, xs[i]? = some x → ∀ H, JH H → r x H (fun v H' => v = .int (kf i) ∧ JH H'))
    (hc : CmpOf X.prog X.w X.A.in1 op (fun i v => ∃ t, v = .int (kf i) t) bt) :
    KeyRun X.prog X.w X.A.in1 (.ref q) op S [I] (fun a b => b = a) items.size (fun i v => items[i]? = some v) (fun i s => s.heap.IsTupleIter I T i ∧ s.heap.IsTuple T items) (JK X pins σ [S, I, T] JH) (fun i v _ => ∃ t, v = .int (kf i) t) bt where
  keep := fun s s' ⟨H, I1, f, j⟩ m => ⟨H, I1.moved (fp := S :: [I]) (fun b hb => f b (by simp at hb ⊢; rcases hb with rfl | rfl <;> simp)) m, f, j⟩
  keepV := fun _ _ _ _ h _ => h
  turn := fun i v s o Q E hi hP ⟨H, I1, f, j⟩ hst hS k => by
    have hi' : i < items.toList.length := by simpa using hi
    obtain ⟨x, hx, rx⟩ : ∃ x, xs[i]? = some x ∧ RelV x v := by
      have hl := hv.length
      have h2 : i < xs.length := by rw [hl]; exact hi'
      obtain ⟨u, hu, ru⟩ := hv.get (List.getElem?_eq_getElem h2)
      refine ⟨_, List.getElem?_eq_getElem h2, ?_⟩
      have : items.toList[i]? = some v := by simpa using hP
      rw [this] at hu
      rw [Option.some.inj hu]
      exact ru
    obtain ⟨oI, hoI, cI, dI⟩ := id hst.1
    obtain ⟨oT, hoT, rT⟩ := id hst.2
    refine wpAny_mono (Kc.run pins σ H s x v _ E I1 rx (hk i x hx H j)) (fun kv s2 ce => ?_) fun _ _ e => e
    obtain ⟨v1, H2, os, bare, un, hok, rv, ⟨rfl, j2⟩⟩ := ce
    obtain ⟨hh, g, d, t, os'⟩ := s2
    obtain rfl : os' = s.os := os
    have ns : ∀ b ∈ [S, I, T], b ∉ frs X.stack := fun b hb z => by
      obtain ⟨_, f1, f2, _⟩ := f b hb
      rcases List.mem_cons.mp (I1.stkSub b z) with e | e
      · exact f1 e
      · exact f2 e
    have kp : ∀ b ∈ [S, I, T], ∀ o, s.heap.get? b = some o → hh.get? b = some o := fun b hb o e => un.keep b o e (f b hb).1 (ns b hb) (by simp)
    have I2 := I1.call (h' := hh) (g' := g) (d' := d) (t' := t) (ch := []) un hok bare (fun b z => absurd z (by simp))
    have fr : ∀ b ∈ [S, I, T], H2 b = none := fun b hb => by
      have : ∃ o, s.heap.get? b = some o := by
        simp at hb
        rcases hb with rfl | rfl | rfl
        · exact ⟨_, hS⟩
        · exact ⟨_, hoI⟩
        · exact ⟨_, hoT⟩
      obtain ⟨o', e'⟩ := this
      exact un.free b o' e' (f b hb).1 (by simp)
    exact k kv _ ⟨H2, I2, fun b hb => ⟨fr b hb, (f b hb).2⟩, j2⟩ ⟨⟨oI, kp I (by simp) _ hoI, cI, dI⟩, ⟨oT, kp T (by simp) _ hoT, rT⟩⟩ (kp S (by simp) _ hS) rv fun _ _ h => h
  cmp := fun i j ki kj s Q E _ hi hj h => hc i j ki kj s Q E hi hj h
end
section
variable {X : Cx} {q : Addr} {r : V → Hp → VK → Prop} {pins : List (Addr × Obj)} {σ : St} {H : Hp} {s : Shared}
def kpair (i j : Int) : Nat → Int
  | 0 => i
  | _ => j
theorem key_two (Kc : KeyC X X.A.in1 q r) {JH : Hp → Prop} {i j : Int} {x y : V} (hx : ∀ H, JH H → r x H (fun v H' => v = .int i ∧ JH H')) (hy : ∀ H, JH H → r y H (fun v H' => v = .int j ∧ JH H')) : ∀ (n : Nat) z, [x, y][n]? = some z → ∀ H, JH H → r z H (fun v H' => v = .int (kpair i j n) ∧ JH H') := fun n z h => by
  match n with
  | 0 => cases h; exact hx
  | 1 => cases h; exact hy
  | n + 2 => simp at h
theorem min_key2 (hc : X.calm = true) (Kc : KeyC X X.A.in1 q r) {JH : Hp → Prop} {i j : Int} {x y : V} {u w' : Value} {Q : VK} (I : Inv X pins σ H s) (r1 : RelV x u) (r2 : RelV y w') (h0 : JH H) (hx : ∀ H, JH H → r x H (fun v H' => v = .int i ∧ JH H')) (hy : ∀ H, JH H → r y H (fun v H' => v = .int j ∧ JH H')) (fin : ∀ H, JH H → Q (if j < i then y else x) H) :
    wpAny (model X.prog X.w) X.A (call (.builtin "min") [u, w'] [(Str.ofString "key", .ref q)]) (EP X pins σ Q) X.xe s := by
  have hname : (toString "min" ++ toString ".loop" : String) = "min.loop" := by decide
  refine kmk_tree PySem.F.kind_min PySem.F.plain_min PySem.F.entry_min (argsMin2K _ _ _) ?_
  show wpAny _ X.A.in1 (Builtin.Builtins.bindParams "min" ["key", "default"] 0 ⟨[], [(Str.ofString "key", .ref q)]⟩ >>= _) _ _ s
  refine wpAny_bind (wpAny_of_eq (show Builtin.Builtins.bindParams "min" ["key", "default"] 0 ⟨[], [(Str.ofString "key", .ref q)]⟩ = pure [some (.ref q), none] from rfl) ?_)
  show wpAny _ X.A.in1 (newTuple [u, w'] >>= _) _ _ s
  refine wpAny_bind (wpAny_newObj_type ?_)
  have hT : (s.heap.push { cls := .type "tuple", data := .seq #[u, w'] }).IsTuple s.heap.objs.size #[u, w'] := ⟨_, Heap.get?_push_size _ rfl, rfl, 0, rfl⟩
  refine wpAny_bind (wpAny_pyIter_tuple hT ?_)
  refine wpAny_bind (wpAny_newList ?_ (Nat.zero_le _))
  rw [hname]
  have hsz : (s.heap.push { cls := .type "tuple", data := .seq #[u, w'] }).objs.size = s.heap.objs.size + 1 := Heap.size_push ..
  have hne : s.heap.objs.size ≠ (s.heap.push { cls := .type "tuple", data := .seq #[u, w'] }).objs.size := by rw [hsz]; exact Nat.ne_of_lt (Nat.lt_succ_self _)
  have W := (Walks.tuple (prog := X.prog) (w := X.w) (A := X.A.in1) (I.ok.hd hc) (s.heap.push { cls := .type "tuple", data := .seq #[u, w'] }).objs.size s.heap.objs.size hne #[u, w']).toS
  generalize hh1 : s.heap.push { cls := .type "tuple", data := .seq #[u, w'] } = h1 at *
  have hit : (h1.push { cls := .type "tuple_iterator", data := .fields #[.ref s.heap.objs.size, .int 0 0] }).IsTupleIter h1.objs.size s.heap.objs.size 0 := ⟨_, Heap.get?_push_size _ rfl, rfl, rfl⟩
  have hT2 : (h1.push { cls := .type "tuple_iterator", data := .fields #[.ref s.heap.objs.size, .int 0 0] }).IsTuple s.heap.objs.size #[u, w'] := hT.push _
  have hsz2 : (h1.push { cls := .type "tuple_iterator", data := .fields #[.ref s.heap.objs.size, .int 0 0] }).objs.size = h1.objs.size + 1 := Heap.size_push ..
  have kp : ∀ b o, s.heap.get? b = some o → (h1.push { cls := .type "tuple_iterator", data := .fields #[.ref s.heap.objs.size, .int 0 0] }).get? b = some o := fun b o e => Heap.get?_push_of_some _ (by rw [← hh1]; exact Heap.get?_push_of_some _ e)
  generalize h1.push { cls := .type "tuple_iterator", data := .fields #[.ref s.heap.objs.size, .int 0 0] } = h2 at *
  have ge : ∀ b ∈ [h2.objs.size, h1.objs.size, s.heap.objs.size], s.heap.objs.size ≤ b := fun b hb => by
    simp at hb
    rcases hb with rfl | rfl | rfl <;> omega
  have fp : ∀ b ∈ [h2.objs.size, h1.objs.size, s.heap.objs.size], FpOk X pins H b := fun b hb => I.fpOk (ge b hb) (I.hok.fresh (ge b hb))
  have hSf : h2.objs.size ∉ [h1.objs.size, s.heap.objs.size] := by
    intro hm
    simp at hm
    omega
  refine wpAny_pure ⟨plainId_quiet PySem.F.plain_min_loop _, codeAny_min_loop_firstK W h2.objs.size hSf (keyrun (xs := [x, y]) (JH := JH) (kf := kpair i j) (pins := pins) (σ := σ) Kc (.cons r1 (.cons r2 .nil)) (key_two Kc hx hy) (CmpOf.ints_lt (kpair i j) fun _ _ h => h)) [] (by simp) ⟨H, I.kept fun b o e => Heap.get?_push_of_some _ (kp b o e), fp, h0⟩ ⟨hit.at fun o e => Heap.get?_push_of_some _ e, hT2.push _⟩ (Heap.get?_push_size _ rfl) fun v s' hP hJ => ?_⟩
  obtain ⟨H', I', _, j'⟩ := hJ
  refine ⟨_, H', I', ?_, fin H' j'⟩
  by_cases c : j < i
  · rw [if_pos c]
    simp [argBest, kpair, c] at hP
    rw [← hP]; exact r2
  · rw [if_neg c]
    simp [argBest, kpair, c] at hP
    rw [← hP]; exact r1
theorem max_key2 (hc : X.calm = true) (Kc : KeyC X X.A.in1 q r) {JH : Hp → Prop} {i j : Int} {x y : V} {u w' : Value} {Q : VK} (I : Inv X pins σ H s) (r1 : RelV x u) (r2 : RelV y w') (h0 : JH H) (hx : ∀ H, JH H → r x H (fun v H' => v = .int i ∧ JH H')) (hy : ∀ H, JH H → r y H (fun v H' => v = .int j ∧ JH H')) (fin : ∀ H, JH H → Q (if i < j then y else x) H) :
    wpAny (model X.prog X.w) X.A (call (.builtin "max") [u, w'] [(Str.ofString "key", .ref q)]) (EP X pins σ Q) X.xe s := by
  have hname : (toString "max" ++ toString ".loop" : String) = "max.loop" := by decide
  refine kmk_tree PySem.F.kind_max PySem.F.plain_max PySem.F.entry_max (argsMax2K _ _ _) ?_
  show wpAny _ X.A.in1 (Builtin.Builtins.bindParams "max" ["key", "default"] 0 ⟨[], [(Str.ofString "key", .ref q)]⟩ >>= _) _ _ s
  refine wpAny_bind (wpAny_of_eq (show Builtin.Builtins.bindParams "max" ["key", "default"] 0 ⟨[], [(Str.ofString "key", .ref q)]⟩ = pure [some (.ref q), none] from rfl) ?_)
  show wpAny _ X.A.in1 (newTuple [u, w'] >>= _) _ _ s
  refine wpAny_bind (wpAny_newObj_type ?_)
  have hT : (s.heap.push { cls := .type "tuple", data := .seq #[u, w'] }).IsTuple s.heap.objs.size #[u, w'] := ⟨_, Heap.get?_push_size _ rfl, rfl, 0, rfl⟩
  refine wpAny_bind (wpAny_pyIter_tuple hT ?_)
  refine wpAny_bind (wpAny_newList ?_ (Nat.zero_le _))
  rw [hname]
  have hsz : (s.heap.push { cls := .type "tuple", data := .seq #[u, w'] }).objs.size = s.heap.objs.size + 1 := Heap.size_push ..
  have hne : s.heap.objs.size ≠ (s.heap.push { cls := .type "tuple", data := .seq #[u, w'] }).objs.size := by rw [hsz]; exact Nat.ne_of_lt (Nat.lt_succ_self _)
  have W := (Walks.tuple (prog := X.prog) (w := X.w) (A := X.A.in1) (I.ok.hd hc) (s.heap.push { cls := .type "tuple", data := .seq #[u, w'] }).objs.size s.heap.objs.size hne #[u, w']).toS
  generalize hh1 : s.heap.push { cls := .type "tuple", data := .seq #[u, w'] } = h1 at *
  have hit : (h1.push { cls := .type "tuple_iterator", data := .fields #[.ref s.heap.objs.size, .int 0 0] }).IsTupleIter h1.objs.size s.heap.objs.size 0 := ⟨_, Heap.get?_push_size _ rfl, rfl, rfl⟩
  have hT2 : (h1.push { cls := .type "tuple_iterator", data := .fields #[.ref s.heap.objs.size, .int 0 0] }).IsTuple s.heap.objs.size #[u, w'] := hT.push _
  have hsz2 : (h1.push { cls := .type "tuple_iterator", data := .fields #[.ref s.heap.objs.size, .int 0 0] }).objs.size = h1.objs.size + 1 := Heap.size_push ..
  have kp : ∀ b o, s.heap.get? b = some o → (h1.push { cls := .type "tuple_iterator", data := .fields #[.ref s.heap.objs.size, .int 0 0] }).get? b = some o := fun b o e => Heap.get?_push_of_some _ (by rw [← hh1]; exact Heap.get?_push_of_some _ e)
  generalize h1.push { cls := .type "tuple_iterator", data := .fields #[.ref s.heap.objs.size, .int 0 0] } = h2 at *
  have ge : ∀ b ∈ [h2.objs.size, h1.objs.size, s.heap.objs.size], s.heap.objs.size ≤ b := fun b hb => by
    simp at hb
    rcases hb with rfl | rfl | rfl <;> omega
  have fp : ∀ b ∈ [h2.objs.size, h1.objs.size, s.heap.objs.size], FpOk X pins H b := fun b hb => I.fpOk (ge b hb) (I.hok.fresh (ge b hb))
  have hSf : h2.objs.size ∉ [h1.objs.size, s.heap.objs.size] := by
    intro hm
    simp at hm
    omega
  refine wpAny_pure ⟨plainId_quiet PySem.F.plain_max_loop _, codeAny_max_loop_firstK W h2.objs.size hSf (keyrun (xs := [x, y]) (JH := JH) (kf := kpair i j) (pins := pins) (σ := σ) Kc (.cons r1 (.cons r2 .nil)) (key_two Kc hx hy) (CmpOf.ints_gt (kpair i j) fun _ _ h => h)) [] (by simp) ⟨H, I.kept fun b o e => Heap.get?_push_of_some _ (kp b o e), fp, h0⟩ ⟨hit.at fun o e => Heap.get?_push_of_some _ e, hT2.push _⟩ (Heap.get?_push_size _ rfl) fun v s' hP hJ => ?_⟩
  obtain ⟨H', I', _, j'⟩ := hJ
  refine ⟨_, H', I', ?_, fin H' j'⟩
  by_cases c : i < j
  · rw [if_pos c]
    simp [argBest, kpair, c] at hP
    rw [← hP]; exact r2
  · rw [if_neg c]
    simp [argBest, kpair, c] at hP
    rw [← hP]; exact r1
def tMinK (r : V → Hp → VK → Prop) (mx : Bool) (t : TA) : TE := fun σ H Q => t σ H fun vs H1 => ∃ x y, vs = [x, y] ∧ ∃ (JH : Hp → Prop) (i j : Int), JH H1 ∧ (∀ H, JH H → r x H (fun v H' => v = .int i ∧ JH H')) ∧ (∀ H, JH H → r y H (fun v H' => v = .int j ∧ JH H')) ∧ ∀ H, JH H → Q (if (bif mx then decide (i < j) else decide (j < i)) = true then y else x) H
theorem callWith_builtinK {M : Model} {A : Around} {E : Value → Shared → Prop} {s : Shared} {pos : Pos} {id : String} {args : List (Bool × Sem Value)} {kws : List (Option Str × Sem Value)} {Q : Value → Shared → Prop} (hplain : (args.any (·.1) || kws.any (·.1.isNone)) = false)
    (h : wpAny M A (evalArgs (.builtin id) true args kws) (fun a s₁ => wpAny M A (call (.builtin id) a.pos a.kw) Q E s₁) E s) :
    wpAny M A (callWith pos (.builtin id) [] args kws) Q E s := by
  unfold callWith
  refine wpAny_bind (wpAny_holding (wpAny_mono h (fun a s₁ h₁ => wpAny_bind (wpAny_standAt ?_)) fun _ _ x => x))
  simp only [hplain]
  refine wpAny_bind (wpAny_pure ?_)
  exact wpAny_bind (wpAny_mono h₁ (fun r s₂ hr => wpAny_bind (wpAny_holding (wpAny_point (wpAny_pure hr)))) fun _ _ x => x)
theorem pe_minK {f : Addr} {x y : Str} {p pos kp kpos : Pos} {e1 e2 : Expr} {t : TA} (hc : X.calm = true) (Kc : KeyC X X.A.in1 f r) (hg : Gl X x) (hm : X.mg x = none) (hv : bootBuiltins x = some (.builtin "min")) (hgf : Gl X y) (hmf : X.mg y = some (.ref f)) (ha : PA X [e1, e2] t)
    (hn : x ≠ "__name__" := by decide) (hdb : (x == ("__debug__" : Str)) = false := by decide) (hdb2 : (y == ("__debug__" : Str)) = false := by decide)
    (hall : (backToKw pos (keywordEach [⟨some "key", .Name y kp, kpos⟩] X.env)).all (·.1.isSome) = true := by rfl) (hks : (backToKw pos (keywordEach [⟨some "key", .Name y kp, kpos⟩] X.env)).filterMap (·.1) = [Str.ofString "key"] := by rfl)
    (he : starEach [e1, e2] X.env = (false, eval e1 X.env) :: starEach [e2] X.env := by rfl)
    (hpl : ((backTo pos (starEach [e1, e2] X.env)).any (·.1) || (backToKw pos (keywordEach [⟨some "key", .Name y kp, kpos⟩] X.env)).any (·.1.isNone)) = false := by rfl) :
    PE X (.Call (.Name x p) [e1, e2] [⟨some "key", .Name y kp, kpos⟩] pos) (tMinK r false t) := by
  refine ⟨fun pins s σ H Q I h => ?_⟩
  refine wpAny_Call_Name_kw (ld_blt I hg hm hv ?_ hn hdb)
  refine callWith_builtinK hpl (evalArgs_kw2 hall (thn (ha.run pos pins s σ H _ I h) fun us s1 ⟨vs, H1, I1, rl, q1⟩ => ?_) he)
  rw [hks]
  obtain ⟨a, b, rfl, JH, i, j, h0, hx, hy, fin⟩ := q1
  obtain ⟨u, w', rfl, r1, r2⟩ := vals2 rl
  refine kwAll_cons (ld_glob I1 hgf hmf (kwAll_nil ?_) hdb2)
  refine min_key2 hc Kc I1 r1 r2 h0 hx hy fun H' hj => ?_
  have := fin H' hj
  simpa using this
theorem pe_maxK {f : Addr} {x y : Str} {p pos kp kpos : Pos} {e1 e2 : Expr} {t : TA} (hc : X.calm = true) (Kc : KeyC X X.A.in1 f r) (hg : Gl X x) (hm : X.mg x = none) (hv : bootBuiltins x = some (.builtin "max")) (hgf : Gl X y) (hmf : X.mg y = some (.ref f)) (ha : PA X [e1, e2] t)
    (hn : x ≠ "__name__" := by decide) (hdb : (x == ("__debug__" : Str)) = false := by decide) (hdb2 : (y == ("__debug__" : Str)) = false := by decide)
    (hall : (backToKw pos (keywordEach [⟨some "key", .Name y kp, kpos⟩] X.env)).all (·.1.isSome) = true := by rfl) (hks : (backToKw pos (keywordEach [⟨some "key", .Name y kp, kpos⟩] X.env)).filterMap (·.1) = [Str.ofString "key"] := by rfl)
    (he : starEach [e1, e2] X.env = (false, eval e1 X.env) :: starEach [e2] X.env := by rfl)
    (hpl : ((backTo pos (starEach [e1, e2] X.env)).any (·.1) || (backToKw pos (keywordEach [⟨some "key", .Name y kp, kpos⟩] X.env)).any (·.1.isNone)) = false := by rfl) :
    PE X (.Call (.Name x p) [e1, e2] [⟨some "key", .Name y kp, kpos⟩] pos) (tMinK r true t) := by
  refine ⟨fun pins s σ H Q I h => ?_⟩
  refine wpAny_Call_Name_kw (ld_blt I hg hm hv ?_ hn hdb)
  refine callWith_builtinK hpl (evalArgs_kw2 hall (thn (ha.run pos pins s σ H _ I h) fun us s1 ⟨vs, H1, I1, rl, q1⟩ => ?_) he)
  rw [hks]
  obtain ⟨a, b, rfl, JH, i, j, h0, hx, hy, fin⟩ := q1
  obtain ⟨u, w', rfl, r1, r2⟩ := vals2 rl
  refine kwAll_cons (ld_glob I1 hgf hmf (kwAll_nil ?_) hdb2)
  refine max_key2 hc Kc I1 r1 r2 h0 hx hy fun H' hj => ?_
  have := fin H' hj
  simpa using this
end
end L2
namespace Dn
open PySem PySem.Spec PySem.Calls PyProof.Rows L2
section
variable {X : Cx} {G : Gm} {k : Nat} {f : Addr} {fd : FuncData} {ps : List Str} {F : List D → Sto → ER}
def rKeyF (G : Gm) (F : List D → Sto → ER) : V → Hp → VK → Prop := fun v H Q => spF G F [v] H Q (fun _ _ _ => False)
theorem keyF (hF : FnOk X.prog X.w X.K X.mg X.base (L2.CX X.prog X.w) k f fd ps (spF G F)) (hr : Room (k + 1) X.A) (hb : L2.Binds X.K fd ps []) (hn : ps.length = 1) : KeyC X X.A.in1 f (rKeyF G F) where
  run := fun pins σ H s v u Q E I r h => by
    have e := I.env0
    have e0 : Env0 X.prog X.w X.K X.mg X.base X.A.in1 X.stack s H := ⟨e.frames, e.mod, e.bs, e.bsz, e.funs, e.frf, e.hok, e.bare⟩
    have hbind : BindsTo s fd ⟨[u], []⟩ (ps.zip [u]) := by
      have := hb s [u] I.kIn (by simp; rw [hn])
      simpa using this
    refine wpAny_call (codeAny_mono (hF.run X.A.in1 X.stack s H ⟨[u], []⟩ [u] [v] Q (fun _ _ _ => False) hr.in1 e0 hbind (.cons r .nil) h) fun res s' hq => ?_)
    cases res with
    | error e => exact (cx_false hq).elim
    | ok fl =>
      cases fl with
      | ret u => exact hq
      | next => exact False.elim hq
      | brk => exact False.elim hq
      | cont => exact False.elim hq
end
open Classical in
noncomputable def dMinK (mx : Bool) (F : List D → Sto → ER) (f : En → AR) : En → ER := fun E => match f E with
  | .ok true [x, y] st => (match F [x] st with
    | .val _ (.int i) st1 => (match F [y] st with
      | .val _ (.int j) st2 => if st1 = st ∧ st2 = st then .val .P (if (bif mx then decide (i < j) else decide (j < i)) = true then y else x) st else .bad
      | _ => .bad)
    | _ => .bad)
  | .exc c l st => .exc c l st
  | _ => .bad
section
variable {G : Gm} {W : WX} {F : List D → Sto → ER} {mx : Bool} {ta : TA} {f : En → AR}
open Classical in
theorem v_minK (ha : DAr G W ta f) : DEv G W (tMinK (rKeyF G F) mx ta) (dMinK mx F f) := by
  intro s t σ e st E k Q post
  refine ha s t σ e st E k _ ?_
  unfold dMinK at post
  cases q : f ⟨e, st⟩ with
  | exc c l st1 => rw [q] at post; exact post
  | bad => rw [q] at post; exact post
  | ok pp l st1 =>
    rw [q] at post
    cases pp with
    | false => exact post.elim
    | true =>
      match l, post with
      | [], post => exact post.elim
      | [_], post => exact post.elim
      | _ :: _ :: _ :: _, post => exact post.elim
      | [x, y], post =>
        have post : RPost G W t σ Q (match F [x] st1 with
          | .val _ (.int i) st2 => (match F [y] st1 with
            | .val _ (.int j) st3 => if st2 = st1 ∧ st3 = st1 then .val .P (if (bif mx then decide (i < j) else decide (j < i)) = true then y else x) st1 else .bad
            | _ => .bad)
          | _ => .bad) := post
        cases hx : F [x] st1 with
        | exc _ _ _ => rw [hx] at post; exact post.elim
        | bad => rw [hx] at post; exact post.elim
        | val m1 d1 st2 =>
          rw [hx] at post
          cases d1 <;> first | exact post.elim | skip
          rename_i i
          cases hy : F [y] st1 with
          | exc _ _ _ => rw [hy] at post; exact post.elim
          | bad => rw [hy] at post; exact post.elim
          | val m2 d2 st3 =>
            rw [hy] at post
            cases d2 <;> first | exact post.elim | skip
            rename_i j
            obtain ⟨⟨e1, e2⟩, post⟩ := RPost.cond (st2 = st1 ∧ st3 = st1) _ post
            rw [e1] at hx
            rw [e2] at hy
            intro t1 vs g1 k1 il _
            have il := il rfl
            cases il with
            | @cons vx _ _ _ ix il =>
              cases il with
              | @cons vy _ _ _ iy il =>
                cases il
                refine ⟨vx, vy, rfl, fun H => ∃ t2, t2.h = H ∧ Gro t1 t2 ∧ StOk G t2 st1, i, j, ⟨t1, rfl, Gro.refl k1, k1⟩, ?_, ?_, ?_⟩
                · rintro H ⟨t2, rfl, g2, k2⟩
                  refine ⟨t2, [x], st1, rfl, k2, .cons (ix.up g2.a g2.f) .nil, ?_⟩
                  rw [hx]
                  intro t3 v3 g3 k3 o3
                  exact ⟨o3.u.int, t3, rfl, g2.trans g3, k3⟩
                · rintro H ⟨t2, rfl, g2, k2⟩
                  refine ⟨t2, [y], st1, rfl, k2, .cons (iy.up g2.a g2.f) .nil, ?_⟩
                  rw [hy]
                  intro t3 v3 g3 k3 o3
                  exact ⟨o3.u.int, t3, rfl, g2.trans g3, k3⟩
                · rintro H ⟨t2, rfl, g2, k2⟩
                  refine post t2 _ (g1.trans g2) k2 ?_
                  show Is G t2.as t2.f _ _
                  split
                  · exact iy.up g2.a g2.f
                  · exact ix.up g2.a g2.f
end
open Classical in
@[simp] theorem e_dMinK {mx : Bool} {F : List D → Sto → ER} {f : En → AR} {E : En} : dMinK mx F f E = match f E with
  | .ok true [x, y] st => (match F [x] st with
    | .val _ (.int i) st1 => (match F [y] st with
      | .val _ (.int j) st2 => if st1 = st ∧ st2 = st then .val .P (if (bif mx then decide (i < j) else decide (j < i)) = true then y else x) st else .bad
      | _ => .bad)
    | _ => .bad)
  | .exc c l st => .exc c l st
  | _ => .bad := rfl
end Dn
namespace PySem.AutoSeq1
theorem list_extend_tupX (l : Addr) (items : Array Value) (n : Nat) (b : Addr) (items2 : Array Value) (n2 : Nat) (dict : Option Addr) (slots : Array (Option Value)) (hs0 : ¬(!items.isEmpty && Builtin.List.listTooLong (items.size + items2.size)) = true) (hs1 : items.size ≤ sizeLine) (hs2 : items.size + items2.size ≤ sizeLine + 1 := by seq_fits) :
    Meets (Builtin.«list.extend» ⟨[.ref l, .ref b], []⟩) (fun _ R s => s.heap.get? l = some { cls := .type "list", dict := none, data := .seq items n, slots := #[] } ∧ s.heap.get? b = some { cls := .type "tuple", dict := dict, data := .seq items2 n2, slots := slots } ∧ R (.ok (.ret Value.none)) { s with heap := s.heap.update l (Obj.mapSeq fun x => x ++ items2), toks := s.toks }) :=
  .of_wp fun prog w A R s h => by
    obtain ⟨hp, g, d, tk, os⟩ := s; obtain ⟨hl, hb, h⟩ := h; have f1 := idx_int; have f2 := sub_tuple_tuple; have f3 := sub_list_list; have f4 := sub_tuple_list; have f5 := sub_list_tuple;
    have hz' : (items ++ items2).size ≤ sizeLine + 1 := by rw [Array.size_append]; exact hs2
    wp_walk using (wpAny_updateSeq hl rfl (hz := hs1) (_hz' := hz')), wpAny_loadPart' hl, wpAny_loadPart' hb; exact ⟨_, rfl, h⟩
end PySem.AutoSeq1
namespace L2
open PySem PySem.Spec PySem.Calls PyProof.Rows
def rExtendT (K : PySem.W.Frag) : V → List V → Hp → VK → Prop := fun x vs H Q => ∃ l b xs zs, x = .ref l ∧ vs = [.ref b] ∧ H l = some (.lst xs) ∧ SqT K H b zs ∧ xs.length + zs.length ≤ sizeLine ∧ Q .non (upd H l (.lst (xs ++ zs)))
theorem mt_extendT {X : Cx} : MtM X "list.extend" (rExtendT X.K) := by
  intro pins s σ H x vs v us Q I rx rv h
  obtain ⟨l, b, xs, zs, rfl, rfl, hH, hB, hz, q⟩ := h
  cases rx
  obtain ⟨u, rfl, ru⟩ := rv.one
  cases ru
  obtain ⟨z, its, n, r, hl, e⟩ := I.lstM hH
  obtain ⟨its2, r2, ⟨o, ho, hc, n2, hd⟩, z2⟩ := I.tuple hB
  obtain ⟨cls, dict, data, slots⟩ := o
  obtain rfl : cls = .type "tuple" := hc
  obtain rfl : data = .seq its2.toArray n2 := hd
  have e2l := r2.length
  have hsz : its.toArray.size + its2.toArray.size ≤ sizeLine := by rw [List.size_toArray, List.size_toArray]; omega
  have hlong : ¬ (!its.toArray.isEmpty && Builtin.List.listTooLong (its.toArray.size + its2.toArray.size)) = true := by
    rw [notLongL hsz, Bool.and_false]
    exact Bool.false_ne_true
  refine call_meets F.slot_list_extend ⟨_, e, rfl⟩ F.entry_list_extend (F.args_list_extend_2 _ _)
    (AutoSeq1.list_extend_tupX l its.toArray n b its2.toArray n2 dict slots hlong (by rw [List.size_toArray]; omega) (by omega)) ⟨e, ho, ?_⟩
  refine ⟨.non, _, I.lset (its' := its ++ its2) hH e (by simp) (r.append r2) ?_, rfl, q⟩
  rw [List.length_append]
  omega
end L2
namespace Dn
open PySem PySem.Spec PySem.Calls PyProof.Rows L2
section
variable {G : Gm}
def mExtendT (l ds : List D) : Option (D × List D) := match ds with
  | [.tup z] => if l.length + z.length ≤ 1000000 then some (.non, l ++ z) else none
  | _ => none
theorem m_extendT : DMt G (rExtendT G.K) mExtendT := by
  intro s p vs l xs ds o hp il ix ho sf
  unfold mExtendT at ho
  split at ho
  · rename_i z
    split at ho
    · rename_i hl
      cases ho
      cases ix with
      | cons a b =>
        cases b
        obtain ⟨q, us, rfl, hq, hu⟩ := U.tup (G := G) (t := s) (.inl a) sf
        refine ⟨.non, _, .non, il.append hu, fun Q k => ⟨p, _, vs, _, rfl, rfl, hp, hq, ?_, k⟩⟩
        rw [il.len, hu.len]
        exact sz hl
    · cases ho
  · cases ho
@[simp] theorem e_mExtendT {l z : List D} : mExtendT l [.tup z] = if l.length + z.length ≤ 1000000 then some (.non, l ++ z) else none := rfl
end
end Dn
namespace Dn
open PySem PySem.Spec PyProof.Rows L2
def dDispG (n : Nat) : List (Str × (En → ER)) → List (Str × D) → En → ER
  | [], acc, E => (match stDct E.st n with
    | some [] => .val .P (.ptr n) (E.st.set n (.dct acc))
    | _ => .bad)
  | (x, f) :: r, acc, E => match f E with
    | .val .B _ _ => .bad
    | .val _ d st => dDispG n r (acc ++ [(x, d)]) ⟨E.e, st⟩
    | .exc c l st => .exc c l st
    | .bad => .bad
def dDisp (ps : List (Str × (En → ER))) : En → ER := fun E => dDispG E.st.length ps [] ⟨E.e, E.st ++ [.dct []]⟩
section
variable {G : Gm} {W : WX}
inductive DPs (G : Gm) (W : WX) : List (TE × TE) → List (Str × (En → ER)) → Prop
  | nil : DPs G W [] []
  | cons {x : Str} {tv : TE} {f : En → ER} {trs : List (TE × TE)} {ps : List (Str × (En → ER))} : DEv G W tv f → DPs G W trs ps → DPs G W ((tC (.str x), tv) :: trs) ((x, f) :: ps)
def dDGet2 (f g h : En → ER) : En → ER := fun E => match f E with
  | .val _ (.ptr n) st => (match stDct st n with
    | some _ => (match g ⟨E.e, st⟩ with
      | .val _ (.str x) st1 => (match h ⟨E.e, st1⟩ with
        | .val .B _ _ => .bad
        | .val _ d st2 => (match stDct st2 n with
          | some l => .val .P ((dctAt l x).getD d) st2
          | none => .bad)
        | .exc c l st => .exc c l st
        | .bad => .bad)
      | .exc c l st => .exc c l st
      | _ => .bad)
    | none => .bad)
  | .exc c l st => .exc c l st
  | _ => .bad
theorem KsR.getD {as : List Addr} {H : Hp} {kvs : List (Key × V)} {l : List (Str × D)} (h : KsR G as H kvs l) {k : Str} {v : V} {d : D} (i : Is G as H v d) : Is G as H ((valV kvs (.inr k)).getD v) ((dctAt l k).getD d) := by
  cases e : dctAt l k with
  | none =>
    have := h.is k
    rw [e] at this
    cases e2 : valV kvs (.inr k) with
    | none => exact i
    | some w => rw [e2] at this; cases this
  | some d' =>
    obtain ⟨w, h1, h2⟩ := h.get e
    rw [h1]; exact h2
end
@[simp] theorem e_dDisp {ps : List (Str × (En → ER))} {E : En} : dDisp ps E = dDispG E.st.length ps [] ⟨E.e, E.st ++ [.dct []]⟩ := rfl
@[simp] theorem e_dDispG0 {n : Nat} {acc : List (Str × D)} {E : En} : dDispG n [] acc E = (match stDct E.st n with
    | some [] => .val .P (.ptr n) (E.st.set n (.dct acc))
    | _ => .bad) := rfl
@[simp] theorem e_dDispG1 {n : Nat} {x : Str} {f : En → ER} {r : List (Str × (En → ER))} {acc : List (Str × D)} {E : En} : dDispG n ((x, f) :: r) acc E = (match f E with
    | .val .B _ _ => .bad
    | .val _ d st => dDispG n r (acc ++ [(x, d)]) ⟨E.e, st⟩
    | .exc c l st => .exc c l st
    | .bad => .bad) := rfl
@[simp] theorem e_dDGet2 {f g h : En → ER} {E : En} : dDGet2 f g h E = match f E with
  | .val _ (.ptr n) st => (match stDct st n with
    | some _ => (match g ⟨E.e, st⟩ with
      | .val _ (.str x) st1 => (match h ⟨E.e, st1⟩ with
        | .val .B _ _ => .bad
        | .val _ d st2 => (match stDct st2 n with
          | some l => .val .P ((dctAt l x).getD d) st2
          | none => .bad)
        | .exc c l st => .exc c l st
        | .bad => .bad)
      | .exc c l st => .exc c l st
      | _ => .bad)
    | none => .bad)
  | .exc c l st => .exc c l st
  | _ => .bad := rfl
end Dn
namespace L2
open PySem PySem.Spec PyProof.Rows
end L2
namespace Dn
open PySem PySem.Spec PyProof.Rows L2
def insS (k : Int) : List Int → List Int
  | [] => [k]
  | a :: l => if k < a then k :: a :: l else if k = a then a :: l else a :: insS k l
def sset : List Int → List Int
  | [] => []
  | a :: l => insS a (sset l)
def oSortSet : List D → Sto → ER
  | [.lst l], st => ofOpt (intsOf l) fun ns => if ns.length < 64 then .val .N (.lst ((sset ns).map .int)) st else .bad
  | _, _ => .bad
@[simp] theorem e_oSortSet {l : List D} {st : Sto} : oSortSet [.lst l] st = ofOpt (intsOf l) fun ns => if ns.length < 64 then .val .N (.lst ((sset ns).map .int)) st else .bad := rfl
end Dn
namespace GQ
open PySem PySem.SeqAt
open AutoSeq1 (wpAny_loadPart')
open MeetsSeq MeetsSeq2 MeetsSeq3 SeqRoads2
end GQ
namespace Dn
open PySem PySem.Spec PySem.Calls PyProof.Rows L2
open AutoSeq1 (wpAny_loadPart')
end Dn
namespace L2
open PySem PySem.Spec PySem.Calls PyProof.Rows
abbrev RI := V → V → Hp → (Bool → Hp → Prop) → Prop
def EqI (X : Cx) (n : Nat) (r : RI) : Prop :=
  ∀ (A : Around) (pins : List (Addr × Obj)) (s : Shared) (σ : St) (H : Hp) (x y : V) (u v : Value) (Q : Bool → Hp → Prop), Sub X n A → Inv X pins σ H s → RelV x u → RelV y v → r x y H Q →
    wpAny (model X.prog X.w) A (eqBool u v) (TP X pins σ Q) X.xe s
end L2
namespace Dn
open PySem PySem.Spec PySem.Calls PyProof.Rows L2
section
variable {X : Cx} {G : Gm}
inductive Pln (K : PySem.W.Frag) (C : Addr) (H : Hp) : V → Prop
  | non (h : PySem.W.subIn K (.ref C) (.type "NoneType") = some false) : Pln K C H .non
  | int (i : Int) (h : PySem.W.subIn K (.ref C) (.type "int") = some false) : Pln K C H (.int i)
  | str (i : Str) (h : PySem.W.subIn K (.ref C) (.type "str") = some false) : Pln K C H (.str i)
  | lst (b : Addr) (l : List V) (e : H b = some (.lst l)) (h : PySem.W.subIn K (.ref C) (.type "list") = some false) : Pln K C H (.ref b)
theorem EqI.or {k : Nat} {r r' : RI} (h : EqI X k r) (h' : EqI X k r') : EqI X k (fun i x H Q => r i x H Q ∨ r' i x H Q) := by
  intro A pins s σ H i x u v Q sb I ri rx z
  rcases z with z | z
  · exact h A pins s σ H i x u v Q sb I ri rx z
  · exact h' A pins s σ H i x u v Q sb I ri rx z
end
end Dn
namespace Dn
open PySem PySem.Spec PySem.Calls PyProof.Rows L2
structure InOk (G : Gm) (Os : OwnL) : Prop where
  pl : ∀ x ∈ Os, ∀ T ∈ plainTs, PySem.W.subIn G.K (.ref (G.ca x.1)) (.type T) = some false
end Dn
namespace Dn
open PySem PySem.Spec PyProof.Rows L2
structure Ch where
  fn : List He.DefD
  tf : List He.Defn
  ex : PySem.W.Frag → Bool
structure SaysC (h : Heap) (K : PySem.W.Frag) (c : Ch) : Prop where
  d : He.SaysD [] c.fn K
  more : c.ex K = true
  tabs : ∀ p ∈ c.tf, PySem.W.codeHdIn K (He.cT K p).1 (He.cT K p).2 = true ∧ K.lookup (He.cT K p).2 = none ∧ h.get? (He.cT K p).2 = some { cls := .none, data := .fields #[] }
end Dn
namespace Dn
open PySem PySem.Spec PyProof.Rows L2
theorem log2_lt {n k : Nat} (hk : 0 < k) (h : n < 2 ^ k) : n.log2 < k := by
  by_cases z : n = 0
  · subst z; simpa using hk
  · exact (Nat.log2_lt z).mpr h
theorem log2_mono {n m k : Nat} (hk : m.log2 < k) (h : n ≤ m) : n.log2 < k := by
  by_cases z : n = 0
  · subst z
    have : Nat.log2 0 = 0 := by decide
    omega
  · exact (Nat.log2_lt z).mpr (Nat.lt_of_le_of_lt h (by
      by_cases zm : m = 0
      · omega
      · exact (Nat.log2_lt zm).mp hk))
theorem mul_ok {i j : Int} {a b : Nat} (ha : i.natAbs < 2 ^ a) (hb : j.natAbs < 2 ^ b) (h : a + b ≤ 1000000) (h0 : 0 < a) (h1 : 0 < b) : i.natAbs.log2 + j.natAbs.log2 < 1000000 := by
  have := log2_lt h0 ha
  have := log2_lt h1 hb
  omega
theorem e_wh {c : En → ER} {b : En → SR} {n : Nat} {e : DE} {st st1 : Sto} {m : Md} {x : Bool} (h : c ⟨e, st⟩ = .val m (.bl x) st1) : whN c b (n + 1) ⟨e, st⟩ = if x = true then (match b ⟨e, st1⟩ with
      | .nx e' => whN c b n e'
      | .ct e' => whN c b n e'
      | .bk e' => some (.nx e')
      | r => some r) else some (.nx ⟨e, st1⟩) := by
  rw [whN]
  rw [h]
  cases x <;> rfl
def InR : List Int → List Int → Prop
  | [], [] => True
  | a :: l, b :: s => (0 ≤ a ∧ a < b) ∧ InR l s
  | _, _ => False
theorem InR.cons {l s : List Int} {b : Int} (h : InR l (b :: s)) : ∃ a l', l = a :: l' ∧ 0 ≤ a ∧ a < b ∧ InR l' s := by
  cases l with
  | nil => exact h.elim
  | cons a l => exact ⟨a, l, rfl, h.1.1, h.1.2, h.2⟩
theorem InR.nil {l : List Int} (h : InR l []) : l = [] := by
  cases l with
  | nil => rfl
  | cons a l => exact h.elim
theorem InR.len : ∀ {l s : List Int}, InR l s → l.length = s.length
  | [], [], _ => rfl
  | a :: l, b :: s, h => congrArg Nat.succ (InR.len h.2)
  | [], _ :: _, h => h.elim
  | _ :: _, [], h => h.elim
theorem gcd_wh (st : Sto) : ∀ (b a : Nat), ∃ n, whN (dOp oGt (dVar 1) (dC (.int 0))) (sPar 0 1 (aCons (dVar 1) (aCons (dOp oMod (dVar 0) (dVar 1)) aNil))) n ⟨[.val (.int a), .val (.int b)], st⟩ = some (.nx ⟨[.val (.int (Nat.gcd a b)), .val (.int 0)], st⟩) := by
  intro b
  induction b using Nat.strongRecOn with
  | ind b ih =>
    intro a
    by_cases hb : b = 0
    · subst hb
      refine ⟨1, ?_⟩
      rw [e_wh (x := false) (m := .P) (st1 := st) (by simp)]
      simp
    · obtain ⟨n, hn⟩ := ih (a % b) (Nat.mod_lt _ (Nat.pos_of_ne_zero hb)) b
      refine ⟨n + 1, ?_⟩
      rw [e_wh (x := true) (m := .P) (st1 := st) (by simp; omega)]
      have hm : (a : Int).fmod (b : Int) = ((a % b : Nat) : Int) := by
        rw [Int.fmod_eq_emod_of_nonneg _ (Int.natCast_nonneg b)]
        rfl
      have hb' : ¬ (b : Int) = 0 := by omega
      simp only [if_true, e_sPar, e_aCons, e_aNil, e_dVar, e_dOp, List.getElem?_cons_succ, List.getElem?_cons_zero, ER.bind_val, e_oMod_1, cons_P, acons_ok, ne_eq, hb', not_false_eq_true, Bool.and_self, List.set_cons_zero, List.set_cons_succ, hm]
      rw [hn]
      have : Nat.gcd a b = Nat.gcd b (a % b) := by
        rw [Nat.gcd_comm a b, Nat.gcd_rec b a, Nat.gcd_comm]
      rw [this]
theorem gcd_while (a b : Nat) (st : Sto) : sWhile (dOp oGt (dVar 1) (dC (.int 0))) (sPar 0 1 (aCons (dVar 1) (aCons (dOp oMod (dVar 0) (dVar 1)) aNil))) ⟨[.val (.int a), .val (.int b)], st⟩ = .nx ⟨[.val (.int (Nat.gcd a b)), .val (.int 0)], st⟩ := by
  obtain ⟨n, h⟩ := gcd_wh st b a
  exact sWhile_eq h
theorem absI (a : Int) : (if a < 0 then -a else a) = ((a.natAbs : Nat) : Int) := by split <;> omega
end Dn
namespace Dn
open PySem PySem.Spec PyProof.Rows L2
def dF (q : Rat) : D := .tup [.int q.num, .int q.den]
theorem bit_mul {x y : Int} {m n : Nat} (h1 : x.natAbs < 2 ^ m) (h2 : y.natAbs < 2 ^ n) : (x * y).natAbs < 2 ^ (m + n) := by
  rw [Int.natAbs_mul, Nat.pow_add]
  exact Nat.mul_lt_mul_of_lt_of_lt h1 h2
theorem bit_up {x : Int} {m n : Nat} (h1 : x.natAbs < 2 ^ m) (h : m ≤ n) : x.natAbs < 2 ^ n := Nat.lt_of_lt_of_le h1 (Nat.pow_le_pow_right (by decide) h)
theorem bit_add {x y : Int} {m n : Nat} (h1 : x.natAbs < 2 ^ m) (h2 : y.natAbs < 2 ^ n) : (x + y).natAbs < 2 ^ (max m n + 1) := by
  have a := bit_up h1 (Nat.le_max_left m n)
  have b := bit_up h2 (Nat.le_max_right m n)
  rw [Nat.pow_succ]; omega
theorem bit_sub {x y : Int} {m n : Nat} (h1 : x.natAbs < 2 ^ m) (h2 : y.natAbs < 2 ^ n) : (x - y).natAbs < 2 ^ (max m n + 1) := by
  have a := bit_up h1 (Nat.le_max_left m n)
  have b := bit_up h2 (Nat.le_max_right m n)
  rw [Nat.pow_succ]; omega
theorem bit_log {x : Int} {m n : Nat} (h1 : x.natAbs < 2 ^ m) (h : m < n) : x.natAbs.log2 < n := by
  by_cases z : x.natAbs = 0
  · rw [z]
    have : Nat.log2 0 = 0 := by decide
    omega
  · exact (Nat.log2_lt z).mpr (Nat.lt_of_lt_of_le h1 (Nat.pow_le_pow_right (by decide) (by omega)))
theorem bit_log2 {x y : Int} {m n : Nat} (h1 : x.natAbs < 2 ^ m) (h2 : y.natAbs < 2 ^ n) (h : m + n + 2 ≤ 1000000) : x.natAbs.log2 + y.natAbs.log2 < 1000000 := by
  have := bit_log h1 (Nat.lt_succ_self m)
  have := bit_log h2 (Nat.lt_succ_self n)
  omega
theorem low_num (t b : Int) (hb : b ≠ 0) : t.fdiv (if b < 0 then -(Int.gcd t b : Int) else (Int.gcd t b : Int)) = (Rat.divInt t b).num ∧ b.fdiv (if b < 0 then -(Int.gcd t b : Int) else (Int.gcd t b : Int)) = ((Rat.divInt t b).den : Int) := by
  have hg : Int.gcd t b ≠ 0 := fun h => hb (Int.gcd_eq_zero_iff.mp h).2
  obtain ⟨q, hq⟩ := Int.gcd_dvd_left (a := t) (b := b)
  obtain ⟨r, hr⟩ := Int.gcd_dvd_right (a := t) (b := b)
  rw [Rat.num_divInt, Rat.den_divInt, if_neg hb, Int.gcd_comm b t]
  generalize Int.gcd t b = g at *
  have hg' : (g : Int) ≠ 0 := by omega
  have hgn : 0 < g := by omega
  subst hq
  have hr0 : r ≠ 0 := fun z => hb (by rw [hr, z]; simp)
  have hrn : (b.natAbs / g : Nat) = r.natAbs := by rw [hr, Int.natAbs_mul]; simp [Nat.mul_div_cancel_left _ hgn]
  rw [hrn]
  by_cases hn : b < 0
  · have rn : r < 0 := by
      by_cases z : r < 0
      · exact z
      · have := Int.mul_nonneg (show (0 : Int) ≤ g by omega) (show 0 ≤ r by omega)
        omega
    rw [if_pos hn, Int.sign_eq_neg_one_of_neg hn, hr]
    constructor
    · rw [show (g : Int) * q = -(g : Int) * (-q) by grind, Int.mul_fdiv_cancel_left _ (by omega)]
      rw [show -1 * (-(g : Int) * -q) = (g : Int) * (-q) by grind, Int.mul_ediv_cancel_left _ hg']
    · rw [show (g : Int) * r = -(g : Int) * (-r) by grind, Int.mul_fdiv_cancel_left _ (by omega)]
      omega
  · have rn : 0 < r := by
      by_cases z : 0 < r
      · exact z
      · have := Int.mul_nonpos_of_nonneg_of_nonpos (show (0 : Int) ≤ g by omega) (show r ≤ 0 by omega)
        omega
    rw [if_neg hn, Int.sign_eq_one_of_pos (by omega), hr]
    constructor
    · rw [Int.mul_fdiv_cancel_left _ hg', Int.one_mul, Int.mul_ediv_cancel_left _ hg']
    · rw [Int.mul_fdiv_cancel_left _ hg']
      omega
theorem sgd_log {t b : Int} (hb : b ≠ 0) {k : Nat} (h : b.natAbs.log2 < k) : ¬ Int.gcd t b = 0 ∧ (Int.gcd t b).log2 < k := by
  have h1 : Int.gcd t b ≤ b.natAbs := Nat.le_of_dvd (by omega) (Int.gcd_dvd_natAbs_right t b)
  exact ⟨fun h => hb (Int.gcd_eq_zero_iff.mp h).2, log2_mono h h1⟩
def Sz (n : Nat) (q : Rat) : Prop := q.num.natAbs < 2 ^ n ∧ q.den < 2 ^ n
theorem Sz.up {m n : Nat} {q : Rat} (h : Sz m q) (k : m ≤ n) : Sz n q := ⟨bit_up h.1 k, Nat.lt_of_lt_of_le h.2 (Nat.pow_le_pow_right (by decide) k)⟩
theorem Sz.den {n : Nat} {q : Rat} (h : Sz n q) : (q.den : Int).natAbs < 2 ^ n := by simpa using h.2
theorem Sz.mk {n : Nat} {t b : Int} (h1 : t.natAbs < 2 ^ n) (h2 : b.natAbs < 2 ^ n) (hb : b ≠ 0) : Sz n (Rat.divInt t b) := by
  refine ⟨?_, ?_⟩
  · rw [Rat.num_divInt]
    refine Nat.lt_of_le_of_lt ?_ h1
    have : (b.sign * t / ((b.gcd t : Nat) : Int)).natAbs ≤ (b.sign * t).natAbs := Int.natAbs_ediv_le_natAbs _ _
    refine Nat.le_trans this ?_
    rw [Int.natAbs_mul]
    have : b.sign.natAbs ≤ 1 := by
      rcases Int.lt_trichotomy b 0 with z | z | z
      · rw [Int.sign_eq_neg_one_of_neg z]; decide
      · exact absurd z hb
      · rw [Int.sign_eq_one_of_pos z]; decide
    calc b.sign.natAbs * t.natAbs ≤ 1 * t.natAbs := Nat.mul_le_mul_right _ this
      _ = t.natAbs := Nat.one_mul _
  · rw [Rat.den_divInt, if_neg hb]
    exact Nat.lt_of_le_of_lt (Nat.div_le_self _ _) h2
theorem den_pos (q : Rat) : 0 < (q.den : Int) := by have := q.den_nz; omega
theorem q_eq (q : Rat) : q = Rat.divInt q.num q.den := (Rat.num_divInt_den q).symm
theorem q_add (a b : Rat) : a + b = Rat.divInt (a.num * b.den + b.num * a.den) (a.den * b.den) := by
  conv => lhs; rw [q_eq a, q_eq b]
  rw [Rat.divInt_add_divInt _ _ (by have := den_pos a; omega) (by have := den_pos b; omega)]
theorem q_sub (a b : Rat) : a - b = Rat.divInt (a.num * b.den - b.num * a.den) (a.den * b.den) := by
  conv => lhs; rw [q_eq a, q_eq b]
  rw [Rat.divInt_sub_divInt _ _ (by have := den_pos a; omega) (by have := den_pos b; omega)]
theorem q_mul (a b : Rat) : a * b = Rat.divInt (a.num * b.num) (a.den * b.den) := by
  conv => lhs; rw [q_eq a, q_eq b]
  rw [Rat.divInt_mul_divInt]
theorem den2 (a b : Rat) : (a.den : Int) * b.den ≠ 0 := Int.mul_ne_zero (by have := den_pos a; omega) (by have := den_pos b; omega)
theorem Sz.add {m n : Nat} {a b : Rat} (h : Sz m a) (k : Sz n b) : Sz (m + n + 1) (a + b) := by
  rw [q_add]
  have x := bit_mul h.1 k.den
  have y := bit_mul k.1 h.den
  rw [Nat.add_comm n m] at y
  have z := bit_add x y
  rw [Nat.max_self] at z
  exact Sz.mk z (bit_up (bit_mul h.den k.den) (by omega)) (den2 a b)
theorem Sz.sub {m n : Nat} {a b : Rat} (h : Sz m a) (k : Sz n b) : Sz (m + n + 1) (a - b) := by
  rw [q_sub]
  have x := bit_mul h.1 k.den
  have y := bit_mul k.1 h.den
  rw [Nat.add_comm n m] at y
  have z := bit_sub x y
  rw [Nat.max_self] at z
  exact Sz.mk z (bit_up (bit_mul h.den k.den) (by omega)) (den2 a b)
theorem Sz.mul {m n : Nat} {a b : Rat} (h : Sz m a) (k : Sz n b) : Sz (m + n) (a * b) := by
  rw [q_mul]
  exact Sz.mk (bit_mul h.1 k.1) (bit_mul h.den k.den) (den2 a b)
theorem Sz.neg {m : Nat} {a : Rat} (h : Sz m a) : Sz m (-a) := ⟨by simpa using h.1, by simpa using h.2⟩
theorem two_pow_gt (n : Nat) : 1 < 2 ^ (n + 1) := by have := Nat.one_le_two_pow (n := n); rw [Nat.pow_succ]; omega
theorem Sz.int {m : Nat} {a : Int} (h : a.natAbs < 2 ^ m) : Sz (m + 1) (a : Rat) := ⟨bit_up (m := m) (by simpa using h) (by omega), by simpa using two_pow_gt m⟩
theorem sz0 {n : Nat} : Sz (n + 1) 0 := ⟨by simp [Nat.two_pow_pos], by simpa using two_pow_gt n⟩
theorem sz1 {n : Nat} : Sz (n + 1) 1 := ⟨by simpa using two_pow_gt n, by simpa using two_pow_gt n⟩
@[simp] theorem dF_0 : D.tup [.int 0, .int 1] = dF 0 := rfl
@[simp] theorem dF_1 : D.tup [.int 1, .int 1] = dF 1 := rfl
@[simp] theorem ix0_dF {q : Rat} {st : Sto} : oIx (dF q) (.int 0) st = .val .P (.int q.num) st := by simp [dF, atI, ixN]
@[simp] theorem ix1_dF {q : Rat} {st : Sto} : oIx (dF q) (.int 1) st = .val .P (.int q.den) st := by simp [dF, atI, ixN]
@[simp] theorem len_dF {q : Rat} {st : Sto} : oLen [dF q] st = .val .P (.int 2) st := rfl
@[simp] theorem items_dF {q : Rat} : itemsOf (dF q) = some [.int q.num, .int q.den] := rfl
@[simp] theorem tup_dF {q : Rat} {st : Sto} : isT "tuple" (dF q) st = .val .P (.bl true) st := by simp [dF]
theorem dF_inj {a b : Rat} : dF a = dF b ↔ a = b := by
  constructor
  · intro h
    unfold dF at h
    injection h with h
    injection h with h1 h2
    injection h2 with h2 h3
    injection h1 with h1
    injection h2 with h2
    exact Rat.ext h1 (by omega)
  · rintro rfl; rfl
theorem q_eq_iff (a b : Rat) : a = b ↔ a.num = b.num ∧ a.den = b.den := ⟨fun h => by subst h; exact ⟨rfl, rfl⟩, fun h => Rat.ext h.1 h.2⟩
@[simp] theorem eq_dF {a b : Rat} {st : Sto} : oEq (dF a) (dF b) st = .val .P (.bl (decide (a = b))) st := by
  have : decide (a = b) = decide (a.num = b.num ∧ (a.den : Int) = b.den) := by
    rw [decide_eq_decide, q_eq_iff]
    omega
  rw [this]
  simp [dF]
@[simp] theorem ne_dF {a b : Rat} {st : Sto} : oNe (dF a) (dF b) st = .val .P (.bl (!decide (a = b))) st := by
  have : decide (a = b) = decide (a.num = b.num ∧ (a.den : Int) = b.den) := by
    rw [decide_eq_decide, q_eq_iff]
    omega
  rw [this]
  simp [dF]
theorem lt_num (a b : Rat) : a.num * b.den < b.num * a.den ↔ a < b := (Rat.lt_iff a b).symm
end Dn
namespace Dn
open PySem PySem.Spec PyProof.Rows L2
theorem lc_map {α : Type} {k : D → Sto → Option (Option D × Sto)} {enc f : α → D} {st : Sto} : ∀ {l : List α}, (∀ a ∈ l, k (enc a) st = some (some (f a), st)) → lcGo k (l.map enc) st = some (l.map f, st)
  | [], _ => rfl
  | a :: l, h => by
    rw [List.map_cons, e_lcC, h a (List.mem_cons_self ..), Option.bind_some, lc_map (fun a m => h a (List.mem_cons_of_mem _ m))]
    rfl
theorem lc_filter {α : Type} {k : D → Sto → Option (Option D × Sto)} {enc f : α → D} {p : α → Bool} {st : Sto} : ∀ {l : List α}, (∀ a ∈ l, k (enc a) st = some (if p a = true then some (f a) else none, st)) → lcGo k (l.map enc) st = some ((l.filter p).map f, st)
  | [], _ => rfl
  | a :: l, h => by
    rw [List.map_cons, e_lcC, h a (List.mem_cons_self ..), Option.bind_some, lc_filter (fun a m => h a (List.mem_cons_of_mem _ m))]
    cases q : p a <;> simp [q, List.filter_cons]
@[simp] theorem intsOf_map {α : Type} (f : α → Int) : ∀ l : List α, intsOf (l.map fun a => .int (f a)) = some (l.map f)
  | [] => rfl
  | a :: l => by simp [intsOf, intsOf_map f l]
mutual
def pur : D → Bool
  | .non | .int _ => true
  | .str x => PyData.strOk x
  | .tup l => purL l
  | .lst l => purL l
  | _ => false
def purL : List D → Bool
  | [] => true
  | d :: l => pur d && purL l
end
mutual
def dep : D → Nat
  | .tup l => depL l + 1
  | .lst l => depL l + 1
  | _ => 0
def depL : List D → Nat
  | [] => 0
  | d :: l => max (dep d) (depL l)
end
mutual
theorem pur_py : ∀ d, pur d = true → isPy d = true ∧ PyData.canLay0 (py d) = true ∧ PyData.depth (py d) = dep d
  | .non, _ => ⟨rfl, by simp [py, PyData.canLay0], by simp [py, PyData.depth, dep]⟩
  | .int _, _ => ⟨rfl, by simp [py, PyData.canLay0], by simp [py, PyData.depth, dep]⟩
  | .str _, h => ⟨rfl, by simpa [py, PyData.canLay0, pur] using h, by simp [py, PyData.depth, dep]⟩
  | .tup l, h => by
    obtain ⟨a, b, c⟩ := purL_py l (by simpa [pur] using h)
    exact ⟨by simpa [isPy] using a, by simpa [py, PyData.canLay0] using b, by simp [py, PyData.depth, dep, c]⟩
  | .lst l, h => by
    obtain ⟨a, b, c⟩ := purL_py l (by simpa [pur] using h)
    exact ⟨by simpa [isPy] using a, by simpa [py, PyData.canLay0] using b, by simp [py, PyData.depth, dep, c]⟩
  | .bl _, h => by simp [pur] at h
  | .obj _ _, h => by simp [pur] at h
  | .scr _, h => by simp [pur] at h
  | .ptr _, h => by simp [pur] at h
theorem purL_py : ∀ l, purL l = true → isPyL l = true ∧ PyData.canLayAll0 (pyL l) = true ∧ PyData.depthAll (pyL l) = depL l
  | [], _ => ⟨rfl, by simp [pyL, PyData.canLayAll0], by simp [pyL, PyData.depthAll, depL]⟩
  | d :: l, h => by
    have h' : pur d = true ∧ purL l = true := by simpa [purL] using h
    obtain ⟨a, b, c⟩ := pur_py d h'.1
    obtain ⟨a', b', c'⟩ := purL_py l h'.2
    exact ⟨by simp [isPyL, a, a'], by simp [pyL, PyData.canLayAll0, b, b'], by simp [pyL, PyData.depthAll, depL, c, c']⟩
end
mutual
theorem eqv_pur : ∀ a b, pur a = true → pur b = true → (PyData.eqv (py a) (py b) = true ↔ a = b)
  | .non, b, _, hb => by cases b <;> simp [py, PyData.eqv, pur] at hb ⊢
  | .int _, b, _, hb => by cases b <;> simp [py, PyData.eqv, pur] at hb ⊢
  | .str _, b, _, hb => by cases b <;> simp [py, PyData.eqv, pur] at hb ⊢
  | .tup l, b, ha, hb => by
    cases b <;> simp [py, PyData.eqv, pur] at ha hb ⊢
    exact eqvL_pur _ _ ha hb
  | .lst l, b, ha, hb => by
    cases b <;> simp [py, PyData.eqv, pur] at ha hb ⊢
    exact eqvL_pur _ _ ha hb
  | .bl _, _, h, _ => by simp [pur] at h
  | .obj _ _, _, h, _ => by simp [pur] at h
  | .scr _, _, h, _ => by simp [pur] at h
  | .ptr _, _, h, _ => by simp [pur] at h
theorem eqvL_pur : ∀ l m, purL l = true → purL m = true → (PyData.eqvAll (pyL l) (pyL m) = true ↔ l = m)
  | [], [], _, _ => by simp [pyL, PyData.eqvAll]
  | [], _ :: _, _, _ => by simp [pyL, PyData.eqvAll]
  | _ :: _, [], _, _ => by simp [pyL, PyData.eqvAll]
  | a :: l, b :: m, ha, hb => by
    have h1 : pur a = true ∧ purL l = true := by simpa [purL] using ha
    have h2 : pur b = true ∧ purL m = true := by simpa [purL] using hb
    simp only [pyL, PyData.eqvAll, Bool.and_eq_true, eqv_pur a b h1.1 h2.1, eqvL_pur l m h1.2 h2.2, List.cons.injEq]
end
theorem eq_of {a b : D} {p : Prop} [Decidable p] (st : Sto) (ha : pur a = true) (hb : pur b = true) (da : dep a ≤ 64) (db : dep b ≤ 64) (h : a = b ↔ p) : oEq a b st = .val .P (.bl (decide p)) st := by
  obtain ⟨a1, a2, a3⟩ := pur_py a ha
  obtain ⟨b1, b2, b3⟩ := pur_py b hb
  have e := (eqv_pur a b ha hb).trans h
  unfold oEq eqAny
  by_cases s : scalD a b = true
  · rw [if_pos s]
    have : eqF a b = decide p := by
      rw [Bool.eq_iff_iff, decide_eq_true_iff, ← h]
      cases a <;> cases b <;> simp [scalD, eqF] at s ⊢
    rw [this]
  · rw [if_neg s, if_pos ⟨a1, b1, by simp [SeqAt.shaped, a2, a3, da], by simp [SeqAt.shaped, b2, b3, db]⟩]
    have : PyData.eqv (py a) (py b) = decide p := by
      rw [Bool.eq_iff_iff, decide_eq_true_iff, ← e]
    rw [this]
theorem purL_map {α : Type} {enc : α → D} (h : ∀ a, pur (enc a) = true) : ∀ l : List α, purL (l.map enc) = true
  | [] => rfl
  | a :: l => by simp [purL, h a, purL_map h l]
theorem depL_map {α : Type} {enc : α → D} {n : Nat} (h : ∀ a, dep (enc a) ≤ n) : ∀ l : List α, depL (l.map enc) ≤ n
  | [] => by simp [depL]
  | a :: l => by have := depL_map h l; have := h a; simp only [List.map_cons, depL]; omega
theorem map_inj {α : Type} {enc : α → D} (h : ∀ a b, enc a = enc b → a = b) : ∀ l m : List α, l.map enc = m.map enc ↔ l = m
  | [], [] => by simp
  | [], _ :: _ => by simp
  | _ :: _, [] => by simp
  | a :: l, b :: m => by
    simp only [List.map_cons, List.cons.injEq, map_inj h l m]
    exact ⟨fun x => ⟨h a b x.1, x.2⟩, fun x => ⟨by rw [x.1], x.2⟩⟩
theorem eq_lst {α : Type} [DecidableEq α] {enc : α → D} (hp : ∀ a, pur (enc a) = true) (hd : ∀ a, dep (enc a) ≤ 60) (hi : ∀ a b, enc a = enc b → a = b) (l m : List α) (st : Sto) : oEq (.lst (l.map enc)) (.lst (m.map enc)) st = .val .P (.bl (decide (l = m))) st := by
  refine eq_of st (by simp [pur, purL_map hp]) (by simp [pur, purL_map hp]) ?_ ?_ ?_
  · have := depL_map hd l; simp only [dep]; omega
  · have := depL_map hd m; simp only [dep]; omega
  · simp [map_inj hi]
@[simp high] theorem pow10_6 {st : Sto} : oPow (.int 10) (.int 6) st = .val .P (.int 1000000) st := rfl
@[simp high] theorem pow10_8 {st : Sto} : oPow (.int 10) (.int 8) st = .val .P (.int 100000000) st := rfl
@[simp high] theorem pow10_9 {st : Sto} : oPow (.int 10) (.int 9) st = .val .P (.int 1000000000) st := rfl
@[simp high] theorem pow10_12 {st : Sto} : oPow (.int 10) (.int 12) st = .val .P (.int 1000000000000) st := rfl
@[simp high] theorem pow10_18 {st : Sto} : oPow (.int 10) (.int 18) st = .val .P (.int 1000000000000000000) st := rfl
@[simp high] theorem pow10_19 {st : Sto} : oPow (.int 10) (.int 19) st = .val .P (.int 10000000000000000000) st := rfl
@[simp high] theorem pow10_20 {st : Sto} : oPow (.int 10) (.int 20) st = .val .P (.int 100000000000000000000) st := rfl
@[simp high] theorem pow10_26 {st : Sto} : oPow (.int 10) (.int 26) st = .val .P (.int 100000000000000000000000000) st := rfl
@[simp high] theorem pow10_30 {st : Sto} : oPow (.int 10) (.int 30) st = .val .P (.int 1000000000000000000000000000000) st := rfl
@[simp high] theorem pow10_36 {st : Sto} : oPow (.int 10) (.int 36) st = .val .P (.int 1000000000000000000000000000000000000) st := rfl
@[simp high] theorem pow10_39 {st : Sto} : oPow (.int 10) (.int 39) st = .val .P (.int 1000000000000000000000000000000000000000) st := rfl
@[simp high] theorem pow10_40 {st : Sto} : oPow (.int 10) (.int 40) st = .val .P (.int 10000000000000000000000000000000000000000) st := rfl
@[simp high] theorem pow10_45 {st : Sto} : oPow (.int 10) (.int 45) st = .val .P (.int 1000000000000000000000000000000000000000000000) st := rfl
@[simp high] theorem pow10_60 {st : Sto} : oPow (.int 10) (.int 60) st = .val .P (.int 1000000000000000000000000000000000000000000000000000000000000) st := rfl
@[simp high] theorem pow10_180 {st : Sto} : oPow (.int 10) (.int 180) st = .val .P (.int 1000000000000000000000000000000000000000000000000000000000000000000000000000000000000000000000000000000000000000000000000000000000000000000000000000000000000000000000000000000000000) st := rfl
def dRow (r : Int × Int) : D := .tup [.int r.1, .int r.2]
@[simp] theorem tg_row {e : DE} {i j : Nat} {r : Int × Int} : tgT 2 (tgsCons (tgN i) (tgsCons (tgN j) tgsNil)) (dRow r) e = some ((e.set i (.val (.int r.1))).set j (.val (.int r.2))) := by simp [dRow]
@[simp] theorem ix0_row {r : Int × Int} {st : Sto} : oIx (dRow r) (.int 0) st = .val .P (.int r.1) st := by simp [dRow, atI, ixN]
@[simp] theorem ix1_row {r : Int × Int} {st : Sto} : oIx (dRow r) (.int 1) st = .val .P (.int r.2) st := by simp [dRow, atI, ixN]
theorem dRow_inj (a b : Int × Int) (h : dRow a = dRow b) : a = b := by
  unfold dRow at h
  injection h with h
  injection h with h1 h2
  injection h2 with h2 h3
  injection h1 with h1
  injection h2 with h2
  exact Prod.ext h1 h2
@[simp] theorem eq_rows {l m : List (Int × Int)} {st : Sto} : oEq (.lst (l.map dRow)) (.lst (m.map dRow)) st = .val .P (.bl (decide (l = m))) st :=
  eq_lst (fun a => by simp [dRow, pur, purL]) (fun a => by simp [dRow, dep, depL]) dRow_inj l m st
@[simp] theorem ne_rows {l m : List (Int × Int)} {st : Sto} : oNe (.lst (l.map dRow)) (.lst (m.map dRow)) st = .val .P (.bl (!decide (l = m))) st := ne_of_eq eq_rows
theorem pur_dF (q : Rat) : pur (dF q) = true := by simp [dF, pur, purL]
theorem dep_dF (q : Rat) : dep (dF q) ≤ 1 := by simp [dF, dep, depL]
@[simp] theorem eq_Fs {l m : List Rat} {st : Sto} : oEq (.lst (l.map dF)) (.lst (m.map dF)) st = .val .P (.bl (decide (l = m))) st :=
  eq_lst pur_dF (fun a => by have := dep_dF a; omega) (fun a b => dF_inj.mp) l m st
@[simp] theorem ne_Fs {l m : List Rat} {st : Sto} : oNe (.lst (l.map dF)) (.lst (m.map dF)) st = .val .P (.bl (!decide (l = m))) st := ne_of_eq eq_Fs
end Dn
namespace Dn
open PySem PySem.Spec PyProof.Rows L2
def RowOk (r : Int × Int) : Prop := 1 ≤ r.1 ∧ r.1 ≤ 999 ∧ 0 ≤ r.2 ∧ r.2 ≤ 999999999
def RowsOk (m : Nat) (rows : List (Int × Int)) : Prop := 1 ≤ rows.length ∧ rows.length ≤ m ∧ (∀ r ∈ rows, RowOk r) ∧ (rows.map (·.2)).sum ≠ 0
theorem RowsOk.up {m n : Nat} {rows : List (Int × Int)} (h : RowsOk m rows) (k : m ≤ n) : RowsOk n rows := ⟨h.1, by have := h.2.1; omega, h.2.2⟩
def pre (rows : List (Int × Int)) (i : Nat) : Int := ((rows.take i).map (·.1)).sum
def wid (rows : List (Int × Int)) : Int := (rows.map (·.1)).sum
section
variable {rows : List (Int × Int)} (hr : RowsOk 8 rows)
include hr
end
def bq (rows : List (Int × Int)) (i : Nat) : Rat := Rat.divInt (pre rows i) (wid rows)
section
variable {rows : List (Int × Int)} (hr : RowsOk 8 rows)
include hr
end
def lo (x : Rat) (rows : List (Int × Int)) (i : Nat) : Rat := if x < bq rows i then bq rows i else x
def hi (y : Rat) (rows : List (Int × Int)) (i : Nat) : Rat := if bq rows (i + 1) < y then bq rows (i + 1) else y
def vq (rows : List (Int × Int)) (i : Nat) : Rat := (((rows[i]?.map (·.2)).getD 0 : Int) : Rat)
def wseg (x y : Rat) (rows : List (Int × Int)) (i : Nat) : Rat := vq rows i * ((hi y rows i - lo x rows i) / (bq rows (i + 1) - bq rows i))
def sumR (f : Nat → Rat) : Nat → Rat
  | 0 => 0
  | k + 1 => sumR f k + f k
def wpart (x y : Rat) (rows : List (Int × Int)) (i : Nat) : Rat := if lo x rows i < hi y rows i then wseg x y rows i else 0
def wq (x y : Rat) (rows : List (Int × Int)) : Rat := sumR (wpart x y rows) rows.length
section
variable {rows : List (Int × Int)} (hr : RowsOk 8 rows) {x y : Rat} {s : Nat} (hs : 13 ≤ s)
include hr hs
end
end Dn
namespace Dn
open PySem PySem.Spec PyProof.Rows L2
section
variable {rows : List (Int × Int)} (hr : RowsOk 8 rows)
include hr
end
end Dn
namespace Dn
open PySem PySem.Spec PyProof.Rows L2
section
variable {rows : List (Int × Int)} (hr : RowsOk 8 rows) {x y m : Rat} {i : Nat} (hi' : i < rows.length) (hlh : lo x rows i < hi y rows i) (h0 : 0 < m - sumR (wpart x y rows) i) (h1 : m - sumR (wpart x y rows) i ≤ wseg x y rows i)
include hlh h0 h1 in
include hr hi' hlh h0 h1 in
include hr hi' hlh h0 h1 in
include hr hlh h0 h1 in
include hr hi' hlh h0 h1 in
include hr hi' hlh h0 h1 in
include hr hi' hlh h0 h1 in
include hr hi' hlh h0 h1 in
end
end Dn
namespace Dn
open PySem PySem.Spec PyProof.Rows L2
def Ris (l : List Rat) : Prop := l.Pairwise (· < ·)
def ahead (q : Rat) : List Rat → Nat
  | [] => 0
  | a :: l => if a < q then ahead q l + 1 else 0
def ins (q : Rat) (l : List Rat) : List Rat := if q ∈ l then l else l.take (ahead q l) ++ q :: l.drop (ahead q l)
theorem ahead_le (q : Rat) : ∀ l, ahead q l ≤ l.length
  | [] => Nat.le_refl _
  | a :: l => by unfold ahead; split <;> simp [ahead_le q l]
theorem ahead_lt {q : Rat} : ∀ {l : List Rat} {i : Nat} (h : i < ahead q l) (hl : i < l.length), l[i] < q
  | a :: l, i, h, hl => by
    unfold ahead at h
    split at h
    · rename_i c
      cases i with
      | zero => exact c
      | succ i => exact ahead_lt (l := l) (by omega) (by simpa using hl)
    · omega
theorem ahead_ge {q : Rat} : ∀ {l : List Rat} (h : ahead q l < l.length), ¬ l[ahead q l] < q
  | [], h => by simp at h
  | a :: l, h => by
    by_cases c : a < q
    · have e : ahead q (a :: l) = ahead q l + 1 := by simp [ahead, c]
      have h' : ahead q l < l.length := by rw [e] at h; simpa using h
      have := ahead_ge h'
      simp only [e, List.getElem_cons_succ]
      exact this
    · have e : ahead q (a :: l) = 0 := by simp [ahead, c]
      simp only [e, List.getElem_cons_zero]
      exact c
theorem ris_filter {q : Rat} : ∀ {l : List Rat}, Ris l → (l.filter fun a => decide (a < q)).length = ahead q l
  | [], _ => rfl
  | a :: l, h => by
    have h' := List.pairwise_cons.mp h
    unfold ahead
    by_cases c : a < q
    · rw [if_pos c, List.filter_cons_of_pos (by simpa using c), List.length_cons, ris_filter h'.2]
    · rw [if_neg c, List.filter_cons_of_neg (by simpa using c)]
      have : l.filter (fun a => decide (a < q)) = [] := by
        rw [List.filter_eq_nil_iff]
        intro b hb
        have := h'.1 b hb
        simp
        grind
      rw [this]; rfl
theorem mem_ins {q a : Rat} {l : List Rat} : a ∈ ins q l ↔ a = q ∨ a ∈ l := by
  unfold ins
  split
  · rename_i h
    exact ⟨.inr, fun z => z.elim (fun e => e ▸ h) id⟩
  · rw [List.mem_append, List.mem_cons]
    have : a ∈ l ↔ a ∈ l.take (ahead q l) ∨ a ∈ l.drop (ahead q l) := by
      rw [← List.mem_append, List.take_append_drop]
    rw [this]
    exact ⟨fun z => by rcases z with z | z | z <;> simp [z], fun z => by rcases z with z | z | z <;> simp [z]⟩
theorem ris_take_lt {q : Rat} {l : List Rat} : ∀ a ∈ l.take (ahead q l), a < q := by
  intro a ha
  obtain ⟨i, hi, rfl⟩ := List.mem_iff_getElem.mp ha
  rw [List.getElem_take]
  rw [List.length_take] at hi
  exact ahead_lt (by omega) (by omega)
theorem ris_drop_ge {q : Rat} {l : List Rat} (h : Ris l) (hq : q ∉ l) : ∀ a ∈ l.drop (ahead q l), q < a := by
  intro a ha
  obtain ⟨i, hi, rfl⟩ := List.mem_iff_getElem.mp ha
  rw [List.length_drop] at hi
  rw [List.getElem_drop]
  have h0 := ahead_ge (q := q) (l := l) (by omega)
  have h1 : q ≠ l[ahead q l] := fun e => hq (e ▸ List.getElem_mem _)
  have h2 : q < l[ahead q l] := by grind
  by_cases c : i = 0
  · subst c; simpa using h2
  · have := List.pairwise_iff_getElem.mp h (ahead q l) (ahead q l + i) (by omega) (by omega) (by omega)
    grind
theorem ris_ins {q : Rat} {l : List Rat} (h : Ris l) : Ris (ins q l) := by
  unfold ins
  split
  · exact h
  · rename_i hq
    unfold Ris
    rw [List.pairwise_append, List.pairwise_cons]
    refine ⟨h.sublist (List.take_sublist _ _), ⟨ris_drop_ge h hq, h.sublist (List.drop_sublist _ _)⟩, fun a ha b hb => ?_⟩
    have a1 := ris_take_lt a ha
    rcases List.mem_cons.mp hb with rfl | hb
    · exact a1
    · have := ris_drop_ge h hq b hb
      grind
def insAll : List Rat → List Rat → List Rat
  | l, [] => l
  | l, q :: qs => insAll (ins q l) qs
theorem insAll_ris : ∀ {qs l : List Rat}, Ris l → Ris (insAll l qs)
  | [], l, h => h
  | q :: qs, l, h => insAll_ris (qs := qs) (l := ins q l) (ris_ins h)
theorem insAll_mem {a : Rat} : ∀ {qs l : List Rat}, a ∈ insAll l qs ↔ a ∈ qs ∨ a ∈ l
  | [], l => by simp [insAll]
  | q :: qs, l => by simp only [insAll, insAll_mem (qs := qs), mem_ins, List.mem_cons]; grind
end Dn
namespace Dn
open PySem PySem.Spec PyProof.Rows L2
def dPair (p : Rat × Rat) : D := .tup [dF p.1, dF p.2]
theorem zip_dF : ∀ l m : List Rat, zipD (l.map dF) (m.map dF) = (l.zip m).map dPair
  | [], _ => by simp [zipD]
  | _ :: _, [] => by simp [zipD]
  | a :: l, b :: m => by simp [zipD, dPair, zip_dF l m]
@[simp] theorem tg_pair {e : DE} {i j : Nat} {r : Rat × Rat} : tgT 2 (tgsCons (tgN i) (tgsCons (tgN j) tgsNil)) (dPair r) e = some ((e.set i (.val (dF r.1))).set j (.val (dF r.2))) := by simp [dPair]
end Dn
namespace Dn
open PySem PySem.Spec PyProof.Rows L2
def cw (rows : List (Int × Int)) (z : Rat) : Rat := wq 0 z rows
section
variable {rows : List (Int × Int)} (hr : RowsOk 8 rows)
include hr
end
end Dn
namespace Dn
open PySem PySem.Spec PyProof.Rows L2
def cnt (E : List Rat) (z : Rat) : Nat := (E.filter fun e => decide (z < e)).length
structure Ends (E : List Rat) (r : List (Int × Int)) : Prop where
  i : ∀ j, j ≤ r.length → bq r j ∈ E
  z : ∀ e ∈ E, 0 ≤ e ∧ e ≤ 1 ∧ Sz 13 e
structure HalfAt (r : List (Int × Int)) (H h0 : Rat) : Prop where
  a : 0 ≤ h0
  b : h0 ≤ 1
  c : cw r h0 = H
  l : ∀ y, 0 ≤ y → y < h0 → cw r y < H
  t : cw r 1 = 2 * H
  p : 0 < H
  s : Sz 40 H
structure Kn (r : List (Int × Int)) (H h0 low high : Rat) : Prop where
  a : 0 ≤ low
  ah : low ≤ h0
  lh : low ≤ high
  b : high ≤ 1
  w : cw r high - cw r low = H
  sl : Sz 280 low
  sh : Sz 280 high
structure Mv (E : List Rat) (r : List (Int × Int)) (H h0 low high low' high' : Rat) : Prop where
  k : Kn r H h0 low' high'
  l : low ≤ low'
  h : high ≤ high'
  nl : ∀ e ∈ E, e ≤ low ∨ low' ≤ e
  nh : ∀ e ∈ E, e ≤ high ∨ high' ≤ e
  c : cnt E low' + cnt E high' < cnt E low + cnt E high
structure Nxt (E : List Rat) (z e : Rat) : Prop where
  m : e ∈ E
  l : z < e
  n : ∀ x ∈ E, x ≤ z ∨ e ≤ x
section
variable {E : List Rat} {r : List (Int × Int)} {H h0 low high after behind : Rat} (hr : RowsOk 8 r) (hE : Ends E r) (hH : HalfAt r H h0) (K : Kn r H h0 low high) (A : Nxt E high after)
include hr hE hH K A
variable (B : Nxt E low behind)
include B
end
end Dn
namespace Dn
open PySem PySem.Spec PyProof.Rows L2
def cov (L : List (Rat × Rat)) (x : Rat) : Prop := ∃ s ∈ L, s.1 ≤ x ∧ x < s.2
def Can (L : List (Rat × Rat)) : Prop := (∀ s ∈ L, s.1 < s.2) ∧ L.Pairwise (fun s t => s.2 < t.1)
theorem cov_nil (x : Rat) : ¬ cov [] x := fun ⟨_, h, _⟩ => by simp at h
theorem cov_cons {s : Rat × Rat} {L : List (Rat × Rat)} {x : Rat} : cov (s :: L) x ↔ (s.1 ≤ x ∧ x < s.2) ∨ cov L x := by
  constructor
  · rintro ⟨t, h, k⟩
    rcases List.mem_cons.mp h with rfl | h
    · exact .inl k
    · exact .inr ⟨t, h, k⟩
  · rintro (h | ⟨t, h, k⟩)
    · exact ⟨s, List.mem_cons_self .., h⟩
    · exact ⟨t, List.mem_cons_of_mem _ h, k⟩
theorem cov_app {L M : List (Rat × Rat)} {x : Rat} : cov (L ++ M) x ↔ cov L x ∨ cov M x := by
  constructor
  · rintro ⟨t, h, k⟩
    rcases List.mem_append.mp h with h | h
    · exact .inl ⟨t, h, k⟩
    · exact .inr ⟨t, h, k⟩
  · rintro (⟨t, h, k⟩ | ⟨t, h, k⟩)
    · exact ⟨t, List.mem_append_left _ h, k⟩
    · exact ⟨t, List.mem_append_right _ h, k⟩
theorem can_nil : Can [] := ⟨fun s h => by simp at h, .nil⟩
theorem can_cons {s : Rat × Rat} {L : List (Rat × Rat)} : Can (s :: L) ↔ s.1 < s.2 ∧ (∀ t ∈ L, s.2 < t.1) ∧ Can L := by
  unfold Can
  rw [List.pairwise_cons]
  constructor
  · rintro ⟨h, k, l⟩
    exact ⟨h s (List.mem_cons_self ..), k, fun t m => h t (List.mem_cons_of_mem _ m), l⟩
  · rintro ⟨h, k, l, m⟩
    refine ⟨fun t z => ?_, k, m⟩
    rcases List.mem_cons.mp z with rfl | z
    · exact h
    · exact l t z
theorem can_first {s : Rat × Rat} {L : List (Rat × Rat)} {x : Rat} (h : Can (s :: L)) (c : cov (s :: L) x) : s.1 ≤ x := by
  obtain ⟨h1, h2, h3⟩ := can_cons.mp h
  rcases cov_cons.mp c with c | ⟨t, m, c⟩
  · exact c.1
  · have := h2 t m; grind
theorem can_tail {s : Rat × Rat} {L : List (Rat × Rat)} {x : Rat} (h : Can (s :: L)) (c : cov L x) : s.2 < x := by
  obtain ⟨h1, h2, h3⟩ := can_cons.mp h
  obtain ⟨t, m, c⟩ := c
  have := h2 t m; grind
theorem can_ext : ∀ {L M : List (Rat × Rat)}, Can L → Can M → (∀ x, cov L x ↔ cov M x) → L = M
  | [], [], _, _, _ => rfl
  | [], t :: M, _, h, e => by
    have := (can_cons.mp h).1
    exact absurd ((e t.1).mpr (cov_cons.mpr (.inl ⟨Rat.le_refl, this⟩))) (cov_nil _)
  | s :: L, [], h, _, e => by
    have := (can_cons.mp h).1
    exact absurd ((e s.1).mp (cov_cons.mpr (.inl ⟨Rat.le_refl, this⟩))) (cov_nil _)
  | s :: L, t :: M, h, k, e => by
    obtain ⟨h1, h2, h3⟩ := can_cons.mp h
    obtain ⟨k1, k2, k3⟩ := can_cons.mp k
    have a1 : t.1 ≤ s.1 := can_first k ((e s.1).mp (cov_cons.mpr (.inl ⟨Rat.le_refl, h1⟩)))
    have a2 : s.1 ≤ t.1 := can_first h ((e t.1).mpr (cov_cons.mpr (.inl ⟨Rat.le_refl, k1⟩)))
    have a : s.1 = t.1 := by grind
    have b1 : ¬ s.2 < t.2 := fun z => by
      have := (e s.2).mpr (cov_cons.mpr (.inl ⟨by grind, z⟩))
      rcases cov_cons.mp this with c | c
      · grind
      · have := can_tail h c; grind
    have b2 : ¬ t.2 < s.2 := fun z => by
      have := (e t.2).mp (cov_cons.mpr (.inl ⟨by grind, z⟩))
      rcases cov_cons.mp this with c | c
      · grind
      · have := can_tail k c; grind
    have b : s.2 = t.2 := by grind
    have st : s = t := Prod.ext a b
    subst st
    congr 1
    refine can_ext h3 k3 fun x => ⟨fun c => ?_, fun c => ?_⟩
    · have z := can_tail h c
      rcases cov_cons.mp ((e x).mp (cov_cons.mpr (.inr c))) with d | d
      · grind
      · exact d
    · have z := can_tail k c
      rcases cov_cons.mp ((e x).mpr (cov_cons.mpr (.inr c))) with d | d
      · grind
      · exact d
theorem can_snoc {L : List (Rat × Rat)} {s : Rat × Rat} : Can (L ++ [s]) ↔ Can L ∧ s.1 < s.2 ∧ ∀ t ∈ L, t.2 < s.1 := by
  unfold Can
  rw [List.pairwise_append]
  constructor
  · rintro ⟨h, k, _, l⟩
    exact ⟨⟨fun t m => h t (List.mem_append_left _ m), k⟩, h s (by simp), fun t m => l t m s (by simp)⟩
  · rintro ⟨⟨h, k⟩, l, m⟩
    refine ⟨fun t z => ?_, k, by simp, fun a z b w => ?_⟩
    · rcases List.mem_append.mp z with z | z
      · exact h t z
      · have : t = s := by simpa using z
        subst this; exact l
    · have : b = s := by simpa using w
      subst this; exact m a z
def adj (P : List Rat) : List (Rat × Rat) := P.zip P.tail
theorem adj_cons (a b : Rat) (P : List Rat) : adj (a :: b :: P) = (a, b) :: adj (b :: P) := rfl
theorem adj_in : ∀ {P : List Rat}, Ris P → ∀ ab ∈ adj P, ab.1 ∈ P ∧ ab.2 ∈ P ∧ ab.1 < ab.2 ∧ ∀ u ∈ P, u ≤ ab.1 ∨ ab.2 ≤ u
  | [], _, ab, h => by simp [adj] at h
  | [a], _, ab, h => by simp [adj] at h
  | a :: b :: P, h, ab, m => by
    rw [adj_cons] at m
    unfold Ris at h
    have hh := List.pairwise_cons.mp h
    have hab := hh.1 b (List.mem_cons_self ..)
    rcases List.mem_cons.mp m with rfl | m
    · refine ⟨List.mem_cons_self .., by simp, hab, fun u hu => ?_⟩
      rcases List.mem_cons.mp hu with rfl | hu
      · exact .inl Rat.le_refl
      · rcases List.mem_cons.mp hu with rfl | hu
        · exact .inr Rat.le_refl
        · have := (List.pairwise_cons.mp hh.2).1 u hu
          exact .inr (Rat.le_of_lt this)
    · obtain ⟨h1, h2, h3, h4⟩ := adj_in (P := b :: P) hh.2 ab m
      refine ⟨List.mem_cons_of_mem _ h1, List.mem_cons_of_mem _ h2, h3, fun u hu => ?_⟩
      rcases List.mem_cons.mp hu with rfl | hu
      · have := hh.1 ab.1 h1
        exact .inl (Rat.le_of_lt this)
      · exact h4 u hu
theorem adj_has : ∀ {P : List Rat} {x : Rat}, Ris P → (∃ u ∈ P, u ≤ x) → (∃ v ∈ P, x < v) → ∃ ab ∈ adj P, ab.1 ≤ x ∧ x < ab.2
  | [], x, _, ⟨u, m, _⟩, _ => by simp at m
  | [a], x, _, ⟨u, m, h⟩, ⟨v, n, k⟩ => by
    simp at m n
    subst m; subst n; grind
  | a :: b :: P, x, hR, ⟨u, m, h⟩, ⟨v, n, k⟩ => by
    unfold Ris at hR
    have hh := List.pairwise_cons.mp hR
    by_cases c : x < b
    · refine ⟨(a, b), by rw [adj_cons]; exact List.mem_cons_self .., ?_, c⟩
      rcases List.mem_cons.mp m with rfl | m
      · exact h
      · have := hh.1 u m; show a ≤ x; grind
    · have cb : b ≤ x := Rat.not_lt.mp c
      have hv : v ∈ b :: P := by
        rcases List.mem_cons.mp n with rfl | n
        · have := hh.1 b (List.mem_cons_self ..); grind
        · exact n
      obtain ⟨ab, h1, h2⟩ := adj_has (P := b :: P) hh.2 ⟨b, List.mem_cons_self .., cb⟩ ⟨v, hv, k⟩
      exact ⟨ab, by rw [adj_cons]; exact List.mem_cons_of_mem _ h1, h2⟩
def swStep (p : Rat → Rat → Bool) (F : List (Rat × Rat)) (ab : Rat × Rat) : List (Rat × Rat) :=
  if p ab.1 ab.2 = true then (match F.getLast? with | some l => if l.2 = ab.1 then F.dropLast ++ [(l.1, ab.2)] else F ++ [ab] | none => F ++ [ab]) else F
def sw (p : Rat → Rat → Bool) (P : List Rat) : List (Rat × Rat) := (adj P).foldl (swStep p) []
theorem swStep_ok {p : Rat → Rat → Bool} {F : List (Rat × Rat)} {a b : Rat} (hF : Can F) (hl : ∀ s ∈ F, s.2 ≤ a) (hab : a < b) :
    Can (swStep p F (a, b)) ∧ (∀ s ∈ swStep p F (a, b), s.2 ≤ b) ∧ ∀ x, cov (swStep p F (a, b)) x ↔ cov F x ∨ (p a b = true ∧ a ≤ x ∧ x < b) := by
  unfold swStep
  by_cases hp : p a b = true
  · rw [if_pos hp]
    have hle : ∀ s ∈ F, s.2 ≤ b := fun s m => by have := hl s m; grind
    cases hg : F.getLast? with
    | none =>
      have : F = [] := List.getLast?_eq_none_iff.mp hg
      subst this
      refine ⟨can_snoc.mpr ⟨can_nil, hab, fun t m => by simp at m⟩, fun s m => ?_, fun x => ?_⟩
      · simp at m; subst m; exact Rat.le_refl
      · simp [cov_cons, cov_nil, hp]
    | some l =>
      obtain ⟨D, rfl⟩ := List.getLast?_eq_some_iff.mp hg
      obtain ⟨cD, cl, cd⟩ := can_snoc.mp hF
      have ll := hl l (by simp)
      by_cases e : l.2 = a
      · simp only [e, if_true, List.dropLast_concat]
        refine ⟨can_snoc.mpr ⟨cD, by show l.1 < b; grind, cd⟩, fun s m => ?_, fun x => ?_⟩
        · rcases List.mem_append.mp m with m | m
          · exact hle s (List.mem_append_left _ m)
          · simp at m; subst m; exact Rat.le_refl
        · simp only [cov_app, cov_cons, cov_nil, or_false, hp, true_and]
          constructor
          · rintro (h | ⟨h1, h2⟩)
            · exact .inl (.inl h)
            · by_cases z : x < a
              · exact .inl (.inr ⟨h1, by rw [e]; exact z⟩)
              · exact .inr ⟨Rat.not_lt.mp z, h2⟩
          · rintro ((h | ⟨h1, h2⟩) | ⟨h1, h2⟩)
            · exact .inl h
            · exact .inr ⟨h1, by grind⟩
            · exact .inr ⟨by grind, h2⟩
      · simp only [e, if_false]
        refine ⟨can_snoc.mpr ⟨hF, hab, fun t m => ?_⟩, fun s m => ?_, fun x => ?_⟩
        · show t.2 < a
          rcases List.mem_append.mp m with m | m
          · have := cd t m; grind
          · simp at m; subst m; grind
        · rcases List.mem_append.mp m with m | m
          · exact hle s m
          · simp at m; subst m; exact Rat.le_refl
        · simp [cov_app, cov_cons, cov_nil, hp]; grind
  · rw [if_neg hp]
    refine ⟨hF, fun s m => by have := hl s m; grind, fun x => ?_⟩
    simp [hp]
theorem sw_inv {p : Rat → Rat → Bool} : ∀ (P : List Rat) (a : Rat) (F : List (Rat × Rat)), Ris (a :: P) → Can F → (∀ s ∈ F, s.2 ≤ a) →
    Can ((adj (a :: P)).foldl (swStep p) F) ∧ ∀ x, cov ((adj (a :: P)).foldl (swStep p) F) x ↔ cov F x ∨ ∃ ab ∈ adj (a :: P), p ab.1 ab.2 = true ∧ ab.1 ≤ x ∧ x < ab.2
  | [], a, F, _, hF, _ => by simp [adj, hF]
  | b :: P, a, F, hR, hF, hl => by
    unfold Ris at hR
    have hh := List.pairwise_cons.mp hR
    obtain ⟨h1, h2, h3⟩ := swStep_ok (p := p) hF hl (hh.1 b (List.mem_cons_self ..))
    obtain ⟨k1, k2⟩ := sw_inv (p := p) P b (swStep p F (a, b)) hh.2 h1 h2
    rw [adj_cons, List.foldl_cons]
    refine ⟨k1, fun x => ?_⟩
    rw [k2 x, h3 x]
    simp only [List.mem_cons, exists_eq_or_imp]
    rw [or_assoc]
theorem sw_spec {p : Rat → Rat → Bool} {P : List Rat} {Q : Rat → Prop} (hP : Ris P) (h : ∀ ab ∈ adj P, ∀ x, ab.1 ≤ x → x < ab.2 → (p ab.1 ab.2 = true ↔ Q x)) (hQ : ∀ x, Q x → (∃ u ∈ P, u ≤ x) ∧ ∃ v ∈ P, x < v) : Can (sw p P) ∧ ∀ x, cov (sw p P) x ↔ Q x := by
  cases P with
  | nil =>
    refine ⟨can_nil, fun x => ⟨fun c => absurd c (cov_nil x), fun q => ?_⟩⟩
    obtain ⟨⟨u, m, _⟩, _⟩ := hQ x q
    simp at m
  | cons a P =>
    obtain ⟨k1, k2⟩ := sw_inv (p := p) P a [] hP can_nil (by simp)
    refine ⟨k1, fun x => (k2 x).trans ⟨?_, fun q => ?_⟩⟩
    · rintro (c | ⟨ab, m, h1, h2, h3⟩)
      · exact absurd c (cov_nil x)
      · exact (h ab m x h2 h3).mp h1
    · obtain ⟨h1, h2⟩ := hQ x q
      obtain ⟨ab, m, h3, h4⟩ := adj_has hP h1 h2
      exact .inr ⟨ab, m, (h ab m x h3 h4).mpr q, h3, h4⟩
theorem swStep_ends {p : Rat → Rat → Bool} {F : List (Rat × Rat)} {ab : Rat × Rat} {E : Rat → Prop} (hF : ∀ s ∈ F, E s.1 ∧ E s.2) (h : E ab.1 ∧ E ab.2) : ∀ s ∈ swStep p F ab, E s.1 ∧ E s.2 := by
  intro s m
  have last : ∀ s ∈ F ++ [ab], E s.1 ∧ E s.2 := fun s m => by
    rcases List.mem_append.mp m with m | m
    · exact hF s m
    · simp at m; subst m; exact h
  unfold swStep at m
  split at m
  · split at m
    · rename_i l hg
      split at m
      · rcases List.mem_append.mp m with m | m
        · exact hF s (List.dropLast_subset _ m)
        · simp at m; subst m
          exact ⟨(hF l (List.mem_of_getLast? hg)).1, h.2⟩
      · exact last s m
    · exact last s m
  · exact hF s m
theorem foldl_ends {p : Rat → Rat → Bool} {E : Rat → Prop} : ∀ (l : List (Rat × Rat)) (F : List (Rat × Rat)), (∀ s ∈ F, E s.1 ∧ E s.2) → (∀ s ∈ l, E s.1 ∧ E s.2) → ∀ s ∈ l.foldl (swStep p) F, E s.1 ∧ E s.2
  | [], F, hF, _ => hF
  | ab :: l, F, hF, hl => by
    rw [List.foldl_cons]
    exact foldl_ends l _ (swStep_ends hF (hl ab (List.mem_cons_self ..))) fun s m => hl s (List.mem_cons_of_mem _ m)
theorem sw_ends {p : Rat → Rat → Bool} {P : List Rat} (hP : Ris P) : ∀ s ∈ sw p P, s.1 ∈ P ∧ s.2 ∈ P :=
  foldl_ends (E := (· ∈ P)) (adj P) [] (by simp) fun s m => ⟨(adj_in hP s m).1, (adj_in hP s m).2.1⟩
def cvr (L : List (Rat × Rat)) (a b : Rat) : Bool := L.any fun s => !decide (a < s.1) && !decide (s.2 < b)
def endsOf (L : List (Rat × Rat)) : List Rat := L.flatMap fun s => [s.1, s.2]
theorem mem_ends {L : List (Rat × Rat)} {x : Rat} : x ∈ endsOf L ↔ ∃ s ∈ L, x = s.1 ∨ x = s.2 := by simp [endsOf]
theorem cvr_iff {L : List (Rat × Rat)} {P : List Rat} (hP : Ris P) (hL : ∀ e ∈ endsOf L, e ∈ P) : ∀ ab ∈ adj P, ∀ x, ab.1 ≤ x → x < ab.2 → (cvr L ab.1 ab.2 = true ↔ cov L x) := by
  intro ab m x h1 h2
  obtain ⟨_, _, hlt, hb⟩ := adj_in hP ab m
  unfold cvr
  rw [List.any_eq_true]
  constructor
  · rintro ⟨s, hs, q⟩
    simp at q
    exact ⟨s, hs, by grind⟩
  · rintro ⟨s, hs, q1, q2⟩
    refine ⟨s, hs, ?_⟩
    have e1 := hb s.1 (hL _ (mem_ends.mpr ⟨s, hs, .inl rfl⟩))
    have e2 := hb s.2 (hL _ (mem_ends.mpr ⟨s, hs, .inr rfl⟩))
    simp
    grind
theorem cov_ends {L : List (Rat × Rat)} {P : List Rat} (hL : ∀ e ∈ endsOf L, e ∈ P) {x : Rat} (c : cov L x) : (∃ u ∈ P, u ≤ x) ∧ ∃ v ∈ P, x < v := by
  obtain ⟨s, hs, q1, q2⟩ := c
  exact ⟨⟨s.1, hL _ (mem_ends.mpr ⟨s, hs, .inl rfl⟩), q1⟩, s.2, hL _ (mem_ends.mpr ⟨s, hs, .inr rfl⟩), q2⟩
def plc (L : List (Rat × Rat)) : List Rat := insAll [] (endsOf L)
theorem plc_ris (L : List (Rat × Rat)) : Ris (plc L) := insAll_ris List.Pairwise.nil
theorem plc_mem {L : List (Rat × Rat)} {x : Rat} : x ∈ plc L ↔ x ∈ endsOf L := by simp [plc, insAll_mem]
def norm (L : List (Rat × Rat)) : List (Rat × Rat) := sw (cvr L) (plc L)
theorem norm_spec (L : List (Rat × Rat)) : Can (norm L) ∧ ∀ x, cov (norm L) x ↔ cov L x :=
  sw_spec (plc_ris L) (cvr_iff (plc_ris L) fun e h => plc_mem.mpr h) fun x c => cov_ends (fun e h => plc_mem.mpr h) c
theorem norm_ends {L : List (Rat × Rat)} : ∀ s ∈ norm L, s.1 ∈ endsOf L ∧ s.2 ∈ endsOf L := fun s m => by
  have := sw_ends (plc_ris L) s m
  exact ⟨plc_mem.mp this.1, plc_mem.mp this.2⟩
theorem norm_of {L N : List (Rat × Rat)} (h : Can N) (e : ∀ x, cov N x ↔ cov L x) : norm L = N := can_ext (norm_spec L).1 h fun x => ((norm_spec L).2 x).trans (e x).symm
def nless (L M : List (Rat × Rat)) : List (Rat × Rat) := sw (fun a b => cvr L a b && !cvr M a b) (plc (L ++ M))
def nboth (L M : List (Rat × Rat)) : List (Rat × Rat) := sw (fun a b => cvr L a b && cvr M a b) (plc (L ++ M))
theorem ends_app (L M : List (Rat × Rat)) : endsOf (L ++ M) = endsOf L ++ endsOf M := by simp [endsOf]
theorem nless_spec (L M : List (Rat × Rat)) : Can (nless L M) ∧ ∀ x, cov (nless L M) x ↔ cov L x ∧ ¬ cov M x := by
  have h1 : ∀ e ∈ endsOf L, e ∈ plc (L ++ M) := fun e h => plc_mem.mpr (by rw [ends_app]; exact List.mem_append_left _ h)
  have h2 : ∀ e ∈ endsOf M, e ∈ plc (L ++ M) := fun e h => plc_mem.mpr (by rw [ends_app]; exact List.mem_append_right _ h)
  refine sw_spec (plc_ris _) (fun ab m x q1 q2 => ?_) fun x c => cov_ends h1 c.1
  have a := cvr_iff (plc_ris _) h1 ab m x q1 q2
  have b := cvr_iff (plc_ris _) h2 ab m x q1 q2
  rw [← a, ← b]
  simp
theorem nboth_spec (L M : List (Rat × Rat)) : Can (nboth L M) ∧ ∀ x, cov (nboth L M) x ↔ cov L x ∧ cov M x := by
  have h1 : ∀ e ∈ endsOf L, e ∈ plc (L ++ M) := fun e h => plc_mem.mpr (by rw [ends_app]; exact List.mem_append_left _ h)
  have h2 : ∀ e ∈ endsOf M, e ∈ plc (L ++ M) := fun e h => plc_mem.mpr (by rw [ends_app]; exact List.mem_append_right _ h)
  refine sw_spec (plc_ris _) (fun ab m x q1 q2 => ?_) fun x c => cov_ends h1 c.1
  have a := cvr_iff (plc_ris _) h1 ab m x q1 q2
  have b := cvr_iff (plc_ris _) h2 ab m x q1 q2
  rw [← a, ← b]
  simp
section
variable {f : Int → Rat} (hf : ∀ a b, a < b ↔ f a < f b)
abbrev f2 (f : Int → Rat) (s : Int × Int) : Rat × Rat := (f s.1, f s.2)
include hf
end
structure Lp (lp : (D → En → SR) → List D → En → SR) (st : Sto) : Prop where
  nil : ∀ b e, lp b [] ⟨e, st⟩ = .nx ⟨e, st⟩
  cons : ∀ b x xs e, lp b (x :: xs) ⟨e, st⟩ = match b x ⟨e, st⟩ with
    | .nx E' => lp b xs E'
    | .ct E' => lp b xs E'
    | .bk E' => .nx E'
    | r => r
theorem lpD (st : Sto) : Lp forD st := ⟨fun b e => rfl, fun b x xs e => by
  show (match b x ⟨e, st⟩ with | .nx e' => forD b xs e' | .ct e' => forD b xs e' | .bk e' => .nx e' | r => r) = _
  cases b x ⟨e, st⟩ <;> rfl⟩
end Dn
namespace Dn
open PySem PySem.Spec PyProof.Rows L2 TL
theorem pur_dPair (p : Rat × Rat) : pur (dPair p) = true := by simp [dPair, dF, pur, purL]
theorem dep_dPair (p : Rat × Rat) : dep (dPair p) ≤ 2 := by simp [dPair, dF, dep, depL]
theorem dPair_inj (a b : Rat × Rat) (h : dPair a = dPair b) : a = b := by
  simp only [dPair, D.tup.injEq, List.cons.injEq, and_true] at h
  exact Prod.ext (dF_inj.mp h.1) (dF_inj.mp h.2)
@[simp] theorem eq_pairs {l m : List (Rat × Rat)} {st : Sto} : oEq (.lst (l.map dPair)) (.lst (m.map dPair)) st = .val .P (.bl (decide (l = m))) st :=
  eq_lst pur_dPair (fun p => Nat.le_trans (dep_dPair p) (by decide)) dPair_inj l m st
@[simp] theorem ne_pairs {l m : List (Rat × Rat)} {st : Sto} : oNe (.lst (l.map dPair)) (.lst (m.map dPair)) st = .val .P (.bl (!decide (l = m))) st := ne_of_eq eq_pairs
theorem eq_self {d : D} (hp : pur d = true) (hd : dep d ≤ 64) (st : Sto) : oEq d d st = .val .P (.bl true) st := by
  have := eq_of st hp hp hd hd (p := True) (by simp)
  simpa using this
end Dn
namespace Dn
end Dn
namespace Dn
open PySem PySem.Spec PyProof.Rows L2
def Ov (D : Int) (q : Rat) : Prop := ∃ n : Int, q * (D : Rat) = (n : Rat)
theorem Ov.zero (D : Int) : Ov D 0 := ⟨0, by simp⟩
theorem Ov.one (D : Int) : Ov D 1 := ⟨D, by simp [Rat.one_mul]⟩
theorem Ov.add {D : Int} {a b : Rat} (h : Ov D a) (k : Ov D b) : Ov D (a + b) := by
  obtain ⟨m, h⟩ := h
  obtain ⟨n, k⟩ := k
  exact ⟨m + n, by rw [Rat.add_mul, h, k, Rat.intCast_add]⟩
theorem Ov.sub {D : Int} {a b : Rat} (h : Ov D a) (k : Ov D b) : Ov D (a - b) := by
  obtain ⟨m, h⟩ := h
  obtain ⟨n, k⟩ := k
  exact ⟨m - n, by rw [Rat.intCast_sub, ← h, ← k]; grind⟩
theorem Ov.mul {D E : Int} {a : Rat} (h : Ov D a) : Ov (D * E) a := by
  obtain ⟨m, h⟩ := h
  exact ⟨m * E, by rw [Rat.intCast_mul, Rat.intCast_mul, ← h]; grind⟩
theorem Ov.int {D : Int} {a : Rat} (n : Int) (h : Ov D a) : Ov D ((n : Rat) * a) := by
  obtain ⟨m, h⟩ := h
  exact ⟨n * m, by rw [Rat.intCast_mul, ← h]; grind⟩
theorem Ov.qf {D : Int} (hD : 0 < D) (a : Int) : Ov D (Rat.divInt a D) := ⟨a, by
  rw [Rat.divInt_eq_div]
  exact Rat.div_mul_cancel (by have := (Rat.intCast_pos (a := D)).mpr hD; grind)⟩
theorem Ov.sz {D : Int} {q : Rat} {a b : Nat} (h : Ov D q) (hD : 0 < D) (h2 : D.natAbs < 2 ^ a) (q0 : 0 ≤ q) (q1 : q ≤ ((2 ^ b : Int) : Rat)) : Sz (a + b) q := by
  obtain ⟨n, h⟩ := h
  have hd := (Rat.intCast_pos (a := D)).mpr hD
  have e : q = Rat.divInt n D := by
    rw [Rat.divInt_eq_div, ← h, Rat.div_def, Rat.mul_assoc, Rat.mul_inv_cancel _ (by grind), Rat.mul_one]
  rw [e]
  have n0 : 0 ≤ n := by
    have : (0 : Rat) ≤ (n : Rat) := by rw [← h]; exact Rat.mul_nonneg q0 (Rat.le_of_lt hd)
    exact Rat.intCast_nonneg.mp this
  have n1 : n ≤ 2 ^ b * D := by
    have : (n : Rat) ≤ ((2 ^ b * D : Int) : Rat) := by
      rw [← h, Rat.intCast_mul]
      exact Rat.mul_le_mul_of_nonneg_right q1 (Rat.le_of_lt hd)
    exact Rat.intCast_le_intCast.mp this
  have n2 : n.natAbs < 2 ^ (a + b) := by
    have h3 : n.natAbs ≤ 2 ^ b * D.natAbs := by
      have : (n.natAbs : Int) ≤ ((2 ^ b * D.natAbs : Nat) : Int) := by
        rw [Int.natAbs_of_nonneg n0, Int.natCast_mul, Int.natAbs_of_nonneg (by omega)]
        simpa using n1
      exact Int.ofNat_le.mp this
    have h4 : 2 ^ b * D.natAbs < 2 ^ b * 2 ^ a := Nat.mul_lt_mul_of_pos_left h2 (Nat.two_pow_pos b)
    rw [Nat.pow_add, Nat.mul_comm (2 ^ a)]
    omega
  exact Sz.mk n2 (Nat.lt_of_lt_of_le h2 (Nat.pow_le_pow_right (by decide) (by omega))) (by omega)
def Gd (g : Int) (p : Rat × Rat) : Prop := Ov g p.1 ∧ Ov g p.2 ∧ 0 ≤ p.1 ∧ p.1 ≤ p.2 ∧ p.2 ≤ 1
def lenS (L : List (Rat × Rat)) : Rat := L.foldr (fun p a => p.2 - p.1 + a) 0
theorem Gd.sz {g : Int} {p : Rat × Rat} {a : Nat} (h : Gd g p) (hg : 0 < g) (h2 : g.natAbs < 2 ^ a) : Sz a p.1 ∧ Sz a p.2 := by
  obtain ⟨h1, h3, h4, h5, h6⟩ := h
  exact ⟨h1.sz (b := 0) hg h2 h4 (by simp; grind), h3.sz (b := 0) hg h2 (by grind) (by simpa using h6)⟩
theorem ins_len (q : Rat) (l : List Rat) : (ins q l).length ≤ l.length + 1 := by
  have := ahead_le q l
  unfold ins
  split <;> simp <;> omega
theorem ins_sz {s : Nat} {q : Rat} {l : List Rat} (hl : ∀ a ∈ l, Sz s a) (hq : Sz s q) : ∀ a ∈ ins q l, Sz s a := by
  intro a m
  rcases mem_ins.mp m with rfl | m
  · exact hq
  · exact hl a m
theorem insAll_len : ∀ (qs l : List Rat), (insAll l qs).length ≤ l.length + qs.length
  | [], l => by simp [insAll]
  | q :: qs, l => by
    have := insAll_len qs (ins q l)
    have := ins_len q l
    simp only [insAll, List.length_cons]; omega
end Dn
namespace Dn
open PySem PySem.Spec PyProof.Rows L2
def Add (μ : Rat → Rat → Rat) : Prop := ∀ x z y, x ≤ z → z ≤ y → μ x z + μ z y = μ x y
def msr (μ : Rat → Rat → Rat) (L : List (Rat × Rat)) : Rat := L.foldr (fun p a => μ p.1 p.2 + a) 0
def smr (μ : Rat → Rat → Rat) (f : Rat → Rat → Bool) (A : List (Rat × Rat)) : Rat := A.foldr (fun p a => (if f p.1 p.2 = true then μ p.1 p.2 else 0) + a) 0
theorem msr_cons (μ : Rat → Rat → Rat) (p : Rat × Rat) (L : List (Rat × Rat)) : msr μ (p :: L) = μ p.1 p.2 + msr μ L := rfl
theorem smr_cons (μ : Rat → Rat → Rat) (f : Rat → Rat → Bool) (p : Rat × Rat) (A : List (Rat × Rat)) : smr μ f (p :: A) = (if f p.1 p.2 = true then μ p.1 p.2 else 0) + smr μ f A := rfl
theorem Add.nil {μ : Rat → Rat → Rat} (h : Add μ) (x : Rat) : μ x x = 0 := by
  have := h x x x Rat.le_refl Rat.le_refl
  grind
theorem smr_congr {μ : Rat → Rat → Rat} {f g : Rat → Rat → Bool} : ∀ {A : List (Rat × Rat)}, (∀ p ∈ A, f p.1 p.2 = g p.1 p.2) → smr μ f A = smr μ g A
  | [], _ => rfl
  | p :: A, h => by rw [smr_cons, smr_cons, h p (List.mem_cons_self ..), smr_congr fun q m => h q (List.mem_cons_of_mem _ m)]
theorem smr_none {μ : Rat → Rat → Rat} {f : Rat → Rat → Bool} : ∀ {A : List (Rat × Rat)}, (∀ p ∈ A, f p.1 p.2 = false) → smr μ f A = 0
  | [], _ => rfl
  | p :: A, h => by
    rw [smr_cons, h p (List.mem_cons_self ..), smr_none fun q m => h q (List.mem_cons_of_mem _ m)]
    simp [Rat.add_zero]
def hold (u v a b : Rat) : Bool := !decide (a < u) && !decide (v < b)
theorem cvr_cons (s : Rat × Rat) (L : List (Rat × Rat)) (a b : Rat) : cvr (s :: L) a b = (hold s.1 s.2 a b || cvr L a b) := by simp [cvr, hold]
theorem ris_cons {a : Rat} {P : List Rat} (h : Ris (a :: P)) : Ris P ∧ ∀ b ∈ P, a < b := by
  unfold Ris at *
  exact ⟨(List.pairwise_cons.mp h).2, (List.pairwise_cons.mp h).1⟩
theorem one1 {μ : Rat → Rat → Rat} (hA : Add μ) {u v : Rat} : ∀ (P : List Rat) (a : Rat), Ris (a :: P) → u ≤ a → v ∈ a :: P → smr μ (hold u v) (adj (a :: P)) = μ a v
  | [], a, _, _, hv => by
    rw [List.mem_singleton.mp hv, hA.nil]; rfl
  | b :: P, a, hR, hu, hv => by
    obtain ⟨hR1, hlt⟩ := ris_cons hR
    have hab := hlt b (List.mem_cons_self ..)
    rw [adj_cons, smr_cons]
    by_cases c : v = a
    · subst c
      rw [hA.nil, smr_none]
      · have : hold u v v b = false := by simp [hold, hab]
        rw [this]; simp [Rat.add_zero]
      · intro p m
        obtain ⟨m1, m2, m3, m4⟩ := adj_in hR1 p m
        have h1 := hlt _ m2
        simp [hold, h1]
    · have hv' : v ∈ b :: P := (List.mem_cons.mp hv).resolve_left c
      have hbv : b ≤ v := by
        rcases List.mem_cons.mp hv' with e | e
        · rw [e]; exact Rat.le_refl
        · exact Rat.le_of_lt ((ris_cons hR1).2 v e)
      have ih := one1 hA P b hR1 (show u ≤ b by grind) hv'
      have hh : hold u v a b = true := by
        unfold hold
        rw [decide_eq_false (by grind), decide_eq_false (by grind)]; rfl
      rw [ih, hh]
      simp only [if_true]
      exact hA a b v (Rat.le_of_lt hab) hbv
theorem one2 {μ : Rat → Rat → Rat} (hA : Add μ) {u v : Rat} (huv : u ≤ v) : ∀ (P : List Rat), Ris P → u ∈ P → v ∈ P → smr μ (hold u v) (adj P) = μ u v
  | [], _, hu, _ => by simp at hu
  | a :: P, hR, hu, hv => by
    by_cases c : u = a
    · subst c
      exact one1 hA P u hR Rat.le_refl hv
    · obtain ⟨hR1, hlt⟩ := ris_cons hR
      have hu' : u ∈ P := (List.mem_cons.mp hu).resolve_left c
      have hau := hlt u hu'
      have hv' : v ∈ P := by
        rcases List.mem_cons.mp hv with e | e
        · exfalso; rw [e] at huv; grind
        · exact e
      have ih := one2 hA huv P hR1 hu' hv'
      cases P with
      | nil => simp at hu'
      | cons b P =>
        rw [adj_cons, smr_cons, ih]
        have : hold u v a b = false := by simp [hold, hau]
        rw [this]; simp [Rat.zero_add]
theorem smr_or {μ : Rat → Rat → Rat} {f g : Rat → Rat → Bool} : ∀ {A : List (Rat × Rat)}, (∀ p ∈ A, ¬ (f p.1 p.2 = true ∧ g p.1 p.2 = true)) → smr μ (fun a b => f a b || g a b) A = smr μ f A + smr μ g A
  | [], _ => by simp [smr, Rat.add_zero]
  | p :: A, h => by
    have h1 := h p (List.mem_cons_self ..)
    have ih := smr_or (μ := μ) (f := f) (g := g) fun q m => h q (List.mem_cons_of_mem _ m)
    rw [smr_cons, smr_cons, smr_cons, ih]
    cases e1 : f p.1 p.2 <;> cases e2 : g p.1 p.2 <;> simp_all <;> grind
theorem msr_smr {μ : Rat → Rat → Rat} (hA : Add μ) {P : List Rat} (hR : Ris P) : ∀ {L : List (Rat × Rat)}, Can L → (∀ e ∈ endsOf L, e ∈ P) → msr μ L = smr μ (cvr L) (adj P)
  | [], _, _ => by rw [smr_none fun p m => rfl]; rfl
  | s :: L, hC, hE => by
    obtain ⟨h1, h2, h3⟩ := can_cons.mp hC
    have hE' : ∀ e ∈ endsOf L, e ∈ P := fun e m => hE e (by
      obtain ⟨t, ht, q⟩ := mem_ends.mp m
      exact mem_ends.mpr ⟨t, List.mem_cons_of_mem _ ht, q⟩)
    have hu := hE s.1 (mem_ends.mpr ⟨s, List.mem_cons_self .., .inl rfl⟩)
    have hv := hE s.2 (mem_ends.mpr ⟨s, List.mem_cons_self .., .inr rfl⟩)
    rw [msr_cons, msr_smr hA hR h3 hE', ← one2 hA (Rat.le_of_lt h1) P hR hu hv, ← smr_or]
    · refine smr_congr fun p _ => ?_
      rw [cvr_cons]
    · rintro p m ⟨c1, c2⟩
      obtain ⟨_, _, m3, _⟩ := adj_in hR p m
      have d1 : cov [s] p.1 := ⟨s, List.mem_cons_self .., by simp [hold] at c1; grind, by simp [hold] at c1; grind⟩
      have d2 := (cvr_iff hR hE' p m p.1 Rat.le_refl m3).mp c2
      obtain ⟨t, ht, q1, q2⟩ := d2
      have := h2 t ht
      simp [hold] at c1
      grind
theorem smr_add {μ : Rat → Rat → Rat} {f g h k : Rat → Rat → Bool} : ∀ {A : List (Rat × Rat)}, (∀ p ∈ A, (h p.1 p.2 = (f p.1 p.2 || g p.1 p.2)) ∧ k p.1 p.2 = (f p.1 p.2 && g p.1 p.2)) → smr μ h A + smr μ k A = smr μ f A + smr μ g A
  | [], _ => rfl
  | p :: A, hh => by
    obtain ⟨h1, h2⟩ := hh p (List.mem_cons_self ..)
    have ih := smr_add (μ := μ) (f := f) (g := g) (h := h) (k := k) fun q m => hh q (List.mem_cons_of_mem _ m)
    rw [smr_cons, smr_cons, smr_cons, smr_cons, h1, h2]
    cases e1 : f p.1 p.2 <;> cases e2 : g p.1 p.2 <;> simp <;> grind
theorem msr_two {μ : Rat → Rat → Rat} (hA : Add μ) {L M U I : List (Rat × Rat)} (cL : Can L) (cM : Can M) (cU : Can U) (cI : Can I) (hU : ∀ x, cov U x ↔ cov L x ∨ cov M x) (hI : ∀ x, cov I x ↔ cov L x ∧ cov M x) : msr μ U + msr μ I = msr μ L + msr μ M := by
  have hR := plc_ris (L ++ M ++ U ++ I)
  have m1 : ∀ e ∈ endsOf L, e ∈ plc (L ++ M ++ U ++ I) := fun e m => plc_mem.mpr (by simp only [ends_app]; simp [m])
  have m2 : ∀ e ∈ endsOf M, e ∈ plc (L ++ M ++ U ++ I) := fun e m => plc_mem.mpr (by simp only [ends_app]; simp [m])
  have m3 : ∀ e ∈ endsOf U, e ∈ plc (L ++ M ++ U ++ I) := fun e m => plc_mem.mpr (by simp only [ends_app]; simp [m])
  have m4 : ∀ e ∈ endsOf I, e ∈ plc (L ++ M ++ U ++ I) := fun e m => plc_mem.mpr (by simp only [ends_app]; simp [m])
  rw [msr_smr hA hR cL m1, msr_smr hA hR cM m2, msr_smr hA hR cU m3, msr_smr hA hR cI m4]
  refine smr_add fun p m => ?_
  obtain ⟨_, _, hlt, _⟩ := adj_in hR p m
  have q1 := cvr_iff hR m1 p m p.1 Rat.le_refl hlt
  have q2 := cvr_iff hR m2 p m p.1 Rat.le_refl hlt
  have q3 := cvr_iff hR m3 p m p.1 Rat.le_refl hlt
  have q4 := cvr_iff hR m4 p m p.1 Rat.le_refl hlt
  rw [hU] at q3
  rw [hI] at q4
  constructor
  · rw [Bool.eq_iff_iff, q3, Bool.or_eq_true, q1, q2]
  · rw [Bool.eq_iff_iff, q4, Bool.and_eq_true, q1, q2]
theorem lenS_msr (L : List (Rat × Rat)) : lenS L = msr (fun x y => y - x) L := rfl
theorem add_len : Add (fun x y => y - x) := fun x z y _ _ => by show z - x + (y - z) = y - x; grind
theorem msr_nonneg {μ : Rat → Rat → Rat} : ∀ {L : List (Rat × Rat)}, (∀ p ∈ L, 0 ≤ μ p.1 p.2) → 0 ≤ msr μ L
  | [], _ => Rat.le_refl
  | p :: L, h => by
    rw [msr_cons]
    exact Rat.add_nonneg (h p (List.mem_cons_self ..)) (msr_nonneg fun q m => h q (List.mem_cons_of_mem _ m))
end Dn
namespace Dn
open PySem PySem.Spec PyProof.Rows L2
abbrev S (l : List Nat) : Str := ⟨l.toArray⟩
@[simp] theorem tl_S (l : List Nat) : TL.tl (S l) = l := by simp [TL.tl]
@[simp] theorem S_cps (l : List Nat) : (S l).cps.toList = l := by simp
@[simp] theorem S_len (l : List Nat) : (S l).length = l.length := by simp [Str.length]
def evs {α : Type} : List α → List α
  | [] => []
  | [a] => [a]
  | a :: _ :: l => a :: evs l
end Dn
namespace Dn
open PySem PySem.Spec PyProof.Rows L2
open TL (tl numL)
def sp (s : Nat) : List Nat → List (List Nat)
  | [] => [[]]
  | c :: l => if c = s then [] :: sp s l else match sp s l with
    | [] => [[c]]
    | h :: t => (c :: h) :: t
theorem sp_none {s : Nat} : ∀ {l : List Nat}, s ∉ l → sp s l = [l]
  | [], _ => rfl
  | c :: l, h => by
    have h1 : c ≠ s := fun z => h (by rw [z]; exact List.mem_cons_self ..)
    rw [sp, if_neg h1, sp_none (fun z => h (List.mem_cons_of_mem _ z))]
end Dn
namespace Dn
open PySem PySem.Spec PyProof.Rows L2
def ix_parts : Nat → Option Nat
  | 3 => some 0
  | _ => none
@[simp] theorem ix_parts_3 : ix_parts 3 = some 0 := rfl
abbrev np_Share___init__ : Nat := 0
abbrev tbls : Sto := [.tbl ("Share.__init__" ++ ".<locals>." ++ "<lambda>")]
noncomputable def wc_divisor_1 : En → ER :=
  (dOp oGt (dVar 1) (dC (.int 0)))
noncomputable def wb_divisor_2 : En → SR :=
  (sPar 0 1 (aCons (dVar 1) (aCons (dOp oMod (dVar 0) (dVar 1)) aNil)))
noncomputable def g_divisor : En → SR :=
  (sSeq (sSetF 0 (dCB oAbs (aCons (dVar 0) aNil)))
  (sSeq (sSetF 1 (dCB oAbs (aCons (dVar 1) aNil)))
  (sSeq (sWhile wc_divisor_1 wb_divisor_2)
  (sRetV 0))))
noncomputable def F_divisor : List D → Sto → ER := fnD 2 2 g_divisor
noncomputable def g_is_less : En → SR :=
  (sRet (dOp oLt (dOp oMul (dOp oIx (dVar 0) (dC (.int 0))) (dOp oIx (dVar 1) (dC (.int 1)))) (dOp oMul (dOp oIx (dVar 1) (dC (.int 0))) (dOp oIx (dVar 0) (dC (.int 1))))))
noncomputable def F_is_less : List D → Sto → ER := fnD 2 2 g_is_less
noncomputable def fb_spans_where_1 (h : List (Option D) → D → D → Sto → ER) : En → SR :=
  (sIf (dHeld 1 h (aCons (dVar 3) (aCons (dVar 4) aNil))) (sIf (dAnd (dOp oGt (dCB oLen (aCons (dVar 2) aNil)) (dC (.int 0))) (dOp oEq (dOp oIx (dOp oIx (dVar 2) (dUn oNeg (dC (.int 1)))) (dC (.int 1))) (dVar 3))) (sSetI 2 (dTup (aCons (dOp oIx (dOp oIx (dVar 2) (dUn oNeg (dC (.int 1)))) (dC (.int 0))) (aCons (dVar 4) aNil))) (dUn oNeg (dC (.int 1)))) (sMt mAppend 2 (aCons (dTup (aCons (dVar 3) (aCons (dVar 4) aNil))) aNil))) sSkip)
theorem q_fb_spans_where_1 {h : List (Option D) → D → D → Sto → ER} {e : En} : fb_spans_where_1 h e = (sIf (dHeld 1 h (aCons (dVar 3) (aCons (dVar 4) aNil))) (sIf (dAnd (dOp oGt (dCB oLen (aCons (dVar 2) aNil)) (dC (.int 0))) (dOp oEq (dOp oIx (dOp oIx (dVar 2) (dUn oNeg (dC (.int 1)))) (dC (.int 1))) (dVar 3))) (sSetI 2 (dTup (aCons (dOp oIx (dOp oIx (dVar 2) (dUn oNeg (dC (.int 1)))) (dC (.int 0))) (aCons (dVar 4) aNil))) (dUn oNeg (dC (.int 1)))) (sMt mAppend 2 (aCons (dTup (aCons (dVar 3) (aCons (dVar 4) aNil))) aNil))) sSkip) e := rfl
noncomputable def g_spans_where (h : List (Option D) → D → D → Sto → ER) : En → SR :=
  (sSeq (sSet 2 (dLst aNil))
  (sSeq (sFor (dZip (aCons (dVar 0) (aCons (dSl oSl (dVar 0) (fun e => some ((dC (.int 1)) e)) (fun _ => none)) aNil))) (tgT 2 (tgsCons (tgN 3) (tgsCons (tgN 4) tgsNil))) (fb_spans_where_1 h))
  (sRetV 2)))
noncomputable def g_Share_spans : En → SR :=
  (sRet (dCB oList (aCons (dFld ix_parts (dVar 0)) aNil)))
noncomputable def F_Share_spans : List D → Sto → ER := fnD 1 1 g_Share_spans
noncomputable def g_law_mixed : En → SR :=
  (sSeq (sSetF 3 (dOp oMod (dOp oPow (dOp oAdd (dOp oAdd (dOp oMod (dVar 0) (dC (.int 2147483647))) (dOp oMul (dC (.int 40503)) (dVar 1))) (dC (.int 17))) (dC (.int 5))) (dC (.int 2147483647))))
  (sRet (dOp oMod (dOp oMod (dOp oMul (dOp oMod (dOp oMul (dVar 3) (dOp oAdd (dC (.int 48271)) (dVar 1))) (dC (.int 999999937))) (dC (.int 39373))) (dC (.int 2147483629))) (dVar 2))))
noncomputable def F_law_mixed : List D → Sto → ER := fnD 3 4 g_law_mixed
noncomputable def wc_law_divisor_1 : En → ER :=
  (dOp oNe (dVar 1) (dC (.int 0)))
theorem q_wc_law_divisor_1 {e : En} : wc_law_divisor_1 e = (dOp oNe (dVar 1) (dC (.int 0))) e := rfl
noncomputable def wb_law_divisor_2 : En → SR :=
  (sPar 0 1 (aCons (dVar 1) (aCons (dOp oMod (dVar 0) (dVar 1)) aNil)))
theorem q_wb_law_divisor_2 {e : En} : wb_law_divisor_2 e = (sPar 0 1 (aCons (dVar 1) (aCons (dOp oMod (dVar 0) (dVar 1)) aNil))) e := rfl
noncomputable def g_law_divisor : En → SR :=
  (sSeq (sWhile wc_law_divisor_1 wb_law_divisor_2)
  (sRetV 0))
noncomputable def F_law_divisor : List D → Sto → ER := fnD 2 2 g_law_divisor
noncomputable def g_law_less : En → SR :=
  (sRet (dOp oLt (dOp oMul (dOp oIx (dVar 0) (dC (.int 0))) (dOp oIx (dVar 1) (dC (.int 1)))) (dOp oMul (dOp oIx (dVar 1) (dC (.int 0))) (dOp oIx (dVar 0) (dC (.int 1))))))
noncomputable def F_law_less : List D → Sto → ER := fnD 2 2 g_law_less
noncomputable def g_law_by : En → SR :=
  (sRet (dOp oDiv (dOp oMul (dOp oIx (dVar 0) (dC (.int 0))) (dOp oPow (dC (.int 10)) (dC (.int 60)))) (dOp oIx (dVar 0) (dC (.int 1)))))
noncomputable def F_law_by : List D → Sto → ER := fnD 1 1 g_law_by
noncomputable def g_fraction_of : En → SR :=
  (sSeq (sIf (dOp oEq (dVar 1) (dC (.int 0))) (sRaise 1) sSkip)
  (sSeq (sSetF 2 (dCall F_divisor (aCons (dVar 0) (aCons (dVar 1) aNil))))
  (sSeq (sIf (dOp oLt (dVar 1) (dC (.int 0))) (sSetF 2 (dUn oNeg (dVar 2))) sSkip)
  (sRet (dTup (aCons (dOp oDiv (dVar 0) (dVar 2)) (aCons (dOp oDiv (dVar 1) (dVar 2)) aNil)))))))
noncomputable def F_fraction_of : List D → Sto → ER := fnD 2 3 g_fraction_of
noncomputable def g_ask_span : En → SR :=
  (sIf (dOr (dCall F_is_less (aCons (dVar 0) (aCons (dC (.tup [(.int 0), (.int 1)])) aNil))) (dOr (dCall F_is_less (aCons (dC (.tup [(.int 1), (.int 1)])) (aCons (dVar 1) aNil))) (dCall F_is_less (aCons (dVar 1) (aCons (dVar 0) aNil))))) (sRaise 2) sSkip)
noncomputable def F_ask_span : List D → Sto → ER := fnD 2 2 g_ask_span
noncomputable def wc_rising_places_1 : En → ER :=
  (dAnd (dOp oGt (dVar 4) (dC (.int 0))) (dCall F_is_less (aCons (dVar 3) (aCons (dOp oIx (dVar 1) (dOp oSub (dVar 4) (dC (.int 1)))) aNil))))
theorem q_wc_rising_places_1 {e : En} : wc_rising_places_1 e = (dAnd (dOp oGt (dVar 4) (dC (.int 0))) (dCall F_is_less (aCons (dVar 3) (aCons (dOp oIx (dVar 1) (dOp oSub (dVar 4) (dC (.int 1)))) aNil)))) e := rfl
noncomputable def wb_rising_places_2 : En → SR :=
  (sSetF 4 (dOp oSub (dVar 4) (dC (.int 1))))
theorem q_wb_rising_places_2 {e : En} : wb_rising_places_2 e = (sSetF 4 (dOp oSub (dVar 4) (dC (.int 1)))) e := rfl
noncomputable def fb_rising_places_3 : En → SR :=
  (sSeq (sSetF 4 (dCB oLen (aCons (dVar 1) aNil)))
  (sSeq (sWhile wc_rising_places_1 wb_rising_places_2)
  (sIf (dOr (dOp oEq (dVar 4) (dC (.int 0))) (dOp oNe (dOp oIx (dVar 1) (dOp oSub (dVar 4) (dC (.int 1)))) (dVar 3))) (sMt mInsert 1 (aCons (dVar 4) (aCons (dVar 3) aNil))) sSkip)))
theorem q_fb_rising_places_3 {e : En} : fb_rising_places_3 e = (sSeq (sSetF 4 (dCB oLen (aCons (dVar 1) aNil)))
  (sSeq (sWhile wc_rising_places_1 wb_rising_places_2)
  (sIf (dOr (dOp oEq (dVar 4) (dC (.int 0))) (dOp oNe (dOp oIx (dVar 1) (dOp oSub (dVar 4) (dC (.int 1)))) (dVar 3))) (sMt mInsert 1 (aCons (dVar 4) (aCons (dVar 3) aNil))) sSkip))) e := rfl
noncomputable def fb_rising_places_4 : En → SR :=
  (sFor (dIter (dVar 2)) (tgN 3) fb_rising_places_3)
theorem q_fb_rising_places_4 {e : En} : fb_rising_places_4 e = (sFor (dIter (dVar 2)) (tgN 3) fb_rising_places_3) e := rfl
noncomputable def g_rising_places : En → SR :=
  (sSeq (sSet 1 (dLst aNil))
  (sSeq (sFor (dIter (dVar 0)) (tgN 2) fb_rising_places_4)
  (sRetV 1)))
noncomputable def F_rising_places : List D → Sto → ER := fnD 1 5 g_rising_places
noncomputable def fb_covers_1 : En → SR :=
  (sIf (dAnd (dNot (dCall F_is_less (aCons (dVar 1) (aCons (dVar 3) aNil)))) (dNot (dCall F_is_less (aCons (dVar 4) (aCons (dVar 2) aNil))))) (sRet (dC (.bl true))) sSkip)
theorem q_fb_covers_1 {e : En} : fb_covers_1 e = (sIf (dAnd (dNot (dCall F_is_less (aCons (dVar 1) (aCons (dVar 3) aNil)))) (dNot (dCall F_is_less (aCons (dVar 4) (aCons (dVar 2) aNil))))) (sRet (dC (.bl true))) sSkip) e := rfl
noncomputable def g_covers : En → SR :=
  (sSeq (sFor (dIter (dVar 0)) (tgT 2 (tgsCons (tgN 3) (tgsCons (tgN 4) tgsNil))) fb_covers_1)
  (sRet (dC (.bl false))))
noncomputable def F_covers : List D → Sto → ER := fnD 3 5 g_covers
noncomputable def g_law_take : En → SR :=
  (sSeq (sSetI 0 (dOp oAdd (dOp oIx (dVar 0) (dC (.int 3))) (dC (.int 1))) (dC (.int 3)))
  (sSeq (sSetF 2 (dC (.int 0)))
  (sSeq (sIf (dAnd (dOp oEq (dOp oIx (dVar 0) (dC (.int 2))) (dC (.int 0))) (dOp oLt (dOp oIx (dVar 0) (dC (.int 1))) (dCB oLen (aCons (dOp oIx (dVar 0) (dC (.int 0))) aNil)))) (sSeq (sSetF 2 (dOp oIx (dOp oIx (dVar 0) (dC (.int 0))) (dOp oIx (dVar 0) (dC (.int 1)))))
  (sSeq (sSetI 0 (dOp oAdd (dOp oIx (dVar 0) (dC (.int 1))) (dC (.int 1))) (dC (.int 1)))
  (sSeq (sIf (dOp oLt (dVar 2) (dOp oPow (dC (.int 10)) (dC (.int 18)))) (sRet (dCall F_law_mixed (aCons (dVar 2) (aCons (dOp oIx (dVar 0) (dC (.int 3))) (aCons (dVar 1) aNil))))) sSkip)
  (sSetI 0 (dVar 2) (dC (.int 2)))))) sSkip)
  (sSeq (sIf (dOp oGt (dOp oIx (dVar 0) (dC (.int 2))) (dC (.int 0))) (sSeq (sSetF 3 (dOp oMod (dOp oIx (dVar 0) (dC (.int 2))) (dVar 1)))
  (sSeq (sSetI 0 (dOp oDiv (dOp oIx (dVar 0) (dC (.int 2))) (dVar 1)) (dC (.int 2)))
  (sRetV 3))) sSkip)
  (sSeq (sIf (dOp oGt (dCB oLen (aCons (dOp oIx (dVar 0) (dC (.int 0))) aNil)) (dC (.int 0))) (sSetF 2 (dOp oIx (dOp oIx (dVar 0) (dC (.int 0))) (dOp oMod (dOp oIx (dVar 0) (dC (.int 3))) (dCB oLen (aCons (dOp oIx (dVar 0) (dC (.int 0))) aNil))))) sSkip)
  (sRet (dCall F_law_mixed (aCons (dVar 2) (aCons (dOp oIx (dVar 0) (dC (.int 3))) (aCons (dVar 1) aNil))))))))))
noncomputable def F_law_take : List D → Sto → ER := fnD 2 4 g_law_take
noncomputable def g_law_lowest : En → SR :=
  (sSeq (sSetF 2 (dCall F_law_divisor (aCons (dVar 0) (aCons (dVar 1) aNil))))
  (sRet (dTup (aCons (dOp oDiv (dVar 0) (dVar 2)) (aCons (dOp oDiv (dVar 1) (dVar 2)) aNil)))))
noncomputable def F_law_lowest : List D → Sto → ER := fnD 2 3 g_law_lowest
noncomputable def ce_law_rising_1 : En → ER :=
  (dVar 4)
theorem q_ce_law_rising_1 {e : En} : ce_law_rising_1 e = (dVar 4) e := rfl
noncomputable def ct_law_rising_2 : En → ER :=
  (dCall F_law_less (aCons (dVar 4) (aCons (dVar 2) aNil)))
theorem q_ct_law_rising_2 {e : En} : ct_law_rising_2 e = (dCall F_law_less (aCons (dVar 4) (aCons (dVar 2) aNil))) e := rfl
noncomputable def fb_law_rising_3 : En → SR :=
  (sIf (dOp oNotIn (dVar 2) (dVar 1)) (sSeq (sSetF 3 (dCB oLen (aCons (dLc (dIterV 1) (tgN 4) ct_law_rising_2 ce_law_rising_1 [4]) aNil)))
  (sMt mInsert 1 (aCons (dVar 3) (aCons (dVar 2) aNil)))) sSkip)
theorem q_fb_law_rising_3 {e : En} : fb_law_rising_3 e = (sIf (dOp oNotIn (dVar 2) (dVar 1)) (sSeq (sSetF 3 (dCB oLen (aCons (dLc (dIterV 1) (tgN 4) ct_law_rising_2 ce_law_rising_1 [4]) aNil)))
  (sMt mInsert 1 (aCons (dVar 3) (aCons (dVar 2) aNil)))) sSkip) e := rfl
noncomputable def g_law_rising : En → SR :=
  (sSeq (sSet 1 (dLst aNil))
  (sSeq (sFor (dIter (dVar 0)) (tgN 2) fb_law_rising_3)
  (sRetV 1)))
noncomputable def F_law_rising : List D → Sto → ER := fnD 1 5 g_law_rising
noncomputable def g_plus : En → SR :=
  (sRet (dCallG F_fraction_of 2 0 [0, 1] [(.int 1)] (aCons (dOp oAdd (dOp oMul (dOp oIx (dVar 0) (dC (.int 0))) (dOp oIx (dVar 1) (dC (.int 1)))) (dOp oMul (dOp oIx (dVar 1) (dC (.int 0))) (dOp oIx (dVar 0) (dC (.int 1))))) (aCons (dOp oMul (dOp oIx (dVar 0) (dC (.int 1))) (dOp oIx (dVar 1) (dC (.int 1)))) aNil)) aNil))
noncomputable def F_plus : List D → Sto → ER := fnD 2 2 g_plus
noncomputable def g_minus : En → SR :=
  (sRet (dCallG F_fraction_of 2 0 [0, 1] [(.int 1)] (aCons (dOp oSub (dOp oMul (dOp oIx (dVar 0) (dC (.int 0))) (dOp oIx (dVar 1) (dC (.int 1)))) (dOp oMul (dOp oIx (dVar 1) (dC (.int 0))) (dOp oIx (dVar 0) (dC (.int 1))))) (aCons (dOp oMul (dOp oIx (dVar 0) (dC (.int 1))) (dOp oIx (dVar 1) (dC (.int 1)))) aNil)) aNil))
noncomputable def F_minus : List D → Sto → ER := fnD 2 2 g_minus
noncomputable def g_law_any_place : En → SR :=
  (sSeq (sSetF 1 (dOp oIx (dLst (aCons (dC (.int 2)) (aCons (dC (.int 12)) (aCons (dC (.int 60)) (aCons (dOp oPow (dC (.int 10)) (dC (.int 20))) aNil))))) (dCall F_law_take (aCons (dVar 0) (aCons (dC (.int 4)) aNil)))))
  (sRet (dCall F_law_lowest (aCons (dCall F_law_take (aCons (dVar 0) (aCons (dOp oAdd (dVar 1) (dC (.int 1))) aNil))) (aCons (dVar 1) aNil)))))
noncomputable def F_law_any_place : List D → Sto → ER := fnD 1 2 g_law_any_place
noncomputable def ce_law_swapped_1 : En → ER :=
  (dPut (dLst aNil))
theorem q_ce_law_swapped_1 {e : En} : ce_law_swapped_1 e = (dPut (dLst aNil)) e := rfl
noncomputable def fb_law_swapped_2 : En → SR :=
  (sSeq (sSet 8 (dOp oIx (dVar 5) (dCall F_law_take (aCons (dVar 0) (aCons (dVar 1) aNil)))))
  (sMt mInsert 8 (aCons (dCall F_law_take (aCons (dVar 0) (aCons (dOp oAdd (dCB oLen (aCons (dVar 8) aNil)) (dC (.int 1))) aNil))) (aCons (dTup (aCons (dCall F_law_lowest (aCons (dVar 6) (aCons (dVar 2) aNil))) (aCons (dCall F_law_lowest (aCons (dOp oAdd (dVar 6) (dC (.int 1))) (aCons (dVar 2) aNil))) aNil))) aNil))))
theorem q_fb_law_swapped_2 {e : En} : fb_law_swapped_2 e = (sSeq (sSet 8 (dOp oIx (dVar 5) (dCall F_law_take (aCons (dVar 0) (aCons (dVar 1) aNil)))))
  (sMt mInsert 8 (aCons (dCall F_law_take (aCons (dVar 0) (aCons (dOp oAdd (dCB oLen (aCons (dVar 8) aNil)) (dC (.int 1))) aNil))) (aCons (dTup (aCons (dCall F_law_lowest (aCons (dVar 6) (aCons (dVar 2) aNil))) (aCons (dCall F_law_lowest (aCons (dOp oAdd (dVar 6) (dC (.int 1))) (aCons (dVar 2) aNil))) aNil))) aNil)))) e := rfl
noncomputable def fb_law_swapped_3 : En → SR :=
  (sFor (dRng rng1 (aCons (dOp oIx (dLst (aCons (dC (.int 1)) (aCons (dC (.int 0)) (aCons (dC (.int 2)) aNil)))) (dOp oAdd (dCB oInt (aCons (dOp oEq (dVar 6) (dVar 3)) aNil)) (dOp oMul (dC (.int 2)) (dCB oInt (aCons (dOp oEq (dVar 6) (dVar 4)) aNil))))) aNil)) (tgN 7) fb_law_swapped_2)
theorem q_fb_law_swapped_3 {e : En} : fb_law_swapped_3 e = (sFor (dRng rng1 (aCons (dOp oIx (dLst (aCons (dC (.int 1)) (aCons (dC (.int 0)) (aCons (dC (.int 2)) aNil)))) (dOp oAdd (dCB oInt (aCons (dOp oEq (dVar 6) (dVar 3)) aNil)) (dOp oMul (dC (.int 2)) (dCB oInt (aCons (dOp oEq (dVar 6) (dVar 4)) aNil))))) aNil)) (tgN 7) fb_law_swapped_2) e := rfl
noncomputable def g_law_swapped : En → SR :=
  (sSeq (sSetF 2 (dOp oAdd (dC (.int 2)) (dCall F_law_take (aCons (dVar 0) (aCons (dC (.int 5)) aNil)))))
  (sSeq (sSetF 3 (dCall F_law_take (aCons (dVar 0) (aCons (dVar 2) aNil))))
  (sSeq (sSetF 4 (dOp oMod (dOp oAdd (dOp oAdd (dVar 3) (dC (.int 1))) (dCall F_law_take (aCons (dVar 0) (aCons (dOp oSub (dVar 2) (dC (.int 1))) aNil)))) (dVar 2)))
  (sSeq (sSetF 5 (dPut (dLc (dRng rng1 (aCons (dVar 1) aNil)) (tgN 6) (fun E => .val .P (.bl true) E.st) ce_law_swapped_1 [6])))
  (sSeq (sFor (dRng rng1 (aCons (dVar 2) aNil)) (tgN 6) fb_law_swapped_3)
  (sRetV 5))))))
noncomputable def F_law_swapped : List D → Sto → ER := fnD 2 9 g_law_swapped
noncomputable def fb_law_due_1 : En → SR :=
  (sMt mExtendT 1 (aCons (dVar 3) aNil))
theorem q_fb_law_due_1 {e : En} : fb_law_due_1 e = (sMt mExtendT 1 (aCons (dVar 3) aNil)) e := rfl
noncomputable def fb_law_due_2 : En → SR :=
  (sForX (dVar 2) (tgN 3) fb_law_due_1)
theorem q_fb_law_due_2 {e : En} : fb_law_due_2 e = (sForX (dVar 2) (tgN 3) fb_law_due_1) e := rfl
noncomputable def ce_law_due_3 : En → ER :=
  (dAnd (dNot (dCall F_law_less (aCons (dVar 4) (aCons (dVar 8) aNil)))) (dNot (dCall F_law_less (aCons (dVar 9) (aCons (dVar 5) aNil)))))
theorem q_ce_law_due_3 {e : En} : ce_law_due_3 e = (dAnd (dNot (dCall F_law_less (aCons (dVar 4) (aCons (dVar 8) aNil)))) (dNot (dCall F_law_less (aCons (dVar 9) (aCons (dVar 5) aNil))))) e := rfl
noncomputable def fb_law_due_4 : En → SR :=
  (sSeq (sSetF 7 (dLcX (dVar 2) (tgT 2 (tgsCons (tgN 8) (tgsCons (tgN 9) tgsNil))) (fun E => .val .P (.bl true) E.st) ce_law_due_3 [8, 9]))
  (sSetF 6 (dOp oAdd (dVar 6) (dCB oInt (aCons (dCB oAny (aCons (dVar 7) aNil)) aNil)))))
theorem q_fb_law_due_4 {e : En} : fb_law_due_4 e = (sSeq (sSetF 7 (dLcX (dVar 2) (tgT 2 (tgsCons (tgN 8) (tgsCons (tgN 9) tgsNil))) (fun E => .val .P (.bl true) E.st) ce_law_due_3 [8, 9]))
  (sSetF 6 (dOp oAdd (dVar 6) (dCB oInt (aCons (dCB oAny (aCons (dVar 7) aNil)) aNil))))) e := rfl
noncomputable def fb_law_due_5 : En → SR :=
  (sSeq (sSetF 6 (dC (.int 0)))
  (sSeq (sForX (dVar 0) (tgN 2) fb_law_due_4)
  (sIf (dOp oNe (dVar 6) (dC (.int 1))) (sRet (dC (.bl false))) sSkip)))
theorem q_fb_law_due_5 {e : En} : fb_law_due_5 e = (sSeq (sSetF 6 (dC (.int 0)))
  (sSeq (sForX (dVar 0) (tgN 2) fb_law_due_4)
  (sIf (dOp oNe (dVar 6) (dC (.int 1))) (sRet (dC (.bl false))) sSkip))) e := rfl
noncomputable def g_law_due : En → SR :=
  (sSeq (sSet 1 (dLst (aCons (dTup (aCons (dC (.int 0)) (aCons (dC (.int 1)) aNil))) (aCons (dTup (aCons (dC (.int 1)) (aCons (dC (.int 1)) aNil))) aNil))))
  (sSeq (sForX (dVar 0) (tgN 2) fb_law_due_2)
  (sFrz 1 (sSeq (sSet 1 (dCall F_law_rising (aCons (dVar 1) aNil)))
  (sFrz 1 (sSeq (sFor (dZip (aCons (dVar 1) (aCons (dSl oSl (dVar 1) (fun e => some ((dC (.int 1)) e)) (fun _ => none)) aNil))) (tgT 2 (tgsCons (tgN 4) (tgsCons (tgN 5) tgsNil))) fb_law_due_5)
  (sRet (dC (.bl true)))))))))
noncomputable def F_law_due : List D → Sto → ER := fnD 1 10 g_law_due
noncomputable def fb_Share_length_1 : En → SR :=
  (sSetF 1 (dCall F_plus (aCons (dVar 1) (aCons (dCall F_minus (aCons (dVar 3) (aCons (dVar 2) aNil))) aNil))))
theorem q_fb_Share_length_1 {e : En} : fb_Share_length_1 e = (sSetF 1 (dCall F_plus (aCons (dVar 1) (aCons (dCall F_minus (aCons (dVar 3) (aCons (dVar 2) aNil))) aNil)))) e := rfl
noncomputable def g_Share_length : En → SR :=
  (sSeq (sSetF 1 (dC (.tup [(.int 0), (.int 1)])))
  (sSeq (sFor (dIter (dFld ix_parts (dVar 0))) (tgT 2 (tgsCons (tgN 2) (tgsCons (tgN 3) tgsNil))) fb_Share_length_1)
  (sRetV 1)))
noncomputable def F_Share_length : List D → Sto → ER := fnD 1 4 g_Share_length
noncomputable def ce_law_dealt_1 : En → ER :=
  (dCall F_law_any_place (aCons (dVar 0) aNil))
theorem q_ce_law_dealt_1 {e : En} : ce_law_dealt_1 e = (dCall F_law_any_place (aCons (dVar 0) aNil)) e := rfl
noncomputable def ce_law_dealt_2 : En → ER :=
  (dPut (dLst aNil))
theorem q_ce_law_dealt_2 {e : En} : ce_law_dealt_2 e = (dPut (dLst aNil)) e := rfl
noncomputable def fb_law_dealt_3 : En → SR :=
  (sSeq (sSet 6 (dOp oIx (dVar 3) (dCall F_law_take (aCons (dVar 0) (aCons (dVar 1) aNil)))))
  (sSeq (sMt mInsert 6 (aCons (dCall F_law_take (aCons (dVar 0) (aCons (dOp oAdd (dCB oLen (aCons (dVar 6) aNil)) (dC (.int 1))) aNil))) (aCons (dTup (aCons (dVar 4) (aCons (dVar 5) aNil))) aNil)))
  (sIf (dOp oEq (dCall F_law_take (aCons (dVar 0) (aCons (dC (.int 6)) aNil))) (dC (.int 0))) (sMt mAppend 6 (aCons (dTup (aCons (dVar 4) (aCons (dVar 5) aNil))) aNil)) sSkip)))
theorem q_fb_law_dealt_3 {e : En} : fb_law_dealt_3 e = (sSeq (sSet 6 (dOp oIx (dVar 3) (dCall F_law_take (aCons (dVar 0) (aCons (dVar 1) aNil)))))
  (sSeq (sMt mInsert 6 (aCons (dCall F_law_take (aCons (dVar 0) (aCons (dOp oAdd (dCB oLen (aCons (dVar 6) aNil)) (dC (.int 1))) aNil))) (aCons (dTup (aCons (dVar 4) (aCons (dVar 5) aNil))) aNil)))
  (sIf (dOp oEq (dCall F_law_take (aCons (dVar 0) (aCons (dC (.int 6)) aNil))) (dC (.int 0))) (sMt mAppend 6 (aCons (dTup (aCons (dVar 4) (aCons (dVar 5) aNil))) aNil)) sSkip))) e := rfl
noncomputable def g_law_dealt : En → SR :=
  (sSeq (sSetF 2 (dCall F_law_rising (aCons (dOp oAdd (dLst (aCons (dTup (aCons (dC (.int 0)) (aCons (dC (.int 1)) aNil))) (aCons (dTup (aCons (dC (.int 1)) (aCons (dC (.int 1)) aNil))) aNil))) (dLc (dRng rng1 (aCons (dCall F_law_take (aCons (dVar 0) (aCons (dC (.int 11)) aNil))) aNil)) (tgN 7) (fun E => .val .P (.bl true) E.st) ce_law_dealt_1 [7])) aNil)))
  (sSeq (sSetF 3 (dPut (dLc (dRng rng1 (aCons (dVar 1) aNil)) (tgN 7) (fun E => .val .P (.bl true) E.st) ce_law_dealt_2 [7])))
  (sSeq (sFor (dZip (aCons (dVar 2) (aCons (dSl oSl (dVar 2) (fun e => some ((dC (.int 1)) e)) (fun _ => none)) aNil))) (tgT 2 (tgsCons (tgN 4) (tgsCons (tgN 5) tgsNil))) fb_law_dealt_3)
  (sRetV 3))))
noncomputable def F_law_dealt : List D → Sto → ER := fnD 2 8 g_law_dealt
noncomputable def g_law_spoilt : En → SR :=
  (sSeq (sSetF 3 (dCall F_law_take (aCons (dVar 0) (aCons (dCB oLen (aCons (dVar 2) aNil)) aNil))))
  (sSeq (sSetF 4 (dCall F_law_take (aCons (dVar 0) (aCons (dCB oLen (aCons (dVar 2) aNil)) aNil))))
  (sSeq (sSetF 5 (dCall F_law_take (aCons (dVar 0) (aCons (dCB oMax2 (aCons (dC (.int 1)) (aCons (dCB oLen (aCons (dOp oIx (dVar 2) (dVar 3)) aNil)) aNil))) aNil))))
  (sSeq (sSetF 6 (dCall F_law_any_place (aCons (dVar 0) aNil)))
  (sSeq (sIf (dAnd (dOp oEq (dVar 1) (dC (.int 1))) (dOp oGt (dCB oLen (aCons (dOp oIx (dVar 2) (dVar 3)) aNil)) (dC (.int 0)))) (sDrop (dMtX mPopAt (dOp oIx (dVar 2) (dVar 3)) (aCons (dVar 5) aNil))) sSkip)
  (sSeq (sIf (dAnd (dOp oEq (dVar 1) (dC (.int 2))) (dOp oGt (dCB oLen (aCons (dOp oIx (dVar 2) (dVar 3)) aNil)) (dC (.int 0)))) (sDrop (dMtX mAppend (dOp oIx (dVar 2) (dVar 4)) (aCons (dOp oIx (dOp oIx (dVar 2) (dVar 3)) (dVar 5)) aNil))) sSkip)
  (sSeq (sIf (dAnd (dOp oEq (dVar 1) (dC (.int 3))) (dOp oGt (dCB oLen (aCons (dOp oIx (dVar 2) (dVar 3)) aNil)) (dC (.int 0)))) (sSeq (sSetF 7 (dOp oIx (dOp oIx (dOp oIx (dVar 2) (dVar 3)) (dVar 5)) (dC (.int 0))))
  (sSetP (dOp oIx (dVar 2) (dVar 3)) (dTup (aCons (dMinK false F_law_by (aCons (dVar 7) (aCons (dVar 6) aNil))) (aCons (dMinK true F_law_by (aCons (dVar 7) (aCons (dVar 6) aNil))) aNil))) (dVar 5))) sSkip)
  (sSeq (sIf (dOp oEq (dVar 1) (dC (.int 4))) (sMt mAppend 2 (aCons (dPut (dCB oList (aCons (dOp oIx (dVar 2) (dVar 3)) aNil))) aNil)) sSkip)
  (sSeq (sIf (dOp oEq (dVar 1) (dC (.int 5))) (sMt mAppend 2 (aCons (dPut (dLst (aCons (dTup (aCons (dVar 6) (aCons (dVar 6) aNil))) aNil))) aNil)) sSkip)
  (sRetV 2))))))))))
noncomputable def F_law_spoilt : List D → Sto → ER := fnD 3 8 g_law_spoilt
noncomputable def fb_Share___init___1 : En → SR :=
  (sDrop (dCall F_ask_span (aCons (dVar 2) (aCons (dVar 3) aNil))))
theorem q_fb_Share___init___1 {e : En} : fb_Share___init___1 e = (sDrop (dCall F_ask_span (aCons (dVar 2) (aCons (dVar 3) aNil)))) e := rfl
noncomputable def lb_Share___init___2 : En → ER :=
  (dCall F_covers (aCons (dVar 1) (aCons (dVar 2) (aCons (dVar 3) aNil))))
theorem q_lb_Share___init___2 {e : En} : lb_Share___init___2 e = (dCall F_covers (aCons (dVar 1) (aCons (dVar 2) (aCons (dVar 3) aNil)))) e := rfl
noncomputable def g_Share___init__ : En → SR :=
  (sSeq (sFor (dIter (dVar 1)) (tgT 2 (tgsCons (tgN 2) (tgsCons (tgN 3) tgsNil))) fb_Share___init___1)
  (sFldS ix_parts (dVar 0) (dLamC np_Share___init__ ("Share.__init__" ++ ".<locals>." ++ "<lambda>") 5 (g_spans_where (fun ds x y st => lb_Share___init___2 ⟨cloE ds 2 3 x y, st⟩)) (dCall F_rising_places (aCons (dVar 1) aNil)))))
noncomputable def F_Share___init__ : List D → Sto → ER := fnD 2 4 g_Share___init__
noncomputable def g_Share_plus : En → SR :=
  (sRet (dMake 3 F_Share___init__ 2 0 [0, 1] [] (aCons (dOp oAdd (dFld ix_parts (dVar 0)) (dMeth 3 F_Share_spans 1 0 [0] [] (dVar 1) aNil aNil)) aNil) aNil))
noncomputable def F_Share_plus : List D → Sto → ER := fnD 2 2 g_Share_plus
noncomputable def fb_is_shared_1 : En → SR :=
  (sSeq (sSetF 1 (dCall F_plus (aCons (dVar 1) (aCons (dMeth 3 F_Share_length 1 0 [0] [] (dVar 3) aNil aNil) aNil))))
  (sSetF 2 (dMeth 3 F_Share_plus 2 0 [0, 1] [] (dVar 2) (aCons (dVar 3) aNil) aNil)))
theorem q_fb_is_shared_1 {e : En} : fb_is_shared_1 e = (sSeq (sSetF 1 (dCall F_plus (aCons (dVar 1) (aCons (dMeth 3 F_Share_length 1 0 [0] [] (dVar 3) aNil aNil) aNil))))
  (sSetF 2 (dMeth 3 F_Share_plus 2 0 [0, 1] [] (dVar 2) (aCons (dVar 3) aNil) aNil))) e := rfl
noncomputable def g_is_shared : En → SR :=
  (sSeq (sSetF 1 (dC (.tup [(.int 0), (.int 1)])))
  (sSeq (sSetF 2 (dMake 3 F_Share___init__ 2 0 [0, 1] [] (aCons (dLst aNil) aNil) aNil))
  (sSeq (sFor (dIter (dVar 0)) (tgN 3) fb_is_shared_1)
  (sRet (dAnd (dOp oEq (dVar 1) (dC (.tup [(.int 1), (.int 1)]))) (dOp oEq (dMeth 3 F_Share_length 1 0 [0] [] (dVar 2) aNil aNil) (dC (.tup [(.int 1), (.int 1)]))))))))
noncomputable def F_is_shared : List D → Sto → ER := fnD 1 4 g_is_shared
noncomputable def ce_law_1 : En → ER :=
  (dMake 3 F_Share___init__ 2 0 [0, 1] [] (aCons (dCB oList (aCons (dVar 12) aNil)) aNil) aNil)
theorem q_ce_law_1 {e : En} : ce_law_1 e = (dMake 3 F_Share___init__ 2 0 [0, 1] [] (aCons (dCB oList (aCons (dVar 12) aNil)) aNil) aNil) e := rfl
noncomputable def ce_law_2 : En → ER :=
  (dMeth 3 F_Share_spans 1 0 [0] [] (dVar 13) aNil aNil)
theorem q_ce_law_2 {e : En} : ce_law_2 e = (dMeth 3 F_Share_spans 1 0 [0] [] (dVar 13) aNil aNil) e := rfl
noncomputable def fb_law_3 : En → SR :=
  (sSeq (sSetF 10 (dCB oLen (aCons (dVar 9) aNil)))
  (sSeq (sSetF 11 (dCall F_is_shared (aCons (dVar 9) aNil)))
  (sIf (dOr (dNot (dIsi "bool" (dVar 11))) (dOr (dOp oNe (dVar 11) (dVar 7)) (dOp oNe (dCB oLen (aCons (dVar 9) aNil)) (dVar 10)))) (sRet (dC (.bl false))) sSkip)))
theorem q_fb_law_3 {e : En} : fb_law_3 e = (sSeq (sSetF 10 (dCB oLen (aCons (dVar 9) aNil)))
  (sSeq (sSetF 11 (dCall F_is_shared (aCons (dVar 9) aNil)))
  (sIf (dOr (dNot (dIsi "bool" (dVar 11))) (dOr (dOp oNe (dVar 11) (dVar 7)) (dOp oNe (dCB oLen (aCons (dVar 9) aNil)) (dVar 10)))) (sRet (dC (.bl false))) sSkip))) e := rfl
noncomputable def ce_law_4 : En → ER :=
  (dMeth 3 F_Share_spans 1 0 [0] [] (dVar 13) aNil aNil)
theorem q_ce_law_4 {e : En} : ce_law_4 e = (dMeth 3 F_Share_spans 1 0 [0] [] (dVar 13) aNil aNil) e := rfl
noncomputable def k_law_11 : En → SR :=
  (sRet (dOp oEq (dLc (dIter (dVar 5)) (tgN 13) (fun E => .val .P (.bl true) E.st) ce_law_4 [13]) (dVar 6)))
theorem q_k_law_11 {e : En} : k_law_11 e = (sRet (dOp oEq (dLc (dIter (dVar 5)) (tgN 13) (fun E => .val .P (.bl true) E.st) ce_law_4 [13]) (dVar 6))) e := rfl
noncomputable def k_law_10 : En → SR :=
  (sSeq (sFor (dIter (dLst (aCons (dVar 5) (aCons (dOp oAdd (dSl oSl (dVar 5) (fun e => some ((dVar 8) e)) (fun _ => none)) (dSl oSl (dVar 5) (fun _ => none) (fun e => some ((dVar 8) e)))) aNil)))) (tgN 9) fb_law_3)
  k_law_11)
theorem q_k_law_10 {e : En} : k_law_10 e = (sSeq (sFor (dIter (dLst (aCons (dVar 5) (aCons (dOp oAdd (dSl oSl (dVar 5) (fun e => some ((dVar 8) e)) (fun _ => none)) (dSl oSl (dVar 5) (fun _ => none) (fun e => some ((dVar 8) e)))) aNil)))) (tgN 9) fb_law_3)
  k_law_11) e := rfl
noncomputable def k_law_9 : En → SR :=
  (sSeq (sSetF 8 (dCall F_law_take (aCons (dVar 1) (aCons (dCB oMax2 (aCons (dC (.int 1)) (aCons (dCB oLen (aCons (dVar 4) aNil)) aNil))) aNil))))
  k_law_10)
theorem q_k_law_9 {e : En} : k_law_9 e = (sSeq (sSetF 8 (dCall F_law_take (aCons (dVar 1) (aCons (dCB oMax2 (aCons (dC (.int 1)) (aCons (dCB oLen (aCons (dVar 4) aNil)) aNil))) aNil))))
  k_law_10) e := rfl
noncomputable def k_law_8 : En → SR :=
  (sSeq (sSetF 7 (dCall F_law_due (aCons (dVar 4) aNil)))
  k_law_9)
theorem q_k_law_8 {e : En} : k_law_8 e = (sSeq (sSetF 7 (dCall F_law_due (aCons (dVar 4) aNil)))
  k_law_9) e := rfl
noncomputable def k_law_7 : En → SR :=
  (sSeq (sSetF 6 (dLc (dIter (dVar 5)) (tgN 13) (fun E => .val .P (.bl true) E.st) ce_law_2 [13]))
  k_law_8)
theorem q_k_law_7 {e : En} : k_law_7 e = (sSeq (sSetF 6 (dLc (dIter (dVar 5)) (tgN 13) (fun E => .val .P (.bl true) E.st) ce_law_2 [13]))
  k_law_8) e := rfl
noncomputable def k_law_6 : En → SR :=
  (sSeq (sSetF 5 (dLcX (dVar 4) (tgN 12) (fun E => .val .P (.bl true) E.st) ce_law_1 [12]))
  k_law_7)
theorem q_k_law_6 {e : En} : k_law_6 e = (sSeq (sSetF 5 (dLcX (dVar 4) (tgN 12) (fun E => .val .P (.bl true) E.st) ce_law_1 [12]))
  k_law_7) e := rfl
noncomputable def k_law_5 : En → SR :=
  (sSeq (sIf (dAnd (dOp oGt (dVar 3) (dC (.int 0))) (dOp oEq (dVar 2) (dC (.int 6)))) (sSetF 4 (dCall F_law_swapped (aCons (dVar 1) (aCons (dVar 3) aNil)))) (sIf (dOp oGt (dVar 3) (dC (.int 0))) (sSetF 4 (dCall F_law_spoilt (aCons (dVar 1) (aCons (dVar 2) (aCons (dCall F_law_dealt (aCons (dVar 1) (aCons (dVar 3) aNil))) aNil))))) sSkip))
  k_law_6)
theorem q_k_law_5 {e : En} : k_law_5 e = (sSeq (sIf (dAnd (dOp oGt (dVar 3) (dC (.int 0))) (dOp oEq (dVar 2) (dC (.int 6)))) (sSetF 4 (dCall F_law_swapped (aCons (dVar 1) (aCons (dVar 3) aNil)))) (sIf (dOp oGt (dVar 3) (dC (.int 0))) (sSetF 4 (dCall F_law_spoilt (aCons (dVar 1) (aCons (dVar 2) (aCons (dCall F_law_dealt (aCons (dVar 1) (aCons (dVar 3) aNil))) aNil))))) sSkip))
  k_law_6) e := rfl
noncomputable def k_law_4 : En → SR :=
  (sSeq (sSetF 4 (dPut (dLst aNil)))
  k_law_5)
theorem q_k_law_4 {e : En} : k_law_4 e = (sSeq (sSetF 4 (dPut (dLst aNil)))
  k_law_5) e := rfl
noncomputable def k_law_3 : En → SR :=
  (sSeq (sIf (dOp oEq (dCall F_law_take (aCons (dVar 1) (aCons (dC (.int 4)) aNil))) (dC (.int 0))) (sSetF 3 (dOp oAdd (dC (.int 5)) (dCall F_law_take (aCons (dVar 1) (aCons (dOp oIx (dLst (aCons (dC (.int 8)) (aCons (dC (.int 8)) (aCons (dC (.int 8)) (aCons (dC (.int 55)) aNil))))) (dCall F_law_take (aCons (dVar 1) (aCons (dC (.int 4)) aNil)))) aNil))))) sSkip)
  k_law_4)
theorem q_k_law_3 {e : En} : k_law_3 e = (sSeq (sIf (dOp oEq (dCall F_law_take (aCons (dVar 1) (aCons (dC (.int 4)) aNil))) (dC (.int 0))) (sSetF 3 (dOp oAdd (dC (.int 5)) (dCall F_law_take (aCons (dVar 1) (aCons (dOp oIx (dLst (aCons (dC (.int 8)) (aCons (dC (.int 8)) (aCons (dC (.int 8)) (aCons (dC (.int 55)) aNil))))) (dCall F_law_take (aCons (dVar 1) (aCons (dC (.int 4)) aNil)))) aNil))))) sSkip)
  k_law_4) e := rfl
noncomputable def k_law_2 : En → SR :=
  (sSeq (sSetF 3 (dCall F_law_take (aCons (dVar 1) (aCons (dC (.int 5)) aNil))))
  k_law_3)
theorem q_k_law_2 {e : En} : k_law_2 e = (sSeq (sSetF 3 (dCall F_law_take (aCons (dVar 1) (aCons (dC (.int 5)) aNil))))
  k_law_3) e := rfl
noncomputable def k_law_1 : En → SR :=
  (sSeq (sSetF 2 (dCall F_law_take (aCons (dVar 1) (aCons (dC (.int 9)) aNil))))
  k_law_2)
theorem q_k_law_1 {e : En} : k_law_1 e = (sSeq (sSetF 2 (dCall F_law_take (aCons (dVar 1) (aCons (dC (.int 9)) aNil))))
  k_law_2) e := rfl
noncomputable def g_law : En → SR :=
  (sSeq (sSetF 1 (dPut (dLst (aCons (dCB oList (aCons (dVar 0) aNil)) (aCons (dC (.int 0)) (aCons (dC (.int 0)) (aCons (dC (.int 0)) aNil)))))))
  k_law_1)
noncomputable def F_law : List D → Sto → ER := fnD 1 14 g_law
end Dn
namespace Dn
open PySem PySem.Spec PyProof.Rows L2
theorem divisor_eq (a b : Int) (st : Sto) : F_divisor [.int a, .int b] st = .val .P (.int (Int.gcd a b)) st := by
  simp [F_divisor, g_divisor, wc_divisor_1, wb_divisor_2, absI, gcd_while]
  rfl
theorem fraction_of_eq {t b : Int} (hb : b ≠ 0) (h : b.natAbs.log2 < 9000) (st : Sto) : F_fraction_of [.int t, .int b] st = .val .P (dF (Rat.divInt t b)) st := by
  obtain ⟨h1, h2⟩ := sgd_log (t := t) hb h
  obtain ⟨e1, e2⟩ := low_num t b hb
  unfold dF
  rw [← e1, ← e2]
  by_cases hn : b < 0
  · simp [F_fraction_of, g_fraction_of, hb, divisor_eq, hn, h1, h2]
  · simp [F_fraction_of, g_fraction_of, hb, divisor_eq, hn, h1, h2]
theorem plus_eq {a b : Rat} {m n : Nat} (ha : Sz m a) (hb : Sz n b) (h : m + n < 9000) (st : Sto) : F_plus [dF a, dF b] st = .val .P (dF (a + b)) st := by
  have m1 := bit_log2 ha.1 hb.den (by omega)
  have m2 := bit_log2 hb.1 ha.den (by omega)
  have m3 := bit_log2 ha.den hb.den (by omega)
  have f := fun t => fraction_of_eq (t := t) (den2 a b) (bit_log (bit_mul ha.den hb.den) h) st
  rw [q_add]
  simp only [Int.natAbs_natCast] at m1 m2 m3
  simp [F_plus, g_plus, m1, m2, m3, f]
theorem minus_eq {a b : Rat} {m n : Nat} (ha : Sz m a) (hb : Sz n b) (h : m + n < 9000) (st : Sto) : F_minus [dF a, dF b] st = .val .P (dF (a - b)) st := by
  have m1 := bit_log2 ha.1 hb.den (by omega)
  have m2 := bit_log2 hb.1 ha.den (by omega)
  have m3 := bit_log2 ha.den hb.den (by omega)
  have f := fun t => fraction_of_eq (t := t) (den2 a b) (bit_log (bit_mul ha.den hb.den) h) st
  rw [q_sub]
  simp only [Int.natAbs_natCast] at m1 m2 m3
  simp [F_minus, g_minus, m1, m2, m3, f]
theorem is_less_eq {a b : Rat} {m n : Nat} (ha : Sz m a) (hb : Sz n b) (h : m + n < 900000) (st : Sto) : F_is_less [dF a, dF b] st = .val .P (.bl (decide (a < b))) st := by
  have m1 := bit_log2 ha.1 hb.den (by omega)
  have m2 := bit_log2 hb.1 ha.den (by omega)
  simp only [Int.natAbs_natCast] at m1 m2
  simp [F_is_less, g_is_less, m1, m2, lt_num]
theorem fmod_in (x : Int) {s : Int} (h : 0 < s) : 0 ≤ x.fmod s ∧ x.fmod s < s := ⟨Int.fmod_nonneg_of_pos x h, Int.fmod_lt_of_pos x h⟩
theorem mixed_ex (c k n : Int) (h0 : 0 ≤ k) (h1 : k ≤ 1000000) (hn : 1 ≤ n) : ∃ r : Int, 0 ≤ r ∧ r < n ∧ ∀ st, F_law_mixed [.int c, .int k, .int n] st = .val .P (.int r) st := by
  have hc := fmod_in c (s := 2147483647) (by decide)
  have q1 : Nat.log2 40503 + k.natAbs.log2 < 1000000 := mul_ok (i := 40503) (a := 20) (b := 30) (by decide) (by omega) (by decide) (by decide) (by decide)
  generalize hb : (c.fmod 2147483647 + 40503 * k + 17) = bb
  have q4 : bb.natAbs < 18446744073709551616 := by omega
  have hm := fmod_in (bb ^ 5) (s := 2147483647) (by decide)
  generalize hw : (bb ^ 5).fmod 2147483647 = w at hm
  have q5 : w.natAbs.log2 + (48271 + k).natAbs.log2 < 1000000 := mul_ok (a := 40) (b := 30) (by omega) (by omega) (by decide) (by decide) (by decide)
  have h2 := fmod_in (w * (48271 + k)) (s := 999999937) (by decide)
  generalize hv : (w * (48271 + k)).fmod 999999937 = v at h2
  have q6 : v.natAbs.log2 + Nat.log2 39373 < 1000000 := mul_ok (j := 39373) (a := 40) (b := 20) (by omega) (by decide) (by decide) (by decide) (by decide)
  have hr := fmod_in ((v * 39373).fmod 2147483629) (s := n) (by omega)
  have nn : ¬ n = 0 := by omega
  refine ⟨_, hr.1, hr.2, fun st => ?_⟩
  simp -implicitDefEqProofs [F_law_mixed, g_law_mixed, q1, hb, q4, hw, q5, hv, q6, nn]
def TBox (p N : Nat) (st : Sto) : Prop := ∃ (ns : List Int) (i a c : Int), st[p]? = some (.lst [.lst (ns.map .int), .int i, .int a, .int c]) ∧ 0 ≤ i ∧ 0 ≤ a ∧ 0 ≤ c ∧ c ≤ N ∧ ns.length ≤ 63
def Rest1 (p : Nat) (st st' : Sto) : Prop := st'.length = st.length ∧ ∀ m, m ≠ p → st'[m]? = st[m]?
theorem Rest1.refl {p : Nat} {st : Sto} : Rest1 p st st := ⟨rfl, fun _ _ => rfl⟩
theorem Rest1.trans {p : Nat} {s t u : Sto} (h : Rest1 p s t) (k : Rest1 p t u) : Rest1 p s u := ⟨k.1.trans h.1, fun m a => (k.2 m a).trans (h.2 m a)⟩
theorem Rest1.set {p : Nat} {s : Sto} {o : Ob} : Rest1 p s (s.set p o) := ⟨by simp, fun m h => List.getElem?_set_ne (Ne.symm h)⟩
theorem TBox.up {p N M : Nat} {st : Sto} (h : TBox p N st) (k : N ≤ M) : TBox p M st := by
  obtain ⟨ns, i, a, c, h1, h2, h3, h4, h5, h6⟩ := h
  exact ⟨ns, i, a, c, h1, h2, h3, h4, by omega, h6⟩
theorem atI_int {ns : List Int} {i : Int} (h0 : 0 ≤ i) (h : i < ns.length) : ∃ z, atI (ns.map D.int) i = some (.int z) := by
  have hi : i.toNat < ns.length := by omega
  refine ⟨ns[i.toNat], ?_⟩
  have := atI_nat (xs := ns.map D.int) (j := i.toNat) (v := .int ns[i.toNat]) (by simp [hi])
  rwa [Int.toNat_of_nonneg h0] at this
theorem take_ok {p N : Nat} {st : Sto} {n : Int} (B : TBox p N st) (h1 : 1 ≤ n) (h2 : n < 2 ^ 1000) (hN : N ≤ 100000) : ∃ r st', F_law_take [.ptr p, .int n] st = .val .P (.int r) st' ∧ 0 ≤ r ∧ r < n ∧ TBox p (N + 1) st' ∧ Rest1 p st st' := by
  obtain ⟨ns, i, a, c, hp, i0, a0, c0, cN, nl⟩ := B
  have lp : p < st.length := (List.getElem?_eq_some_iff.mp hp).1
  have sp : ∀ (s : Sto) (x : Ob), s.length = st.length → (s.set p x)[p]? = some x := fun s x h => List.getElem?_set_self (by omega)
  have hn0 : ¬ n = 0 := by omega
  have hlog : n.natAbs.log2 < 9000 := bit_log (m := 1000) (by omega) (by decide)
  have a3 : ∀ W X Y Z : D, atI [W, X, Y, Z] 3 = some Z := fun W X Y Z => rfl
  have a2 : ∀ W X Y Z : D, atI [W, X, Y, Z] 2 = some Y := fun W X Y Z => rfl
  have a1 : ∀ W X Y Z : D, atI [W, X, Y, Z] 1 = some X := fun W X Y Z => rfl
  have a0' : ∀ W X Y Z : D, atI [W, X, Y, Z] 0 = some W := fun W X Y Z => rfl
  have i3 : ixN 4 3 = some 3 := by decide
  have i2 : ixN 4 2 = some 2 := by decide
  have i1 : ixN 4 1 = some 1 := by decide
  by_cases ha : 0 < a
  · have ha0 : ¬ a = 0 := by omega
    refine ⟨a.fmod n, (st.set p (.lst [.lst (ns.map .int), .int i, .int a, .int (c + 1)])).set p (.lst [.lst (ns.map .int), .int i, .int (a.fdiv n), .int (c + 1)]), ?_, (fmod_in a h1).1, (fmod_in a h1).2, ⟨ns, i, a.fdiv n, c + 1, sp _ _ (by simp), i0, Int.fdiv_nonneg a0 (by omega), by omega, by omega, nl⟩, Rest1.set.trans Rest1.set⟩
    simp -implicitDefEqProofs [F_law_take, g_law_take, hp, a0', a1, a2, a3, i1, i2, i3, sp, ha, ha0, hn0, hlog]
  · have ha0 : a = 0 := by omega
    subst ha0
    by_cases hi : i < ns.length
    · obtain ⟨z, hz⟩ := atI_int i0 hi
      by_cases hb : z < 1000000000000000000
      · obtain ⟨r, r0, r1, hr⟩ := mixed_ex z (c + 1) n (by omega) (by omega) h1
        refine ⟨r, (st.set p (.lst [.lst (ns.map .int), .int i, .int 0, .int (c + 1)])).set p (.lst [.lst (ns.map .int), .int (i + 1), .int 0, .int (c + 1)]), ?_, r0, r1, ⟨ns, i + 1, 0, c + 1, sp _ _ (by simp), by omega, by omega, by omega, by omega, nl⟩, Rest1.set.trans Rest1.set⟩
        simp -implicitDefEqProofs [F_law_take, g_law_take, hp, a0', a1, a2, a3, i1, i2, i3, sp, hi, hz, hb, hr]
      · have z0 : 0 < z := by omega
        refine ⟨z.fmod n, (((st.set p (.lst [.lst (ns.map .int), .int i, .int 0, .int (c + 1)])).set p (.lst [.lst (ns.map .int), .int (i + 1), .int 0, .int (c + 1)])).set p (.lst [.lst (ns.map .int), .int (i + 1), .int z, .int (c + 1)])).set p (.lst [.lst (ns.map .int), .int (i + 1), .int (z.fdiv n), .int (c + 1)]), ?_, (fmod_in z h1).1, (fmod_in z h1).2, ⟨ns, i + 1, z.fdiv n, c + 1, sp _ _ (by simp), by omega, Int.fdiv_nonneg (by omega) (by omega), by omega, by omega, nl⟩, ((Rest1.set.trans Rest1.set).trans Rest1.set).trans Rest1.set⟩
        simp -implicitDefEqProofs [F_law_take, g_law_take, hp, a0', a1, a2, a3, i1, i2, i3, sp, hi, hz, hb, z0, hn0, hlog]
    · by_cases hl : 0 < ns.length
      · have hL : (0 : Int) < (ns.length : Int) := by omega
        have hfm := fmod_in (c + 1) hL
        obtain ⟨z, hz⟩ := atI_int hfm.1 hfm.2
        obtain ⟨r, r0, r1, hr⟩ := mixed_ex z (c + 1) n (by omega) (by omega) h1
        have hL0 : ¬ (ns.length : Int) = 0 := by omega
        refine ⟨r, st.set p (.lst [.lst (ns.map .int), .int i, .int 0, .int (c + 1)]), ?_, r0, r1, ⟨ns, i, 0, c + 1, sp _ _ rfl, by omega, by omega, by omega, by omega, nl⟩, Rest1.set⟩
        have hln : ¬ ns = [] := fun h => by simp [h] at hl
        simp -implicitDefEqProofs [F_law_take, g_law_take, hp, a0', a1, a2, a3, i1, i2, i3, sp, hi, hz, hr, hl, hL, hL0, hln]
      · have hln : ns = [] := List.length_eq_zero_iff.mp (by omega)
        subst hln
        obtain ⟨r, r0, r1, hr⟩ := mixed_ex 0 (c + 1) n (by omega) (by omega) h1
        refine ⟨r, st.set p (.lst [.lst (([] : List Int).map .int), .int i, .int 0, .int (c + 1)]), ?_, r0, r1, ⟨[], i, 0, c + 1, sp _ _ rfl, by omega, by omega, by omega, by omega, nl⟩, Rest1.set⟩
        have hi' : ¬ i < 0 := by omega
        simp -implicitDefEqProofs [F_law_take, g_law_take, hp, a0', a1, a2, a3, i1, i2, i3, sp, hi', hr]
theorem div_wh (st : Sto) : ∀ (b a : Nat), ∃ n, whN wc_law_divisor_1 wb_law_divisor_2 n ⟨[.val (.int a), .val (.int b)], st⟩ = some (.nx ⟨[.val (.int (Nat.gcd a b)), .val (.int 0)], st⟩) := by
  intro b
  induction b using Nat.strongRecOn with
  | ind b ih =>
    intro a
    by_cases hb : b = 0
    · subst hb
      refine ⟨1, ?_⟩
      rw [e_wh (x := false) (m := .P) (st1 := st) (by simp [q_wc_law_divisor_1])]
      simp
    · obtain ⟨n, hn⟩ := ih (a % b) (Nat.mod_lt _ (Nat.pos_of_ne_zero hb)) b
      refine ⟨n + 1, ?_⟩
      rw [e_wh (x := true) (m := .P) (st1 := st) (by simp [q_wc_law_divisor_1]; omega)]
      have hm : (a : Int).fmod (b : Int) = ((a % b : Nat) : Int) := by
        rw [Int.fmod_eq_emod_of_nonneg _ (Int.natCast_nonneg b)]
        rfl
      have hb' : ¬ (b : Int) = 0 := by omega
      simp only [if_true, q_wb_law_divisor_2, e_sPar, e_aCons, e_aNil, e_dVar, e_dOp, List.getElem?_cons_succ, List.getElem?_cons_zero, ER.bind_val, e_oMod_1, cons_P, acons_ok, ne_eq, hb', not_false_eq_true, Bool.and_self, List.set_cons_zero, List.set_cons_succ, hm]
      rw [hn]
      have : Nat.gcd a b = Nat.gcd b (a % b) := by
        rw [Nat.gcd_comm a b, Nat.gcd_rec b a, Nat.gcd_comm]
      rw [this]
theorem law_divisor_eq {a b : Int} (ha : 0 ≤ a) (hb : 0 ≤ b) (st : Sto) : F_law_divisor [.int a, .int b] st = .val .P (.int (Int.gcd a b)) st := by
  obtain ⟨n, h⟩ := div_wh st b.toNat a.toNat
  rw [Int.toNat_of_nonneg ha, Int.toNat_of_nonneg hb] at h
  have hw := sWhile_eq h
  have : Nat.gcd a.toNat b.toNat = Int.gcd a b := by unfold Int.gcd; congr 1 <;> omega
  rw [this] at hw
  simp [F_law_divisor, g_law_divisor, hw]
theorem lowest_eq {t b : Int} (ht : 0 ≤ t) (hb : 0 < b) (h : b.natAbs.log2 < 9000) (st : Sto) : F_law_lowest [.int t, .int b] st = .val .P (dF (Rat.divInt t b)) st := by
  obtain ⟨h1, h2⟩ := sgd_log (t := t) (show b ≠ 0 by omega) h
  obtain ⟨e1, e2⟩ := low_num t b (by omega)
  rw [if_neg (by omega)] at e1 e2
  have hd := law_divisor_eq ht (show 0 ≤ b by omega)
  unfold dF
  rw [← e1, ← e2]
  simp [F_law_lowest, g_law_lowest, hd, h1, h2]
theorem ask_span_eq {x y : Rat} {s : Nat} (hx : Sz (s + 1) x) (hy : Sz (s + 1) y) (hs : s ≤ 4000) (st : Sto) : F_ask_span [dF x, dF y] st = if x < 0 ∨ 1 < y ∨ y < x then .exc 2 [] st else .val .P .non st := by
  have l1 := is_less_eq hx (sz0 (n := s)) (by omega) st
  have l2 := is_less_eq (sz1 (n := s)) hy (by omega) st
  have l3 := is_less_eq hy hx (by omega) st
  by_cases c1 : x < 0
  · simp [F_ask_span, g_ask_span, l1, c1]
  · by_cases c2 : 1 < y
    · simp [F_ask_span, g_ask_span, l1, l2, c1, c2]
    · by_cases c3 : y < x <;> simp [F_ask_span, g_ask_span, l1, l2, l3, c1, c2, c3]
theorem cut_to {α : Type} (l : List α) {a : Int} (h : 0 ≤ a) : cutG l none (some a) = l.take a.toNat := by
  have : ¬ a < 0 := by omega
  simp [cutG, HT.sIx, this]
theorem cut_from {α : Type} (l : List α) {a : Int} (h : 0 ≤ a) : cutG l (some a) none = l.drop a.toNat := by
  have : ¬ a < 0 := by omega
  simp only [cutG, HT.sIx, this, if_false]
  by_cases c : a.toNat ≤ l.length
  · rw [Nat.min_eq_left c, List.take_of_length_le (by rw [List.length_drop]; omega)]
  · rw [Nat.min_eq_right (by omega), List.drop_of_length_le (Nat.le_refl _), List.drop_of_length_le (by omega)]
    simp
theorem at_last {α : Type} {l : List α} {a : α} : atI (l ++ [a]) (-1) = some a := by
  have h1 : (1 : Int) ≤ (l.length : Int) + 1 := by omega
  have h2 : (-1 + ((l.length : Int) + 1)).toNat = l.length := by omega
  simp [atI, ixN, h1, h2]
theorem at_dF0 {l : List Rat} {i : Nat} (h : i < l.length) : atI (l.map dF) (i : Int) = some (dF l[i]) := by
  have h1 : ¬ (i : Int) < 0 := by omega
  simp [atI, ixN, h1, h]
def upto (q : Rat) (l : List Rat) : Nat := if q ∈ l then ahead q l + 1 else ahead q l
theorem upto_le {q : Rat} {l : List Rat} (hR : Ris l) : upto q l ≤ l.length := by
  have := ahead_le q l
  unfold upto
  split
  · rename_i m
    have hm := m
    by_cases c : ahead q l < l.length
    · omega
    · exfalso
      obtain ⟨j, hj, e⟩ := List.mem_iff_getElem.mp hm
      have := ahead_lt (q := q) (l := l) (i := j) (by omega) hj
      rw [e] at this; grind
  · exact this
theorem mem_ahead' {q : Rat} {l : List Rat} (h : Ris l) (m : q ∈ l) : ∃ c : ahead q l < l.length, l[ahead q l] = q := by
  have hle := ahead_le q l
  have hu := upto_le (q := q) h
  unfold upto at hu
  rw [if_pos m] at hu
  refine ⟨by omega, ?_⟩
  have g := ahead_ge (q := q) (l := l) (by omega)
  obtain ⟨j, hj, e⟩ := List.mem_iff_getElem.mp m
  have hj2 : ¬ j < ahead q l := fun z => by have := ahead_lt (q := q) z hj; rw [e] at this; grind
  by_cases z : j = ahead q l
  · subst z; exact e
  · have := List.pairwise_iff_getElem.mp h (ahead q l) j (by omega) hj (by omega)
    grind
theorem upto_lt {q : Rat} {l : List Rat} (hR : Ris l) {i : Nat} (h : i < l.length) (hi : upto q l ≤ i) : q < l[i] := by
  have hle := ahead_le q l
  unfold upto at hi
  by_cases m : q ∈ l
  · rw [if_pos m] at hi
    obtain ⟨c, e⟩ := mem_ahead' hR m
    have := List.pairwise_iff_getElem.mp hR (ahead q l) i c h (by omega)
    rw [e] at this; exact this
  · rw [if_neg m] at hi
    have c : ahead q l < l.length := by omega
    have g := ahead_ge (q := q) c
    have ne : l[ahead q l] ≠ q := fun e => m (e ▸ List.getElem_mem c)
    by_cases z : i = ahead q l
    · subst z; grind
    · have := List.pairwise_iff_getElem.mp hR (ahead q l) i c h (by omega)
      grind
theorem upto_ge {q : Rat} {l : List Rat} (hR : Ris l) {i : Nat} (h : i < l.length) (hi : i < upto q l) : ¬ q < l[i] := by
  unfold upto at hi
  by_cases m : q ∈ l
  · rw [if_pos m] at hi
    by_cases z : i < ahead q l
    · have := ahead_lt (q := q) z h; grind
    · have : i = ahead q l := by omega
      subst this
      obtain ⟨c, e⟩ := mem_ahead' hR m
      rw [e]; grind
  · rw [if_neg m] at hi
    have := ahead_lt (q := q) hi h; grind
theorem places_wh {l : List Rat} {q : Rat} {s : Nat} (hR : Ris l) (hl : ∀ a ∈ l, Sz s a) (hq : Sz s q) (hs : s ≤ 4000) (e0 e2 : SL) (st : Sto) : ∀ (k i : Nat), i = upto q l + k → i ≤ l.length → ∃ n, whN wc_rising_places_1 wb_rising_places_2 n ⟨[e0, .own (l.map dF), e2, .val (dF q), .val (.int i)], st⟩ = some (.nx ⟨[e0, .own (l.map dF), e2, .val (dF q), .val (.int (upto q l))], st⟩) := by
  intro k
  induction k with
  | zero =>
    intro i hi hil
    have hi : i = upto q l := by omega
    subst hi
    refine ⟨1, ?_⟩
    rw [e_wh (x := false) (m := .P) (st1 := st) ?_]
    · simp
    · cases hu : upto q l with
      | zero => simp -implicitDefEqProofs [q_wc_rising_places_1]
      | succ j =>
        have c : j < l.length := by omega
        have a1 := at_dF0 c
        have a2 := is_less_eq hq (hl _ (List.getElem_mem c)) (by omega) st
        have a3 := upto_ge (q := q) hR c (by omega)
        have a4 : (0 : Int) < (j : Int) + 1 := by omega
        have a5 : (j : Int) + 1 - 1 = (j : Int) := by omega
        simp -implicitDefEqProofs [q_wc_rising_places_1, a1, a2, a3, a4, a5]
  | succ k ih =>
    intro i hi hil
    obtain ⟨n, hn⟩ := ih (i - 1) (by omega) (by omega)
    refine ⟨n + 1, ?_⟩
    obtain ⟨j, rfl⟩ : ∃ j, i = j + 1 := ⟨i - 1, by omega⟩
    have c : j < l.length := by omega
    have a1 := at_dF0 c
    have a2 := is_less_eq hq (hl _ (List.getElem_mem c)) (by omega) st
    have a3 := upto_lt (q := q) hR c (by omega)
    have a4 : (0 : Int) < (j : Int) + 1 := by omega
    have a5 : (j : Int) + 1 - 1 = (j : Int) := by omega
    rw [e_wh (x := true) (m := .P) (st1 := st) ?_]
    · simp -implicitDefEqProofs [q_wb_rising_places_2, a5]
      exact hn
    · simp -implicitDefEqProofs [q_wc_rising_places_1, a1, a2, a3, a4, a5]
theorem places_body {l : List Rat} {q : Rat} {s : Nat} (hR : Ris l) (hl : ∀ a ∈ l, Sz s a) (hq : Sz s q) (hs : s ≤ 4000) (hn : l.length ≤ 900000) (e0 e2 e4 : SL) (st : Sto) : ∃ e4', fb_rising_places_3 ⟨[e0, .own (l.map dF), e2, .val (dF q), e4], st⟩ = .nx ⟨[e0, .own ((ins q l).map dF), e2, .val (dF q), e4'], st⟩ := by
  obtain ⟨n, h⟩ := places_wh hR hl hq hs e0 e2 st (l.length - upto q l) l.length (by have := upto_le (q := q) hR; omega) (Nat.le_refl _)
  have hw := sWhile_eq h
  have hle := ahead_le q l
  refine ⟨.val (.int (upto q l)), ?_⟩
  by_cases m : q ∈ l
  · have hu : upto q l = ahead q l + 1 := by simp [upto, m]
    obtain ⟨c, e⟩ := mem_ahead' hR m
    have a1 := at_dF0 c
    rw [e] at a1
    have a5 : (ahead q l : Int) + 1 - 1 = (ahead q l : Int) := by omega
    have a6 : ¬ (ahead q l : Int) + 1 = 0 := by omega
    rw [hu] at hw ⊢
    simp -implicitDefEqProofs [q_fb_rising_places_3, hw, ins, m, a1, a5, a6]
  · have hu : upto q l = ahead q l := by simp [upto, m]
    rw [hu] at hw ⊢
    have i1 : (ahead q l : Int) < 9223372036854775808 := by omega
    have i2 : l.length < 1000000 := by omega
    cases hz : ahead q l with
    | zero =>
      rw [hz] at hw
      simp only [Int.ofNat_zero, Int.natCast_zero] at hw
      simp -implicitDefEqProofs [q_fb_rising_places_3, hw, ins, m, hz, mInsert, i2]
    | succ j =>
      have c : j < l.length := by omega
      have a1 := at_dF0 c
      have a5 : (j : Int) + 1 - 1 = (j : Int) := by omega
      have a6 : ¬ (j : Int) + 1 = 0 := by omega
      have ne : ¬ l[j] = q := fun e => m (e ▸ List.getElem_mem c)
      rw [hz] at hw i1
      have a7 : (0 : Int) ≤ (j : Int) + 1 := by omega
      have a8 : ((j : Int) + 1).toNat = j + 1 := by omega
      simp only [Int.natCast_add, Int.natCast_one, Int.cast_ofNat_Int] at hw i1
      simp -implicitDefEqProofs [q_fb_rising_places_3, hw, ins, m, hz, a1, a5, a6, ne, mInsert, i1, i2, a7, a8]
def SzL (s : Nat) (L : List (Rat × Rat)) : Prop := ∀ p ∈ L, Sz s p.1 ∧ Sz s p.2
theorem SzL.ends {s : Nat} {L : List (Rat × Rat)} (h : SzL s L) : ∀ a ∈ endsOf L, Sz s a := fun a m => by
  obtain ⟨p, hp, z⟩ := mem_ends.mp m
  rcases z with rfl | rfl
  · exact (h p hp).1
  · exact (h p hp).2
theorem SzL.of {s : Nat} {L M : List (Rat × Rat)} (h : SzL s L) (k : ∀ p ∈ M, p.1 ∈ endsOf L ∧ p.2 ∈ endsOf L) : SzL s M := fun p m => ⟨h.ends _ (k p m).1, h.ends _ (k p m).2⟩
theorem SzL.app {s : Nat} {L M : List (Rat × Rat)} (h : SzL s L) (k : SzL s M) : SzL s (L ++ M) := fun p m => (List.mem_append.mp m).elim (h p) (k p)
theorem places_all {s : Nat} (hs : s ≤ 4000) {e0 : SL} {st : Sto} {lp : (D → En → SR) → List D → En → SR} (hlp : Lp lp st) : ∀ (L : List (Rat × Rat)) (l : List Rat) (x2 x3 x4 : SL), Ris l → (∀ a ∈ l, Sz s a) → SzL s L → l.length + 2 * L.length ≤ 800000 →
    ∃ x2' x3' x4', lp (tgB (tgN 2) fb_rising_places_4) (L.map dPair) ⟨[e0, .own (l.map dF), x2, x3, x4], st⟩ = .nx ⟨[e0, .own ((insAll l (endsOf L)).map dF), x2', x3', x4'], st⟩
  | [], l, x2, x3, x4, _, _, _, _ => ⟨x2, x3, x4, by simp only [List.map_nil, hlp.nil]; rfl⟩
  | p :: L, l, x2, x3, x4, hR, hl, hL, hn => by
    simp at hn
    have hp := hL p (List.mem_cons_self ..)
    obtain ⟨y4, h1⟩ := places_body hR hl hp.1 hs (by omega) e0 (.val (dPair p)) x4 st
    have l1 := ins_len p.1 l
    have R1 := ris_ins (q := p.1) hR
    have z1 := ins_sz hl hp.1
    obtain ⟨z4, h2⟩ := places_body R1 z1 hp.2 hs (by omega) e0 (.val (dPair p)) y4 st
    have l2 := ins_len p.2 (ins p.1 l)
    obtain ⟨x2', x3', x4', h3⟩ := places_all hs (e0 := e0) (st := st) hlp L (ins p.2 (ins p.1 l)) (.val (dPair p)) (.val (dF p.2)) z4 (ris_ins R1) (ins_sz z1 hp.2) (fun q m => hL q (List.mem_cons_of_mem _ m)) (by omega)
    refine ⟨x2', x3', x4', ?_⟩
    have hd : itemsOf (dPair p) = some [dF p.1, dF p.2] := rfl
    have he : insAll l (endsOf (p :: L)) = insAll (ins p.2 (ins p.1 l)) (endsOf L) := rfl
    rw [he, ← h3]
    simp -implicitDefEqProofs [hlp.cons, e_forC, q_fb_rising_places_4, hd, h1, h2]
theorem rising_places_eq {s : Nat} (hs : s ≤ 4000) {L : List (Rat × Rat)} (hL : SzL s L) (hn : L.length ≤ 100000) (st : Sto) : F_rising_places [.lst (L.map dPair)] st = .val .N (.lst ((plc L).map dF)) st := by
  obtain ⟨x2, x3, x4, h⟩ := places_all hs (e0 := .val (.lst (L.map dPair))) (st := st) (lpD st) L [] .emp .emp .emp List.Pairwise.nil (by simp) hL (by simp; omega)
  simp only [List.map_nil] at h
  simp -implicitDefEqProofs [F_rising_places, g_rising_places, h, plc]
theorem covers_for {s : Nat} (hs : s ≤ 4000) {a b : Rat} (ha : Sz s a) (hb : Sz s b) {e0 : SL} {st : Sto} {lp : (D → En → SR) → List D → En → SR} (hlp : Lp lp st) : ∀ (L : List (Rat × Rat)) (x3 x4 : SL), SzL s L →
    lp (tgB (tgT 2 (tgsCons (tgN 3) (tgsCons (tgN 4) tgsNil))) fb_covers_1) (L.map dPair) ⟨[e0, .val (dF a), .val (dF b), x3, x4], st⟩ = (if cvr L a b = true then .rt .P (.bl true) st else .nx ⟨[e0, .val (dF a), .val (dF b), ((L.getLast?.map fun p => SL.val (dF p.1)).getD x3), ((L.getLast?.map fun p => SL.val (dF p.2)).getD x4)], st⟩)
  | [], x3, x4, _ => by simp [cvr, hlp.nil]
  | p :: L, x3, x4, hL => by
    have hp := hL p (List.mem_cons_self ..)
    have a1 := is_less_eq ha hp.1 (by omega) st
    have a2 := is_less_eq hp.2 hb (by omega) st
    have ih := covers_for hs ha hb (e0 := e0) (st := st) hlp L (.val (dF p.1)) (.val (dF p.2)) (fun q m => hL q (List.mem_cons_of_mem _ m))
    have hg : ∀ (f : Rat × Rat → SL) (x : SL), ((p :: L).getLast?.map f).getD x = (L.getLast?.map f).getD (f p) := fun f x => by
      cases L with
      | nil => rfl
      | cons q L => simp [List.getLast?_cons]
    rw [hg, hg]
    have hc : cvr (p :: L) a b = ((!decide (a < p.1) && !decide (p.2 < b)) || cvr L a b) := rfl
    by_cases c1 : a < p.1
    · simp -implicitDefEqProofs [hlp.cons, q_fb_covers_1, a1, c1, ih, hc]
    · by_cases c2 : p.2 < b
      · simp -implicitDefEqProofs [hlp.cons, q_fb_covers_1, a1, a2, c1, c2, ih, hc]
      · simp -implicitDefEqProofs [hlp.cons, q_fb_covers_1, a1, a2, c1, c2, hc]
theorem covers_eq {s : Nat} (hs : s ≤ 4000) {a b : Rat} (ha : Sz s a) (hb : Sz s b) {L : List (Rat × Rat)} (hL : SzL s L) (st : Sto) : F_covers [.lst (L.map dPair), dF a, dF b] st = .val .P (.bl (cvr L a b)) st := by
  have h := covers_for hs ha hb (e0 := .val (.lst (L.map dPair))) (st := st) (lpD st) L .emp .emp hL
  cases c : cvr L a b with
  | true => simp only [c, if_true] at h; simp -implicitDefEqProofs [F_covers, g_covers, h]
  | false => simp only [c, Bool.false_eq_true, if_false] at h; simp -implicitDefEqProofs [F_covers, g_covers, h]
theorem where_body {p : Rat → Rat → Bool} {h : List (Option D) → D → D → Sto → ER} {ds : List (Option D)} {st : Sto} {F : List (Rat × Rat)} {ab : Rat × Rat} (hh : h ds (dF ab.1) (dF ab.2) st = .val .P (.bl (p ab.1 ab.2)) st) (hn : F.length ≤ 900000) (e0 : SL) :
    fb_spans_where_1 h ⟨[e0, .clo ds, .own (F.map dPair), .val (dF ab.1), .val (dF ab.2)], st⟩ = .nx ⟨[e0, .clo ds, .own ((swStep p F ab).map dPair), .val (dF ab.1), .val (dF ab.2)], st⟩ := by
  have hl : F.length < 1000000 := by omega
  unfold swStep
  cases hp : p ab.1 ab.2 with
  | false =>
    rw [hp] at hh
    simp -implicitDefEqProofs [q_fb_spans_where_1, hh]
  | true =>
    rw [hp] at hh
    cases hg : F.getLast? with
    | none =>
      have : F = [] := List.getLast?_eq_none_iff.mp hg
      subst this
      simp -implicitDefEqProofs [q_fb_spans_where_1, hh, mAppend, dPair]
    | some l =>
      obtain ⟨D', rfl⟩ := List.getLast?_eq_some_iff.mp hg
      have ml : (D' ++ [l]).map dPair = D'.map dPair ++ [dPair l] := by simp
      have a1 : atI (D'.map dPair ++ [dPair l]) (-1) = some (dPair l) := at_last
      have a2 : ixN ((D'.map dPair ++ [dPair l]).length) (-1) = some D'.length := by
        have h1 : (1 : Int) ≤ (D'.length : Int) + 1 := by omega
        have h2 : (-1 + ((D'.length : Int) + 1)).toNat = D'.length := by omega
        simp [ixN, h1, h2]
      have a3 : ∀ x, (D'.map dPair ++ [dPair l]).set D'.length x = D'.map dPair ++ [x] := fun x => by
        rw [List.set_append_right _ _ (by simp)]; simp
      have b1 : ∀ st, oIx (dPair l) (.int 1) st = .val .P (dF l.2) st := fun st => by simp [dPair, atI, ixN]
      have b0 : ∀ st, oIx (dPair l) (.int 0) st = .val .P (dF l.1) st := fun st => by simp [dPair, atI, ixN]
      have pos : 0 < (D'.map dPair ++ [dPair l]).length := by simp
      have hl' : (D'.map dPair ++ [dPair l]).length < 1000000 := by simpa using hl
      have dl : (D' ++ [l]).dropLast = D' := List.dropLast_concat
      rw [ml]
      by_cases e : l.2 = ab.1
      · simp only [e, if_true, dl, List.map_append, List.map_cons, List.map_nil]
        rw [e] at b1
        generalize D'.map dPair ++ [dPair l] = X at *
        simp -implicitDefEqProofs [q_fb_spans_where_1, hh, pos, a1, a2, a3, b0, b1]
        rfl
      · simp only [e, if_true, if_false, dl, List.map_append, List.map_cons, List.map_nil]
        have ne : ¬ l.2 = ab.1 := e
        generalize D'.map dPair ++ [dPair l] = X at *
        simp -implicitDefEqProofs [q_fb_spans_where_1, hh, pos, a1, b1, ne, mAppend, hl']
        rfl
theorem swStep_len (p : Rat → Rat → Bool) (F : List (Rat × Rat)) (ab : Rat × Rat) : (swStep p F ab).length ≤ F.length + 1 := by
  unfold swStep
  split
  · split
    · split <;> simp
    · simp
  · omega
theorem where_for {p : Rat → Rat → Bool} {h : List (Option D) → D → D → Sto → ER} {ds : List (Option D)} {st : Sto} {e0 : SL} : ∀ (A : List (Rat × Rat)) (F : List (Rat × Rat)) (x3 x4 : SL), (∀ ab ∈ A, h ds (dF ab.1) (dF ab.2) st = .val .P (.bl (p ab.1 ab.2)) st) → F.length + A.length ≤ 900000 →
    ∃ x3' x4', forD (tgB (tgT 2 (tgsCons (tgN 3) (tgsCons (tgN 4) tgsNil))) (fb_spans_where_1 h)) (A.map dPair) ⟨[e0, .clo ds, .own (F.map dPair), x3, x4], st⟩ = .nx ⟨[e0, .clo ds, .own ((A.foldl (swStep p) F).map dPair), x3', x4'], st⟩
  | [], F, x3, x4, _, _ => ⟨x3, x4, rfl⟩
  | ab :: A, F, x3, x4, hh, hn => by
    simp at hn
    have h1 := where_body (p := p) (F := F) (hh ab (List.mem_cons_self ..)) (by omega) e0
    have l1 := swStep_len p F ab
    obtain ⟨x3', x4', h2⟩ := where_for (p := p) (e0 := e0) A (swStep p F ab) (.val (dF ab.1)) (.val (dF ab.2)) (fun q m => hh q (List.mem_cons_of_mem _ m)) (by omega)
    refine ⟨x3', x4', ?_⟩
    rw [List.foldl_cons, ← h2]
    simp -implicitDefEqProofs [e_forC, h1]
theorem zip_tail (P : List Rat) : zipD (P.map dF) (P.map dF).tail = (adj P).map dPair := by
  rw [← List.map_tail, zip_dF, adj]
theorem where_eq {p : Rat → Rat → Bool} {h : List (Option D) → D → D → Sto → ER} {ds : List (Option D)} {st : Sto} {P : List Rat} (hh : ∀ ab ∈ adj P, h ds (dF ab.1) (dF ab.2) st = .val .P (.bl (p ab.1 ab.2)) st) (hn : P.length ≤ 800000) :
    valOnly (g_spans_where h ⟨startL 5 (.lst (P.map dF)) ds, st⟩).ret = .val .N (.lst ((sw p P).map dPair)) st := by
  have hl : (adj P).length ≤ P.length := by simp [adj]
  obtain ⟨x3, x4, h1⟩ := where_for (p := p) (e0 := .val (.lst (P.map dF))) (adj P) [] .emp .emp hh (by simp; omega)
  have c1 := cut_from (P.map dF) (a := 1) (by decide)
  have c2 : (P.map dF).drop (1 : Int).toNat = (P.map dF).tail := by rw [← List.drop_one]; rfl
  rw [c2] at c1
  have z := zip_tail P
  simp only [List.map_nil] at h1
  simp -implicitDefEqProofs [startL, g_spans_where, c1, z, h1, sw, valOnly]
def TbOk (st : Sto) : Prop := ∀ (i : Nat) (x : Ob), tbls[i]? = some x → st[i]? = some x
theorem TbOk.app {st : Sto} (h : TbOk st) (o : Sto) : TbOk (st ++ o) := fun i x e => by
  have := h i x e
  rw [List.getElem?_append_left (List.getElem?_eq_some_iff.mp this).1]; exact this
def shr (L : List (Rat × Rat)) : Ob := .ins 3 [.lst (L.map dPair)]
def outS (p : Rat × Rat) : Bool := decide (p.1 < 0 ∨ 1 < p.2 ∨ p.2 < p.1)
theorem init_for {s : Nat} (hs : s ≤ 4000) {e0 e1 : SL} {st : Sto} {lp : (D → En → SR) → List D → En → SR} (hlp : Lp lp st) : ∀ (L : List (Rat × Rat)) (x2 x3 : SL), SzL (s + 1) L →
    ∃ x2' x3', lp (tgB (tgT 2 (tgsCons (tgN 2) (tgsCons (tgN 3) tgsNil))) fb_Share___init___1) (L.map dPair) ⟨[e0, e1, x2, x3], st⟩ = (if L.any outS = true then .exc 2 [] ⟨[e0, e1, x2', x3'], st⟩ else .nx ⟨[e0, e1, x2', x3'], st⟩)
  | [], x2, x3, _ => ⟨x2, x3, by simp only [List.map_nil, hlp.nil]; rfl⟩
  | p :: L, x2, x3, hL => by
    have hp := hL p (List.mem_cons_self ..)
    have ha := ask_span_eq hp.1 hp.2 hs st
    obtain ⟨x2', x3', ih⟩ := init_for hs (e0 := e0) (e1 := e1) (st := st) hlp L (.val (dF p.1)) (.val (dF p.2)) (fun q m => hL q (List.mem_cons_of_mem _ m))
    by_cases c : p.1 < 0 ∨ 1 < p.2 ∨ p.2 < p.1
    · rw [if_pos c] at ha
      have hc : outS p = true := by simp [outS, c]
      refine ⟨.val (dF p.1), .val (dF p.2), ?_⟩
      simp -implicitDefEqProofs [hlp.cons, q_fb_Share___init___1, ha, hc]
    · rw [if_neg c] at ha
      have hc : outS p = false := by simp only [outS, c, decide_false]
      refine ⟨x2', x3', ?_⟩
      rw [List.any_cons, hc, Bool.false_or, ← ih]
      simp -implicitDefEqProofs [hlp.cons, q_fb_Share___init___1, ha]
theorem ends_len (M : List (Rat × Rat)) : (endsOf M).length = 2 * M.length := by
  induction M with
  | nil => rfl
  | cons p L ih => simp only [endsOf, List.flatMap_cons, List.length_append, List.length_cons, List.length_nil] at *; omega
theorem plc_len {L : List (Rat × Rat)} (hn : L.length ≤ 100000) : (plc L).length ≤ 800000 := by
  have h2 := insAll_len (endsOf L) []
  have h3 := ends_len L
  simp only [plc, List.length_nil] at *
  omega
theorem share_init {s : Nat} (hs : s ≤ 3900) {L : List (Rat × Rat)} (hL : SzL s L) (hn : L.length ≤ 100000) {st : Sto} (T : TbOk st) :
    F_Share___init__ [.ptr st.length, .lst (L.map dPair)] (st ++ [.ins 3 []]) = if L.any outS = true then .exc 2 [] (st ++ [.ins 3 []]) else .val .P .non (st ++ [shr (norm L)]) := by
  have hL1 : SzL (s + 1) L := fun p m => ⟨(hL p m).1.up (by omega), (hL p m).2.up (by omega)⟩
  obtain ⟨x2, x3, h1⟩ := init_for (s := s) (by omega) (e0 := .val (.ptr st.length)) (e1 := .val (.lst (L.map dPair))) (st := st ++ [.ins 3 []]) (lpD _) L .emp .emp hL1
  by_cases c : L.any outS = true
  · rw [if_pos c] at h1 ⊢
    simp -implicitDefEqProofs [F_Share___init__, g_Share___init__, h1]
  · rw [if_neg c] at h1 ⊢
    have hr := rising_places_eq (s := s) (by omega) hL hn (st ++ [.ins 3 []])
    have hT := (T.app [.ins 3 []]) np_Share___init__ _ rfl
    have pl := plc_len hn
    have hw := where_eq (p := cvr L) (h := fun ds x y st => lb_Share___init___2 ⟨cloE ds 2 3 x y, st⟩) (ds := cloOf [.val (.ptr st.length), .val (.lst (L.map dPair)), x2, x3]) (st := st ++ [.ins 3 []]) (P := plc L) (fun ab m => by
      obtain ⟨m1, m2, _⟩ := adj_in (plc_ris L) ab m
      have z1 := hL.ends _ (plc_mem.mp m1)
      have z2 := hL.ends _ (plc_mem.mp m2)
      have hc := covers_eq (s := s) (by omega) z1 z2 hL (st ++ [.ins 3 []])
      simp -implicitDefEqProofs [cloE, cloOf, q_lb_Share___init___2, hc, slO]) pl
    have hst : (st ++ [.ins 3 []])[st.length]? = some (Ob.ins 3 []) := by
      rw [List.getElem?_append_right (Nat.le_refl _)]; simp
    have hset : ∀ x : Ob, (st ++ [Ob.ins 3 []]).set st.length x = st ++ [x] := fun x => by
      rw [List.set_append_right _ _ (Nat.le_refl _)]; simp
    have hw : _ = ER.val .N (.lst ((norm L).map dPair)) (st ++ [.ins 3 []]) := hw
    generalize st ++ [Ob.ins 3 []] = s1 at *
    simp -implicitDefEqProofs [F_Share___init__, g_Share___init__, h1, hr, hT, hw, hst, hset, shr, -e_cloOf0, -e_cloOfC, -e_cloE, -e_startL]
theorem spans_eq {n : Nat} {st : Sto} {L : List (Rat × Rat)} (h : st[n]? = some (shr L)) : F_Share_spans [.ptr n] st = .val .N (.lst (L.map dPair)) st := by
  unfold shr at h
  simp -implicitDefEqProofs [F_Share_spans, g_Share_spans, h]
theorem app_at {st : Sto} {n : Nat} {x y : Ob} (h : st[n]? = some x) : (st ++ [y])[n]? = some x := by
  rw [List.getElem?_append_left (List.getElem?_eq_some_iff.mp h).1]; exact h
theorem app_new {st : Sto} {y : Ob} : (st ++ [y])[st.length]? = some y := by
  rw [List.getElem?_append_right (Nat.le_refl _)]; simp
def In01 (L : List (Rat × Rat)) : Prop := ∀ p ∈ L, 0 ≤ p.1 ∧ p.1 ≤ p.2 ∧ p.2 ≤ 1
theorem In01.out {L : List (Rat × Rat)} (h : In01 L) : L.any outS = false := by
  rw [List.any_eq_false]
  intro p m
  obtain ⟨a, b, c⟩ := h p m
  simp only [outS, decide_eq_true_eq]
  grind
theorem In01.app {L M : List (Rat × Rat)} (h : In01 L) (k : In01 M) : In01 (L ++ M) := fun p m => (List.mem_append.mp m).elim (h p) (k p)
theorem In01.ends {L : List (Rat × Rat)} (h : In01 L) : ∀ x ∈ endsOf L, 0 ≤ x ∧ x ≤ 1 := fun x m => by
  obtain ⟨p, hp, e⟩ := mem_ends.mp m
  obtain ⟨a, b, c⟩ := h p hp
  rcases e with rfl | rfl <;> grind
theorem In01.of {L M : List (Rat × Rat)} (h : In01 L) (c : Can M) (k : ∀ p ∈ M, p.1 ∈ endsOf L ∧ p.2 ∈ endsOf L) : In01 M := fun p m => by
  have a := h.ends _ (k p m).1
  have b := h.ends _ (k p m).2
  have := c.1 p m
  grind
theorem fold_len (p : Rat → Rat → Bool) : ∀ (A F : List (Rat × Rat)), (A.foldl (swStep p) F).length ≤ F.length + A.length
  | [], F => by simp
  | ab :: A, F => by
    have h1 := fold_len p A (swStep p F ab)
    have h2 := swStep_len p F ab
    simp only [List.foldl_cons, List.length_cons]
    omega
theorem sw_len {p : Rat → Rat → Bool} {P : List Rat} : (sw p P).length ≤ P.length := by
  have h1 := fold_len p (adj P) []
  have h2 : (adj P).length ≤ P.length := by simp only [adj, List.length_zip]; omega
  have h3 : (sw p P).length ≤ _ := h1
  simp only [List.length_nil] at h3
  omega
theorem plc_len2 (L : List (Rat × Rat)) : (plc L).length ≤ 2 * L.length := by
  have h2 := insAll_len (endsOf L) []
  have h3 := ends_len L
  have h4 : (plc L).length ≤ _ := h2
  simp only [List.length_nil] at h4
  omega
theorem splus_eq {s : Nat} (hs : s ≤ 3900) {n m : Nat} {st : Sto} (T : TbOk st) {A B : List (Rat × Rat)} (hA : st[n]? = some (shr A)) (hB : st[m]? = some (shr B)) (zA : SzL s A) (zB : SzL s B) (iA : In01 A) (iB : In01 B) (hn : A.length + B.length ≤ 10000) :
    F_Share_plus [.ptr n, .ptr m] st = .val .P (.ptr st.length) (st ++ [shr (norm (A ++ B))]) := by
  have hsp := spans_eq hB
  have hi := share_init (s := s) hs (L := A ++ B) (zA.app zB) (by simp; omega) T
  rw [(iA.app iB).out] at hi
  have hj : _ = ER.val .P .non (st ++ [shr (norm (A ++ B))]) := hi
  have hA' := hA
  unfold shr at hA'
  have hadd : A.map dPair ++ B.map dPair = (A ++ B).map dPair := by rw [List.map_append]
  generalize norm (A ++ B) = N at *
  generalize hAB : (A ++ B).map dPair = AB at *
  generalize hAA : A.map dPair = AA at *
  generalize hBB : B.map dPair = BB at *
  have hlen : AA.length + BB.length ≤ 1000000 := by rw [← hAA, ← hBB]; simp; omega
  simp -implicitDefEqProofs [F_Share_plus, g_Share_plus, hsp, hA', hB, shr, hadd, hj, hlen]
theorem len_for {g : Int} {a : Nat} (hg : 0 < g) (h2 : g.natAbs < 2 ^ a) (ha : a ≤ 4000) {e0 : SL} {st : Sto} : ∀ (L : List (Rat × Rat)) (q : Rat) (x2 x3 : SL), (∀ p ∈ L, Gd g p) → Ov g q → 0 ≤ q → q + ((L.length : Int) : Rat) ≤ ((2 ^ 20 : Int) : Rat) →
    ∃ x2' x3', forD (tgB (tgT 2 (tgsCons (tgN 2) (tgsCons (tgN 3) tgsNil))) fb_Share_length_1) (L.map dPair) ⟨[e0, .val (dF q), x2, x3], st⟩ = .nx ⟨[e0, .val (dF (q + lenS L)), x2', x3'], st⟩
  | [], q, x2, x3, _, _, _, _ => ⟨x2, x3, by simp [lenS, Rat.add_zero]⟩
  | p :: L, q, x2, x3, hL, hq, q0, q1 => by
    have hp := hL p (List.mem_cons_self ..)
    obtain ⟨z1, z2⟩ := hp.sz hg h2
    obtain ⟨o1, o2, p0, p1, p2⟩ := hp
    have hd := o2.sub o1
    have zd : Sz a (p.2 - p.1) := hd.sz (b := 0) hg h2 (by grind) (by simp; grind)
    have hll : ((0 : Int) : Rat) ≤ ((L.length : Int) : Rat) := Rat.intCast_le_intCast.mpr (by omega)
    have hlc : (((p :: L).length : Int) : Rat) = ((L.length : Int) : Rat) + 1 := by simp [Rat.intCast_add]
    rw [hlc] at q1
    have hll : (0 : Rat) ≤ ((L.length : Int) : Rat) := by simpa using hll
    have zq : Sz (a + 20) q := hq.sz hg h2 q0 (by grind)
    have m1 := minus_eq z2 z1 (by omega) st
    have m2 := plus_eq zq zd (by omega) st
    obtain ⟨x2', x3', ih⟩ := len_for hg h2 ha (e0 := e0) (st := st) L (q + (p.2 - p.1)) (.val (dF p.1)) (.val (dF p.2)) (fun r m => hL r (List.mem_cons_of_mem _ m)) (hq.add hd) (by grind) (by grind)
    have e : q + (p.2 - p.1) + lenS L = q + lenS (p :: L) := by simp only [lenS, List.foldr_cons]; grind
    rw [e] at ih
    refine ⟨x2', x3', ?_⟩
    rw [← ih]
    simp -implicitDefEqProofs [(lpD st).cons, q_fb_Share_length_1, m1, m2]
theorem length_eq {g : Int} {a : Nat} (hg : 0 < g) (h2 : g.natAbs < 2 ^ a) (ha : a ≤ 4000) {n : Nat} {st : Sto} {L : List (Rat × Rat)} (h : st[n]? = some (shr L)) (hL : ∀ p ∈ L, Gd g p) (hl : L.length ≤ 1000000) : F_Share_length [.ptr n] st = .val .P (dF (lenS L)) st := by
  have hl2 : ((L.length : Int) : Rat) ≤ ((2 ^ 20 : Int) : Rat) := Rat.intCast_le_intCast.mpr (by omega)
  obtain ⟨x2, x3, h1⟩ := len_for hg h2 ha (e0 := .val (.ptr n)) (st := st) L 0 .emp .emp hL (Ov.zero g) (by decide) (by grind)
  rw [Rat.zero_add] at h1
  unfold shr at h
  simp -implicitDefEqProofs [F_Share_length, g_Share_length, h, h1]
namespace Is1
abbrev Sp := List (Rat × Rat)
def cvb (S : Sp) (x : Rat) : Bool := S.any fun s => decide (s.1 ≤ x ∧ x < s.2)
theorem cvb_iff {S : Sp} {x : Rat} : cvb S x = true ↔ cov S x := by
  unfold cvb cov
  simp only [List.any_eq_true, decide_eq_true_eq]
def cnt : List Sp → Rat → Nat
  | [], _ => 0
  | S :: l, x => (if cvb S x = true then 1 else 0) + cnt l x
def tog : Sp → List Sp → Sp
  | T, [] => T
  | T, S :: l => tog (norm (T ++ S)) l
def tlen : List Sp → Rat
  | [] => 0
  | S :: l => lenS S + tlen l
theorem len_nonneg {C : Sp} (h : Can C) : 0 ≤ lenS C := by
  rw [lenS_msr]
  exact msr_nonneg fun p hp => by have := h.1 p hp; grind
theorem len_zero : ∀ {C : Sp}, Can C → lenS C = 0 → C = []
  | [], _, _ => rfl
  | s :: L, h, e => by
    exfalso
    obtain ⟨a, _, c⟩ := can_cons.mp h
    have n := len_nonneg c
    have e' : s.2 - s.1 + lenS L = 0 := e
    grind
theorem len_pair {A B : Sp} (hA : Can A) (hB : Can B) : lenS (norm (A ++ B)) + lenS (nboth A B) = lenS A + lenS B := by
  simp only [lenS_msr]
  exact msr_two add_len hA hB (norm_spec _).1 (nboth_spec _ _).1 (fun x => by rw [(norm_spec _).2, cov_app]) (fun x => (nboth_spec _ _).2 x)
theorem tog_can : ∀ {l : List Sp} {T : Sp}, Can T → Can (tog T l)
  | [], _, h => h
  | S :: l, T, _ => tog_can (l := l) (norm_spec _).1
theorem tog_cov {x : Rat} : ∀ {l : List Sp} {T : Sp}, cov (tog T l) x ↔ cov T x ∨ 0 < cnt l x
  | [], T => by simp [tog, cnt]
  | S :: l, T => by
    have ih := tog_cov (x := x) (l := l) (T := norm (T ++ S))
    rw [(norm_spec _).2, cov_app] at ih
    show cov (tog (norm (T ++ S)) l) x ↔ _
    rw [ih]
    have e : cnt (S :: l) x = (if cvb S x = true then 1 else 0) + cnt l x := rfl
    rw [e]
    by_cases c : cvb S x = true
    · have := cvb_iff.mp c
      rw [if_pos c]
      exact ⟨fun _ => .inr (by omega), fun _ => .inl (.inr this)⟩
    · have c' : ¬ cov S x := fun h => c (cvb_iff.mpr h)
      rw [if_neg c, Nat.zero_add]
      exact ⟨fun k => by rcases k with (k | k) | k
                         · exact .inl k
                         · exact absurd k c'
                         · exact .inr k, fun k => by rcases k with k | k
                                                     · exact .inl (.inl k)
                                                     · exact .inr k⟩
theorem tog_len : ∀ {l : List Sp} {T : Sp}, Can T → (∀ S ∈ l, Can S) → lenS (tog T l) ≤ lenS T + tlen l ∧ (lenS (tog T l) = lenS T + tlen l ↔ ∀ x, (cov T x → cnt l x = 0) ∧ cnt l x ≤ 1)
  | [], T, _, _ => by
    simp only [tog, tlen, cnt, Rat.add_zero]
    exact ⟨Rat.le_refl, by simp⟩
  | S :: l, T, hT, hl => by
    have hS := hl S (by simp)
    obtain ⟨i1, i2⟩ := tog_len (l := l) (T := norm (T ++ S)) (norm_spec _).1 fun U hU => hl U (by simp [hU])
    have p := len_pair hT hS
    have n := len_nonneg (nboth_spec T S).1
    have e : tog T (S :: l) = tog (norm (T ++ S)) l := rfl
    have e2 : tlen (S :: l) = lenS S + tlen l := rfl
    rw [e, e2]
    refine ⟨by grind, ?_⟩
    constructor
    · intro h
      have h0 : lenS (nboth T S) = 0 := by grind
      have hb := len_zero (nboth_spec T S).1 h0
      have hq := i2.mp (by grind)
      intro x
      obtain ⟨q1, q2⟩ := hq x
      rw [(norm_spec _).2, cov_app] at q1
      have nb : ¬ (cov T x ∧ cov S x) := fun h => by
        have := ((nboth_spec T S).2 x).mpr h
        rw [hb] at this
        exact cov_nil x this
      unfold cnt
      by_cases c : cvb S x = true
      · have cs := cvb_iff.mp c
        rw [if_pos c]
        have := q1 (.inr cs)
        exact ⟨fun t => absurd ⟨t, cs⟩ nb, by omega⟩
      · rw [if_neg c]
        exact ⟨fun t => by have := q1 (.inl t); omega, by omega⟩
    · intro h
      have hb : nboth T S = [] := can_ext (nboth_spec T S).1 can_nil fun x => by
        rw [(nboth_spec T S).2]
        constructor
        · rintro ⟨t, s⟩
          have := (h x).1 t
          unfold cnt at this
          rw [if_pos (cvb_iff.mpr s)] at this
          omega
        · intro k; exact absurd k (cov_nil x)
      have h0 : lenS (nboth T S) = 0 := by rw [hb]; rfl
      have := i2.mpr fun x => by
        obtain ⟨h1, h2⟩ := h x
        rw [(norm_spec _).2, cov_app]
        unfold cnt at h1 h2
        by_cases c : cvb S x = true
        · rw [if_pos c] at h1 h2
          exact ⟨fun _ => by omega, by omega⟩
        · rw [if_neg c] at h1 h2
          have c' : ¬ cov S x := fun h => c (cvb_iff.mpr h)
          refine ⟨fun k => ?_, by omega⟩
          rcases k with k | k
          · have := h1 k; omega
          · exact absurd k c'
      grind
theorem in_cov {L : Sp} (h : In01 L) {x : Rat} (c : cov L x) : 0 ≤ x ∧ x < 1 := by
  obtain ⟨p, m, a, b⟩ := c
  obtain ⟨h1, h2, h3⟩ := h p m
  exact ⟨by grind, by grind⟩
theorem len_one {C : Sp} (h : Can C) (i : ∀ x, cov C x → 0 ≤ x ∧ x < 1) : lenS C = 1 ↔ ∀ x, 0 ≤ x → x < 1 → cov C x := by
  have c01 : Can [((0 : Rat), (1 : Rat))] := can_cons.mpr ⟨by decide, by simp, can_nil⟩
  have l01 : lenS [((0 : Rat), (1 : Rat))] = 1 := by decide +kernel
  have cv : ∀ x, cov [((0 : Rat), (1 : Rat))] x ↔ 0 ≤ x ∧ x < 1 := fun x => by
    rw [cov_cons]
    constructor
    · rintro (k | k)
      · exact k
      · exact absurd k (cov_nil x)
    · exact .inl
  constructor
  · intro e x x0 x1
    obtain ⟨dc, ds⟩ := nless_spec [((0 : Rat), (1 : Rat))] C
    have u : norm (C ++ nless [((0 : Rat), (1 : Rat))] C) = [(0, 1)] := norm_of c01 fun y => by
      rw [cov_app, ds, cv]
      constructor
      · intro k
        by_cases z : cov C y
        · exact .inl z
        · exact .inr ⟨k, z⟩
      · rintro (k | k)
        · exact i y k
        · exact k.1
    have b : nboth C (nless [((0 : Rat), (1 : Rat))] C) = [] := can_ext (nboth_spec _ _).1 can_nil fun y => by
      rw [(nboth_spec _ _).2, ds]
      constructor
      · rintro ⟨p, _, q⟩; exact absurd p q
      · intro k; exact absurd k (cov_nil y)
    have p := len_pair h dc
    have ln : lenS ([] : Sp) = 0 := rfl
    rw [u, b, l01, ln, e] at p
    have z := len_zero dc (by grind)
    apply Classical.byContradiction
    intro k
    have := (ds x).mpr ⟨(cv x).mpr ⟨x0, x1⟩, k⟩
    rw [z] at this
    exact cov_nil x this
  · intro k
    have : C = [(0, 1)] := can_ext h c01 fun x => by
      rw [cv]
      exact ⟨i x, fun q => k x q.1 q.2⟩
    rw [this, l01]
theorem cnt_in {l : List Sp} (h : ∀ S ∈ l, In01 S) {x : Rat} (c : 0 < cnt l x) : 0 ≤ x ∧ x < 1 := by
  induction l with
  | nil => simp [cnt] at c
  | cons S l ih =>
    unfold cnt at c
    by_cases q : cvb S x = true
    · exact in_cov (h S (by simp)) (cvb_iff.mp q)
    · rw [if_neg q] at c
      exact ih (fun U hU => h U (by simp [hU])) (by omega)
theorem shared_iff {l : List Sp} (hc : ∀ S ∈ l, Can S) (hi : ∀ S ∈ l, In01 S) : (tlen l = 1 ∧ lenS (tog [] l) = 1) ↔ ∀ x, 0 ≤ x → x < 1 → cnt l x = 1 := by
  obtain ⟨h1, h2⟩ := tog_len can_nil hc
  have ln : lenS ([] : Sp) = 0 := rfl
  rw [ln, Rat.zero_add] at h1 h2
  have ci : ∀ x, cov (tog [] l) x → 0 ≤ x ∧ x < 1 := fun x k => by
    rcases tog_cov.mp k with k | k
    · exact absurd k (cov_nil x)
    · exact cnt_in hi k
  have lo := len_one (tog_can (l := l) can_nil) ci
  constructor
  · rintro ⟨a, b⟩ x x0 x1
    have m := ((h2.mp (by rw [a, b])) x).2
    rcases tog_cov.mp (lo.mp b x x0 x1) with k | k
    · exact absurd k (cov_nil x)
    · omega
  · intro k
    have b : lenS (tog [] l) = 1 := lo.mpr fun x x0 x1 => tog_cov.mpr (.inr (by rw [k x x0 x1]; decide))
    have e := h2.mpr fun x => ⟨fun z => absurd z (cov_nil x), by
      by_cases q : 0 < cnt l x
      · obtain ⟨x0, x1⟩ := cnt_in hi q
        rw [k x x0 x1]; decide
      · omega⟩
    exact ⟨by rw [← e]; exact b, b⟩
def holders : List Sp → Rat × Rat → Nat
  | [], _ => 0
  | S :: l, ab => (if cvr S ab.1 ab.2 = true then 1 else 0) + holders l ab
theorem holders_cnt {P : List Rat} (hP : Ris P) {x : Rat} {ab : Rat × Rat} (hab : ab ∈ adj P) (a : ab.1 ≤ x) (b : x < ab.2) : ∀ {l : List Sp}, (∀ S ∈ l, ∀ e ∈ endsOf S, e ∈ P) → holders l ab = cnt l x
  | [], _ => rfl
  | S :: l, h => by
    have ih := holders_cnt hP hab a b (l := l) fun U hU => h U (by simp [hU])
    have c := cvr_iff hP (h S (by simp)) ab hab x a b
    unfold holders cnt
    rw [ih]
    by_cases q : cvb S x = true
    · rw [if_pos q, if_pos (c.mpr (cvb_iff.mp q))]
    · have q' : ¬ cvr S ab.1 ab.2 = true := fun z => q (cvb_iff.mpr (c.mp z))
      rw [if_neg q, if_neg q']
theorem cells_iff {P : List Rat} (hP : Ris P) (p0 : (0 : Rat) ∈ P) (p1 : (1 : Rat) ∈ P) (pin : ∀ u ∈ P, 0 ≤ u ∧ u ≤ 1) {l : List Sp} (h : ∀ S ∈ l, ∀ e ∈ endsOf S, e ∈ P) : (∀ ab ∈ adj P, holders l ab = 1) ↔ ∀ x, 0 ≤ x → x < 1 → cnt l x = 1 := by
  constructor
  · intro k x x0 x1
    obtain ⟨ab, m, a, b⟩ := adj_has hP ⟨0, p0, x0⟩ ⟨1, p1, x1⟩
    rw [← holders_cnt hP m a b h]
    exact k ab m
  · intro k ab m
    obtain ⟨m1, m2, lt, _⟩ := adj_in hP ab m
    rw [holders_cnt hP m Rat.le_refl lt h]
    refine k _ (pin _ m1).1 ?_
    have := (pin _ m2).2
    grind
theorem cnt_norm (x : Rat) : ∀ l : List Sp, cnt (l.map norm) x = cnt l x
  | [] => rfl
  | S :: l => by
    show (if cvb (norm S) x = true then 1 else 0) + cnt (l.map norm) x = (if cvb S x = true then 1 else 0) + cnt l x
    rw [cnt_norm x l]
    have : cvb (norm S) x = cvb S x := by
      rw [Bool.eq_iff_iff, cvb_iff, cvb_iff]
      exact (norm_spec S).2 x
    rw [this]
end Is1
namespace Is1
theorem bd {g : Int} : ∀ M : Sp, (∀ p ∈ M, Gd g p) → Ov g (lenS M) ∧ 0 ≤ lenS M ∧ lenS M ≤ ((M.length : Int) : Rat)
  | [], _ => ⟨Ov.zero g, Rat.le_refl, by simp [lenS]⟩
  | p :: M, hm => by
    obtain ⟨i1, i2, i3⟩ := bd M fun q m => hm q (List.mem_cons_of_mem _ m)
    obtain ⟨o1, o2, a, b, c⟩ := hm p (List.mem_cons_self ..)
    have e : lenS (p :: M) = p.2 - p.1 + lenS M := rfl
    have hlc : (((p :: M).length : Int) : Rat) = ((M.length : Int) : Rat) + 1 := by simp [Rat.intCast_add]
    rw [e, hlc]
    exact ⟨(o2.sub o1).add i1, by grind, by grind⟩
theorem gd_norm {g : Int} {L : Sp} (h : ∀ p ∈ L, Gd g p) : ∀ p ∈ norm L, Gd g p := fun p hp => by
  have en : ∀ x ∈ endsOf L, Ov g x ∧ 0 ≤ x ∧ x ≤ 1 := fun x m => by
    obtain ⟨q, hq, e⟩ := mem_ends.mp m
    obtain ⟨o1, o2, a, b, c⟩ := h q hq
    rcases e with rfl | rfl
    · exact ⟨o1, a, Rat.le_trans b c⟩
    · exact ⟨o2, Rat.le_trans a b, c⟩
  obtain ⟨e1, e2⟩ := norm_ends p hp
  obtain ⟨o1, a1, b1⟩ := en _ e1
  obtain ⟨o2, a2, b2⟩ := en _ e2
  exact ⟨o1, o2, a1, Rat.le_of_lt ((norm_spec L).1.1 p hp), b2⟩
theorem norm_le (L : Sp) : (norm L).length ≤ 2 * L.length := Nat.le_trans sw_len (plc_len2 L)
def spans : List (Nat × Sp) → Nat
  | [] => 0
  | q :: l => q.2.length + spans l
section
variable {g : Int} {a : Nat} (hg : 0 < g) (h2 : g.natAbs < 2 ^ a) (ha : a ≤ 1800)
include hg h2 ha
theorem len_sz {q : Rat} {k : Nat} (o : Ov g q) (q0 : 0 ≤ q) (q1 : q ≤ ((k : Int) : Rat)) (hk : k ≤ 2 ^ 20) : Sz (a + 20) q := o.sz hg h2 q0 (Rat.le_trans q1 (Rat.intCast_le_intCast.mpr (by omega)))
omit hg h2 ha in
theorem nd_len : ∀ {l E : List Rat}, l.Nodup → (∀ x ∈ l, x ∈ E) → l.length ≤ E.length
  | [], _, _, _ => Nat.zero_le _
  | x :: l, E, nd, h => by
    obtain ⟨n1, n2⟩ := List.nodup_cons.mp nd
    have hx := h x (by simp)
    have := nd_len (l := l) (E := E.erase x) n2 fun y hy => (List.mem_erase_of_ne (fun e : y = x => n1 (by rw [← e]; exact hy))).mpr (h y (by simp [hy]))
    have le := List.length_erase_of_mem hx
    have : 0 < E.length := List.length_pos_of_mem hx
    rw [List.length_cons]; omega
omit hg h2 ha in
theorem can_len {L : Sp} {E : List Rat} (c : Can L) (h : ∀ e ∈ endsOf L, e ∈ E) : L.length ≤ E.length := by
  have nd : (L.map (·.1)).Nodup := by
    have p := c.2
    rw [List.nodup_iff_pairwise_ne] at *
    rw [List.pairwise_map]
    refine List.Pairwise.imp_of_mem ?_ p
    intro a b ha hb hab
    have := c.1 a ha
    grind
  have := nd_len nd fun x hx => by
    obtain ⟨p, hp, rfl⟩ := List.mem_map.mp hx
    exact h _ (mem_ends.mpr ⟨p, hp, .inl rfl⟩)
  simpa using this
theorem is_loop {v0 : SL} {E : List Rat} {M : Nat} (hM : E.length ≤ M) (hM2 : M ≤ 3000) : ∀ (qs : List (Nat × Sp)) (S : Sto) (T : Sp) (t : Nat) (q : Rat) (k : Nat) (e3 : SL), TbOk S → S[t]? = some (shr T) → (∀ p ∈ T, Gd g p) → (∀ x ∈ qs, S[x.1]? = some (shr x.2) ∧ ∀ p ∈ x.2, Gd g p) →
    T.length ≤ M → Can T → (∀ e ∈ endsOf T, e ∈ E) → (∀ x ∈ qs, Can x.2 ∧ ∀ e ∈ endsOf x.2, e ∈ E) → Ov g q → 0 ≤ q → q ≤ ((k : Int) : Rat) → k + spans qs ≤ 9000 →
    ∃ t' e3' O, forD (tgB (tgN 3) fb_is_shared_1) (qs.map fun x => D.ptr x.1) ⟨[v0, .val (dF q), .val (.ptr t), e3], S⟩ = .nx ⟨[v0, .val (dF (q + tlen (qs.map (·.2)))), .val (.ptr t'), e3'], S ++ O⟩ ∧ (S ++ O)[t']? = some (shr (tog T (qs.map (·.2)))) ∧ (∀ p ∈ tog T (qs.map (·.2)), Gd g p) ∧ (tog T (qs.map (·.2))).length ≤ M
  | [], S, T, t, q, k, e3, _, ht, gT, _, hl, _, _, _, _, _, _, _ => ⟨t, e3, [], by
      have e : q + tlen (([] : List (Nat × Sp)).map (·.2)) = q := by show q + 0 = q; grind
      rw [e, List.append_nil]
      simp -implicitDefEqProofs, by rw [List.append_nil]; exact ht, gT, hl⟩
  | x :: qs, S, T, t, q, k, e3, Tb, ht, gT, hx, hl, cT, eT, hE, oq, q0, q1, hk => by
    obtain ⟨h1, g1⟩ := hx x (by simp)
    have es : spans (x :: qs) = x.2.length + spans qs := rfl
    rw [es] at hk
    obtain ⟨cx, ex⟩ := hE x (by simp)
    have lx := can_len cx ex
    obtain ⟨b1, b2, b3⟩ := bd x.2 g1
    have fl := length_eq hg h2 (by omega) h1 g1 (by omega)
    have sz : ∀ p, Gd g p → Sz a p.1 ∧ Sz a p.2 := fun p h => h.sz hg h2
    have zT : SzL a T := fun p hp => sz p (gT p hp)
    have zS : SzL a x.2 := fun p hp => sz p (g1 p hp)
    have iT : In01 T := fun p hp => ⟨(gT p hp).2.2.1, (gT p hp).2.2.2.1, (gT p hp).2.2.2.2⟩
    have iS : In01 x.2 := fun p hp => ⟨(g1 p hp).2.2.1, (g1 p hp).2.2.2.1, (g1 p hp).2.2.2.2⟩
    have fp := splus_eq (s := a) (by omega) Tb ht h1 zT zS iT iS (by omega)
    have pl := plus_eq (len_sz hg h2 ha oq q0 q1 (by omega)) (len_sz hg h2 ha b1 b2 b3 (by omega)) (by omega) S
    have gN : ∀ p ∈ norm (T ++ x.2), Gd g p := gd_norm fun p hp => by
      rcases List.mem_append.mp hp with hp | hp
      · exact gT p hp
      · exact g1 p hp
    have cN := (norm_spec (T ++ x.2)).1
    have eN : ∀ e ∈ endsOf (norm (T ++ x.2)), e ∈ E := fun e he => by
      obtain ⟨p, hp, he⟩ := mem_ends.mp he
      obtain ⟨n1, n2⟩ := norm_ends p hp
      have : e ∈ endsOf (T ++ x.2) := by rcases he with rfl | rfl <;> assumption
      obtain ⟨y, hy, he⟩ := mem_ends.mp this
      rcases List.mem_append.mp hy with hy | hy
      · exact eT e (mem_ends.mpr ⟨y, hy, he⟩)
      · exact ex e (mem_ends.mpr ⟨y, hy, he⟩)
    have lN : (norm (T ++ x.2)).length ≤ M := Nat.le_trans (can_len cN eN) hM
    have qk : q + lenS x.2 ≤ (((k + x.2.length : Nat) : Int) : Rat) := by
      have : (((k + x.2.length : Nat) : Int) : Rat) = ((k : Int) : Rat) + ((x.2.length : Int) : Rat) := by rw [Int.natCast_add, Rat.intCast_add]
      rw [this]; grind
    obtain ⟨t', e3', O, r1, r2, r3, r4⟩ := is_loop (v0 := v0) hM hM2 qs (S ++ [shr (norm (T ++ x.2))]) (norm (T ++ x.2)) S.length (q + lenS x.2) (k + x.2.length) (.val (.ptr x.1)) (Tb.app _) app_new gN (fun y hy => ⟨app_at (hx y (by simp [hy])).1, (hx y (by simp [hy])).2⟩) lN cN eN (fun y hy => hE y (by simp [hy])) (oq.add b1) (by grind) qk (by omega)
    have ea : S ++ [shr (norm (T ++ x.2))] ++ O = S ++ ([shr (norm (T ++ x.2))] ++ O) := by rw [List.append_assoc]
    rw [ea] at r1 r2
    have et : q + lenS x.2 + tlen (qs.map (·.2)) = q + tlen ((x :: qs).map (·.2)) := by
      show _ = q + (lenS x.2 + tlen (qs.map (·.2))); grind
    rw [et] at r1
    refine ⟨t', e3', [shr (norm (T ++ x.2))] ++ O, ?_, r2, r3, r4⟩
    rw [← r1, List.map_cons, e_forC]
    have s : tgB (tgN 3) fb_is_shared_1 (.ptr x.1) ⟨[v0, .val (dF q), .val (.ptr t), e3], S⟩ = .nx ⟨[v0, .val (dF (q + lenS x.2)), .val (.ptr S.length), .val (.ptr x.1)], S ++ [shr (norm (T ++ x.2))]⟩ := by
      have h1' := h1
      have ht' := ht
      unfold shr at h1' ht'
      generalize S ++ [shr (norm (T ++ x.2))] = S1 at *
      clear r1 r2 r3 r4 hx
      generalize dF (q + lenS x.2) = d3 at *
      generalize dF (lenS x.2) = d2 at *
      generalize dF q = d1 at *
      simp -implicitDefEqProofs [q_fb_is_shared_1, fl, pl, fp, h1', ht']
    rw [s]
omit hg h2 ha in
theorem nil_share {S : Sto} (T : TbOk S) : F_Share___init__ [.ptr S.length, .lst []] (S ++ [.ins 3 []]) = .val .P .non (S ++ [shr []]) := by
  have i1 := share_init (s := 10) (L := []) (by decide) (fun p m => by simp at m) (by simp) T
  have e : norm [] = [] := can_ext (norm_spec []).1 can_nil fun t => by rw [(norm_spec []).2]
  rw [e] at i1
  exact i1
theorem is_shared_eq {qs : List (Nat × Sp)} {S : Sto} (Tb : TbOk S) (hx : ∀ x ∈ qs, S[x.1]? = some (shr x.2) ∧ Can x.2 ∧ ∀ p ∈ x.2, Gd g p) {E : List Rat} (hE : ∀ x ∈ qs, ∀ e ∈ endsOf x.2, e ∈ E) (hM : E.length ≤ 3000) (hl : spans qs ≤ 8000) (hq : qs.length ≤ 1000) :
    ∃ b O, F_is_shared [.lst (qs.map fun x => D.ptr x.1)] S = .val .P (.bl b) (S ++ O) ∧ (b = true ↔ ∀ x, 0 ≤ x → x < 1 → cnt (qs.map (·.2)) x = 1) := by
  have i0 := nil_share Tb
  have m2 : ∀ y ∈ qs.map (·.2), Can y ∧ In01 y := fun y hy => by
    obtain ⟨x, hx', rfl⟩ := List.mem_map.mp hy
    obtain ⟨_, c, gd⟩ := hx x hx'
    exact ⟨c, fun p hp => ⟨(gd p hp).2.2.1, (gd p hp).2.2.2.1, (gd p hp).2.2.2.2⟩⟩
  obtain ⟨t', e3', O, r1, r2, r3, r4⟩ := is_loop hg h2 ha hM (by decide) (v0 := .val (.lst (qs.map fun x => D.ptr x.1))) qs (S ++ [shr []]) [] S.length 0 0 .emp (Tb.app _) app_new (fun p hp => by simp at hp) (fun x hx' => ⟨app_at (hx x hx').1, (hx x hx').2.2⟩) (by simp) can_nil (fun e he => by simp [endsOf] at he) (fun x hx' => ⟨(hx x hx').2.1, hE x hx'⟩) (Ov.zero g) Rat.le_refl (by decide) (by omega)
  have z : (0 : Rat) + tlen (qs.map (·.2)) = tlen (qs.map (·.2)) := Rat.zero_add _
  rw [z] at r1
  have fl := length_eq hg h2 (by omega) r2 r3 (by omega)
  have si := shared_iff (fun y hy => (m2 y hy).1) (fun y hy => (m2 y hy).2)
  rw [← si]
  have ea : S ++ [shr []] ++ O = S ++ ([shr []] ++ O) := by rw [List.append_assoc]
  have hlq : (qs.map fun x => D.ptr x.1).length ≤ 1000000 := by simp; omega
  refine ⟨decide (tlen (qs.map (·.2)) = 1) && decide (lenS (tog [] (qs.map (·.2))) = 1), [shr []] ++ O, ?_, by simp⟩
  rw [← ea]
  have r2' := r2
  have e1 := @eq_dF (tlen (qs.map (·.2))) 1 (S ++ [shr []] ++ O)
  have e2 := @eq_dF (lenS (tog [] (qs.map (·.2)))) 1 (S ++ [shr []] ++ O)
  clear si m2 hx hl r3 r4 r2
  generalize tlen (qs.map (·.2)) = q1 at *
  generalize lenS (tog [] (qs.map (·.2))) = q2 at *
  generalize S ++ [shr []] ++ O = S2 at *
  generalize hS1 : S ++ [shr []] = S1 at *
  generalize decide (q1 = 1) = b1 at *
  generalize decide (q2 = 1) = b2 at *
  generalize dF q1 = d1 at *
  generalize dF q2 = d2 at *
  generalize (qs.map fun x => D.ptr x.1) = Q at *
  have z0 : dF 0 = .tup [.int 0, .int 1] := rfl
  unfold shr at r2'
  cases b1 <;> simp -implicitDefEqProofs [F_is_shared, g_is_shared, i0, r1, e1, fl, r2', e2]
end
end Is1
theorem law_less_eq {a b : Rat} {m n : Nat} (ha : Sz m a) (hb : Sz n b) (h : m + n < 900000) (st : Sto) : F_law_less [dF a, dF b] st = .val .P (.bl (decide (a < b))) st := by
  have m1 := bit_log2 ha.1 hb.den (by omega)
  have m2 := bit_log2 hb.1 ha.den (by omega)
  simp only [Int.natAbs_natCast] at m1 m2
  simp [F_law_less, g_law_less, m1, m2, lt_num]
mutual
def pub : D → Bool
  | .non | .int _ | .bl _ => true
  | .str x => PyData.strOk x
  | .tup l => pubL l
  | .lst l => pubL l
  | _ => false
def pubL : List D → Bool
  | [] => true
  | d :: l => pub d && pubL l
end
mutual
theorem pub_py : ∀ d, pub d = true → isPy d = true ∧ PyData.canLay0 (py d) = true ∧ PyData.depth (py d) = dep d
  | .non, _ => ⟨rfl, by simp [py, PyData.canLay0], by simp [py, PyData.depth, dep]⟩
  | .int _, _ => ⟨rfl, by simp [py, PyData.canLay0], by simp [py, PyData.depth, dep]⟩
  | .bl _, _ => ⟨rfl, by simp [py, PyData.canLay0], by simp [py, PyData.depth, dep]⟩
  | .str _, h => ⟨rfl, by simpa [py, PyData.canLay0, pub] using h, by simp [py, PyData.depth, dep]⟩
  | .tup l, h => by
    obtain ⟨a, b, c⟩ := pubL_py l (by simpa [pub] using h)
    exact ⟨by simpa [isPy] using a, by simpa [py, PyData.canLay0] using b, by simp [py, PyData.depth, dep, c]⟩
  | .lst l, h => by
    obtain ⟨a, b, c⟩ := pubL_py l (by simpa [pub] using h)
    exact ⟨by simpa [isPy] using a, by simpa [py, PyData.canLay0] using b, by simp [py, PyData.depth, dep, c]⟩
  | .obj _ _, h => by simp [pub] at h
  | .scr _, h => by simp [pub] at h
  | .ptr _, h => by simp [pub] at h
theorem pubL_py : ∀ l, pubL l = true → isPyL l = true ∧ PyData.canLayAll0 (pyL l) = true ∧ PyData.depthAll (pyL l) = depL l
  | [], _ => ⟨rfl, by simp [pyL, PyData.canLayAll0], by simp [pyL, PyData.depthAll, depL]⟩
  | d :: l, h => by
    have h' : pub d = true ∧ pubL l = true := by simpa [pubL] using h
    obtain ⟨a, b, c⟩ := pub_py d h'.1
    obtain ⟨a', b', c'⟩ := pubL_py l h'.2
    exact ⟨by simp [isPyL, a, a'], by simp [pyL, PyData.canLayAll0, b, b'], by simp [pyL, PyData.depthAll, depL, c, c']⟩
end
mutual
theorem eqv_self : ∀ a, pub a = true → PyData.eqv (py a) (py a) = true
  | .non, _ => by simp [py, PyData.eqv]
  | .int _, _ => by simp [py, PyData.eqv]
  | .bl b, _ => by cases b <;> simp [py, PyData.eqv]
  | .str _, _ => by simp [py, PyData.eqv]
  | .tup l, h => by
    have := eqvL_self l (by simpa [pub] using h)
    simpa [py, PyData.eqv] using this
  | .lst l, h => by
    have := eqvL_self l (by simpa [pub] using h)
    simpa [py, PyData.eqv] using this
  | .obj _ _, h => by simp [pub] at h
  | .scr _, h => by simp [pub] at h
  | .ptr _, h => by simp [pub] at h
theorem eqvL_self : ∀ l, pubL l = true → PyData.eqvAll (pyL l) (pyL l) = true
  | [], _ => by simp [pyL, PyData.eqvAll]
  | a :: l, h => by
    have h1 : pub a = true ∧ pubL l = true := by simpa [pubL] using h
    simp only [pyL, PyData.eqvAll, Bool.and_eq_true]
    exact ⟨eqv_self a h1.1, eqvL_self l h1.2⟩
end
mutual
theorem pub_of : ∀ d, pur d = true → pub d = true
  | .non, _ => rfl
  | .int _, _ => rfl
  | .str _, h => h
  | .tup l, h => pubL_of l h
  | .lst l, h => pubL_of l h
  | .bl _, h => by simp [pur] at h
  | .obj _ _, h => by simp [pur] at h
  | .scr _, h => by simp [pur] at h
  | .ptr _, h => by simp [pur] at h
theorem pubL_of : ∀ l, purL l = true → pubL l = true
  | [], _ => rfl
  | a :: l, h => by
    have h1 : pur a = true ∧ purL l = true := by simpa [purL] using h
    simp only [pubL, Bool.and_eq_true]
    exact ⟨pub_of a h1.1, pubL_of l h1.2⟩
end
theorem in_any (q : Rat) : ∀ l : List Rat, (pyL (l.map dF)).any (fun z => PyData.eqv z (py (dF q))) = decide (q ∈ l)
  | [] => rfl
  | a :: l => by
    have ih := in_any q l
    have e := eqv_pur (dF a) (dF q) (pur_dF a) (pur_dF q)
    rw [dF_inj] at e
    have e2 : PyData.eqv (py (dF a)) (py (dF q)) = decide (q = a) := by
      rw [Bool.eq_iff_iff, e, decide_eq_true_eq]; exact ⟨Eq.symm, Eq.symm⟩
    simp only [List.map_cons, pyL, List.any_cons, e2, ih, List.mem_cons, Bool.decide_or]
theorem purL_dF : ∀ l : List Rat, purL (l.map dF) = true ∧ depL (l.map dF) ≤ 1
  | [] => ⟨rfl, by simp [depL]⟩
  | a :: l => by
    obtain ⟨h1, h2⟩ := purL_dF l
    exact ⟨by simp only [List.map_cons, purL, pur_dF, h1, Bool.and_true], by simp only [List.map_cons, depL, dep, dF]; omega⟩
theorem in_dF (q : Rat) (l : List Rat) : inL (dF q) (l.map dF) = some (decide (q ∈ l)) := by
  obtain ⟨h1, h2⟩ := purL_dF l
  obtain ⟨a1, a2, a3⟩ := pub_py (dF q) (pub_of _ (pur_dF q))
  obtain ⟨b1, b2, b3⟩ := pubL_py (l.map dF) (pubL_of _ h1)
  unfold inL
  rw [if_pos ⟨a1, b1, by simp [SeqAt.shaped, a2, a3]; simp [dF, dep, depL], by simp [SeqAt.shaped, PyData.canLay0, b2, PyData.depth, b3]; omega⟩, in_any]
namespace Is1
section
variable {v0 : SL} {st : Sto}
theorem rise_step {q : Rat} {l : List Rat} {s : Nat} (hl : ∀ a ∈ l, Sz s a) (hq : Sz s q) (hs : s ≤ 4000) (hR : Ris l) (hn : l.length ≤ 1000) {v3 : SL} : ∃ v3', fb_law_rising_3 ⟨[v0, .own (l.map dF), .val (dF q), v3, .emp], st⟩ = .nx ⟨[v0, .own ((ins q l).map dF), .val (dF q), v3', .emp], st⟩ := by
  have hin := in_dF q l
  by_cases m : q ∈ l
  · have hi : ins q l = l := if_pos m
    rw [decide_eq_true m] at hin
    rw [hi]
    refine ⟨v3, ?_⟩
    generalize l.map dF = LL at *
    generalize dF q = dq at *
    simp -implicitDefEqProofs [q_fb_law_rising_3, hin]
  · rw [decide_eq_false m] at hin
    have hi : ins q l = l.take (ahead q l) ++ q :: l.drop (ahead q l) := if_neg m
    have hle := ahead_le q l
    have go : lcGo (lcStep (tgN 4) ct_law_rising_2 ce_law_rising_1 [v0, .own (l.map dF), .val (dF q), v3, .emp]) (l.map dF) st = some ((l.filter fun a => decide (a < q)).map dF, st) := by
      refine lc_filter fun a ma => ?_
      have f := law_less_eq (hl a ma) hq (by omega) st
      by_cases c : a < q
      · rw [decide_eq_true c] at f
        simp -implicitDefEqProofs [lcStep, q_ct_law_rising_2, q_ce_law_rising_1, f, c]
      · rw [decide_eq_false c] at f
        simp -implicitDefEqProofs [lcStep, q_ct_law_rising_2, q_ce_law_rising_1, f, c]
    have hfl : ((((l.filter fun a => decide (a < q)).map dF).length : Nat) : Int) = ((ahead q l : Nat) : Int) := by rw [List.length_map, ris_filter hR]
    have hll : (l.map dF).length ≤ 1000000 := by simp; omega
    have hll2 : (l.map dF).length < 1000000 := by simp; omega
    have h63 : ((ahead q l : Nat) : Int) < 2 ^ 63 := Int.lt_of_le_of_lt (by omega : ((ahead q l : Nat) : Int) ≤ 1000) (by decide)
    have h0 : (0 : Int) ≤ ((ahead q l : Nat) : Int) := by omega
    have hT : ((ahead q l : Nat) : Int).toNat = ahead q l := Int.toNat_natCast _
    have hm : (ins q l).map dF = (l.map dF).take (ahead q l) ++ dF q :: (l.map dF).drop (ahead q l) := by
      rw [hi]; simp [List.map_take, List.map_drop]
    have hmi : mInsert (l.map dF) [.int ((ahead q l : Nat) : Int), dF q] = some (.non, (ins q l).map dF) := by
      unfold mInsert
      simp only
      rw [if_pos ⟨hll2, h0, h63⟩, hT, hm]
      simp
    generalize ((ahead q l : Nat) : Int) = ai at *
    generalize (ins q l).map dF = IL at *
    generalize (l.filter fun a => decide (a < q)).map dF = FL at *
    generalize l.map dF = LL at *
    generalize dF q = dq at *
    refine ⟨.val (.int ai), ?_⟩
    simp -implicitDefEqProofs [q_fb_law_rising_3, hin, hll, go, hfl, hmi, -e_mInsert]
theorem rise_loop {s : Nat} (hs : s ≤ 4000) : ∀ (L l : List Rat) (v2 v3 : SL), (∀ a ∈ L, Sz s a) → (∀ a ∈ l, Sz s a) → Ris l → l.length + L.length ≤ 900 → ∃ v2' v3', forD (tgB (tgN 2) fb_law_rising_3) (L.map dF) ⟨[v0, .own (l.map dF), v2, v3, .emp], st⟩ = .nx ⟨[v0, .own ((insAll l L).map dF), v2', v3', .emp], st⟩
  | [], l, v2, v3, _, _, _, _ => ⟨v2, v3, by
      have e : insAll l [] = l := rfl
      rw [e]
      generalize l.map dF = LL
      simp -implicitDefEqProofs⟩
  | p :: L, l, v2, v3, hz, hl, hR, hn => by
    rw [List.length_cons] at hn
    have z1 := hz p (by simp)
    obtain ⟨a3, s1⟩ := rise_step (v0 := v0) (st := st) hl z1 hs hR (by omega) (v3 := v3)
    have il := insAll_len [p] l
    have e1 : insAll l [p] = ins p l := rfl
    rw [e1] at il
    obtain ⟨c2, c3, r⟩ := rise_loop hs L (ins p l) (.val (dF p)) a3 (fun q hq => hz q (by simp [hq])) (fun a ha => by
      rcases mem_ins.mp ha with rfl | ha
      · exact z1
      · exact hl a ha) (ris_ins hR) (by simp at il; omega)
    refine ⟨c2, c3, ?_⟩
    have ee : insAll l (p :: L) = insAll (ins p l) L := rfl
    have s2 : tgB (tgN 2) fb_law_rising_3 (dF p) ⟨[v0, .own (l.map dF), v2, v3, .emp], st⟩ = fb_law_rising_3 ⟨[v0, .own (l.map dF), .val (dF p), v3, .emp], st⟩ := rfl
    rw [ee, ← r, List.map_cons, e_forC, s2, s1]
end
theorem rising_eq {s : Nat} (hs : s ≤ 4000) {L : List Rat} (hz : ∀ a ∈ L, Sz s a) (hn : L.length ≤ 900) (st : Sto) : F_law_rising [.lst (L.map dF)] st = .val .N (.lst ((insAll [] L).map dF)) st := by
  obtain ⟨a2, a3, r⟩ := rise_loop (v0 := .val (.lst (L.map dF))) (st := st) hs L [] .emp .emp hz (fun a h => by simp at h) (by unfold Ris; simp) (by simpa using hn)
  have hl : (L.map dF).length ≤ 1000000 := by simp; omega
  rw [List.map_nil] at r
  generalize (insAll [] L).map dF = X at *
  generalize L.map dF = LD at *
  simp -implicitDefEqProofs [F_law_rising, g_law_rising, r]
end Is1
namespace Is1
def ends : List Sp → List Rat
  | [] => []
  | L :: l => endsOf L ++ ends l
theorem ends_mem {x : Rat} : ∀ {l : List Sp}, x ∈ ends l ↔ ∃ L ∈ l, x ∈ endsOf L
  | [] => by simp [ends]
  | L :: l => by simp only [ends, List.mem_append, ends_mem (l := l), List.mem_cons]; grind
theorem fp_nil {n : Nat} {L : List D} {b : D → En → SR} {e : DE} {st : Sto} (h : stLst st n = some L) : forPD n L b [] ⟨e, st⟩ = .nx ⟨e, st⟩ := by unfold forPD; rw [if_pos h]
theorem fp_nx {n : Nat} {L : List D} {b : D → En → SR} {x : D} {xs : List D} {e : DE} {st : Sto} {E' : En} (h : stLst st n = some L) (s : b x ⟨e, st⟩ = .nx E') : forPD n L b (x :: xs) ⟨e, st⟩ = forPD n L b xs E' := by
  conv => lhs; unfold forPD
  rw [if_pos h, s]
open Classical in
theorem lcC_map {α : Type} {C : Sto → Prop} {k : D → Sto → Option (Option D × Sto)} {enc f : α → D} {st : Sto} (hC : C st) : ∀ {l : List α}, (∀ a ∈ l, k (enc a) st = some (some (f a), st)) → lcGoC C k (l.map enc) st = some (l.map f, st)
  | [], _ => by
    show (if C st then some ([], st) else none) = _
    rw [if_pos hC]; rfl
  | a :: l, h => by
    show (if C st then (k (enc a) st).bind fun o => (lcGoC C k (l.map enc) o.2).bind fun r => some (o.1.toList ++ r.1, r.2) else none) = _
    rw [if_pos hC, h a (List.mem_cons_self ..)]
    have ih := lcC_map (k := k) (enc := enc) (f := f) hC (l := l) fun b hb => h b (List.mem_cons_of_mem _ hb)
    simp only [Option.bind_some, ih, Option.toList_some, List.map_cons]
    rfl
structure RwAt (R : Nat) (qs : List (Nat × Sp)) (st : Sto) : Prop where
  li : st[R]? = some (.lst (qs.map fun x => D.ptr x.1))
  at_ : ∀ x ∈ qs, st[x.1]? = some (.lst (x.2.map dPair))
theorem RwAt.lst {R : Nat} {qs : List (Nat × Sp)} {st : Sto} (h : RwAt R qs st) : stLst st R = some (qs.map fun x => D.ptr x.1) := by rw [e_stLst, h.li]
theorem RwAt.row {R : Nat} {qs : List (Nat × Sp)} {st : Sto} (h : RwAt R qs st) {x : Nat × Sp} (m : x ∈ qs) : stLst st x.1 = some (x.2.map dPair) := by rw [e_stLst, h.at_ x m]
section
variable {v0 v4 v5 v6 v7 v8 v9 : SL} {st : Sto} {R : Nat} {qs : List (Nat × Sp)} (hRw : RwAt R qs st)
theorem ext_row {n : Nat} {LL : List D} {v2 : SL} (h : stLst st n = some LL) : ∀ (L : Sp) (l : List Rat) (v3 : SL), l.length + 2 * L.length ≤ 100000 → ∃ v3', forPD n LL (tgB (tgN 3) fb_law_due_1) (L.map dPair) ⟨[v0, .own (l.map dF), v2, v3, v4, v5, v6, v7, v8, v9], st⟩ = .nx ⟨[v0, .own ((l ++ endsOf L).map dF), v2, v3', v4, v5, v6, v7, v8, v9], st⟩
  | [], l, v3, _ => ⟨v3, by rw [List.map_nil, fp_nil h]; simp [endsOf]⟩
  | p :: L, l, v3, hn => by
    rw [List.length_cons] at hn
    obtain ⟨w3, r⟩ := ext_row (v2 := v2) h L (l ++ [p.1, p.2]) (.val (dPair p)) (by simp; omega)
    refine ⟨w3, ?_⟩
    have ee : l ++ endsOf (p :: L) = l ++ [p.1, p.2] ++ endsOf L := by
      show l ++ (p.1 :: p.2 :: endsOf L) = _
      simp
    have s : tgB (tgN 3) fb_law_due_1 (dPair p) ⟨[v0, .own (l.map dF), v2, v3, v4, v5, v6, v7, v8, v9], st⟩ = .nx ⟨[v0, .own ((l ++ [p.1, p.2]).map dF), v2, .val (dPair p), v4, v5, v6, v7, v8, v9], st⟩ := by
      have k1 : (l.map dF).length + 2 ≤ 1000000 := by rw [List.length_map]; omega
      rw [List.map_append]
      have e2 : [p.1, p.2].map dF = [dF p.1, dF p.2] := rfl
      rw [e2]
      unfold dPair
      clear r ee
      generalize dF p.1 = d1 at *
      generalize dF p.2 = d2 at *
      generalize l.map dF = LD at *
      simp -implicitDefEqProofs [q_fb_law_due_1, k1]
    rw [ee, ← r, List.map_cons, fp_nx h s]
theorem ext_all (hRw : RwAt R qs st) : ∀ (q2 : List (Nat × Sp)) (l : List Rat) (v2 v3 : SL), (∀ x ∈ q2, x ∈ qs) → l.length + (ends (q2.map (·.2))).length ≤ 100000 → ∃ v2' v3', forPD R (qs.map fun x => D.ptr x.1) (tgB (tgN 2) fb_law_due_2) (q2.map fun x => D.ptr x.1) ⟨[v0, .own (l.map dF), v2, v3, v4, v5, v6, v7, v8, v9], st⟩ = .nx ⟨[v0, .own ((l ++ ends (q2.map (·.2))).map dF), v2', v3', v4, v5, v6, v7, v8, v9], st⟩
  | [], l, v2, v3, _, _ => ⟨v2, v3, by rw [List.map_nil, fp_nil hRw.lst]; simp [ends]⟩
  | x :: q2, l, v2, v3, hs, hn => by
    have he : ends ((x :: q2).map (·.2)) = endsOf x.2 ++ ends (q2.map (·.2)) := rfl
    rw [he, List.length_append] at hn
    have el := ends_len x.2
    have hx := hRw.row (hs x (by simp))
    obtain ⟨w3, r1⟩ := ext_row (v0 := v0) (v4 := v4) (v5 := v5) (v6 := v6) (v7 := v7) (v8 := v8) (v9 := v9) (v2 := .val (.ptr x.1)) hx x.2 l v3 (by omega)
    obtain ⟨u2, u3, r2⟩ := ext_all hRw q2 (l ++ endsOf x.2) (.val (.ptr x.1)) w3 (fun y hy => hs y (by simp [hy])) (by rw [List.length_append]; omega)
    refine ⟨u2, u3, ?_⟩
    have s : tgB (tgN 2) fb_law_due_2 (.ptr x.1) ⟨[v0, .own (l.map dF), v2, v3, v4, v5, v6, v7, v8, v9], st⟩ = .nx ⟨[v0, .own ((l ++ endsOf x.2).map dF), .val (.ptr x.1), w3, v4, v5, v6, v7, v8, v9], st⟩ := by
      have hx' := hRw.at_ x (hs x (by simp))
      clear r2 he hx
      generalize (l ++ endsOf x.2).map dF = L2 at *
      generalize l.map dF = L1 at *
      generalize x.2.map dPair = XD at *
      simp -implicitDefEqProofs [q_fb_law_due_2, hx', r1]
    rw [he, ← List.append_assoc, ← r2, List.map_cons, fp_nx hRw.lst s]
end
section
variable {v0 v1 v3 v8 v9 : SL} {st : Sto} {a b : Rat} {s : Nat} {R : Nat} {qs : List (Nat × Sp)}
theorem held_step (ha : Sz s a) (hb : Sz s b) (hs : s ≤ 4000) {n : Nat} {L : Sp} (hr : st[n]? = some (.lst (L.map dPair))) (hz : SzL s L) (hn : L.length ≤ 1000) {h : Int} {v2 v7 : SL} : ∃ v7', tgB (tgN 2) fb_law_due_4 (.ptr n) ⟨[v0, v1, v2, v3, .val (dF a), .val (dF b), .val (.int h), v7, .emp, .emp], st⟩ = .nx ⟨[v0, v1, .val (.ptr n), v3, .val (dF a), .val (dF b), .val (.int (h + if cvr L a b = true then 1 else 0)), v7', .emp, .emp], st⟩ := by
  have hst : stLst st n = some (L.map dPair) := by rw [e_stLst, hr]
  have lc : lcGoC (fun st => stLst st n = some (L.map dPair)) (lcStep (tgT 2 (tgsCons (tgN 8) (tgsCons (tgN 9) tgsNil))) (fun E => ER.val Md.P (D.bl true) E.st) ce_law_due_3 [v0, v1, .val (.ptr n), v3, .val (dF a), .val (dF b), .val (.int h), v7, .emp, .emp]) (L.map dPair) st = some (L.map (fun p => D.bl (!decide (a < p.1) && !decide (p.2 < b))), st) := by
    refine lcC_map hst fun p hp => ?_
    obtain ⟨z1, z2⟩ := hz p hp
    have f1 := law_less_eq ha z1 (by omega) st
    have f2 := law_less_eq z2 hb (by omega) st
    unfold dPair
    clear hst hr
    generalize decide (a < p.1) = b1 at *
    generalize decide (p.2 < b) = b2 at *
    generalize dF a = da at *
    generalize dF b = db at *
    generalize dF p.1 = d1 at *
    generalize dF p.2 = d2 at *
    cases b1 <;> cases b2 <;> simp -implicitDefEqProofs [q_ce_law_due_3, f1, f2]
  have bo : boolsOf (L.map (fun p : Rat × Rat => D.bl (!decide (a < p.1) && !decide (p.2 < b)))) = some (L.map fun p => !decide (a < p.1) && !decide (p.2 < b)) := boolsOf_map (fun p : Rat × Rat => !decide (a < p.1) && !decide (p.2 < b)) L
  have an : (L.map fun p => !decide (a < p.1) && !decide (p.2 < b)).any id = cvr L a b := by rw [List.any_map]; rfl
  have hl : (L.map dPair).length ≤ 1000000 := by simp; omega
  clear hst
  generalize cvr L a b = cb at *
  refine ⟨.val (.lst (L.map (fun p => D.bl (!decide (a < p.1) && !decide (p.2 < b))))), ?_⟩
  generalize L.map (fun p => D.bl (!decide (a < p.1) && !decide (p.2 < b))) = BD at *
  generalize (L.map fun p => !decide (a < p.1) && !decide (p.2 < b)) = BB at *
  generalize L.map dPair = LD at *
  generalize dF a = da at *
  generalize dF b = db at *
  simp only [e_stLst] at lc
  cases cb <;> simp -implicitDefEqProofs [q_fb_law_due_4, hr, lc, hl, bo, an]
theorem held_loop (ha : Sz s a) (hb : Sz s b) (hs : s ≤ 4000) (hRw : RwAt R qs st) (hz : ∀ x ∈ qs, SzL s x.2 ∧ x.2.length ≤ 1000) : ∀ (q2 : List (Nat × Sp)) (h : Int) (v2 v7 : SL), (∀ x ∈ q2, x ∈ qs) → ∃ v2' v7', forPD R (qs.map fun x => D.ptr x.1) (tgB (tgN 2) fb_law_due_4) (q2.map fun x => D.ptr x.1) ⟨[v0, v1, v2, v3, .val (dF a), .val (dF b), .val (.int h), v7, .emp, .emp], st⟩ = .nx ⟨[v0, v1, v2', v3, .val (dF a), .val (dF b), .val (.int (h + (holders (q2.map (·.2)) (a, b) : Nat))), v7', .emp, .emp], st⟩
  | [], h, v2, v7, _ => ⟨v2, v7, by
      have e : h + ((holders [] (a, b) : Nat) : Int) = h := by show h + ((0 : Nat) : Int) = h; omega
      rw [List.map_nil, List.map_nil, e, fp_nil hRw.lst]⟩
  | x :: q2, h, v2, v7, hin => by
    obtain ⟨z1, z2⟩ := hz x (hin x (by simp))
    obtain ⟨a7, s1⟩ := held_step (v0 := v0) (v1 := v1) (v3 := v3) (st := st) ha hb hs (hRw.at_ x (hin x (by simp))) z1 z2 (h := h) (v2 := v2) (v7 := v7)
    obtain ⟨b2, b7, r⟩ := held_loop ha hb hs hRw hz q2 (h + if cvr x.2 a b = true then 1 else 0) (.val (.ptr x.1)) a7 fun y hy => hin y (by simp [hy])
    refine ⟨b2, b7, ?_⟩
    have e : h + ((holders ((x :: q2).map (·.2)) (a, b) : Nat) : Int) = (h + if cvr x.2 a b = true then 1 else 0) + ((holders (q2.map (·.2)) (a, b) : Nat) : Int) := by
      show h + (((if cvr x.2 a b = true then 1 else 0) + holders (q2.map (·.2)) (a, b) : Nat) : Int) = _
      by_cases c : cvr x.2 a b = true
      · rw [if_pos c, if_pos c]; omega
      · rw [if_neg c, if_neg c]; omega
    rw [e, ← r, List.map_cons, fp_nx hRw.lst s1]
end
end Is1
theorem for_find {α : Type} {good : α → Prop} {I : En → Prop} {Q : Md → D → Sto → Prop} {b : D → En → SR} {enc : α → D} : ∀ (l : List α), (∀ a ∈ l, ∀ E, I E → (good a → ∃ m d st, b (enc a) E = .rt m d st ∧ Q m d st) ∧ (¬ good a → ∃ E', b (enc a) E = .nx E' ∧ I E')) → ∀ E, I E →
    ((∃ a ∈ l, good a) → ∃ m d st, forD b (l.map enc) E = .rt m d st ∧ Q m d st) ∧ ((¬ ∃ a ∈ l, good a) → ∃ E', forD b (l.map enc) E = .nx E' ∧ I E')
  | [], _, E, hE => ⟨fun ⟨a, h, _⟩ => by simp at h, fun _ => ⟨E, rfl, hE⟩⟩
  | a :: l, h, E, hE => by
    obtain ⟨h1, h2⟩ := h a (by simp) E hE
    by_cases g : good a
    · refine ⟨fun _ => ?_, fun z => absurd ⟨a, by simp, g⟩ z⟩
      obtain ⟨m, d, st, e, q⟩ := h1 g
      exact ⟨m, d, st, by rw [List.map_cons, e_forC, e], q⟩
    · obtain ⟨E', e, i'⟩ := h2 g
      obtain ⟨k1, k2⟩ := for_find l (fun x hx => h x (by simp [hx])) E' i'
      refine ⟨fun ⟨x, hx, gx⟩ => ?_, fun z => ?_⟩
      · have : ∃ a ∈ l, good a := by
          rcases List.mem_cons.mp hx with rfl | hx
          · exact absurd gx g
          · exact ⟨x, hx, gx⟩
        obtain ⟨m, d, st, e2, q⟩ := k1 this
        exact ⟨m, d, st, by rw [List.map_cons, e_forC, e]; exact e2, q⟩
      · obtain ⟨E2, e2, i2⟩ := k2 fun ⟨x, hx, gx⟩ => z ⟨x, by simp [hx], gx⟩
        exact ⟨E2, by rw [List.map_cons, e_forC, e]; exact e2, i2⟩
namespace Is1
theorem rlen : ∀ qs : List (Nat × Sp), (ends (qs.map (·.2))).length = 2 * spans qs
  | [] => rfl
  | x :: qs => by
    show (endsOf x.2 ++ ends (qs.map (·.2))).length = 2 * (x.2.length + spans qs)
    rw [List.length_append, rlen qs, ends_len]; omega
theorem spans_le {x : Nat × Sp} : ∀ {qs : List (Nat × Sp)}, x ∈ qs → x.2.length ≤ spans qs
  | y :: qs, h => by
    show _ ≤ y.2.length + spans qs
    rcases List.mem_cons.mp h with rfl | h
    · omega
    · have := spans_le h; omega
theorem law_due_eq {g : Int} {s : Nat} (hg : 0 < g) (h2 : g.natAbs < 2 ^ s) (hs : s ≤ 3000) (h13 : 1 ≤ s) {R : Nat} {qs : List (Nat × Sp)} {st : Sto} (hRw : RwAt R qs st) (hG : ∀ x ∈ qs, ∀ p ∈ x.2, Gd g p) (hlen : spans qs ≤ 400) :
    ∃ b, F_law_due [.ptr R] st = .val .P (.bl b) st ∧ (b = true ↔ ∀ x, 0 ≤ x → x < 1 → cnt (qs.map (·.2)) x = 1) := by
  have hz : ∀ x ∈ qs, SzL s x.2 := fun L hL p hp => (hG L hL p hp).sz hg h2
  obtain ⟨s', rfl⟩ : ∃ s', s = s' + 1 := ⟨s - 1, by omega⟩
  have rl := rlen qs
  obtain ⟨a2, a3, r1⟩ := ext_all (v0 := .val (.ptr R)) (v4 := .emp) (v5 := .emp) (v6 := .emp) (v7 := .emp) (v8 := .emp) (v9 := .emp) hRw qs [0, 1] .emp .emp (fun _ h => h) (by show 2 + _ ≤ 100000; omega)
  have ez : ∀ e ∈ ends (qs.map (·.2)), Sz (s' + 1) e ∧ 0 ≤ e ∧ e ≤ 1 := fun e he => by
    obtain ⟨L, hL, he⟩ := ends_mem.mp he
    obtain ⟨x, hx, rfl⟩ := List.mem_map.mp hL
    obtain ⟨p, hp, e'⟩ := mem_ends.mp he
    obtain ⟨_, _, b1, b2, b3⟩ := hG x hx p hp
    obtain ⟨z1, z2⟩ := hz x hx p hp
    rcases e' with rfl | rfl
    · exact ⟨z1, b1, Rat.le_trans b2 b3⟩
    · exact ⟨z2, Rat.le_trans b1 b2, b3⟩
  have lz : ∀ e ∈ [0, 1] ++ ends (qs.map (·.2)), Sz (s' + 1) e := fun e he => by
    rcases List.mem_append.mp he with he | he
    · simp only [List.mem_cons, List.not_mem_nil, or_false] at he
      rcases he with rfl | rfl
      · exact sz0
      · exact sz1
    · exact (ez e he).1
  have ri := rising_eq (s := s' + 1) (by omega) lz (by simp only [List.length_append, List.length_cons, List.length_nil]; omega) st
  have hP : Ris (insAll [] ([0, 1] ++ ends (qs.map (·.2)))) := insAll_ris (by unfold Ris; simp)
  have pm : ∀ {u : Rat}, u ∈ insAll [] ([0, 1] ++ ends (qs.map (·.2))) ↔ u = 0 ∨ u = 1 ∨ u ∈ ends (qs.map (·.2)) := fun {u} => by
    rw [insAll_mem]; simp
  have il := insAll_len ([0, 1] ++ ends (qs.map (·.2))) ([] : List Rat)
  simp only [List.length_append, List.length_cons, List.length_nil] at il
  have pin : ∀ u ∈ insAll [] ([0, 1] ++ ends (qs.map (·.2))), 0 ≤ u ∧ u ≤ 1 ∧ Sz (s' + 1) u := fun u hu => by
    rcases pm.mp hu with rfl | rfl | hu
    · exact ⟨Rat.le_refl, by decide, sz0⟩
    · exact ⟨by decide, Rat.le_refl, sz1⟩
    · obtain ⟨a, b, c⟩ := ez u hu; exact ⟨b, c, a⟩
  have ci := cells_iff (l := qs.map (·.2)) hP (pm.mpr (.inl rfl)) (pm.mpr (.inr (.inl rfl))) (fun u hu => ⟨(pin u hu).1, (pin u hu).2.1⟩) fun L hL e he => pm.mpr (.inr (.inr (ends_mem.mpr ⟨L, hL, he⟩)))
  have i01 : ([0, 1] : List Rat).map dF = [dF 0, dF 1] := rfl
  rw [i01] at r1
  generalize [0, 1] ++ ends (qs.map (·.2)) = EL at *
  generalize insAll [] EL = P at *
  have ff := for_find (good := fun ab : Rat × Rat => ¬ holders (qs.map (·.2)) ab = 1) (I := fun e => ∃ u2 u4 u5 u6 u7, e = ⟨[.val (.ptr R), .val (.lst (P.map dF)), u2, a3, u4, u5, u6, u7, .emp, .emp], st⟩) (Q := fun m d st' => m = .P ∧ d = .bl false ∧ st' = st) (b := tgB (tgT 2 (tgsCons (tgN 4) (tgsCons (tgN 5) tgsNil))) fb_law_due_5) (enc := dPair) (adj P) (fun ab hab e he => by
    obtain ⟨u2, u4, u5, u6, u7, rfl⟩ := he
    obtain ⟨m1, m2, _, _⟩ := adj_in hP ab hab
    obtain ⟨b2, b7, hl⟩ := held_loop (v0 := .val (.ptr R)) (v1 := .val (.lst (P.map dF))) (v3 := a3) (st := st) (pin _ m1).2.2 (pin _ m2).2.2 (show s' + 1 ≤ 4000 by omega) hRw (fun x hx => ⟨hz x hx, by have := spans_le hx; omega⟩) qs 0 u2 u7 fun _ h => h
    rw [Int.zero_add] at hl
    have hR := hRw.li
    obtain ⟨x, y⟩ := ab
    generalize holders (qs.map (·.2)) (x, y) = hn at *
    unfold dPair
    clear r1 ci m1 m2 hab pin
    generalize dF x = dx at *
    generalize dF y = dy at *
    generalize (qs.map fun x => D.ptr x.1) = QD at *
    generalize P.map dF = PD at *
    constructor
    · intro c
      refine ⟨.P, .bl false, st, ?_, rfl, rfl, rfl⟩
      have c' : ¬ ((hn : Int) = 1) := by omega
      generalize (hn : Int) = hi at *
      simp -implicitDefEqProofs [q_fb_law_due_5, hR, hl, c']
    · intro c
      have c' : (hn : Int) = 1 := by omega
      rw [c'] at hl
      refine ⟨_, ?_, b2, .val dx, .val dy, .val (.int 1), b7, rfl⟩
      simp -implicitDefEqProofs [q_fb_law_due_5, hR, hl]) ⟨[.val (.ptr R), .val (.lst (P.map dF)), a2, a3, .emp, .emp, .emp, .emp, .emp, .emp], st⟩ ⟨_, _, _, _, _, rfl⟩
  have zt := zip_tail P
  have hc1 : cutG (P.map dF) (some 1) none = (P.map dF).tail := by rw [cut_from _ (by decide)]; simp
  have hlp : (P.map dF).length ≤ 1000000 := by simp; omega
  have hR := hRw.li
  by_cases q : ∃ ab ∈ adj P, ¬ holders (qs.map (·.2)) ab = 1
  · obtain ⟨m, d, st', r2, rfl, rfl, rfl⟩ := ff.1 q
    refine ⟨false, ?_, ⟨fun z => (nomatch z), fun k => by obtain ⟨ab, hab, hh⟩ := q; exact absurd (ci.mpr k ab hab) hh⟩⟩
    clear ff ci lz ez pm pin
    generalize (adj P).map dPair = AD at *
    generalize (qs.map fun x => D.ptr x.1) = QD at *
    generalize P.map dF = PD at *
    generalize EL.map dF = ED at *
    simp -implicitDefEqProofs [F_law_due, g_law_due, hR, r1, ri, hc1, zt, r2]
  · obtain ⟨E', r2, u2, u4, u5, u6, u7, rfl⟩ := ff.2 q
    refine ⟨true, ?_, ⟨fun _ => ci.mp fun ab hab => Classical.byContradiction fun c => q ⟨ab, hab, c⟩, fun _ => rfl⟩⟩
    clear ff ci lz ez pm pin
    generalize (adj P).map dPair = AD at *
    generalize (qs.map fun x => D.ptr x.1) = QD at *
    generalize P.map dF = PD at *
    generalize EL.map dF = ED at *
    simp -implicitDefEqProofs [F_law_due, g_law_due, hR, r1, ri, hc1, zt, r2]
end Is1
namespace Is1
def gg : Int := 300000000000000000000
theorem gg_ok : 0 < gg ∧ gg.natAbs < 2 ^ 70 := by decide +kernel
def Pl (q : Rat) : Prop := Ov gg q ∧ 0 ≤ q ∧ q ≤ 1
theorem pl0 : Pl 0 := ⟨Ov.zero _, Rat.le_refl, by decide⟩
theorem pl1 : Pl 1 := ⟨Ov.one _, by decide, Rat.le_refl⟩
theorem Pl.sz {q : Rat} (h : Pl q) : Sz 70 q := by
  have := h.1.sz (b := 0) gg_ok.1 gg_ok.2 h.2.1 (by exact h.2.2)
  exact this
theorem pl_of {t b c : Int} (hb : 0 < b) (hc : gg = b * c) (t0 : 0 ≤ t) (tb : t ≤ b) : Pl (Rat.divInt t b) := by
  have o := (Ov.qf hb t).mul (E := c)
  rw [← hc] at o
  refine ⟨o, Rat.divInt_nonneg t0 (by omega), ?_⟩
  have bp : (0 : Rat) < (b : Rat) := Rat.intCast_pos.mpr hb
  have e : Rat.divInt t b * (b : Rat) = (t : Rat) := by rw [Rat.divInt_eq_div]; exact Rat.div_mul_cancel (by grind)
  have le : (t : Rat) ≤ (b : Rat) := Rat.intCast_le_intCast.mpr tb
  apply Classical.byContradiction
  intro n
  have n := Rat.not_le.mp n
  have := Rat.mul_lt_mul_of_pos_right n bp
  grind
theorem gd_of {a b : Rat} (ha : Pl a) (hb : Pl b) (h : a ≤ b) : Gd gg (a, b) := ⟨ha.1, hb.1, ha.2.1, h, hb.2.2⟩
theorem any_run {p : Nat} {r b t : Int} {d : D} {st st1 st2 : Sto} (t1 : F_law_take [.ptr p, .int 4] st = .val .P (.int r) st1) (ix : atI [D.int 2, .int 12, .int 60, .int 100000000000000000000] r = some (.int b)) (t2 : F_law_take [.ptr p, .int (b + 1)] st1 = .val .P (.int t) st2) (lo : F_law_lowest [.int t, .int b] st2 = .val .P d st2) : F_law_any_place [.ptr p] st = .val .P d st2 := by
  simp -implicitDefEqProofs [F_law_any_place, g_law_any_place, t1, ix, t2, lo]
theorem any_ok {p N : Nat} {st : Sto} (B : TBox p N st) (hN : N ≤ 2000) : ∃ q st', F_law_any_place [.ptr p] st = .val .P (dF q) st' ∧ Pl q ∧ TBox p (N + 2) st' ∧ Rest1 p st st' := by
  obtain ⟨r, st1, t1, r0, r1, B1, R1⟩ := take_ok B (n := 4) (by decide) (by decide) (by omega)
  have go : ∀ (b c : Int), 0 < b → b ≤ 100000000000000000000 → gg = b * c → atI [D.int 2, .int 12, .int 60, .int 100000000000000000000] r = some (.int b) → ∃ q st', F_law_any_place [.ptr p] st = .val .P (dF q) st' ∧ Pl q ∧ TBox p (N + 2) st' ∧ Rest1 p st st' := fun b c hb hb2 hc ix => by
    obtain ⟨t, st2, t2, u0, u1, B2, R2⟩ := take_ok B1 (n := b + 1) (by omega) (Int.lt_of_le_of_lt (b := 100000000000000000001) (by omega) (by decide +kernel)) (by omega)
    exact ⟨_, st2, any_run t1 ix t2 (lowest_eq u0 hb (bit_log (m := 70) (by omega) (by decide)) st2), pl_of hb hc u0 (by omega), B2, R1.trans R2⟩
  have hr : r = 0 ∨ r = 1 ∨ r = 2 ∨ r = 3 := by omega
  rcases hr with rfl | rfl | rfl | rfl
  · exact go 2 150000000000000000000 (by decide) (by decide) (by decide +kernel) rfl
  · exact go 12 25000000000000000000 (by decide) (by decide) (by decide +kernel) rfl
  · exact go 60 5000000000000000000 (by decide) (by decide) (by decide +kernel) rfl
  · exact go 100000000000000000000 3 (by decide) (by decide) (by decide +kernel) rfl
def keyQ (q : Rat) : Int := Int.fdiv (q.num * 10 ^ 60) (q.den : Int)
theorem by_eq {q : Rat} (h : Sz 70 q) (st : Sto) : F_law_by [dF q] st = .val .P (.int (keyQ q)) st := by
  have a0 : atI [D.int q.num, .int (q.den : Int)] 0 = some (.int q.num) := rfl
  have a1 : atI [D.int q.num, .int (q.den : Int)] 1 = some (.int (q.den : Int)) := rfl
  have hd := q.den_pos
  have hd' : ¬ (q.den : Int) = 0 := by omega
  have m1 : q.num.natAbs.log2 + Nat.log2 1000000000000000000000000000000000000000000000000000000000000 < 1000000 := by
    have h1 : q.num.natAbs.log2 < 71 := bit_log (m := 70) h.1 (by decide)
    have h2 : Nat.log2 1000000000000000000000000000000000000000000000000000000000000 < 300 := by decide +kernel
    omega
  have m2 : (q.den : Int).natAbs.log2 < 9000 := bit_log (m := 70) h.den (by decide)
  have e : keyQ q = Int.fdiv (q.num * 1000000000000000000000000000000000000000000000000000000000000) (q.den : Int) := rfl
  rw [e]
  unfold dF
  clear e
  generalize (q.den : Int) = d at *
  generalize q.num = n at *
  simp -implicitDefEqProofs [F_law_by, g_law_by, a0, a1, hd', m1, m2]
theorem key_mono {a b : Rat} (h : a ≤ b) : keyQ a ≤ keyQ b := by
  have ad := a.den_pos
  have bd := b.den_pos
  unfold keyQ
  rw [Int.fdiv_eq_ediv_of_nonneg _ (by omega), Int.fdiv_eq_ediv_of_nonneg _ (by omega)]
  have hn : a.num * (b.den : Int) ≤ b.num * (a.den : Int) := by
    apply Classical.byContradiction
    intro n
    have := (lt_num b a).mp (show b.num * (a.den : Int) < a.num * (b.den : Int) by omega)
    grind
  rw [Int.le_ediv_iff_mul_le (by omega)]
  have h1 := Int.ediv_mul_le (a.num * 10 ^ 60) (show (a.den : Int) ≠ 0 by omega)
  generalize (a.num * 10 ^ 60) / (a.den : Int) = k at *
  have h2 : k * (b.den : Int) * (a.den : Int) ≤ b.num * 10 ^ 60 * (a.den : Int) := by
    have e1 : k * (b.den : Int) * (a.den : Int) = k * (a.den : Int) * (b.den : Int) := by rw [Int.mul_assoc, Int.mul_comm (b.den : Int), ← Int.mul_assoc]
    have e2 : b.num * 10 ^ 60 * (a.den : Int) = b.num * (a.den : Int) * 10 ^ 60 := by rw [Int.mul_assoc, Int.mul_comm ((10 : Int) ^ 60), ← Int.mul_assoc]
    rw [e1, e2]
    have s1 := Int.mul_le_mul_of_nonneg_right h1 (show (0 : Int) ≤ b.den by omega)
    have s2 := Int.mul_le_mul_of_nonneg_right hn (show (0 : Int) ≤ 10 ^ 60 by decide)
    have e3 : a.num * 10 ^ 60 * (b.den : Int) = a.num * (b.den : Int) * 10 ^ 60 := by rw [Int.mul_assoc, Int.mul_comm ((10 : Int) ^ 60), ← Int.mul_assoc]
    rw [e3] at s1
    exact Int.le_trans s1 s2
  exact Int.le_of_mul_le_mul_right h2 (by omega)
theorem key_pick {a b : Rat} : (if keyQ b < keyQ a then b else a) ≤ (if keyQ a < keyQ b then b else a) := by
  by_cases c1 : keyQ b < keyQ a
  · rw [if_pos c1, if_neg (by omega)]
    apply Classical.byContradiction
    intro n
    have := key_mono (Rat.le_of_lt (Rat.not_le.mp n))
    omega
  · rw [if_neg c1]
    by_cases c2 : keyQ a < keyQ b
    · rw [if_pos c2]
      apply Classical.byContradiction
      intro n
      have := key_mono (Rat.le_of_lt (Rat.not_le.mp n))
      omega
    · rw [if_neg c2]; exact Rat.le_refl
end Is1
namespace Is1
structure Rws (p R N : Nat) (qs : List (Nat × Sp)) (st : Sto) : Prop where
  bx : TBox p N st
  tb : TbOk st
  hp : tbls.length ≤ p
  rw_ : RwAt R qs st
  nd : (qs.map (·.1)).Nodup
  ad : ∀ x ∈ qs, x.1 ≠ p ∧ x.1 ≠ R ∧ tbls.length ≤ x.1
  pR : R ≠ p
  tR : tbls.length ≤ R
  gd : ∀ x ∈ qs, ∀ q ∈ x.2, Gd gg q
section
variable {p R N M : Nat} {qs : List (Nat × Sp)} {st st' : Sto}
theorem tbok_rest {p : Nat} {st st' : Sto} (h : TbOk st) (r : Rest1 p st st') (hp : tbls.length ≤ p) : TbOk st' := fun i x e => by
  have := h i x e
  have hi := (List.getElem?_eq_some_iff.mp e).1
  rw [r.2 i (by omega)]; exact this
theorem tbok_set {n : Nat} {o : Ob} (h : TbOk st) (hn : tbls.length ≤ n) : TbOk (st.set n o) := fun i x e => by
  have := h i x e
  have hi := (List.getElem?_eq_some_iff.mp e).1
  rw [List.getElem?_set_ne (by omega)]; exact this
theorem Rws.rest (h : Rws p R N qs st) (r : Rest1 p st st') (B : TBox p M st') : Rws p R M qs st' :=
  ⟨B, tbok_rest h.tb r h.hp, h.hp, ⟨by rw [r.2 R h.pR]; exact h.rw_.li, fun x m => by rw [r.2 x.1 (h.ad x m).1]; exact h.rw_.at_ x m⟩, h.nd, h.ad, h.pR, h.tR, h.gd⟩
theorem set_map {i : Nat} {x : Nat × Sp} {L : Sp} (hx : qs[i]? = some x) (f : Nat → D) : (qs.set i (x.1, L)).map (fun y => f y.1) = qs.map fun y => f y.1 := by
  rw [List.map_set]
  obtain ⟨h, e⟩ := List.getElem?_eq_some_iff.mp hx
  have : f x.1 = (qs.map fun y => f y.1)[i]'(by simpa using h) := by simp [e]
  show (qs.map fun y => f y.1).set i (f x.1) = _
  rw [this, List.set_getElem_self]
theorem set_map1 {i : Nat} {x : Nat × Sp} {L : Sp} (hx : qs[i]? = some x) : (qs.set i (x.1, L)).map (·.1) = qs.map (·.1) := by
  rw [List.map_set]
  obtain ⟨h, e⟩ := List.getElem?_eq_some_iff.mp hx
  have : x.1 = (qs.map (·.1))[i]'(by simpa using h) := by simp [e]
  show (qs.map (·.1)).set i x.1 = _
  rw [this, List.set_getElem_self]
theorem Rws.set (h : Rws p R N qs st) {i : Nat} {x : Nat × Sp} {L : Sp} (hx : qs[i]? = some x) (hL : ∀ q ∈ L, Gd gg q) : Rws p R N (qs.set i (x.1, L)) (st.set x.1 (.lst (L.map dPair))) := by
  have mx : x ∈ qs := List.mem_iff_getElem?.mpr ⟨i, hx⟩
  obtain ⟨a1, a2, a3⟩ := h.ad x mx
  have hi := (List.getElem?_eq_some_iff.mp hx).1
  have hlt := (List.getElem?_eq_some_iff.mp (h.rw_.at_ x mx)).1
  refine ⟨?_, tbok_set h.tb a3, h.hp, ⟨?_, fun y hy => ?_⟩, ?_, fun y hy => ?_, h.pR, h.tR, fun y hy => ?_⟩
  · obtain ⟨ns, i', a, c, g1, g2⟩ := h.bx
    exact ⟨ns, i', a, c, by rw [List.getElem?_set_ne a1]; exact g1, g2⟩
  · rw [List.getElem?_set_ne a2, set_map hx D.ptr]; exact h.rw_.li
  · obtain ⟨j, hj⟩ := List.mem_iff_getElem?.mp hy
    by_cases c : i = j
    · subst c
      rw [List.getElem?_set_self hi] at hj
      rw [← Option.some.inj hj]
      exact List.getElem?_set_self hlt
    · rw [List.getElem?_set_ne c] at hj
      have ne : x.1 ≠ y.1 := fun e => c ((List.getElem?_inj (by simpa using hi) h.nd).mp (by rw [List.getElem?_map, List.getElem?_map, hx, hj]; simp [e]))
      rw [List.getElem?_set_ne ne]
      exact h.rw_.at_ y (List.mem_iff_getElem?.mpr ⟨j, hj⟩)
  · rw [set_map1 hx]; exact h.nd
  · rcases List.mem_or_eq_of_mem_set hy with m | rfl
    · exact h.ad y m
    · exact ⟨a1, a2, a3⟩
  · rcases List.mem_or_eq_of_mem_set hy with m | rfl
    · exact h.gd y m
    · exact hL
theorem spans_set {L : Sp} {x : Nat × Sp} : ∀ {qs : List (Nat × Sp)} {i : Nat} {y : Nat × Sp}, qs[i]? = some x → y.2 = L → spans (qs.set i y) + x.2.length = spans qs + L.length
  | [], i, y, h, _ => by simp at h
  | z :: qs, 0, y, h, e => by
    have h : z = x := by simpa using h
    subst h
    show y.2.length + spans qs + z.2.length = z.2.length + spans qs + L.length
    rw [e]; omega
  | z :: qs, i + 1, y, h, e => by
    have := spans_set (qs := qs) (i := i) (y := y) (by simpa using h) e
    show z.2.length + spans (qs.set i y) + x.2.length = z.2.length + spans qs + L.length
    omega
theorem spans_app : ∀ (qs ps : List (Nat × Sp)), spans (qs ++ ps) = spans qs + spans ps
  | [], ps => by show spans ps = 0 + spans ps; omega
  | x :: qs, ps => by
    show x.2.length + spans (qs ++ ps) = x.2.length + spans qs + spans ps
    rw [spans_app qs ps]; omega
theorem Rws.ix (h : Rws p R N qs st) {r : Int} (r0 : 0 ≤ r) (r1 : r < qs.length) : ∃ (i : Nat) (x : Nat × Sp), r = (i : Int) ∧ qs[i]? = some x ∧ atI (qs.map fun x => D.ptr x.1) r = some (.ptr x.1) ∧ st[x.1]? = some (.lst (x.2.map dPair)) := by
  have hi : r.toNat < qs.length := by omega
  refine ⟨r.toNat, qs[r.toNat], by omega, List.getElem?_eq_getElem hi, ?_, h.rw_.at_ _ (List.getElem_mem hi)⟩
  have := atI_nat (xs := qs.map fun x => D.ptr x.1) (j := r.toNat) (by rw [List.getElem?_map, List.getElem?_eq_getElem hi]; rfl)
  rwa [Int.toNat_of_nonneg r0] at this
end
def insQ (L : Sp) (j : Nat) (q : Rat × Rat) : Sp := L.take j ++ q :: L.drop j
theorem insQ_len {L : Sp} {j : Nat} {q : Rat × Rat} : (insQ L j q).length = L.length + 1 := by
  unfold insQ
  rw [List.length_append, List.length_cons, List.length_take, List.length_drop]; omega
theorem insQ_mem {L : Sp} {j : Nat} {q x : Rat × Rat} (h : x ∈ insQ L j q) : x = q ∨ x ∈ L := by
  rcases List.mem_append.mp h with h | h
  · exact .inr (List.mem_of_mem_take h)
  · rcases List.mem_cons.mp h with h | h
    · exact .inl h
    · exact .inr (List.mem_of_mem_drop h)
theorem mins {L : Sp} {j : Int} (j0 : 0 ≤ j) (j1 : j ≤ L.length) (hl : L.length ≤ 1000) (q : Rat × Rat) : mInsert (L.map dPair) [.int j, dPair q] = some (.non, (insQ L j.toNat q).map dPair) := by
  have h63 : j < 2 ^ 63 := Int.lt_of_le_of_lt (by omega : j ≤ 1000) (by decide)
  unfold mInsert insQ
  simp only
  rw [if_pos ⟨by rw [List.length_map]; omega, j0, h63⟩]
  simp [List.map_take, List.map_drop]
end Is1
namespace Is1
section
variable {p R : Nat} {k : Nat}
theorem put_run {v2 v7 : SL} {n : Nat} {r j z kI : Int} {QD LD LD' : List D} {d6 : SL} {st st1 st2 st4 : Sto} (t1 : F_law_take [.ptr p, .int kI] st = .val .P (.int r) st1) (hR : st1[R]? = some (.lst QD)) (ix : atI QD r = some (.ptr n)) (hn1 : st1[n]? = some (.lst LD)) (t2 : F_law_take [.ptr p, .int ((LD.length : Int) + 1)] st1 = .val .P (.int j) st2) (hn2 : st2[n]? = some (.lst LD)) {x y : D} (mi : mInsert LD [.int j, .tup [x, y]] = some (.non, LD')) (t3 : F_law_take [.ptr p, .int 6] (st2.set n (.lst LD')) = .val .P (.int z) st4) (hn4 : st4[n]? = some (.lst LD')) (hl : LD'.length < 1000000) :
    fb_law_dealt_3 ⟨[.val (.ptr p), .val (.int kI), v2, .val (.ptr R), .val x, .val y, d6, v7], st⟩ = .nx ⟨[.val (.ptr p), .val (.int kI), v2, .val (.ptr R), .val x, .val y, .val (.ptr n), v7], if z = 0 then st4.set n (.lst (LD' ++ [.tup [x, y]])) else st4⟩ := by
  by_cases c : z = 0
  · subst c
    simp -implicitDefEqProofs [q_fb_law_dealt_3, t1, hR, ix, hn1, t2, hn2, mi, t3, hn4, hl, -e_mInsert]
  · simp -implicitDefEqProofs [q_fb_law_dealt_3, t1, hR, ix, hn1, t2, hn2, mi, t3, hn4, hl, c, -e_mInsert]
theorem deal_step {N : Nat} {qs : List (Nat × Sp)} {st : Sto} {v2 v7 d6 : SL} (h : Rws p R N qs st) (hN : N ≤ 4000) (k0 : 1 ≤ qs.length) (k1 : qs.length ≤ 1000) (hs : spans qs ≤ 500) {a b : Rat} (g : Gd gg (a, b)) :
    ∃ st' qs' d6', fb_law_dealt_3 ⟨[.val (.ptr p), .val (.int (qs.length : Int)), v2, .val (.ptr R), .val (dF a), .val (dF b), d6, v7], st⟩ = .nx ⟨[.val (.ptr p), .val (.int (qs.length : Int)), v2, .val (.ptr R), .val (dF a), .val (dF b), d6', v7], st'⟩ ∧ Rws p R (N + 3) qs' st' ∧ qs'.length = qs.length ∧ spans qs' ≤ spans qs + 2 := by
  obtain ⟨r, st1, t1, r0, r1, B1, R1⟩ := take_ok h.bx (n := (qs.length : Int)) (by omega) (Int.lt_of_le_of_lt (b := 1000) (by omega) (by decide)) (by omega)
  have h1 := h.rest R1 B1
  obtain ⟨i, x, rfl, hx, ix, hn1⟩ := h1.ix r0 r1
  have mx : x ∈ qs := List.mem_iff_getElem?.mpr ⟨i, hx⟩
  have lx := spans_le mx
  obtain ⟨j, st2, t2, j0, j1, B2, R2⟩ := take_ok h1.bx (n := (((x.2.map dPair).length : Nat) : Int) + 1) (by omega) (Int.lt_of_le_of_lt (b := 1000) (by rw [List.length_map]; omega) (by decide)) (by omega)
  rw [List.length_map] at j1
  have h2 := h1.rest R2 B2
  have hn2 := h2.rw_.at_ x mx
  have mi := mins (L := x.2) j0 (by omega) (by omega) (a, b)
  have gi : ∀ q ∈ insQ x.2 j.toNat (a, b), Gd gg q := fun q hq => by
    rcases insQ_mem hq with rfl | hq
    · exact g
    · exact h.gd x mx q hq
  have h3 := h2.set hx gi
  obtain ⟨z, st4, t3, z0, z1, B4, R4⟩ := take_ok h3.bx (n := 6) (by decide) (by decide) (by omega)
  have h4 := h3.rest R4 B4
  have hi := (List.getElem?_eq_some_iff.mp hx).1
  have hx' : (qs.set i (x.1, insQ x.2 j.toNat (a, b)))[i]? = some (x.1, insQ x.2 j.toNat (a, b)) := List.getElem?_set_self hi
  have hn4 := h4.rw_.at_ _ (List.mem_iff_getElem?.mpr ⟨i, hx'⟩)
  have il := insQ_len (L := x.2) (j := j.toNat) (q := (a, b))
  have s1 := spans_set (y := (x.1, insQ x.2 j.toNat (a, b))) hx rfl
  rw [il] at s1
  have run := put_run (R := R) (v2 := v2) (v7 := v7) (d6 := d6) t1 h1.rw_.li ix hn1 t2 hn2 mi t3 hn4 (by rw [List.length_map]; omega)
  by_cases c : z = 0
  · rw [if_pos c] at run
    have h5 := h4.set hx' (L := insQ x.2 j.toNat (a, b) ++ [(a, b)]) fun q hq => by
      rcases List.mem_append.mp hq with hq | hq
      · exact gi q hq
      · rw [List.mem_singleton.mp hq]; exact g
    have e : (insQ x.2 j.toNat (a, b) ++ [(a, b)]).map dPair = (insQ x.2 j.toNat (a, b)).map dPair ++ [.tup [dF a, dF b]] := by rw [List.map_append]; rfl
    rw [e] at h5
    have s2 : spans ((qs.set i (x.1, insQ x.2 j.toNat (a, b))).set i (x.1, insQ x.2 j.toNat (a, b) ++ [(a, b)])) + (insQ x.2 j.toNat (a, b)).length = spans (qs.set i (x.1, insQ x.2 j.toNat (a, b))) + (insQ x.2 j.toNat (a, b) ++ [(a, b)]).length := spans_set hx' rfl
    rw [List.length_append, il, List.length_singleton] at s2
    exact ⟨_, (qs.set i (x.1, insQ x.2 j.toNat (a, b))).set i (x.1, insQ x.2 j.toNat (a, b) ++ [(a, b)]), _, run, h5, by rw [List.length_set, List.length_set], by omega⟩
  · rw [if_neg c] at run
    exact ⟨_, _, _, run, h4, by rw [List.length_set], by omega⟩
theorem deal_loop {v2 v7 : SL} {k : Nat} (k0 : 1 ≤ k) (k1 : k ≤ 1000) : ∀ (L : List (Rat × Rat)) (N : Nat) (qs : List (Nat × Sp)) (st : Sto) (d4 d5 d6 : SL), Rws p R N qs st → qs.length = k → N + 3 * L.length ≤ 3000 → spans qs + 2 * L.length ≤ 400 → (∀ q ∈ L, Gd gg q) →
    ∃ st' qs' d4' d5' d6', forD (tgB (tgT 2 (tgsCons (tgN 4) (tgsCons (tgN 5) tgsNil))) fb_law_dealt_3) (L.map dPair) ⟨[.val (.ptr p), .val (.int (k : Int)), v2, .val (.ptr R), d4, d5, d6, v7], st⟩ = .nx ⟨[.val (.ptr p), .val (.int (k : Int)), v2, .val (.ptr R), d4', d5', d6', v7], st'⟩ ∧ Rws p R (N + 3 * L.length) qs' st' ∧ qs'.length = k ∧ spans qs' ≤ spans qs + 2 * L.length
  | [], N, qs, st, d4, d5, d6, h, hk, _, _, _ => ⟨st, qs, d4, d5, d6, by rw [List.map_nil]; rfl, h, hk, by omega⟩
  | q :: L, N, qs, st, d4, d5, d6, h, hk, hN, hs, g => by
    rw [List.length_cons] at hN hs
    obtain ⟨st1, qs1, e6, s1, h1, l1, sp1⟩ := deal_step (v2 := v2) (v7 := v7) (d6 := d6) h (by omega) (by omega) (by omega) (by omega) (a := q.1) (b := q.2) (g q (by simp))
    rw [hk] at s1 l1
    obtain ⟨st2, qs2, f4, f5, f6, r, h2, l2, sp2⟩ := deal_loop (v2 := v2) (v7 := v7) k0 k1 L (N + 3) qs1 st1 (.val (dF q.1)) (.val (dF q.2)) e6 h1 l1 (by omega) (by omega) fun y hy => g y (by simp [hy])
    refine ⟨st2, qs2, f4, f5, f6, ?_, by rw [List.length_cons, show N + 3 * (L.length + 1) = N + 3 + 3 * L.length by omega]; exact h2, l2, by rw [List.length_cons]; omega⟩
    have s : tgB (tgT 2 (tgsCons (tgN 4) (tgsCons (tgN 5) tgsNil))) fb_law_dealt_3 (dPair q) ⟨[.val (.ptr p), .val (.int (k : Int)), v2, .val (.ptr R), d4, d5, d6, v7], st⟩ = fb_law_dealt_3 ⟨[.val (.ptr p), .val (.int (k : Int)), v2, .val (.ptr R), .val (dF q.1), .val (dF q.2), d6, v7], st⟩ := rfl
    rw [← r, List.map_cons, e_forC, s, s1]
end
end Is1
namespace Is1
def nils (n k : Nat) : List (Nat × Sp) := (List.range k).map fun i => (n + i, [])
theorem nils_spans (n k : Nat) : spans (nils n k) = 0 := by
  have : ∀ l : List Nat, spans (l.map fun i => (n + i, ([] : Sp))) = 0 := fun l => by
    induction l with
    | nil => rfl
    | cons x l ih => show 0 + spans (l.map fun i => (n + i, ([] : Sp))) = 0; omega
  exact this _
theorem nils_lc {c : En → ER} {f : En → ER} {e : DE} {j : Nat} (hs : ∀ (i : Int) (st : Sto), lcStep (tgN j) c f e (.int i) st = some (some (.ptr st.length), st ++ [.lst []])) : ∀ (k : Nat) (lo : Nat) (st : Sto), lcGo (lcStep (tgN j) c f e) (rangeD (lo : Int) k) st = some ((nils st.length k).map (fun x => D.ptr x.1), st ++ List.replicate k (.lst []))
  | 0, lo, st => by simp [rangeD, nils, lcGo]
  | k + 1, lo, st => by
    have ih := nils_lc hs k (lo + 1) (st ++ [.lst []])
    have l1 : (st ++ [Ob.lst []]).length = st.length + 1 := by simp
    rw [l1] at ih
    have e1 : rangeD (lo : Int) (k + 1) = .int (lo : Int) :: rangeD ((lo + 1 : Nat) : Int) k := by
      unfold rangeD
      rw [List.range_succ_eq_map, List.map_cons, List.map_map]
      congr 1
      refine List.map_congr_left fun i _ => ?_
      show D.int ((lo : Int) + ((i + 1 : Nat) : Int)) = D.int (((lo + 1 : Nat) : Int) + (i : Int))
      congr 1; omega
    have e2 : nils st.length (k + 1) = (st.length, []) :: nils (st.length + 1) k := by
      unfold nils
      rw [List.range_succ_eq_map, List.map_cons, List.map_map]
      congr 1
      refine List.map_congr_left fun i _ => ?_
      show (st.length + (i + 1), ([] : Sp)) = (st.length + 1 + i, [])
      congr 1; omega
    rw [e1, e_lcC, hs]
    simp only [Option.bind_some, ih, Option.toList_some, e2, List.map_cons]
    rw [List.replicate_succ]
    simp
theorem nils_rws {p N k : Nat} {st : Sto} (bx : TBox p N st) (tb : TbOk st) (hp : tbls.length ≤ p) : Rws p (st.length + k) N (nils st.length k) (st ++ List.replicate k (.lst []) ++ [.lst ((nils st.length k).map fun x => D.ptr x.1)]) := by
  obtain ⟨ns, i, a, c, g1, g2⟩ := id bx
  have pl := (List.getElem?_eq_some_iff.mp g1).1
  have tl : tbls.length ≤ st.length := by omega
  have mem : ∀ x ∈ nils st.length k, ∃ i, i < k ∧ x = (st.length + i, []) := fun x hx => by
    obtain ⟨i, hi, rfl⟩ := List.mem_map.mp hx
    exact ⟨i, List.mem_range.mp hi, rfl⟩
  refine ⟨⟨ns, i, a, c, by rw [List.append_assoc, List.getElem?_append_left pl]; exact g1, g2⟩, (tb.app _).app _, hp, ⟨?_, fun x hx => ?_⟩, ?_, fun x hx => ?_, by omega, by omega, fun x hx q hq => ?_⟩
  · have : (st ++ List.replicate k (Ob.lst [])).length = st.length + k := by simp
    rw [← this]; exact app_new
  · obtain ⟨i, hi, rfl⟩ := mem x hx
    show (st ++ List.replicate k (Ob.lst []) ++ _)[st.length + i]? = some (.lst [])
    rw [List.append_assoc, List.getElem?_append_right (by omega), Nat.add_sub_cancel_left, List.getElem?_append_left (by simpa using hi), List.getElem?_replicate, if_pos hi]
  · unfold nils
    rw [List.map_map]
    refine List.pairwise_map.mpr (List.Pairwise.imp (fun {a b} h e => h ?_) (List.nodup_range (n := k)))
    have e : st.length + a = st.length + b := e
    omega
  · obtain ⟨i, hi, rfl⟩ := mem x hx
    show st.length + i ≠ p ∧ st.length + i ≠ st.length + k ∧ tbls.length ≤ st.length + i
    omega
  · obtain ⟨i, hi, rfl⟩ := mem x hx
    simp at hq
theorem pls_lc {p : Nat} {v1 v2 v3 v4 v5 v6 : SL} : ∀ (l : List D) (N : Nat) (st : Sto), TBox p N st → N + 2 * l.length ≤ 1900 → ∃ B st', lcGo (lcStep (tgN 7) (fun E => ER.val Md.P (D.bl true) E.st) ce_law_dealt_1 [.val (.ptr p), v1, v2, v3, v4, v5, v6, .emp]) l st = some ((B : List Rat).map dF, st') ∧ B.length = l.length ∧ (∀ x ∈ B, Pl x) ∧ TBox p (N + 2 * l.length) st' ∧ Rest1 p st st'
  | [], N, st, hB, _ => ⟨[], st, rfl, rfl, by simp, hB, .refl⟩
  | d :: l, N, st, hB, hN => by
    rw [List.length_cons] at hN
    obtain ⟨q, st1, t1, pq, B1, R1⟩ := any_ok hB (by omega)
    obtain ⟨B, st3, g, gl, ga, B3, R3⟩ := pls_lc (v1 := v1) (v2 := v2) (v3 := v3) (v4 := v4) (v5 := v5) (v6 := v6) l (N + 2) st1 B1 (by omega)
    refine ⟨q :: B, st3, ?_, by simp [gl], fun r hr => ?_, by rw [List.length_cons, show N + 2 * (l.length + 1) = N + 2 + 2 * l.length by omega]; exact B3, R1.trans R3⟩
    · have s : lcStep (tgN 7) (fun E => ER.val Md.P (D.bl true) E.st) ce_law_dealt_1 [.val (.ptr p), v1, v2, v3, v4, v5, v6, .emp] d st = some (some (dF q), st1) := by
        clear g
        generalize dF q = dq at *
        simp -implicitDefEqProofs [lcStep, q_ce_law_dealt_1, t1]
      rw [List.map_cons, e_lcC, s]
      simp only [Option.bind_some, g, Option.toList_some]
      rfl
    · rcases List.mem_cons.mp hr with rfl | hr
      · exact pq
      · exact ga r hr
theorem deal_run {p R n : Nat} {m kI : Int} {k : Nat} {st st1 st2 st3 : Sto} {LD PD AD QD : List D} {s4 : Sto} {d4 d5 d6 : SL} (t1 : F_law_take [.ptr p, .int 11] st = .val .P (.int m) st1) (hm : m.toNat = n) (hmb : -4611686018427387904 ≤ m) (hmb2 : m < 4611686018427387904) (hrl : (rangeD 0 n).length ≤ 1000000) (lc : lcGo (lcStep (tgN 7) (fun E => ER.val Md.P (D.bl true) E.st) ce_law_dealt_1 [.val (.ptr p), .val (.int kI), .emp, .emp, .emp, .emp, .emp, .emp]) (rangeD 0 n) st1 = some (LD, st2)) (hl : 2 + LD.length ≤ 1000000)
    (ri : F_law_rising [.lst (dF 0 :: dF 1 :: LD)] st2 = .val .N (.lst PD) st2) (hk : kI.toNat = k) (hkb : -4611686018427387904 ≤ kI) (hkb2 : kI < 4611686018427387904) (hkl : (rangeD 0 k).length ≤ 1000000) (lc2 : lcGo (lcStep (tgN 7) (fun E => ER.val Md.P (D.bl true) E.st) ce_law_dealt_2 [.val (.ptr p), .val (.int kI), .val (.lst PD), .emp, .emp, .emp, .emp, .emp]) (rangeD 0 k) st2 = some (QD, st3)) (hQ : QD.length ≤ 1000000) (hR : st3.length = R)
    (hc : cutG PD (some 1) none = PD.tail) (hz : zipD PD PD.tail = AD) (lp : forD (tgB (tgT 2 (tgsCons (tgN 4) (tgsCons (tgN 5) tgsNil))) fb_law_dealt_3) AD ⟨[.val (.ptr p), .val (.int kI), .val (.lst PD), .val (.ptr R), .emp, .emp, .emp, .emp], st3 ++ [.lst QD]⟩ = .nx ⟨[.val (.ptr p), .val (.int kI), .val (.lst PD), .val (.ptr R), d4, d5, d6, .emp], s4⟩) :
    F_law_dealt [.ptr p, .int kI] st = .val .P (.ptr R) s4 := by
  simp -implicitDefEqProofs [F_law_dealt, g_law_dealt, t1, hm, hmb, hmb2, hrl, lc, hl, ri, hk, hkb, hkb2, hkl, lc2, hQ, hR, hc, hz, lp]
theorem dealt_ok {p N k : Nat} {st : Sto} (bx : TBox p N st) (tb : TbOk st) (hp : tbls.length ≤ p) (hN : N ≤ 100) (k0 : 1 ≤ k) (k1 : k ≤ 100) : ∃ R st' qs, F_law_dealt [.ptr p, .int (k : Int)] st = .val .P (.ptr R) st' ∧ Rws p R (N + 60) qs st' ∧ qs.length = k ∧ spans qs ≤ 30 := by
  obtain ⟨m, st1, t1, m0, m1, B1, R1⟩ := take_ok bx (n := 11) (by decide) (by decide) (by omega)
  obtain ⟨n, hn⟩ : ∃ n : Nat, m.toNat = n := ⟨_, rfl⟩
  have rl : ∀ n, (rangeD 0 n).length = n := fun n => by simp [rangeD]
  obtain ⟨L, st2, lc, ll, lp, B2, R2⟩ := pls_lc (v1 := .val (.int (k : Int))) (v2 := .emp) (v3 := .emp) (v4 := .emp) (v5 := .emp) (v6 := .emp) (rangeD 0 n) (N + 1) st1 B1 (by rw [rl]; omega)
  rw [rl] at ll B2
  have T2 := tbok_rest (tbok_rest tb R1 hp) R2 hp
  have lz : ∀ e ∈ [0, 1] ++ L, Pl e := fun e he => by
    rcases List.mem_append.mp he with he | he
    · simp only [List.mem_cons, List.not_mem_nil, or_false] at he
      rcases he with rfl | rfl
      · exact pl0
      · exact pl1
    · exact lp e he
  have ri := rising_eq (s := 70) (by omega) (fun e he => (lz e he).sz) (by simp only [List.length_append, List.length_cons, List.length_nil]; omega) st2
  have hP : Ris (insAll [] ([0, 1] ++ L)) := insAll_ris (by unfold Ris; simp)
  have pin : ∀ u ∈ insAll [] ([0, 1] ++ L), Pl u := fun u hu => by
    rcases insAll_mem.mp hu with hu | hu
    · exact lz u hu
    · simp at hu
  have il := insAll_len ([0, 1] ++ L) ([] : List Rat)
  simp only [List.length_append, List.length_cons, List.length_nil] at il
  have ei : ([0, 1] ++ L).map dF = dF 0 :: dF 1 :: L.map dF := by rw [List.map_append]; rfl
  rw [ei] at ri
  generalize insAll [] ([0, 1] ++ L) = P at *
  have lc2 := nils_lc (c := fun E => ER.val Md.P (D.bl true) E.st) (f := ce_law_dealt_2) (e := [.val (.ptr p), .val (.int (k : Int)), .val (.lst (P.map dF)), .emp, .emp, .emp, .emp, .emp]) (j := 7) (fun i st => by simp -implicitDefEqProofs [lcStep, q_ce_law_dealt_2]) k 0 st2
  have h0 := nils_rws (k := k) B2 T2 hp
  have la : (adj P).length ≤ P.length := by
    have := zip_tail P
    have e : (adj P).length = (zipD (P.map dF) (P.map dF).tail).length := by rw [this, List.length_map]
    rw [e]
    have zl : ∀ (l m : List D), (zipD l m).length ≤ l.length := by
      intro l
      induction l with
      | nil => intro m; simp [zipD]
      | cons x l ih =>
        intro m
        cases m with
        | nil => simp [zipD]
        | cons y m => simp [zipD]; exact ih m
    have := zl (P.map dF) (P.map dF).tail
    rwa [List.length_map] at this
  obtain ⟨st', qs, d4, d5, d6, lpp, hR, hl, hsp⟩ := deal_loop (v2 := .val (.lst (P.map dF))) (v7 := .emp) k0 (by omega) (adj P) _ _ _ .emp .emp .emp h0 (by simp [nils]) (by omega) (by rw [nils_spans]; omega) (fun q hq => by
    obtain ⟨a, b, c, _⟩ := adj_in hP q hq
    exact gd_of (pin _ a) (pin _ b) (Rat.le_of_lt c))
  rw [nils_spans] at hsp
  have hst : (st2 ++ List.replicate k (Ob.lst [])).length = st2.length + k := by simp
  have kt : ((k : Int)).toNat = k := by omega
  refine ⟨st2.length + k, st', qs, ?_, ⟨hR.bx.up (by omega), hR.tb, hR.hp, hR.rw_, hR.nd, hR.ad, hR.pR, hR.tR, hR.gd⟩, hl, by omega⟩
  exact deal_run t1 hn (by omega) (by omega) (by rw [rl]; omega) lc (by rw [List.length_map]; omega) ri kt (by omega) (by omega) (by rw [rl]; omega) lc2 (by simp [nils]; omega) hst (by rw [cut_from _ (by decide)]; simp) (zip_tail P) lpp
end Is1
namespace Is1
section
variable {p R : Nat} {v3 v4 : SL}
theorem swp_run {n : Nat} {r j hI m kk : Int} {QD LD LD' : List D} {d7 d8 : SL} {st st1 st2 : Sto} {x y : D} (t1 : F_law_take [.ptr p, .int hI] st = .val .P (.int r) st1) (hR : st1[R]? = some (.lst QD)) (ix : atI QD r = some (.ptr n)) (hn1 : st1[n]? = some (.lst LD)) (t2 : F_law_take [.ptr p, .int ((LD.length : Int) + 1)] st1 = .val .P (.int j) st2) (lo1 : ∀ st, F_law_lowest [.int kk, .int m] st = .val .P x st) (lo2 : ∀ st, F_law_lowest [.int (kk + 1), .int m] st = .val .P y st) (hn2 : st2[n]? = some (.lst LD)) (mi : mInsert LD [.int j, .tup [x, y]] = some (.non, LD')) :
    fb_law_swapped_2 ⟨[.val (.ptr p), .val (.int hI), .val (.int m), v3, v4, .val (.ptr R), .val (.int kk), d7, d8], st⟩ = .nx ⟨[.val (.ptr p), .val (.int hI), .val (.int m), v3, v4, .val (.ptr R), .val (.int kk), d7, .val (.ptr n)], st2.set n (.lst LD')⟩ := by
  simp -implicitDefEqProofs [q_fb_law_swapped_2, t1, hR, ix, hn1, t2, lo1, lo2, hn2, mi, -e_mInsert]
theorem swp_step {N : Nat} {qs : List (Nat × Sp)} {st : Sto} {d7 d8 : SL} (h : Rws p R N qs st) (hN : N ≤ 4000) (k0 : 1 ≤ qs.length) (k1 : qs.length ≤ 1000) (hs : spans qs ≤ 500) {m kk : Int} (m2 : 2 ≤ m) (m6 : m ≤ 6) (c0 : 0 ≤ kk) (c1 : kk < m) :
    ∃ st' qs' d8', fb_law_swapped_2 ⟨[.val (.ptr p), .val (.int (qs.length : Int)), .val (.int m), v3, v4, .val (.ptr R), .val (.int kk), d7, d8], st⟩ = .nx ⟨[.val (.ptr p), .val (.int (qs.length : Int)), .val (.int m), v3, v4, .val (.ptr R), .val (.int kk), d7, d8'], st'⟩ ∧ Rws p R (N + 2) qs' st' ∧ qs'.length = qs.length ∧ spans qs' ≤ spans qs + 1 := by
  obtain ⟨r, st1, t1, r0, r1, B1, R1⟩ := take_ok h.bx (n := (qs.length : Int)) (by omega) (Int.lt_of_le_of_lt (b := 1000) (by omega) (by decide)) (by omega)
  have h1 := h.rest R1 B1
  obtain ⟨i, x, rfl, hx, ix, hn1⟩ := h1.ix r0 r1
  have mx : x ∈ qs := List.mem_iff_getElem?.mpr ⟨i, hx⟩
  have lx := spans_le mx
  obtain ⟨j, st2, t2, j0, j1, B2, R2⟩ := take_ok h1.bx (n := (((x.2.map dPair).length : Nat) : Int) + 1) (by omega) (Int.lt_of_le_of_lt (b := 1000) (by rw [List.length_map]; omega) (by decide)) (by omega)
  rw [List.length_map] at j1
  have h2 := h1.rest R2 B2
  have hn2 := h2.rw_.at_ x mx
  have lo1 := fun st => lowest_eq (t := kk) (b := m) c0 (by omega) (bit_log (m := 5) (by omega) (by decide)) st
  have lo2 := fun st => lowest_eq (t := kk + 1) (b := m) (by omega) (by omega) (bit_log (m := 5) (by omega) (by decide)) st
  have pl : ∀ t : Int, 0 ≤ t → t ≤ m → Pl (Rat.divInt t m) := fun t t0 t1 => by
    have hm : m = 2 ∨ m = 3 ∨ m = 4 ∨ m = 5 ∨ m = 6 := by omega
    rcases hm with rfl | rfl | rfl | rfl | rfl
    · exact pl_of (c := 150000000000000000000) (by decide) (by decide +kernel) t0 t1
    · exact pl_of (c := 100000000000000000000) (by decide) (by decide +kernel) t0 t1
    · exact pl_of (c := 75000000000000000000) (by decide) (by decide +kernel) t0 t1
    · exact pl_of (c := 60000000000000000000) (by decide) (by decide +kernel) t0 t1
    · exact pl_of (c := 50000000000000000000) (by decide) (by decide +kernel) t0 t1
  have le : Rat.divInt kk m ≤ Rat.divInt (kk + 1) m := by
    have mp : (0 : Rat) < (m : Rat) := Rat.intCast_pos.mpr (by omega)
    have e : ∀ t : Int, Rat.divInt t m * (m : Rat) = (t : Rat) := fun t => by rw [Rat.divInt_eq_div]; exact Rat.div_mul_cancel (by grind)
    have e1 := e kk
    have e2 := e (kk + 1)
    have c : (kk : Rat) ≤ ((kk + 1 : Int) : Rat) := Rat.intCast_le_intCast.mpr (by omega)
    apply Classical.byContradiction
    intro n
    have := Rat.mul_lt_mul_of_pos_right (Rat.not_le.mp n) mp
    grind
  have g : Gd gg (Rat.divInt kk m, Rat.divInt (kk + 1) m) := gd_of (pl _ c0 (by omega)) (pl _ (by omega) (by omega)) le
  have mi := mins (L := x.2) j0 (by omega) (by omega) (Rat.divInt kk m, Rat.divInt (kk + 1) m)
  have gi : ∀ q ∈ insQ x.2 j.toNat (Rat.divInt kk m, Rat.divInt (kk + 1) m), Gd gg q := fun q hq => by
    rcases insQ_mem hq with rfl | hq
    · exact g
    · exact h.gd x mx q hq
  have h3 := h2.set hx gi
  have il := insQ_len (L := x.2) (j := j.toNat) (q := (Rat.divInt kk m, Rat.divInt (kk + 1) m))
  have s1 : spans (qs.set i (x.1, insQ x.2 j.toNat (Rat.divInt kk m, Rat.divInt (kk + 1) m))) + x.2.length = spans qs + (insQ x.2 j.toNat (Rat.divInt kk m, Rat.divInt (kk + 1) m)).length := spans_set hx rfl
  rw [il] at s1
  exact ⟨_, qs.set i (x.1, insQ x.2 j.toNat (Rat.divInt kk m, Rat.divInt (kk + 1) m)), _, swp_run t1 h1.rw_.li ix hn1 t2 lo1 lo2 hn2 mi, h3, by rw [List.length_set], by omega⟩
theorem swp_turns {k : Nat} (k0 : 1 ≤ k) (k1 : k ≤ 1000) {m kk : Int} (m2 : 2 ≤ m) (m6 : m ≤ 6) (c0 : 0 ≤ kk) (c1 : kk < m) : ∀ (L : List D) (N : Nat) (qs : List (Nat × Sp)) (st : Sto) (d7 d8 : SL), Rws p R N qs st → qs.length = k → N + 2 * L.length ≤ 3000 → spans qs + L.length ≤ 400 →
    ∃ st' qs' d7' d8', forD (tgB (tgN 7) fb_law_swapped_2) L ⟨[.val (.ptr p), .val (.int (k : Int)), .val (.int m), v3, v4, .val (.ptr R), .val (.int kk), d7, d8], st⟩ = .nx ⟨[.val (.ptr p), .val (.int (k : Int)), .val (.int m), v3, v4, .val (.ptr R), .val (.int kk), d7', d8'], st'⟩ ∧ Rws p R (N + 2 * L.length) qs' st' ∧ qs'.length = k ∧ spans qs' ≤ spans qs + L.length
  | [], N, qs, st, d7, d8, h, hk, _, _ => ⟨st, qs, d7, d8, rfl, h, hk, by omega⟩
  | d :: L, N, qs, st, d7, d8, h, hk, hN, hs => by
    rw [List.length_cons] at hN hs
    obtain ⟨st1, qs1, e8, s1, h1, l1, sp1⟩ := swp_step (v3 := v3) (v4 := v4) (d7 := .val d) (d8 := d8) h (by omega) (by omega) (by omega) (by omega) m2 m6 c0 c1
    rw [hk] at s1 l1
    obtain ⟨st2, qs2, f7, f8, r, h2, l2, sp2⟩ := swp_turns k0 k1 m2 m6 c0 c1 L (N + 2) qs1 st1 (.val d) e8 h1 l1 (by omega) (by omega)
    refine ⟨st2, qs2, f7, f8, ?_, by rw [List.length_cons, show N + 2 * (L.length + 1) = N + 2 + 2 * L.length by omega]; exact h2, l2, by rw [List.length_cons]; omega⟩
    have s : tgB (tgN 7) fb_law_swapped_2 d ⟨[.val (.ptr p), .val (.int (k : Int)), .val (.int m), v3, v4, .val (.ptr R), .val (.int kk), d7, d8], st⟩ = fb_law_swapped_2 ⟨[.val (.ptr p), .val (.int (k : Int)), .val (.int m), v3, v4, .val (.ptr R), .val (.int kk), .val d, d8], st⟩ := rfl
    rw [← r, e_forC, s, s1]
end
section
variable {p R : Nat}
theorem swp_one {k : Nat} (k0 : 1 ≤ k) (k1 : k ≤ 1000) {m lo tw kk : Int} (m2 : 2 ≤ m) (m6 : m ≤ 6) (ne : lo ≠ tw) (c0 : 0 ≤ kk) (c1 : kk < m) {N : Nat} {qs : List (Nat × Sp)} {st : Sto} {d7 d8 : SL} (h : Rws p R N qs st) (hk : qs.length = k) (hN : N ≤ 2000) (hs : spans qs ≤ 300) :
    ∃ st' qs' d7' d8', fb_law_swapped_3 ⟨[.val (.ptr p), .val (.int (k : Int)), .val (.int m), .val (.int lo), .val (.int tw), .val (.ptr R), .val (.int kk), d7, d8], st⟩ = .nx ⟨[.val (.ptr p), .val (.int (k : Int)), .val (.int m), .val (.int lo), .val (.int tw), .val (.ptr R), .val (.int kk), d7', d8'], st'⟩ ∧ Rws p R (N + 4) qs' st' ∧ qs'.length = k ∧ spans qs' ≤ spans qs + 2 := by
  have go := fun L (hl : L.length ≤ 2) => swp_turns (p := p) (R := R) (v3 := .val (.int lo)) (v4 := .val (.int tw)) k0 k1 m2 m6 c0 c1 L N qs st d7 d8 h hk (by omega) (by omega)
  have up : ∀ {M : Nat} {qs' st'}, M ≤ N + 4 → Rws p R M qs' st' → Rws p R (N + 4) qs' st' := fun hm h => ⟨h.bx.up hm, h.tb, h.hp, h.rw_, h.nd, h.ad, h.pR, h.tR, h.gd⟩
  by_cases e1 : kk = lo
  · have e2 : ¬ kk = tw := fun e => ne (e1.symm.trans e)
    subst e1
    have ix : atI [D.int 1, .int 0, .int 2] 1 = some (.int 0) := rfl
    have r0 : rangeD 0 0 = [] := rfl
    refine ⟨st, qs, d7, d8, ?_, up (by omega) h, hk, by omega⟩
    have lg : Nat.log2 2 < 1000000 := by decide +kernel
    generalize (k : Int) = kI at *
    simp -implicitDefEqProofs [q_fb_law_swapped_3, e2, ix, r0, lg]
  · by_cases e2 : kk = tw
    · subst e2
      have ix : atI [D.int 1, .int 0, .int 2] 2 = some (.int 2) := rfl
      have r2 : rangeD 0 2 = [.int 0, .int 1] := rfl
      obtain ⟨st', qs', d7', d8', r, h', l', s'⟩ := go [.int 0, .int 1] (by simp)
      refine ⟨st', qs', d7', d8', ?_, up (by simp) h', l', by simpa using s'⟩
      have lg : Nat.log2 2 < 1000000 := by decide +kernel
      clear h h' go l' s' hk
      generalize (k : Int) = kI at *
      simp -implicitDefEqProofs [q_fb_law_swapped_3, e1, ix, r2, lg]
      exact r
    · have ix : atI [D.int 1, .int 0, .int 2] 0 = some (.int 1) := rfl
      have r1 : rangeD 0 1 = [.int 0] := rfl
      obtain ⟨st', qs', d7', d8', r, h', l', s'⟩ := go [.int 0] (by simp)
      refine ⟨st', qs', d7', d8', ?_, up (by simp) h', l', by simp at s'; omega⟩
      have lg : Nat.log2 2 < 1000000 := by decide +kernel
      clear h h' go l' s' hk
      generalize (k : Int) = kI at *
      simp -implicitDefEqProofs [q_fb_law_swapped_3, e1, e2, ix, r1, lg]
      exact r
end
end Is1
namespace Is1
section
variable {p R : Nat}
theorem swp_loop {k : Nat} (k0 : 1 ≤ k) (k1 : k ≤ 1000) {m lo tw : Int} (m2 : 2 ≤ m) (m6 : m ≤ 6) (ne : lo ≠ tw) : ∀ (n j : Nat) (N : Nat) (qs : List (Nat × Sp)) (st : Sto) (d6 d7 d8 : SL), ((j + n : Nat) : Int) ≤ m → Rws p R N qs st → qs.length = k → N + 4 * n ≤ 1500 → spans qs + 2 * n ≤ 200 →
    ∃ st' qs' d6' d7' d8', forD (tgB (tgN 6) fb_law_swapped_3) (rangeD (j : Int) n) ⟨[.val (.ptr p), .val (.int (k : Int)), .val (.int m), .val (.int lo), .val (.int tw), .val (.ptr R), d6, d7, d8], st⟩ = .nx ⟨[.val (.ptr p), .val (.int (k : Int)), .val (.int m), .val (.int lo), .val (.int tw), .val (.ptr R), d6', d7', d8'], st'⟩ ∧ Rws p R (N + 4 * n) qs' st' ∧ qs'.length = k ∧ spans qs' ≤ spans qs + 2 * n
  | 0, j, N, qs, st, d6, d7, d8, _, h, hk, _, _ => ⟨st, qs, d6, d7, d8, by simp [rangeD], h, hk, by omega⟩
  | n + 1, j, N, qs, st, d6, d7, d8, hj, h, hk, hN, hs => by
    obtain ⟨st1, qs1, e7, e8, s1, h1, l1, sp1⟩ := swp_one (d7 := d7) (d8 := d8) k0 k1 m2 m6 ne (kk := (j : Int)) (by omega) (by omega) h hk (by omega) (by omega)
    obtain ⟨st2, qs2, f6, f7, f8, r, h2, l2, sp2⟩ := swp_loop k0 k1 m2 m6 ne n (j + 1) (N + 4) qs1 st1 (.val (.int (j : Int))) e7 e8 (by omega) h1 l1 (by omega) (by omega)
    refine ⟨st2, qs2, f6, f7, f8, ?_, by rw [show N + 4 * (n + 1) = N + 4 + 4 * n by omega]; exact h2, l2, by omega⟩
    have e1 : rangeD (j : Int) (n + 1) = .int (j : Int) :: rangeD ((j + 1 : Nat) : Int) n := by
      unfold rangeD
      rw [List.range_succ_eq_map, List.map_cons, List.map_map]
      congr 1
      refine List.map_congr_left fun i _ => ?_
      show D.int ((j : Int) + ((i + 1 : Nat) : Int)) = D.int (((j + 1 : Nat) : Int) + (i : Int))
      congr 1; omega
    have s : tgB (tgN 6) fb_law_swapped_3 (.int (j : Int)) ⟨[.val (.ptr p), .val (.int (k : Int)), .val (.int m), .val (.int lo), .val (.int tw), .val (.ptr R), d6, d7, d8], st⟩ = fb_law_swapped_3 ⟨[.val (.ptr p), .val (.int (k : Int)), .val (.int m), .val (.int lo), .val (.int tw), .val (.ptr R), .val (.int (j : Int)), d7, d8], st⟩ := rfl
    rw [e1, ← r, e_forC, s, s1]
end
theorem swp_head {p R k n : Nat} {m m0 lo t tw kI : Int} {QD : List D} {st st1 st2 st3 st4 s5 : Sto} {d6 d7 d8 : SL} (hm0 : 2 + m0 = m) (t1 : F_law_take [.ptr p, .int 5] st = .val .P (.int m0) st1) (t2 : F_law_take [.ptr p, .int m] st1 = .val .P (.int lo) st2) (t3 : F_law_take [.ptr p, .int (m - 1)] st2 = .val .P (.int t) st3) (hm : ¬ (m = 0)) (hg : m.natAbs.log2 < 9000) (htw : Int.fmod (lo + 1 + t) m = tw) (hk : kI.toNat = k) (hkb : -4611686018427387904 ≤ kI) (hkb2 : kI < 4611686018427387904) (hkl : (rangeD 0 k).length ≤ 1000000)
    (lc2 : lcGo (lcStep (tgN 6) (fun E => ER.val Md.P (D.bl true) E.st) ce_law_swapped_1 [.val (.ptr p), .val (.int kI), .val (.int m), .val (.int lo), .val (.int tw), .emp, .emp, .emp, .emp]) (rangeD 0 k) st3 = some (QD, st4)) (hQ : QD.length ≤ 1000000) (hR : st4.length = R) (hn : m.toNat = n) (hnb : -4611686018427387904 ≤ m) (hnb2 : m < 4611686018427387904)
    (lp : forD (tgB (tgN 6) fb_law_swapped_3) (rangeD 0 n) ⟨[.val (.ptr p), .val (.int kI), .val (.int m), .val (.int lo), .val (.int tw), .val (.ptr R), .emp, .emp, .emp], st4 ++ [.lst QD]⟩ = .nx ⟨[.val (.ptr p), .val (.int kI), .val (.int m), .val (.int lo), .val (.int tw), .val (.ptr R), d6, d7, d8], s5⟩) :
    F_law_swapped [.ptr p, .int kI] st = .val .P (.ptr R) s5 := by
  simp -implicitDefEqProofs [F_law_swapped, g_law_swapped, t1, hm0, t2, t3, hm, hg, htw, hk, hkb, hkb2, hkl, lc2, hQ, hR, hn, hnb, hnb2, lp]
theorem twice_ne {m lo t : Int} (m2 : 2 ≤ m) (m6 : m ≤ 6) (l0 : 0 ≤ lo) (l1 : lo < m) (t0 : 0 ≤ t) (t1 : t < m - 1) : lo ≠ Int.fmod (lo + 1 + t) m := by
  rw [Int.fmod_eq_emod_of_nonneg _ (by omega)]
  have hm : m = 2 ∨ m = 3 ∨ m = 4 ∨ m = 5 ∨ m = 6 := by omega
  rcases hm with rfl | rfl | rfl | rfl | rfl <;> omega
theorem swapped_ok {p N k : Nat} {st : Sto} (bx : TBox p N st) (tb : TbOk st) (hp : tbls.length ≤ p) (hN : N ≤ 100) (k0 : 1 ≤ k) (k1 : k ≤ 100) : ∃ R st' qs, F_law_swapped [.ptr p, .int (k : Int)] st = .val .P (.ptr R) st' ∧ Rws p R (N + 60) qs st' ∧ qs.length = k ∧ spans qs ≤ 30 := by
  obtain ⟨m0, st1, t1, a0, a1, B1, R1⟩ := take_ok bx (n := 5) (by decide) (by decide) (by omega)
  obtain ⟨m, hm⟩ : ∃ m, 2 + m0 = m := ⟨_, rfl⟩
  obtain ⟨lo, st2, t2, l0, l1, B2, R2⟩ := take_ok B1 (n := m) (by omega) (Int.lt_of_le_of_lt (b := 10) (by omega) (by decide)) (by omega)
  obtain ⟨t, st3, t3, c0, c1, B3, R3⟩ := take_ok B2 (n := m - 1) (by omega) (Int.lt_of_le_of_lt (b := 10) (by omega) (by decide)) (by omega)
  have ne := twice_ne (m := m) (lo := lo) (t := t) (by omega) (by omega) l0 l1 c0 c1
  have rl : ∀ n, (rangeD 0 n).length = n := fun n => by simp [rangeD]
  have T3 := tbok_rest (tbok_rest (tbok_rest tb R1 hp) R2 hp) R3 hp
  obtain ⟨tw, htw⟩ : ∃ tw, Int.fmod (lo + 1 + t) m = tw := ⟨_, rfl⟩
  rw [htw] at ne
  have lc2 := nils_lc (c := fun E => ER.val Md.P (D.bl true) E.st) (f := ce_law_swapped_1) (e := [.val (.ptr p), .val (.int (k : Int)), .val (.int m), .val (.int lo), .val (.int tw), .emp, .emp, .emp, .emp]) (j := 6) (fun i st => by simp -implicitDefEqProofs [lcStep, q_ce_law_swapped_1]) k 0 st3
  have h0 := nils_rws (k := k) B3 T3 hp
  obtain ⟨n, hn⟩ : ∃ n : Nat, m.toNat = n := ⟨_, rfl⟩
  obtain ⟨st', qs, d6, d7, d8, lpp, hR, hl, hsp⟩ := swp_loop (m := m) (lo := lo) (tw := tw) k0 (by omega) (by omega) (by omega) ne n 0 _ _ _ .emp .emp .emp (by omega) h0 (by simp [nils]) (by omega) (by rw [nils_spans]; omega)
  rw [nils_spans] at hsp
  have hst : (st3 ++ List.replicate k (Ob.lst [])).length = st3.length + k := by simp
  have kt : ((k : Int)).toNat = k := by omega
  refine ⟨st3.length + k, st', qs, ?_, ⟨hR.bx.up (by omega), hR.tb, hR.hp, hR.rw_, hR.nd, hR.ad, hR.pR, hR.tR, hR.gd⟩, hl, by omega⟩
  exact swp_head hm t1 t2 t3 (by omega) (bit_log (m := 5) (by omega) (by decide)) htw kt (by omega) (by omega) (by rw [rl]; omega) lc2 (by simp [nils]; omega) hst hn (by omega) (by omega) lpp
end Is1
namespace Is1
theorem Rws.app {p R N : Nat} {qs : List (Nat × Sp)} {st : Sto} (h : Rws p R N qs st) {L : Sp} (hL : ∀ q ∈ L, Gd gg q) : Rws p R N (qs ++ [(st.length, L)]) ((st ++ [Ob.lst (L.map dPair)]).set R (Ob.lst ((qs.map fun x => D.ptr x.1) ++ [D.ptr st.length]))) := by
  have hR := (List.getElem?_eq_some_iff.mp h.rw_.li).1
  have hlt : ∀ x ∈ qs, x.1 < st.length := fun x m => (List.getElem?_eq_some_iff.mp (h.rw_.at_ x m)).1
  obtain ⟨ns, i', a, c, g1, g2⟩ := id h.bx
  have pl := (List.getElem?_eq_some_iff.mp g1).1
  have tR := h.tR
  have pR := h.pR
  refine ⟨⟨ns, i', a, c, by rw [List.getElem?_set_ne pR, List.getElem?_append_left pl]; exact g1, g2⟩, tbok_set (h.tb.app _) tR, h.hp, ⟨?_, fun x hx => ?_⟩, ?_, fun x hx => ?_, pR, tR, fun x hx => ?_⟩
  · rw [List.getElem?_set_self (by rw [List.length_append]; omega), List.map_append]; rfl
  · rcases List.mem_append.mp hx with m | m
    · have := h.ad x m
      rw [List.getElem?_set_ne (Ne.symm this.2.1), List.getElem?_append_left (hlt x m)]
      exact h.rw_.at_ x m
    · rw [List.mem_singleton.mp m]
      show ((st ++ [Ob.lst (L.map dPair)]).set R _)[st.length]? = some (.lst (L.map dPair))
      rw [List.getElem?_set_ne (by omega)]; exact app_new
  · rw [List.map_append]
    refine List.nodup_append.mpr ⟨h.nd, by simp, fun a ha b hb e => ?_⟩
    obtain ⟨x, hx, rfl⟩ := List.mem_map.mp ha
    have hb : b = st.length := by simpa using hb
    have := hlt x hx
    omega
  · rcases List.mem_append.mp hx with m | m
    · exact h.ad x m
    · rw [List.mem_singleton.mp m]
      show st.length ≠ p ∧ st.length ≠ R ∧ tbls.length ≤ st.length
      omega
  · rcases List.mem_append.mp hx with m | m
    · exact h.gd x m
    · rw [List.mem_singleton.mp m]; exact hL
section
variable {p R ni no : Nat} {way hi oi ai ll mx : Int} {QD LI LO : List D} {dq : D} {st st1 st2 st3 st4 : Sto}
theorem sp_none (t1 : F_law_take [.ptr p, .int (QD.length : Int)] st = .val .P (.int hi) st1) (hR : st[R]? = some (.lst QD)) (hR1 : st1[R]? = some (.lst QD)) (t2 : F_law_take [.ptr p, .int (QD.length : Int)] st1 = .val .P (.int oi) st2) (hR2 : st2[R]? = some (.lst QD)) (ih : atI QD hi = some (.ptr ni)) (hn2 : st2[ni]? = some (.lst LI)) (hl : (LI.length : Int) = ll) (hx : (if 1 < ll then ll else 1) = mx) (t3 : F_law_take [.ptr p, .int mx] st2 = .val .P (.int ai) st3) (t4 : F_law_any_place [.ptr p] st3 = .val .P dq st4) (hR4 : st4[R]? = some (.lst QD)) (hn4 : st4[ni]? = some (.lst LI)) (w : way ≠ 1 ∧ way ≠ 2 ∧ way ≠ 3 ∨ ¬ 0 < ll) (w4 : way ≠ 4) (w5 : way ≠ 5) : F_law_spoilt [.ptr p, .int way, .ptr R] st = .val .P (.ptr R) st4 := by
  by_cases c : way = 1 ∨ way = 2 ∨ way = 3
  · have l0 : ¬ 0 < ll := by omega
    rcases c with rfl | rfl | rfl <;> simp -implicitDefEqProofs [F_law_spoilt, g_law_spoilt, hR, t1, hR1, t2, hR2, ih, hn2, hl, hx, t3, t4, hR4, hn4, l0, -e_mInsert]
  · have w1 : ¬ way = 1 := fun z => c (.inl z)
    have w2 : ¬ way = 2 := fun z => c (.inr (.inl z))
    have w3 : ¬ way = 3 := fun z => c (.inr (.inr z))
    simp -implicitDefEqProofs [F_law_spoilt, g_law_spoilt, hR, t1, hR1, t2, hR2, ih, hn2, hl, hx, t3, t4, hR4, hn4, w1, w2, w3, w4, w5]
theorem sp_one (t1 : F_law_take [.ptr p, .int (QD.length : Int)] st = .val .P (.int hi) st1) (hR : st[R]? = some (.lst QD)) (hR1 : st1[R]? = some (.lst QD)) (t2 : F_law_take [.ptr p, .int (QD.length : Int)] st1 = .val .P (.int oi) st2) (hR2 : st2[R]? = some (.lst QD)) (ih : atI QD hi = some (.ptr ni)) (hn2 : st2[ni]? = some (.lst LI)) (hl : (LI.length : Int) = ll) (hx : (if 1 < ll then ll else 1) = mx) (t3 : F_law_take [.ptr p, .int mx] st2 = .val .P (.int ai) st3) (t4 : F_law_any_place [.ptr p] st3 = .val .P dq st4) (hR4 : st4[R]? = some (.lst QD)) (hn4 : st4[ni]? = some (.lst LI)) (l0 : 0 < ll) {d : D} {L2 : List D} (pa : mPopAt LI [.int ai] = some (d, L2)) : F_law_spoilt [.ptr p, .int 1, .ptr R] st = .val .P (.ptr R) (st4.set ni (.lst L2)) := by
  simp -implicitDefEqProofs [F_law_spoilt, g_law_spoilt, hR, t1, hR1, t2, hR2, ih, hn2, hl, hx, t3, t4, hR4, hn4, l0, pa]
theorem sp_two (t1 : F_law_take [.ptr p, .int (QD.length : Int)] st = .val .P (.int hi) st1) (hR : st[R]? = some (.lst QD)) (hR1 : st1[R]? = some (.lst QD)) (t2 : F_law_take [.ptr p, .int (QD.length : Int)] st1 = .val .P (.int oi) st2) (hR2 : st2[R]? = some (.lst QD)) (ih : atI QD hi = some (.ptr ni)) (io : atI QD oi = some (.ptr no)) (hn2 : st2[ni]? = some (.lst LI)) (hl : (LI.length : Int) = ll) (hx : (if 1 < ll then ll else 1) = mx) (t3 : F_law_take [.ptr p, .int mx] st2 = .val .P (.int ai) st3) (t4 : F_law_any_place [.ptr p] st3 = .val .P dq st4) (hR4 : st4[R]? = some (.lst QD)) (hn4 : st4[ni]? = some (.lst LI)) (ho4 : st4[no]? = some (.lst LO)) (l0 : 0 < ll) {d : D} (ia : atI LI ai = some d) (lo : LO.length < 1000000) : F_law_spoilt [.ptr p, .int 2, .ptr R] st = .val .P (.ptr R) (st4.set no (.lst (LO ++ [d]))) := by
  simp -implicitDefEqProofs [F_law_spoilt, g_law_spoilt, hR, t1, hR1, t2, hR2, ih, io, hn2, hl, hx, t3, t4, hR4, hn4, ho4, l0, ia, lo]
theorem sp_three (t1 : F_law_take [.ptr p, .int (QD.length : Int)] st = .val .P (.int hi) st1) (hR : st[R]? = some (.lst QD)) (hR1 : st1[R]? = some (.lst QD)) (t2 : F_law_take [.ptr p, .int (QD.length : Int)] st1 = .val .P (.int oi) st2) (hR2 : st2[R]? = some (.lst QD)) (ih : atI QD hi = some (.ptr ni)) (hn2 : st2[ni]? = some (.lst LI)) (hl : (LI.length : Int) = ll) (hx : (if 1 < ll then ll else 1) = mx) (t3 : F_law_take [.ptr p, .int mx] st2 = .val .P (.int ai) st3) (t4 : F_law_any_place [.ptr p] st3 = .val .P dq st4) (hR4 : st4[R]? = some (.lst QD)) (hn4 : st4[ni]? = some (.lst LI)) (l0 : 0 < ll) {da db : D} (ia : atI LI ai = some (.tup [da, db])) {j : Nat} (ij : ixN LI.length ai = some j) {k1 k2 : Int} (b1 : F_law_by [da] st4 = .val .P (.int k1) st4) (b2 : F_law_by [dq] st4 = .val .P (.int k2) st4) : F_law_spoilt [.ptr p, .int 3, .ptr R] st = .val .P (.ptr R) (st4.set ni (.lst (LI.set j (.tup [if k2 < k1 then dq else da, if k1 < k2 then dq else da])))) := by
  have a0 : atI [da, db] 0 = some da := rfl
  simp -implicitDefEqProofs [F_law_spoilt, g_law_spoilt, hR, t1, hR1, t2, hR2, ih, hn2, hl, hx, t3, t4, hR4, hn4, l0, ia, a0, ij, b1, b2]
theorem sp_four (t1 : F_law_take [.ptr p, .int (QD.length : Int)] st = .val .P (.int hi) st1) (hR : st[R]? = some (.lst QD)) (hR1 : st1[R]? = some (.lst QD)) (t2 : F_law_take [.ptr p, .int (QD.length : Int)] st1 = .val .P (.int oi) st2) (hR2 : st2[R]? = some (.lst QD)) (ih : atI QD hi = some (.ptr ni)) (hn2 : st2[ni]? = some (.lst LI)) (hl : (LI.length : Int) = ll) (hx : (if 1 < ll then ll else 1) = mx) (t3 : F_law_take [.ptr p, .int mx] st2 = .val .P (.int ai) st3) (t4 : F_law_any_place [.ptr p] st3 = .val .P dq st4) (hR4 : st4[R]? = some (.lst QD)) (hn4 : st4[ni]? = some (.lst LI)) {S5 : Sto} (hS : st4 ++ [Ob.lst LI] = S5) (hR5 : S5[R]? = some (.lst QD)) (lq : QD.length < 1000000) : F_law_spoilt [.ptr p, .int 4, .ptr R] st = .val .P (.ptr R) (S5.set R (Ob.lst (QD ++ [D.ptr st4.length]))) := by
  simp -implicitDefEqProofs [F_law_spoilt, g_law_spoilt, hR, t1, hR1, t2, hR2, ih, hn2, hl, hx, t3, t4, hR4, hn4, hS, hR5, lq]
theorem sp_five (t1 : F_law_take [.ptr p, .int (QD.length : Int)] st = .val .P (.int hi) st1) (hR : st[R]? = some (.lst QD)) (hR1 : st1[R]? = some (.lst QD)) (t2 : F_law_take [.ptr p, .int (QD.length : Int)] st1 = .val .P (.int oi) st2) (hR2 : st2[R]? = some (.lst QD)) (ih : atI QD hi = some (.ptr ni)) (hn2 : st2[ni]? = some (.lst LI)) (hl : (LI.length : Int) = ll) (hx : (if 1 < ll then ll else 1) = mx) (t3 : F_law_take [.ptr p, .int mx] st2 = .val .P (.int ai) st3) (t4 : F_law_any_place [.ptr p] st3 = .val .P dq st4) (hR4 : st4[R]? = some (.lst QD)) (hn4 : st4[ni]? = some (.lst LI)) {S5 : Sto} (hS : st4 ++ [Ob.lst [D.tup [dq, dq]]] = S5) (hR5 : S5[R]? = some (.lst QD)) (lq : QD.length < 1000000) : F_law_spoilt [.ptr p, .int 5, .ptr R] st = .val .P (.ptr R) (S5.set R (Ob.lst (QD ++ [D.ptr st4.length]))) := by
  simp -implicitDefEqProofs [F_law_spoilt, g_law_spoilt, hR, t1, hR1, t2, hR2, ih, hn2, hl, hx, t3, t4, hR4, hn4, hS, hR5, lq]
end
end Is1
namespace Is1
theorem sq_nat {n : Nat} {i : Int} (h0 : 0 ≤ i) (h1 : i < n) : seqIndex? i n = some i.toNat := by
  have h2 : ¬ i < 0 := by omega
  simp [seqIndex?, h2, h0, h1]
theorem pop_at {L : Sp} {i : Int} (h0 : 0 ≤ i) (h1 : i < L.length) (hl : L.length ≤ 1000) : ∃ d, mPopAt (L.map dPair) [.int i] = some (d, (L.take i.toNat ++ L.drop (i.toNat + 1)).map dPair) := by
  have hi : i.toNat < L.length := by omega
  have g : (L.map dPair)[i.toNat]? = some (dPair L[i.toNat]) := by rw [List.getElem?_map, List.getElem?_eq_getElem hi]; rfl
  refine ⟨dPair L[i.toNat], ?_⟩
  rw [e_mPopAt, if_pos ⟨Int.le_trans (by decide) h0, Int.lt_of_le_of_lt (by omega : i ≤ 1000) (by decide)⟩, sq_nat h0 (by rw [List.length_map]; exact h1)]
  simp only [g]
  rw [List.eraseIdx_eq_take_drop_succ, List.map_append, List.map_take, List.map_drop]
theorem at_row {L : Sp} {i : Int} (h0 : 0 ≤ i) (h1 : i < L.length) : ∃ q ∈ L, atI (L.map dPair) i = some (dPair q) := by
  have hi : i.toNat < L.length := by omega
  refine ⟨L[i.toNat], List.getElem_mem hi, ?_⟩
  have := atI_nat (xs := L.map dPair) (j := i.toNat) (by rw [List.getElem?_map, List.getElem?_eq_getElem hi]; rfl)
  rwa [Int.toNat_of_nonneg h0] at this
theorem ixN_nat {n : Nat} {i : Int} (h0 : 0 ≤ i) (h1 : i < n) : ixN n i = some i.toNat := by
  unfold ixN
  rw [if_pos h0, if_pos h1]
theorem spoilt_ok {p R N : Nat} {qs : List (Nat × Sp)} {st : Sto} (way : Int) (h : Rws p R N qs st) (hN : N ≤ 1000) (k0 : 1 ≤ qs.length) (k1 : qs.length ≤ 100) (hs : spans qs ≤ 30) : ∃ st' qs', F_law_spoilt [.ptr p, .int way, .ptr R] st = .val .P (.ptr R) st' ∧ Rws p R (N + 5) qs' st' ∧ 1 ≤ qs'.length ∧ qs'.length ≤ qs.length + 1 ∧ spans qs' ≤ 70 := by
  have lQ : (qs.map fun x => D.ptr x.1).length = qs.length := by rw [List.length_map]
  obtain ⟨hi, st1, t1, a0, a1, B1, R1⟩ := take_ok h.bx (n := ((qs.map fun x => D.ptr x.1).length : Int)) (by omega) (Int.lt_of_le_of_lt (b := 1000) (by omega) (by decide)) (by omega)
  have h1 := h.rest R1 B1
  obtain ⟨oi, st2, t2, b0, b1, B2, R2⟩ := take_ok h1.bx (n := ((qs.map fun x => D.ptr x.1).length : Int)) (by omega) (Int.lt_of_le_of_lt (b := 1000) (by omega) (by decide)) (by omega)
  have h2 := h1.rest R2 B2
  rw [lQ] at a1 b1
  obtain ⟨i, x, rfl, hx, ih, hn2⟩ := h2.ix a0 a1
  obtain ⟨o, y, rfl, hy, io, _⟩ := h2.ix b0 b1
  have mx : x ∈ qs := List.mem_iff_getElem?.mpr ⟨i, hx⟩
  have my : y ∈ qs := List.mem_iff_getElem?.mpr ⟨o, hy⟩
  have lx := spans_le mx
  have ly := spans_le my
  obtain ⟨ll, hl⟩ : ∃ ll : Int, ((x.2.map dPair).length : Int) = ll := ⟨_, rfl⟩
  have hl' : (x.2.length : Int) = ll := by rw [← hl, List.length_map]
  obtain ⟨mm, hm⟩ : ∃ mm : Int, (if 1 < ll then ll else 1) = mm := ⟨_, rfl⟩
  have hmm : 1 ≤ mm ∧ mm ≤ 1000 ∧ (0 < ll → mm = ll) := by
    by_cases c : 1 < ll
    · rw [if_pos c] at hm; omega
    · rw [if_neg c] at hm; omega
  obtain ⟨ai, st3, t3, c0, c1, B3, R3⟩ := take_ok h2.bx (n := mm) hmm.1 (Int.lt_of_le_of_lt (b := 1000) (by omega) (by decide)) (by omega)
  have h3 := h2.rest R3 B3
  obtain ⟨q, st4, t4, pq, B4, R4⟩ := any_ok h3.bx (by omega)
  have h4 := h3.rest R4 B4
  have hR := h.rw_.li
  have hR1 := h1.rw_.li
  have hR2 := h2.rw_.li
  have hR4 := h4.rw_.li
  have hn4 := h4.rw_.at_ x mx
  have ho4 := h4.rw_.at_ y my
  by_cases w4 : way = 4
  · subst w4
    have h5 := h4.app (L := x.2) (h.gd x mx)
    have hR5 : (st4 ++ [Ob.lst (x.2.map dPair)])[R]? = some (.lst (qs.map fun x => D.ptr x.1)) := by rw [List.getElem?_append_left (List.getElem?_eq_some_iff.mp hR4).1]; exact hR4
    have s := spans_app qs [(st4.length, x.2)]
    have s2 : spans [(st4.length, x.2)] = x.2.length + 0 := rfl
    exact ⟨_, _, sp_four t1 hR hR1 t2 hR2 ih hn2 hl hm t3 t4 hR4 hn4 rfl hR5 (by omega), h5, by simp, by simp, by omega⟩
  by_cases w5 : way = 5
  · subst w5
    have h5 := h4.app (L := [(q, q)]) (fun z hz => by rw [List.mem_singleton.mp hz]; exact gd_of pq pq Rat.le_refl)
    have hR5 : (st4 ++ [Ob.lst [D.tup [dF q, dF q]]])[R]? = some (.lst (qs.map fun x => D.ptr x.1)) := by rw [List.getElem?_append_left (List.getElem?_eq_some_iff.mp hR4).1]; exact hR4
    have s := spans_app qs [(st4.length, [(q, q)])]
    have s2 : spans [(st4.length, [(q, q)])] = 1 := rfl
    exact ⟨_, _, sp_five t1 hR hR1 t2 hR2 ih hn2 hl hm t3 t4 hR4 hn4 rfl hR5 (by omega), h5, by simp, by simp, by omega⟩
  by_cases c : (way ≠ 1 ∧ way ≠ 2 ∧ way ≠ 3) ∨ ¬ 0 < ll
  · exact ⟨_, qs, sp_none t1 hR hR1 t2 hR2 ih hn2 hl hm t3 t4 hR4 hn4 c w4 w5, ⟨h4.bx.up (by omega), h4.tb, h4.hp, h4.rw_, h4.nd, h4.ad, h4.pR, h4.tR, h4.gd⟩, k0, by omega, by omega⟩
  have l0 : 0 < ll := by omega
  have ha : ai < x.2.length := by omega
  by_cases w1 : way = 1
  · subst w1
    obtain ⟨d, pa⟩ := pop_at (L := x.2) c0 ha (by omega)
    have h5 := h4.set hx (L := x.2.take ai.toNat ++ x.2.drop (ai.toNat + 1)) fun z hz => by
      rcases List.mem_append.mp hz with hz | hz
      · exact h.gd x mx z (List.mem_of_mem_take hz)
      · exact h.gd x mx z (List.mem_of_mem_drop hz)
    have s : spans (qs.set i (x.1, x.2.take ai.toNat ++ x.2.drop (ai.toNat + 1))) + x.2.length = spans qs + (x.2.take ai.toNat ++ x.2.drop (ai.toNat + 1)).length := spans_set hx rfl
    rw [List.length_append, List.length_take, List.length_drop] at s
    exact ⟨_, qs.set i (x.1, x.2.take ai.toNat ++ x.2.drop (ai.toNat + 1)), sp_one t1 hR hR1 t2 hR2 ih hn2 hl hm t3 t4 hR4 hn4 l0 pa, h5, by rw [List.length_set]; omega, by rw [List.length_set]; omega, by omega⟩
  obtain ⟨z, mz, hz⟩ := at_row (L := x.2) c0 ha
  by_cases w2 : way = 2
  · subst w2
    have h5 := h4.set hy (L := y.2 ++ [z]) fun u hu => by
      rcases List.mem_append.mp hu with hu | hu
      · exact h.gd y my u hu
      · rw [List.mem_singleton.mp hu]; exact h.gd x mx z mz
    have e : (y.2 ++ [z]).map dPair = y.2.map dPair ++ [dPair z] := by rw [List.map_append]; rfl
    rw [e] at h5
    have s : spans (qs.set o (y.1, y.2 ++ [z])) + y.2.length = spans qs + (y.2 ++ [z]).length := spans_set hy rfl
    rw [List.length_append, List.length_singleton] at s
    exact ⟨_, qs.set o (y.1, y.2 ++ [z]), sp_two t1 hR hR1 t2 hR2 ih io hn2 hl hm t3 t4 hR4 hn4 ho4 l0 hz (by rw [List.length_map]; omega), h5, by rw [List.length_set]; omega, by rw [List.length_set]; omega, by omega⟩
  have w3 : way = 3 := by omega
  subst w3
  obtain ⟨z1, z2, z3, z4, z5⟩ := h.gd x mx z mz
  have pz : Pl z.1 := ⟨z1, z3, Rat.le_trans z4 z5⟩
  have b1 := by_eq pz.sz st4
  have b2 := by_eq pq.sz st4
  have ij := ixN_nat (n := (x.2.map dPair).length) c0 (by rw [List.length_map]; exact ha)
  have run := sp_three t1 hR hR1 t2 hR2 ih hn2 hl hm t3 t4 hR4 hn4 l0 (da := dF z.1) (db := dF z.2) hz ij b1 b2
  have pmin : Pl (if keyQ q < keyQ z.1 then q else z.1) := by
    by_cases c : keyQ q < keyQ z.1
    · rw [if_pos c]; exact pq
    · rw [if_neg c]; exact pz
  have pmax : Pl (if keyQ z.1 < keyQ q then q else z.1) := by
    by_cases c : keyQ z.1 < keyQ q
    · rw [if_pos c]; exact pq
    · rw [if_neg c]; exact pz
  have h5 := h4.set hx (L := x.2.set ai.toNat (if keyQ q < keyQ z.1 then q else z.1, if keyQ z.1 < keyQ q then q else z.1)) fun u hu => by
    rcases List.mem_or_eq_of_mem_set hu with hu | rfl
    · exact h.gd x mx u hu
    · exact gd_of pmin pmax key_pick
  have e : (x.2.set ai.toNat (if keyQ q < keyQ z.1 then q else z.1, if keyQ z.1 < keyQ q then q else z.1)).map dPair = (x.2.map dPair).set ai.toNat (.tup [if keyQ q < keyQ z.1 then dF q else dF z.1, if keyQ z.1 < keyQ q then dF q else dF z.1]) := by
    rw [List.map_set]
    congr 1
    unfold dPair
    by_cases c1 : keyQ q < keyQ z.1 <;> by_cases c2 : keyQ z.1 < keyQ q <;> simp only [c1, c2, if_true, if_false]
  rw [e] at h5
  have s : spans (qs.set i (x.1, x.2.set ai.toNat (if keyQ q < keyQ z.1 then q else z.1, if keyQ z.1 < keyQ q then q else z.1))) + x.2.length = spans qs + (x.2.set ai.toNat (if keyQ q < keyQ z.1 then q else z.1, if keyQ z.1 < keyQ q then q else z.1)).length := spans_set hx rfl
  rw [List.length_set] at s
  exact ⟨_, qs.set i (x.1, x.2.set ai.toNat (if keyQ q < keyQ z.1 then q else z.1, if keyQ z.1 < keyQ q then q else z.1)), run, h5, by rw [List.length_set]; omega, by rw [List.length_set]; omega, by omega⟩
end Is1
namespace Is1
def numbS (n : Nat) : List Sp → List (Nat × Sp)
  | [] => []
  | L :: l => (n, norm L) :: numbS (n + 1) l
theorem numbS_snd : ∀ (l : List Sp) (n : Nat), (numbS n l).map (·.2) = l.map norm
  | [], _ => rfl
  | r :: l, n => by simp [numbS, numbS_snd l]
theorem numbS_len : ∀ (l : List Sp) (n : Nat), (numbS n l).length = l.length
  | [], _ => rfl
  | r :: l, n => by simp [numbS, numbS_len l]
theorem numbS_at : ∀ {l : List Sp} {S : Sto}, ∀ x ∈ numbS S.length l, (S ++ l.map fun L => shr (norm L))[x.1]? = some (shr x.2) ∧ S.length ≤ x.1 ∧ ∃ L ∈ l, x.2 = norm L
  | [], S, t, h => by simp [numbS] at h
  | r :: l, S, t, h => by
    have e : S ++ (r :: l).map (fun L => shr (norm L)) = (S ++ [shr (norm r)]) ++ l.map fun L => shr (norm L) := by simp
    rcases List.mem_cons.mp h with rfl | h
    · exact ⟨by simp, Nat.le_refl _, r, by simp, rfl⟩
    · have l1 : (S ++ [shr (norm r)]).length = S.length + 1 := by simp
      rw [e]
      obtain ⟨a, b, L, c, d⟩ := numbS_at (l := l) (S := S ++ [shr (norm r)]) t (by rw [l1]; exact h)
      exact ⟨a, by omega, L, by simp [c], d⟩
theorem spans_numbS : ∀ (qs : List (Nat × Sp)) (n : Nat), spans (numbS n (qs.map (·.2))) ≤ 2 * spans qs
  | [], _ => by simp [numbS, spans]
  | x :: qs, n => by
    have i := spans_numbS qs (n + 1)
    have e : spans (numbS n ((x :: qs).map (·.2))) = (norm x.2).length + spans (numbS (n + 1) (qs.map (·.2))) := rfl
    have e2 : spans (x :: qs) = x.2.length + spans qs := rfl
    have nl := norm_le x.2
    omega
theorem shs_made {R : Nat} {QD : List D} {v0 v1 v2 v3 v4 v5 v6 v7 v8 v9 v10 v11 v13 : SL} : ∀ (q2 : List (Nat × Sp)) (S : Sto), TbOk S → S[R]? = some (.lst QD) → (∀ x ∈ q2, S[x.1]? = some (.lst (x.2.map dPair)) ∧ (∀ q ∈ x.2, Gd gg q) ∧ x.2.length ≤ 1000) → lcGoC (fun st => stLst st R = some QD) (lcStep (tgN 12) (fun E => ER.val Md.P (D.bl true) E.st) ce_law_1 [v0, v1, v2, v3, v4, v5, v6, v7, v8, v9, v10, v11, .emp, v13]) (q2.map fun x => D.ptr x.1) S = some ((numbS S.length (q2.map (·.2))).map (fun x => D.ptr x.1), S ++ (q2.map (·.2)).map fun L => shr (norm L))
  | [], S, _, hR, _ => by
    simp [lcGoC, numbS, hR]
  | x :: q2, S, Tb, hR, h => by
    obtain ⟨hx, gd, hl⟩ := h x (by simp)
    have zS : SzL 70 x.2 := fun p hp => (gd p hp).sz gg_ok.1 gg_ok.2
    have iS : In01 x.2 := fun p hp => ⟨(gd p hp).2.2.1, (gd p hp).2.2.2.1, (gd p hp).2.2.2.2⟩
    have i := share_init (s := 70) (by omega) zS (by omega) Tb
    rw [iS.out] at i
    have i : F_Share___init__ [.ptr S.length, .lst (x.2.map dPair)] (S ++ [.ins 3 []]) = .val .P .non (S ++ [shr (norm x.2)]) := i
    have lt : ∀ {n : Nat} {o : Ob}, S[n]? = some o → (S ++ [shr (norm x.2)])[n]? = some o := fun {n o} e => by rw [List.getElem?_append_left (List.getElem?_eq_some_iff.mp e).1]; exact e
    have ih := shs_made (v0 := v0) (v1 := v1) (v2 := v2) (v3 := v3) (v4 := v4) (v5 := v5) (v6 := v6) (v7 := v7) (v8 := v8) (v9 := v9) (v10 := v10) (v11 := v11) (v13 := v13) q2 (S ++ [shr (norm x.2)]) (Tb.app _) (lt hR) fun y hy => ⟨lt (h y (by simp [hy])).1, (h y (by simp [hy])).2⟩
    have s : lcStep (tgN 12) (fun E => ER.val Md.P (D.bl true) E.st) ce_law_1 [v0, v1, v2, v3, v4, v5, v6, v7, v8, v9, v10, v11, .emp, v13] (.ptr x.1) S = some (some (.ptr S.length), S ++ [shr (norm x.2)]) := by
      clear ih lt
      generalize x.2.map dPair = X at *
      generalize hS : S ++ [shr (norm x.2)] = S1 at *
      simp -implicitDefEqProofs [lcStep, q_ce_law_1, hx, i]
    have l1 : (S ++ [shr (norm x.2)]).length = S.length + 1 := by simp
    rw [l1] at ih
    have hst : stLst S R = some QD := by rw [e_stLst, hR]
    rw [List.map_cons]
    unfold lcGoC
    rw [if_pos hst, s]
    simp only [Option.bind_some, ih, Option.toList_some, numbS, List.map_cons]
    simp
theorem lc_mapI {α : Type} {k : D → Sto → Option (Option D × Sto)} {xs : List D} {enc f : α → D} {st : Sto} {l : List α} (e : xs = l.map enc) (h : ∀ a ∈ l, k (enc a) st = some (some (f a), st)) : lcGo k xs st = some (l.map f, st) := by
  subst e; exact lc_map h
theorem told_lc {v0 v1 v2 v3 v4 v5 v6 v7 v8 v9 v10 v11 v12 : SL} {S : Sto} {ns : List (Nat × Sp)} (h : ∀ x ∈ ns, S[x.1]? = some (shr x.2)) : lcGo (lcStep (tgN 13) (fun E => ER.val Md.P (D.bl true) E.st) ce_law_2 [v0, v1, v2, v3, v4, v5, v6, v7, v8, v9, v10, v11, v12, .emp]) (ns.map fun x => D.ptr x.1) S = some (ns.map (fun x => D.lst (x.2.map dPair)), S) := by
  refine lc_mapI (enc := fun x : Nat × Sp => D.ptr x.1) rfl fun x hx => ?_
  have hs := h x hx
  have f := spans_eq hs
  unfold shr at hs
  simp -implicitDefEqProofs [lcStep, q_ce_law_2, hs, f]
theorem told_lc4 {v0 v1 v2 v3 v4 v5 v6 v7 v8 v9 v10 v11 v12 : SL} {S : Sto} {ns : List (Nat × Sp)} (h : ∀ x ∈ ns, S[x.1]? = some (shr x.2)) : lcGo (lcStep (tgN 13) (fun E => ER.val Md.P (D.bl true) E.st) ce_law_4 [v0, v1, v2, v3, v4, v5, v6, v7, v8, v9, v10, v11, v12, .emp]) (ns.map fun x => D.ptr x.1) S = some (ns.map (fun x => D.lst (x.2.map dPair)), S) := by
  refine lc_mapI (enc := fun x : Nat × Sp => D.ptr x.1) rfl fun x hx => ?_
  have hs := h x hx
  have f := spans_eq hs
  unfold shr at hs
  simp -implicitDefEqProofs [lcStep, q_ce_law_4, hs, f]
theorem cnt_app : ∀ (l m : List Sp) (x : Rat), cnt (l ++ m) x = cnt l x + cnt m x
  | [], m, x => by show cnt m x = 0 + cnt m x; omega
  | S :: l, m, x => by
    show (if cvb S x = true then 1 else 0) + cnt (l ++ m) x = (if cvb S x = true then 1 else 0) + cnt l x + cnt m x
    rw [cnt_app l m x]; omega
theorem pur_rows : ∀ l : List (Nat × Sp), purL (l.map fun x => D.lst (x.2.map dPair)) = true ∧ depL (l.map fun x => D.lst (x.2.map dPair)) ≤ 3
  | [] => ⟨rfl, by simp [depL]⟩
  | x :: l => by
    have row : ∀ L : Sp, purL (L.map dPair) = true ∧ depL (L.map dPair) ≤ 2 := fun L => by
      induction L with
      | nil => exact ⟨rfl, by simp [depL]⟩
      | cons p L ih => exact ⟨by simp only [List.map_cons, purL, pur_dPair, ih.1, Bool.and_true], by simp only [List.map_cons, depL, dPair, dep, dF]; omega⟩
    obtain ⟨a, b⟩ := pur_rows l
    obtain ⟨c, d⟩ := row x.2
    exact ⟨by simp only [List.map_cons, purL, pur, c, a, Bool.and_true], by simp only [List.map_cons, depL, dep]; omega⟩
end Is1
namespace Is1
theorem k52_run {p R : Nat} {way hI t tt nI : Int} {b : Bool} {v0 : SL} {QD A TL DR TK : List D} {S0 S1 S2 S3 S4 : Sto} (hR : S0[R]? = some (.lst QD)) (hq : QD.length ≤ 1000000) (sm : lcGoC (fun st => stLst st R = some QD) (lcStep (tgN 12) (fun E => ER.val Md.P (D.bl true) E.st) ce_law_1 [v0, .val (.ptr p), .val (.int way), .val (.int hI), .val (.ptr R), .emp, .emp, .emp, .emp, .emp, .emp, .emp, .emp, .emp]) QD S0 = some (A, S1)) (hA : A.length ≤ 1000000)
    (tl : lcGo (lcStep (tgN 13) (fun E => ER.val Md.P (D.bl true) E.st) ce_law_2 [v0, .val (.ptr p), .val (.int way), .val (.int hI), .val (.ptr R), .val (.lst A), .emp, .emp, .emp, .emp, .emp, .emp, .emp, .emp]) A S1 = some (TL, S1)) (du : F_law_due [.ptr R] S1 = .val .P (.bl b) S1) (hR1 : S1[R]? = some (.lst QD)) (hn : (QD.length : Int) = nI) (hx : (if 1 < nI then nI else 1) = tt) (tk : F_law_take [.ptr p, .int tt] S1 = .val .P (.int t) S2)
    (c1 : cutG A (some t) none = DR) (c2 : cutG A none (some t) = TK) (hl : DR.length + TK.length ≤ 1000000) (hl2 : (DR ++ TK).length ≤ 1000000) (f1 : F_is_shared [.lst A] S2 = .val .P (.bl b) S3) (f2 : F_is_shared [.lst (DR ++ TK)] S3 = .val .P (.bl b) S4)
    (tl4 : ∀ v8 v9 v10 v11, lcGo (lcStep (tgN 13) (fun E => ER.val Md.P (D.bl true) E.st) ce_law_4 [v0, .val (.ptr p), .val (.int way), .val (.int hI), .val (.ptr R), .val (.lst A), .val (.lst TL), .val (.bl b), v8, v9, v10, v11, .emp, .emp]) A S4 = some (TL, S4)) (eq : oEq (.lst TL) (.lst TL) S4 = .val .P (.bl true) S4) :
    Yes (k_law_6 ⟨[v0, .val (.ptr p), .val (.int way), .val (.int hI), .val (.ptr R), .emp, .emp, .emp, .emp, .emp, .emp, .emp, .emp, .emp], S0⟩).ret := by
  have kb : kitB "bool" "bool" = some true := by decide +kernel
  have ib : ∀ (b : Bool) (st : Sto), isT "bool" (.bl b) st = .val .P (.bl true) st := fun b st => by simp only [isT, tyN, kb, ofOpt_some]
  have nb : ∀ (b : Bool) (st : Sto), oNe (.bl b) (.bl b) st = .val .P (.bl false) st := fun b st => by cases b <;> rfl
  simp only [e_stLst] at sm
  unfold Yes
  simp -implicitDefEqProofs [q_k_law_6, hR, hq, sm, hA, q_k_law_7, tl, q_k_law_8, du, q_k_law_9, hR1, hn, hx, tk, q_k_law_10, c1, c2, hl, hl2, e_forC, q_fb_law_3, f1, f2, ib, nb, q_k_law_11, tl4, eq]
theorem k52_end {p R N : Nat} {qs : List (Nat × Sp)} {st : Sto} {way hI : Int} {v0 : SL} (h : Rws p R N qs st) (hN : N ≤ 2000) (hk : qs.length ≤ 200) (hs : spans qs ≤ 100) : Yes (k_law_6 ⟨[v0, .val (.ptr p), .val (.int way), .val (.int hI), .val (.ptr R), .emp, .emp, .emp, .emp, .emp, .emp, .emp, .emp, .emp], st⟩).ret := by
  have lx : ∀ x ∈ qs, x.2.length ≤ 1000 := fun x m => by have := spans_le m; omega
  have lQ : (qs.map fun x => D.ptr x.1).length = qs.length := by rw [List.length_map]
  have sm := shs_made (v0 := v0) (v1 := .val (.ptr p)) (v2 := .val (.int way)) (v3 := .val (.int hI)) (v4 := .val (.ptr R)) (v5 := .emp) (v6 := .emp) (v7 := .emp) (v8 := .emp) (v9 := .emp) (v10 := .emp) (v11 := .emp) (v13 := .emp) qs st h.tb h.rw_.li fun x m => ⟨h.rw_.at_ x m, h.gd x m, lx x m⟩
  obtain ⟨ns, hns⟩ : ∃ ns, numbS st.length (qs.map (·.2)) = ns := ⟨_, rfl⟩
  rw [hns] at sm
  have nlen : ns.length = qs.length := by rw [← hns, numbS_len, List.length_map]
  have nsp : spans ns ≤ 2 * spans qs := by rw [← hns]; exact spans_numbS qs _
  have nsnd : ns.map (·.2) = (qs.map (·.2)).map norm := by rw [← hns, numbS_snd]
  obtain ⟨S1, hS1⟩ : ∃ S1, st ++ (qs.map (·.2)).map (fun L => shr (norm L)) = S1 := ⟨_, rfl⟩
  rw [hS1] at sm
  have pl := (List.getElem?_eq_some_iff.mp (show st[p]? = some _ from h.bx.choose_spec.choose_spec.choose_spec.choose_spec.1)).1
  have at1 : ∀ x ∈ ns, S1[x.1]? = some (shr x.2) ∧ x.1 ≠ p ∧ ∃ L ∈ qs.map (·.2), x.2 = norm L := fun x m => by
    rw [← hns] at m
    obtain ⟨a, b, c⟩ := numbS_at (S := st) x m
    rw [hS1] at a
    exact ⟨a, by omega, c⟩
  have old : ∀ {n : Nat} {o : Ob}, st[n]? = some o → S1[n]? = some o := fun {n o} e => by rw [← hS1, List.getElem?_append_left (List.getElem?_eq_some_iff.mp e).1]; exact e
  have T1 : TbOk S1 := by rw [← hS1]; exact h.tb.app _
  have B1 : TBox p N S1 := by
    obtain ⟨ns', i', a, c, g1, g2⟩ := h.bx
    exact ⟨ns', i', a, c, old g1, g2⟩
  have rw1 : RwAt R qs S1 := ⟨old h.rw_.li, fun x m => old (h.rw_.at_ x m)⟩
  obtain ⟨b, du, ib⟩ := law_due_eq gg_ok.1 gg_ok.2 (by decide) (by decide) rw1 h.gd (by omega)
  obtain ⟨nI, hnI⟩ : ∃ nI : Int, ((qs.map fun x => D.ptr x.1).length : Int) = nI := ⟨_, rfl⟩
  have hnI' : (qs.length : Int) = nI := by rw [← hnI, lQ]
  obtain ⟨tt, htt⟩ : ∃ tt : Int, (if 1 < nI then nI else 1) = tt := ⟨_, rfl⟩
  have httb : 1 ≤ tt ∧ tt ≤ 1000 := by
    by_cases c : 1 < nI
    · rw [if_pos c] at htt; omega
    · rw [if_neg c] at htt; omega
  obtain ⟨t, S2, tk, t0, t1, B2, R2⟩ := take_ok B1 (n := tt) httb.1 (Int.lt_of_le_of_lt (b := 1000) (by omega) (by decide)) (by omega)
  have T2 := tbok_rest T1 R2 h.hp
  have at2 : ∀ x ∈ ns, S2[x.1]? = some (shr x.2) := fun x m => by rw [R2.2 x.1 (at1 x m).2.1]; exact (at1 x m).1
  have cg : ∀ x ∈ ns, Can x.2 ∧ (∀ q ∈ x.2, Gd gg q) ∧ ∀ e ∈ endsOf x.2, e ∈ ends (qs.map (·.2)) := fun x m => by
    obtain ⟨_, _, L, hL, e⟩ := at1 x m
    obtain ⟨y, hy, rfl⟩ := List.mem_map.mp hL
    rw [e]
    refine ⟨(norm_spec y.2).1, gd_norm (h.gd y hy), fun u hu => ?_⟩
    obtain ⟨q, hq, he⟩ := mem_ends.mp hu
    obtain ⟨n1, n2⟩ := norm_ends q hq
    refine ends_mem.mpr ⟨y.2, hL, ?_⟩
    rcases he with rfl | rfl <;> assumption
  have rle := rlen qs
  obtain ⟨b1, O1, f1, i1⟩ := is_shared_eq gg_ok.1 gg_ok.2 (by decide) (qs := ns) T2 (fun x m => ⟨at2 x m, (cg x m).1, (cg x m).2.1⟩) (E := ends (qs.map (·.2))) (fun x m => (cg x m).2.2) (by omega) (by omega) (by omega)
  have e1 : b1 = b := by
    rw [Bool.eq_iff_iff, i1, ib]
    have : ∀ x, cnt (ns.map (·.2)) x = cnt (qs.map (·.2)) x := fun x => by rw [nsnd, cnt_norm]
    simp only [this]
  subst e1
  have mem2 : ∀ x ∈ ns.drop t.toNat ++ ns.take t.toNat, x ∈ ns := fun x m => by
    rcases List.mem_append.mp m with m | m
    · exact List.mem_of_mem_drop m
    · exact List.mem_of_mem_take m
  have sp2 : spans (ns.drop t.toNat ++ ns.take t.toNat) = spans ns := by
    rw [spans_app]
    have := spans_app (ns.take t.toNat) (ns.drop t.toNat)
    rw [List.take_append_drop] at this
    omega
  have len2 : (ns.drop t.toNat ++ ns.take t.toNat).length = ns.length := by rw [List.length_append, List.length_drop, List.length_take]; omega
  have app : ∀ {O : Sto} {n : Nat} {o : Ob} {S : Sto}, S[n]? = some o → (S ++ O)[n]? = some o := fun {O n o S} e => by rw [List.getElem?_append_left (List.getElem?_eq_some_iff.mp e).1]; exact e
  obtain ⟨b2, O2, f2, i2⟩ := is_shared_eq gg_ok.1 gg_ok.2 (by decide) (qs := ns.drop t.toNat ++ ns.take t.toNat) (T2.app O1) (fun x m => ⟨app (at2 x (mem2 x m)), (cg x (mem2 x m)).1, (cg x (mem2 x m)).2.1⟩) (E := ends (qs.map (·.2))) (fun x m => (cg x (mem2 x m)).2.2) (by omega) (by omega) (by omega)
  have e2 : b2 = b1 := by
    rw [Bool.eq_iff_iff, i2, i1]
    have : ∀ x, cnt ((ns.drop t.toNat ++ ns.take t.toNat).map (·.2)) x = cnt (ns.map (·.2)) x := fun x => by
      rw [List.map_append, cnt_app]
      have := cnt_app ((ns.take t.toNat).map (·.2)) ((ns.drop t.toNat).map (·.2)) x
      rw [← List.map_append, List.take_append_drop] at this
      omega
    simp only [this]
  subst e2
  rw [List.map_append, List.map_drop, List.map_take] at f2
  have lA : (ns.map fun x => D.ptr x.1).length = ns.length := by rw [List.length_map]
  obtain ⟨pT, dT⟩ := pur_rows ns
  refine k52_run h.rw_.li (by omega) sm (by omega) (told_lc fun x m => (at1 x m).1) du rw1.li hnI htt tk (cut_from _ t0) (cut_to _ t0) (by rw [List.length_drop, List.length_take]; omega) (by rw [List.length_append, List.length_drop, List.length_take]; omega) f1 f2 (fun v8 v9 v10 v11 => told_lc4 fun x m => app (app (at2 x m))) (eq_self (by simpa [pur] using pT) (by simp only [dep]; omega) _)
end Is1
namespace Is1
theorem k52_mid {p N : Nat} {st : Sto} {way hI : Int} {v0 : SL} (bx : TBox p N st) (tb : TbOk st) (hp : tbls.length ≤ p) (hN : N ≤ 50) (h0 : 0 ≤ hI) (h1 : hI ≤ 60) : Yes (k_law_4 ⟨[v0, .val (.ptr p), .val (.int way), .val (.int hI), .emp, .emp, .emp, .emp, .emp, .emp, .emp, .emp, .emp, .emp], st⟩).ret := by
  obtain ⟨ns, i, a, c, g1, g2⟩ := id bx
  have pl := (List.getElem?_eq_some_iff.mp g1).1
  have bx1 : TBox p N (st ++ [Ob.lst []]) := ⟨ns, i, a, c, by rw [List.getElem?_append_left pl]; exact g1, g2⟩
  have tb1 : TbOk (st ++ [Ob.lst []]) := tb.app _
  by_cases c0 : hI = 0
  · subst c0
    have hR : Rws p st.length N [] (st ++ [Ob.lst []]) := ⟨bx1, tb1, hp, ⟨app_new, fun x m => by simp at m⟩, by simp, fun x m => by simp at m, by omega, by omega, fun x m => by simp at m⟩
    have e := k52_end (v0 := v0) (way := way) (hI := 0) hR (by omega) (by simp) (by simp [spans])
    clear bx tb bx1 tb1 g1 g2 hR
    generalize hS : st ++ [Ob.lst []] = S1 at *
    unfold Yes at *
    simp -implicitDefEqProofs [q_k_law_4, hS, q_k_law_5]
    exact e
  · have hpos : 0 < hI := by omega
    obtain ⟨k, rfl⟩ : ∃ k : Nat, hI = (k : Int) := ⟨hI.toNat, by omega⟩
    by_cases c6 : way = 6
    · subst c6
      obtain ⟨R, st', qs, f, hR, lk, sp⟩ := swapped_ok (k := k) bx1 tb1 hp (by omega) (by omega) (by omega)
      have e := k52_end (v0 := v0) (way := 6) (hI := (k : Int)) hR (by omega) (by omega) (by omega)
      clear bx tb bx1 tb1 g1 g2 hR c0 h0 h1
      generalize (k : Int) = kI at *
      generalize hS : st ++ [Ob.lst []] = S1 at *
      unfold Yes at *
      simp -implicitDefEqProofs [q_k_law_4, hS, q_k_law_5, hpos, f]
      exact e
    · obtain ⟨R, st', qs, f, hR, lk, sp⟩ := dealt_ok (k := k) bx1 tb1 hp (by omega) (by omega) (by omega)
      obtain ⟨st2, qs2, f2, hR2, l2, l3, sp2⟩ := spoilt_ok way hR (by omega) (by omega) (by omega) sp
      have e := k52_end (v0 := v0) (way := way) (hI := (k : Int)) hR2 (by omega) (by omega) (by omega)
      clear bx tb bx1 tb1 g1 g2 hR hR2 c0 h0 h1
      generalize (k : Int) = kI at *
      generalize hS : st ++ [Ob.lst []] = S1 at *
      unfold Yes at *
      simp -implicitDefEqProofs [q_k_law_4, hS, q_k_law_5, hpos, c6, f, f2]
      exact e
end Is1
open Is1 in
theorem law_true (ns : List Int) (hl : ns.length ≤ 63) (_ : ∀ z ∈ ns, Builtin.Int.intBits z ≤ 1048576) : Yes (F_law [.scr ns] tbls) := by
  have B : TBox tbls.length 0 (tbls ++ [.lst [.lst (ns.map .int), .int 0, .int 0, .int 0]]) := ⟨ns, 0, 0, 0, app_new, by decide, by decide, by decide, by decide, hl⟩
  have T0 : TbOk (tbls ++ [.lst [.lst (ns.map .int), .int 0, .int 0, .int 0]]) := TbOk.app (fun i x e => e) _
  generalize hst0 : tbls ++ [.lst [.lst (ns.map .int), .int 0, .int 0, .int 0]] = st0 at B T0
  obtain ⟨way, s1, t1, w0, w1, B1, R1⟩ := take_ok B (n := 9) (by decide) (by decide) (by omega)
  obtain ⟨h, s2, t2, a0, a1, B2, R2⟩ := take_ok B1 (n := 5) (by decide) (by decide) (by omega)
  obtain ⟨z, s3, t3, z0, z1, B3, R3⟩ := take_ok B2 (n := 4) (by decide) (by decide) (by omega)
  have T3 := tbok_rest (tbok_rest (tbok_rest T0 R1 (Nat.le_refl _)) R2 (Nat.le_refl _)) R3 (Nat.le_refl _)
  by_cases c : z = 0
  · subst c
    obtain ⟨r, s4, t4, r0, r1, B4, R4⟩ := take_ok B3 (n := 4) (by decide) (by decide) (by omega)
    obtain ⟨m, hm, m1, m2⟩ : ∃ m : Int, atI [D.int 8, .int 8, .int 8, .int 55] r = some (.int m) ∧ 1 ≤ m ∧ m ≤ 55 := by
      have hr : r = 0 ∨ r = 1 ∨ r = 2 ∨ r = 3 := by omega
      rcases hr with rfl | rfl | rfl | rfl
      · exact ⟨8, rfl, by decide, by decide⟩
      · exact ⟨8, rfl, by decide, by decide⟩
      · exact ⟨8, rfl, by decide, by decide⟩
      · exact ⟨55, rfl, by decide, by decide⟩
    obtain ⟨u, s5, t5, u0, u1, B5, R5⟩ := take_ok B4 (n := m) m1 (Int.lt_of_le_of_lt (b := 55) m2 (by decide)) (by omega)
    have T5 := tbok_rest (tbok_rest T3 R4 (Nat.le_refl _)) R5 (Nat.le_refl _)
    have e := k52_mid (v0 := .val (.scr ns)) (way := way) (hI := 5 + u) B5 T5 (Nat.le_refl _) (by omega) (by omega) (by omega)
    clear B B1 B2 B3 B4 B5 R1 R2 R3 R4 R5 T0 T3 T5
    generalize htl : tbls.length = tl at *
    unfold Yes at *
    simp -implicitDefEqProofs [F_law, g_law, htl, hst0, q_k_law_1, t1, q_k_law_2, t2, q_k_law_3, t3, t4, hm, t5]
    exact e
  · have e := k52_mid (v0 := .val (.scr ns)) (way := way) (hI := h) B3 T3 (Nat.le_refl _) (by omega) (by omega) (by omega)
    clear B B1 B2 B3 R1 R2 R3 T0 T3
    generalize htl : tbls.length = tl at *
    unfold Yes at *
    simp -implicitDefEqProofs [F_law, g_law, htl, hst0, q_k_law_1, t1, q_k_law_2, t2, q_k_law_3, t3, c]
    exact e
end Dn
namespace Dn
open PySem PySem.Spec PyProof.Rows L2
def top (i : Nat) : Stmt := PySem.Challenge.pw_halfcrumb_k52_shared_looked_at.main.body.getD i (.Pass ⟨0, 0, 0, 0⟩)
def clsStmts : Stmt → List Stmt
  | .ClassDef _ _ _ b _ _ _ _ _ _ _ => b
  | _ => []
def mth (i j : Nat) : Stmt := (clsStmts (top i)).getD j (.Pass ⟨0, 0, 0, 0⟩)
structure Adr where
  f_divisor : Addr
  d_divisor : FuncData
  f_is_less : Addr
  d_is_less : FuncData
  f_spans_where : Addr
  d_spans_where : FuncData
  f_Share_spans : Addr
  d_Share_spans : FuncData
  f_law_mixed : Addr
  d_law_mixed : FuncData
  f_law_divisor : Addr
  d_law_divisor : FuncData
  f_law_less : Addr
  d_law_less : FuncData
  f_law_by : Addr
  d_law_by : FuncData
  f_fraction_of : Addr
  d_fraction_of : FuncData
  f_ask_span : Addr
  d_ask_span : FuncData
  f_rising_places : Addr
  d_rising_places : FuncData
  f_covers : Addr
  d_covers : FuncData
  f_law_take : Addr
  d_law_take : FuncData
  f_law_lowest : Addr
  d_law_lowest : FuncData
  f_law_rising : Addr
  d_law_rising : FuncData
  f_plus : Addr
  d_plus : FuncData
  f_minus : Addr
  d_minus : FuncData
  f_law_any_place : Addr
  d_law_any_place : FuncData
  f_law_swapped : Addr
  d_law_swapped : FuncData
  f_law_due : Addr
  d_law_due : FuncData
  f_Share_length : Addr
  d_Share_length : FuncData
  f_law_dealt : Addr
  d_law_dealt : FuncData
  f_law_spoilt : Addr
  d_law_spoilt : FuncData
  f_Share___init__ : Addr
  d_Share___init__ : FuncData
  q_Share___init__ : Addr
  p_Share___init__ : Addr
  f_Share_plus : Addr
  d_Share_plus : FuncData
  f_is_shared : Addr
  d_is_shared : FuncData
  f_law : Addr
  d_law : FuncData
  c_NoFraction : Addr
  c_NoSpan : Addr
  c_Share : Addr
  a_BEGIN : Addr
  a_END : Addr
  a_NOUGHT : Addr
  a_ONE : Addr
def caOf (A : Adr) : Nat → Addr
  | 1 => A.c_NoFraction
  | 2 => A.c_NoSpan
  | 3 => A.c_Share
  | _ => 0
def fnOf : Nat → List Str
  | 3 => ["parts"]
  | _ => []
theorem nf_Share_length : ("length" : Str) ∉ fnOf 3 := by decide +kernel
theorem nf_Share_plus : ("plus" : Str) ∉ fnOf 3 := by decide +kernel
theorem nf_Share_spans : ("spans" : Str) ∉ fnOf 3 := by decide +kernel
theorem nd_Share : (fnOf 3).Nodup := by decide +kernel
theorem nl_Share : (fnOf 3).length < 1000 := by decide +kernel
def GG (K : PySem.W.Frag) (A : Adr) : Gm := { K := K, ca := caOf A, fn := fnOf, ea := 0, tb := [A.p_Share___init__] }
abbrev s_divisor : Stmt := top 6
abbrev n_divisor : List Str := ["one", "other"]
abbrev p_divisor : List Str := ["one", "other"]
theorem sc_divisor : FnScope n_divisor p_divisor (defScope s_divisor) := ⟨rfl, rfl, rfl, by decide +kernel, rfl, by decide +kernel, by decide +kernel⟩
abbrev s_is_less : Stmt := top 11
abbrev n_is_less : List Str := ["one", "other"]
abbrev p_is_less : List Str := ["one", "other"]
theorem sc_is_less : FnScope n_is_less p_is_less (defScope s_is_less) := ⟨rfl, rfl, rfl, by decide +kernel, rfl, by decide +kernel, by decide +kernel⟩
abbrev s_spans_where : Stmt := top 19
abbrev n_spans_where : List Str := ["places", "is_held", "found", "here", "there"]
abbrev p_spans_where : List Str := ["places", "is_held"]
theorem sc_spans_where : FnScope n_spans_where p_spans_where (defScope s_spans_where) := ⟨rfl, rfl, rfl, by decide +kernel, rfl, by decide +kernel, by decide +kernel⟩
abbrev s_Share_spans : Stmt := mth 20 1
abbrev n_Share_spans : List Str := ["self"]
abbrev p_Share_spans : List Str := ["self"]
theorem sc_Share_spans : FnScope n_Share_spans p_Share_spans (defScope s_Share_spans) := ⟨rfl, rfl, rfl, by decide +kernel, rfl, by decide +kernel, by decide +kernel⟩
abbrev s_law_mixed : Stmt := top 26
abbrev n_law_mixed : List Str := ["_law_cell", "_law_k", "_law_many", "_law_one"]
abbrev p_law_mixed : List Str := ["_law_cell", "_law_k", "_law_many"]
theorem sc_law_mixed : FnScope n_law_mixed p_law_mixed (defScope s_law_mixed) := ⟨rfl, rfl, rfl, by decide +kernel, rfl, by decide +kernel, by decide +kernel⟩
abbrev s_law_divisor : Stmt := top 28
abbrev n_law_divisor : List Str := ["_law_one", "_law_other"]
abbrev p_law_divisor : List Str := ["_law_one", "_law_other"]
theorem sc_law_divisor : FnScope n_law_divisor p_law_divisor (defScope s_law_divisor) := ⟨rfl, rfl, rfl, by decide +kernel, rfl, by decide +kernel, by decide +kernel⟩
abbrev s_law_less : Stmt := top 29
abbrev n_law_less : List Str := ["_law_one", "_law_other"]
abbrev p_law_less : List Str := ["_law_one", "_law_other"]
theorem sc_law_less : FnScope n_law_less p_law_less (defScope s_law_less) := ⟨rfl, rfl, rfl, by decide +kernel, rfl, by decide +kernel, by decide +kernel⟩
abbrev s_law_by : Stmt := top 36
abbrev n_law_by : List Str := ["_law_place"]
abbrev p_law_by : List Str := ["_law_place"]
theorem sc_law_by : FnScope n_law_by p_law_by (defScope s_law_by) := ⟨rfl, rfl, rfl, by decide +kernel, rfl, by decide +kernel, by decide +kernel⟩
abbrev s_fraction_of : Stmt := top 7
abbrev n_fraction_of : List Str := ["top", "bottom", "size"]
abbrev p_fraction_of : List Str := ["top", "bottom"]
theorem sc_fraction_of : FnScope n_fraction_of p_fraction_of (defScope s_fraction_of) := ⟨rfl, rfl, rfl, by decide +kernel, rfl, by decide +kernel, by decide +kernel⟩
abbrev s_ask_span : Stmt := top 16
abbrev n_ask_span : List Str := ["here", "there"]
abbrev p_ask_span : List Str := ["here", "there"]
theorem sc_ask_span : FnScope n_ask_span p_ask_span (defScope s_ask_span) := ⟨rfl, rfl, rfl, by decide +kernel, rfl, by decide +kernel, by decide +kernel⟩
abbrev s_rising_places : Stmt := top 17
abbrev n_rising_places : List Str := ["spans", "found", "span", "place", "at"]
abbrev p_rising_places : List Str := ["spans"]
theorem sc_rising_places : FnScope n_rising_places p_rising_places (defScope s_rising_places) := ⟨rfl, rfl, rfl, by decide +kernel, rfl, by decide +kernel, by decide +kernel⟩
abbrev s_covers : Stmt := top 18
abbrev n_covers : List Str := ["spans", "here", "there", "low", "high"]
abbrev p_covers : List Str := ["spans", "here", "there"]
theorem sc_covers : FnScope n_covers p_covers (defScope s_covers) := ⟨rfl, rfl, rfl, by decide +kernel, rfl, by decide +kernel, by decide +kernel⟩
abbrev s_law_take : Stmt := top 27
abbrev n_law_take : List Str := ["_law_box", "_law_many", "_law_cell", "_law_draw"]
abbrev p_law_take : List Str := ["_law_box", "_law_many"]
theorem sc_law_take : FnScope n_law_take p_law_take (defScope s_law_take) := ⟨rfl, rfl, rfl, by decide +kernel, rfl, by decide +kernel, by decide +kernel⟩
abbrev s_law_lowest : Stmt := top 30
abbrev n_law_lowest : List Str := ["_law_top", "_law_bottom", "_law_size"]
abbrev p_law_lowest : List Str := ["_law_top", "_law_bottom"]
theorem sc_law_lowest : FnScope n_law_lowest p_law_lowest (defScope s_law_lowest) := ⟨rfl, rfl, rfl, by decide +kernel, rfl, by decide +kernel, by decide +kernel⟩
abbrev s_law_rising : Stmt := top 32
abbrev n_law_rising : List Str := ["_law_places", "_law_found", "_law_place", "_law_at", "_law_other"]
abbrev p_law_rising : List Str := ["_law_places"]
theorem sc_law_rising : FnScope n_law_rising p_law_rising (defScope s_law_rising) := ⟨rfl, rfl, rfl, by decide +kernel, rfl, by decide +kernel, by decide +kernel⟩
abbrev s_plus : Stmt := top 8
abbrev n_plus : List Str := ["one", "other"]
abbrev p_plus : List Str := ["one", "other"]
theorem sc_plus : FnScope n_plus p_plus (defScope s_plus) := ⟨rfl, rfl, rfl, by decide +kernel, rfl, by decide +kernel, by decide +kernel⟩
abbrev s_minus : Stmt := top 10
abbrev n_minus : List Str := ["one", "other"]
abbrev p_minus : List Str := ["one", "other"]
theorem sc_minus : FnScope n_minus p_minus (defScope s_minus) := ⟨rfl, rfl, rfl, by decide +kernel, rfl, by decide +kernel, by decide +kernel⟩
abbrev s_law_any_place : Stmt := top 31
abbrev n_law_any_place : List Str := ["_law_box", "_law_bottom"]
abbrev p_law_any_place : List Str := ["_law_box"]
theorem sc_law_any_place : FnScope n_law_any_place p_law_any_place (defScope s_law_any_place) := ⟨rfl, rfl, rfl, by decide +kernel, rfl, by decide +kernel, by decide +kernel⟩
abbrev s_law_swapped : Stmt := top 35
abbrev n_law_swapped : List Str := ["_law_box", "_law_hands", "_law_many", "_law_lost", "_law_twice", "_law_rows", "_law_k", "_law_turn", "_law_row"]
abbrev p_law_swapped : List Str := ["_law_box", "_law_hands"]
theorem sc_law_swapped : FnScope n_law_swapped p_law_swapped (defScope s_law_swapped) := ⟨rfl, rfl, rfl, by decide +kernel, rfl, by decide +kernel, by decide +kernel⟩
abbrev s_law_due : Stmt := top 37
abbrev n_law_due : List Str := ["_law_rows", "_law_places", "_law_row", "_law_span", "_law_here", "_law_there", "_law_holders", "_law_held", "_law_low", "_law_high"]
abbrev p_law_due : List Str := ["_law_rows"]
theorem sc_law_due : FnScope n_law_due p_law_due (defScope s_law_due) := ⟨rfl, rfl, rfl, by decide +kernel, rfl, by decide +kernel, by decide +kernel⟩
abbrev s_Share_length : Stmt := mth 20 6
abbrev n_Share_length : List Str := ["self", "found", "here", "there"]
abbrev p_Share_length : List Str := ["self"]
theorem sc_Share_length : FnScope n_Share_length p_Share_length (defScope s_Share_length) := ⟨rfl, rfl, rfl, by decide +kernel, rfl, by decide +kernel, by decide +kernel⟩
abbrev s_law_dealt : Stmt := top 33
abbrev n_law_dealt : List Str := ["_law_box", "_law_hands", "_law_places", "_law_rows", "_law_here", "_law_there", "_law_row", "_law_k"]
abbrev p_law_dealt : List Str := ["_law_box", "_law_hands"]
theorem sc_law_dealt : FnScope n_law_dealt p_law_dealt (defScope s_law_dealt) := ⟨rfl, rfl, rfl, by decide +kernel, rfl, by decide +kernel, by decide +kernel⟩
abbrev s_law_spoilt : Stmt := top 34
abbrev n_law_spoilt : List Str := ["_law_box", "_law_way", "_law_rows", "_law_hand", "_law_other", "_law_at", "_law_place", "_law_here"]
abbrev p_law_spoilt : List Str := ["_law_box", "_law_way", "_law_rows"]
theorem sc_law_spoilt : FnScope n_law_spoilt p_law_spoilt (defScope s_law_spoilt) := ⟨rfl, rfl, rfl, by decide +kernel, rfl, by decide +kernel, by decide +kernel⟩
abbrev s_Share___init__ : Stmt := mth 20 0
abbrev n_Share___init__ : List Str := ["self", "spans", "here", "there"]
abbrev p_Share___init__ : List Str := ["self", "spans"]
theorem sc_Share___init__ : FnScope n_Share___init__ p_Share___init__ (defScope s_Share___init__) := ⟨rfl, rfl, rfl, by decide +kernel, rfl, by decide +kernel, by decide +kernel⟩
abbrev s_Share_plus : Stmt := mth 20 2
abbrev n_Share_plus : List Str := ["self", "other"]
abbrev p_Share_plus : List Str := ["self", "other"]
theorem sc_Share_plus : FnScope n_Share_plus p_Share_plus (defScope s_Share_plus) := ⟨rfl, rfl, rfl, by decide +kernel, rfl, by decide +kernel, by decide +kernel⟩
abbrev s_is_shared : Stmt := top 24
abbrev n_is_shared : List Str := ["shares", "length", "together", "share"]
abbrev p_is_shared : List Str := ["shares"]
theorem sc_is_shared : FnScope n_is_shared p_is_shared (defScope s_is_shared) := ⟨rfl, rfl, rfl, by decide +kernel, rfl, by decide +kernel, by decide +kernel⟩
abbrev s_law : Stmt := top 38
abbrev n_law : List Str := ["_law_script", "_law_box", "_law_way", "_law_hands", "_law_rows", "_law_shares", "_law_told", "_law_due_here", "_law_turn", "_law_handed", "_law_many", "_law_found", "_law_row", "_law_share"]
abbrev p_law : List Str := ["_law_script"]
theorem sc_law : FnScope n_law p_law (defScope s_law) := ⟨rfl, rfl, rfl, by decide +kernel, rfl, by decide +kernel, by decide +kernel⟩
structure Txt (K : PySem.W.Frag) (mg : Str → Option Value) (base : Heap) (A : Adr) : Prop where
  F_divisor : Fun K "divisor" "divisor" s_divisor A.f_divisor A.d_divisor
  b_divisor : Binds K A.d_divisor p_divisor []
  F_is_less : Fun K "is_less" "is_less" s_is_less A.f_is_less A.d_is_less
  b_is_less : Binds K A.d_is_less p_is_less []
  F_spans_where : Fun K "spans_where" "spans_where" s_spans_where A.f_spans_where A.d_spans_where
  b_spans_where : Binds K A.d_spans_where p_spans_where []
  F_Share_spans : Fun K "spans" "Share.spans" s_Share_spans A.f_Share_spans A.d_Share_spans
  b_Share_spans : Binds K A.d_Share_spans p_Share_spans []
  F_law_mixed : Fun K "_law_mixed" "_law_mixed" s_law_mixed A.f_law_mixed A.d_law_mixed
  b_law_mixed : Binds K A.d_law_mixed p_law_mixed []
  F_law_divisor : Fun K "_law_divisor" "_law_divisor" s_law_divisor A.f_law_divisor A.d_law_divisor
  b_law_divisor : Binds K A.d_law_divisor p_law_divisor []
  F_law_less : Fun K "_law_less" "_law_less" s_law_less A.f_law_less A.d_law_less
  b_law_less : Binds K A.d_law_less p_law_less []
  F_law_by : Fun K "_law_by" "_law_by" s_law_by A.f_law_by A.d_law_by
  b_law_by : Binds K A.d_law_by p_law_by []
  F_fraction_of : FunD K "fraction_of" "fraction_of" (defArgs s_fraction_of) (defBody s_fraction_of) (defScope s_fraction_of) (([(.int 1)] : List D).map toV) [] A.f_fraction_of A.d_fraction_of
  F_ask_span : Fun K "ask_span" "ask_span" s_ask_span A.f_ask_span A.d_ask_span
  b_ask_span : Binds K A.d_ask_span p_ask_span []
  F_rising_places : Fun K "rising_places" "rising_places" s_rising_places A.f_rising_places A.d_rising_places
  b_rising_places : Binds K A.d_rising_places p_rising_places []
  F_covers : Fun K "covers" "covers" s_covers A.f_covers A.d_covers
  b_covers : Binds K A.d_covers p_covers []
  F_law_take : Fun K "_law_take" "_law_take" s_law_take A.f_law_take A.d_law_take
  b_law_take : Binds K A.d_law_take p_law_take []
  F_law_lowest : Fun K "_law_lowest" "_law_lowest" s_law_lowest A.f_law_lowest A.d_law_lowest
  b_law_lowest : Binds K A.d_law_lowest p_law_lowest []
  F_law_rising : Fun K "_law_rising" "_law_rising" s_law_rising A.f_law_rising A.d_law_rising
  b_law_rising : Binds K A.d_law_rising p_law_rising []
  F_plus : Fun K "plus" "plus" s_plus A.f_plus A.d_plus
  b_plus : Binds K A.d_plus p_plus []
  F_minus : Fun K "minus" "minus" s_minus A.f_minus A.d_minus
  b_minus : Binds K A.d_minus p_minus []
  F_law_any_place : Fun K "_law_any_place" "_law_any_place" s_law_any_place A.f_law_any_place A.d_law_any_place
  b_law_any_place : Binds K A.d_law_any_place p_law_any_place []
  F_law_swapped : Fun K "_law_swapped" "_law_swapped" s_law_swapped A.f_law_swapped A.d_law_swapped
  b_law_swapped : Binds K A.d_law_swapped p_law_swapped []
  F_law_due : Fun K "_law_due" "_law_due" s_law_due A.f_law_due A.d_law_due
  b_law_due : Binds K A.d_law_due p_law_due []
  F_Share_length : Fun K "length" "Share.length" s_Share_length A.f_Share_length A.d_Share_length
  b_Share_length : Binds K A.d_Share_length p_Share_length []
  F_law_dealt : Fun K "_law_dealt" "_law_dealt" s_law_dealt A.f_law_dealt A.d_law_dealt
  b_law_dealt : Binds K A.d_law_dealt p_law_dealt []
  F_law_spoilt : Fun K "_law_spoilt" "_law_spoilt" s_law_spoilt A.f_law_spoilt A.d_law_spoilt
  b_law_spoilt : Binds K A.d_law_spoilt p_law_spoilt []
  F_Share___init__ : FunC K "__init__" "Share.__init__" s_Share___init__ A.f_Share___init__ A.d_Share___init__ A.q_Share___init__
  tb_Share___init__ : LamX.TabB base mg A.q_Share___init__ A.p_Share___init__
  b_Share___init__ : Binds K A.d_Share___init__ p_Share___init__ []
  F_Share_plus : Fun K "plus" "Share.plus" s_Share_plus A.f_Share_plus A.d_Share_plus
  b_Share_plus : Binds K A.d_Share_plus p_Share_plus []
  F_is_shared : Fun K "is_shared" "is_shared" s_is_shared A.f_is_shared A.d_is_shared
  b_is_shared : Binds K A.d_is_shared p_is_shared []
  F_law : Fun K "law" "law" s_law A.f_law A.d_law
  b_law : Binds K A.d_law p_law []
  g_law_any_place : mg "_law_any_place" = some (.ref A.f_law_any_place)
  g_law_by : mg "_law_by" = some (.ref A.f_law_by)
  g_law_dealt : mg "_law_dealt" = some (.ref A.f_law_dealt)
  g_law_divisor : mg "_law_divisor" = some (.ref A.f_law_divisor)
  g_law_due : mg "_law_due" = some (.ref A.f_law_due)
  g_law_less : mg "_law_less" = some (.ref A.f_law_less)
  g_law_lowest : mg "_law_lowest" = some (.ref A.f_law_lowest)
  g_law_mixed : mg "_law_mixed" = some (.ref A.f_law_mixed)
  g_law_rising : mg "_law_rising" = some (.ref A.f_law_rising)
  g_law_spoilt : mg "_law_spoilt" = some (.ref A.f_law_spoilt)
  g_law_swapped : mg "_law_swapped" = some (.ref A.f_law_swapped)
  g_law_take : mg "_law_take" = some (.ref A.f_law_take)
  g_ask_span : mg "ask_span" = some (.ref A.f_ask_span)
  g_covers : mg "covers" = some (.ref A.f_covers)
  g_divisor : mg "divisor" = some (.ref A.f_divisor)
  g_fraction_of : mg "fraction_of" = some (.ref A.f_fraction_of)
  g_is_less : mg "is_less" = some (.ref A.f_is_less)
  g_is_shared : mg "is_shared" = some (.ref A.f_is_shared)
  g_law : mg "law" = some (.ref A.f_law)
  g_minus : mg "minus" = some (.ref A.f_minus)
  g_plus_fractions : mg "plus_fractions" = some (.ref A.f_plus)
  g_rising_places : mg "rising_places" = some (.ref A.f_rising_places)
  g_spans_where : mg "spans_where" = some (.ref A.f_spans_where)
  cl_Share : Cls K A.c_Share
  mk_Share : Mk K A.c_Share A.f_Share___init__
  mt_Share_length : Meth K A.c_Share "length" A.f_Share_length
  mt_Share_plus : Meth K A.c_Share "plus" A.f_Share_plus
  mt_Share_spans : Meth K A.c_Share "spans" A.f_Share_spans
  fo_parts : FldOk (GG K A) "parts" ix_parts
  B_Share___init___2_ : CallB K A.d_Share___init__ p_Share___init__ 2 [] [0, 1] (([] : List D).map toV)
  B_Share_length_1_ : CallB K A.d_Share_length p_Share_length 1 [] [0] (([] : List D).map toV)
  B_Share_plus_2_ : CallB K A.d_Share_plus p_Share_plus 2 [] [0, 1] (([] : List D).map toV)
  B_Share_spans_1_ : CallB K A.d_Share_spans p_Share_spans 1 [] [0] (([] : List D).map toV)
  B_fraction_of_2_ : CallB K A.d_fraction_of p_fraction_of 2 [] [0, 1] (([(.int 1)] : List D).map toV)
  z_abs : mg "abs" = none
  z_any : mg "any" = none
  z_bool : mg "bool" = none
  z_int : mg "int" = none
  z_isinstance : mg "isinstance" = none
  z_len : mg "len" = none
  z_list : mg "list" = none
  z_max : mg "max" = none
  z_min : mg "min" = none
  z_range : mg "range" = none
  z_zip : mg "zip" = none
  m_BEGIN : mg "BEGIN" = some (.ref A.a_BEGIN)
  i_BEGIN : ∀ as H, Is (GG K A) as H (.ref A.a_BEGIN) (.tup [(.int 0), (.int 1)])
  m_END : mg "END" = some (.ref A.a_END)
  i_END : ∀ as H, Is (GG K A) as H (.ref A.a_END) (.tup [(.int 1), (.int 1)])
  m_NOUGHT : mg "NOUGHT" = some (.ref A.a_NOUGHT)
  i_NOUGHT : ∀ as H, Is (GG K A) as H (.ref A.a_NOUGHT) (.tup [(.int 0), (.int 1)])
  m_ONE : mg "ONE" = some (.ref A.a_ONE)
  i_ONE : ∀ as H, Is (GG K A) as H (.ref A.a_ONE) (.tup [(.int 1), (.int 1)])
  g_NoFraction : mg "NoFraction" = some (.ref A.c_NoFraction)
  g_NoSpan : mg "NoSpan" = some (.ref A.c_NoSpan)
  g_Share : mg "Share" = some (.ref A.c_Share)
  x_NoFraction : PySem.W.excIn K A.c_NoFraction [.type "ValueError", .type "Exception", .type "BaseException", .type "object"] "ValueError.__new__" = true
  k_NoFraction : PySem.W.keepIn K (.ref A.c_NoFraction) = true
  sb_NoFraction : PySem.W.subIn K (.ref A.c_NoFraction) (.type "BaseException") = some true
  t_NoFraction : PySem.W.typeIn K (.ref A.c_NoFraction) = some (.type "type")
  x_NoSpan : PySem.W.excIn K A.c_NoSpan [.type "ValueError", .type "Exception", .type "BaseException", .type "object"] "ValueError.__new__" = true
  k_NoSpan : PySem.W.keepIn K (.ref A.c_NoSpan) = true
  sb_NoSpan : PySem.W.subIn K (.ref A.c_NoSpan) (.type "BaseException") = some true
  t_NoSpan : PySem.W.typeIn K (.ref A.c_NoSpan) = some (.type "type")
section
variable {P : Program} {w : World} {K : PySem.W.Frag} {mg : Str → Option Value} {base : Heap} {A : Adr}
theorem ok_divisor (T : Txt K mg base A) : FnOk P w K mg base (L2.CX P w) 1 A.f_divisor A.d_divisor p_divisor (spF (GG K A) F_divisor) :=
  fn_ok (k := 0) rfl rfl T.F_divisor sc_divisor fun cdv Ar outer s H E hr => ⟨_,
    (pss_cons (ps_set (i := 0) sc_divisor.nd rfl (by first | exact Or.inl rfl | exact Or.inr rfl) (pe_callB call_abs (by rfl) T.z_abs (by decide +kernel) (pa_cons (pv 0) pa_nil)))
    (pss_cons (ps_set (i := 1) sc_divisor.nd rfl (by first | exact Or.inl rfl | exact Or.inr rfl) (pe_callB call_abs (by rfl) T.z_abs (by decide +kernel) (pa_cons (pv 1) pa_nil)))
    (pss_cons (ps_while (passes_of rfl) (pt_cmpR op_gt (pv 1) pe_int (nomark _)) (pss_one (ps_par rfl sc_divisor.nd rfl rfl (by decide) rfl rfl (pa_cons (pv 1) (pa_cons (pe_op op_modN (pv 0) (pv 1)) pa_nil)) rfl)))
    (pss_one (ps_ret (pv 0)))))),
    (s_seq (s_setF (v_cb c_abs (a_cons v_var a_nil)))
    (s_seq (s_setF (v_cb c_abs (a_cons v_var a_nil)))
    (s_seq (s_while (t_test (v_op d_gt v_var v_int)) (s_par (a_cons v_var (a_cons (v_op d_mod v_var v_var) a_nil))))
    s_retV)))⟩
theorem ok_is_less (T : Txt K mg base A) : FnOk P w K mg base (L2.CX P w) 1 A.f_is_less A.d_is_less p_is_less (spF (GG K A) F_is_less) :=
  fn_ok (k := 0) rfl rfl T.F_is_less sc_is_less fun cdv Ar outer s H E hr => ⟨_,
    (pss_one (ps_ret (pe_cmpR op_lt (pe_op or_mul (pe_ix ix_seq (pv 0) pe_int (fun _ _ => rfl)) (pe_ix ix_seq (pv 1) pe_int (fun _ _ => rfl))) (pe_op or_mul (pe_ix ix_seq (pv 1) pe_int (fun _ _ => rfl)) (pe_ix ix_seq (pv 0) pe_int (fun _ _ => rfl))) (nomark _)))),
    (s_ret (v_op d_lt (v_op d_mul (v_op d_ix v_var v_int) (v_op d_ix v_var v_int)) (v_op d_mul (v_op d_ix v_var v_int) (v_op d_ix v_var v_int))))⟩
theorem ok_Share_spans (T : Txt K mg base A) : FnOk P w K mg base (L2.CX P w) 1 A.f_Share_spans A.d_Share_spans p_Share_spans (spF (GG K A) F_Share_spans) :=
  fn_ok (k := 0) rfl rfl T.F_Share_spans sc_Share_spans fun cdv Ar outer s H E hr => ⟨_,
    (pss_one (ps_ret (pe_callTy call_list_of (by rfl) T.z_list (by decide +kernel) (pa_cons (pe_fld (pv 0) rfl) pa_nil)))),
    (s_ret (v_cb c_list (a_cons (v_fld T.fo_parts v_var) a_nil)))⟩
theorem ok_law_mixed (T : Txt K mg base A) : FnOk P w K mg base (L2.CX P w) 1 A.f_law_mixed A.d_law_mixed p_law_mixed (spF (GG K A) F_law_mixed) :=
  fn_ok (k := 0) rfl rfl T.F_law_mixed sc_law_mixed fun cdv Ar outer s H E hr => ⟨_,
    (pss_cons (ps_set (i := 3) sc_law_mixed.nd rfl (by first | exact Or.inl rfl | exact Or.inr rfl) (pe_op op_modN (pe_op op_pow (pe_op or_add (pe_op or_add (pe_op op_modN (pv 0) pe_int) (pe_op or_mul pe_int (pv 1))) pe_int) pe_int) pe_int))
    (pss_one (ps_ret (pe_op op_modN (pe_op op_modN (pe_op or_mul (pe_op op_modN (pe_op or_mul (pv 3) (pe_op or_add pe_int (pv 1))) pe_int) pe_int) pe_int) (pv 2))))),
    (s_seq (s_setF (v_op d_mod (v_op d_pow (v_op d_add (v_op d_add (v_op d_mod v_var v_int) (v_op d_mul v_int v_var)) v_int) v_int) v_int))
    (s_ret (v_op d_mod (v_op d_mod (v_op d_mul (v_op d_mod (v_op d_mul v_var (v_op d_add v_int v_var)) v_int) v_int) v_int) v_var)))⟩
theorem ok_law_divisor (T : Txt K mg base A) : FnOk P w K mg base (L2.CX P w) 1 A.f_law_divisor A.d_law_divisor p_law_divisor (spF (GG K A) F_law_divisor) :=
  fn_ok (k := 0) rfl rfl T.F_law_divisor sc_law_divisor fun cdv Ar outer s H E hr => ⟨_,
    (pss_cons (ps_while (passes_of rfl) (pt_cmpR (or_ne hr.units) (pv 1) pe_int (nomark _)) (pss_one (ps_par rfl sc_law_divisor.nd rfl rfl (by decide) rfl rfl (pa_cons (pv 1) (pa_cons (pe_op op_modN (pv 0) (pv 1)) pa_nil)) rfl)))
    (pss_one (ps_ret (pv 0)))),
    (s_seq (s_while (t_test (v_op d_ne v_var v_int)) (s_par (a_cons v_var (a_cons (v_op d_mod v_var v_var) a_nil))))
    s_retV)⟩
theorem ok_law_less (T : Txt K mg base A) : FnOk P w K mg base (L2.CX P w) 1 A.f_law_less A.d_law_less p_law_less (spF (GG K A) F_law_less) :=
  fn_ok (k := 0) rfl rfl T.F_law_less sc_law_less fun cdv Ar outer s H E hr => ⟨_,
    (pss_one (ps_ret (pe_cmpR op_lt (pe_op or_mul (pe_ix ix_seq (pv 0) pe_int (fun _ _ => rfl)) (pe_ix ix_seq (pv 1) pe_int (fun _ _ => rfl))) (pe_op or_mul (pe_ix ix_seq (pv 1) pe_int (fun _ _ => rfl)) (pe_ix ix_seq (pv 0) pe_int (fun _ _ => rfl))) (nomark _)))),
    (s_ret (v_op d_lt (v_op d_mul (v_op d_ix v_var v_int) (v_op d_ix v_var v_int)) (v_op d_mul (v_op d_ix v_var v_int) (v_op d_ix v_var v_int))))⟩
theorem ok_law_by (T : Txt K mg base A) : FnOk P w K mg base (L2.CX P w) 1 A.f_law_by A.d_law_by p_law_by (spF (GG K A) F_law_by) :=
  fn_ok (k := 0) rfl rfl T.F_law_by sc_law_by fun cdv Ar outer s H E hr => ⟨_,
    (pss_one (ps_ret (pe_op or_div (pe_op or_mul (pe_ix ix_seq (pv 0) pe_int (fun _ _ => rfl)) (pe_op op_pow pe_int pe_int)) (pe_ix ix_seq (pv 0) pe_int (fun _ _ => rfl))))),
    (s_ret (v_op d_div (v_op d_mul (v_op d_ix v_var v_int) (v_op d_pow v_int v_int)) (v_op d_ix v_var v_int)))⟩
theorem ok_fraction_of (T : Txt K mg base A) : FnOk P w K mg base (L2.CX P w) 2 A.f_fraction_of A.d_fraction_of p_fraction_of (spF (GG K A) F_fraction_of) :=
  fn_okD (k := 1) rfl rfl T.F_fraction_of sc_fraction_of fun cdv Ar outer s H E hr => ⟨_,
    (pss_cons (ps_if (pt_cmpR (or_eq hr.units) (pv 1) pe_int (nomark _)) (pss_one (ps_raise rfl (takes_of rfl rfl rfl rfl) (pmk_own PySem.F.excBase_ValueError T.x_NoFraction T.g_NoFraction T.k_NoFraction (raises_own T.sb_NoFraction T.t_NoFraction) rfl))) pss_nil)
    (pss_cons (ps_set (i := 2) sc_fraction_of.nd rfl (by first | exact Or.inl rfl | exact Or.inr rfl) (pe_callS (ok_divisor T) hr rfl T.g_divisor T.F_divisor.kp T.b_divisor (fun σ => passAt (takes_of rfl rfl rfl rfl) σ) (by exact (pa_cons (pv 0) (pa_cons (pv 1) pa_nil)))))
    (pss_cons (ps_if (pt_cmpR op_lt (pv 1) pe_int (nomark _)) (pss_one (ps_set (i := 2) sc_fraction_of.nd rfl (by first | exact Or.inl rfl | exact Or.inr rfl) (pe_un un_neg (pv 2)))) pss_nil)
    (pss_one (ps_ret (pe_tup (pa_cons (pe_op or_div (pv 0) (pv 2)) (pa_cons (pe_op or_div (pv 1) (pv 2)) pa_nil)))))))),
    (s_seq (s_if (t_test (v_op d_eq v_var v_int)) (s_raise rfl) s_skip)
    (s_seq (s_setF (v_call (a_cons v_var (a_cons v_var a_nil))))
    (s_seq (s_if (t_test (v_op d_lt v_var v_int)) (s_setF (v_un d_neg v_var)) s_skip)
    (s_ret (v_tup (a_cons (v_op d_div v_var v_var) (a_cons (v_op d_div v_var v_var) a_nil)))))))⟩
theorem ok_ask_span (T : Txt K mg base A) : FnOk P w K mg base (L2.CX P w) 2 A.f_ask_span A.d_ask_span p_ask_span (spF (GG K A) F_ask_span) :=
  fn_ok (k := 1) rfl rfl T.F_ask_span sc_ask_span fun cdv Ar outer s H E hr => ⟨_,
    (pss_one (ps_if (PW.pt (pw_or (pt_val (pe_callS (ok_is_less T) hr rfl T.g_is_less T.F_is_less.kp T.b_is_less (fun σ => passAt (takes_of rfl rfl rfl rfl) σ) (by exact (pa_cons (pv 0) (pa_cons (pe_glob (v := .ref A.a_BEGIN) rfl T.m_BEGIN rfl) pa_nil))))) (pw_or (pt_val (pe_callS (ok_is_less T) hr rfl T.g_is_less T.F_is_less.kp T.b_is_less (fun σ => passAt (takes_of rfl rfl rfl rfl) σ) (by exact (pa_cons (pe_glob (v := .ref A.a_END) rfl T.m_END rfl) (pa_cons (pv 1) pa_nil))))) (pw_or1 (pt_val (pe_callS (ok_is_less T) hr rfl T.g_is_less T.F_is_less.kp T.b_is_less (fun σ => passAt (takes_of rfl rfl rfl rfl) σ) (by exact (pa_cons (pv 1) (pa_cons (pv 0) pa_nil))))))))) (pss_one (ps_raise rfl (takes_of rfl rfl rfl rfl) (pmk_own PySem.F.excBase_ValueError T.x_NoSpan T.g_NoSpan T.k_NoSpan (raises_own T.sb_NoSpan T.t_NoSpan) rfl))) pss_nil)),
    (s_if (t_or (t_val (v_call (a_cons v_var (a_cons (v_const T.i_BEGIN) a_nil)))) (t_or (t_val (v_call (a_cons (v_const T.i_END) (a_cons v_var a_nil)))) (t_val (v_call (a_cons v_var (a_cons v_var a_nil)))))) (s_raise rfl) s_skip)⟩
theorem ok_rising_places (T : Txt K mg base A) : FnOk P w K mg base (L2.CX P w) 2 A.f_rising_places A.d_rising_places p_rising_places (spF (GG K A) F_rising_places) :=
  fn_ok (k := 1) rfl rfl T.F_rising_places sc_rising_places fun cdv Ar outer s H E hr => ⟨_,
    (pss_cons (ps_set (i := 1) sc_rising_places.nd rfl (by first | exact Or.inl rfl | exact Or.inr rfl) (pe_lst pa_nil))
    (pss_cons (ps_for (passes_of rfl) rfl (pi_any (pv 0)) (pg_name (i := 2) sc_rising_places.nd rfl (by first | exact Or.inl rfl | exact Or.inr rfl)) (pss_one (ps_for (passes_of rfl) rfl (pi_any (pv 2)) (pg_name (i := 3) sc_rising_places.nd rfl (by first | exact Or.inl rfl | exact Or.inr rfl)) (pss_cons (ps_set (i := 4) sc_rising_places.nd rfl (by first | exact Or.inl rfl | exact Or.inr rfl) (pe_callB call_len (by rfl) T.z_len (by decide +kernel) (pa_cons (pv 1) pa_nil)))
    (pss_cons (ps_while (passes_of rfl) (PW.pt (pw_and (pt_cmpR op_gt (pv 4) pe_int (nomark _)) (pw_and1 (pt_val (pe_callS (ok_is_less T) hr rfl T.g_is_less T.F_is_less.kp T.b_is_less (fun σ => passAt (takes_of rfl rfl rfl rfl) σ) (by exact (pa_cons (pv 3) (pa_cons (pe_ix ix_seq (pv 1) (pe_op op_sub (pv 4) pe_int) (fun _ _ => rfl)) pa_nil)))))))) (pss_one (ps_set (i := 4) sc_rising_places.nd rfl (by first | exact Or.inl rfl | exact Or.inr rfl) (pe_op op_sub (pv 4) pe_int))))
    (pss_one (ps_if (PW.pt (pw_or (pt_cmpR (or_eq hr.units) (pv 4) pe_int (nomark _)) (pw_or1 (pt_cmpR (or_ne hr.units) (pe_ix ix_seq (pv 1) (pe_op op_sub (pv 4) pe_int) (fun _ _ => rfl)) (pv 3) (nomark _))))) (pss_one (ps_expr (pe_bm PySem.F.plainAttrs_list PySem.F.slot_list_insert PySem.F.type_list_insert mt_insert (pv 1) (pa_cons (pv 4) (pa_cons (pv 3) pa_nil))))) pss_nil)))))))
    (pss_one (ps_ret (pv 1))))),
    (s_seq (s_set (v_lst a_nil))
    (s_seq (s_for (i_any v_var) g_name (s_for (i_any v_var) g_name (s_seq (s_setF (v_cb c_len (a_cons v_var a_nil)))
    (s_seq (s_while (t_and (t_test (v_op d_gt v_var v_int)) (t_val (v_call (a_cons v_var (a_cons (v_op d_ix v_var (v_op d_sub v_var v_int)) a_nil))))) (s_setF (v_op d_sub v_var v_int)))
    (s_if (t_or (t_test (v_op d_eq v_var v_int)) (t_test (v_op d_ne (v_op d_ix v_var (v_op d_sub v_var v_int)) v_var))) (s_mt m_insert (a_cons v_var (a_cons v_var a_nil))) s_skip)))))
    s_retV))⟩
theorem ok_covers (T : Txt K mg base A) : FnOk P w K mg base (L2.CX P w) 2 A.f_covers A.d_covers p_covers (spF (GG K A) F_covers) :=
  fn_ok (k := 1) rfl rfl T.F_covers sc_covers fun cdv Ar outer s H E hr => ⟨_,
    (pss_cons (ps_for (passes_of rfl) rfl (pi_any (pv 0)) (pg_tl rfl (pgs_cons (pg_name (i := 3) sc_covers.nd rfl (by first | exact Or.inl rfl | exact Or.inr rfl)) (pgs_cons (pg_name (i := 4) sc_covers.nd rfl (by first | exact Or.inl rfl | exact Or.inr rfl)) pgs_nil))) (pss_one (ps_if (PW.pt (pw_and (pt_not (pt_val (pe_callS (ok_is_less T) hr rfl T.g_is_less T.F_is_less.kp T.b_is_less (fun σ => passAt (takes_of rfl rfl rfl rfl) σ) (by exact (pa_cons (pv 1) (pa_cons (pv 3) pa_nil)))))) (pw_and1 (pt_not (pt_val (pe_callS (ok_is_less T) hr rfl T.g_is_less T.F_is_less.kp T.b_is_less (fun σ => passAt (takes_of rfl rfl rfl rfl) σ) (by exact (pa_cons (pv 4) (pa_cons (pv 2) pa_nil))))))))) (pss_one (ps_ret pe_bl)) pss_nil)))
    (pss_one (ps_ret pe_bl))),
    (s_seq (s_for (i_any v_var) (g_tl (gs_cons g_name (gs_cons g_name gs_nil))) (s_if (t_and (t_not (t_val (v_call (a_cons v_var (a_cons v_var a_nil))))) (t_not (t_val (v_call (a_cons v_var (a_cons v_var a_nil)))))) (s_ret v_bl) s_skip))
    (s_ret v_bl))⟩
theorem ok_law_take (T : Txt K mg base A) : FnOk P w K mg base (L2.CX P w) 2 A.f_law_take A.d_law_take p_law_take (spF (GG K A) F_law_take) :=
  fn_ok (k := 1) rfl rfl T.F_law_take sc_law_take fun cdv Ar outer s H E hr => ⟨_,
    (pss_cons (ps_asg (pe_op or_add (pe_ix ix_seq (pv 0) pe_int (fun _ _ => rfl)) pe_int) (pg_sub (pv 0) pe_int set_list))
    (pss_cons (ps_set (i := 2) sc_law_take.nd rfl (by first | exact Or.inl rfl | exact Or.inr rfl) pe_int)
    (pss_cons (ps_if (PW.pt (pw_and (pt_cmpR (or_eq hr.units) (pe_ix ix_seq (pv 0) pe_int (fun _ _ => rfl)) pe_int (nomark _)) (pw_and1 (pt_cmpR op_lt (pe_ix ix_seq (pv 0) pe_int (fun _ _ => rfl)) (pe_callB call_len (by rfl) T.z_len (by decide +kernel) (pa_cons (pe_ix ix_seq (pv 0) pe_int (fun _ _ => rfl)) pa_nil)) (nomark _))))) (pss_cons (ps_set (i := 2) sc_law_take.nd rfl (by first | exact Or.inl rfl | exact Or.inr rfl) (pe_ix ix_seq (pe_ix ix_seq (pv 0) pe_int (fun _ _ => rfl)) (pe_ix ix_seq (pv 0) pe_int (fun _ _ => rfl)) (fun _ _ => rfl)))
    (pss_cons (ps_asg (pe_op or_add (pe_ix ix_seq (pv 0) pe_int (fun _ _ => rfl)) pe_int) (pg_sub (pv 0) pe_int set_list))
    (pss_cons (ps_if (pt_cmpR op_lt (pv 2) (pe_op op_pow pe_int pe_int) (nomark _)) (pss_one (ps_ret (pe_callS (ok_law_mixed T) hr rfl T.g_law_mixed T.F_law_mixed.kp T.b_law_mixed (fun σ => passAt (takes_of rfl rfl rfl rfl) σ) (by exact (pa_cons (pv 2) (pa_cons (pe_ix ix_seq (pv 0) pe_int (fun _ _ => rfl)) (pa_cons (pv 1) pa_nil))))))) pss_nil)
    (pss_one (ps_asg (pv 2) (pg_sub (pv 0) pe_int set_list)))))) pss_nil)
    (pss_cons (ps_if (pt_cmpR op_gt (pe_ix ix_seq (pv 0) pe_int (fun _ _ => rfl)) pe_int (nomark _)) (pss_cons (ps_set (i := 3) sc_law_take.nd rfl (by first | exact Or.inl rfl | exact Or.inr rfl) (pe_op op_modN (pe_ix ix_seq (pv 0) pe_int (fun _ _ => rfl)) (pv 1)))
    (pss_cons (ps_asg (pe_op or_div (pe_ix ix_seq (pv 0) pe_int (fun _ _ => rfl)) (pv 1)) (pg_sub (pv 0) pe_int set_list))
    (pss_one (ps_ret (pv 3))))) pss_nil)
    (pss_cons (ps_if (pt_cmpR op_gt (pe_callB call_len (by rfl) T.z_len (by decide +kernel) (pa_cons (pe_ix ix_seq (pv 0) pe_int (fun _ _ => rfl)) pa_nil)) pe_int (nomark _)) (pss_one (ps_set (i := 2) sc_law_take.nd rfl (by first | exact Or.inl rfl | exact Or.inr rfl) (pe_ix ix_seq (pe_ix ix_seq (pv 0) pe_int (fun _ _ => rfl)) (pe_op op_modN (pe_ix ix_seq (pv 0) pe_int (fun _ _ => rfl)) (pe_callB call_len (by rfl) T.z_len (by decide +kernel) (pa_cons (pe_ix ix_seq (pv 0) pe_int (fun _ _ => rfl)) pa_nil))) (fun _ _ => rfl)))) pss_nil)
    (pss_one (ps_ret (pe_callS (ok_law_mixed T) hr rfl T.g_law_mixed T.F_law_mixed.kp T.b_law_mixed (fun σ => passAt (takes_of rfl rfl rfl rfl) σ) (by exact (pa_cons (pv 2) (pa_cons (pe_ix ix_seq (pv 0) pe_int (fun _ _ => rfl)) (pa_cons (pv 1) pa_nil)))))))))))),
    (s_seq (s_setI (v_op d_add (v_op d_ix v_var v_int) v_int) v_int)
    (s_seq (s_setF v_int)
    (s_seq (s_if (t_and (t_test (v_op d_eq (v_op d_ix v_var v_int) v_int)) (t_test (v_op d_lt (v_op d_ix v_var v_int) (v_cb c_len (a_cons (v_op d_ix v_var v_int) a_nil))))) (s_seq (s_setF (v_op d_ix (v_op d_ix v_var v_int) (v_op d_ix v_var v_int)))
    (s_seq (s_setI (v_op d_add (v_op d_ix v_var v_int) v_int) v_int)
    (s_seq (s_if (t_test (v_op d_lt v_var (v_op d_pow v_int v_int))) (s_ret (v_call (a_cons v_var (a_cons (v_op d_ix v_var v_int) (a_cons v_var a_nil))))) s_skip)
    (s_setI v_var v_int)))) s_skip)
    (s_seq (s_if (t_test (v_op d_gt (v_op d_ix v_var v_int) v_int)) (s_seq (s_setF (v_op d_mod (v_op d_ix v_var v_int) v_var))
    (s_seq (s_setI (v_op d_div (v_op d_ix v_var v_int) v_var) v_int)
    s_retV)) s_skip)
    (s_seq (s_if (t_test (v_op d_gt (v_cb c_len (a_cons (v_op d_ix v_var v_int) a_nil)) v_int)) (s_setF (v_op d_ix (v_op d_ix v_var v_int) (v_op d_mod (v_op d_ix v_var v_int) (v_cb c_len (a_cons (v_op d_ix v_var v_int) a_nil))))) s_skip)
    (s_ret (v_call (a_cons v_var (a_cons (v_op d_ix v_var v_int) (a_cons v_var a_nil))))))))))⟩
theorem ok_law_lowest (T : Txt K mg base A) : FnOk P w K mg base (L2.CX P w) 2 A.f_law_lowest A.d_law_lowest p_law_lowest (spF (GG K A) F_law_lowest) :=
  fn_ok (k := 1) rfl rfl T.F_law_lowest sc_law_lowest fun cdv Ar outer s H E hr => ⟨_,
    (pss_cons (ps_set (i := 2) sc_law_lowest.nd rfl (by first | exact Or.inl rfl | exact Or.inr rfl) (pe_callS (ok_law_divisor T) hr rfl T.g_law_divisor T.F_law_divisor.kp T.b_law_divisor (fun σ => passAt (takes_of rfl rfl rfl rfl) σ) (by exact (pa_cons (pv 0) (pa_cons (pv 1) pa_nil)))))
    (pss_one (ps_ret (pe_tup (pa_cons (pe_op or_div (pv 0) (pv 2)) (pa_cons (pe_op or_div (pv 1) (pv 2)) pa_nil)))))),
    (s_seq (s_setF (v_call (a_cons v_var (a_cons v_var a_nil))))
    (s_ret (v_tup (a_cons (v_op d_div v_var v_var) (a_cons (v_op d_div v_var v_var) a_nil)))))⟩
theorem ok_law_rising (T : Txt K mg base A) : FnOk P w K mg base (L2.CX P w) 2 A.f_law_rising A.d_law_rising p_law_rising (spF (GG K A) F_law_rising) :=
  fn_ok (k := 1) rfl rfl T.F_law_rising sc_law_rising fun cdv Ar outer s H E hr => ⟨_,
    (pss_cons (ps_set (i := 1) sc_law_rising.nd rfl (by first | exact Or.inl rfl | exact Or.inr rfl) (pe_lst pa_nil))
    (pss_cons (ps_for (passes_of rfl) rfl (pi_any (pv 0)) (pg_name (i := 2) sc_law_rising.nd rfl (by first | exact Or.inl rfl | exact Or.inr rfl)) (pss_one (ps_if (pt_cmpR (or_notin (unit65 hr)) (pv 2) (pv 1) (by with_unfolding_all rfl)) (pss_cons (ps_set (i := 3) sc_law_rising.nd rfl (by first | exact Or.inl rfl | exact Or.inr rfl) (pe_callB call_len (by rfl) T.z_len (by decide +kernel) (pa_cons (pe_lc (own := [("_law_other", 4)]) rfl sc_law_rising.nd (pi_any (pv 1)) (blkOk_by (N := n_law_rising) (sc := defScope (s_law_rising)) (by decide +kernel)) (fun _ _ _ _ _ => (pg_name (i := 4) sc_law_rising.nd rfl (by first | exact Or.inl rfl | exact Or.inr rfl))) (fun _ _ _ _ _ => (pts_one (pt_val (pe_callS (ok_law_less T) hr rfl T.g_law_less T.F_law_less.kp T.b_law_less (fun σ => passAt takes0 σ) (by exact (pa_cons (pv 4) (pa_cons (pv 2) pa_nil))))))) (fun _ _ _ _ _ => (pv 4))) pa_nil)))
    (pss_one (ps_expr (pe_bm PySem.F.plainAttrs_list PySem.F.slot_list_insert PySem.F.type_list_insert mt_insert (pv 1) (pa_cons (pv 3) (pa_cons (pv 2) pa_nil)))))) pss_nil)))
    (pss_one (ps_ret (pv 1))))),
    (s_seq (s_set (v_lst a_nil))
    (s_seq (s_for (i_any v_var) g_name (s_if (t_test (v_op d_notin v_var v_var)) (s_seq (s_setF (v_cb c_len (a_cons (v_lcE (vs := [4]) (i_own (i := 1) (by decide)) g_name (by decide) (t_val (v_call (a_cons v_var (a_cons v_var a_nil)))) v_var) a_nil)))
    (s_mt m_insert (a_cons v_var (a_cons v_var a_nil)))) s_skip))
    s_retV))⟩
theorem ok_plus (T : Txt K mg base A) : FnOk P w K mg base (L2.CX P w) 3 A.f_plus A.d_plus p_plus (spF (GG K A) F_plus) :=
  fn_ok (k := 2) rfl rfl T.F_plus sc_plus fun cdv Ar outer s H E hr => ⟨_,
    (pss_one (ps_ret (by exact (pe_gN (ok_fraction_of T) hr rfl T.g_fraction_of T.F_fraction_of.kp T.B_fraction_of_2_ (fun σ => passAt (takes_of rfl rfl rfl rfl) σ) (by exact (pa_cons (pe_op or_add (pe_op or_mul (pe_ix ix_seq (pv 0) pe_int (fun _ _ => rfl)) (pe_ix ix_seq (pv 1) pe_int (fun _ _ => rfl))) (pe_op or_mul (pe_ix ix_seq (pv 1) pe_int (fun _ _ => rfl)) (pe_ix ix_seq (pv 0) pe_int (fun _ _ => rfl)))) (pa_cons (pe_op or_mul (pe_ix ix_seq (pv 0) pe_int (fun _ _ => rfl)) (pe_ix ix_seq (pv 1) pe_int (fun _ _ => rfl))) pa_nil))))))),
    (s_ret (v_callG (dd := [(.int 1)]) rfl (a_cons (v_op d_add (v_op d_mul (v_op d_ix v_var v_int) (v_op d_ix v_var v_int)) (v_op d_mul (v_op d_ix v_var v_int) (v_op d_ix v_var v_int))) (a_cons (v_op d_mul (v_op d_ix v_var v_int) (v_op d_ix v_var v_int)) a_nil)) a_nil))⟩
theorem ok_minus (T : Txt K mg base A) : FnOk P w K mg base (L2.CX P w) 3 A.f_minus A.d_minus p_minus (spF (GG K A) F_minus) :=
  fn_ok (k := 2) rfl rfl T.F_minus sc_minus fun cdv Ar outer s H E hr => ⟨_,
    (pss_one (ps_ret (by exact (pe_gN (ok_fraction_of T) hr rfl T.g_fraction_of T.F_fraction_of.kp T.B_fraction_of_2_ (fun σ => passAt (takes_of rfl rfl rfl rfl) σ) (by exact (pa_cons (pe_op op_sub (pe_op or_mul (pe_ix ix_seq (pv 0) pe_int (fun _ _ => rfl)) (pe_ix ix_seq (pv 1) pe_int (fun _ _ => rfl))) (pe_op or_mul (pe_ix ix_seq (pv 1) pe_int (fun _ _ => rfl)) (pe_ix ix_seq (pv 0) pe_int (fun _ _ => rfl)))) (pa_cons (pe_op or_mul (pe_ix ix_seq (pv 0) pe_int (fun _ _ => rfl)) (pe_ix ix_seq (pv 1) pe_int (fun _ _ => rfl))) pa_nil))))))),
    (s_ret (v_callG (dd := [(.int 1)]) rfl (a_cons (v_op d_sub (v_op d_mul (v_op d_ix v_var v_int) (v_op d_ix v_var v_int)) (v_op d_mul (v_op d_ix v_var v_int) (v_op d_ix v_var v_int))) (a_cons (v_op d_mul (v_op d_ix v_var v_int) (v_op d_ix v_var v_int)) a_nil)) a_nil))⟩
theorem ok_law_any_place (T : Txt K mg base A) : FnOk P w K mg base (L2.CX P w) 3 A.f_law_any_place A.d_law_any_place p_law_any_place (spF (GG K A) F_law_any_place) :=
  fn_ok (k := 2) rfl rfl T.F_law_any_place sc_law_any_place fun cdv Ar outer s H E hr => ⟨_,
    (pss_cons (ps_set (i := 1) sc_law_any_place.nd rfl (by first | exact Or.inl rfl | exact Or.inr rfl) (pe_ix ix_seq (pe_lst (pa_cons pe_int (pa_cons pe_int (pa_cons pe_int (pa_cons (pe_op op_pow pe_int pe_int) pa_nil))))) (pe_callS (ok_law_take T) hr rfl T.g_law_take T.F_law_take.kp T.b_law_take (fun σ => passAt (takes_of rfl rfl rfl rfl) σ) (by exact (pa_cons (pv 0) (pa_cons pe_int pa_nil)))) (fun _ _ => rfl)))
    (pss_one (ps_ret (pe_callS (ok_law_lowest T) hr rfl T.g_law_lowest T.F_law_lowest.kp T.b_law_lowest (fun σ => passAt (takes_of rfl rfl rfl rfl) σ) (by exact (pa_cons (pe_callS (ok_law_take T) hr rfl T.g_law_take T.F_law_take.kp T.b_law_take (fun σ => passAt (takes_of rfl rfl rfl rfl) σ) (by exact (pa_cons (pv 0) (pa_cons (pe_op or_add (pv 1) pe_int) pa_nil)))) (pa_cons (pv 1) pa_nil))))))),
    (s_seq (s_setF (v_op d_ix (v_lst (a_cons v_int (a_cons v_int (a_cons v_int (a_cons (v_op d_pow v_int v_int) a_nil))))) (v_call (a_cons v_var (a_cons v_int a_nil)))))
    (s_ret (v_call (a_cons (v_call (a_cons v_var (a_cons (v_op d_add v_var v_int) a_nil))) (a_cons v_var a_nil)))))⟩
theorem ok_law_swapped (T : Txt K mg base A) : FnOk P w K mg base (L2.CX P w) 3 A.f_law_swapped A.d_law_swapped p_law_swapped (spF (GG K A) F_law_swapped) :=
  fn_ok (k := 2) rfl rfl T.F_law_swapped sc_law_swapped fun cdv Ar outer s H E hr => ⟨_,
    (pss_cons (ps_set (i := 2) sc_law_swapped.nd rfl (by first | exact Or.inl rfl | exact Or.inr rfl) (pe_op or_add pe_int (pe_callS (ok_law_take T) hr rfl T.g_law_take T.F_law_take.kp T.b_law_take (fun σ => passAt (takes_of rfl rfl rfl rfl) σ) (by exact (pa_cons (pv 0) (pa_cons pe_int pa_nil))))))
    (pss_cons (ps_set (i := 3) sc_law_swapped.nd rfl (by first | exact Or.inl rfl | exact Or.inr rfl) (pe_callS (ok_law_take T) hr rfl T.g_law_take T.F_law_take.kp T.b_law_take (fun σ => passAt (takes_of rfl rfl rfl rfl) σ) (by exact (pa_cons (pv 0) (pa_cons (pv 2) pa_nil)))))
    (pss_cons (ps_set (i := 4) sc_law_swapped.nd rfl (by first | exact Or.inl rfl | exact Or.inr rfl) (pe_op op_modN (pe_op or_add (pe_op or_add (pv 3) pe_int) (pe_callS (ok_law_take T) hr rfl T.g_law_take T.F_law_take.kp T.b_law_take (fun σ => passAt (takes_of rfl rfl rfl rfl) σ) (by exact (pa_cons (pv 0) (pa_cons (pe_op op_sub (pv 2) pe_int) pa_nil))))) (pv 2)))
    (pss_cons (ps_setLc (i := 5) (own := [("_law_k", 6)]) rfl sc_law_swapped.nd rfl rfl (sw_true rfl rfl rfl (by decide +kernel)) (pi_range1 (by rfl) T.z_range (pa_cons (pv 1) pa_nil)) (blkOk_by (N := n_law_swapped) (sc := defScope (s_law_swapped)) (by decide +kernel)) (fun _ _ _ _ _ => (pg_name (i := 6) sc_law_swapped.nd rfl (by first | exact Or.inl rfl | exact Or.inr rfl))) (fun _ _ _ _ _ => pts_nil) (fun _ _ _ _ _ => (pe_lst pa_nil)))
    (pss_cons (ps_for (passes_of rfl) rfl (pi_range1 (by rfl) T.z_range (pa_cons (pv 2) pa_nil)) (pg_name (i := 6) sc_law_swapped.nd rfl (by first | exact Or.inl rfl | exact Or.inr rfl)) (pss_one (ps_for (passes_of rfl) rfl (pi_range1 (by rfl) T.z_range (pa_cons (pe_ix ix_seq (pe_lst (pa_cons pe_int (pa_cons pe_int (pa_cons pe_int pa_nil)))) (pe_op or_add (pe_callTy call_intA (by rfl) T.z_int (by decide +kernel) (pa_cons (pe_cmpR (or_eq hr.units) (pv 6) (pv 3) (nomark _)) pa_nil)) (pe_op or_mul pe_int (pe_callTy call_intA (by rfl) T.z_int (by decide +kernel) (pa_cons (pe_cmpR (or_eq hr.units) (pv 6) (pv 4) (nomark _)) pa_nil)))) (fun _ _ => rfl)) pa_nil)) (pg_name (i := 7) sc_law_swapped.nd rfl (by first | exact Or.inl rfl | exact Or.inr rfl)) (pss_cons (ps_set (i := 8) sc_law_swapped.nd rfl (by first | exact Or.inl rfl | exact Or.inr rfl) (pe_ix ix_seq (pv 5) (pe_callS (ok_law_take T) hr rfl T.g_law_take T.F_law_take.kp T.b_law_take (fun σ => passAt (takes_of rfl rfl rfl rfl) σ) (by exact (pa_cons (pv 0) (pa_cons (pv 1) pa_nil)))) (fun _ _ => rfl)))
    (pss_one (ps_expr (pe_bm PySem.F.plainAttrs_list PySem.F.slot_list_insert PySem.F.type_list_insert mt_insert (pv 8) (pa_cons (pe_callS (ok_law_take T) hr rfl T.g_law_take T.F_law_take.kp T.b_law_take (fun σ => passAt (takes_of rfl rfl rfl rfl) σ) (by exact (pa_cons (pv 0) (pa_cons (pe_op or_add (pe_callB call_len (by rfl) T.z_len (by decide +kernel) (pa_cons (pv 8) pa_nil)) pe_int) pa_nil)))) (pa_cons (pe_tup (pa_cons (pe_callS (ok_law_lowest T) hr rfl T.g_law_lowest T.F_law_lowest.kp T.b_law_lowest (fun σ => passAt (takes_of rfl rfl rfl rfl) σ) (by exact (pa_cons (pv 6) (pa_cons (pv 2) pa_nil)))) (pa_cons (pe_callS (ok_law_lowest T) hr rfl T.g_law_lowest T.F_law_lowest.kp T.b_law_lowest (fun σ => passAt (takes_of rfl rfl rfl rfl) σ) (by exact (pa_cons (pe_op or_add (pv 6) pe_int) (pa_cons (pv 2) pa_nil)))) pa_nil))) pa_nil)))))))))
    (pss_one (ps_ret (pv 5)))))))),
    (s_seq (s_setF (v_op d_add v_int (v_call (a_cons v_var (a_cons v_int a_nil)))))
    (s_seq (s_setF (v_call (a_cons v_var (a_cons v_var a_nil))))
    (s_seq (s_setF (v_op d_mod (v_op d_add (v_op d_add v_var v_int) (v_call (a_cons v_var (a_cons (v_op d_sub v_var v_int) a_nil)))) v_var))
    (s_seq (s_setF (v_put (v_lc (vs := [6]) (js := [6]) (i_range1 (a_cons v_var a_nil)) g_name (by decide) t_yes (v_put (v_lst a_nil)))))
    (s_seq (s_for (i_range1 (a_cons v_var a_nil)) g_name (s_for (i_range1 (a_cons (v_op d_ix (v_lst (a_cons v_int (a_cons v_int (a_cons v_int a_nil)))) (v_op d_add (v_cb c_int (a_cons (v_op d_eq v_var v_var) a_nil)) (v_op d_mul v_int (v_cb c_int (a_cons (v_op d_eq v_var v_var) a_nil))))) a_nil)) g_name (s_seq (s_set (v_op d_ix v_var (v_call (a_cons v_var (a_cons v_var a_nil)))))
    (s_mt m_insert (a_cons (v_call (a_cons v_var (a_cons (v_op d_add (v_cb c_len (a_cons v_var a_nil)) v_int) a_nil))) (a_cons (v_tup (a_cons (v_call (a_cons v_var (a_cons v_var a_nil))) (a_cons (v_call (a_cons (v_op d_add v_var v_int) (a_cons v_var a_nil))) a_nil))) a_nil))))))
    s_retV)))))⟩
theorem ok_law_due (T : Txt K mg base A) : FnOk P w K mg base (L2.CX P w) 3 A.f_law_due A.d_law_due p_law_due (spF (GG K A) F_law_due) :=
  fn_ok (k := 2) rfl rfl T.F_law_due sc_law_due fun cdv Ar outer s H E hr => ⟨_,
    (pss_cons (ps_set (i := 1) sc_law_due.nd rfl (by first | exact Or.inl rfl | exact Or.inr rfl) (pe_lst (pa_cons (pe_tup (pa_cons pe_int (pa_cons pe_int pa_nil))) (pa_cons (pe_tup (pa_cons pe_int (pa_cons pe_int pa_nil))) pa_nil))))
    (pss_cons (ps_for (passes_of rfl) rfl (pi_any (pv 0)) (pg_name (i := 2) sc_law_due.nd rfl (by first | exact Or.inl rfl | exact Or.inr rfl)) (pss_one (ps_for (passes_of rfl) rfl (pi_any (pv 2)) (pg_name (i := 3) sc_law_due.nd rfl (by first | exact Or.inl rfl | exact Or.inr rfl)) (pss_one (ps_expr (pe_bm PySem.F.plainAttrs_list PySem.F.slot_list_extend PySem.F.type_list_extend mt_extendT (pv 1) (pa_cons (pv 3) pa_nil)))))))
    (pss_cons (ps_set (i := 1) sc_law_due.nd rfl (by first | exact Or.inl rfl | exact Or.inr rfl) (pe_callS (ok_law_rising T) hr rfl T.g_law_rising T.F_law_rising.kp T.b_law_rising (fun σ => passAt (takes_of rfl rfl rfl rfl) σ) (by exact (pa_cons (pv 1) pa_nil))))
    (pss_cons (ps_for (passes_of rfl) rfl (pi_zip (by rfl) T.z_zip (pa_cons (pv 1) (pa_cons (pe_slice sl_any (pv 1) (po_some pe_int) po_none) pa_nil))) (pg_tl rfl (pgs_cons (pg_name (i := 4) sc_law_due.nd rfl (by first | exact Or.inl rfl | exact Or.inr rfl)) (pgs_cons (pg_name (i := 5) sc_law_due.nd rfl (by first | exact Or.inl rfl | exact Or.inr rfl)) pgs_nil))) (pss_cons (ps_set (i := 6) sc_law_due.nd rfl (by first | exact Or.inl rfl | exact Or.inr rfl) pe_int)
    (pss_cons (ps_for (passes_of rfl) rfl (pi_any (pv 0)) (pg_name (i := 2) sc_law_due.nd rfl (by first | exact Or.inl rfl | exact Or.inr rfl)) (pss_cons (ps_setLc (i := 7) (own := [("_law_low", 8), ("_law_high", 9)]) rfl sc_law_due.nd rfl rfl (sw_true rfl rfl rfl (by decide +kernel)) (pi_any (pv 2)) (blkOk_by (N := n_law_due) (sc := defScope (s_law_due)) (by decide +kernel)) (fun _ _ _ _ _ => (pg_tl rfl (pgs_cons (pg_name (i := 8) sc_law_due.nd rfl (by first | exact Or.inl rfl | exact Or.inr rfl)) (pgs_cons (pg_name (i := 9) sc_law_due.nd rfl (by first | exact Or.inl rfl | exact Or.inr rfl)) pgs_nil)))) (fun _ _ _ _ _ => pts_nil) (fun _ _ _ _ _ => (pe_and (pe_not (pe_callS (ok_law_less T) (hr.mono (by decide)) rfl T.g_law_less T.F_law_less.kp T.b_law_less (fun σ => passAt takes0 σ) (by exact (pa_cons (pv 4) (pa_cons (pv 8) pa_nil))))) (pe_one (pe_not (pe_callS (ok_law_less T) (hr.mono (by decide)) rfl T.g_law_less T.F_law_less.kp T.b_law_less (fun σ => passAt takes0 σ) (by exact (pa_cons (pv 9) (pa_cons (pv 5) pa_nil)))))))))
    (pss_one (ps_set (i := 6) sc_law_due.nd rfl (by first | exact Or.inl rfl | exact Or.inr rfl) (pe_op or_add (pv 6) (pe_callTy call_intA (by rfl) T.z_int (by decide +kernel) (pa_cons (pe_callB (cr_any rfl) (by rfl) T.z_any (by decide +kernel) (pa_cons (pv 7) pa_nil)) pa_nil)))))))
    (pss_one (ps_if (pt_cmpR (or_ne hr.units) (pv 6) pe_int (nomark _)) (pss_one (ps_ret pe_bl)) pss_nil)))))
    (pss_one (ps_ret pe_bl)))))),
    (s_seq (s_set (v_lst (a_cons (v_tup (a_cons v_int (a_cons v_int a_nil))) (a_cons (v_tup (a_cons v_int (a_cons v_int a_nil))) a_nil))))
    (s_seq (s_forX v_var g_name (s_forX v_var g_name (s_mt m_extendT (a_cons v_var a_nil))))
    (s_frz (s_seq (s_set (v_call (a_cons v_var a_nil)))
    (s_frz (s_seq (s_for (i_zip (a_cons v_var (a_cons (v_sl d_sl v_var (o_some v_int) o_none) a_nil))) (g_tl (gs_cons g_name (gs_cons g_name gs_nil))) (s_seq (s_setF v_int)
    (s_seq (s_forX v_var g_name (s_seq (s_setF (v_lcX (vs := [8, 9]) v_var (g_tl (gs_cons g_name (gs_cons g_name gs_nil))) (by decide) t_yes (v_and (v_not (v_call (a_cons v_var (a_cons v_var a_nil)))) (v_not (v_call (a_cons v_var (a_cons v_var a_nil)))))))
    (s_setF (v_op d_add v_var (v_cb c_int (a_cons (v_cb c_any (a_cons v_var a_nil)) a_nil))))))
    (s_if (t_test (v_op d_ne v_var v_int)) (s_ret v_bl) s_skip))))
    (s_ret v_bl)))))))⟩
theorem ok_Share_length (T : Txt K mg base A) : FnOk P w K mg base (L2.CX P w) 4 A.f_Share_length A.d_Share_length p_Share_length (spF (GG K A) F_Share_length) :=
  fn_ok (k := 3) rfl rfl T.F_Share_length sc_Share_length fun cdv Ar outer s H E hr => ⟨_,
    (pss_cons (ps_set (i := 1) sc_Share_length.nd rfl (by first | exact Or.inl rfl | exact Or.inr rfl) (pe_glob (v := .ref A.a_BEGIN) rfl T.m_BEGIN rfl))
    (pss_cons (ps_for (passes_of rfl) rfl (pi_any (pe_fld (pv 0) rfl)) (pg_tl rfl (pgs_cons (pg_name (i := 2) sc_Share_length.nd rfl (by first | exact Or.inl rfl | exact Or.inr rfl)) (pgs_cons (pg_name (i := 3) sc_Share_length.nd rfl (by first | exact Or.inl rfl | exact Or.inr rfl)) pgs_nil))) (pss_one (ps_set (i := 1) sc_Share_length.nd rfl (by first | exact Or.inl rfl | exact Or.inr rfl) (pe_callS (ok_plus T) hr rfl T.g_plus_fractions T.F_plus.kp T.b_plus (fun σ => passAt (takes_of rfl rfl rfl rfl) σ) (by exact (pa_cons (pv 1) (pa_cons (pe_callS (ok_minus T) hr rfl T.g_minus T.F_minus.kp T.b_minus (fun σ => passAt (takes_of rfl rfl rfl rfl) σ) (by exact (pa_cons (pv 3) (pa_cons (pv 2) pa_nil)))) pa_nil)))))))
    (pss_one (ps_ret (pv 1))))),
    (s_seq (s_setF (v_const T.i_BEGIN))
    (s_seq (s_for (i_any (v_fld T.fo_parts v_var)) (g_tl (gs_cons g_name (gs_cons g_name gs_nil))) (s_setF (v_call (a_cons v_var (a_cons (v_call (a_cons v_var (a_cons v_var a_nil))) a_nil)))))
    s_retV))⟩
theorem ok_law_dealt (T : Txt K mg base A) : FnOk P w K mg base (L2.CX P w) 4 A.f_law_dealt A.d_law_dealt p_law_dealt (spF (GG K A) F_law_dealt) :=
  fn_ok (k := 3) rfl rfl T.F_law_dealt sc_law_dealt fun cdv Ar outer s H E hr => ⟨_,
    (pss_cons (ps_set (i := 2) sc_law_dealt.nd rfl (by first | exact Or.inl rfl | exact Or.inr rfl) (pe_callS (ok_law_rising T) (hr.mono (by decide)) rfl T.g_law_rising T.F_law_rising.kp T.b_law_rising (fun σ => passAt (takes_of rfl rfl rfl rfl) σ) (by exact (pa_cons (pe_op or_add (pe_lst (pa_cons (pe_tup (pa_cons pe_int (pa_cons pe_int pa_nil))) (pa_cons (pe_tup (pa_cons pe_int (pa_cons pe_int pa_nil))) pa_nil))) (pe_lc (own := [("_law_k", 7)]) rfl sc_law_dealt.nd (pi_range1 (by rfl) T.z_range (pa_cons (pe_callS (ok_law_take T) (hr.mono (by decide)) rfl T.g_law_take T.F_law_take.kp T.b_law_take (fun σ => passAt (takes_of rfl rfl rfl rfl) σ) (by exact (pa_cons (pv 0) (pa_cons pe_int pa_nil)))) pa_nil)) (blkOk_by (N := n_law_dealt) (sc := defScope (s_law_dealt)) (by decide +kernel)) (fun _ _ _ _ _ => (pg_name (i := 7) sc_law_dealt.nd rfl (by first | exact Or.inl rfl | exact Or.inr rfl))) (fun _ _ _ _ _ => pts_nil) (fun _ _ _ _ _ => (pe_callS (ok_law_any_place T) hr rfl T.g_law_any_place T.F_law_any_place.kp T.b_law_any_place (fun σ => passAt takes0 σ) (by exact (pa_cons (pv 0) pa_nil)))))) pa_nil))))
    (pss_cons (ps_setLc (i := 3) (own := [("_law_k", 7)]) rfl sc_law_dealt.nd rfl rfl (sw_true rfl rfl rfl (by decide +kernel)) (pi_range1 (by rfl) T.z_range (pa_cons (pv 1) pa_nil)) (blkOk_by (N := n_law_dealt) (sc := defScope (s_law_dealt)) (by decide +kernel)) (fun _ _ _ _ _ => (pg_name (i := 7) sc_law_dealt.nd rfl (by first | exact Or.inl rfl | exact Or.inr rfl))) (fun _ _ _ _ _ => pts_nil) (fun _ _ _ _ _ => (pe_lst pa_nil)))
    (pss_cons (ps_for (passes_of rfl) rfl (pi_zip (by rfl) T.z_zip (pa_cons (pv 2) (pa_cons (pe_slice sl_any (pv 2) (po_some pe_int) po_none) pa_nil))) (pg_tl rfl (pgs_cons (pg_name (i := 4) sc_law_dealt.nd rfl (by first | exact Or.inl rfl | exact Or.inr rfl)) (pgs_cons (pg_name (i := 5) sc_law_dealt.nd rfl (by first | exact Or.inl rfl | exact Or.inr rfl)) pgs_nil))) (pss_cons (ps_set (i := 6) sc_law_dealt.nd rfl (by first | exact Or.inl rfl | exact Or.inr rfl) (pe_ix ix_seq (pv 3) (pe_callS (ok_law_take T) (hr.mono (by decide)) rfl T.g_law_take T.F_law_take.kp T.b_law_take (fun σ => passAt (takes_of rfl rfl rfl rfl) σ) (by exact (pa_cons (pv 0) (pa_cons (pv 1) pa_nil)))) (fun _ _ => rfl)))
    (pss_cons (ps_expr (pe_bm PySem.F.plainAttrs_list PySem.F.slot_list_insert PySem.F.type_list_insert mt_insert (pv 6) (pa_cons (pe_callS (ok_law_take T) (hr.mono (by decide)) rfl T.g_law_take T.F_law_take.kp T.b_law_take (fun σ => passAt (takes_of rfl rfl rfl rfl) σ) (by exact (pa_cons (pv 0) (pa_cons (pe_op or_add (pe_callB call_len (by rfl) T.z_len (by decide +kernel) (pa_cons (pv 6) pa_nil)) pe_int) pa_nil)))) (pa_cons (pe_tup (pa_cons (pv 4) (pa_cons (pv 5) pa_nil))) pa_nil))))
    (pss_one (ps_if (pt_cmpR (or_eq hr.units) (pe_callS (ok_law_take T) (hr.mono (by decide)) rfl T.g_law_take T.F_law_take.kp T.b_law_take (fun σ => passAt (takes_of rfl rfl rfl rfl) σ) (by exact (pa_cons (pv 0) (pa_cons pe_int pa_nil)))) pe_int (nomark _)) (pss_one (ps_expr (pe_bm PySem.F.plainAttrs_list PySem.F.slot_list_append PySem.F.type_list_append mt_append (pv 6) (pa_cons (pe_tup (pa_cons (pv 4) (pa_cons (pv 5) pa_nil))) pa_nil)))) pss_nil)))))
    (pss_one (ps_ret (pv 3)))))),
    (s_seq (s_setF (v_call (a_cons (v_op d_add (v_lst (a_cons (v_tup (a_cons v_int (a_cons v_int a_nil))) (a_cons (v_tup (a_cons v_int (a_cons v_int a_nil))) a_nil))) (v_lc (vs := [7]) (js := [7]) (i_range1 (a_cons (v_call (a_cons v_var (a_cons v_int a_nil))) a_nil)) g_name (by decide) t_yes (v_call (a_cons v_var a_nil)))) a_nil)))
    (s_seq (s_setF (v_put (v_lc (vs := [7]) (js := [7]) (i_range1 (a_cons v_var a_nil)) g_name (by decide) t_yes (v_put (v_lst a_nil)))))
    (s_seq (s_for (i_zip (a_cons v_var (a_cons (v_sl d_sl v_var (o_some v_int) o_none) a_nil))) (g_tl (gs_cons g_name (gs_cons g_name gs_nil))) (s_seq (s_set (v_op d_ix v_var (v_call (a_cons v_var (a_cons v_var a_nil)))))
    (s_seq (s_mt m_insert (a_cons (v_call (a_cons v_var (a_cons (v_op d_add (v_cb c_len (a_cons v_var a_nil)) v_int) a_nil))) (a_cons (v_tup (a_cons v_var (a_cons v_var a_nil))) a_nil)))
    (s_if (t_test (v_op d_eq (v_call (a_cons v_var (a_cons v_int a_nil))) v_int)) (s_mt m_append (a_cons (v_tup (a_cons v_var (a_cons v_var a_nil))) a_nil)) s_skip))))
    s_retV)))⟩
theorem ok_law_spoilt (T : Txt K mg base A) : FnOk P w K mg base (L2.CX P w) 4 A.f_law_spoilt A.d_law_spoilt p_law_spoilt (spF (GG K A) F_law_spoilt) :=
  fn_ok (k := 3) rfl rfl T.F_law_spoilt sc_law_spoilt fun cdv Ar outer s H E hr => ⟨_,
    (pss_cons (ps_set (i := 3) sc_law_spoilt.nd rfl (by first | exact Or.inl rfl | exact Or.inr rfl) (pe_callS (ok_law_take T) (hr.mono (by decide)) rfl T.g_law_take T.F_law_take.kp T.b_law_take (fun σ => passAt (takes_of rfl rfl rfl rfl) σ) (by exact (pa_cons (pv 0) (pa_cons (pe_callB call_len (by rfl) T.z_len (by decide +kernel) (pa_cons (pv 2) pa_nil)) pa_nil)))))
    (pss_cons (ps_set (i := 4) sc_law_spoilt.nd rfl (by first | exact Or.inl rfl | exact Or.inr rfl) (pe_callS (ok_law_take T) (hr.mono (by decide)) rfl T.g_law_take T.F_law_take.kp T.b_law_take (fun σ => passAt (takes_of rfl rfl rfl rfl) σ) (by exact (pa_cons (pv 0) (pa_cons (pe_callB call_len (by rfl) T.z_len (by decide +kernel) (pa_cons (pv 2) pa_nil)) pa_nil)))))
    (pss_cons (ps_set (i := 5) sc_law_spoilt.nd rfl (by first | exact Or.inl rfl | exact Or.inr rfl) (pe_callS (ok_law_take T) (hr.mono (by decide)) rfl T.g_law_take T.F_law_take.kp T.b_law_take (fun σ => passAt (takes_of rfl rfl rfl rfl) σ) (by exact (pa_cons (pv 0) (pa_cons (pe_callB (call_max2 rfl) (by rfl) T.z_max (by decide +kernel) (pa_cons pe_int (pa_cons (pe_callB call_len (by rfl) T.z_len (by decide +kernel) (pa_cons (pe_ix ix_seq (pv 2) (pv 3) (fun _ _ => rfl)) pa_nil)) pa_nil))) pa_nil)))))
    (pss_cons (ps_set (i := 6) sc_law_spoilt.nd rfl (by first | exact Or.inl rfl | exact Or.inr rfl) (pe_callS (ok_law_any_place T) hr rfl T.g_law_any_place T.F_law_any_place.kp T.b_law_any_place (fun σ => passAt (takes_of rfl rfl rfl rfl) σ) (by exact (pa_cons (pv 0) pa_nil))))
    (pss_cons (ps_if (PW.pt (pw_and (pt_cmpR (or_eq hr.units) (pv 1) pe_int (nomark _)) (pw_and1 (pt_cmpR op_gt (pe_callB call_len (by rfl) T.z_len (by decide +kernel) (pa_cons (pe_ix ix_seq (pv 2) (pv 3) (fun _ _ => rfl)) pa_nil)) pe_int (nomark _))))) (pss_one (ps_expr (pe_bm PySem.F.plainAttrs_list PySem.F.slot_list_pop PySem.F.type_list_pop mt_popAt (pe_ix ix_seq (pv 2) (pv 3) (fun _ _ => rfl)) (pa_cons (pv 5) pa_nil)))) pss_nil)
    (pss_cons (ps_if (PW.pt (pw_and (pt_cmpR (or_eq hr.units) (pv 1) pe_int (nomark _)) (pw_and1 (pt_cmpR op_gt (pe_callB call_len (by rfl) T.z_len (by decide +kernel) (pa_cons (pe_ix ix_seq (pv 2) (pv 3) (fun _ _ => rfl)) pa_nil)) pe_int (nomark _))))) (pss_one (ps_expr (pe_bm PySem.F.plainAttrs_list PySem.F.slot_list_append PySem.F.type_list_append mt_append (pe_ix ix_seq (pv 2) (pv 4) (fun _ _ => rfl)) (pa_cons (pe_ix ix_seq (pe_ix ix_seq (pv 2) (pv 3) (fun _ _ => rfl)) (pv 5) (fun _ _ => rfl)) pa_nil)))) pss_nil)
    (pss_cons (ps_if (PW.pt (pw_and (pt_cmpR (or_eq hr.units) (pv 1) pe_int (nomark _)) (pw_and1 (pt_cmpR op_gt (pe_callB call_len (by rfl) T.z_len (by decide +kernel) (pa_cons (pe_ix ix_seq (pv 2) (pv 3) (fun _ _ => rfl)) pa_nil)) pe_int (nomark _))))) (pss_cons (ps_set (i := 7) sc_law_spoilt.nd rfl (by first | exact Or.inl rfl | exact Or.inr rfl) (pe_ix ix_seq (pe_ix ix_seq (pe_ix ix_seq (pv 2) (pv 3) (fun _ _ => rfl)) (pv 5) (fun _ _ => rfl)) pe_int (fun _ _ => rfl)))
    (pss_one (ps_asg (pe_tup (pa_cons (pe_minK rfl (keyF (G := GG K A) (ok_law_by T) (hr.mono (by decide)) T.b_law_by rfl) (by rfl) T.z_min (by decide +kernel) rfl T.g_law_by (pa_cons (pv 7) (pa_cons (pv 6) pa_nil))) (pa_cons (pe_maxK rfl (keyF (G := GG K A) (ok_law_by T) (hr.mono (by decide)) T.b_law_by rfl) (by rfl) T.z_max (by decide +kernel) rfl T.g_law_by (pa_cons (pv 7) (pa_cons (pv 6) pa_nil))) pa_nil))) (pg_sub (pe_ix ix_seq (pv 2) (pv 3) (fun _ _ => rfl)) (pv 5) set_list)))) pss_nil)
    (pss_cons (ps_if (pt_cmpR (or_eq hr.units) (pv 1) pe_int (nomark _)) (pss_one (ps_expr (pe_bm PySem.F.plainAttrs_list PySem.F.slot_list_append PySem.F.type_list_append mt_append (pv 2) (pa_cons (pe_callTy call_list_of (by rfl) T.z_list (by decide +kernel) (pa_cons (pe_ix ix_seq (pv 2) (pv 3) (fun _ _ => rfl)) pa_nil)) pa_nil)))) pss_nil)
    (pss_cons (ps_if (pt_cmpR (or_eq hr.units) (pv 1) pe_int (nomark _)) (pss_one (ps_expr (pe_bm PySem.F.plainAttrs_list PySem.F.slot_list_append PySem.F.type_list_append mt_append (pv 2) (pa_cons (pe_lst (pa_cons (pe_tup (pa_cons (pv 6) (pa_cons (pv 6) pa_nil))) pa_nil)) pa_nil)))) pss_nil)
    (pss_one (ps_ret (pv 2)))))))))))),
    (s_seq (s_setF (v_call (a_cons v_var (a_cons (v_cb c_len (a_cons v_var a_nil)) a_nil))))
    (s_seq (s_setF (v_call (a_cons v_var (a_cons (v_cb c_len (a_cons v_var a_nil)) a_nil))))
    (s_seq (s_setF (v_call (a_cons v_var (a_cons (v_cb c_max2 (a_cons v_int (a_cons (v_cb c_len (a_cons (v_op d_ix v_var v_var) a_nil)) a_nil))) a_nil))))
    (s_seq (s_setF (v_call (a_cons v_var a_nil)))
    (s_seq (s_if (t_and (t_test (v_op d_eq v_var v_int)) (t_test (v_op d_gt (v_cb c_len (a_cons (v_op d_ix v_var v_var) a_nil)) v_int))) (s_drop (v_mtX m_popAt (v_op d_ix v_var v_var) (a_cons v_var a_nil))) s_skip)
    (s_seq (s_if (t_and (t_test (v_op d_eq v_var v_int)) (t_test (v_op d_gt (v_cb c_len (a_cons (v_op d_ix v_var v_var) a_nil)) v_int))) (s_drop (v_mtX m_append (v_op d_ix v_var v_var) (a_cons (v_op d_ix (v_op d_ix v_var v_var) v_var) a_nil))) s_skip)
    (s_seq (s_if (t_and (t_test (v_op d_eq v_var v_int)) (t_test (v_op d_gt (v_cb c_len (a_cons (v_op d_ix v_var v_var) a_nil)) v_int))) (s_seq (s_setF (v_op d_ix (v_op d_ix (v_op d_ix v_var v_var) v_var) v_int))
    (s_setP (v_op d_ix v_var v_var) (v_tup (a_cons (v_minK (a_cons v_var (a_cons v_var a_nil))) (a_cons (v_minK (a_cons v_var (a_cons v_var a_nil))) a_nil))) v_var)) s_skip)
    (s_seq (s_if (t_test (v_op d_eq v_var v_int)) (s_mt m_append (a_cons (v_put (v_cb c_list (a_cons (v_op d_ix v_var v_var) a_nil))) a_nil)) s_skip)
    (s_seq (s_if (t_test (v_op d_eq v_var v_int)) (s_mt m_append (a_cons (v_put (v_lst (a_cons (v_tup (a_cons v_var (a_cons v_var a_nil))) a_nil))) a_nil)) s_skip)
    s_retV)))))))))⟩
theorem ok_Share___init__ (T : Txt K mg base A) : FnOk P w K mg base (L2.CX P w) 5 A.f_Share___init__ A.d_Share___init__ p_Share___init__ (spF (GG K A) F_Share___init__) :=
  fn_okC (k := 4) rfl rfl T.F_Share___init__ sc_Share___init__ fun Ar outer s H E hr => ⟨_,
    (pss_cons (ps_for (passes_of rfl) rfl (pi_any (pv 1)) (pg_tl rfl (pgs_cons (pg_name (i := 2) sc_Share___init__.nd rfl (by first | exact Or.inl rfl | exact Or.inr rfl)) (pgs_cons (pg_name (i := 3) sc_Share___init__.nd rfl (by first | exact Or.inl rfl | exact Or.inr rfl)) pgs_nil))) (pss_one (ps_expr (pe_callS (ok_ask_span T) (hr.mono (by decide)) rfl T.g_ask_span T.F_ask_span.kp T.b_ask_span (fun σ => passAt (takes_of rfl rfl rfl rfl) σ) (by exact (pa_cons (pv 2) (pa_cons (pv 3) pa_nil)))))))
    (pss_one (ps_fld (pv 0) (lamcallF (k := 2) (Ng := n_spans_where) (a := "here") (b := "there") (TT := TTd (GG K A) ("Share.__init__" ++ ".<locals>." ++ "<lambda>") 5 (g_spans_where (fun ds x y st => lb_Share___init___2 ⟨cloE ds 2 3 x y, st⟩))) rfl T.g_spans_where T.F_spans_where T.b_spans_where sc_spans_where (pe_callS (ok_rising_places T) (hr.mono (by decide)) rfl T.g_rising_places T.F_rising_places.kp T.b_rising_places (fun σ => passAt (takes_of rfl rfl rfl rfl) σ) (by exact (pa_cons (pv 1) pa_nil))) T.tb_Share___init__ rfl hr (LamP.lamN_by (sc := defScope s_Share___init__) (by decide +kernel)) rfl (fun cdg pins s' σ H1 f c' pm ctv v1 Q I hf hfn hfr hr tt => ⟨_, (pss_cons (ps_set (i := 2) sc_spans_where.nd rfl (by first | exact Or.inl rfl | exact Or.inr rfl) (pe_lst pa_nil))
    (pss_cons (ps_for (passes_of rfl) rfl (pi_zip (by rfl) T.z_zip (pa_cons (pv 0) (pa_cons (pe_slice sl_any (pv 0) (po_some pe_int) po_none) pa_nil))) (pg_tl rfl (pgs_cons (pg_name (i := 3) sc_spans_where.nd rfl (by first | exact Or.inl rfl | exact Or.inr rfl)) (pgs_cons (pg_name (i := 4) sc_spans_where.nd rfl (by first | exact Or.inl rfl | exact Or.inr rfl)) pgs_nil))) (pss_one (ps_if (pt_val (LamP.act3 (a := "here") (b := "there") (ja := 2) (jb := 3) (k := 2) (i := 1) (CXg := L2.CX P w) (Eg := fun _ _ _ => False) (pn := []) (E := fun _ _ _ => False) I (LamP.lamN_by (sc := defScope s_Share___init__) (by decide +kernel)) sc_Share___init__.nd rfl rfl hf hfn hfr (fun _ _ => rfl) takes0 (fun _ _ _ _ z => z) hr (fun A' o' s2 H2 hr => (pe_callS (ok_covers T) hr rfl T.g_covers T.F_covers.kp T.b_covers (fun σ => passAt takes0 σ) (by exact (pa_cons (pv 1) (pa_cons (pv 2) (pa_cons (pv 3) pa_nil)))))) (pa_cons (pv 3) (pa_cons (pv 4) pa_nil)) rfl (by first | exact Or.inl rfl | exact Or.inr (Or.inl rfl)))) (pss_one (ps_if (PW.pt (pw_and (pt_cmpR op_gt (pe_callB call_len (by rfl) T.z_len (by decide +kernel) (pa_cons (pv 2) pa_nil)) pe_int (nomark _)) (pw_and1 (pt_cmpR (or_eq hr.units) (pe_ix ix_seq (pe_ix ix_seq (pv 2) (pe_un un_neg pe_int) (fun _ _ => rfl)) pe_int (fun _ _ => rfl)) (pv 3) (nomark _))))) (pss_one (ps_asg (pe_tup (pa_cons (pe_ix ix_seq (pe_ix ix_seq (pv 2) (pe_un un_neg pe_int) (fun _ _ => rfl)) pe_int (fun _ _ => rfl)) (pa_cons (pv 4) pa_nil))) (pg_sub (pv 2) (pe_un un_neg pe_int) set_list))) (pss_one (ps_expr (pe_bm PySem.F.plainAttrs_list PySem.F.slot_list_append PySem.F.type_list_append mt_append (pv 2) (pa_cons (pe_tup (pa_cons (pv 3) (pa_cons (pv 4) pa_nil))) pa_nil)))))) pss_nil)))
    (pss_one (ps_ret (pv 2))))), lam_body (by decide) (s_seq (s_set (v_lst a_nil))
    (s_seq (s_for (i_zip (a_cons v_var (a_cons (v_sl d_sl v_var (o_some v_int) o_none) a_nil))) (g_tl (gs_cons g_name (gs_cons g_name gs_nil))) (s_if (t_val (v_held (ja := 2) (jb := 3) (a_cons v_var (a_cons v_var a_nil)) (v_call (a_cons v_var (a_cons v_var (a_cons v_var a_nil)))))) (s_if (t_and (t_test (v_op d_gt (v_cb c_len (a_cons v_var a_nil)) v_int)) (t_test (v_op d_eq (v_op d_ix (v_op d_ix v_var (v_un d_neg v_int)) v_int) v_var))) (s_setI (v_tup (a_cons (v_op d_ix (v_op d_ix v_var (v_un d_neg v_int)) v_int) (a_cons v_var a_nil))) (v_un d_neg v_int)) (s_mt m_append (a_cons (v_tup (a_cons v_var (a_cons v_var a_nil))) a_nil))) s_skip))
    s_retV)) rfl rfl tt⟩)) (by first | rfl | exact sw_any rfl)))),
    (s_seq (s_for (i_any v_var) (g_tl (gs_cons g_name (gs_cons g_name gs_nil))) (s_drop (v_call (a_cons v_var (a_cons v_var a_nil)))))
    (s_fldS T.fo_parts v_var (v_lamC (np := np_Share___init__) rfl (v_call (a_cons v_var a_nil)))))⟩
theorem ok_Share_plus (T : Txt K mg base A) : FnOk P w K mg base (L2.CX P w) 7 A.f_Share_plus A.d_Share_plus p_Share_plus (spF (GG K A) F_Share_plus) :=
  fn_ok (k := 6) rfl rfl T.F_Share_plus sc_Share_plus fun cdv Ar outer s H E hr => ⟨_,
    (pss_one (ps_ret (by exact (pe_kN T.mk_Share (ok_Share___init__ T) hr rfl T.g_Share T.B_Share___init___2_ (fun σ => passAt (takes_of rfl rfl rfl rfl) σ) (by exact (pa_cons (pe_op or_add (pe_fld (pv 0) rfl) (by exact (pe_m0 (pv 1) T.cl_Share T.mt_Share_spans (ok_Share_spans T) (hr.mono (by decide)) T.B_Share_spans_1_ (fun σ => passAt (takes_of rfl rfl rfl rfl) σ)))) pa_nil)))))),
    (s_ret (v_make (c := 3) (dd := []) rfl (a_cons (v_op d_add (v_fld T.fo_parts v_var) (v_meth (c := 3) (m := "spans") (dd := []) nf_Share_spans rfl v_var a_nil a_nil)) a_nil) a_nil))⟩
theorem ok_is_shared (T : Txt K mg base A) : FnOk P w K mg base (L2.CX P w) 8 A.f_is_shared A.d_is_shared p_is_shared (spF (GG K A) F_is_shared) :=
  fn_ok (k := 7) rfl rfl T.F_is_shared sc_is_shared fun cdv Ar outer s H E hr => ⟨_,
    (pss_cons (ps_set (i := 1) sc_is_shared.nd rfl (by first | exact Or.inl rfl | exact Or.inr rfl) (pe_glob (v := .ref A.a_NOUGHT) rfl T.m_NOUGHT rfl))
    (pss_cons (ps_set (i := 2) sc_is_shared.nd rfl (by first | exact Or.inl rfl | exact Or.inr rfl) (by exact (pe_kN T.mk_Share (ok_Share___init__ T) (hr.mono (by decide)) rfl T.g_Share T.B_Share___init___2_ (fun σ => passAt (takes_of rfl rfl rfl rfl) σ) (by exact (pa_cons (pe_lst pa_nil) pa_nil)))))
    (pss_cons (ps_for (passes_of rfl) rfl (pi_any (pv 0)) (pg_name (i := 3) sc_is_shared.nd rfl (by first | exact Or.inl rfl | exact Or.inr rfl)) (pss_cons (ps_set (i := 1) sc_is_shared.nd rfl (by first | exact Or.inl rfl | exact Or.inr rfl) (pe_callS (ok_plus T) (hr.mono (by decide)) rfl T.g_plus_fractions T.F_plus.kp T.b_plus (fun σ => passAt (takes_of rfl rfl rfl rfl) σ) (by exact (pa_cons (pv 1) (pa_cons (by exact (pe_m0 (pv 3) T.cl_Share T.mt_Share_length (ok_Share_length T) (hr.mono (by decide)) T.B_Share_length_1_ (fun σ => passAt (takes_of rfl rfl rfl rfl) σ))) pa_nil)))))
    (pss_one (ps_set (i := 2) sc_is_shared.nd rfl (by first | exact Or.inl rfl | exact Or.inr rfl) (by exact (pe_mN (pv 2) T.cl_Share T.mt_Share_plus (ok_Share_plus T) hr T.B_Share_plus_2_ (fun σ => passAt (takes_of rfl rfl rfl rfl) σ) (by exact (pa_cons (pv 3) pa_nil))))))))
    (pss_one (ps_ret (pe_and (pe_cmpR (or_eq hr.units) (pv 1) (pe_glob (v := .ref A.a_ONE) rfl T.m_ONE rfl) (nomark _)) (pe_one (pe_cmpR (or_eq hr.units) (by exact (pe_m0 (pv 2) T.cl_Share T.mt_Share_length (ok_Share_length T) (hr.mono (by decide)) T.B_Share_length_1_ (fun σ => passAt (takes_of rfl rfl rfl rfl) σ))) (pe_glob (v := .ref A.a_ONE) rfl T.m_ONE rfl) (nomark _))))))))),
    (s_seq (s_setF (v_const T.i_NOUGHT))
    (s_seq (s_setF (v_make (c := 3) (dd := []) rfl (a_cons (v_lst a_nil) a_nil) a_nil))
    (s_seq (s_for (i_any v_var) g_name (s_seq (s_setF (v_call (a_cons v_var (a_cons (v_meth (c := 3) (m := "length") (dd := []) nf_Share_length rfl v_var a_nil a_nil) a_nil))))
    (s_setF (v_meth (c := 3) (m := "plus") (dd := []) nf_Share_plus rfl v_var (a_cons v_var a_nil) a_nil))))
    (s_ret (v_and (v_op d_eq v_var (v_const T.i_ONE)) (v_op d_eq (v_meth (c := 3) (m := "length") (dd := []) nf_Share_length rfl v_var a_nil a_nil) (v_const T.i_ONE)))))))⟩
theorem ok_law (T : Txt K mg base A) : FnOk P w K mg base (L2.CX P w) 9 A.f_law A.d_law p_law (spF (GG K A) F_law) :=
  fn_ok (k := 8) rfl rfl T.F_law sc_law fun cdv Ar outer s H E hr => ⟨_,
    (pss_cons (ps_set (i := 1) sc_law.nd rfl (by first | exact Or.inl rfl | exact Or.inr rfl) (pe_lst (pa_cons (pe_callTy call_list_of (by rfl) T.z_list (by decide +kernel) (pa_cons (pv 0) pa_nil)) (pa_cons pe_int (pa_cons pe_int (pa_cons pe_int pa_nil))))))
    (pss_cons (ps_set (i := 2) sc_law.nd rfl (by first | exact Or.inl rfl | exact Or.inr rfl) (pe_callS (ok_law_take T) (hr.mono (by decide)) rfl T.g_law_take T.F_law_take.kp T.b_law_take (fun σ => passAt (takes_of rfl rfl rfl rfl) σ) (by exact (pa_cons (pv 1) (pa_cons pe_int pa_nil)))))
    (pss_cons (ps_set (i := 3) sc_law.nd rfl (by first | exact Or.inl rfl | exact Or.inr rfl) (pe_callS (ok_law_take T) (hr.mono (by decide)) rfl T.g_law_take T.F_law_take.kp T.b_law_take (fun σ => passAt (takes_of rfl rfl rfl rfl) σ) (by exact (pa_cons (pv 1) (pa_cons pe_int pa_nil)))))
    (pss_cons (ps_if (pt_cmpR (or_eq hr.units) (pe_callS (ok_law_take T) (hr.mono (by decide)) rfl T.g_law_take T.F_law_take.kp T.b_law_take (fun σ => passAt (takes_of rfl rfl rfl rfl) σ) (by exact (pa_cons (pv 1) (pa_cons pe_int pa_nil)))) pe_int (nomark _)) (pss_one (ps_set (i := 3) sc_law.nd rfl (by first | exact Or.inl rfl | exact Or.inr rfl) (pe_op or_add pe_int (pe_callS (ok_law_take T) (hr.mono (by decide)) rfl T.g_law_take T.F_law_take.kp T.b_law_take (fun σ => passAt (takes_of rfl rfl rfl rfl) σ) (by exact (pa_cons (pv 1) (pa_cons (pe_ix ix_seq (pe_lst (pa_cons pe_int (pa_cons pe_int (pa_cons pe_int (pa_cons pe_int pa_nil))))) (pe_callS (ok_law_take T) (hr.mono (by decide)) rfl T.g_law_take T.F_law_take.kp T.b_law_take (fun σ => passAt (takes_of rfl rfl rfl rfl) σ) (by exact (pa_cons (pv 1) (pa_cons pe_int pa_nil)))) (fun _ _ => rfl)) pa_nil))))))) pss_nil)
    (pss_cons (ps_set (i := 4) sc_law.nd rfl (by first | exact Or.inl rfl | exact Or.inr rfl) (pe_lst pa_nil))
    (pss_cons (ps_if (PW.pt (pw_and (pt_cmpR op_gt (pv 3) pe_int (nomark _)) (pw_and1 (pt_cmpR (or_eq hr.units) (pv 2) pe_int (nomark _))))) (pss_one (ps_set (i := 4) sc_law.nd rfl (by first | exact Or.inl rfl | exact Or.inr rfl) (pe_callS (ok_law_swapped T) (hr.mono (by decide)) rfl T.g_law_swapped T.F_law_swapped.kp T.b_law_swapped (fun σ => passAt (takes_of rfl rfl rfl rfl) σ) (by exact (pa_cons (pv 1) (pa_cons (pv 3) pa_nil)))))) (pss_one (ps_if (pt_cmpR op_gt (pv 3) pe_int (nomark _)) (pss_one (ps_set (i := 4) sc_law.nd rfl (by first | exact Or.inl rfl | exact Or.inr rfl) (pe_callS (ok_law_spoilt T) (hr.mono (by decide)) rfl T.g_law_spoilt T.F_law_spoilt.kp T.b_law_spoilt (fun σ => passAt (takes_of rfl rfl rfl rfl) σ) (by exact (pa_cons (pv 1) (pa_cons (pv 2) (pa_cons (pe_callS (ok_law_dealt T) (hr.mono (by decide)) rfl T.g_law_dealt T.F_law_dealt.kp T.b_law_dealt (fun σ => passAt (takes_of rfl rfl rfl rfl) σ) (by exact (pa_cons (pv 1) (pa_cons (pv 3) pa_nil)))) pa_nil))))))) pss_nil)))
    (pss_cons (ps_setLc (i := 5) (own := [("_law_row", 12)]) rfl sc_law.nd rfl rfl (sw_true rfl rfl rfl (by decide +kernel)) (pi_any (pv 4)) (blkOk_by (N := n_law) (sc := defScope (s_law)) (by decide +kernel)) (fun _ _ _ _ _ => (pg_name (i := 12) sc_law.nd rfl (by first | exact Or.inl rfl | exact Or.inr rfl))) (fun _ _ _ _ _ => pts_nil) (fun _ _ _ _ _ => (by exact (pe_kN T.mk_Share (ok_Share___init__ T) (hr.mono (by decide)) rfl T.g_Share T.B_Share___init___2_ (fun σ => passAt takes0 σ) (by exact (pa_cons (pe_callTy call_list_of (by rfl) T.z_list (by decide +kernel) (pa_cons (pv 12) pa_nil)) pa_nil))))))
    (pss_cons (ps_setLc (i := 6) (own := [("_law_share", 13)]) rfl sc_law.nd rfl rfl (sw_true rfl rfl rfl (by decide +kernel)) (pi_any (pv 5)) (blkOk_by (N := n_law) (sc := defScope (s_law)) (by decide +kernel)) (fun _ _ _ _ _ => (pg_name (i := 13) sc_law.nd rfl (by first | exact Or.inl rfl | exact Or.inr rfl))) (fun _ _ _ _ _ => pts_nil) (fun _ _ _ _ _ => (by exact (pe_m0 (pv 13) T.cl_Share T.mt_Share_spans (ok_Share_spans T) (hr.mono (by decide)) T.B_Share_spans_1_ (fun σ => passAt takes0 σ)))))
    (pss_cons (ps_set (i := 7) sc_law.nd rfl (by first | exact Or.inl rfl | exact Or.inr rfl) (pe_callS (ok_law_due T) (hr.mono (by decide)) rfl T.g_law_due T.F_law_due.kp T.b_law_due (fun σ => passAt (takes_of rfl rfl rfl rfl) σ) (by exact (pa_cons (pv 4) pa_nil))))
    (pss_cons (ps_set (i := 8) sc_law.nd rfl (by first | exact Or.inl rfl | exact Or.inr rfl) (pe_callS (ok_law_take T) (hr.mono (by decide)) rfl T.g_law_take T.F_law_take.kp T.b_law_take (fun σ => passAt (takes_of rfl rfl rfl rfl) σ) (by exact (pa_cons (pv 1) (pa_cons (pe_callB (call_max2 rfl) (by rfl) T.z_max (by decide +kernel) (pa_cons pe_int (pa_cons (pe_callB call_len (by rfl) T.z_len (by decide +kernel) (pa_cons (pv 4) pa_nil)) pa_nil))) pa_nil)))))
    (pss_cons (ps_for (passes_of rfl) rfl (pi_any (pe_lst (pa_cons (pv 5) (pa_cons (pe_op or_add (pe_slice sl_any (pv 5) (po_some (pv 8)) po_none) (pe_slice sl_any (pv 5) po_none (po_some (pv 8)))) pa_nil)))) (pg_name (i := 9) sc_law.nd rfl (by first | exact Or.inl rfl | exact Or.inr rfl)) (pss_cons (ps_set (i := 10) sc_law.nd rfl (by first | exact Or.inl rfl | exact Or.inr rfl) (pe_callB call_len (by rfl) T.z_len (by decide +kernel) (pa_cons (pv 9) pa_nil)))
    (pss_cons (ps_set (i := 11) sc_law.nd rfl (by first | exact Or.inl rfl | exact Or.inr rfl) (pe_callS (ok_is_shared T) hr rfl T.g_is_shared T.F_is_shared.kp T.b_is_shared (fun σ => passAt (takes_of rfl rfl rfl rfl) σ) (by exact (pa_cons (pv 9) pa_nil))))
    (pss_one (ps_if (PW.pt (pw_or (pt_not (pt_val (pe_callB call_isi (by rfl) T.z_isinstance (by decide +kernel) (pa_cons (pv 11) (pa_cons (pe_bltn (v := .ty "bool") (by rfl) T.z_bool (by decide +kernel) rfl) pa_nil))))) (pw_or (pt_cmpR (or_ne hr.units) (pv 11) (pv 7) (nomark _)) (pw_or1 (pt_cmpR (or_ne hr.units) (pe_callB call_len (by rfl) T.z_len (by decide +kernel) (pa_cons (pv 9) pa_nil)) (pv 10) (nomark _)))))) (pss_one (ps_ret pe_bl)) pss_nil)))))
    (pss_one (ps_ret (pe_cmpR (or_eq hr.units) (pe_lc (own := [("_law_share", 13)]) rfl sc_law.nd (pi_any (pv 5)) (blkOk_by (N := n_law) (sc := defScope (s_law)) (by decide +kernel)) (fun _ _ _ _ _ => (pg_name (i := 13) sc_law.nd rfl (by first | exact Or.inl rfl | exact Or.inr rfl))) (fun _ _ _ _ _ => pts_nil) (fun _ _ _ _ _ => (by exact (pe_m0 (pv 13) T.cl_Share T.mt_Share_spans (ok_Share_spans T) (hr.mono (by decide)) T.B_Share_spans_1_ (fun σ => passAt takes0 σ))))) (pv 6) (nomark _))))))))))))))),
    (s_seq (s_setF (v_put (v_lst (a_cons (v_cb c_list (a_cons v_var a_nil)) (a_cons v_int (a_cons v_int (a_cons v_int a_nil)))))))
    (s_seq (s_setF (v_call (a_cons v_var (a_cons v_int a_nil))))
    (s_seq (s_setF (v_call (a_cons v_var (a_cons v_int a_nil))))
    (s_seq (s_if (t_test (v_op d_eq (v_call (a_cons v_var (a_cons v_int a_nil))) v_int)) (s_setF (v_op d_add v_int (v_call (a_cons v_var (a_cons (v_op d_ix (v_lst (a_cons v_int (a_cons v_int (a_cons v_int (a_cons v_int a_nil))))) (v_call (a_cons v_var (a_cons v_int a_nil)))) a_nil))))) s_skip)
    (s_seq (s_setF (v_put (v_lst a_nil)))
    (s_seq (s_if (t_and (t_test (v_op d_gt v_var v_int)) (t_test (v_op d_eq v_var v_int))) (s_setF (v_call (a_cons v_var (a_cons v_var a_nil)))) (s_if (t_test (v_op d_gt v_var v_int)) (s_setF (v_call (a_cons v_var (a_cons v_var (a_cons (v_call (a_cons v_var (a_cons v_var a_nil))) a_nil))))) s_skip))
    (s_seq (s_setF (v_lcX (vs := [12]) v_var g_name (by decide) t_yes (v_make (c := 3) (dd := []) rfl (a_cons (v_cb c_list (a_cons v_var a_nil)) a_nil) a_nil)))
    (s_seq (s_setF (v_lc (vs := [13]) (js := [13]) (i_any v_var) g_name (by decide) t_yes (v_meth (c := 3) (m := "spans") (dd := []) nf_Share_spans rfl v_var a_nil a_nil)))
    (s_seq (s_setF (v_call (a_cons v_var a_nil)))
    (s_seq (s_setF (v_call (a_cons v_var (a_cons (v_cb c_max2 (a_cons v_int (a_cons (v_cb c_len (a_cons v_var a_nil)) a_nil))) a_nil))))
    (s_seq (s_for (i_any (v_lst (a_cons v_var (a_cons (v_op d_add (v_sl d_sl v_var (o_some v_var) o_none) (v_sl d_sl v_var o_none (o_some v_var))) a_nil)))) g_name (s_seq (s_setF (v_cb c_len (a_cons v_var a_nil)))
    (s_seq (s_setF (v_call (a_cons v_var a_nil)))
    (s_if (t_or (t_not (t_val (v_isi v_var))) (t_or (t_test (v_op d_ne v_var v_var)) (t_test (v_op d_ne (v_cb c_len (a_cons v_var a_nil)) v_var)))) (s_ret v_bl) s_skip))))
    (s_ret (v_op d_eq (v_lc (vs := [13]) (js := [13]) (i_any v_var) g_name (by decide) t_yes (v_meth (c := 3) (m := "spans") (dd := []) nf_Share_spans rfl v_var a_nil a_nil)) v_var)))))))))))))⟩
end
end Dn
namespace Dn
open PySem PySem.Spec PyProof.Rows L2
theorem all_mk {l : PySem.W.OpenLaw} {w : World} {K : PySem.W.Frag} {h : Heap} {mg : Str → Option Value} {fa : Addr} (X : K.In h) (G : h.Ns mainGlobals mg) (hfa : mg "law" = some (.ref fa))
    {c_NoFraction : Addr}
    {c_NoSpan : Addr}
    {c_Share : Addr}
    {f0 : Addr} {od0 an0 : Option Addr} {sl0 : Array (Option Value)} {oc0 kV0 dc0 pm0 ct0 : Value}
    {cd0 : Value}
    {f1 : Addr} {od1 an1 : Option Addr} {sl1 : Array (Option Value)} {oc1 kV1 dc1 pm1 ct1 : Value}
    {cd1 : Value}
    {f2 : Addr} {od2 an2 : Option Addr} {sl2 : Array (Option Value)} {oc2 kV2 dc2 pm2 ct2 : Value}
    {cd2 : Value}
    {f3 : Addr} {od3 an3 : Option Addr} {sl3 : Array (Option Value)} {oc3 kV3 dc3 pm3 ct3 : Value}
    {cd3 : Value}
    {f4 : Addr} {od4 an4 : Option Addr} {sl4 : Array (Option Value)} {oc4 kV4 dc4 pm4 ct4 : Value}
    {cd4 : Value}
    {f5 : Addr} {od5 an5 : Option Addr} {sl5 : Array (Option Value)} {oc5 kV5 dc5 pm5 ct5 : Value}
    {cd5 : Value}
    {f6 : Addr} {od6 an6 : Option Addr} {sl6 : Array (Option Value)} {oc6 kV6 dc6 pm6 ct6 : Value}
    {cd6 : Value}
    {f7 : Addr} {od7 an7 : Option Addr} {sl7 : Array (Option Value)} {oc7 kV7 dc7 pm7 ct7 : Value}
    {cd7 : Value}
    {f8 : Addr} {od8 an8 : Option Addr} {sl8 : Array (Option Value)} {oc8 kV8 dc8 pm8 ct8 : Value}
    {cd8 : Value}
    {T8 : Addr} {q8 : Value} {qd8 : Option Addr} {qn8 : Nat} {qs8 : Array (Option Value)}
    {tt8_0 : Tok}
    {f9 : Addr} {od9 an9 : Option Addr} {sl9 : Array (Option Value)} {oc9 kV9 dc9 pm9 ct9 : Value}
    {cd9 : Value}
    {f10 : Addr} {od10 an10 : Option Addr} {sl10 : Array (Option Value)} {oc10 kV10 dc10 pm10 ct10 : Value}
    {cd10 : Value}
    {f11 : Addr} {od11 an11 : Option Addr} {sl11 : Array (Option Value)} {oc11 kV11 dc11 pm11 ct11 : Value}
    {cd11 : Value}
    {f12 : Addr} {od12 an12 : Option Addr} {sl12 : Array (Option Value)} {oc12 kV12 dc12 pm12 ct12 : Value}
    {cd12 : Value}
    {f13 : Addr} {od13 an13 : Option Addr} {sl13 : Array (Option Value)} {oc13 kV13 dc13 pm13 ct13 : Value}
    {cd13 : Value}
    {f14 : Addr} {od14 an14 : Option Addr} {sl14 : Array (Option Value)} {oc14 kV14 dc14 pm14 ct14 : Value}
    {cd14 : Value}
    {f15 : Addr} {od15 an15 : Option Addr} {sl15 : Array (Option Value)} {oc15 kV15 dc15 pm15 ct15 : Value}
    {cd15 : Value}
    {f16 : Addr} {od16 an16 : Option Addr} {sl16 : Array (Option Value)} {oc16 kV16 dc16 pm16 ct16 : Value}
    {cd16 : Value}
    {f17 : Addr} {od17 an17 : Option Addr} {sl17 : Array (Option Value)} {oc17 kV17 dc17 pm17 ct17 : Value}
    {cd17 : Value}
    {f18 : Addr} {od18 an18 : Option Addr} {sl18 : Array (Option Value)} {oc18 kV18 dc18 pm18 ct18 : Value}
    {cd18 : Value}
    {f19 : Addr} {od19 an19 : Option Addr} {sl19 : Array (Option Value)} {oc19 kV19 dc19 pm19 ct19 : Value}
    {cd19 : Value}
    {f20 : Addr} {od20 an20 : Option Addr} {sl20 : Array (Option Value)} {oc20 kV20 dc20 pm20 ct20 : Value}
    {cd20 : Value}
    {f21 : Addr} {od21 an21 : Option Addr} {sl21 : Array (Option Value)} {oc21 kV21 dc21 pm21 ct21 : Value}
    {cd21 : Value}
    {f22 : Addr} {od22 an22 : Option Addr} {sl22 : Array (Option Value)} {oc22 kV22 dc22 pm22 ct22 : Value}
    {cd22 : Value}
    {f23 : Addr} {od23 an23 : Option Addr} {sl23 : Array (Option Value)} {oc23 kV23 dc23 pm23 ct23 : Value}
    {zq_Share___init__ zp_Share___init__ : Addr} {qo_Share___init__ : Option Addr} {qv_Share___init__ : Array Value} {qs_Share___init__ : Array (Option Value)}
    {f24 : Addr} {od24 an24 : Option Addr} {sl24 : Array (Option Value)} {oc24 kV24 dc24 pm24 ct24 : Value}
    {cd24 : Value}
    {f25 : Addr} {od25 an25 : Option Addr} {sl25 : Array (Option Value)} {oc25 kV25 dc25 pm25 ct25 : Value}
    {cd25 : Value}
    {f26 : Addr} {od26 an26 : Option Addr} {sl26 : Array (Option Value)} {oc26 kV26 dc26 pm26 ct26 : Value}
    {cd26 : Value}
    {a_BEGIN_0 : Addr} {a_BEGIN_0d : Option Addr} {a_BEGIN_0n : Nat} {a_BEGIN_0s : Array (Option Value)}
    {a_BEGIN_0t0 : Tok}
    {a_BEGIN_0t1 : Tok}
    {a_END_0 : Addr} {a_END_0d : Option Addr} {a_END_0n : Nat} {a_END_0s : Array (Option Value)}
    {a_END_0t0 : Tok}
    {a_END_0t1 : Tok}
    {a_NOUGHT_0 : Addr} {a_NOUGHT_0d : Option Addr} {a_NOUGHT_0n : Nat} {a_NOUGHT_0s : Array (Option Value)}
    {a_NOUGHT_0t0 : Tok}
    {a_NOUGHT_0t1 : Tok}
    {a_ONE_0 : Addr} {a_ONE_0d : Option Addr} {a_ONE_0n : Nat} {a_ONE_0s : Array (Option Value)}
    {a_ONE_0t0 : Tok}
    {a_ONE_0t1 : Tok}
    (g_NoFraction : PySem.W.nsIn K mainGlobals "NoFraction" = some (some (.ref c_NoFraction)))
    (g_NoSpan : PySem.W.nsIn K mainGlobals "NoSpan" = some (some (.ref c_NoSpan)))
    (g_Share : PySem.W.nsIn K mainGlobals "Share" = some (some (.ref c_Share)))
    (a0 : PySem.W.nsIn K mainGlobals "divisor" = some (some (.ref f0)))
    (l0 : K.lookup f0 = some ⟨oc0, od0, .func (PySem.W.fnOf "divisor" "divisor" (defArgs s_divisor) (defBody s_divisor) (defScope s_divisor) .none kV0 dc0 pm0 an0 cd0 ct0), sl0⟩)
    (c0 : PySem.W.codeIn K cd0 "divisor" = true)
    (k0 : PySem.W.keepIn K (.ref f0) = true)
    (a1 : PySem.W.nsIn K mainGlobals "is_less" = some (some (.ref f1)))
    (l1 : K.lookup f1 = some ⟨oc1, od1, .func (PySem.W.fnOf "is_less" "is_less" (defArgs s_is_less) (defBody s_is_less) (defScope s_is_less) .none kV1 dc1 pm1 an1 cd1 ct1), sl1⟩)
    (c1 : PySem.W.codeIn K cd1 "is_less" = true)
    (k1 : PySem.W.keepIn K (.ref f1) = true)
    (a2 : PySem.W.nsIn K mainGlobals "spans_where" = some (some (.ref f2)))
    (l2 : K.lookup f2 = some ⟨oc2, od2, .func (PySem.W.fnOf "spans_where" "spans_where" (defArgs s_spans_where) (defBody s_spans_where) (defScope s_spans_where) .none kV2 dc2 pm2 an2 cd2 ct2), sl2⟩)
    (c2 : PySem.W.codeIn K cd2 "spans_where" = true)
    (k2 : PySem.W.keepIn K (.ref f2) = true)
    (a3 : PySem.W.findIn K (.ref c_Share) "spans" = some (some (.ref f3)))
    (l3 : K.lookup f3 = some ⟨oc3, od3, .func (PySem.W.fnOf "spans" "Share.spans" (defArgs s_Share_spans) (defBody s_Share_spans) (defScope s_Share_spans) .none kV3 dc3 pm3 an3 cd3 ct3), sl3⟩)
    (c3 : PySem.W.codeIn K cd3 "Share.spans" = true)
    (k3 : PySem.W.keepIn K (.ref f3) = true)
    (a4 : PySem.W.nsIn K mainGlobals "_law_mixed" = some (some (.ref f4)))
    (l4 : K.lookup f4 = some ⟨oc4, od4, .func (PySem.W.fnOf "_law_mixed" "_law_mixed" (defArgs s_law_mixed) (defBody s_law_mixed) (defScope s_law_mixed) .none kV4 dc4 pm4 an4 cd4 ct4), sl4⟩)
    (c4 : PySem.W.codeIn K cd4 "_law_mixed" = true)
    (k4 : PySem.W.keepIn K (.ref f4) = true)
    (a5 : PySem.W.nsIn K mainGlobals "_law_divisor" = some (some (.ref f5)))
    (l5 : K.lookup f5 = some ⟨oc5, od5, .func (PySem.W.fnOf "_law_divisor" "_law_divisor" (defArgs s_law_divisor) (defBody s_law_divisor) (defScope s_law_divisor) .none kV5 dc5 pm5 an5 cd5 ct5), sl5⟩)
    (c5 : PySem.W.codeIn K cd5 "_law_divisor" = true)
    (k5 : PySem.W.keepIn K (.ref f5) = true)
    (a6 : PySem.W.nsIn K mainGlobals "_law_less" = some (some (.ref f6)))
    (l6 : K.lookup f6 = some ⟨oc6, od6, .func (PySem.W.fnOf "_law_less" "_law_less" (defArgs s_law_less) (defBody s_law_less) (defScope s_law_less) .none kV6 dc6 pm6 an6 cd6 ct6), sl6⟩)
    (c6 : PySem.W.codeIn K cd6 "_law_less" = true)
    (k6 : PySem.W.keepIn K (.ref f6) = true)
    (a7 : PySem.W.nsIn K mainGlobals "_law_by" = some (some (.ref f7)))
    (l7 : K.lookup f7 = some ⟨oc7, od7, .func (PySem.W.fnOf "_law_by" "_law_by" (defArgs s_law_by) (defBody s_law_by) (defScope s_law_by) .none kV7 dc7 pm7 an7 cd7 ct7), sl7⟩)
    (c7 : PySem.W.codeIn K cd7 "_law_by" = true)
    (k7 : PySem.W.keepIn K (.ref f7) = true)
    (a8 : PySem.W.nsIn K mainGlobals "fraction_of" = some (some (.ref f8)))
    (l8 : K.lookup f8 = some ⟨oc8, od8, .func (PySem.W.fnOf "fraction_of" "fraction_of" (defArgs s_fraction_of) (defBody s_fraction_of) (defScope s_fraction_of) (.ref T8) kV8 dc8 pm8 an8 cd8 ct8), sl8⟩)
    (c8 : PySem.W.codeIn K cd8 "fraction_of" = true)
    (k8 : PySem.W.keepIn K (.ref f8) = true)
    (lT8 : K.lookup T8 = some ⟨q8, qd8, .seq ([(.int 1 tt8_0)] : List Value).toArray qn8, qs8⟩)
    (a9 : PySem.W.nsIn K mainGlobals "ask_span" = some (some (.ref f9)))
    (l9 : K.lookup f9 = some ⟨oc9, od9, .func (PySem.W.fnOf "ask_span" "ask_span" (defArgs s_ask_span) (defBody s_ask_span) (defScope s_ask_span) .none kV9 dc9 pm9 an9 cd9 ct9), sl9⟩)
    (c9 : PySem.W.codeIn K cd9 "ask_span" = true)
    (k9 : PySem.W.keepIn K (.ref f9) = true)
    (a10 : PySem.W.nsIn K mainGlobals "rising_places" = some (some (.ref f10)))
    (l10 : K.lookup f10 = some ⟨oc10, od10, .func (PySem.W.fnOf "rising_places" "rising_places" (defArgs s_rising_places) (defBody s_rising_places) (defScope s_rising_places) .none kV10 dc10 pm10 an10 cd10 ct10), sl10⟩)
    (c10 : PySem.W.codeIn K cd10 "rising_places" = true)
    (k10 : PySem.W.keepIn K (.ref f10) = true)
    (a11 : PySem.W.nsIn K mainGlobals "covers" = some (some (.ref f11)))
    (l11 : K.lookup f11 = some ⟨oc11, od11, .func (PySem.W.fnOf "covers" "covers" (defArgs s_covers) (defBody s_covers) (defScope s_covers) .none kV11 dc11 pm11 an11 cd11 ct11), sl11⟩)
    (c11 : PySem.W.codeIn K cd11 "covers" = true)
    (k11 : PySem.W.keepIn K (.ref f11) = true)
    (a12 : PySem.W.nsIn K mainGlobals "_law_take" = some (some (.ref f12)))
    (l12 : K.lookup f12 = some ⟨oc12, od12, .func (PySem.W.fnOf "_law_take" "_law_take" (defArgs s_law_take) (defBody s_law_take) (defScope s_law_take) .none kV12 dc12 pm12 an12 cd12 ct12), sl12⟩)
    (c12 : PySem.W.codeIn K cd12 "_law_take" = true)
    (k12 : PySem.W.keepIn K (.ref f12) = true)
    (a13 : PySem.W.nsIn K mainGlobals "_law_lowest" = some (some (.ref f13)))
    (l13 : K.lookup f13 = some ⟨oc13, od13, .func (PySem.W.fnOf "_law_lowest" "_law_lowest" (defArgs s_law_lowest) (defBody s_law_lowest) (defScope s_law_lowest) .none kV13 dc13 pm13 an13 cd13 ct13), sl13⟩)
    (c13 : PySem.W.codeIn K cd13 "_law_lowest" = true)
    (k13 : PySem.W.keepIn K (.ref f13) = true)
    (a14 : PySem.W.nsIn K mainGlobals "_law_rising" = some (some (.ref f14)))
    (l14 : K.lookup f14 = some ⟨oc14, od14, .func (PySem.W.fnOf "_law_rising" "_law_rising" (defArgs s_law_rising) (defBody s_law_rising) (defScope s_law_rising) .none kV14 dc14 pm14 an14 cd14 ct14), sl14⟩)
    (c14 : PySem.W.codeIn K cd14 "_law_rising" = true)
    (k14 : PySem.W.keepIn K (.ref f14) = true)
    (a15 : PySem.W.nsIn K mainGlobals "plus_fractions" = some (some (.ref f15)))
    (l15 : K.lookup f15 = some ⟨oc15, od15, .func (PySem.W.fnOf "plus" "plus" (defArgs s_plus) (defBody s_plus) (defScope s_plus) .none kV15 dc15 pm15 an15 cd15 ct15), sl15⟩)
    (c15 : PySem.W.codeIn K cd15 "plus" = true)
    (k15 : PySem.W.keepIn K (.ref f15) = true)
    (a16 : PySem.W.nsIn K mainGlobals "minus" = some (some (.ref f16)))
    (l16 : K.lookup f16 = some ⟨oc16, od16, .func (PySem.W.fnOf "minus" "minus" (defArgs s_minus) (defBody s_minus) (defScope s_minus) .none kV16 dc16 pm16 an16 cd16 ct16), sl16⟩)
    (c16 : PySem.W.codeIn K cd16 "minus" = true)
    (k16 : PySem.W.keepIn K (.ref f16) = true)
    (a17 : PySem.W.nsIn K mainGlobals "_law_any_place" = some (some (.ref f17)))
    (l17 : K.lookup f17 = some ⟨oc17, od17, .func (PySem.W.fnOf "_law_any_place" "_law_any_place" (defArgs s_law_any_place) (defBody s_law_any_place) (defScope s_law_any_place) .none kV17 dc17 pm17 an17 cd17 ct17), sl17⟩)
    (c17 : PySem.W.codeIn K cd17 "_law_any_place" = true)
    (k17 : PySem.W.keepIn K (.ref f17) = true)
    (a18 : PySem.W.nsIn K mainGlobals "_law_swapped" = some (some (.ref f18)))
    (l18 : K.lookup f18 = some ⟨oc18, od18, .func (PySem.W.fnOf "_law_swapped" "_law_swapped" (defArgs s_law_swapped) (defBody s_law_swapped) (defScope s_law_swapped) .none kV18 dc18 pm18 an18 cd18 ct18), sl18⟩)
    (c18 : PySem.W.codeIn K cd18 "_law_swapped" = true)
    (k18 : PySem.W.keepIn K (.ref f18) = true)
    (a19 : PySem.W.nsIn K mainGlobals "_law_due" = some (some (.ref f19)))
    (l19 : K.lookup f19 = some ⟨oc19, od19, .func (PySem.W.fnOf "_law_due" "_law_due" (defArgs s_law_due) (defBody s_law_due) (defScope s_law_due) .none kV19 dc19 pm19 an19 cd19 ct19), sl19⟩)
    (c19 : PySem.W.codeIn K cd19 "_law_due" = true)
    (k19 : PySem.W.keepIn K (.ref f19) = true)
    (a20 : PySem.W.findIn K (.ref c_Share) "length" = some (some (.ref f20)))
    (l20 : K.lookup f20 = some ⟨oc20, od20, .func (PySem.W.fnOf "length" "Share.length" (defArgs s_Share_length) (defBody s_Share_length) (defScope s_Share_length) .none kV20 dc20 pm20 an20 cd20 ct20), sl20⟩)
    (c20 : PySem.W.codeIn K cd20 "Share.length" = true)
    (k20 : PySem.W.keepIn K (.ref f20) = true)
    (a21 : PySem.W.nsIn K mainGlobals "_law_dealt" = some (some (.ref f21)))
    (l21 : K.lookup f21 = some ⟨oc21, od21, .func (PySem.W.fnOf "_law_dealt" "_law_dealt" (defArgs s_law_dealt) (defBody s_law_dealt) (defScope s_law_dealt) .none kV21 dc21 pm21 an21 cd21 ct21), sl21⟩)
    (c21 : PySem.W.codeIn K cd21 "_law_dealt" = true)
    (k21 : PySem.W.keepIn K (.ref f21) = true)
    (a22 : PySem.W.nsIn K mainGlobals "_law_spoilt" = some (some (.ref f22)))
    (l22 : K.lookup f22 = some ⟨oc22, od22, .func (PySem.W.fnOf "_law_spoilt" "_law_spoilt" (defArgs s_law_spoilt) (defBody s_law_spoilt) (defScope s_law_spoilt) .none kV22 dc22 pm22 an22 cd22 ct22), sl22⟩)
    (c22 : PySem.W.codeIn K cd22 "_law_spoilt" = true)
    (k22 : PySem.W.keepIn K (.ref f22) = true)
    (a23 : PySem.W.findIn K (.ref c_Share) "__init__" = some (some (.ref f23)))
    (l23 : K.lookup f23 = some ⟨oc23, od23, .func (PySem.W.fnOf "__init__" "Share.__init__" (defArgs s_Share___init__) (defBody s_Share___init__) (defScope s_Share___init__) .none kV23 dc23 pm23 an23 (.ref zq_Share___init__) ct23), sl23⟩)
    (c23 : PySem.W.codeIn K (.ref zq_Share___init__) "Share.__init__" = true)
    (lq23 : K.lookup zq_Share___init__ = some ⟨.type "code", qo_Share___init__, .fields qv_Share___init__, qs_Share___init__⟩)
    (lp23 : qv_Share___init__[11]? = some (.ref zp_Share___init__))
    (lh23 : PySem.W.codeHdIn K zq_Share___init__ zp_Share___init__ = true)
    (ln23 : K.lookup zp_Share___init__ = none)
    (lt23 : h.get? zp_Share___init__ = some { cls := .none, data := .fields #[] })
    (k23 : PySem.W.keepIn K (.ref f23) = true)
    (a24 : PySem.W.findIn K (.ref c_Share) "plus" = some (some (.ref f24)))
    (l24 : K.lookup f24 = some ⟨oc24, od24, .func (PySem.W.fnOf "plus" "Share.plus" (defArgs s_Share_plus) (defBody s_Share_plus) (defScope s_Share_plus) .none kV24 dc24 pm24 an24 cd24 ct24), sl24⟩)
    (c24 : PySem.W.codeIn K cd24 "Share.plus" = true)
    (k24 : PySem.W.keepIn K (.ref f24) = true)
    (a25 : PySem.W.nsIn K mainGlobals "is_shared" = some (some (.ref f25)))
    (l25 : K.lookup f25 = some ⟨oc25, od25, .func (PySem.W.fnOf "is_shared" "is_shared" (defArgs s_is_shared) (defBody s_is_shared) (defScope s_is_shared) .none kV25 dc25 pm25 an25 cd25 ct25), sl25⟩)
    (c25 : PySem.W.codeIn K cd25 "is_shared" = true)
    (k25 : PySem.W.keepIn K (.ref f25) = true)
    (a26 : PySem.W.nsIn K mainGlobals "law" = some (some (.ref f26)))
    (l26 : K.lookup f26 = some ⟨oc26, od26, .func (PySem.W.fnOf "law" "law" (defArgs s_law) (defBody s_law) (defScope s_law) .none kV26 dc26 pm26 an26 cd26 ct26), sl26⟩)
    (c26 : PySem.W.codeIn K cd26 "law" = true)
    (k26 : PySem.W.keepIn K (.ref f26) = true)
    (pg_Share : PySem.W.plainGet K c_Share Str.empty = true)
    (hD_Share : PySem.W.hasDictIn K c_Share = true)
    (po_Share : PySem.W.plainOver K c_Share = true)
    (sa_Share : PySem.W.findIn K (.ref c_Share) "__setattr__" = some (some (.builtin "object.__setattr__")))
    (mm_Share : PySem.W.makesIn K c_Share = true)
    (mi_Share : PySem.W.findIn K (.ref c_Share) "__init__" = some (some (.ref f23)))
    (mf_Share : PySem.W.isFn K (.ref f23) = true)
    (mp_Share : PySem.W.keepIn K (.ref c_Share) = true)
    (ta_Share_length : PySem.W.findIn K (.ref c_Share) "length" = some (some (.ref f20)))
    (tf_Share_length : PySem.W.isFn K (.ref f20) = true)
    (ta_Share_plus : PySem.W.findIn K (.ref c_Share) "plus" = some (some (.ref f24)))
    (tf_Share_plus : PySem.W.isFn K (.ref f24) = true)
    (ta_Share_spans : PySem.W.findIn K (.ref c_Share) "spans" = some (some (.ref f3)))
    (tf_Share_spans : PySem.W.isFn K (.ref f3) = true)
    (na_Share_parts : PySem.W.findIn K (.ref c_Share) "parts" = some none)
    (z_abs : PySem.W.nsIn K mainGlobals "abs" = some none)
    (z_any : PySem.W.nsIn K mainGlobals "any" = some none)
    (z_bool : PySem.W.nsIn K mainGlobals "bool" = some none)
    (z_int : PySem.W.nsIn K mainGlobals "int" = some none)
    (z_isinstance : PySem.W.nsIn K mainGlobals "isinstance" = some none)
    (z_len : PySem.W.nsIn K mainGlobals "len" = some none)
    (z_list : PySem.W.nsIn K mainGlobals "list" = some none)
    (z_max : PySem.W.nsIn K mainGlobals "max" = some none)
    (z_min : PySem.W.nsIn K mainGlobals "min" = some none)
    (z_range : PySem.W.nsIn K mainGlobals "range" = some none)
    (z_zip : PySem.W.nsIn K mainGlobals "zip" = some none)
    (m_BEGIN : PySem.W.nsIn K mainGlobals "BEGIN" = some (some (.ref a_BEGIN_0)))
    (l_a_BEGIN_0 : K.lookup a_BEGIN_0 = some ⟨.type "tuple", a_BEGIN_0d, .seq ([(.int 0 a_BEGIN_0t0), (.int 1 a_BEGIN_0t1)] : List Value).toArray a_BEGIN_0n, a_BEGIN_0s⟩)
    (m_END : PySem.W.nsIn K mainGlobals "END" = some (some (.ref a_END_0)))
    (l_a_END_0 : K.lookup a_END_0 = some ⟨.type "tuple", a_END_0d, .seq ([(.int 1 a_END_0t0), (.int 1 a_END_0t1)] : List Value).toArray a_END_0n, a_END_0s⟩)
    (m_NOUGHT : PySem.W.nsIn K mainGlobals "NOUGHT" = some (some (.ref a_NOUGHT_0)))
    (l_a_NOUGHT_0 : K.lookup a_NOUGHT_0 = some ⟨.type "tuple", a_NOUGHT_0d, .seq ([(.int 0 a_NOUGHT_0t0), (.int 1 a_NOUGHT_0t1)] : List Value).toArray a_NOUGHT_0n, a_NOUGHT_0s⟩)
    (m_ONE : PySem.W.nsIn K mainGlobals "ONE" = some (some (.ref a_ONE_0)))
    (l_a_ONE_0 : K.lookup a_ONE_0 = some ⟨.type "tuple", a_ONE_0d, .seq ([(.int 1 a_ONE_0t0), (.int 1 a_ONE_0t1)] : List Value).toArray a_ONE_0n, a_ONE_0s⟩)
    (x_NoFraction : PySem.W.excIn K c_NoFraction [.type "ValueError", .type "Exception", .type "BaseException", .type "object"] "ValueError.__new__" = true)
    (k_NoFraction : PySem.W.keepIn K (.ref c_NoFraction) = true)
    (x_NoSpan : PySem.W.excIn K c_NoSpan [.type "ValueError", .type "Exception", .type "BaseException", .type "object"] "ValueError.__new__" = true)
    (k_NoSpan : PySem.W.keepIn K (.ref c_NoSpan) = true)
    (sb_NoFraction : PySem.W.subIn K (.ref c_NoFraction) (.type "BaseException") = some true)
    (t_NoFraction : PySem.W.typeIn K (.ref c_NoFraction) = some (.type "type"))
    (sb_NoSpan : PySem.W.subIn K (.ref c_NoSpan) (.type "BaseException") = some true)
    (t_NoSpan : PySem.W.typeIn K (.ref c_NoSpan) = some (.type "type"))
    (nd : ([(zq_Share___init__, zp_Share___init__)] : List (Addr × Addr)).map (·.2) |>.Nodup) :
    ∃ (fd : FuncData) (cs : List (Addr × Addr)), (∀ p ∈ cs, h.get? p.2 = some { cls := .none, data := .fields #[] }) ∧ (∀ p ∈ cs, K.lookup p.2 = none) ∧ (∀ p ∈ cs, PySem.W.CodeHd h p.1 p.2) ∧ (∀ (s : Shared) (v : Value), BindsTo s fd ⟨[v], []⟩ [("_law_script", v)]) ∧ ∀ base : Heap, K.In base → base.Ns mainGlobals mg → (∀ p ∈ cs, LamX.TabB base mg p.1 p.2) → FnOk l.prog w K mg base (L2.CX l.prog w) 9 fa fd ["_law_script"] (spLawT K (cs.map (·.2))) := by
  have e := hfa.symm.trans (PySem.W.mg_of X G a26)
  cases e
  let A : Adr := { c_NoFraction := c_NoFraction, c_NoSpan := c_NoSpan, c_Share := c_Share, f_divisor := f0, d_divisor := (PySem.W.fnOf "divisor" "divisor" (defArgs s_divisor) (defBody s_divisor) (defScope s_divisor) .none kV0 dc0 pm0 an0 cd0 ct0), f_is_less := f1, d_is_less := (PySem.W.fnOf "is_less" "is_less" (defArgs s_is_less) (defBody s_is_less) (defScope s_is_less) .none kV1 dc1 pm1 an1 cd1 ct1), f_spans_where := f2, d_spans_where := (PySem.W.fnOf "spans_where" "spans_where" (defArgs s_spans_where) (defBody s_spans_where) (defScope s_spans_where) .none kV2 dc2 pm2 an2 cd2 ct2), f_Share_spans := f3, d_Share_spans := (PySem.W.fnOf "spans" "Share.spans" (defArgs s_Share_spans) (defBody s_Share_spans) (defScope s_Share_spans) .none kV3 dc3 pm3 an3 cd3 ct3), f_law_mixed := f4, d_law_mixed := (PySem.W.fnOf "_law_mixed" "_law_mixed" (defArgs s_law_mixed) (defBody s_law_mixed) (defScope s_law_mixed) .none kV4 dc4 pm4 an4 cd4 ct4), f_law_divisor := f5, d_law_divisor := (PySem.W.fnOf "_law_divisor" "_law_divisor" (defArgs s_law_divisor) (defBody s_law_divisor) (defScope s_law_divisor) .none kV5 dc5 pm5 an5 cd5 ct5), f_law_less := f6, d_law_less := (PySem.W.fnOf "_law_less" "_law_less" (defArgs s_law_less) (defBody s_law_less) (defScope s_law_less) .none kV6 dc6 pm6 an6 cd6 ct6), f_law_by := f7, d_law_by := (PySem.W.fnOf "_law_by" "_law_by" (defArgs s_law_by) (defBody s_law_by) (defScope s_law_by) .none kV7 dc7 pm7 an7 cd7 ct7), f_fraction_of := f8, d_fraction_of := (PySem.W.fnOf "fraction_of" "fraction_of" (defArgs s_fraction_of) (defBody s_fraction_of) (defScope s_fraction_of) (.ref T8) kV8 dc8 pm8 an8 cd8 ct8), f_ask_span := f9, d_ask_span := (PySem.W.fnOf "ask_span" "ask_span" (defArgs s_ask_span) (defBody s_ask_span) (defScope s_ask_span) .none kV9 dc9 pm9 an9 cd9 ct9), f_rising_places := f10, d_rising_places := (PySem.W.fnOf "rising_places" "rising_places" (defArgs s_rising_places) (defBody s_rising_places) (defScope s_rising_places) .none kV10 dc10 pm10 an10 cd10 ct10), f_covers := f11, d_covers := (PySem.W.fnOf "covers" "covers" (defArgs s_covers) (defBody s_covers) (defScope s_covers) .none kV11 dc11 pm11 an11 cd11 ct11), f_law_take := f12, d_law_take := (PySem.W.fnOf "_law_take" "_law_take" (defArgs s_law_take) (defBody s_law_take) (defScope s_law_take) .none kV12 dc12 pm12 an12 cd12 ct12), f_law_lowest := f13, d_law_lowest := (PySem.W.fnOf "_law_lowest" "_law_lowest" (defArgs s_law_lowest) (defBody s_law_lowest) (defScope s_law_lowest) .none kV13 dc13 pm13 an13 cd13 ct13), f_law_rising := f14, d_law_rising := (PySem.W.fnOf "_law_rising" "_law_rising" (defArgs s_law_rising) (defBody s_law_rising) (defScope s_law_rising) .none kV14 dc14 pm14 an14 cd14 ct14), f_plus := f15, d_plus := (PySem.W.fnOf "plus" "plus" (defArgs s_plus) (defBody s_plus) (defScope s_plus) .none kV15 dc15 pm15 an15 cd15 ct15), f_minus := f16, d_minus := (PySem.W.fnOf "minus" "minus" (defArgs s_minus) (defBody s_minus) (defScope s_minus) .none kV16 dc16 pm16 an16 cd16 ct16), f_law_any_place := f17, d_law_any_place := (PySem.W.fnOf "_law_any_place" "_law_any_place" (defArgs s_law_any_place) (defBody s_law_any_place) (defScope s_law_any_place) .none kV17 dc17 pm17 an17 cd17 ct17), f_law_swapped := f18, d_law_swapped := (PySem.W.fnOf "_law_swapped" "_law_swapped" (defArgs s_law_swapped) (defBody s_law_swapped) (defScope s_law_swapped) .none kV18 dc18 pm18 an18 cd18 ct18), f_law_due := f19, d_law_due := (PySem.W.fnOf "_law_due" "_law_due" (defArgs s_law_due) (defBody s_law_due) (defScope s_law_due) .none kV19 dc19 pm19 an19 cd19 ct19), f_Share_length := f20, d_Share_length := (PySem.W.fnOf "length" "Share.length" (defArgs s_Share_length) (defBody s_Share_length) (defScope s_Share_length) .none kV20 dc20 pm20 an20 cd20 ct20), f_law_dealt := f21, d_law_dealt := (PySem.W.fnOf "_law_dealt" "_law_dealt" (defArgs s_law_dealt) (defBody s_law_dealt) (defScope s_law_dealt) .none kV21 dc21 pm21 an21 cd21 ct21), f_law_spoilt := f22, d_law_spoilt := (PySem.W.fnOf "_law_spoilt" "_law_spoilt" (defArgs s_law_spoilt) (defBody s_law_spoilt) (defScope s_law_spoilt) .none kV22 dc22 pm22 an22 cd22 ct22), q_Share___init__ := zq_Share___init__, p_Share___init__ := zp_Share___init__, f_Share___init__ := f23, d_Share___init__ := (PySem.W.fnOf "__init__" "Share.__init__" (defArgs s_Share___init__) (defBody s_Share___init__) (defScope s_Share___init__) .none kV23 dc23 pm23 an23 (.ref zq_Share___init__) ct23), f_Share_plus := f24, d_Share_plus := (PySem.W.fnOf "plus" "Share.plus" (defArgs s_Share_plus) (defBody s_Share_plus) (defScope s_Share_plus) .none kV24 dc24 pm24 an24 cd24 ct24), f_is_shared := f25, d_is_shared := (PySem.W.fnOf "is_shared" "is_shared" (defArgs s_is_shared) (defBody s_is_shared) (defScope s_is_shared) .none kV25 dc25 pm25 an25 cd25 ct25), f_law := fa, d_law := (PySem.W.fnOf "law" "law" (defArgs s_law) (defBody s_law) (defScope s_law) .none kV26 dc26 pm26 an26 cd26 ct26), a_BEGIN := a_BEGIN_0, a_END := a_END_0, a_NOUGHT := a_NOUGHT_0, a_ONE := a_ONE_0 }
  have T : ∀ base : Heap, (∀ p ∈ ([(zq_Share___init__, zp_Share___init__)] : List (Addr × Addr)), LamX.TabB base mg p.1 p.2) → Txt K mg base A := fun base hT => {
    g_NoFraction := PySem.W.mg_of X G g_NoFraction
    g_NoSpan := PySem.W.mg_of X G g_NoSpan
    g_Share := PySem.W.mg_of X G g_Share
    g_divisor := PySem.W.mg_of X G a0
    F_divisor := fun_mk (st := s_divisor) l0 c0 k0
    b_divisor := (fun_mk (st := s_divisor) l0 c0 k0).binds (ps := p_divisor) fun _ _ _ _ _ _ us hl => match us, hl with | [_, _], _ => rfl
    g_is_less := PySem.W.mg_of X G a1
    F_is_less := fun_mk (st := s_is_less) l1 c1 k1
    b_is_less := (fun_mk (st := s_is_less) l1 c1 k1).binds (ps := p_is_less) fun _ _ _ _ _ _ us hl => match us, hl with | [_, _], _ => rfl
    g_spans_where := PySem.W.mg_of X G a2
    F_spans_where := fun_mk (st := s_spans_where) l2 c2 k2
    b_spans_where := (fun_mk (st := s_spans_where) l2 c2 k2).binds (ps := p_spans_where) fun _ _ _ _ _ _ us hl => match us, hl with | [_, _], _ => rfl
    F_Share_spans := fun_mk (st := s_Share_spans) l3 c3 k3
    b_Share_spans := (fun_mk (st := s_Share_spans) l3 c3 k3).binds (ps := p_Share_spans) fun _ _ _ _ _ _ us hl => match us, hl with | [_], _ => rfl
    g_law_mixed := PySem.W.mg_of X G a4
    F_law_mixed := fun_mk (st := s_law_mixed) l4 c4 k4
    b_law_mixed := (fun_mk (st := s_law_mixed) l4 c4 k4).binds (ps := p_law_mixed) fun _ _ _ _ _ _ us hl => match us, hl with | [_, _, _], _ => rfl
    g_law_divisor := PySem.W.mg_of X G a5
    F_law_divisor := fun_mk (st := s_law_divisor) l5 c5 k5
    b_law_divisor := (fun_mk (st := s_law_divisor) l5 c5 k5).binds (ps := p_law_divisor) fun _ _ _ _ _ _ us hl => match us, hl with | [_, _], _ => rfl
    g_law_less := PySem.W.mg_of X G a6
    F_law_less := fun_mk (st := s_law_less) l6 c6 k6
    b_law_less := (fun_mk (st := s_law_less) l6 c6 k6).binds (ps := p_law_less) fun _ _ _ _ _ _ us hl => match us, hl with | [_, _], _ => rfl
    g_law_by := PySem.W.mg_of X G a7
    F_law_by := fun_mk (st := s_law_by) l7 c7 k7
    b_law_by := (fun_mk (st := s_law_by) l7 c7 k7).binds (ps := p_law_by) fun _ _ _ _ _ _ us hl => match us, hl with | [_], _ => rfl
    g_fraction_of := PySem.W.mg_of X G a8
    F_fraction_of := ⟨⟨_, _, _, _, _, _, _, _, _, _, rfl, l8, c8, .inr ⟨by simp, _, _, _, _, rfl, lT8, rfl, (.cons ⟨_, rfl⟩ .nil)⟩, .inl rfl⟩, k8⟩
    g_ask_span := PySem.W.mg_of X G a9
    F_ask_span := fun_mk (st := s_ask_span) l9 c9 k9
    b_ask_span := (fun_mk (st := s_ask_span) l9 c9 k9).binds (ps := p_ask_span) fun _ _ _ _ _ _ us hl => match us, hl with | [_, _], _ => rfl
    g_rising_places := PySem.W.mg_of X G a10
    F_rising_places := fun_mk (st := s_rising_places) l10 c10 k10
    b_rising_places := (fun_mk (st := s_rising_places) l10 c10 k10).binds (ps := p_rising_places) fun _ _ _ _ _ _ us hl => match us, hl with | [_], _ => rfl
    g_covers := PySem.W.mg_of X G a11
    F_covers := fun_mk (st := s_covers) l11 c11 k11
    b_covers := (fun_mk (st := s_covers) l11 c11 k11).binds (ps := p_covers) fun _ _ _ _ _ _ us hl => match us, hl with | [_, _, _], _ => rfl
    g_law_take := PySem.W.mg_of X G a12
    F_law_take := fun_mk (st := s_law_take) l12 c12 k12
    b_law_take := (fun_mk (st := s_law_take) l12 c12 k12).binds (ps := p_law_take) fun _ _ _ _ _ _ us hl => match us, hl with | [_, _], _ => rfl
    g_law_lowest := PySem.W.mg_of X G a13
    F_law_lowest := fun_mk (st := s_law_lowest) l13 c13 k13
    b_law_lowest := (fun_mk (st := s_law_lowest) l13 c13 k13).binds (ps := p_law_lowest) fun _ _ _ _ _ _ us hl => match us, hl with | [_, _], _ => rfl
    g_law_rising := PySem.W.mg_of X G a14
    F_law_rising := fun_mk (st := s_law_rising) l14 c14 k14
    b_law_rising := (fun_mk (st := s_law_rising) l14 c14 k14).binds (ps := p_law_rising) fun _ _ _ _ _ _ us hl => match us, hl with | [_], _ => rfl
    g_plus_fractions := PySem.W.mg_of X G a15
    F_plus := fun_mk (st := s_plus) l15 c15 k15
    b_plus := (fun_mk (st := s_plus) l15 c15 k15).binds (ps := p_plus) fun _ _ _ _ _ _ us hl => match us, hl with | [_, _], _ => rfl
    g_minus := PySem.W.mg_of X G a16
    F_minus := fun_mk (st := s_minus) l16 c16 k16
    b_minus := (fun_mk (st := s_minus) l16 c16 k16).binds (ps := p_minus) fun _ _ _ _ _ _ us hl => match us, hl with | [_, _], _ => rfl
    g_law_any_place := PySem.W.mg_of X G a17
    F_law_any_place := fun_mk (st := s_law_any_place) l17 c17 k17
    b_law_any_place := (fun_mk (st := s_law_any_place) l17 c17 k17).binds (ps := p_law_any_place) fun _ _ _ _ _ _ us hl => match us, hl with | [_], _ => rfl
    g_law_swapped := PySem.W.mg_of X G a18
    F_law_swapped := fun_mk (st := s_law_swapped) l18 c18 k18
    b_law_swapped := (fun_mk (st := s_law_swapped) l18 c18 k18).binds (ps := p_law_swapped) fun _ _ _ _ _ _ us hl => match us, hl with | [_, _], _ => rfl
    g_law_due := PySem.W.mg_of X G a19
    F_law_due := fun_mk (st := s_law_due) l19 c19 k19
    b_law_due := (fun_mk (st := s_law_due) l19 c19 k19).binds (ps := p_law_due) fun _ _ _ _ _ _ us hl => match us, hl with | [_], _ => rfl
    F_Share_length := fun_mk (st := s_Share_length) l20 c20 k20
    b_Share_length := (fun_mk (st := s_Share_length) l20 c20 k20).binds (ps := p_Share_length) fun _ _ _ _ _ _ us hl => match us, hl with | [_], _ => rfl
    g_law_dealt := PySem.W.mg_of X G a21
    F_law_dealt := fun_mk (st := s_law_dealt) l21 c21 k21
    b_law_dealt := (fun_mk (st := s_law_dealt) l21 c21 k21).binds (ps := p_law_dealt) fun _ _ _ _ _ _ us hl => match us, hl with | [_, _], _ => rfl
    g_law_spoilt := PySem.W.mg_of X G a22
    F_law_spoilt := fun_mk (st := s_law_spoilt) l22 c22 k22
    b_law_spoilt := (fun_mk (st := s_law_spoilt) l22 c22 k22).binds (ps := p_law_spoilt) fun _ _ _ _ _ _ us hl => match us, hl with | [_, _, _], _ => rfl
    tb_Share___init__ := hT (zq_Share___init__, zp_Share___init__) (by simp)
    F_Share___init__ := ⟨⟨_, _, _, _, _, _, _, _, rfl, l23, c23⟩, k23⟩
    b_Share___init__ := (fun_mk (st := s_Share___init__) l23 c23 k23).binds (ps := p_Share___init__) fun _ _ _ _ _ _ us hl => match us, hl with | [_, _], _ => rfl
    F_Share_plus := fun_mk (st := s_Share_plus) l24 c24 k24
    b_Share_plus := (fun_mk (st := s_Share_plus) l24 c24 k24).binds (ps := p_Share_plus) fun _ _ _ _ _ _ us hl => match us, hl with | [_, _], _ => rfl
    g_is_shared := PySem.W.mg_of X G a25
    F_is_shared := fun_mk (st := s_is_shared) l25 c25 k25
    b_is_shared := (fun_mk (st := s_is_shared) l25 c25 k25).binds (ps := p_is_shared) fun _ _ _ _ _ _ us hl => match us, hl with | [_], _ => rfl
    g_law := PySem.W.mg_of X G a26
    F_law := fun_mk (st := s_law) l26 c26 k26
    b_law := (fun_mk (st := s_law) l26 c26 k26).binds (ps := p_law) fun _ _ _ _ _ _ us hl => match us, hl with | [_], _ => rfl
    cl_Share := ⟨pg_Share, hD_Share, po_Share, sa_Share⟩
    mk_Share := ⟨mm_Share, mi_Share, mf_Share, mp_Share⟩
    mt_Share_length := ⟨ta_Share_length, tf_Share_length, k20⟩
    mt_Share_plus := ⟨ta_Share_plus, tf_Share_plus, k24⟩
    mt_Share_spans := ⟨ta_Share_spans, tf_Share_spans, k3⟩
    fo_parts := ⟨fun c i h => match c, h with
      | 3, h => by cases h; exact ⟨rfl, nd_Share, nl_Share, ⟨pg_Share, hD_Share, po_Share, sa_Share⟩, na_Share_parts⟩⟩
    B_Share___init___2_ := callB_n fun us ws h1 h2 => match us, h1, ws, h2 with | [_, _], _, [], _ => rfl
    B_Share_length_1_ := callB_n fun us ws h1 h2 => match us, h1, ws, h2 with | [_], _, [], _ => rfl
    B_Share_plus_2_ := callB_n fun us ws h1 h2 => match us, h1, ws, h2 with | [_, _], _, [], _ => rfl
    B_Share_spans_1_ := callB_n fun us ws h1 h2 => match us, h1, ws, h2 with | [_], _, [], _ => rfl
    B_fraction_of_2_ := callB_d lT8 rfl (.cons ⟨_, rfl⟩ .nil) fun us ws h1 h2 => match us, h1, ws, h2 with | [_, _], _, [], _ => ⟨_, rfl, rfl⟩
    z_abs := PySem.W.mg_none_of X G z_abs
    z_any := PySem.W.mg_none_of X G z_any
    z_bool := PySem.W.mg_none_of X G z_bool
    z_int := PySem.W.mg_none_of X G z_int
    z_isinstance := PySem.W.mg_none_of X G z_isinstance
    z_len := PySem.W.mg_none_of X G z_len
    z_list := PySem.W.mg_none_of X G z_list
    z_max := PySem.W.mg_none_of X G z_max
    z_min := PySem.W.mg_none_of X G z_min
    z_range := PySem.W.mg_none_of X G z_range
    z_zip := PySem.W.mg_none_of X G z_zip
    m_BEGIN := PySem.W.mg_of X G m_BEGIN
    i_BEGIN := fun as H => (.tup (xs := [(.int 0), (.int 1)]) (.inr ⟨_, _, _, l_a_BEGIN_0, rfl, rfl, show 2 ≤ sizeLine by decide, (.cons ⟨_, rfl⟩ (.cons ⟨_, rfl⟩ .nil))⟩) (.cons (.int _) (.cons (.int _) .nil)))
    m_END := PySem.W.mg_of X G m_END
    i_END := fun as H => (.tup (xs := [(.int 1), (.int 1)]) (.inr ⟨_, _, _, l_a_END_0, rfl, rfl, show 2 ≤ sizeLine by decide, (.cons ⟨_, rfl⟩ (.cons ⟨_, rfl⟩ .nil))⟩) (.cons (.int _) (.cons (.int _) .nil)))
    m_NOUGHT := PySem.W.mg_of X G m_NOUGHT
    i_NOUGHT := fun as H => (.tup (xs := [(.int 0), (.int 1)]) (.inr ⟨_, _, _, l_a_NOUGHT_0, rfl, rfl, show 2 ≤ sizeLine by decide, (.cons ⟨_, rfl⟩ (.cons ⟨_, rfl⟩ .nil))⟩) (.cons (.int _) (.cons (.int _) .nil)))
    m_ONE := PySem.W.mg_of X G m_ONE
    i_ONE := fun as H => (.tup (xs := [(.int 1), (.int 1)]) (.inr ⟨_, _, _, l_a_ONE_0, rfl, rfl, show 2 ≤ sizeLine by decide, (.cons ⟨_, rfl⟩ (.cons ⟨_, rfl⟩ .nil))⟩) (.cons (.int _) (.cons (.int _) .nil)))
    x_NoFraction := x_NoFraction
    k_NoFraction := k_NoFraction
    x_NoSpan := x_NoSpan
    k_NoSpan := k_NoSpan
    sb_NoFraction := sb_NoFraction
    t_NoFraction := t_NoFraction
    sb_NoSpan := sb_NoSpan
    t_NoSpan := t_NoSpan }
  refine ⟨A.d_law, [(zq_Share___init__, zp_Share___init__)], (List.forall_mem_cons.mpr ⟨lt23, (fun _ h => nomatch h)⟩), (List.forall_mem_cons.mpr ⟨ln23, (fun _ h => nomatch h)⟩), (List.forall_mem_cons.mpr ⟨PySem.W.codeHd_of_K X lh23, (fun _ h => nomatch h)⟩), fun s v => .of_eq rfl, fun base _ _ hT => (ok_law (T base hT)).imp fun vs H Q E q => law_impT (G := GG K A) ["Share.__init__" ++ ".<locals>." ++ "<lambda>"] rfl nd law_true vs H Q E q⟩
end Dn
open PySem PySem.W PyProof.Rows
set_option maxRecDepth 100000 in
set_option maxHeartbeats 0 in
theorem PySem.Challenge.cw_halfcrumb_k52_shared_looked_at_holds : PySem.Challenge.rw_halfcrumb_k52_shared_looked_at.Holds := by
  w_on; o_law; k_head; (case hw => w_witness2)
  k_fill
  refine Dn.walkT (k := 9) (x := "_law_script") ⟨rfl, by decide, by decide⟩ (l := PySem.Challenge.rw_halfcrumb_k52_shared_looked_at) rfl rfl (fun w h Y => PySem.W.km_in_of Y) ?F
  case F =>
    intro w mg fa h Y KX G hmg
    refine' Dn.all_mk KX G hmg ?g_NoFraction ?g_NoSpan ?g_Share ?a0 ?l0 ?c0 ?k0 ?a1 ?l1 ?c1 ?k1 ?a2 ?l2 ?c2 ?k2 ?a3 ?l3 ?c3 ?k3 ?a4 ?l4 ?c4 ?k4 ?a5 ?l5 ?c5 ?k5 ?a6 ?l6 ?c6 ?k6 ?a7 ?l7 ?c7 ?k7 ?a8 ?l8 ?c8 ?k8 ?lT8 ?a9 ?l9 ?c9 ?k9 ?a10 ?l10 ?c10 ?k10 ?a11 ?l11 ?c11 ?k11 ?a12 ?l12 ?c12 ?k12 ?a13 ?l13 ?c13 ?k13 ?a14 ?l14 ?c14 ?k14 ?a15 ?l15 ?c15 ?k15 ?a16 ?l16 ?c16 ?k16 ?a17 ?l17 ?c17 ?k17 ?a18 ?l18 ?c18 ?k18 ?a19 ?l19 ?c19 ?k19 ?a20 ?l20 ?c20 ?k20 ?a21 ?l21 ?c21 ?k21 ?a22 ?l22 ?c22 ?k22 ?a23 ?l23 ?c23 ?lq23 ?lp23 ?lh23 ?ln23 ?lt23 ?k23 ?a24 ?l24 ?c24 ?k24 ?a25 ?l25 ?c25 ?k25 ?a26 ?l26 ?c26 ?k26 ?pg_Share ?hD_Share ?po_Share ?sa_Share ?mm_Share ?mi_Share ?mf_Share ?mp_Share ?ta_Share_length ?tf_Share_length ?ta_Share_plus ?tf_Share_plus ?ta_Share_spans ?tf_Share_spans ?na_Share_parts ?z_abs ?z_any ?z_bool ?z_int ?z_isinstance ?z_len ?z_list ?z_max ?z_min ?z_range ?z_zip ?m_BEGIN ?l_a_BEGIN_0 ?m_END ?l_a_END_0 ?m_NOUGHT ?l_a_NOUGHT_0 ?m_ONE ?l_a_ONE_0 ?x_NoFraction ?k_NoFraction ?x_NoSpan ?k_NoSpan ?sb_NoFraction ?t_NoFraction ?sb_NoSpan ?t_NoSpan ?nd
    (case g_NoFraction => k_is)
    (case g_NoSpan => k_is)
    (case g_Share => k_is)
    (case a0 => k_is)
    (case l0 => k_is)
    (case c0 => k_is)
    (case k0 => k_is)
    (case a1 => k_is)
    (case l1 => k_is)
    (case c1 => k_is)
    (case k1 => k_is)
    (case a2 => k_is)
    (case l2 => k_is)
    (case c2 => k_is)
    (case k2 => k_is)
    (case a3 => k_is)
    (case l3 => k_is)
    (case c3 => k_is)
    (case k3 => k_is)
    (case a4 => k_is)
    (case l4 => k_is)
    (case c4 => k_is)
    (case k4 => k_is)
    (case a5 => k_is)
    (case l5 => k_is)
    (case c5 => k_is)
    (case k5 => k_is)
    (case a6 => k_is)
    (case l6 => k_is)
    (case c6 => k_is)
    (case k6 => k_is)
    (case a7 => k_is)
    (case l7 => k_is)
    (case c7 => k_is)
    (case k7 => k_is)
    (case a8 => k_is)
    (case l8 => k_is)
    (case c8 => k_is)
    (case k8 => k_is)
    (case lT8 => k_is)
    (case a9 => k_is)
    (case l9 => k_is)
    (case c9 => k_is)
    (case k9 => k_is)
    (case a10 => k_is)
    (case l10 => k_is)
    (case c10 => k_is)
    (case k10 => k_is)
    (case a11 => k_is)
    (case l11 => k_is)
    (case c11 => k_is)
    (case k11 => k_is)
    (case a12 => k_is)
    (case l12 => k_is)
    (case c12 => k_is)
    (case k12 => k_is)
    (case a13 => k_is)
    (case l13 => k_is)
    (case c13 => k_is)
    (case k13 => k_is)
    (case a14 => k_is)
    (case l14 => k_is)
    (case c14 => k_is)
    (case k14 => k_is)
    (case a15 => k_is)
    (case l15 => k_is)
    (case c15 => k_is)
    (case k15 => k_is)
    (case a16 => k_is)
    (case l16 => k_is)
    (case c16 => k_is)
    (case k16 => k_is)
    (case a17 => k_is)
    (case l17 => k_is)
    (case c17 => k_is)
    (case k17 => k_is)
    (case a18 => k_is)
    (case l18 => k_is)
    (case c18 => k_is)
    (case k18 => k_is)
    (case a19 => k_is)
    (case l19 => k_is)
    (case c19 => k_is)
    (case k19 => k_is)
    (case a20 => k_is)
    (case l20 => k_is)
    (case c20 => k_is)
    (case k20 => k_is)
    (case a21 => k_is)
    (case l21 => k_is)
    (case c21 => k_is)
    (case k21 => k_is)
    (case a22 => k_is)
    (case l22 => k_is)
    (case c22 => k_is)
    (case k22 => k_is)
    (case a23 => k_is)
    (case l23 => k_is)
    (case c23 => k_is)
    (case lq23 => k_is)
    (case lp23 => rfl)
    (case lh23 => kernel_rfl)
    (case ln23 => kernel_rfl)
    (case lt23 => exact PySem.W.km_tabs_of Y _ (by k_mem))
    (case k23 => k_is)
    (case a24 => k_is)
    (case l24 => k_is)
    (case c24 => k_is)
    (case k24 => k_is)
    (case a25 => k_is)
    (case l25 => k_is)
    (case c25 => k_is)
    (case k25 => k_is)
    (case a26 => k_is)
    (case l26 => k_is)
    (case c26 => k_is)
    (case k26 => k_is)
    (case pg_Share => k_is)
    (case hD_Share => k_is)
    (case po_Share => k_is)
    (case sa_Share => k_is)
    (case mm_Share => k_is)
    (case mi_Share => k_is)
    (case mf_Share => k_is)
    (case mp_Share => k_is)
    (case ta_Share_length => k_is)
    (case tf_Share_length => k_is)
    (case ta_Share_plus => k_is)
    (case tf_Share_plus => k_is)
    (case ta_Share_spans => k_is)
    (case tf_Share_spans => k_is)
    (case na_Share_parts => k_is)
    (case z_abs => k_is)
    (case z_any => k_is)
    (case z_bool => k_is)
    (case z_int => k_is)
    (case z_isinstance => k_is)
    (case z_len => k_is)
    (case z_list => k_is)
    (case z_max => k_is)
    (case z_min => k_is)
    (case z_range => k_is)
    (case z_zip => k_is)
    (case m_BEGIN => k_is)
    (case l_a_BEGIN_0 => k_is)
    (case m_END => k_is)
    (case l_a_END_0 => k_is)
    (case m_NOUGHT => k_is)
    (case l_a_NOUGHT_0 => k_is)
    (case m_ONE => k_is)
    (case l_a_ONE_0 => k_is)
    (case x_NoFraction => k_exc)
    (case k_NoFraction => k_is)
    (case x_NoSpan => k_exc)
    (case k_NoSpan => k_is)
    (case sb_NoFraction => k_is)
    (case t_NoFraction => k_is)
    (case sb_NoSpan => k_is)
    (case t_NoSpan => k_is)
    (case nd => decide)
