import PyProof.Rows.All
import Wide.All
import OpenK.AllK
import Wide.FinOn
import HandS.Lambda
import HandS.EndTab
import HandS.ForMost
import HandS.ForExc
import HandS.TryMany
import HandS.Wide
import HandS.IsInst
import HandS.Defaults
import HandS.FStr
import HandS.StrMore
import HandS.TupAny
import HandS.ExcIs
import HandS.EndBits
import HandS.Style
import HandS.Deep
import HandS.Steps
import HandS.Conv
import HandS.More
import KE.KFmtOwn
import HandS.RaiseMore
import HandS.SortRule
import HandS.SortInts
import HandS.TryOnly
import HandS.ExcInit
import HandS.ExcField
import HandS.ClsMeth
import HandS.GenList
import HandS.Keys
import KE.KDictZip
import HandS.SetFor
import HandS.Zip
import HandS.Dict
import HandS.Set
import HandS.Strs
import HandS.OwnEq
import HandS.SuiteRaise
import HandS.RaiseFrom
import HandS.HeadWalk
import HandS.Head0
import HandS.Head1
import HandS.Head2
import HandS.HeadEnd
import HandS.HeadHook1
import HandS.HeadHook2
import HandS.HeadHook3
import HandS.HeadHook4
import PyProof.Rows.StrDigitsNeg
import PyProof.Rows.ReprOcc
import PySem.Challenge.RW_halfcrumb_k14_share_texts_spoilt
set_option Elab.async false
set_option linter.all false
set_option maxRecDepth 100000
set_option exponentiation.threshold 5000
set_option maxHeartbeats 40000000
namespace LamP
open PySem PySem.Spec PyProof.Rows L2 LamX
section
variable {X : Cx} {pins : List (Addr × Obj)} {σ : L2.St} {H : Hp} {s : Shared}
theorem make3 {c P : Addr} {ps : Array Value} {params : Arguments} {body : Expr} {scope : Scope} {pos : Pos} {E : Value → Shared → Prop} {Q : Value → Shared → Prop} (I : Inv X pins σ H s) (TB : TabB X.base X.mg c P) (hcode : X.env.code = .ref c)
    (hP : H P = some (.tbl ps)) (ht : TriplesOk ps.toList) (ha : ∀ (pos : Pos) (cv : Value), codeAmong pos ps.toList = some cv → ∃ c, cv = .ref c ∧ H c = some (CodeO c (X.env.qual ++ "<lambda>"))) (hdef : defaultsOf params X.env = ([], [])) (hfree : ∀ y ∈ scope.names, y.2 = .free → ∃ c, X.env.cells.lookup y.1 = some c)
    (h : ∀ (f c' : Addr) (pm ctv : Value) (H1 : Hp) (s' : Shared), Inv X pins σ H1 s' →
      ((∃ ps' : Array Value, H1 = upd (upd H P (.tbl ps')) c' (CodeO c' (X.env.qual ++ "<lambda>")) ∧ H c' = none ∧ c' ≠ P ∧ TriplesOk ps'.toList ∧ ∀ (pos : Pos) (cv : Value), codeAmong pos ps'.toList = some cv → codeAmong pos ps.toList = some cv ∨ cv = .ref c') ∨
        (H1 = H ∧ ∃ pos, codeAmong pos ps.toList = some (.ref c'))) →
      s'.heap.get? f = some (PySem.W.kla_obj "<lambda>" (X.env.qual ++ "<lambda>") params body scope (cloFrom X.env.cells scope.names []) pm c' ctv) → H1 f = none → f ∉ frs X.stack → Q (.ref f) s') :
    wpAny (model X.prog X.w) X.A (eval (.Lambda params body scope pos) X.env) Q E s := by
  refine PySem.W.kla_eval hdef ?_
  have bP : s.heap.BuiltinsAt X.mg P := TB.bm.keeps I.bk
  have hP' : s.heap.get? P = some { cls := .none, data := .fields ps } := I.hok P _ hP
  have nofr : ∀ f, s.heap.objs.size ≤ f → f ∉ frs X.stack := fun f hf z => by
    rcases List.mem_cons.mp (I.stkSub _ z) with e | e
    · have h1 := I.lt
      rw [← e] at h1
      exact Nat.lt_irrefl _ (Nat.lt_of_lt_of_le h1 hf)
    · exact I.nofs hf e
  cases hc : codeAmong pos ps.toList with
  | none =>
    refine PySem.W.kla_makeFunction (mg := X.mg) (c := c) (P := P) (ps := ps) (closure_ok hfree) I.ok.glob (I.mod.glob.keeps I.bk) hcode (TB.code.keeps I.bk) hP' ht hc TB.gP bP fun c' ctv h' tk hx hge hlt hrec htb => ?_
    obtain ⟨c2, oc, vs, t, e2, hoc, hd, hv⟩ := hrec
    cases e2
    have hsz : s.heap.objs.size ≤ h'.objs.size := Nat.le_trans hge (Nat.le_of_lt hlt)
    have nC : H c' = none := I.hok.fresh hge
    have I1 := inv_table (t' := tk) (more := #[rawInt pos.line, rawInt pos.col, .ref c']) (h' := h'.push (PySem.W.kla_obj "<lambda>" (X.env.qual ++ "<lambda>") params body scope (cloFrom X.env.cells scope.names []) ((X.mg "__name__").getD .none) c' ctv)) I hP
      (fun b o hb e => Heap.get?_push_of_some _ (hx b o hb e)) (Heap.get?_push_of_some _ htb) hge ⟨oc, vs, t, Heap.get?_push_of_some _ hoc, hd, hv⟩
    have eL : (ps ++ #[rawInt pos.line, rawInt pos.col, .ref c']).toList = ps.toList ++ [rawInt pos.line, rawInt pos.col, .ref c'] := by simp
    refine h h'.objs.size c' ((X.mg "__name__").getD .none) ctv _ _ I1 (.inl ⟨_, rfl, nC, (fun z => by rw [z, hP] at nC; cases nC), (by rw [eL]; exact PySem.TriplesOk_snoc _ _ _ _ ht), fun p' cv hcv => ?_⟩) (Heap.get?_push_size _ rfl) ?_ (nofr _ hsz)
    · rw [eL] at hcv
      exact among_app _ ht hcv
    · have n1 : h'.objs.size ≠ c' := Nat.ne_of_gt hlt
      have n2 : h'.objs.size ≠ P := Nat.ne_of_gt (Nat.lt_of_lt_of_le (Heap.lt_size hP') hsz)
      rw [upd_ne n1, upd_ne n2]
      exact I.hok.fresh hsz
  | some cv =>
    obtain ⟨c', e, hco⟩ := ha pos cv hc
    subst e
    refine PySem.W.kla_makeFunctionHit (mg := X.mg) (c := c) (P := P) (ps := ps) (closure_ok hfree) I.ok.glob (I.mod.glob.keeps I.bk) hcode (TB.code.keeps I.bk) hP' ht hc bP fun ctv h' tk hx hsz => ?_
    have I1 : Inv X pins σ H { s with heap := h'.push (PySem.W.kla_obj "<lambda>" (X.env.qual ++ "<lambda>") params body scope (cloFrom X.env.cells scope.names []) ((X.mg "__name__").getD .none) c' ctv), toks := tk } := I.kept fun b o e => Heap.get?_push_of_some _ (hx b o e)
    exact h h'.objs.size c' ((X.mg "__name__").getD .none) ctv H _ I1 (.inr ⟨rfl, pos, hc⟩) (Heap.get?_push_size _ rfl) (I.hok.fresh hsz) (nofr _ hsz)
end
structure LamN (sc scope : Scope) (a b : Str) : Prop where
  kind : scope.kind = .function
  co : scope.isCoroutine = false
  gen : scope.isGenerator = false
  own : ∀ y ∈ scope.names, y.2 ≠ .cell ∧ (y.2 = .local → y.1 = a ∨ y.1 = b)
  pa : scope.names.lookup a = some .local
  pb : scope.names.lookup b = some .local
  ne : a ≠ b
  free : ∀ y ∈ scope.names, y.2 = .free → sc.names.lookup y.1 = some .cell ∨ sc.names.lookup y.1 = some .free
def lamNB (sc scope : Scope) (a b : Str) : Bool :=
  decide (scope.kind = .function) && !scope.isCoroutine && !scope.isGenerator && decide (scope.names.lookup a = some .local) && decide (scope.names.lookup b = some .local) && !decide (a = b) &&
    scope.names.all fun y => !decide (y.2 = .cell) && (!decide (y.2 = .local) || decide (y.1 = a) || decide (y.1 = b)) && (!decide (y.2 = .free) || decide (sc.names.lookup y.1 = some .cell) || decide (sc.names.lookup y.1 = some .free))
theorem lamN_by {sc scope : Scope} {a b : Str} (h : lamNB sc scope a b = true) : LamN sc scope a b := by
  unfold lamNB at h
  simp only [Bool.and_eq_true, Bool.or_eq_true, Bool.not_eq_true', decide_eq_true_eq, decide_eq_false_iff_not, List.all_eq_true] at h
  obtain ⟨⟨⟨⟨⟨⟨h1, h2⟩, h3⟩, h4⟩, h5⟩, h6⟩, h7⟩ := h
  refine ⟨h1, h2, h3, fun y hy => ⟨(h7 y hy).1.1, fun e => ?_⟩, h4, h5, h6, fun y hy e => ?_⟩
  · rcases (h7 y hy).1.2 with (z | z) | z
    · exact absurd e z
    · exact .inl z
    · exact .inr z
  · rcases (h7 y hy).2 with (z | z) | z
    · exact absurd e z
    · exact .inl z
    · exact .inr z
theorem LamN.has {X : Cx} {scope : Scope} {a b : Str} (L : LamN X.env.scope scope a b) (ok : X.Ok) : ∀ y ∈ scope.names, y.2 = .free → ∃ c, X.env.cells.lookup y.1 = some c := fun y hy e => by
  rcases L.free y hy e with k | k
  · exact ok.has _ (.inl k)
  · exact ok.has _ (.inr k)
theorem nd_ix {N : List Str} (h : N.Nodup) {i j : Nat} {y : Str} (hi : N[i]? = some y) (hj : N[j]? = some y) : i = j := by
  have hil := (List.getElem?_eq_some_iff.mp hi).1
  have e := hi.trans hj.symm
  exact (List.getElem?_inj hil h).mp e
section
variable {X : Cx} {pins : List (Addr × Obj)} {σ : L2.St} {H HZ : Hp} {s s1 : Shared}
theorem start3 {A : Around} {outer : List Env} {E : XK} {scope : Scope} {f c' : Addr} {h₁ : Heap} {tk : Nat} {a b : Str} {ja jb : Nat} {va vb : V} {ua ub : Value} (I : Inv X pins σ H s) (L : LamN X.env.scope scope a b) (hN : X.N.Nodup) (hja : X.N[ja]? = some a) (hjb : X.N[jb]? = some b) (ra : RelV va ua) (rb : RelV vb ub)
    (e0 : Env0 X.prog X.w X.K X.mg X.base A outer s1 HZ) (hd : A.handled = none)
    (un : Un (frs X.stack) [] H HZ s.heap s1.heap) (hns : h₁.Ns s1.heap.objs.size fun y => ([(a, ua), (b, ub)] : List (Str × Value)).reverse.lookup y) (kp : ∀ b o, s1.heap.get? b = some o → h₁.get? b = some o) :
    Inv (lamCx X A outer s1 HZ E scope f c') [] ((σ.set ja (some va)).set jb (some vb)) HZ { s1 with heap := h₁, toks := tk } := by
  have hfree := L.has I.ok
  have cm : ∀ {y c}, (cloFrom X.env.cells scope.names []).lookup y = some c → X.env.cells.lookup y = some c := fun {y c} e => by
    rcases cloFrom_mem (PySem.mem_of_lookup e) with hm | ⟨h1, h2⟩
    · cases hm
    · obtain ⟨c1, hc⟩ := hfree _ h1 rfl
      have hc : X.env.cells.lookup y = some c1 := hc
      have e2 : c = c1 := by
        rw [h2, hc] <;> rfl
      rw [e2]
      exact hc
  have look : ∀ {y}, scope.names.lookup y = some .free → ∃ c, (cloFrom X.env.cells scope.names []).lookup y = some c := fun {y} hl => by
    have hy : (y, NameKind.free) ∈ scope.names := PySem.mem_of_lookup hl
    exact mem_lookup (cloFrom_has (cells := X.env.cells) (acc := []) hy)
  have cellK : ∀ {c : Addr} {v : Option Value}, H c = none → s.heap.IsCell c v → h₁.IsCell c v := fun {c v} n ⟨o, ho, hd⟩ => by
    obtain ⟨sl, q⟩ := un.any ho n (by simp)
    exact ⟨_, kp _ _ q, hd⟩
  have noA : ∀ b : Addr, b ∉ (lamCx X A outer s1 HZ E scope f c').ex := fun b z => absurd (show b ∈ ([] : List Addr) from z) (by simp)
  have hla : ja < σ.length := by rw [I.len]; exact (List.getElem?_eq_some_iff.mp hja).1
  have hlb : jb < σ.length := by rw [I.len]; exact (List.getElem?_eq_some_iff.mp hjb).1
  have jne : ja ≠ jb := fun z => by
    rw [z, hjb] at hja
    exact L.ne (Option.some.inj hja).symm
  have sa : ((σ.set ja (some va)).set jb (some vb))[ja]? = some (some va) := by
    rw [List.getElem?_set_ne (Ne.symm jne), List.getElem?_set_self hla]
  have sb : ((σ.set ja (some va)).set jb (some vb))[jb]? = some (some vb) := List.getElem?_set_self (by simpa using hlb)
  refine ⟨⟨e0.mod, L.kind, rfl, rfl, Nat.le_refl _, fun y z c e1 e2 => I.ok.inj y z c (cm e1) (cm e2), fun y hy => ?_, fun y c z _ => ?_, fun _ => hd, Around.frames_deeper e0.frames, .inr ⟨rfl, rfl⟩, fun b z => absurd z (noA b), e0.bs, e0.bsz, fun b _ _ => noA b,
      fun b z => absurd z (noA b), e0.funs, e0.frf⟩,
    rfl, e0.bare, Un.kept kp, ⟨_, hns, fun i y v e1 e2 e3 => ?_⟩, fun y c e => ?_, e0.hok.fresh (Nat.le_refl _), fun y c e => ?_, fun q hq => absurd (show q ∈ ([] : List (Addr × Obj)) ++ [] from hq) (by simp), e0.hok.kept kp, ?_⟩
  · have hy : scope.names.lookup y = some .cell ∨ scope.names.lookup y = some .free := hy
    rcases hy with hy | hy
    · exact absurd rfl (L.own _ (PySem.mem_of_lookup hy)).1
    · exact look hy
  · have z : false = true := z
    cases z
  · have e3 : Vis scope y := e3
    have e1 : X.N[i]? = some y := e1
    rcases e3 with k | k | k
    · rcases (L.own _ (PySem.mem_of_lookup k)).2 rfl with rfl | rfl
      · have := nd_ix hN e1 hja
        subst this
        rw [sa] at e2
        cases e2
        refine ⟨ua, ra, .inl ⟨k, ?_⟩⟩
        have : (y == b) = false := by simpa using L.ne
        simp [List.lookup, this]
      · have := nd_ix hN e1 hjb
        subst this
        rw [sb] at e2
        cases e2
        refine ⟨ub, rb, .inl ⟨k, ?_⟩⟩
        simp [List.lookup]
    · exact absurd rfl (L.own _ (PySem.mem_of_lookup k)).1
    · have na : i ≠ ja := fun z => by
        rw [z, hja] at e1
        cases e1
        rw [show scope.names.lookup a = some .local from L.pa] at k
        cases k
      have nb : i ≠ jb := fun z => by
        rw [z, hjb] at e1
        cases e1
        rw [show scope.names.lookup b = some .local from L.pb] at k
        cases k
      rw [List.getElem?_set_ne (Ne.symm nb), List.getElem?_set_ne (Ne.symm na)] at e2
      obtain ⟨m, hn, hl⟩ := I.loc
      have hvis : Vis X.env.scope y := (L.free _ (PySem.mem_of_lookup k) rfl).elim (fun k => .inr (.inl k)) (fun k => .inr (.inr k))
      obtain ⟨w', r, q⟩ := hl i y v e1 e2 hvis
      obtain ⟨c2, h2⟩ := look k
      refine ⟨w', r, .inr ⟨.inr k, c2, h2, ?_⟩⟩
      have c1 := cm h2
      rcases q with ⟨k', _⟩ | ⟨_, c3, e', z⟩
      · have k' : X.env.scope.names.lookup y = some .local := k'
        rcases L.free _ (PySem.mem_of_lookup k) rfl with k2 | k2 <;> rw [show X.env.scope.names.lookup y = _ from k2] at k' <;> cases k'
      · rw [c1] at e'
        cases e'
        exact cellK (I.freeC y _ c1) z
  · obtain ⟨w', z⟩ := I.cell y c (cm e)
    exact ⟨w', cellK (I.freeC y c (cm e)) z⟩
  · obtain ⟨v, o, ho, hd⟩ := I.cell y c (cm e)
    exact un.free c o ho (I.freeC y c (cm e)) (by simp)
  · show ((σ.set ja (some va)).set jb (some vb)).length = X.N.length
    simpa using I.len
theorem act3 {CXg : CXT} {Eg : XK} {Ng : List Str} {qg : Str} {sg : Scope} {g f c' : Addr} {cdg pm ctv : Value} {params : Arguments} {body : Expr} {scope : Scope} {k i : Nat} {x a b : Str} {ja jb : Nat} {pn : List (Addr × Obj)} {xe : Value → Shared → Prop} {W : WX} {E : XK} {tb : TE} {p1 p2 : Pos} {e : Expr} {es : List Expr} {ta : TA}
    (I : Inv X pins σ H s) (L : LamN X.env.scope scope a b) (hNd : X.N.Nodup) (hja : X.N[ja]? = some a) (hjb : X.N[jb]? = some b) (hf : s.heap.get? f = some (PySem.W.kla_obj "<lambda>" (X.env.qual ++ "<lambda>") params body scope (cloFrom X.env.cells scope.names []) pm c' ctv)) (hfn : H f = none) (hfr : f ∉ frs X.stack)
    (hbind : ∀ u v : Value, bindArgs (PySem.W.kla_fn "<lambda>" (X.env.qual ++ "<lambda>") params body scope (cloFrom X.env.cells scope.names []) pm (.ref c') ctv) ⟨[u, v], []⟩ = pure [(a, u), (b, v)])
    (tk : Takes ((cxOf CXg X.prog X.w X.K X.mg X.base Ng qg sg g cdg X.A X.stack s H Eg).tr pn xe) W) (hW : ∀ cls d σ' H', E cls d H' → W cls d σ' H') (hr : Room (k + 1) (X.A.deeper (envOfC qg sg s.heap.objs.size g cdg)))
    (hbody : ∀ (A : Around) (outer : List Env) (s : Shared) (H : Hp), Room k (A.deeper (lamEnv X scope s.heap.objs.size f c')) → PE (lamCx X A outer s H E scope f c') body tb)
    (ha : PA ((cxOf CXg X.prog X.w X.K X.mg X.base Ng qg sg g cdg X.A X.stack s H Eg).tr pn xe) (e :: es) ta)
    (hN : Ng[i]? = some x) (hv : Vis sg x) (hd : (x == ("__debug__" : Str)) = false := by decide) (hcd : (x == ("__classdict__" : Str)) = false := by decide)
    (he : starEach (e :: es) ((cxOf CXg X.prog X.w X.K X.mg X.base Ng qg sg g cdg X.A X.stack s H Eg).tr pn xe).env = (false, eval e ((cxOf CXg X.prog X.w X.K X.mg X.base Ng qg sg g cdg X.A X.stack s H Eg).tr pn xe).env) :: starEach es ((cxOf CXg X.prog X.w X.K X.mg X.base Ng qg sg g cdg X.A X.stack s H Eg).tr pn xe).env := by rfl)
    (hpl : (backTo p2 (starEach es ((cxOf CXg X.prog X.w X.K X.mg X.base Ng qg sg g cdg X.A X.stack s H Eg).tr pn xe).env)).any (·.1) = false := by rfl) :
    PE ((cxOf CXg X.prog X.w X.K X.mg X.base Ng qg sg g cdg X.A X.stack s H Eg).tr pn xe) (.Call (.Name x p1) (e :: es) [] p2)
      (fun σZ HZ Q => σZ[i]? = some (some (.ref f)) ∧ ta σZ HZ fun vs HZ1 => ∃ va vb, vs = [va, vb] ∧ HZ1 c' = some (CodeO c' (X.env.qual ++ "<lambda>")) ∧ tb ((σ.set ja (some va)).set jb (some vb)) HZ1 Q) := by
  refine ⟨fun pinsZ sZ σZ HZ0 Q IZ h => ?_⟩
  obtain ⟨hs, ht⟩ := h
  refine wpAny_Call_Name_kw (thn ((pe_var (pos := p1) (i := i) hN hv hd hcd).run pinsZ sZ σZ HZ0 (fun v H1 => v = .ref f ∧ H1 = HZ0) IZ ⟨.ref f, hs, rfl, rfl⟩) fun u s1 ⟨v, H1, I1, r1, q1⟩ => ?_)
  obtain ⟨ev, eH⟩ := q1
  subst ev
  rw [eH] at I1
  obtain rfl : u = Value.ref f := r1
  have ofAt : ∀ {sy : Shared} {Hy : Hp}, Inv ((cxOf CXg X.prog X.w X.K X.mg X.base Ng qg sg g cdg X.A X.stack s H Eg).tr pn xe) pinsZ σZ Hy sy → sy.heap.get? f = some (PySem.W.kla_obj "<lambda>" (X.env.qual ++ "<lambda>") params body scope (cloFrom X.env.cells scope.names []) pm c' ctv) := fun J => J.base.keep f _ hf hfn hfr (fun z => nomatch (show f ∈ ([] : List Addr) from z))
  refine PySem.W.callWith_F ⟨_, _, _, _, ofAt I1⟩ (thn (ha.run p2 pinsZ s1 σZ HZ0 _ I1 ht) fun us s2 ⟨vs, HZ, I2, r, va, vb, evs, hc, htb⟩ => ⟨⟨_, _, _, _, ofAt I2⟩, ?_⟩) he hpl
  subst evs
  obtain ⟨ua, ub, rfl, ra, rb⟩ : ∃ ua ub, us = [ua, ub] ∧ RelV va ua ∧ RelV vb ub := by
    cases r with
    | cons r1 r2 => cases r2 with | cons r2 r3 => cases r3; exact ⟨_, _, rfl, r1, r2⟩
  have of1 := ofAt I2
  have un : Un (frs X.stack) [] H HZ s.heap s2.heap := I2.base
  obtain ⟨⟨oc, vs, t, hoc, hdc, hvc⟩, _, _⟩ := I2.hok c' _ hc
  have rc : codeAny (model X.prog X.w) (X.A.deeper (envOfC qg sg s.heap.objs.size g cdg)) (.call (.ref f) ⟨[ua, ub], []⟩) (CR (L2.CX X.prog X.w) (envOfC qg sg s.heap.objs.size g cdg :: X.stack) X.prog X.w HZ s2 Q E) s2 := by
    refine PySem.W.kla_callFunE hr.depth of1 rfl L.co L.gen rfl ⟨c', oc, vs, t, rfl, hoc, hdc, hvc⟩ ?_
    rw [hbind]
    refine wpAny_pure (wpAny_newFunctionEnv (fun y hy => (L.own y hy).1) (fun y hy => ?_) (fun h₁ hns hsb => ⟨I2.nolimit.fresh _ hsb, ?_⟩) L.kind)
    · rcases List.mem_cons.mp hy with rfl | hy
      · exact L.pa
      · rcases List.mem_cons.mp hy with rfl | hy
        · exact L.pb
        · cases hy
    show codeAny _ _ (.expr body (lamEnv X scope s2.heap.objs.size f c')) _ _
    have kp : ∀ b o, s2.heap.get? b = some o → h₁.get? b = some o := fun b o e => hsb.extBut b o (Nat.ne_of_lt (Heap.lt_size e)) (Heap.get?_push_of_some _ e)
    have J : Inv (lamCx X (X.A.deeper (envOfC qg sg s.heap.objs.size g cdg)) (envOfC qg sg s.heap.objs.size g cdg :: X.stack) s2 HZ E scope f c') [] ((σ.set ja (some va)).set jb (some vb)) HZ { s2 with heap := h₁, toks := s2.toks + ([(a, ua), (b, ub)] : List (Str × Value)).length } :=
      start3 I L hNd hja hjb ra rb I2.env0 hr.hd un hns kp
    refine PySem.W.kla_codeExpr (wpAny_mono ((hbody _ _ s2 HZ (hr.deeper _)).run [] _ _ HZ Q J htb) (fun v s' hq => ?_) fun e s' hq => hq)
    obtain ⟨w', H', J', rv, q⟩ := hq
    exact ⟨w', H', J'.os, J'.bare, J'.base, J'.hok, rv, q⟩
  have hx : Passes (L2.CX X.prog X.w) ((cxOf CXg X.prog X.w X.K X.mg X.base Ng qg sg g cdg X.A X.stack s H Eg).tr pn xe) E := passes_call tk hW
  refine wpAny_call (codeAny_mono rc fun r s' hq => ?_)
  cases r with
  | error e => exact hx pinsZ σZ HZ s2 e s' I2 hq
  | ok fl =>
    cases fl with
    | ret u => exact I2.after hq
    | next => exact False.elim hq
    | brk => exact False.elim hq
    | cont => exact False.elim hq
end
def Made (q : Str) (P : Addr) (ps : Array Value) (H H1 : Hp) (c' : Addr) : Prop :=
  (∃ ps' : Array Value, H1 = upd (upd H P (.tbl ps')) c' (CodeO c' q) ∧ H c' = none ∧ c' ≠ P ∧ TriplesOk ps'.toList ∧ ∀ (pos : Pos) (cv : Value), codeAmong pos ps'.toList = some cv → codeAmong pos ps.toList = some cv ∨ cv = .ref c') ∨
    (H1 = H ∧ ∃ pos, codeAmong pos ps.toList = some (.ref c'))
def tLam3 (q : Str) (P : Addr) (t1 : TE) (TT : Addr → Addr → L2.St → V → Hp → VK → Prop) : TE := fun σ H Q => t1 σ H fun v1 H0 => ∃ ps : Array Value, H0 P = some (.tbl ps) ∧ TriplesOk ps.toList ∧ (∀ (pos : Pos) (cv : Value), codeAmong pos ps.toList = some cv → ∃ c, cv = .ref c ∧ H0 c = some (CodeO c q)) ∧
  ∀ f c' H1, Made q P ps H0 H1 c' → H1 f = none → TT f c' σ v1 H1 Q
section
variable {X : Cx}
theorem lamcall3 {x : Str} {g c P : Addr} {k : Nat} {pg : Arguments} {bg : List Stmt} {sg : Scope} {dV kV doc pm cdv ct oc : Value} {an od : Option Addr} {osl : Array (Option Value)} {Ng : List Str} {pa pb a b : Str} {e1 : Expr} {t1 : TE} {TT : Addr → Addr → L2.St → V → Hp → VK → Prop}
    {params : Arguments} {body : Expr} {scope : Scope} {p lpos pos : Pos} (hg : Gl X x) (hm : X.mg x = some (.ref g)) (hk : PySem.W.keepIn X.K (.ref g) = true)
    (lk : X.K.lookup g = some ⟨oc, od, .func (PySem.W.fnOf x x pg bg sg dV kV doc pm an cdv ct), osl⟩) (hcg : PySem.W.codeIn X.K cdv x = true) (hb : L2.Binds X.K (PySem.W.fnOf x x pg bg sg dV kV doc pm an cdv ct) [pa, pb] []) (Sg : FnScope Ng [pa, pb] sg)
    (he1 : PE X e1 t1) (TB : TabB X.base X.mg c P) (hcode : X.env.code = .ref c) (hr : Room (k + 2) X.A) (L : LamN X.env.scope scope a b) (hdef : defaultsOf params X.env = ([], []))
    (hG : ∀ (pins : List (Addr × Obj)) (s' : Shared) (σ : L2.St) (H1 : Hp) (f c' : Addr) (pm ctv : Value) (v1 : V) (Q : VK), Inv X pins σ H1 s' → s'.heap.get? f = some (PySem.W.kla_obj "<lambda>" (X.env.qual ++ "<lambda>") params body scope (cloFrom X.env.cells scope.names []) pm c' ctv) → H1 f = none → f ∉ frs X.stack →
      Room (k + 1) (X.A.deeper (envOfC x sg s'.heap.objs.size g cdv)) → TT f c' σ v1 H1 Q →
      ∃ t, PSs (cxOf (L2.CX X.prog X.w) X.prog X.w X.K X.mg X.base Ng x sg g cdv X.A X.stack s' H1 (fun _ _ _ => False)) bg t ∧ t { nx := fun _ H' => Q .non H', rt := Q } (L2.start Ng [v1, .ref f]) H1)
    (hdb : (x == ("__debug__" : Str)) = false := by decide) (hs1 : starEach [e1, .Lambda params body scope lpos] X.env = (false, eval e1 X.env) :: starEach [.Lambda params body scope lpos] X.env := by rfl) :
    PE X (.Call (.Name x p) [e1, .Lambda params body scope lpos] [] pos) (tLam3 (X.env.qual ++ "<lambda>") P t1 TT) := by
  refine ⟨fun pins s σ H Q I h => ?_⟩
  refine wpAny_Call_Name_kw (ld_glob I hg hm ?_ hdb)
  refine PySem.W.callWith_K (h₀ := X.base) I.ok.mod.kin hk ?_ hs1 (by rfl)
  rw [hs1]
  show wpAny _ _ (spliced ((false, eval e1 X.env) :: backTo pos (starEach [.Lambda params body scope lpos] X.env))) _ _ s
  refine Calls.spliced_cons (thn (he1.run pins s σ H _ I h) fun u1 s1 ⟨v1, H0, I0, r1, ps, hP, ht, ha, hT⟩ => ?_)
  show wpAny _ _ (spliced ((false, eval (.Lambda params body scope lpos) X.env) :: backTo pos (starEach [] X.env))) _ _ s1
  refine Calls.spliced_cons (make3 I0 TB hcode hP ht ha hdef (L.has I0.ok) fun f c' pm' ctv H1 s' I1 hmade hf hfn hfr => ?_)
  refine Calls.spliced_nil ⟨I1.kIn, ?_⟩
  have rc : codeAny (model X.prog X.w) X.A (.call (.ref g) ⟨[u1, .ref f], []⟩) (CR (L2.CX X.prog X.w) X.stack X.prog X.w H1 s' Q (fun _ _ _ => False)) s' :=
    run_ofS (N := Ng) (ps := [pa, pb]) (us := [u1, .ref f]) (vs := [v1, .ref f]) lk hcg Sg hr I1.env0 (hb s' [u1, .ref f] I1.kIn rfl) (.cons r1 (.cons rfl .nil)) rfl fun hr' => hG pins s' σ H1 f c' pm' ctv v1 Q I1 hf hfn hfr hr' (hT f c' H1 hmade hfn)
  refine wpAny_call (codeAny_mono rc fun r s2 hq => ?_)
  cases r with
  | error e =>
    obtain ⟨_, _, _, _, _, _, _, _, _, _, _, _, z⟩ := hq
    exact z.elim
  | ok fl =>
    cases fl with
    | ret u => exact I1.after hq
    | next => exact False.elim hq
    | brk => exact False.elim hq
    | cont => exact False.elim hq
end
end LamP
namespace Dn
open PySem PySem.Spec PyProof.Rows L2
inductive D where
  | non | bl (b : Bool) | int (i : Int) | str (x : Str) | tup (l : List D) | lst (l : List D) | obj (c : Nat) (l : List D) | scr (l : List Int) | ptr (n : Nat)
inductive Ob where | lst (l : List D) | ins (c : Nat) (l : List D) | tbl (q : Str) | dct (l : List (Str × D))
abbrev Sto := List Ob
structure Gm where
  K : PySem.W.Frag
  ca : Nat → Addr
  fn : Nat → List Str
  ea : Addr
  cl : List (Option V) := []
  cc : Addr := 0
  cq : Str := Str.empty
  tb : List Addr := []
  ed : Option Addr := none
  en : List Str := []
  el : List D := []
structure Hs where
  as : List Addr
  f : Hp
  h : Hp
mutual
inductive Is (G : Gm) (as : List Addr) (H : Hp) : V → D → Prop
  | non : Is G as H .non .non
  | bl (b : Bool) : Is G as H (.bl b) (.bl b)
  | int (i : Int) : Is G as H (.int i) (.int i)
  | str (x : Str) : Is G as H (.str x) (.str x)
  | tup {a : Addr} {xs : List V} {ds : List D} : SqT G.K H a xs → IsL G as H xs ds → Is G as H (.ref a) (.tup ds)
  | lst {a : Addr} {xs : List V} {ds : List D} : H a = some (.lst xs) → IsL G as H xs ds → Is G as H (.ref a) (.lst ds)
  | obj {a dx : Addr} {c : Nat} {xs : List V} {ds : List D} : H a = some (.ins (G.ca c) dx ((G.fn c).zip xs)) → (G.fn c).length = xs.length → IsL G as H xs ds → Is G as H (.ref a) (.obj c ds)
  | scr {a : Addr} {l : List Int} : SqL G.K H a (l.map V.int) → Is G as H (.ref a) (.scr l)
  | ptr {a : Addr} {n : Nat} : as[n]? = some a → Is G as H (.ref a) (.ptr n)
inductive IsL (G : Gm) (as : List Addr) (H : Hp) : List V → List D → Prop
  | nil : IsL G as H [] []
  | cons {v : V} {vs : List V} {d : D} {ds : List D} : Is G as H v d → IsL G as H vs ds → IsL G as H (v :: vs) (d :: ds)
end
def Ext (as bs : List Addr) : Prop := ∀ (n : Nat) (a : Addr), as[n]? = some a → bs[n]? = some a
theorem Ext.refl (as : List Addr) : Ext as as := fun _ _ h => h
theorem Ext.trans {as bs cs : List Addr} (x : Ext as bs) (y : Ext bs cs) : Ext as cs := fun n a h => y n a (x n a h)
theorem Ext.mem {as bs : List Addr} (x : Ext as bs) {a : Addr} (h : a ∈ as) : a ∈ bs := by
  obtain ⟨n, hn⟩ := List.mem_iff_getElem?.mp h
  exact List.mem_iff_getElem?.mpr ⟨n, x n a hn⟩
theorem Ext.app (as bs : List Addr) : Ext as (as ++ bs) := fun n a h => by
  rw [List.getElem?_append_left (List.getElem?_eq_some_iff.mp h).1]; exact h
theorem same_t {K : PySem.W.Frag} {H H' : Hp} {a : Addr} {xs : List V} (e : Same H H') (h : SqT K H a xs) : SqT K H' a xs := by
  rcases h with (h | ⟨o, h⟩) | h
  · exact .inl (.inl (e _ _ h))
  · exact .inl (.inr ⟨o, e _ _ h⟩)
  · exact .inr h
mutual
theorem Is.mono {G : Gm} {as bs : List Addr} {H H' : Hp} (x : Ext as bs) (e : Same H H') : ∀ (d : D) {v : V}, Is G as H v d → Is G bs H' v d
  | .non, _, h => by cases h; exact .non
  | .bl _, _, h => by cases h; exact .bl _
  | .int _, _, h => by cases h; exact .int _
  | .str _, _, h => by cases h; exact .str _
  | .tup ds, _, h => by cases h with | tup a b => exact .tup (same_t e a) (IsL.mono x e ds b)
  | .lst ds, _, h => by cases h with | lst a b => exact .lst (e _ _ a) (IsL.mono x e ds b)
  | .scr l, _, h => by cases h with | scr a => exact .scr (e.seq a)
  | .ptr n, _, h => by cases h with | ptr a => exact .ptr (x _ _ a)
  | .obj c ds, _, h => by cases h with | obj a l b => exact .obj (e _ _ a) l (IsL.mono x e ds b)
theorem IsL.mono {G : Gm} {as bs : List Addr} {H H' : Hp} (x : Ext as bs) (e : Same H H') : ∀ (ds : List D) {vs : List V}, IsL G as H vs ds → IsL G bs H' vs ds
  | [], _, h => by cases h; exact .nil
  | d :: ds, _, h => by cases h with | cons a b => exact .cons (Is.mono x e d a) (IsL.mono x e ds b)
end
def Gm.at_ (G : Gm) (a : Addr) : Gm := { G with ea := a }
mutual
theorem Is.ea {G : Gm} {as : List Addr} {H : Hp} (x : Addr) : ∀ (d : D) {v : V}, Is G as H v d → Is (G.at_ x) as H v d
  | .non, _, h => by cases h; exact .non
  | .bl _, _, h => by cases h; exact .bl _
  | .int _, _, h => by cases h; exact .int _
  | .str _, _, h => by cases h; exact .str _
  | .tup ds, _, h => by cases h with | tup a b => exact .tup a (IsL.ea x ds b)
  | .lst ds, _, h => by cases h with | lst a b => exact .lst a (IsL.ea x ds b)
  | .scr l, _, h => by cases h with | scr a => exact .scr a
  | .ptr n, _, h => by cases h with | ptr a => exact .ptr a
  | .obj c ds, _, h => by cases h with | obj a l b => exact .obj a l (IsL.ea x ds b)
theorem IsL.ea {G : Gm} {as : List Addr} {H : Hp} (x : Addr) : ∀ (ds : List D) {vs : List V}, IsL G as H vs ds → IsL (G.at_ x) as H vs ds
  | [], _, h => by cases h; exact .nil
  | d :: ds, _, h => by cases h with | cons a b => exact .cons (Is.ea x d a) (IsL.ea x ds b)
end
section
variable {G : Gm} {as bs : List Addr} {H H' : Hp}
theorem Is.up {v : V} {d : D} (h : Is G as H v d) (x : Ext as bs) (e : Same H H') : Is G bs H' v d := Is.mono x e d h
theorem IsL.up {v : List V} {d : List D} (h : IsL G as H v d) (x : Ext as bs) (e : Same H H') : IsL G bs H' v d := IsL.mono x e d h
theorem IsL.len : ∀ {ds : List D} {vs : List V}, IsL G as H vs ds → vs.length = ds.length
  | [], _, h => by cases h; rfl
  | d :: ds, _, h => by cases h with | cons a b => exact congrArg Nat.succ b.len
theorem IsL.get : ∀ {ds : List D} {vs : List V} {i : Nat} {d : D}, IsL G as H vs ds → ds[i]? = some d → ∃ v, vs[i]? = some v ∧ Is G as H v d
  | [], _, _, _, _, e => by simp at e
  | d :: ds, _, 0, _, h, e => by cases h with | cons a b => simp at e; subst e; exact ⟨_, rfl, a⟩
  | d :: ds, _, i + 1, _, h, e => by
    cases h with
    | cons a b =>
      obtain ⟨v, h1, h2⟩ := IsL.get (i := i) b (by simpa using e)
      exact ⟨v, by simpa using h1, h2⟩
theorem IsL.getV {ds : List D} {vs : List V} {i : Nat} {v : V} (h : IsL G as H vs ds) (e : vs[i]? = some v) : ∃ d, ds[i]? = some d ∧ Is G as H v d := by
  have hl := h.len
  have hi : i < vs.length := (List.getElem?_eq_some_iff.mp e).1
  have : ds[i]? = some (ds[i]'(by omega)) := List.getElem?_eq_getElem (by omega)
  obtain ⟨w, h1, h2⟩ := h.get this
  rw [e] at h1
  cases h1
  exact ⟨_, this, h2⟩
theorem IsL.append : ∀ {ds es : List D} {vs ws : List V}, IsL G as H vs ds → IsL G as H ws es → IsL G as H (vs ++ ws) (ds ++ es)
  | [], _, _, _, h, k => by cases h; exact k
  | d :: ds, _, _, _, h, k => by cases h with | cons a b => exact .cons a (IsL.append b k)
theorem IsL.one {v : V} {d : D} (h : Is G as H v d) : IsL G as H [v] [d] := .cons h .nil
theorem IsL.take : ∀ (n : Nat) {ds : List D} {vs : List V}, IsL G as H vs ds → IsL G as H (vs.take n) (ds.take n)
  | 0, _, _, _ => .nil
  | n + 1, [], _, h => by cases h; exact .nil
  | n + 1, d :: ds, _, h => by cases h with | cons a b => exact .cons a (IsL.take n b)
theorem IsL.drop : ∀ (n : Nat) {ds : List D} {vs : List V}, IsL G as H vs ds → IsL G as H (vs.drop n) (ds.drop n)
  | 0, _, _, h => h
  | n + 1, [], _, h => by cases h; exact .nil
  | n + 1, d :: ds, _, h => by cases h with | cons a b => exact IsL.drop n b
theorem IsL.set {v : V} {d : D} (q : Is G as H v d) : ∀ (n : Nat) {ds : List D} {vs : List V}, IsL G as H vs ds → IsL G as H (vs.set n v) (ds.set n d)
  | _, [], _, h => by cases h; exact .nil
  | 0, _ :: ds, _, h => by cases h with | cons a b => exact .cons q b
  | n + 1, _ :: ds, _, h => by cases h with | cons a b => exact .cons a (IsL.set q n b)
theorem IsL.eraseIdx : ∀ (n : Nat) {ds : List D} {vs : List V}, IsL G as H vs ds → IsL G as H (vs.eraseIdx n) (ds.eraseIdx n)
  | _, [], _, h => by cases h; exact .nil
  | 0, _ :: ds, _, h => by cases h with | cons a b => exact b
  | n + 1, _ :: ds, _, h => by cases h with | cons a b => exact .cons a (IsL.eraseIdx n b)
theorem IsL.reverse : ∀ {ds : List D} {vs : List V}, IsL G as H vs ds → IsL G as H vs.reverse ds.reverse
  | [], _, h => by cases h; exact .nil
  | d :: ds, _, h => by
    cases h with
    | cons a b =>
      rw [List.reverse_cons, List.reverse_cons]
      exact (IsL.reverse b).append (.one a)
inductive KsR (G : Gm) (as : List Addr) (H : Hp) : List (Key × V) → List (Str × D) → Prop
  | nil : KsR G as H [] []
  | cons {x : Str} {v : V} {d : D} {ps : List (Key × V)} {ds : List (Str × D)} : Is G as H v d → KsR G as H ps ds → KsR G as H ((.inr x, v) :: ps) ((x, d) :: ds)
theorem KsR.up {ps : List (Key × V)} {ds : List (Str × D)} (h : KsR G as H ps ds) (x : Ext as bs) (e : Same H H') : KsR G bs H' ps ds := by
  induction h with
  | nil => exact .nil
  | cons a b ih => exact .cons (a.up x e) ih
theorem KsR.ea {ps : List (Key × V)} {ds : List (Str × D)} (x : Addr) (h : KsR G as H ps ds) : KsR (G.at_ x) as H ps ds := by
  induction h with
  | nil => exact .nil
  | cons a b ih => exact .cons (Is.ea x _ a) ih
def flat : D → Bool
  | .non | .bl _ | .int _ | .str _ => true
  | _ => false
theorem Is.flat (bs : List Addr) (H' : Hp) {v : V} {d : D} (h : Is G as H v d) (f : flat d = true) : Is G bs H' v d := by
  cases h <;> first | exact .non | exact .bl _ | exact .int _ | exact .str _ | cases f
end
theorem same_new {H : Hp} {p : Addr} {o : HO} (h : H p = none) : Same H (upd H p o) := fun a u e => by
  rw [upd_ne (ne_of_none e h)]
  exact e
structure Gro (s t : Hs) : Prop where
  a : Ext s.as t.as
  f : Same s.f t.f
  h : ∀ p o, s.h p = some o → p ∉ s.as → t.h p = some o
  sf : Same t.f t.h
  n : ∀ p o, s.h p = some o → s.f p = none → t.f p = none
  w : ∀ x, x ∈ t.as → x ∈ s.as ∨ s.h x = none
  z : ∀ x, x ∈ t.as → t.f x = none
theorem Gro.trans {s t u : Hs} (x : Gro s t) (y : Gro t u) : Gro s u where
  a := x.a.trans y.a
  f := x.f.trans y.f
  h := fun p o e q => y.h p o (x.h p o e q) fun m => (x.w p m).elim q fun z => by rw [e] at z; cases z
  sf := y.sf
  n := fun p o e q => by
    by_cases m : p ∈ s.as
    · exact y.z p (y.a.mem (x.a.mem m))
    · exact y.n p o (x.h p o e m) (x.n p o e q)
  w := fun p m => (y.w p m).elim (fun m => x.w p m) fun z => by
    by_cases m : p ∈ s.as
    · exact .inl m
    · cases e : s.h p with
      | none => exact .inr rfl
      | some o => rw [x.h p o e m] at z; cases z
  z := y.z
def ObOk (G : Gm) (s : Hs) (a : Addr) : Ob → Prop
  | .lst ds => ∃ vs, s.h a = some (.lst vs) ∧ IsL G s.as s.f vs ds
  | .ins c ds => ∃ dx vs, s.h a = some (.ins (G.ca c) dx ((G.fn c).zip vs)) ∧ vs.length ≤ (G.fn c).length ∧ IsL G s.as s.f vs ds
  | .tbl q => ∃ ps : Array Value, s.h a = some (.tbl ps) ∧ TriplesOk ps.toList ∧ ∀ (pos : Pos) (cv : Value), codeAmong pos ps.toList = some cv → ∃ c, cv = .ref c ∧ s.f c = some (LamX.CodeO c q)
  | .dct l => ∃ kvs : List (Key × V), s.h a = some (.dK kvs) ∧ KsR G s.as s.f kvs l
def ExF (G : Gm) (s : Hs) : Prop := ∀ da, G.ed = some da → ∃ xs, s.f da = some (.xd (G.en.zip xs)) ∧ G.en.length = xs.length ∧ IsL G s.as s.f xs G.el
theorem ExF.up {G : Gm} {s t : Hs} (k : ExF G s) (a : Ext s.as t.as) (f : Same s.f t.f) : ExF G t := fun da h => by
  obtain ⟨xs, h1, h2, h3⟩ := k da h
  exact ⟨xs, f _ _ h1, h2, h3.up a f⟩
structure StOk (G : Gm) (s : Hs) (st : Sto) : Prop where
  sf : Same s.f s.h
  len : s.as.length = st.length
  nd : s.as.Nodup
  ob : ∀ (n : Nat) (a : Addr) (o : Ob), s.as[n]? = some a → st[n]? = some o → ObOk G s a o
  nf : ∀ x, x ∈ s.as → s.f x = none
  tb : ∀ (n : Nat) (P : Addr), G.tb[n]? = some P → s.as[n]? = some P
  ex : ExF G s
theorem Gro.refl {G : Gm} {s : Hs} {st : Sto} (o : StOk G s st) : Gro s s := ⟨Ext.refl _, Same.refl _, fun _ _ e _ => e, o.sf, fun _ _ _ q => q, fun _ m => .inl m, o.nf⟩
theorem StOk.in_ {G : Gm} {s : Hs} {st : Sto} (o : StOk G s st) {x : Addr} (m : x ∈ s.as) : ∃ u, s.h x = some u := by
  obtain ⟨n, hn⟩ := List.mem_iff_getElem?.mp m
  have hl : n < st.length := by rw [← o.len]; exact (List.getElem?_eq_some_iff.mp hn).1
  have q := o.ob n x st[n] hn (List.getElem?_eq_getElem hl)
  cases e : st[n] with
  | lst ds => rw [e] at q; obtain ⟨vs, h, _⟩ := q; exact ⟨_, h⟩
  | ins c ds => rw [e] at q; obtain ⟨dx, vs, h, _⟩ := q; exact ⟨_, h⟩
  | tbl w => rw [e] at q; obtain ⟨ps, h, _⟩ := q; exact ⟨_, h⟩
  | dct l => rw [e] at q; obtain ⟨ps, h, _⟩ := q; exact ⟨_, h⟩
theorem StOk.new {G : Gm} {s : Hs} {st : Sto} (o : StOk G s st) {p : Addr} (h : s.h p = none) : p ∉ s.as := fun m => by
  obtain ⟨u, e⟩ := o.in_ m
  rw [h] at e; cases e
theorem ObOk.keep {G : Gm} {s t : Hs} {a : Addr} {o : Ob} (q : ObOk G s a o) (x : Ext s.as t.as) (f : Same s.f t.f) (h : ∀ u, s.h a = some u → t.h a = some u) : ObOk G t a o := by
  cases o with
  | lst ds => obtain ⟨vs, h1, h2⟩ := q; exact ⟨vs, h _ h1, h2.up x f⟩
  | ins c ds => obtain ⟨dx, vs, h1, hl, h2⟩ := q; exact ⟨dx, vs, h _ h1, hl, h2.up x f⟩
  | tbl w =>
    obtain ⟨ps, h1, h2, h3⟩ := q
    refine ⟨ps, h _ h1, h2, fun pos cv hc => ?_⟩
    obtain ⟨c, e1, e2⟩ := h3 pos cv hc
    exact ⟨c, e1, f _ _ e2⟩
  | dct l => obtain ⟨kvs, h1, h2⟩ := q; exact ⟨kvs, h _ h1, h2.up x f⟩
theorem Gro.new {G : Gm} {s : Hs} {st : Sto} {p : Addr} {o : HO} (k : StOk G s st) (h : s.h p = none) : Gro s ⟨s.as, upd s.f p o, upd s.h p o⟩ := by
  refine ⟨Ext.refl _, same_new (k.sf.free h), fun a u e _ => ?_, fun a u e => ?_, fun a u e q => ?_, fun _ m => .inl m, fun x m => ?_⟩
  · show upd s.h p o a = some u
    rw [upd_ne (ne_of_none e h)]; exact e
  · have e' : upd s.f p o a = some u := e
    show upd s.h p o a = some u
    by_cases z : a = p
    · subst z; rw [upd_same] at e' ⊢; exact e'
    · rw [upd_ne z] at e' ⊢; exact k.sf _ _ e'
  · show upd s.f p o a = none
    rw [upd_ne (ne_of_none e h)]; exact q
  · show upd s.f p o x = none
    have : x ≠ p := fun z => by subst z; exact k.new h m
    rw [upd_ne this]; exact k.nf x m
theorem Gro.loose {G : Gm} {s : Hs} {st : Sto} {p : Addr} {o : HO} (k : StOk G s st) (h : s.h p = none) : Gro s ⟨s.as, s.f, upd s.h p o⟩ :=
  ⟨Ext.refl _, Same.refl _, fun a u e _ => by show upd s.h p o a = some u; rw [upd_ne (ne_of_none e h)]; exact e, k.sf.trans (same_new h), fun _ _ _ q => q, fun _ m => .inl m, k.nf⟩
theorem StOk.grow {G : Gm} {s : Hs} {st : Sto} {p : Addr} {o : HO} (k : StOk G s st) (h : s.h p = none) : StOk G ⟨s.as, upd s.f p o, upd s.h p o⟩ st := by
  have g := Gro.new (o := o) k h
  refine ⟨g.sf, k.len, k.nd, fun n a b e1 e2 => (k.ob n a b e1 e2).keep g.a g.f fun u e => ?_, g.z, k.tb, k.ex.up g.a g.f⟩
  show upd s.h p o a = some u
  rw [upd_ne (ne_of_none e h)]; exact e
theorem StOk.loose {G : Gm} {s : Hs} {st : Sto} {p : Addr} {o : HO} (k : StOk G s st) (h : s.h p = none) : StOk G ⟨s.as, s.f, upd s.h p o⟩ st := by
  have g := Gro.loose (o := o) k h
  refine ⟨g.sf, k.len, k.nd, fun n a b e1 e2 => (k.ob n a b e1 e2).keep g.a g.f fun u e => ?_, g.z, k.tb, k.ex.up g.a g.f⟩
  show upd s.h p o a = some u
  rw [upd_ne (ne_of_none e h)]; exact e
theorem Gro.ice {G : Gm} {s t : Hs} {st : Sto} {p : Addr} {o : HO} (g : Gro s t) (k : StOk G t st) (hp : t.h p = some o) (hs : s.h p = none) (hf : t.f p = none) (ha : p ∉ t.as) : Gro s ⟨t.as, upd t.f p o, t.h⟩ := by
  refine ⟨g.a, g.f.trans (same_new hf), g.h, fun a u e => ?_, fun a u e q => ?_, g.w, fun x m => ?_⟩
  · have e' : upd t.f p o a = some u := e
    show t.h a = some u
    by_cases z : a = p
    · subst z; rw [upd_same] at e'; rw [← e']; exact hp
    · rw [upd_ne z] at e'; exact g.sf _ _ e'
  · show upd t.f p o a = none
    rw [upd_ne (ne_of_none e hs)]; exact g.n _ _ e q
  · show upd t.f p o x = none
    have : x ≠ p := fun z => by subst z; exact ha m
    rw [upd_ne this]; exact g.z x m
theorem StOk.ice {G : Gm} {t : Hs} {st : Sto} {p : Addr} {o : HO} (k : StOk G t st) (hp : t.h p = some o) (hf : t.f p = none) (ha : p ∉ t.as) : StOk G ⟨t.as, upd t.f p o, t.h⟩ st := by
  refine ⟨fun a u e => ?_, k.len, k.nd, fun n a b e1 e2 => (k.ob n a b e1 e2).keep (Ext.refl _) (same_new hf) fun u e => e, fun x m => ?_, k.tb, k.ex.up (Ext.refl _) (same_new hf)⟩
  · have e' : upd t.f p o a = some u := e
    show t.h a = some u
    by_cases z : a = p
    · subst z; rw [upd_same] at e'; rw [← e']; exact hp
    · rw [upd_ne z] at e'; exact k.sf _ _ e'
  · show upd t.f p o x = none
    have : x ≠ p := fun z => by subst z; exact ha m
    rw [upd_ne this]; exact k.nf x m
theorem Gro.chg {s t : Hs} {p : Addr} {o : HO} (g : Gro s t) (h : s.h p = none) (hf : t.f p = none) : Gro s ⟨t.as, t.f, upd t.h p o⟩ :=
  ⟨g.a, g.f, fun a u e q => by show upd t.h p o a = some u; rw [upd_ne (ne_of_none e h)]; exact g.h _ _ e q, fun a u e => by show upd t.h p o a = some u; rw [upd_ne (ne_of_none e hf)]; exact g.sf _ _ e, g.n, g.w, g.z⟩
theorem StOk.chg {G : Gm} {t : Hs} {st : Sto} {p : Addr} {o : HO} (k : StOk G t st) (hf : t.f p = none) (ha : p ∉ t.as) : StOk G ⟨t.as, t.f, upd t.h p o⟩ st := by
  refine ⟨fun a u e => by show upd t.h p o a = some u; rw [upd_ne (ne_of_none e hf)]; exact k.sf _ _ e, k.len, k.nd, fun n a b e1 e2 => (k.ob n a b e1 e2).keep (Ext.refl _) (Same.refl _) fun u e => ?_, k.nf, k.tb, k.ex.up (Ext.refl _) (Same.refl _)⟩
  show upd t.h p o a = some u
  have : a ≠ p := fun z => by subst z; exact ha (List.mem_iff_getElem?.mpr ⟨n, e1⟩)
  rw [upd_ne this]; exact e
theorem Gro.put {G : Gm} {s t : Hs} {st : Sto} {p : Addr} (g : Gro s t) (k : StOk G t st) (hs : s.h p = none) (hf : t.f p = none) : Gro s ⟨t.as ++ [p], t.f, t.h⟩ := by
  refine ⟨g.a.trans (Ext.app _ _), g.f, g.h, g.sf, g.n, fun x m => ?_, fun x m => ?_⟩
  · rcases List.mem_append.mp m with m | m
    · exact g.w x m
    · have : x = p := by simpa using m
      subst this; exact .inr hs
  · rcases List.mem_append.mp m with m | m
    · exact g.z x m
    · have : x = p := by simpa using m
      subst this; exact hf
theorem StOk.put {G : Gm} {t : Hs} {st : Sto} {p : Addr} {o : Ob} (k : StOk G t st) (hf : t.f p = none) (ha : p ∉ t.as) (ho : ObOk G ⟨t.as ++ [p], t.f, t.h⟩ p o) : StOk G ⟨t.as ++ [p], t.f, t.h⟩ (st ++ [o]) := by
  refine ⟨k.sf, by simp [k.len], ?_, fun n a b e1 e2 => ?_, fun x m => ?_, fun n P h => Ext.app _ _ n P (k.tb n P h), k.ex.up (Ext.app _ _) (Same.refl _)⟩
  · show (t.as ++ [p]).Nodup
    rw [List.nodup_append]
    refine ⟨k.nd, by simp, fun a h1 b h2 z => ?_⟩
    have : b = p := by simpa using h2
    subst this; subst z; exact ha h1
  · have e1' : (t.as ++ [p])[n]? = some a := e1
    by_cases hn : n < t.as.length
    · rw [List.getElem?_append_left hn] at e1'
      rw [List.getElem?_append_left (by rw [← k.len]; exact hn)] at e2
      exact (k.ob n a b e1' e2).keep (Ext.app _ _) (Same.refl _) fun u e => e
    · have hn' : n = t.as.length := by
        have := (List.getElem?_eq_some_iff.mp e1').1
        simp at this; omega
      subst hn'
      rw [List.getElem?_append_right (Nat.le_refl _)] at e1'
      rw [k.len, List.getElem?_append_right (Nat.le_refl _)] at e2
      simp at e1' e2
      subst e1'; subst e2
      exact ho
  · rcases List.mem_append.mp m with m | m
    · exact k.nf x m
    · have : x = p := by simpa using m
      subst this; exact hf
theorem Gro.mod {G : Gm} {s t : Hs} {st : Sto} {n : Nat} {a : Addr} {o : HO} (g : Gro s t) (k : StOk G t st) (ha : t.as[n]? = some a) : Gro s ⟨t.as, t.f, upd t.h a o⟩ := by
  have m : a ∈ t.as := List.mem_iff_getElem?.mpr ⟨n, ha⟩
  refine ⟨g.a, g.f, fun p u e q => ?_, fun p u e => ?_, g.n, g.w, g.z⟩
  · show upd t.h a o p = some u
    have : p ≠ a := fun z => by
      subst z
      exact (g.w p m).elim q fun z => by rw [e] at z; cases z
    rw [upd_ne this]; exact g.h _ _ e q
  · show upd t.h a o p = some u
    have : p ≠ a := fun z => by
      subst z
      have := k.nf p m
      rw [show t.f p = some u from e] at this; cases this
    rw [upd_ne this]; exact k.sf _ _ e
theorem StOk.mod {G : Gm} {t : Hs} {st : Sto} {n : Nat} {a : Addr} {o : HO} {b : Ob} (k : StOk G t st) (ha : t.as[n]? = some a) (ho : ObOk G ⟨t.as, t.f, upd t.h a o⟩ a b) : StOk G ⟨t.as, t.f, upd t.h a o⟩ (st.set n b) := by
  have m : a ∈ t.as := List.mem_iff_getElem?.mpr ⟨n, ha⟩
  refine ⟨fun p u e => ?_, by simp [k.len], k.nd, fun j x c e1 e2 => ?_, k.nf, k.tb, k.ex.up (Ext.refl _) (Same.refl _)⟩
  · show upd t.h a o p = some u
    have : p ≠ a := fun z => by
      subst z
      have := k.nf p m
      rw [show t.f p = some u from e] at this; cases this
    rw [upd_ne this]; exact k.sf _ _ e
  · by_cases z : n = j
    · subst z
      rw [List.getElem?_set_self (by rw [← k.len]; exact (List.getElem?_eq_some_iff.mp ha).1)] at e2
      cases e2
      have e1' : t.as[n]? = some x := e1
      rw [ha] at e1'; cases e1'
      exact ho
    · rw [List.getElem?_set_ne z] at e2
      refine (k.ob j x c e1 e2).keep (Ext.refl _) (Same.refl _) fun u e => ?_
      show upd t.h a o x = some u
      have : x ≠ a := fun y => by
        subst y
        have e1' : t.as[j]? = some x := e1
        exact z (nd_ix k.nd ha e1')
      rw [upd_ne this]; exact e
inductive Md where | P | B | N
  deriving DecidableEq
def VOk (G : Gm) (s t : Hs) : Md → V → D → Prop
  | .P, v, d => Is G t.as t.f v d
  | .B, v, d => ∃ p vs l, v = .ref p ∧ d = .lst l ∧ t.h p = some (.lst vs) ∧ IsL G t.as t.f vs l ∧ p ∉ t.as
  | .N, v, d => ∃ p vs l, v = .ref p ∧ d = .lst l ∧ t.h p = some (.lst vs) ∧ IsL G t.as t.f vs l ∧ p ∉ t.as ∧ s.h p = none ∧ t.f p = none
def U (G : Gm) (t : Hs) (v : V) (d : D) : Prop := Is G t.as t.f v d ∨ ∃ p vs l, v = .ref p ∧ d = .lst l ∧ t.h p = some (.lst vs) ∧ IsL G t.as t.f vs l ∧ p ∉ t.as
section
variable {G : Gm} {s t t' : Hs} {v : V} {d : D} {m : Md}
theorem VOk.u (h : VOk G s t m v d) : U G t v d := by
  cases m with
  | P => exact .inl h
  | B => exact .inr h
  | N => obtain ⟨p, vs, l, a, b, c, e, f, _⟩ := h; exact .inr ⟨p, vs, l, a, b, c, e, f⟩
theorem U.up (h : U G t v d) (g : Gro t t') : U G t' v d := by
  rcases h with h | ⟨p, vs, l, a, b, c, e, f⟩
  · exact .inl (h.up g.a g.f)
  · exact .inr ⟨p, vs, l, a, b, g.h _ _ c f, e.up g.a g.f, fun m => (g.w p m).elim f fun z => by rw [c] at z; cases z⟩
theorem U.lst {l : List D} (h : U G t v (.lst l)) (s : Same t.f t.h) : ∃ p vs, v = .ref p ∧ t.h p = some (.lst vs) ∧ IsL G t.as t.f vs l := by
  rcases h with h | ⟨p, vs, l', rfl, e, c, q, _⟩
  · cases h with | lst a b => exact ⟨_, _, rfl, s _ _ a, b⟩
  · cases e; exact ⟨p, vs, rfl, c, q⟩
theorem U.scr {l : List Int} (h : U G t v (.scr l)) (s : Same t.f t.h) : ∃ p, v = .ref p ∧ SqL G.K t.h p (l.map V.int) := by
  rcases h with h | ⟨p, vs, l', rfl, e, c, q, _⟩
  · cases h with | scr a => exact ⟨_, rfl, s.seq a⟩
  · cases e
theorem U.tup {l : List D} (h : U G t v (.tup l)) (s : Same t.f t.h) : ∃ p vs, v = .ref p ∧ SqT G.K t.h p vs ∧ IsL G t.as t.f vs l := by
  rcases h with h | ⟨p, vs, l', rfl, e, c, q, _⟩
  · cases h with | tup a b => exact ⟨_, _, rfl, same_t s a, b⟩
  · cases e
theorem U.tupI {l : List D} (h : U G t v (.tup l)) : Is G t.as t.f v (.tup l) := by
  rcases h with h | ⟨p, vs, l', a, b, _⟩
  · exact h
  · cases b
theorem U.ptr {n : Nat} (h : U G t v (.ptr n)) : ∃ p, v = .ref p ∧ t.as[n]? = some p := by
  rcases h with h | ⟨p, vs, l', rfl, e, c, q, _⟩
  · cases h with | ptr a => exact ⟨_, rfl, a⟩
  · cases e
theorem U.obj {c : Nat} {l : List D} (h : U G t v (.obj c l)) (s : Same t.f t.h) : ∃ p dx vs, v = .ref p ∧ t.h p = some (.ins (G.ca c) dx ((G.fn c).zip vs)) ∧ (G.fn c).length = vs.length ∧ IsL G t.as t.f vs l := by
  rcases h with h | ⟨p, vs, l', rfl, e, c, q, _⟩
  · cases h with | obj a l b => exact ⟨_, _, _, rfl, s _ _ a, l, b⟩
  · cases e
theorem U.int {i : Int} (h : U G t v (.int i)) : v = .int i := by
  rcases h with h | ⟨p, vs, l', rfl, e, _⟩
  · cases h; rfl
  · cases e
theorem U.bl {i : Bool} (h : U G t v (.bl i)) : v = .bl i := by
  rcases h with h | ⟨p, vs, l', rfl, e, _⟩
  · cases h; rfl
  · cases e
theorem U.str {i : Str} (h : U G t v (.str i)) : v = .str i := by
  rcases h with h | ⟨p, vs, l', rfl, e, _⟩
  · cases h; rfl
  · cases e
theorem U.non (h : U G t v .non) : v = .non := by
  rcases h with h | ⟨p, vs, l', rfl, e, _⟩
  · cases h; rfl
  · cases e
theorem VOk.up (h : VOk G s t m v d) (g : Gro t t') : VOk G s t' m v d := by
  have na : ∀ {p : Addr} {o : HO}, t.h p = some o → p ∉ t.as → p ∉ t'.as := fun {p o} c f m => (g.w p m).elim f fun z => by rw [c] at z; cases z
  cases m with
  | P => exact Is.up h g.a g.f
  | B => obtain ⟨p, vs, l, a, b, c, e, f⟩ := h; exact ⟨p, vs, l, a, b, g.h _ _ c f, e.up g.a g.f, na c f⟩
  | N => obtain ⟨p, vs, l, a, b, c, e, f, n, z⟩ := h; exact ⟨p, vs, l, a, b, g.h _ _ c f, e.up g.a g.f, na c f, n, g.n _ _ c z⟩
theorem VOk.back {r : Hs} {st : Sto} (h : VOk G s t m v d) (g : Gro r s) (k : StOk G s st) : VOk G r t m v d := by
  cases m with
  | P => exact h
  | B => exact h
  | N =>
    obtain ⟨p, vs, l, a, b, c, e, f, n, z⟩ := h
    refine ⟨p, vs, l, a, b, c, e, f, ?_, z⟩
    cases q : r.h p with
    | none => rfl
    | some o =>
      by_cases i : p ∈ r.as
      · exact absurd (g.a.mem i) (k.new n)
      · rw [g.h p o q i] at n; cases n
theorem VOk.freeze {st : Sto} (h : VOk G s t m v d) (g : Gro s t) (k : StOk G t st) (hm : m ≠ .B) : ∃ f, Gro s ⟨t.as, f, t.h⟩ ∧ StOk G ⟨t.as, f, t.h⟩ st ∧ Same t.f f ∧ Is G t.as f v d := by
  cases m with
  | P => exact ⟨t.f, g, k, Same.refl _, h⟩
  | B => exact absurd rfl hm
  | N =>
    obtain ⟨p, vs, l, rfl, rfl, c, e, f, n, z⟩ := h
    exact ⟨upd t.f p (.lst vs), g.ice k c n z f, k.ice c z f, same_new z, .lst upd_same (e.up (Ext.refl _) (same_new z))⟩
end
inductive SL where | emp | val (d : D) | own (l : List D) | exn | clo (ds : List (Option D))
abbrev DE := List SL
structure En where
  e : DE
  st : Sto
def SlotOk (G : Gm) (s t : Hs) : Option V → SL → Prop
  | _, .emp => True
  | o, .exn => o = some (.ref G.ea)
  | o, .clo ds => o = some (.ref G.ea) ∧ G.cl.length = ds.length ∧ t.f G.cc = some (LamX.CodeO G.cc G.cq) ∧ ∀ (i : Nat) (d : D), ds[i]? = some (some d) → ∃ v, G.cl[i]? = some (some v) ∧ Is G t.as t.f v d
  | o, .val d => ∃ v, o = some v ∧ Is G t.as t.f v d
  | o, .own l => ∃ p vs, o = some (.ref p) ∧ s.h p = none ∧ t.f p = none ∧ t.h p = some (.lst vs) ∧ IsL G t.as t.f vs l ∧ p ∉ t.as
structure EnvOk (G : Gm) (s t : Hs) (σ : L2.St) (e : DE) : Prop where
  gr : Gro s t
  len : σ.length = e.length
  at_ : ∀ (i : Nat) (o : Option V) (x : SL), σ[i]? = some o → e[i]? = some x → SlotOk G s t o x
  dis : ∀ (i j : Nat) (p : Addr) (l m : List D), i ≠ j → σ[i]? = some (some (.ref p)) → e[i]? = some (.own l) → σ[j]? = some (some (.ref p)) → e[j]? = some (.own m) → False
section
variable {G : Gm} {s t t' : Hs} {σ : L2.St} {e : DE} {st : Sto}
theorem SlotOk.up {o : Option V} {x : SL} (h : SlotOk G s t o x) (g : Gro t t') : SlotOk G s t' o x := by
  cases x with
  | emp => trivial
  | exn => exact h
  | clo ds =>
    obtain ⟨h1, h2, h3, h4⟩ := h
    refine ⟨h1, h2, g.f _ _ h3, fun i d hd => ?_⟩
    obtain ⟨v, a, b⟩ := h4 i d hd
    exact ⟨v, a, b.up g.a g.f⟩
  | val d => obtain ⟨v, a, b⟩ := h; exact ⟨v, a, b.up g.a g.f⟩
  | own l => obtain ⟨p, vs, a, b, c, d, e, f⟩ := h; exact ⟨p, vs, a, b, g.n _ _ d c, g.h _ _ d f, e.up g.a g.f, fun m => (g.w p m).elim f fun z => by rw [d] at z; cases z⟩
theorem EnvOk.up (h : EnvOk G s t σ e) (g : Gro t t') : EnvOk G s t' σ e :=
  ⟨h.gr.trans g, h.len, fun i o s a b => (h.at_ i o s a b).up g, h.dis⟩
theorem EnvOk.slot {i : Nat} {x : SL} (h : EnvOk G s t σ e) (hs : e[i]? = some x) : ∃ o, σ[i]? = some o ∧ SlotOk G s t o x := by
  have hi : i < e.length := (List.getElem?_eq_some_iff.mp hs).1
  have e1 : σ[i]? = some (σ[i]'(by have := h.len; omega)) := List.getElem?_eq_getElem _
  exact ⟨_, e1, h.at_ i _ x e1 hs⟩
theorem EnvOk.set {i : Nat} {o : Option V} {x : SL} (h : EnvOk G s t σ e) (hs : SlotOk G s t o x) (hn : ∀ l, x ≠ .own l) : EnvOk G s t (σ.set i o) (e.set i x) := by
  refine ⟨h.gr, by simp [h.len], fun j o' s' a b => ?_, fun j k p l m hjk a b c d => ?_⟩
  · by_cases z : i = j
    · subst z
      have hi : i < σ.length := by
        have := (List.getElem?_eq_some_iff.mp a).1
        simpa using this
      rw [List.getElem?_set_self hi] at a
      rw [List.getElem?_set_self (by rw [← h.len]; exact hi)] at b
      cases a; cases b; exact hs
    · rw [List.getElem?_set_ne z] at a b
      exact h.at_ j o' s' a b
  · by_cases z : i = j
    · subst z
      have hi : i < e.length := by
        have := (List.getElem?_eq_some_iff.mp b).1
        simpa using this
      rw [List.getElem?_set_self hi] at b
      cases b
      exact absurd rfl (hn l)
    · by_cases z2 : i = k
      · subst z2
        have hi : i < e.length := by
          have := (List.getElem?_eq_some_iff.mp d).1
          simpa using this
        rw [List.getElem?_set_self hi] at d
        cases d
        exact absurd rfl (hn m)
      · rw [List.getElem?_set_ne z] at a b
        rw [List.getElem?_set_ne z2] at c d
        exact h.dis j k p l m hjk a b c d
theorem EnvOk.setOwn {i : Nat} {p : Addr} {vs : List V} {l : List D} (h : EnvOk G s t σ e) (h0 : s.h p = none) (hf : t.f p = none) (hp : t.h p = some (.lst vs)) (hl : IsL G t.as t.f vs l) (ha : p ∉ t.as)
    (hne : ∀ (j : Nat) (m : List D), j ≠ i → σ[j]? = some (some (.ref p)) → e[j]? = some (.own m) → False) : EnvOk G s t (σ.set i (some (.ref p))) (e.set i (.own l)) := by
  refine ⟨h.gr, by simp [h.len], fun j o' s' a b => ?_, fun j k q l1 m hjk a b c d => ?_⟩
  · by_cases z : i = j
    · subst z
      have hi : i < σ.length := by
        have := (List.getElem?_eq_some_iff.mp a).1
        simpa using this
      rw [List.getElem?_set_self hi] at a
      rw [List.getElem?_set_self (by rw [← h.len]; exact hi)] at b
      cases a; cases b; exact ⟨p, vs, rfl, h0, hf, hp, hl, ha⟩
    · rw [List.getElem?_set_ne z] at a b
      exact h.at_ j o' s' a b
  · by_cases z : i = j
    · subst z
      have hi : i < σ.length := by
        have := (List.getElem?_eq_some_iff.mp a).1
        simpa using this
      rw [List.getElem?_set_self hi] at a
      rw [List.getElem?_set_ne hjk] at c d
      cases a
      exact hne k m (fun z => hjk z.symm) c d
    · by_cases z2 : i = k
      · subst z2
        have hi : i < σ.length := by
          have := (List.getElem?_eq_some_iff.mp c).1
          simpa using this
        rw [List.getElem?_set_self hi] at c
        rw [List.getElem?_set_ne z] at a b
        cases c
        exact hne j l1 hjk a b
      · rw [List.getElem?_set_ne z] at a b
        rw [List.getElem?_set_ne z2] at c d
        exact h.dis j k q l1 m hjk a b c d
theorem EnvOk.chg {i : Nat} {p : Addr} {vs : List V} {l l' : List D} (h : EnvOk G s t σ e) (hσ : σ[i]? = some (some (.ref p))) (he : e[i]? = some (.own l')) (h0 : s.h p = none) (hf : t.f p = none) (hl : IsL G t.as t.f vs l) (ha : p ∉ t.as) :
    EnvOk G s ⟨t.as, t.f, upd t.h p (.lst vs)⟩ σ (e.set i (.own l)) := by
  refine ⟨h.gr.chg h0 hf, by simp [h.len], fun j o' s' a b => ?_, fun j k q l1 m hjk a b c d => ?_⟩
  · by_cases z : i = j
    · subst z
      have hi : i < e.length := (List.getElem?_eq_some_iff.mp he).1
      rw [List.getElem?_set_self hi] at b
      rw [hσ] at a
      cases a; cases b; exact ⟨p, vs, rfl, h0, hf, upd_same, hl, ha⟩
    · rw [List.getElem?_set_ne z] at b
      have q := h.at_ j o' s' a b
      cases s' with
      | emp => trivial
      | exn => exact q
      | clo ds => exact q
      | val d => exact q
      | own m =>
        obtain ⟨p', vs', rfl, b1, b2, b3, b4, b5⟩ := q
        have : p' ≠ p := fun zz => by subst zz; exact h.dis i j p' l' m z hσ he a b
        exact ⟨p', vs', rfl, b1, b2, by show upd t.h p (.lst vs) p' = _; rw [upd_ne this]; exact b3, b4, b5⟩
  · have own_of : ∀ (j : Nat) (l1 : List D), (e.set i (.own l))[j]? = some (.own l1) → ∃ l2, e[j]? = some (.own l2) := fun j l1 b => by
      by_cases z : i = j
      · subst z; exact ⟨l', he⟩
      · rw [List.getElem?_set_ne z] at b; exact ⟨l1, b⟩
    obtain ⟨l2, b'⟩ := own_of j l1 b
    obtain ⟨l3, d'⟩ := own_of k m d
    exact h.dis j k q l2 l3 hjk a b' c d'
theorem EnvOk.other {p : Addr} {o : HO} (E : EnvOk G s t σ e) (h0 : s.h p = none) (hf : t.f p = none)
    (hne : ∀ (j : Nat) (m : List D), σ[j]? = some (some (.ref p)) → e[j]? = some (.own m) → False) : EnvOk G s ⟨t.as, t.f, upd t.h p o⟩ σ e := by
  refine ⟨E.gr.chg h0 hf, E.len, fun i x y a b => ?_, E.dis⟩
  have ok := E.at_ i x y a b
  cases y with
  | emp => trivial
  | exn => exact ok
  | clo ds => exact ok
  | val d => exact ok
  | own l =>
    obtain ⟨q, vs, rfl, a1, a2, a3, a4, a5⟩ := ok
    have : q ≠ p := fun z => by subst z; exact hne i l a b
    exact ⟨q, vs, rfl, a1, a2, by show upd t.h p o q = _; rw [upd_ne this]; exact a3, a4, a5⟩
end
inductive ER where | val (m : Md) (d : D) (st : Sto) | exc (c : Nat) (l : List D) (st : Sto) | bad
def ExcOk (G : Gm) (s : Hs) (c : Nat) (l : List D) (x : Option Addr) : Prop :=
  (l = [] ∧ x = none) ∨ ∃ da xs, x = some da ∧ l ≠ [] ∧ s.f da = some (.xd ((G.fn c).zip xs)) ∧ (G.fn c).length = xs.length ∧ IsL G s.as s.f xs l
theorem ExcOk.up {G : Gm} {s t : Hs} {c : Nat} {l : List D} {x : Option Addr} (h : ExcOk G s c l x) (g : Gro s t) : ExcOk G t c l x := by
  rcases h with h | ⟨da, xs, a, b, c, d, e⟩
  · exact .inl h
  · exact .inr ⟨da, xs, a, b, g.f _ _ c, d, e.up g.a g.f⟩
def RPost (G : Gm) (W : WX) (s : Hs) (σ : L2.St) (Q : VK) : ER → Prop
  | .val m d st => ∀ t v, Gro s t → StOk G t st → VOk G s t m v d → Q v t.h
  | .exc c l st => ∀ t x, Gro s t → StOk G t st → ExcOk G t c l x → W (.ref (G.ca c)) x σ t.h
  | .bad => False
section
variable {G : Gm} {W : WX} {s t : Hs} {σ : L2.St} {Q Q' : VK} {st : Sto}
theorem RPost.step {r : ER} (g : Gro s t) (k : StOk G t st) (h : RPost G W s σ Q r) : RPost G W t σ Q r := by
  cases r with
  | val m d st' => exact fun u v g' o' o => h u v (g.trans g') o' (o.back g k)
  | exc c l st' => exact fun u x g' o' o => h u x (g.trans g') o' o
  | bad => exact h
def ER.bind (r : ER) (k : D → Sto → ER) : ER := match r with
  | .val _ d st => k d st
  | .exc c l st => .exc c l st
  | .bad => .bad
@[simp] theorem ER.bind_val (m : Md) (d : D) (st : Sto) (k : D → Sto → ER) : (ER.val m d st).bind k = k d st := rfl
@[simp] theorem ER.bind_exc (c : Nat) (l : List D) (st : Sto) (k : D → Sto → ER) : (ER.exc c l st).bind k = .exc c l st := rfl
@[simp] theorem ER.bind_bad (k : D → Sto → ER) : ER.bad.bind k = .bad := rfl
def DEv (G : Gm) (W : WX) (te : TE) (f : En → ER) : Prop :=
  ∀ s t σ e st, EnvOk G s t σ e → StOk G t st → ∀ Q : VK, RPost G W t σ Q (f ⟨e, st⟩) → te σ t.h Q
theorem RPost.bind {r : ER} {k : D → Sto → ER} (h : RPost G W s σ Q (r.bind k))
    (hk : ∀ m d st t v, Gro s t → StOk G t st → VOk G s t m v d → RPost G W t σ Q (k d st) → Q' v t.h) : RPost G W s σ Q' r := by
  cases r with
  | val m d st => exact fun t v g o' o => hk m d st t v g o' o (RPost.step g o' h)
  | exc c l st => exact h
  | bad => exact h
end
end Dn
namespace Dn
open PySem PySem.Spec PyProof.Rows L2
def rOr (r r' : R2) : R2 := fun x y H Q => r x y H Q ∨ r' x y H Q
theorem opOr {X : Cx} {f : Value → Value → Sem Value} {r r' : R2} (h : OpR X f r) (h' : OpR X f r') : OpR X f (rOr r r') := by
  intro pins s σ H x y v u Q I rx ry q
  rcases q with q | q
  · exact h pins s σ H x y v u Q I rx ry q
  · exact h' pins s σ H x y v u Q I rx ry q
def DOp (G : Gm) (r : R2) (o : D → D → Sto → ER) : Prop :=
  ∀ (W : WX) (σ : L2.St) (s : Hs) (st : Sto) (v w : V) (d d' : D), StOk G s st → U G s v d → U G s w d' → ∀ Q : VK, RPost G W s σ Q (o d d' st) → r v w s.h Q
section
variable {G : Gm} {W : WX} {s : Hs} {σ : L2.St} {Q : VK} {st : Sto}
theorem RPost.now {v : V} {d : D} (k : StOk G s st) (h : RPost G W s σ Q (.val .P d st)) (hv : Is G s.as s.f v d) : Q v s.h := h s v (Gro.refl k) k hv
theorem RPost.newL {vs : List V} {l : List D} (k : StOk G s st) (h : RPost G W s σ Q (.val .N (.lst l) st)) (hv : IsL G s.as s.f vs l) {p : Addr} (hp : s.h p = none) : Q (.ref p) (upd s.h p (.lst vs)) :=
  h ⟨s.as, s.f, upd s.h p (.lst vs)⟩ _ (Gro.loose k hp) (k.loose hp) ⟨p, vs, l, rfl, rfl, upd_same, hv, k.new hp, hp, k.sf.free hp⟩
theorem RPost.newT {vs : List V} {l : List D} (k : StOk G s st) (h : RPost G W s σ Q (.val .P (.tup l) st)) (hv : IsL G s.as s.f vs l) {p : Addr} (hp : s.h p = none) : Q (.ref p) (upd s.h p (.tup vs)) :=
  h ⟨s.as, upd s.f p (.tup vs), upd s.h p (.tup vs)⟩ _ (Gro.new k hp) (k.grow hp) (.tup (SqT.of upd_same) (hv.up (Ext.refl _) (same_new (k.sf.free hp))))
theorem RPost.cond (c : Prop) [Decidable c] (r : ER) (h : RPost G W s σ Q (if c then r else .bad)) : c ∧ RPost G W s σ Q r := by
  by_cases q : c
  · rw [if_pos q] at h; exact ⟨q, h⟩
  · rw [if_neg q] at h; exact h.elim
def ofOpt {α : Type} (o : Option α) (k : α → ER) : ER := match o with
  | some d => k d
  | none => .bad
@[simp] theorem ofOpt_some {α : Type} (a : α) (k : α → ER) : ofOpt (some a) k = k a := rfl
@[simp] theorem ofOpt_none {α : Type} (k : α → ER) : ofOpt none k = .bad := rfl
theorem RPost.opt {α : Type} (o : Option α) (k : α → ER) (h : RPost G W s σ Q (ofOpt o k)) : ∃ d, o = some d ∧ RPost G W s σ Q (k d) := by
  cases o with
  | none => exact h.elim
  | some d => exact ⟨d, rfl, h⟩
end
theorem sz {n : Nat} (h : n ≤ 1000000) : n ≤ sizeLine := Nat.le_trans h (by decide)
theorem szlt {n : Nat} (h : n < 1000000) : n < sizeLine := Nat.lt_of_lt_of_le h (by decide)
section
variable {G : Gm}
def oAdd : D → D → Sto → ER
  | .int i, .int j, st => .val .P (.int (i + j)) st
  | .str a, .str b, st => if a.length + b.length ≤ 1000000 then .val .P (.str (a ++ b)) st else .bad
  | .lst a, .lst b, st => if a.length + b.length ≤ 1000000 then .val .N (.lst (a ++ b)) st else .bad
  | .tup a, .tup b, st => if a.length + b.length ≤ 1000000 then .val .P (.tup (a ++ b)) st else .bad
  | _, _, _ => .bad
abbrev rAddS : R2 := fun x y H Q => ∃ i j, x = .str i ∧ y = .str j ∧ i.length + j.length ≤ sizeLine ∧ Q (.str (i ++ j)) H
abbrev rAddA (K : PySem.W.Frag) : R2 := rOr (rI0 fun i j => .int (i + j)) (rOr rAddS (rOr rCat (L2.rCatA K)))
theorem or_add {X : Cx} : OpR X (binaryOp .Add) (rAddA X.K) := opOr op_add (opOr op_add_str (opOr op_cat L2.op_catA))
theorem d_add : DOp G (rAddA G.K) oAdd := by
  intro W σ s st v w d d' k hv hw Q post
  cases d <;> cases d' <;> try exact post.elim
  case int.int i j =>
    obtain rfl := hv.int; obtain rfl := hw.int
    exact .inl ⟨i, j, rfl, rfl, post.now k (.int _)⟩
  case str.str a b =>
    obtain rfl := hv.str; obtain rfl := hw.str
    obtain ⟨h, post⟩ := RPost.cond (a.length + b.length ≤ 1000000) (.val .P (.str (a ++ b)) st) post
    exact .inr (.inl ⟨a, b, rfl, rfl, sz h, post.now k (.str _)⟩)
  case lst.lst a b =>
    obtain ⟨p, vs, rfl, hp, hl⟩ := hv.lst k.sf
    obtain ⟨q, ws, rfl, hq, hm⟩ := hw.lst k.sf
    obtain ⟨h, post⟩ := RPost.cond (a.length + b.length ≤ 1000000) (.val .N (.lst (a ++ b)) st) post
    exact .inr (.inr (.inl ⟨p, q, vs, ws, rfl, rfl, hp, hq, by rw [hl.len, hm.len]; exact sz h, fun r hr => post.newL k (hl.append hm) hr⟩))
  case tup.tup a b =>
    obtain ⟨p, vs, rfl, hp, hl⟩ := hv.tup k.sf
    obtain ⟨q, ws, rfl, hq, hm⟩ := hw.tup k.sf
    obtain ⟨h, post⟩ := RPost.cond (a.length + b.length ≤ 1000000) (.val .P (.tup (a ++ b)) st) post
    refine .inr (.inr (.inr ⟨p, q, vs, ws, rfl, rfl, hp, hq, by rw [hl.len, hm.len]; exact sz h, fun z => ?_, fun _ z => ?_, fun _ _ r hr => post.newT k (hl.append hm) hr⟩))
    · have : a = [] := by have := hl.len; subst z; exact List.length_eq_zero_iff.mp this.symm
      subst this; exact post.now k hw.tupI
    · have : b = [] := by have := hm.len; subst z; exact List.length_eq_zero_iff.mp this.symm
      subst this; rw [List.append_nil] at post; exact post.now k hv.tupI
def oSub : D → D → Sto → ER
  | .int i, .int j, st => .val .P (.int (i - j)) st
  | _, _, _ => .bad
theorem d_sub : DOp G (rI0 fun i j => .int (i - j)) oSub := by
  intro W σ s st v w d d' k hv hw Q post
  cases d <;> cases d' <;> try exact post.elim
  obtain rfl := hv.int; obtain rfl := hw.int
  exact ⟨_, _, rfl, rfl, post.now k (.int _)⟩
theorem IsL.rep {as : List Addr} {H : Hp} {vs : List V} {l : List D} (h : IsL G as H vs l) : ∀ n : Nat, IsL G as H (List.replicate n vs).flatten (List.replicate n l).flatten
  | 0 => .nil
  | n + 1 => by
    rw [List.replicate_succ, List.replicate_succ, List.flatten_cons, List.flatten_cons]
    exact h.append (IsL.rep h n)
def oMul : D → D → Sto → ER
  | .int i, .int j, st => if i.natAbs.log2 + j.natAbs.log2 < 1000000 then .val .P (.int (i * j)) st else .bad
  | .lst a, .int k, st => if -(2 ^ 63) ≤ k ∧ k < 2 ^ 63 ∧ a.length * k.toNat ≤ 1000000 then .val .N (.lst (List.replicate k.toNat a).flatten) st else .bad
  | _, _, _ => .bad
abbrev rMulA : R2 := rOr (rI CMulW fun i j => .int (i * j)) rRep
theorem or_mul {X : Cx} : OpR X (binaryOp .Mult) rMulA := opOr op_mulW op_rep
theorem d_mul : DOp G rMulA oMul := by
  intro W σ s st v w d d' k hv hw Q post
  cases d <;> cases d' <;> try exact post.elim
  case int.int i j =>
    obtain rfl := hv.int; obtain rfl := hw.int
    obtain ⟨h, post⟩ := RPost.cond (i.natAbs.log2 + j.natAbs.log2 < 1000000) (.val .P (.int (i * j)) st) post
    exact .inl ⟨_, _, rfl, rfl, h, post.now k (.int _)⟩
  case lst.int a n =>
    obtain ⟨p, vs, rfl, hp, hl⟩ := hv.lst k.sf
    obtain rfl := hw.int
    obtain ⟨h, post⟩ := RPost.cond (-(2 ^ 63) ≤ n ∧ n < 2 ^ 63 ∧ a.length * n.toNat ≤ 1000000) (.val .N (.lst (List.replicate n.toNat a).flatten) st) post
    exact .inr ⟨p, n, vs, rfl, rfl, hp, h.1, h.2.1, by rw [hl.len]; exact sz h.2.2, fun r hr => post.newL k (hl.rep _) hr⟩
def oDiv : D → D → Sto → ER
  | .int i, .int j, st => if j ≠ 0 ∧ j.natAbs.log2 < 9000 then .val .P (.int (i.fdiv j)) st else .bad
  | _, _, _ => .bad
theorem or_div {X : Cx} : OpR X (binaryOp .FloorDiv) (rI (fun _ j => j ≠ 0 ∧ j.natAbs.log2 < 9000) fun i j => .int (i.fdiv j)) := opI fun i j _ _ _ _ _ hc q => floordiv_int hc.1 q (.inl (PyProof.noPylong_of_log2 hc.2))
theorem d_div : DOp G (rI (fun _ j => j ≠ 0 ∧ j.natAbs.log2 < 9000) fun i j => .int (i.fdiv j)) oDiv := by
  intro W σ s st v w d d' k hv hw Q post
  cases d <;> cases d' <;> try exact post.elim
  rename_i i j
  obtain rfl := hv.int; obtain rfl := hw.int
  obtain ⟨h, post⟩ := RPost.cond (j ≠ 0 ∧ j.natAbs.log2 < 9000) (.val .P (.int (i.fdiv j)) st) post
  exact ⟨_, _, rfl, rfl, h, post.now k (.int _)⟩
def oMod : D → D → Sto → ER
  | .int i, .int j, st => if j ≠ 0 then .val .P (.int (i.fmod j)) st else .bad
  | _, _, _ => .bad
theorem d_mod : DOp G (rI (fun _ j => j ≠ 0) fun i j => .int (i.fmod j)) oMod := by
  intro W σ s st v w d d' k hv hw Q post
  cases d <;> cases d' <;> try exact post.elim
  rename_i i j
  obtain rfl := hv.int; obtain rfl := hw.int
  obtain ⟨h, post⟩ := RPost.cond (j ≠ 0) (.val .P (.int (i.fmod j)) st) post
  exact ⟨_, _, rfl, rfl, h, post.now k (.int _)⟩
def oPow : D → D → Sto → ER
  | .int i, .int j, st => if 0 ≤ j ∧ j ≤ 1000000 ∧ i.natAbs < 2 ^ 64 then .val .P (.int (i ^ j.toNat)) st else .bad
  | _, _, _ => .bad
theorem d_pow : DOp G (rI CPow fun i j => .int (i ^ j.toNat)) oPow := by
  intro W σ s st v w d d' k hv hw Q post
  cases d <;> cases d' <;> try exact post.elim
  rename_i i j
  obtain rfl := hv.int; obtain rfl := hw.int
  obtain ⟨h, post⟩ := RPost.cond (0 ≤ j ∧ j ≤ 1000000 ∧ i.natAbs < 2 ^ 64) (.val .P (.int (i ^ j.toNat)) st) post
  exact ⟨_, _, rfl, rfl, h, post.now k (.int _)⟩
def oCmp (p : Int → Int → Bool) : D → D → Sto → ER
  | .int i, .int j, st => .val .P (.bl (p i j)) st
  | _, _, _ => .bad
theorem d_cmp {p : Int → Int → Bool} : DOp G (rI0 fun i j => .bl (p i j)) (oCmp p) := by
  intro W σ s st v w d d' k hv hw Q post
  cases d <;> cases d' <;> try exact post.elim
  obtain rfl := hv.int; obtain rfl := hw.int
  exact ⟨_, _, rfl, rfl, post.now k (.bl _)⟩
abbrev oLt := oCmp fun i j => decide (i < j)
abbrev oLe := oCmp fun i j => decide (i ≤ j)
abbrev oGt := oCmp fun i j => decide (j < i)
abbrev oGe := oCmp fun i j => decide (j ≤ i)
theorem d_lt : DOp G (rI0 fun i j => .bl (decide (i < j))) oLt := d_cmp
theorem d_le : DOp G (rI0 fun i j => .bl (decide (i ≤ j))) oLe := d_cmp
theorem d_gt : DOp G (rI0 fun i j => .bl (decide (j < i))) oGt := d_cmp
theorem d_ge : DOp G (rI0 fun i j => .bl (decide (j ≤ i))) oGe := d_cmp
def isNon : D → Bool
  | .non => true
  | _ => false
def oIsN (a b : D) (st : Sto) : ER := match b with
  | .non => .val .P (.bl (isNon a)) st
  | _ => .bad
def oNotN (a b : D) (st : Sto) : ER := match b with
  | .non => .val .P (.bl (!isNon a)) st
  | _ => .bad
theorem isN_of {s : Hs} {v : V} {d : D} (h : U G s v d) : decide (v = .non) = isNon d := by
  rcases h with h | ⟨p, vs, l', rfl, rfl, _⟩
  · cases h <;> simp [isNon]
  · simp [isNon]
theorem d_isN : DOp G (fun x y H Q => y = .non ∧ Q (.bl (decide (x = .non))) H) oIsN := by
  intro W σ s st v w d d' k hv hw Q post
  cases d' <;> try exact post.elim
  obtain rfl := hw.non
  exact ⟨rfl, by rw [isN_of hv]; exact RPost.now k post (.bl _)⟩
theorem d_notN : DOp G (fun x y H Q => y = .non ∧ Q (.bl (!decide (x = .non))) H) oNotN := by
  intro W σ s st v w d d' k hv hw Q post
  cases d' <;> try exact post.elim
  obtain rfl := hw.non
  refine ⟨rfl, ?_⟩
  rw [isN_of hv]
  exact RPost.now k post (.bl _)
mutual
def py : D → PyData
  | .non => .none
  | .bl b => .bool b
  | .int i => .int i
  | .str x => .str x
  | .tup l => .tuple (pyL l)
  | .lst l => .list (pyL l)
  | .obj _ _ => .none
  | .scr _ => .none
  | .ptr _ => .none
def pyL : List D → List PyData
  | [] => []
  | d :: l => py d :: pyL l
end
mutual
def isPy : D → Bool
  | .non | .bl _ | .int _ | .str _ => true
  | .tup l => isPyL l
  | .lst l => isPyL l
  | .obj _ _ => false
  | .scr _ => false
  | .ptr _ => false
def isPyL : List D → Bool
  | [] => true
  | d :: l => isPy d && isPyL l
end
mutual
theorem dp_of {as : List Addr} {f H : Hp} (s : Same f H) : ∀ (d : D) {v : V}, isPy d = true → Is G as f v d → Dp G.K H v (py d)
  | .non, _, _, h => by cases h; exact .non
  | .bl _, _, _, h => by cases h; exact .bl _
  | .int _, _, _, h => by cases h; exact .int _
  | .str _, _, _, h => by cases h; exact .str _
  | .tup l, _, q, h => by cases h with | tup a b => exact .tup (same_t s a) (dpL_of s l (by simpa [isPy] using q) b)
  | .lst l, _, q, h => by cases h with | lst a b => exact .lst (SqL.of (s _ _ a)) (dpL_of s l (by simpa [isPy] using q) b)
  | .obj _ _, _, q, _ => by simp [isPy] at q
  | .scr _, _, q, _ => by simp [isPy] at q
  | .ptr _, _, q, _ => by simp [isPy] at q
theorem dpL_of {as : List Addr} {f H : Hp} (s : Same f H) : ∀ (l : List D) {vs : List V}, isPyL l = true → IsL G as f vs l → DpAll G.K H vs (pyL l)
  | [], _, _, h => by cases h; exact .nil
  | d :: l, _, q, h => by
    cases h with
    | cons a b =>
      have q' : isPy d = true ∧ isPyL l = true := by simpa [isPyL] using q
      exact .cons (dp_of s d q'.1 a) (dpL_of s l q'.2 b)
end
theorem dp_u {s : Hs} {v : V} {d : D} (sm : Same s.f s.h) (q : isPy d = true) (h : U G s v d) : Dp G.K s.h v (py d) := by
  rcases h with h | ⟨p, vs, l, rfl, rfl, c, e, _⟩
  · exact dp_of sm d q h
  · exact .lst (SqL.of c) (dpL_of sm l (by simpa [isPy] using q) e)
def scalD : D → D → Bool
  | .non, .non | .non, .int _ | .int _, .non | .non, .bl _ | .bl _, .non | .non, .str _ | .str _, .non => true
  | .int _, .int _ | .bl _, .bl _ | .str _, .str _ | .int _, .str _ | .str _, .int _ | .bl _, .str _ | .str _, .bl _ => true
  | _, _ => false
def eqF : D → D → Bool
  | .non, .non => true
  | .int i, .int j => decide (i = j)
  | .bl i, .bl j => decide (i = j)
  | .str i, .str j => decide (i = j)
  | _, _ => false
def eqAny (a b : D) : Option Bool :=
  if scalD a b = true then some (eqF a b)
  else if isPy a = true ∧ isPy b = true ∧ SeqAt.shaped (py a) = true ∧ SeqAt.shaped (py b) = true then some (PyData.eqv (py a) (py b))
  else none
def oEq (a b : D) (st : Sto) : ER := match eqAny a b with | some r => .val .P (.bl r) st | none => .bad
def oNe (a b : D) (st : Sto) : ER := match eqAny a b with | some r => .val .P (.bl (!r)) st | none => .bad
abbrev rEqA (K : PySem.W.Frag) : R2 := rOr rEq (rEqD K)
abbrev rNeA (K : PySem.W.Frag) : R2 := rOr rNe (rNeD K)
theorem or_eq {X : Cx} (hu : X.A.units + 64 < cLine) : OpR X (compareOp .Eq) (rEqA X.K) := opOr op_eq (op_eqD hu)
theorem or_ne {X : Cx} (hu : X.A.units + 64 < cLine) : OpR X (compareOp .NotEq) (rNeA X.K) := opOr op_ne (op_neD hu)
theorem scal_of {s : Hs} {v w : V} {a b : D} (h : scalD a b = true) (hv : U G s v a) (hw : U G s w b) : scal v w = true ∧ decide (v = w) = eqF a b := by
  cases a <;> cases b <;> simp only [scalD] at h <;> first
    | (exact absurd h Bool.false_ne_true)
    | skip
  all_goals (first | obtain rfl := hv.int | obtain rfl := hv.str | obtain rfl := hv.bl | obtain rfl := hv.non)
  all_goals (first | obtain rfl := hw.int | obtain rfl := hw.str | obtain rfl := hw.bl | obtain rfl := hw.non)
  all_goals (refine ⟨rfl, ?_⟩; simp [eqF])
theorem d_eq : DOp G (rEqA G.K) oEq := by
  intro W σ s st v w d d' k hv hw Q post
  unfold oEq eqAny at post
  by_cases h : scalD d d' = true
  · obtain ⟨h1, h2⟩ := scal_of h hv hw
    rw [if_pos h] at post
    exact .inl ⟨h1, by rw [h2]; exact RPost.now k post (.bl _)⟩
  · rw [if_neg h] at post
    split at post
    · rename_i r hr
      split at hr
      · rename_i q
        cases hr
        exact .inr ⟨py d, py d', dp_u k.sf q.1 hv, dp_u k.sf q.2.1 hw, q.2.2.1, q.2.2.2, post.now k (.bl _)⟩
      · cases hr
    · exact post.elim
theorem d_ne : DOp G (rNeA G.K) oNe := by
  intro W σ s st v w d d' k hv hw Q post
  unfold oNe eqAny at post
  by_cases h : scalD d d' = true
  · obtain ⟨h1, h2⟩ := scal_of h hv hw
    rw [if_pos h] at post
    exact .inl ⟨h1, by rw [h2]; exact RPost.now k post (.bl _)⟩
  · rw [if_neg h] at post
    split at post
    · rename_i r hr
      split at hr
      · rename_i q
        cases hr
        exact .inr ⟨py d, py d', dp_u k.sf q.1 hv, dp_u k.sf q.2.1 hw, q.2.2.1, q.2.2.2, post.now k (.bl _)⟩
      · cases hr
    · exact post.elim
def stLst (st : Sto) (n : Nat) : Option (List D) := match st[n]? with
  | some (.lst l) => some l
  | _ => none
theorem StOk.lst {s : Hs} {st : Sto} {n : Nat} {l : List D} {p : Addr} (k : StOk G s st) (ha : s.as[n]? = some p) (h : stLst st n = some l) : ∃ vs, s.h p = some (.lst vs) ∧ IsL G s.as s.f vs l := by
  unfold stLst at h
  split at h
  · rename_i l' q
    cases h
    exact k.ob n p _ ha q
  · cases h
def oIx : D → D → Sto → ER
  | .lst l, .int i, st => ofOpt (atI l i) fun d => .val .P d st
  | .tup l, .int i, st => ofOpt (atI l i) fun d => .val .P d st
  | .scr l, .int i, st => ofOpt (atI l i) fun d => .val .P (.int d) st
  | .str z, .int i, st => if z.length ≤ 1000000 then ofOpt (atI z.cps.toList i) (fun c => .val .P (.str ⟨#[c]⟩) st) else .bad
  | .ptr n, .int i, st => ofOpt (stLst st n) fun l => ofOpt (atI l i) fun d => .val .P d st
  | _, _, _ => .bad
theorem atI_L {as : List Addr} {H : Hp} {vs : List V} {l : List D} {i : Int} {d : D} (h : IsL G as H vs l) (e : atI l i = some d) : ∃ v, atI vs i = some v ∧ Is G as H v d := by
  unfold atI at e ⊢
  rw [h.len]
  cases q : ixN l.length i with
  | none => rw [q] at e; cases e
  | some j =>
    rw [q] at e
    exact h.get e
theorem atI_map {l : List Int} {i : Int} {d : Int} (e : atI l i = some d) : atI (l.map V.int) i = some (V.int d) := by
  unfold atI at e ⊢
  rw [List.length_map]
  cases q : ixN l.length i with
  | none => rw [q] at e; cases e
  | some j =>
    rw [q] at e
    have e' : l[j]? = some d := e
    show (l.map V.int)[j]? = some (V.int d)
    rw [List.getElem?_map, e']
    rfl
theorem d_ix : DOp G (rIx G.K) oIx := by
  intro W σ s st v w d d' k hv hw Q post
  cases d <;> cases d' <;> try exact post.elim
  case lst.int l i =>
    obtain ⟨p, vs, rfl, hp, hl⟩ := hv.lst k.sf
    obtain rfl := hw.int
    obtain ⟨y, q, post⟩ := RPost.opt (atI l i) (fun d => .val .P d st) post
    obtain ⟨x, h1, h2⟩ := atI_L hl q
    exact .inl ⟨p, vs, i, x, rfl, rfl, SqL.of hp, h1, post.now k h2⟩
  case ptr.int n i =>
    obtain ⟨p, rfl, hp⟩ := hv.ptr
    obtain rfl := hw.int
    obtain ⟨l, ql, post⟩ := RPost.opt (stLst st n) (fun l => ofOpt (atI l i) fun d => .val .P d st) post
    obtain ⟨y, q, post⟩ := RPost.opt (atI l i) (fun d => .val .P d st) post
    obtain ⟨vs, hh, hl⟩ := k.lst hp ql
    obtain ⟨x, h1, h2⟩ := atI_L hl q
    exact .inl ⟨p, vs, i, x, rfl, rfl, SqL.of hh, h1, post.now k h2⟩
  case tup.int l i =>
    obtain ⟨p, vs, rfl, hp, hl⟩ := hv.tup k.sf
    obtain rfl := hw.int
    obtain ⟨y, q, post⟩ := RPost.opt (atI l i) (fun d => .val .P d st) post
    obtain ⟨x, h1, h2⟩ := atI_L hl q
    exact .inr (.inl ⟨p, vs, i, x, rfl, rfl, hp, h1, post.now k h2⟩)
  case scr.int l i =>
    obtain ⟨p, rfl, hp⟩ := hv.scr k.sf
    obtain rfl := hw.int
    obtain ⟨y, q, post⟩ := RPost.opt (atI l i) (fun d => .val .P (.int d) st) post
    exact .inl ⟨p, _, i, _, rfl, rfl, hp, atI_map q, post.now k (.int _)⟩
  case str.int z i =>
    obtain rfl := hv.str; obtain rfl := hw.int
    obtain ⟨h, post⟩ := RPost.cond (z.length ≤ 1000000) (ofOpt (atI z.cps.toList i) (fun c => .val .P (.str ⟨#[c]⟩) st)) post
    obtain ⟨c, q, post⟩ := RPost.opt (atI z.cps.toList i) (fun c => .val .P (.str ⟨#[c]⟩) st) post
    exact .inr (.inr ⟨z, i, c, rfl, rfl, sz h, q, post.now k (.str _)⟩)
end
section
variable {G : Gm} {W : WX}
def dVar (i : Nat) : En → ER := fun E => match E.e[i]? with
  | some (.val d) => .val .P d E.st
  | some (.own l) => .val .B (.lst l) E.st
  | _ => .bad
theorem v_var {i : Nat} : DEv G W (tVar i) (dVar i) := by
  intro s t σ e st E k Q post
  unfold dVar at post
  split at post
  · rename_i d q
    obtain ⟨o, h1, v, rfl, h2⟩ := E.slot q
    exact ⟨v, h1, post.now k h2⟩
  · rename_i l q
    obtain ⟨o, h1, p, vs, rfl, a, b, c, d, f⟩ := E.slot q
    exact ⟨_, h1, post t _ (Gro.refl k) k ⟨p, vs, l, rfl, rfl, c, d, f⟩⟩
  · exact post.elim
def dC (d : D) : En → ER := fun E => .val .P d E.st
theorem v_int {n : Int} : DEv G W (tC (.int n)) (dC (.int n)) := fun _ _ _ _ _ _ k _ post => RPost.now k post (.int _)
theorem v_str {n : Str} : DEv G W (tC (.str n)) (dC (.str n)) := fun _ _ _ _ _ _ k _ post => RPost.now k post (.str _)
theorem v_bl {n : Bool} : DEv G W (tC (.bl n)) (dC (.bl n)) := fun _ _ _ _ _ _ k _ post => RPost.now k post (.bl _)
theorem v_non : DEv G W (tC .non) (dC .non) := fun _ _ _ _ _ _ k _ post => RPost.now k post .non
theorem v_const {v : V} {d : D} (h : ∀ as H, Is G as H v d) : DEv G W (tC v) (dC d) := fun _ _ _ _ _ _ k _ post => RPost.now k post (h _ _)
def dOp (o : D → D → Sto → ER) (f g : En → ER) : En → ER := fun E => (f E).bind fun x st => (g ⟨E.e, st⟩).bind fun y st => o x y st
theorem v_op {r : R2} {o : D → D → Sto → ER} {ta tb : TE} {f g : En → ER} (hr : DOp G r o) (ha : DEv G W ta f) (hb : DEv G W tb g) : DEv G W (tOp r ta tb) (dOp o f g) := by
  intro s t σ e st E k Q post
  refine ha s t σ e st E k _ (RPost.bind post fun m d st1 t1 v g1 k1 o1 p1 => ?_)
  refine hb s t1 σ e st1 (E.up g1) k1 _ (RPost.bind p1 fun m2 d2 st2 t2 w g2 k2 o2 p2 => ?_)
  exact hr W σ t2 st2 v w d d2 k2 ((o1.up g2).u) o2.u Q p2
def DUn (G : Gm) (r : V → Hp → VK → Prop) (o : D → Sto → ER) : Prop :=
  ∀ (W : WX) (σ : L2.St) (s : Hs) (st : Sto) (v : V) (d : D), StOk G s st → U G s v d → ∀ Q : VK, RPost G W s σ Q (o d st) → r v s.h Q
def dUn (o : D → Sto → ER) (f : En → ER) : En → ER := fun E => (f E).bind o
theorem v_un {r : V → Hp → VK → Prop} {o : D → Sto → ER} {ta : TE} {f : En → ER} (hr : DUn G r o) (ha : DEv G W ta f) : DEv G W (tUn r ta) (dUn o f) := by
  intro s t σ e st E k Q post
  refine ha s t σ e st E k _ (RPost.bind post fun m d st1 t1 v g1 k1 o1 p1 => ?_)
  exact hr W σ t1 st1 v d k1 o1.u Q p1
def oNeg : D → Sto → ER
  | .int i, st => .val .P (.int (-i)) st
  | _, _ => .bad
theorem d_neg : DUn G (rU fun i => .int (-i)) oNeg := by
  intro W σ s st v d k hv Q post
  cases d <;> try exact post.elim
  obtain rfl := hv.int
  exact ⟨_, rfl, post.now k (.int _)⟩
def TPost (G : Gm) (W : WX) (s : Hs) (σ : L2.St) (Q : Bool → Hp → Prop) : ER → Prop
  | .val _ (.bl b) st => ∀ t, Gro s t → StOk G t st → Q b t.h
  | .exc c l st => ∀ t x, Gro s t → StOk G t st → ExcOk G t c l x → W (.ref (G.ca c)) x σ t.h
  | _ => False
def DTt (G : Gm) (W : WX) (tt : TT) (f : En → ER) : Prop :=
  ∀ s t σ e st, EnvOk G s t σ e → StOk G t st → ∀ Q : Bool → Hp → Prop, TPost G W t σ Q (f ⟨e, st⟩) → tt σ t.h Q
theorem TPost.step {s t : Hs} {σ : L2.St} {Q : Bool → Hp → Prop} {r : ER} (g : Gro s t) (h : TPost G W s σ Q r) : TPost G W t σ Q r := by
  cases r with
  | val m d st =>
    cases d <;> first | exact h.elim | skip
    exact fun u g' => h u (g.trans g')
  | exc c l st => exact fun u x g' => h u x (g.trans g')
  | bad => exact h
def ER.bindB (r : ER) (k : Bool → Sto → ER) : ER := match r with
  | .val _ (.bl b) st => k b st
  | .exc c l st => .exc c l st
  | _ => .bad
@[simp] theorem ER.bindB_val (m : Md) (b : Bool) (st : Sto) (k : Bool → Sto → ER) : (ER.val m (.bl b) st).bindB k = k b st := rfl
@[simp] theorem ER.bindB_exc (c : Nat) (l : List D) (st : Sto) (k : Bool → Sto → ER) : (ER.exc c l st).bindB k = .exc c l st := rfl
@[simp] theorem ER.bindB_bad (k : Bool → Sto → ER) : ER.bad.bindB k = .bad := rfl
theorem t_val {te : TE} {f : En → ER} (h : DEv G W te f) : DTt G W (tB te) f := by
  intro s t σ e st E k Q post
  refine h s t σ e st E k _ ?_
  cases q : f ⟨e, st⟩ with
  | val m d st' =>
    rw [q] at post
    intro t' v g k' o
    cases d <;> first | exact post.elim | skip
    obtain rfl := o.u.bl
    exact ⟨_, rfl, post t' g k'⟩
  | exc c l st' => rw [q] at post; exact post
  | bad => rw [q] at post; exact post
theorem t_test {te : TE} {f : En → ER} (h : DEv G W te f) : DTt G W (tTest te) f := t_val h
theorem TPost.bindB {s : Hs} {σ : L2.St} {Q Q' : Bool → Hp → Prop} {r : ER} {k : Bool → Sto → ER} (h : TPost G W s σ Q (r.bindB k)) (hk : ∀ b st t, Gro s t → StOk G t st → TPost G W t σ Q (k b st) → Q' b t.h) : TPost G W s σ Q' r := by
  cases r with
  | val m d st =>
    cases d <;> first | exact h.elim | skip
    exact fun t g k' => hk _ st t g k' (TPost.step g h)
  | exc c l st => exact h
  | bad => exact h
def dAnd (f g : En → ER) : En → ER := fun E => (f E).bindB fun b st => if b = true then g ⟨E.e, st⟩ else .val .P (.bl false) st
def dOr (f g : En → ER) : En → ER := fun E => (f E).bindB fun b st => if b = true then .val .P (.bl true) st else g ⟨E.e, st⟩
def dNot (f : En → ER) : En → ER := fun E => (f E).bindB fun b st => .val .P (.bl (!b)) st
theorem TPost.of {s : Hs} {st : Sto} {σ : L2.St} {Q : Bool → Hp → Prop} {b : Bool} (k : StOk G s st) (h : TPost G W s σ Q (.val .P (.bl b) st)) : Q b s.h := h s (Gro.refl k) k
theorem t_and {t u : TT} {f g : En → ER} (ht : DTt G W t f) (hu : DTt G W u g) : DTt G W (tAnd t u) (dAnd f g) := by
  intro s t σ e st E k Q post
  refine ht s t σ e st E k _ (TPost.bindB post fun b st1 t1 g1 k1 p1 => ?_)
  cases b with
  | true => exact iteT (hu s t1 σ e st1 (E.up g1) k1 Q p1)
  | false => exact iteF (TPost.of k1 p1)
theorem t_or {t u : TT} {f g : En → ER} (ht : DTt G W t f) (hu : DTt G W u g) : DTt G W (tOr t u) (dOr f g) := by
  intro s t σ e st E k Q post
  refine ht s t σ e st E k _ (TPost.bindB post fun b st1 t1 g1 k1 p1 => ?_)
  cases b with
  | false => exact iteF (hu s t1 σ e st1 (E.up g1) k1 Q p1)
  | true => exact iteT (TPost.of k1 p1)
theorem t_not {t : TT} {f : En → ER} (ht : DTt G W t f) : DTt G W (tNot t) (dNot f) := by
  intro s t σ e st E k Q post
  exact ht s t σ e st E k _ (TPost.bindB post fun b st1 t1 g1 k1 p1 => TPost.of k1 p1)
theorem RPost.bindB {s : Hs} {σ : L2.St} {Q Q' : VK} {r : ER} {k : Bool → Sto → ER} (h : RPost G W s σ Q (r.bindB k))
    (hk : ∀ b st t, Gro s t → StOk G t st → RPost G W t σ Q (k b st) → Q' (.bl b) t.h) : RPost G W s σ Q' r := by
  cases r with
  | val m d st =>
    cases d <;> first | exact h.elim | skip
    intro t v g k' o
    obtain rfl := o.u.bl
    exact hk _ st t g k' (RPost.step g k' h)
  | exc c l st => exact h
  | bad => exact h
theorem v_or {ta tb : TE} {f g : En → ER} (ha : DEv G W ta f) (hb : DEv G W tb g) : DEv G W (tOrV ta tb) (dOr f g) := by
  intro s t σ e st E k Q post
  refine ha s t σ e st E k _ (RPost.bindB post fun b st1 t1 g1 k1 p1 => ?_)
  cases b with
  | false => exact ⟨false, rfl, iteF (hb s t1 σ e st1 (E.up g1) k1 Q p1)⟩
  | true => exact ⟨true, rfl, iteT (RPost.now k1 p1 (.bl _))⟩
def dIf (c f g : En → ER) : En → ER := fun E => (c E).bindB fun b st => if b = true then f ⟨E.e, st⟩ else g ⟨E.e, st⟩
def dChain (o o' : D → D → Sto → ER) (f g h : En → ER) : En → ER := fun E => (f E).bind fun x st => (g ⟨E.e, st⟩).bind fun y st => (o x y st).bindB fun b st => if b = true then (h ⟨E.e, st⟩).bind fun z st => o' y z st else .val .P (.bl false) st
end
end Dn
namespace Dn
open PySem PySem.Spec PyProof.Rows L2
inductive UL (G : Gm) (s : Hs) : List V → List D → Prop
  | nil : UL G s [] []
  | cons {v : V} {vs : List V} {d : D} {ds : List D} : U G s v d → UL G s vs ds → UL G s (v :: vs) (d :: ds)
theorem UL.len {G : Gm} {s : Hs} : ∀ {ds : List D} {vs : List V}, UL G s vs ds → vs.length = ds.length
  | [], _, h => by cases h; rfl
  | d :: ds, _, h => by cases h with | cons a b => exact congrArg Nat.succ b.len
theorem UL.up {G : Gm} {s t : Hs} (g : Gro s t) : ∀ {ds : List D} {vs : List V}, UL G s vs ds → UL G t vs ds
  | [], _, h => by cases h; exact .nil
  | d :: ds, _, h => by cases h with | cons a b => exact .cons (a.up g) (UL.up g b)
inductive AR where | ok (p : Bool) (l : List D) (st : Sto) | exc (c : Nat) (l : List D) (st : Sto) | bad
def APost (G : Gm) (W : WX) (s : Hs) (σ : L2.St) (Q : List V → Hp → Prop) : AR → Prop
  | .ok p l st => ∀ t vs, Gro s t → StOk G t st → (p = true → IsL G t.as t.f vs l) → UL G t vs l → Q vs t.h
  | .exc c l st => ∀ t x, Gro s t → StOk G t st → ExcOk G t c l x → W (.ref (G.ca c)) x σ t.h
  | .bad => False
theorem APost.step {G : Gm} {W : WX} {s t : Hs} {σ : L2.St} {Q : List V → Hp → Prop} {r : AR} (g : Gro s t) (h : APost G W s σ Q r) : APost G W t σ Q r := by
  cases r with
  | ok p l st => exact fun u v g' => h u v (g.trans g')
  | exc c l st => exact fun u x g' => h u x (g.trans g')
  | bad => exact h
def AR.cons (p : Bool) (d : D) : AR → AR
  | .ok q l st => .ok (p && q) (d :: l) st
  | .exc c l st => .exc c l st
  | .bad => .bad
def ER.cons (r : ER) (a : Sto → AR) : AR := match r with
  | .val .B d st => (a st).cons false d
  | .val .P d st => (a st).cons true d
  | .val .N d st => (a st).cons true d
  | .exc c l st => .exc c l st
  | .bad => .bad
def DAr (G : Gm) (W : WX) (ta : TA) (f : En → AR) : Prop :=
  ∀ s t σ e st, EnvOk G s t σ e → StOk G t st → ∀ Q : List V → Hp → Prop, APost G W t σ Q (f ⟨e, st⟩) → ta σ t.h Q
section
variable {G : Gm} {W : WX}
def aNil : En → AR := fun E => .ok true [] E.st
theorem a_nil : DAr G W tNil aNil := fun _ t _ _ _ _ k _ post => post t [] (Gro.refl k) k (fun _ => .nil) .nil
def aCons (f : En → ER) (g : En → AR) : En → AR := fun E => (f E).cons fun st => g ⟨E.e, st⟩
theorem APost.consP {s : Hs} {σ : L2.St} {Q : List V → Hp → Prop} {d : D} {v : V} {a : AR} (h : APost G W s σ Q (a.cons true d)) (hv : Is G s.as s.f v d) : APost G W s σ (fun xs H2 => Q (v :: xs) H2) a := by
  cases a with
  | ok p l st => exact fun t vs g k q u => h t (v :: vs) g k (fun z => .cons (hv.up g.a g.f) (q (by simpa using z))) (.cons (.inl (hv.up g.a g.f)) u)
  | exc c l st => exact h
  | bad => exact h
theorem APost.consB {s : Hs} {σ : L2.St} {Q : List V → Hp → Prop} {d : D} {v : V} {a : AR} (h : APost G W s σ Q (a.cons false d)) (hv : U G s v d) : APost G W s σ (fun xs H2 => Q (v :: xs) H2) a := by
  cases a with
  | ok p l st => exact fun t vs g k q u => h t (v :: vs) g k (fun z => by simp at z) (.cons (hv.up g) u)
  | exc c l st => exact h
  | bad => exact h
theorem a_cons {te : TE} {tr : TA} {f : En → ER} {g : En → AR} (ha : DEv G W te f) (hr : DAr G W tr g) : DAr G W (tCons te tr) (aCons f g) := by
  intro s t σ e st E k Q post
  refine ha s t σ e st E k _ ?_
  unfold aCons at post
  cases q : f ⟨e, st⟩ with
  | val m d st1 =>
    rw [q] at post
    intro t1 v g1 k1 o1
    cases m with
    | P => exact hr s t1 σ e st1 (E.up g1) k1 _ (APost.consP (APost.step g1 post) o1)
    | B => exact hr s t1 σ e st1 (E.up g1) k1 _ (APost.consB (APost.step g1 post) o1.u)
    | N =>
      obtain ⟨f2, g2, k2, _, i2⟩ := o1.freeze g1 k1 (by decide)
      exact hr s ⟨t1.as, f2, t1.h⟩ σ e st1 (E.up g2) k2 _ (APost.consP (APost.step g2 post) i2)
  | exc c l st1 => rw [q] at post; exact post
  | bad => rw [q] at post; exact post
def dTup (f : En → AR) : En → ER := fun E => match f E with
  | .ok true l st => if l.length ≤ 1000000 then .val .P (.tup l) st else .bad
  | .exc c l st => .exc c l st
  | _ => .bad
theorem v_tup {ta : TA} {f : En → AR} (h : DAr G W ta f) : DEv G W (tTup ta) (dTup f) := by
  intro s t σ e st E k Q post
  refine h s t σ e st E k _ ?_
  unfold dTup at post
  cases q : f ⟨e, st⟩ with
  | ok p l st1 =>
    rw [q] at post
    cases p with
    | false => exact post.elim
    | true =>
      obtain ⟨c, post⟩ := RPost.cond _ _ post
      exact fun t1 vs g1 k1 i1 u1 => ⟨by rw [u1.len]; exact sz c, fun p hp => (RPost.step g1 k1 post).newT k1 (i1 rfl) hp⟩
  | exc c l st1 => rw [q] at post; exact post
  | bad => rw [q] at post; exact post
def dLst (f : En → AR) : En → ER := fun E => match f E with
  | .ok true l st => if l.length ≤ 1000000 then .val .N (.lst l) st else .bad
  | .exc c l st => .exc c l st
  | _ => .bad
theorem v_lst {ta : TA} {f : En → AR} (h : DAr G W ta f) : DEv G W (tLst ta) (dLst f) := by
  intro s t σ e st E k Q post
  refine h s t σ e st E k _ ?_
  unfold dLst at post
  cases q : f ⟨e, st⟩ with
  | ok p l st1 =>
    rw [q] at post
    cases p with
    | false => exact post.elim
    | true =>
      obtain ⟨c, post⟩ := RPost.cond _ _ post
      exact fun t1 vs g1 k1 i1 u1 => ⟨by rw [u1.len]; exact sz c, fun p hp => (RPost.step g1 k1 post).newL k1 (i1 rfl) hp⟩
  | exc c l st1 => rw [q] at post; exact post
  | bad => rw [q] at post; exact post
def dPut (f : En → ER) : En → ER := fun E => match f E with
  | .val .N (.lst l) st => .val .P (.ptr st.length) (st ++ [.lst l])
  | .exc c l st => .exc c l st
  | _ => .bad
theorem v_put {te : TE} {f : En → ER} (h : DEv G W te f) : DEv G W te (dPut f) := by
  intro s t σ e st E k Q post
  refine h s t σ e st E k _ ?_
  unfold dPut at post
  cases q : f ⟨e, st⟩ with
  | val m d st1 =>
    rw [q] at post
    cases m with
    | P => cases d <;> exact post.elim
    | B => cases d <;> exact post.elim
    | N =>
      intro t1 v g1 k1 o1
      obtain ⟨p, vs, l, rfl, rfl, a, b, c, n, z⟩ := o1
      have k2 : StOk G ⟨t1.as ++ [p], t1.f, t1.h⟩ (st1 ++ [.lst l]) := k1.put z c ⟨vs, a, b.up (Ext.app _ _) (Same.refl _)⟩
      refine post ⟨t1.as ++ [p], t1.f, t1.h⟩ _ (g1.put k1 n z) k2 (.ptr ?_)
      show (t1.as ++ [p])[st1.length]? = some p
      rw [← k1.len, List.getElem?_append_right (Nat.le_refl _)]
      simp
  | exc c l st1 => rw [q] at post; exact post
  | bad => rw [q] at post; exact post
def spF (G : Gm) (F : List D → Sto → ER) : Sp := fun vs H Q E => ∃ (s : Hs) (ds : List D) (st : Sto), s.h = H ∧ StOk G s st ∧ IsL G s.as s.f vs ds ∧ RPost G (fun c x _ H' => E c x H') s [] Q (F ds st)
def dCall (F : List D → Sto → ER) (f : En → AR) : En → ER := fun E => match f E with
  | .ok true l st => F l st
  | .exc c l st => .exc c l st
  | _ => .bad
theorem RPost.w {W' : WX} {s : Hs} {σ σ' : L2.St} {Q : VK} {r : ER} (h : RPost G W s σ Q r) (hw : ∀ c x H', W c x σ H' → W' c x σ' H') : RPost G W' s σ' Q r := by
  cases r with
  | val m d st => exact h
  | exc c l st => exact fun t x g k o => hw _ _ _ (h t x g k o)
  | bad => exact h
theorem v_call {F : List D → Sto → ER} {ta : TA} {f : En → AR} (ha : DAr G W ta f) : DEv G W (tCallS (spF G F) (WE W) ta) (dCall F f) := by
  intro s t σ e st E k Q post
  refine ha s t σ e st E k _ ?_
  unfold dCall at post
  cases q : f ⟨e, st⟩ with
  | ok p l st1 =>
    rw [q] at post
    cases p with
    | true => exact fun t1 vs g1 k1 i1 u1 => ⟨t1, l, st1, rfl, k1, i1 rfl, (RPost.step g1 k1 post).w (fun c x H' h => h)⟩
    | false => exact post.elim
  | exc c l st1 => rw [q] at post; exact post
  | bad => rw [q] at post; exact post
def DCal (G : Gm) (r : List V → Hp → VK → Prop) (o : List D → Sto → ER) : Prop :=
  ∀ (W : WX) (σ : L2.St) (s : Hs) (st : Sto) (vs : List V) (ds : List D), StOk G s st → UL G s vs ds → ∀ Q : VK, RPost G W s σ Q (o ds st) → r vs s.h Q
def dCB (o : List D → Sto → ER) (f : En → AR) : En → ER := fun E => match f E with
  | .ok _ l st => o l st
  | .exc c l st => .exc c l st
  | .bad => .bad
theorem v_cb {r : List V → Hp → VK → Prop} {o : List D → Sto → ER} {ta : TA} {f : En → AR} (hr : DCal G r o) (ha : DAr G W ta f) : DEv G W (tCB r ta) (dCB o f) := by
  intro s t σ e st E k Q post
  refine ha s t σ e st E k _ ?_
  unfold dCB at post
  cases q : f ⟨e, st⟩ with
  | ok p l st1 => rw [q] at post; exact fun t1 vs g1 k1 i1 u1 => hr W σ t1 st1 vs l k1 u1 Q (RPost.step g1 k1 post)
  | exc c l st1 => rw [q] at post; exact post
  | bad => rw [q] at post; exact post
theorem UL.one {s : Hs} {vs : List V} {d : D} (h : UL G s vs [d]) : ∃ v, vs = [v] ∧ U G s v d := by
  cases h with | cons a b => cases b; exact ⟨_, rfl, a⟩
theorem UL.two {s : Hs} {vs : List V} {d e : D} (h : UL G s vs [d, e]) : ∃ v w, vs = [v, w] ∧ U G s v d ∧ U G s w e := by
  cases h with | cons a b => cases b with | cons c d => cases d; exact ⟨_, _, rfl, a, c⟩
theorem DCal.one1 {r : List V → Hp → VK → Prop} {o : List D → Sto → ER} (h0 : ∀ st, o [] st = .bad) (h2 : ∀ a b l st, o (a :: b :: l) st = .bad)
    (h : ∀ (W : WX) (σ : L2.St) (s : Hs) (st : Sto) (v : V) (d : D), StOk G s st → U G s v d → ∀ Q : VK, RPost G W s σ Q (o [d] st) → r [v] s.h Q) : DCal G r o := by
  intro W σ s st vs ds k hv Q post
  match ds, hv, post with
  | [], _, post => rw [h0] at post; exact post.elim
  | [d], hv, post => obtain ⟨v, rfl, hv1⟩ := hv.one; exact h W σ s st v d k hv1 Q post
  | a :: b :: l, _, post => rw [h2] at post; exact post.elim
def oAbs : List D → Sto → ER
  | [.int i], st => .val .P (.int (if i < 0 then -i else i)) st
  | _, _ => .bad
theorem c_abs : DCal G (fun xs H Q => ∃ i, xs = [.int i] ∧ Q (.int (if i < 0 then -i else i)) H) oAbs := by
  refine DCal.one1 (fun _ => rfl) (fun a b l _ => by cases a <;> rfl) fun W σ s st v d k hv Q post => ?_
  cases d <;> try exact post.elim
  obtain rfl := hv.int
  exact ⟨_, rfl, post.now k (.int _)⟩
def oLen : List D → Sto → ER
  | [.lst l], st => .val .P (.int l.length) st
  | [.tup l], st => .val .P (.int l.length) st
  | [.scr l], st => .val .P (.int l.length) st
  | [.ptr n], st => ofOpt (stLst st n) fun l => .val .P (.int l.length) st
  | [.str z], st => if z.length ≤ 1000000 then .val .P (.int z.length) st else .bad
  | _, _ => .bad
theorem c_len : DCal G (fun xs H Q => ∃ x n, xs = [x] ∧ LenV G.K x H n ∧ Q (.int n) H) oLen := by
  refine DCal.one1 (fun _ => rfl) (fun a b l _ => by cases a <;> rfl) fun W σ s st v d k hv Q post => ?_
  cases d <;> try exact post.elim
  case lst l =>
    obtain ⟨p, vs, rfl, hp, hl⟩ := hv.lst k.sf
    exact ⟨_, l.length, rfl, .inl ⟨vs, SqL.of hp, hl.len.symm⟩, post.now k (.int _)⟩
  case tup l =>
    obtain ⟨p, vs, rfl, hp, hl⟩ := hv.tup k.sf
    exact ⟨_, l.length, rfl, .inr ⟨vs, hp, hl.len.symm⟩, post.now k (.int _)⟩
  case scr l =>
    obtain ⟨p, rfl, hp⟩ := hv.scr k.sf
    exact ⟨_, l.length, rfl, .inl ⟨_, hp, by rw [List.length_map]⟩, post.now k (.int _)⟩
  case ptr n =>
    obtain ⟨p, rfl, hp⟩ := hv.ptr
    obtain ⟨l, ql, post⟩ := RPost.opt (stLst st n) (fun l => .val .P (.int l.length) st) post
    obtain ⟨vs, hh, hl⟩ := k.lst hp ql
    exact ⟨_, l.length, rfl, .inl ⟨vs, SqL.of hh, hl.len.symm⟩, post.now k (.int _)⟩
  case str z =>
    obtain rfl := hv.str
    obtain ⟨c, post⟩ := RPost.cond (z.length ≤ 1000000) (.val .P (.int z.length) st) post
    exact ⟨_, z.length, rfl, ⟨sz c, rfl⟩, post.now k (.int _)⟩
def oMax2 : List D → Sto → ER
  | [.int i, .int j], st => .val .P (.int (if j > i then j else i)) st
  | _, _ => .bad
def oMin2 : List D → Sto → ER
  | [.int i, .int j], st => .val .P (.int (if j < i then j else i)) st
  | _, _ => .bad
theorem DCal.two2 {r : List V → Hp → VK → Prop} {o : List D → Sto → ER} (h0 : ∀ st, o [] st = .bad) (h1 : ∀ a st, o [a] st = .bad) (h3 : ∀ a b c l st, o (a :: b :: c :: l) st = .bad)
    (h : ∀ (W : WX) (σ : L2.St) (s : Hs) (st : Sto) (v w : V) (d d' : D), StOk G s st → U G s v d → U G s w d' → ∀ Q : VK, RPost G W s σ Q (o [d, d'] st) → r [v, w] s.h Q) : DCal G r o := by
  intro W σ s st vs ds k hv Q post
  match ds, hv, post with
  | [], _, post => rw [h0] at post; exact post.elim
  | [a], _, post => rw [h1] at post; exact post.elim
  | [d, d'], hv, post => obtain ⟨v, w, rfl, hv1, hv2⟩ := hv.two; exact h W σ s st v w d d' k hv1 hv2 Q post
  | a :: b :: c :: l, _, post => rw [h3] at post; exact post.elim
theorem c_max2 : DCal G (fun xs H Q => ∃ i j, xs = [.int i, .int j] ∧ Q (.int (if j > i then j else i)) H) oMax2 := by
  refine DCal.two2 (fun _ => rfl) (fun a _ => by cases a <;> rfl) (fun a b c l _ => by cases a <;> first | rfl | (cases b <;> rfl)) fun W σ s st v w d d' k hv hw Q post => ?_
  cases d <;> cases d' <;> try exact post.elim
  obtain rfl := hv.int; obtain rfl := hw.int
  exact ⟨_, _, rfl, post.now k (.int _)⟩
theorem c_min2 : DCal G (fun xs H Q => ∃ i j, xs = [.int i, .int j] ∧ Q (.int (if j < i then j else i)) H) oMin2 := by
  refine DCal.two2 (fun _ => rfl) (fun a _ => by cases a <;> rfl) (fun a b c l _ => by cases a <;> first | rfl | (cases b <;> rfl)) fun W σ s st v w d d' k hv hw Q post => ?_
  cases d <;> cases d' <;> try exact post.elim
  obtain rfl := hv.int; obtain rfl := hw.int
  exact ⟨_, _, rfl, post.now k (.int _)⟩
def intsOf : List D → Option (List Int)
  | [] => some []
  | .int i :: l => (intsOf l).map (i :: ·)
  | _ => none
theorem intsOf_V {as : List Addr} {H : Hp} : ∀ {l : List D} {vs : List V} {ns : List Int}, intsOf l = some ns → IsL G as H vs l → vs = ns.map V.int
  | [], _, _, h, i => by cases i; cases h; rfl
  | d :: l, _, ns, h, i => by
    cases i with
    | cons a b =>
      cases d <;> first | (cases h; done) | skip
      rename_i i
      have h' : (intsOf l).map (i :: ·) = some ns := h
      cases q : intsOf l with
      | none => rw [q] at h'; cases h'
      | some ms =>
        rw [q] at h'; cases h'
        cases a
        rw [intsOf_V q b]; rfl
def oSum : List D → Sto → ER
  | [.lst l], st => ofOpt (intsOf l) fun ns => .val .P (.int ns.sum) st
  | _, _ => .bad
theorem IsL.ints {as : List Addr} {H : Hp} : ∀ (l : List Int), IsL G as H (l.map V.int) (l.map D.int)
  | [] => .nil
  | i :: l => .cons (.int i) (IsL.ints l)
def oList : List D → Sto → ER
  | [.lst l], st => .val .N (.lst l) st
  | [.tup l], st => .val .N (.lst l) st
  | [.scr l], st => .val .N (.lst (l.map .int)) st
  | [.ptr n], st => ofOpt (stLst st n) fun l => .val .N (.lst l) st
  | _, _ => .bad
theorem c_list : DCal G (fun xs H Q => ∃ p ys, xs = [.ref p] ∧ (SqL G.K H p ys ∨ SqT G.K H p ys) ∧ ∀ l, H l = none → Q (.ref l) (upd H l (.lst ys))) oList := by
  refine DCal.one1 (fun _ => rfl) (fun a b l _ => by cases a <;> rfl) fun W σ s st v d k hv Q post => ?_
  cases d <;> try exact post.elim
  case lst l =>
    obtain ⟨p, vs, rfl, hp, hl⟩ := hv.lst k.sf
    exact ⟨p, vs, rfl, .inl (SqL.of hp), fun r hr => RPost.newL k post hl hr⟩
  case tup l =>
    obtain ⟨p, vs, rfl, hp, hl⟩ := hv.tup k.sf
    exact ⟨p, vs, rfl, .inr hp, fun r hr => RPost.newL k post hl hr⟩
  case scr l =>
    obtain ⟨p, rfl, hp⟩ := hv.scr k.sf
    exact ⟨p, _, rfl, .inl hp, fun r hr => RPost.newL k post (IsL.ints _) hr⟩
  case ptr n =>
    obtain ⟨p, rfl, hp⟩ := hv.ptr
    obtain ⟨l, ql, post⟩ := RPost.opt (stLst st n) (fun l => .val .N (.lst l) st) post
    obtain ⟨vs, hh, hl⟩ := k.lst hp ql
    exact ⟨p, vs, rfl, .inl (SqL.of hh), fun r hr => RPost.newL k post hl hr⟩
def oTuple : List D → Sto → ER
  | [.lst l], st => .val .P (.tup l) st
  | [.tup l], st => .val .P (.tup l) st
  | _, _ => .bad
def cutG {α : Type} (xs : List α) (lo hi : Option Int) : List α := (xs.drop (HT.sIx xs.length 0 lo)).take (HT.sIx xs.length xs.length hi - HT.sIx xs.length 0 lo)
theorem cut_L {as : List Addr} {f : Hp} {vs : List V} {l : List D} (h : IsL G as f vs l) (lo hi : Option Int) : IsL G as f (cutV vs lo hi) (cutG l lo hi) := by
  unfold cutV cutG
  rw [h.len]
  exact (h.drop _).take _
def DTo (G : Gm) (W : WX) (to : TO) (f : En → Option ER) : Prop :=
  ∀ s t σ e st, EnvOk G s t σ e → StOk G t st → ∀ (Q : Option Int → Hp → Prop) (o : Option Int) (st' : Sto),
    (match f ⟨e, st⟩ with
      | none => o = none ∧ st' = st
      | some (.val _ (.int i) st1) => o = some i ∧ st' = st1
      | _ => False) → (∀ t', Gro t t' → StOk G t' st' → Q o t'.h) → to σ t.h Q
theorem o_none : DTo G W tNoPart (fun _ => none) := fun _ t _ _ _ _ k _ _ _ ⟨h1, h2⟩ post => by
  subst h1; subst h2; exact post t (Gro.refl k) k
theorem o_some {te : TE} {f : En → ER} (h : DEv G W te f) : DTo G W (tPart te) (fun E => some (f E)) := by
  intro s t σ e st E k Q o st' c post
  refine h s t σ e st E k _ ?_
  cases q : f ⟨e, st⟩ with
  | val m d st1 =>
    simp only [q] at c
    cases d <;> first | exact c.elim | skip
    obtain ⟨rfl, rfl⟩ := c
    intro t' v g k' o
    obtain rfl := o.u.int
    exact ⟨_, rfl, post t' g k'⟩
  | exc c' l st1 => simp only [q] at c
  | bad => simp only [q] at c
def partI (o : Option ER) (st : Sto) : Option (Option Int × Sto) := match o with
  | none => some (none, st)
  | some (.val _ (.int i) st1) => some (some i, st1)
  | _ => none
def DSl (G : Gm) (r : V → Option Int → Option Int → Hp → VK → Prop) (o : D → Option Int → Option Int → Sto → ER) : Prop :=
  ∀ (W : WX) (σ : L2.St) (s : Hs) (st : Sto) (v : V) (d : D) (lo hi : Option Int), StOk G s st → U G s v d → ∀ Q : VK, RPost G W s σ Q (o d lo hi st) → r v lo hi s.h Q
def dSl (o : D → Option Int → Option Int → Sto → ER) (f : En → ER) (lo hi : En → Option ER) : En → ER := fun E => (f E).bind fun x st => ofOpt (partI (lo ⟨E.e, st⟩) st) fun l => ofOpt (partI (hi ⟨E.e, l.2⟩) l.2) fun u => o x l.1 u.1 u.2
theorem part_post {tl : TO} {lo : En → Option ER} (hl : DTo G W tl lo) {s t : Hs} {σ : L2.St} {e : DE} {st : Sto} (E : EnvOk G s t σ e) (k : StOk G t st) {l : Option Int × Sto} (hp : partI (lo ⟨e, st⟩) st = some l) {Q : Option Int → Hp → Prop} (post : ∀ t', Gro t t' → StOk G t' l.2 → Q l.1 t'.h) : tl σ t.h Q := by
  refine hl s t σ e st E k Q l.1 l.2 ?_ post
  cases q : lo ⟨e, st⟩ with
  | none => rw [q] at hp; cases hp; exact ⟨rfl, rfl⟩
  | some r =>
    rw [q] at hp
    cases r with
    | val m d st1 =>
      cases d <;> first | (cases hp; done) | skip
      cases hp
      exact ⟨rfl, rfl⟩
    | exc c l st1 => cases hp
    | bad => cases hp
theorem v_sl {r : V → Option Int → Option Int → Hp → VK → Prop} {o : D → Option Int → Option Int → Sto → ER} {te : TE} {tl th : TO} {f : En → ER} {lo hi : En → Option ER} (hr : DSl G r o) (he : DEv G W te f) (hl : DTo G W tl lo) (hh : DTo G W th hi) : DEv G W (tSl r te tl th) (dSl o f lo hi) := by
  intro s t σ e st E k Q post
  refine he s t σ e st E k _ (RPost.bind post fun m d st1 t1 v g1 k1 o1 p1 => ?_)
  obtain ⟨l, h1, p1⟩ := RPost.opt _ _ p1
  obtain ⟨u, h2, p1⟩ := RPost.opt _ _ p1
  refine part_post hl (E.up g1) k1 h1 fun t2 g2 k2 => part_post hh ((E.up g1).up g2) k2 h2 fun t3 g3 k3 => ?_
  exact hr W σ t3 u.2 v d l.1 u.1 k3 (((o1.up g2).up g3).u) Q (RPost.step (g2.trans g3) k3 p1)
abbrev rSlA (K : PySem.W.Frag) : V → Option Int → Option Int → Hp → VK → Prop := fun x lo hi H Q => rSlL K x lo hi H Q ∨ (fun x lo hi H Q => L2.rSlA K x lo hi H Q ∨ rSlS x lo hi H Q) x lo hi H Q
theorem sl_any {X : Cx} : SlR X (rSlA X.K) := sl_list.or (L2.sl_tupA.or sl_str)
def oSl (d : D) (lo hi : Option Int) (st : Sto) : ER := match d with
  | .lst l => .val .N (.lst (cutG l lo hi)) st
  | .scr l => .val .N (.lst ((cutG l lo hi).map .int)) st
  | .tup l => .val .P (.tup (cutG l lo hi)) st
  | .str z => if z.length ≤ 1000000 then .val .P (.str (cutS z lo hi)) st else .bad
  | _ => .bad
theorem cut_map (l : List Int) (lo hi : Option Int) : cutV (l.map V.int) lo hi = (cutG l lo hi).map V.int := by
  unfold cutV cutG
  rw [List.length_map, List.map_take, List.map_drop]
theorem d_sl : DSl G (rSlA G.K) oSl := by
  intro W σ s st v d lo hi k hv Q post
  cases d <;> try exact post.elim
  case lst l =>
    obtain ⟨p, vs, rfl, hp, hl⟩ := hv.lst k.sf
    exact .inl ⟨p, vs, rfl, SqL.of hp, fun r hr => RPost.newL k post (cut_L hl lo hi) hr⟩
  case scr l =>
    obtain ⟨p, rfl, hp⟩ := hv.scr k.sf
    exact .inl ⟨p, _, rfl, hp, fun r hr => by rw [cut_map]; exact RPost.newL k post (IsL.ints _) hr⟩
  case tup l =>
    obtain ⟨p, vs, rfl, hp, hl⟩ := hv.tup k.sf
    refine .inr (.inl ⟨p, vs, rfl, hp, fun c => ?_, fun _ r hr => RPost.newT k post (cut_L hl lo hi) hr⟩)
    rw [hl.len] at c
    have e : cutG l lo hi = l := by
      unfold cutG
      rw [c.1, c.2]; simp
    rw [show oSl (.tup l) lo hi st = .val .P (.tup (cutG l lo hi)) st from rfl, e] at post
    exact RPost.now k post hv.tupI
  case str z =>
    obtain rfl := hv.str
    obtain ⟨c, post⟩ := RPost.cond (z.length ≤ 1000000) (.val .P (.str (cutS z lo hi)) st) post
    exact .inr (.inr ⟨z, rfl, sz c, post.now k (.str _)⟩)
end
end Dn
namespace Dn
open PySem PySem.Spec PyProof.Rows L2
structure Up (s t : Hs) : Prop where
  a : Ext s.as t.as
  f : Same s.f t.f
theorem Up.refl (s : Hs) : Up s s := ⟨Ext.refl _, Same.refl _⟩
theorem Up.trans {s t u : Hs} (x : Up s t) (y : Up t u) : Up s u := ⟨x.a.trans y.a, x.f.trans y.f⟩
theorem Gro.up {s t : Hs} (g : Gro s t) : Up s t := ⟨g.a, g.f⟩
def DTg (G : Gm) (g : TG) (js : List Nat) (h : D → DE → Option DE) : Prop :=
  ∀ s t σ e st v d, EnvOk G s t σ e → StOk G t st → Is G t.as t.f v d → ∀ Q : L2.St → Hp → Prop, ∀ e', h d e = some e' →
    (∀ σ', EnvOk G s t σ' e' → σ'.length = σ.length → (∀ i, i ∉ js → σ'[i]? = σ[i]?) → Q σ' t.h) → g v σ t.h Q
def DTgs (G : Gm) (g : TGs) (js : List Nat) (h : List D → DE → Option DE) : Prop :=
  ∀ s t σ e st vs ds, EnvOk G s t σ e → StOk G t st → IsL G t.as t.f vs ds → ∀ Q : L2.St → Hp → Prop, ∀ e', h ds e = some e' →
    (∀ σ', EnvOk G s t σ' e' → σ'.length = σ.length → (∀ i, i ∉ js → σ'[i]? = σ[i]?) → Q σ' t.h) → g vs σ t.h Q
section
variable {G : Gm} {W : WX}
def tgN (i : Nat) : D → DE → Option DE := fun d e => some (e.set i (.val d))
theorem g_name {i : Nat} : DTg G (gName i) [i] (tgN i) := by
  intro s t σ e st v d E k hv Q e' he post
  cases he
  refine post _ (E.set ⟨v, rfl, hv⟩ (fun l z => nomatch z)) (by simp) fun j hj => ?_
  have : i ≠ j := fun z => hj (by simp [z])
  rw [List.getElem?_set_ne this]
def tgsNil : List D → DE → Option DE := fun l e => match l with | [] => some e | _ => none
theorem gs_nil : DTgs G gNil [] tgsNil := by
  intro s t σ e st vs ds E k hv Q e' he post
  cases ds with
  | nil => cases hv; cases he; exact ⟨rfl, post σ E rfl fun _ _ => rfl⟩
  | cons d l => cases he
def tgsCons (t : D → DE → Option DE) (u : List D → DE → Option DE) : List D → DE → Option DE := fun l e => match l with
  | [] => none
  | d :: l => (t d e).bind (u l)
theorem gs_cons {g : TG} {gs : TGs} {js ks : List Nat} {t : D → DE → Option DE} {u : List D → DE → Option DE} (h1 : DTg G g js t) (h2 : DTgs G gs ks u) : DTgs G (gCons g gs) (js ++ ks) (tgsCons t u) := by
  intro s t0 σ e st vs ds E k hv Q e' he post
  cases ds with
  | nil => cases he
  | cons d l =>
    cases hv with
    | cons a b =>
      have he' : (t d e).bind (u l) = some e' := he
      cases q : t d e with
      | none => rw [q] at he'; cases he'
      | some e1 =>
        rw [q] at he'
        refine ⟨_, _, rfl, h1 s t0 σ e st _ d E k a _ e1 q fun σ1 E1 l1 w1 => ?_⟩
        refine h2 s t0 σ1 e1 st _ l E1 k b _ e' he' fun σ2 E2 l2 w2 => ?_
        refine post σ2 E2 (l2.trans l1) fun i hi => ?_
        rw [w2 i (fun z => hi (List.mem_append_right _ z)), w1 i (fun z => hi (List.mem_append_left _ z))]
def tgT (n : Nat) (u : List D → DE → Option DE) : D → DE → Option DE := fun d e => match d with
  | .tup l => if l.length = n then u l e else none
  | .lst l => if l.length = n then u l e else none
  | _ => none
abbrev gTL (K : PySem.W.Frag) (n : Nat) (t : TGs) : TG := fun v σ H Q => gTup K n t v σ H Q ∨ gLst K n t v σ H Q
theorem pg_tl {X : Cx} {pos : Pos} {es : List Expr} {k : Nat} {t : TGs} {n : Nat} (hc : X.calm = true) (h : PGs X es t)
    (hn : (assignEach es X.env).length = n := by rfl) (hst : (assignEach es X.env).findIdx? (·.1) = none := by rfl) : PG X (.Tuple es k pos) (gTL X.K n t) :=
  ⟨fun pins s σ H v u Q I r hw => hw.elim (fun z => (pg_tup hc h hn hst).run pins s σ H v u Q I r z) (fun z => (pg_lst hc h hn hst).run pins s σ H v u Q I r z)⟩
theorem g_tl {n : Nat} {t : TGs} {js : List Nat} {u : List D → DE → Option DE} (h : DTgs G t js u) : DTg G (gTL G.K n t) js (tgT n u) := by
  intro s t0 σ e st v d E k hv Q e' he post
  cases d <;> try (cases he; done)
  case tup l =>
    have he' : (if l.length = n then u l e else none) = some e' := he
    split at he'
    · rename_i hn
      cases hv with
      | tup a b => exact .inl ⟨_, _, rfl, same_t k.sf a, b.len.trans hn, h s t0 σ e st _ l E k b Q e' he' post⟩
    · cases he'
  case lst l =>
    have he' : (if l.length = n then u l e else none) = some e' := he
    split at he'
    · rename_i hn
      cases hv with
      | lst a b => exact .inr ⟨_, _, rfl, SqL.of (k.sf _ _ a), b.len.trans hn, h s t0 σ e st _ l E k b Q e' he' post⟩
    · cases he'
end
inductive SR where | nx (E : En) | rt (m : Md) (d : D) (st : Sto) | bk (E : En) | ct (E : En) | exc (c : Nat) (l : List D) (E : En) | bad
def SPost (G : Gm) (W : WX) (s t : Hs) (N : Ends) : SR → Prop
  | .nx E => ∀ t' σ', Up t t' → EnvOk G s t' σ' E.e → StOk G t' E.st → N.nx σ' t'.h
  | .rt m d st => ∀ t' v, Up t t' → Gro s t' → StOk G t' st → VOk G s t' m v d → N.rt v t'.h
  | .bk E => ∀ t' σ', Up t t' → EnvOk G s t' σ' E.e → StOk G t' E.st → N.bk σ' t'.h
  | .ct E => ∀ t' σ', Up t t' → EnvOk G s t' σ' E.e → StOk G t' E.st → N.ct σ' t'.h
  | .exc c l E => ∀ t' σ' x, Up t t' → EnvOk G s t' σ' E.e → StOk G t' E.st → ExcOk G t' c l x → W (.ref (G.ca c)) x σ' t'.h
  | .bad => False
theorem SPost.mono {G : Gm} {W : WX} {s t t1 : Hs} {N : Ends} {r : SR} (u : Up t t1) (h : SPost G W s t N r) : SPost G W s t1 N r := by
  cases r with
  | nx E => exact fun t' σ' q => h t' σ' (u.trans q)
  | rt m d st => exact fun t' v q => h t' v (u.trans q)
  | bk E => exact fun t' σ' q => h t' σ' (u.trans q)
  | ct E => exact fun t' σ' q => h t' σ' (u.trans q)
  | exc c l E => exact fun t' σ' x q => h t' σ' x (u.trans q)
  | bad => exact h
def DSt (G : Gm) (W : WX) (ts : TS) (g : En → SR) : Prop :=
  ∀ s t σ e st, EnvOk G s t σ e → StOk G t st → ∀ N : Ends, SPost G W s t N (g ⟨e, st⟩) → ts N σ t.h
def SR.bind (r : SR) (k : En → SR) : SR := match r with
  | .nx E => k E
  | r => r
@[simp] theorem SR.bind_nx (E : En) (k : En → SR) : (SR.nx E).bind k = k E := rfl
@[simp] theorem SR.bind_rt (m : Md) (d : D) (st : Sto) (k : En → SR) : (SR.rt m d st).bind k = .rt m d st := rfl
@[simp] theorem SR.bind_bk (E : En) (k : En → SR) : (SR.bk E).bind k = .bk E := rfl
@[simp] theorem SR.bind_ct (E : En) (k : En → SR) : (SR.ct E).bind k = .ct E := rfl
@[simp] theorem SR.bind_exc (c : Nat) (l : List D) (E : En) (k : En → SR) : (SR.exc c l E).bind k = .exc c l E := rfl
@[simp] theorem SR.bind_bad (k : En → SR) : SR.bad.bind k = .bad := rfl
section
variable {G : Gm} {W : WX}
def sSeq (f g : En → SR) : En → SR := fun E => (f E).bind g
theorem s_seq {t u : TS} {f g : En → SR} (h1 : DSt G W t f) (h2 : DSt G W u g) : DSt G W (tSeq t u) (sSeq f g) := by
  intro s t0 σ e st E k N post
  refine h1 s t0 σ e st E k _ ?_
  unfold sSeq at post
  cases q : f ⟨e, st⟩ with
  | nx E1 => rw [q] at post; exact fun t' σ' u E' k' => h2 s t' σ' E1.e E1.st E' k' N (SPost.mono u post)
  | rt m d st => rw [q] at post; exact post
  | bk e => rw [q] at post; exact post
  | ct e => rw [q] at post; exact post
  | exc c l e => rw [q] at post; exact post
  | bad => rw [q] at post; exact post
def sSkip : En → SR := .nx
theorem s_skip : DSt G W tNext sSkip := fun s t σ e st E k N post => post t σ (Up.refl _) E k
def sBreak : En → SR := .bk
def sCont : En → SR := .ct
theorem ev_st {te : TE} {f : En → ER} (h : DEv G W te f) {s t : Hs} {σ : L2.St} {e : DE} {st : Sto} (E : EnvOk G s t σ e) (k : StOk G t st) {N : Ends} {Q : VK} (hx : ∀ c l st1, f ⟨e, st⟩ = .exc c l st1 → SPost G W s t N (.exc c l ⟨e, st1⟩)) (hb : f ⟨e, st⟩ ≠ .bad)
    (hv : ∀ m d st1, f ⟨e, st⟩ = .val m d st1 → ∀ t' v, Gro t t' → StOk G t' st1 → VOk G t t' m v d → Q v t'.h) : te σ t.h Q := by
  refine h s t σ e st E k _ ?_
  cases q : f ⟨e, st⟩ with
  | val m d st1 => exact hv m d st1 q
  | exc c l st1 => exact fun t' x g k' o => hx c l st1 q t' σ x g.up (E.up g) k' o
  | bad => exact absurd q hb
def sSet (i : Nat) (f : En → ER) : En → SR := fun E => match f E with
  | .val .P d st => .nx ⟨E.e.set i (.val d), st⟩
  | .val .N (.lst l) st => .nx ⟨E.e.set i (.own l), st⟩
  | .exc c l st => .exc c l ⟨E.e, st⟩
  | _ => .bad
theorem s_set {i : Nat} {te : TE} {f : En → ER} (h : DEv G W te f) : DSt G W (tAsg te (gName i)) (sSet i f) := by
  intro s t σ e st E k N post
  unfold sSet at post
  refine ev_st (N := N) h E k (fun c l st1 q => by rw [q] at post; exact post) (fun q => by rw [q] at post; exact post) fun m d st1 q t' v g k' o => ?_
  rw [q] at post
  cases m with
  | P => exact post t' _ g.up ((E.up g).set ⟨v, rfl, o⟩ (fun l z => nomatch z)) k'
  | B => cases d <;> exact post.elim
  | N =>
    obtain ⟨p, vs, l, rfl, rfl, a, b, c, n, z⟩ := o
    have n0 : s.h p = none := by
      cases q : s.h p with
      | none => rfl
      | some o =>
        by_cases i : p ∈ s.as
        · exact absurd (E.gr.a.mem i) (k.new n)
        · rw [E.gr.h p o q i] at n; cases n
    refine post t' _ g.up ((E.up g).setOwn n0 z a b c fun j m hj s1 s2 => ?_) k'
    obtain ⟨o, h1, p', vs', h2, _, _, h3, _⟩ := E.slot s2
    rw [s1] at h1; cases h1
    cases h2
    rw [n] at h3; cases h3
def sSetF (i : Nat) (f : En → ER) : En → SR := fun E => match f E with
  | .val .P d st => .nx ⟨E.e.set i (.val d), st⟩
  | .val .N d st => .nx ⟨E.e.set i (.val d), st⟩
  | .exc c l st => .exc c l ⟨E.e, st⟩
  | _ => .bad
theorem s_setF {i : Nat} {te : TE} {f : En → ER} (h : DEv G W te f) : DSt G W (tAsg te (gName i)) (sSetF i f) := by
  intro s t σ e st E k N post
  unfold sSetF at post
  refine ev_st (N := N) h E k (fun c l st1 q => by rw [q] at post; exact post) (fun q => by rw [q] at post; exact post) fun m d st1 q t' v g k' o => ?_
  rw [q] at post
  cases m with
  | P => exact post t' _ g.up ((E.up g).set ⟨v, rfl, o⟩ (fun l z => nomatch z)) k'
  | B => exact post.elim
  | N =>
    obtain ⟨f2, g2, k2, _, i2⟩ := o.freeze g k' (by decide)
    exact post ⟨t'.as, f2, t'.h⟩ _ g2.up ((E.up g2).set ⟨v, rfl, i2⟩ (fun l z => nomatch z)) k2
def sAsg (t : D → DE → Option DE) (f : En → ER) : En → SR := fun E => match f E with
  | .val .B _ _ => .bad
  | .val _ d st => (match t d E.e with | some e' => .nx ⟨e', st⟩ | none => .bad)
  | .exc c l st => .exc c l ⟨E.e, st⟩
  | _ => .bad
theorem s_asg {te : TE} {g : TG} {js : List Nat} {f : En → ER} {tg : D → DE → Option DE} (h : DEv G W te f) (hg : DTg G g js tg) : DSt G W (tAsg te g) (sAsg tg f) := by
  intro s t σ e st E k N post
  unfold sAsg at post
  refine ev_st (N := N) h E k (fun c l st1 q => by rw [q] at post; exact post) (fun q => by rw [q] at post; exact post) fun m d st1 q t' v g1 k' o => ?_
  rw [q] at post
  have fin : ∀ f2, Gro t ⟨t'.as, f2, t'.h⟩ → StOk G ⟨t'.as, f2, t'.h⟩ st1 → Is G t'.as f2 v d → SPost G W s t N (match tg d e with | some e' => .nx ⟨e', st1⟩ | none => .bad) → g v σ t'.h N.nx := fun f2 g2 k2 i2 p => by
    cases q2 : tg d e with
    | none => rw [q2] at p; exact p.elim
    | some e' =>
      rw [q2] at p
      exact hg s ⟨t'.as, f2, t'.h⟩ σ e st1 v d (E.up g2) k2 i2 _ e' q2 fun σ3 E3 _ _ => p _ σ3 g2.up E3 k2
  cases m with
  | P => exact fin t'.f g1 k' o post
  | B => exact post.elim
  | N =>
    obtain ⟨f2, g2, k2, _, i2⟩ := o.freeze g1 k' (by decide)
    exact fin f2 g2 k2 i2 post
def sPar (i j : Nat) (f : En → AR) : En → SR := fun E => match f E with
  | .ok true [a, b] st => .nx ⟨(E.e.set i (.val a)).set j (.val b), st⟩
  | .exc c l st => .exc c l ⟨E.e, st⟩
  | _ => .bad
theorem s_par {i j : Nat} {ta : TA} {f : En → AR} (h : DAr G W ta f) : DSt G W (tPar i j ta) (sPar i j f) := by
  intro s t σ e st E k N post
  unfold sPar at post
  refine h s t σ e st E k _ ?_
  cases q : f ⟨e, st⟩ with
  | ok p l st1 =>
    rw [q] at post
    cases p with
    | false => exact post.elim
    | true =>
      match l, post with
      | [], post => exact post.elim
      | [a], post => exact post.elim
      | [a, b], post =>
        intro t' vs g k' i2 _
        have i2 := i2 rfl
        cases i2 with
        | cons ia ib =>
          cases ib with
          | cons ib ic =>
            cases ic
            exact ⟨_, _, rfl, post t' _ g.up (((E.up g).set (x := .val a) ⟨_, rfl, ia⟩ (fun l z => nomatch z)).set (x := .val b) ⟨_, rfl, ib⟩ (fun l z => nomatch z)) k'⟩
      | a :: b :: c :: l, post => exact post.elim
  | exc c l st1 => rw [q] at post; exact fun t' x g k' o => post t' σ x g.up (E.up g) k' o
  | bad => rw [q] at post; exact post
def sDrop (f : En → ER) : En → SR := fun E => match f E with
  | .val _ _ st => .nx ⟨E.e, st⟩
  | .exc c l st => .exc c l ⟨E.e, st⟩
  | .bad => .bad
theorem s_drop {te : TE} {f : En → ER} (h : DEv G W te f) : DSt G W (tDrop te) (sDrop f) := by
  intro s t σ e st E k N post
  unfold sDrop at post
  refine ev_st (N := N) h E k (fun c l st1 q => by rw [q] at post; exact post) (fun q => by rw [q] at post; exact post) fun m d st1 q t' v g k' o => ?_
  rw [q] at post
  exact post t' σ g.up (E.up g) k'
def sRet (f : En → ER) : En → SR := fun E => match f E with
  | .val .P d st => .rt .P d st
  | .val .N d st => .rt .N d st
  | .exc c l st => .exc c l ⟨E.e, st⟩
  | _ => .bad
theorem s_ret {te : TE} {f : En → ER} (h : DEv G W te f) : DSt G W (tRet te) (sRet f) := by
  intro s t σ e st E k N post
  unfold sRet at post
  refine ev_st (N := N) h E k (fun c l st1 q => by rw [q] at post; exact post) (fun q => by rw [q] at post; exact post) fun m d st1 q t' v g k' o => ?_
  rw [q] at post
  cases m with
  | P => exact post t' v g.up (E.gr.trans g) k' o
  | B => exact post.elim
  | N => exact post t' v g.up (E.gr.trans g) k' (o.back E.gr k)
def sRetV (i : Nat) : En → SR := fun E => match E.e[i]? with
  | some (.val d) => .rt .P d E.st
  | some (.own l) => .rt .N (.lst l) E.st
  | _ => .bad
theorem s_retV {i : Nat} : DSt G W (tRet (tVar i)) (sRetV i) := by
  intro s t σ e st E k N post
  unfold sRetV at post
  split at post
  · rename_i d q
    obtain ⟨o, h1, v, rfl, h2⟩ := E.slot q
    exact ⟨v, h1, post t v (Up.refl _) E.gr k h2⟩
  · rename_i l q
    obtain ⟨o, h1, p, vs, rfl, a, b, c, d, f⟩ := E.slot q
    exact ⟨_, h1, post t _ (Up.refl _) E.gr k ⟨p, vs, l, rfl, rfl, c, d, f, a, b⟩⟩
  · exact post.elim
def sRetN : En → SR := fun E => .rt .P .non E.st
def sIf (c : En → ER) (f g : En → SR) : En → SR := fun E => match c E with
  | .val _ (.bl b) st => if b = true then f ⟨E.e, st⟩ else g ⟨E.e, st⟩
  | .exc c l st => .exc c l ⟨E.e, st⟩
  | _ => .bad
theorem tst_st {tt : TT} {f : En → ER} (h : DTt G W tt f) {s t : Hs} {σ : L2.St} {e : DE} {st : Sto} (E : EnvOk G s t σ e) (k : StOk G t st) {N : Ends} {Q : Bool → Hp → Prop} (hx : ∀ c l st1, f ⟨e, st⟩ = .exc c l st1 → SPost G W s t N (.exc c l ⟨e, st1⟩)) (hb : ∃ m b st1, f ⟨e, st⟩ = .val m (.bl b) st1 ∨ ∃ c l, f ⟨e, st⟩ = .exc c l st1)
    (hv : ∀ m b st1, f ⟨e, st⟩ = .val m (.bl b) st1 → ∀ t', Gro t t' → StOk G t' st1 → Q b t'.h) : tt σ t.h Q := by
  refine h s t σ e st E k _ ?_
  obtain ⟨m, b, st1, q | ⟨c, l, q⟩⟩ := hb
  · rw [q]; exact hv m b st1 q
  · rw [q]; exact fun t' x g k' o => hx c l st1 q t' σ x g.up (E.up g) k' o
theorem s_if {tc : TT} {t u : TS} {c : En → ER} {f g : En → SR} (hc : DTt G W tc c) (ht : DSt G W t f) (hu : DSt G W u g) : DSt G W (tIfS tc t u) (sIf c f g) := by
  intro s t0 σ e st E k N post
  unfold sIf at post
  refine tst_st (N := N) hc E k (fun c l st1 q => by rw [q] at post; exact post) ?_ fun m b st1 q t' g1 k' => ?_
  · cases q : c ⟨e, st⟩ with
    | val m d st1 =>
      rw [q] at post
      cases d <;> first | exact post.elim | exact ⟨m, _, st1, .inl rfl⟩
    | exc k l st1 => exact ⟨.P, true, st1, .inr ⟨k, l, rfl⟩⟩
    | bad => rw [q] at post; exact post.elim
  · rw [q] at post
    have post' : SPost G W s t0 N (if b = true then f ⟨e, st1⟩ else g ⟨e, st1⟩) := post
    cases b with
    | true => exact iteT (ht s t' σ e st1 (E.up g1) k' N (SPost.mono g1.up post'))
    | false => exact iteF (hu s t' σ e st1 (E.up g1) k' N (SPost.mono g1.up post'))
def frz (i : Nat) (e : DE) : DE := match e[i]? with
  | some (.own l) => e.set i (.val (.lst l))
  | _ => e
theorem EnvOk.frz {s t : Hs} {σ : L2.St} {e : DE} {st : Sto} (i : Nat) (E : EnvOk G s t σ e) (k : StOk G t st) : ∃ f, Same t.f f ∧ EnvOk G s ⟨t.as, f, t.h⟩ σ (frz i e) ∧ StOk G ⟨t.as, f, t.h⟩ st := by
  unfold Dn.frz
  split
  · rename_i l q
    obtain ⟨o, h1, p, vs, rfl, a, b, c, d, f⟩ := E.slot q
    have s1 : Same t.f (upd t.f p (.lst vs)) := same_new b
    refine ⟨upd t.f p (.lst vs), s1, ⟨E.gr.ice k c a b f, by simp [E.len], fun j o x y z => ?_, fun j m x l1 l2 hjk y z w u => ?_⟩, k.ice c b f⟩
    · by_cases zz : i = j
      · subst zz
        rw [List.getElem?_set_self (List.getElem?_eq_some_iff.mp q).1] at z
        rw [h1] at y; cases y; cases z
        exact ⟨_, rfl, .lst upd_same (d.up (Ext.refl _) s1)⟩
      · rw [List.getElem?_set_ne zz] at z
        have ok := E.at_ j o x y z
        cases x with
        | emp => trivial
        | exn => exact ok
        | clo ds =>
          obtain ⟨h1, h2, h3, h4⟩ := ok
          refine ⟨h1, h2, s1 _ _ h3, fun i d hd => ?_⟩
          obtain ⟨v, a, b⟩ := h4 i d hd
          exact ⟨v, a, b.up (Ext.refl _) s1⟩
        | val d => obtain ⟨v, a1, a2⟩ := ok; exact ⟨v, a1, a2.up (Ext.refl _) s1⟩
        | own m =>
          obtain ⟨p', vs', rfl, b1, b2, b3, b4, b5⟩ := ok
          have : p' ≠ p := fun zzz => by subst zzz; exact E.dis i j p' l m zz h1 q y z
          exact ⟨p', vs', rfl, b1, by show upd t.f p (.lst vs) p' = none; rw [upd_ne this]; exact b2, b3, b4.up (Ext.refl _) s1, b5⟩
    · have own_of : ∀ (j : Nat) (l1 : List D), (e.set i (.val (.lst l)))[j]? = some (.own l1) → e[j]? = some (.own l1) := fun j l1 z => by
        by_cases zz : i = j
        · subst zz
          rw [List.getElem?_set_self (List.getElem?_eq_some_iff.mp q).1] at z
          cases z
        · rw [List.getElem?_set_ne zz] at z; exact z
      exact E.dis j m x l1 l2 hjk y (own_of j l1 z) w (own_of m l2 u)
  · exact ⟨t.f, Same.refl _, E, k⟩
def sFrz (i : Nat) (g : En → SR) : En → SR := fun E => g ⟨frz i E.e, E.st⟩
theorem s_frz {i : Nat} {t : TS} {g : En → SR} (h : DSt G W t g) : DSt G W t (sFrz i g) := by
  intro s t0 σ e st E k N post
  obtain ⟨f, sm, E', k'⟩ := E.frz i k
  exact h s ⟨t0.as, f, t0.h⟩ σ _ st E' k' N (SPost.mono (t := t0) (t1 := ⟨t0.as, f, t0.h⟩) ⟨Ext.refl _, sm⟩ post)
theorem SPost.cond {s t : Hs} {N : Ends} (c : Prop) [Decidable c] (r : SR) (h : SPost G W s t N (if c then r else .bad)) : c ∧ SPost G W s t N r := by
  by_cases q : c
  · rw [if_pos q] at h; exact ⟨q, h⟩
  · rw [if_neg q] at h; exact h.elim
def sApp (i : Nat) (f : En → ER) : En → SR := fun E => match E.e[i]? with
  | some (.own l) => (match f E with
    | .val .B _ _ => .bad
    | .val _ d st => if l.length < 1000000 then .nx ⟨E.e.set i (.own (l ++ [d])), st⟩ else .bad
    | .exc c l st => .exc c l ⟨E.e, st⟩
    | .bad => .bad)
  | _ => .bad
theorem EnvOk.modS {s t : Hs} {σ : L2.St} {e : DE} {st : Sto} {n : Nat} {a : Addr} {o : HO} (E : EnvOk G s t σ e) (k : StOk G t st) (ha : t.as[n]? = some a) : EnvOk G s ⟨t.as, t.f, upd t.h a o⟩ σ e := by
  have m : a ∈ t.as := List.mem_iff_getElem?.mpr ⟨n, ha⟩
  refine ⟨E.gr.mod k ha, E.len, fun i x y p q => ?_, E.dis⟩
  have ok := E.at_ i x y p q
  cases y with
  | emp => trivial
  | exn => exact ok
  | clo ds => exact ok
  | val d => exact ok
  | own l =>
    obtain ⟨p', vs, rfl, a1, a2, a3, a4, a5⟩ := ok
    have : p' ≠ a := fun z => by subst z; exact a5 m
    exact ⟨p', vs, rfl, a1, a2, by show upd t.h a o p' = _; rw [upd_ne this]; exact a3, a4, a5⟩
def sSetO (x : Nat) (f fi : En → ER) : En → SR := fun E => match E.e[x]? with
  | some (.own l) => (match f E with
    | .val .B _ _ => .bad
    | .val _ d st => (match fi ⟨E.e, st⟩ with
      | .val _ (.int i) st1 => (match ixN l.length i with | some j => .nx ⟨E.e.set x (.own (l.set j d)), st1⟩ | none => .bad)
      | .exc c l st => .exc c l ⟨E.e, st⟩
      | _ => .bad)
    | .exc c l st => .exc c l ⟨E.e, st⟩
    | .bad => .bad)
  | _ => .bad
theorem s_setO {x : Nat} {te ti : TE} {f fi : En → ER} (h : DEv G W te f) (hi : DEv G W ti fi) : DSt G W (tAsg te (gSub (tVar x) ti rSetL)) (sSetO x f fi) := by
  intro s t σ e st E k N post
  unfold sSetO at post
  split at post
  · rename_i l hx
    have hx : e[x]? = some (.own l) := hx
    obtain ⟨o, hσ, p, vs, rfl, p0, pf, ph, pl, pa⟩ := E.slot hx
    refine ev_st (N := N) h E k (fun c l st1 q => by rw [q] at post; exact post) (fun q => by rw [q] at post; exact post) fun m d st1 q t1 v g1 k1 o1 => ?_
    rw [q] at post
    have fin : ∀ f2, Gro t ⟨t1.as, f2, t1.h⟩ → StOk G ⟨t1.as, f2, t1.h⟩ st1 → Is G t1.as f2 v d → SPost G W s t N (match fi ⟨e, st1⟩ with
      | .val _ (.int i) st1 => (match ixN l.length i with | some j => .nx ⟨e.set x (.own (l.set j d)), st1⟩ | none => .bad)
      | .exc c l st => .exc c l ⟨e, st⟩
      | _ => .bad) → gSub (tVar x) ti rSetL v σ t1.h N.nx := fun f2 g2 k2 i2 post => by
      refine ⟨_, hσ, ?_⟩
      refine ev_st (N := N) hi (E.up g2) k2 (fun c l st3 q3 => ?_) (fun q3 => ?_) fun mi di st3 q3 t3 w g3 k3 o3 => ?_
      · rw [q3] at post; exact SPost.mono g2.up post
      · rw [q3] at post; exact post
      · rw [q3] at post
        cases di <;> try exact post.elim
        rename_i i
        obtain rfl := o3.u.int
        have g23 := g2.trans g3
        cases hj : ixN l.length i with
        | none => simp only [hj] at post; exact post.elim
        | some j =>
          simp only [hj] at post
          have hp' : t3.h p = some (.lst vs) := g23.h _ _ ph pa
          have hf' : t3.f p = none := g23.n _ _ ph pf
          have ha' : p ∉ t3.as := fun m => (g23.w p m).elim pa fun z => by rw [ph] at z; cases z
          refine ⟨p, vs, i, j, rfl, rfl, hp', by rw [pl.len]; exact hj, ?_⟩
          have pl' := (pl.up g23.a g23.f).set (i2.up g3.a g3.f) j
          exact post ⟨t3.as, t3.f, upd t3.h p (.lst (vs.set j v))⟩ σ ⟨g23.a, g23.f⟩ ((E.up g23).chg hσ hx p0 hf' pl' ha') (k3.chg hf' ha')
    cases m with
    | P => exact fin t1.f g1 k1 o1 post
    | B => exact post.elim
    | N =>
      obtain ⟨f2, g2, k2, _, i2⟩ := o1.freeze g1 k1 (by decide)
      exact fin f2 g2 k2 i2 post
  · exact post.elim
def sSetP (fb f fi : En → ER) : En → SR := fun E => match f E with
  | .val .B _ _ => .bad
  | .val _ d st => (match fb ⟨E.e, st⟩ with
    | .val _ (.ptr n) st1 => (match fi ⟨E.e, st1⟩ with
      | .val _ (.int i) st2 => (match stLst st2 n with
        | some l => (match ixN l.length i with | some j => .nx ⟨E.e, st2.set n (.lst (l.set j d))⟩ | none => .bad)
        | none => .bad)
      | .exc c l st => .exc c l ⟨E.e, st⟩
      | _ => .bad)
    | .exc c l st => .exc c l ⟨E.e, st⟩
    | _ => .bad)
  | .exc c l st => .exc c l ⟨E.e, st⟩
  | .bad => .bad
theorem s_setP {tb te ti : TE} {fb f fi : En → ER} (hb : DEv G W tb fb) (h : DEv G W te f) (hi : DEv G W ti fi) : DSt G W (tAsg te (gSub tb ti rSetL)) (sSetP fb f fi) := by
  intro s t σ e st E k N post
  unfold sSetP at post
  refine ev_st (N := N) h E k (fun c l st1 q => by rw [q] at post; exact post) (fun q => by rw [q] at post; exact post) fun m d st1 q t1 v g1 k1 o1 => ?_
  rw [q] at post
  have fin : ∀ f2, Gro t ⟨t1.as, f2, t1.h⟩ → StOk G ⟨t1.as, f2, t1.h⟩ st1 → Is G t1.as f2 v d → SPost G W s t N (match fb ⟨e, st1⟩ with
    | .val _ (.ptr n) st1 => (match fi ⟨e, st1⟩ with
      | .val _ (.int i) st2 => (match stLst st2 n with
        | some l => (match ixN l.length i with | some j => .nx ⟨e, st2.set n (.lst (l.set j d))⟩ | none => .bad)
        | none => .bad)
      | .exc c l st => .exc c l ⟨e, st⟩
      | _ => .bad)
    | .exc c l st => .exc c l ⟨e, st⟩
    | _ => .bad) → gSub tb ti rSetL v σ t1.h N.nx := fun f2 g2 k2 i2 post => by
    refine ev_st (N := N) hb (E.up g2) k2 (fun c l st3 q3 => ?_) (fun q3 => ?_) fun mb db st3 q3 t3 b g3 k3 o3 => ?_
    · rw [q3] at post; exact SPost.mono g2.up post
    · rw [q3] at post; exact post
    · rw [q3] at post
      cases db <;> try exact post.elim
      rename_i n
      obtain ⟨p, rfl, hp⟩ := o3.u.ptr
      have g23 := g2.trans g3
      have post : SPost G W s t N (match fi ⟨e, st3⟩ with
        | .val _ (.int i) st2 => (match stLst st2 n with
          | some l => (match ixN l.length i with | some j => .nx ⟨e, st2.set n (.lst (l.set j d))⟩ | none => .bad)
          | none => .bad)
        | .exc c l st => .exc c l ⟨e, st⟩
        | _ => .bad) := post
      refine ev_st (N := N) hi (E.up g23) k3 (fun c l st4 q4 => ?_) (fun q4 => ?_) fun mi di st4 q4 t4 w g4 k4 o4 => ?_
      · rw [q4] at post; exact SPost.mono g23.up post
      · rw [q4] at post; exact post
      · rw [q4] at post
        cases di <;> try exact post.elim
        rename_i i
        obtain rfl := o4.u.int
        have g24 := g23.trans g4
        have hp4 := g4.a n p hp
        have post : SPost G W s t N (match stLst st4 n with
          | some l => (match ixN l.length i with | some j => .nx ⟨e, st4.set n (.lst (l.set j d))⟩ | none => .bad)
          | none => .bad) := post
        cases hl : stLst st4 n with
        | none => simp only [hl] at post; exact post.elim
        | some l =>
          simp only [hl] at post
          cases hj : ixN l.length i with
          | none => simp only [hj] at post; exact post.elim
          | some j =>
            simp only [hj] at post
            obtain ⟨vs, hh, il⟩ := k4.lst hp4 hl
            refine ⟨p, vs, i, j, rfl, rfl, hh, by rw [il.len]; exact hj, ?_⟩
            have il' := il.set (i2.up (g3.trans g4).a (g3.trans g4).f) j
            exact post ⟨t4.as, t4.f, upd t4.h p (.lst (vs.set j v))⟩ σ ⟨g24.a, g24.f⟩ ((E.up g24).modS k4 hp4) (k4.mod hp4 ⟨_, upd_same, il'⟩)
  cases m with
  | P => exact fin t1.f g1 k1 o1 post
  | B => exact post.elim
  | N =>
    obtain ⟨f2, g2, k2, _, i2⟩ := o1.freeze g1 k1 (by decide)
    exact fin f2 g2 k2 i2 post
def sSetI (x : Nat) (f fi : En → ER) : En → SR := fun E => match E.e[x]? with
  | some (.own _) => sSetO x f fi E
  | _ => sSetP (dVar x) f fi E
theorem s_setI {x : Nat} {te ti : TE} {f fi : En → ER} (h : DEv G W te f) (hi : DEv G W ti fi) : DSt G W (tAsg te (gSub (tVar x) ti rSetL)) (sSetI x f fi) := by
  intro s t σ e st E k N post
  unfold sSetI at post
  split at post
  · exact s_setO h hi s t σ e st E k N post
  · exact s_setP v_var h hi s t σ e st E k N post
end
end Dn
namespace Dn
open PySem PySem.Spec PyProof.Rows L2
def ItOk (G : Gm) (t1 : Hs) (J : It) (l : List D) : Prop := ∀ (i : Nat) (t : Hs) (st : Sto), Up t1 t → StOk G t st → (l.length ≤ i → J.stop i t.h) ∧
  ∀ d, l[i]? = some d → J.go i t.h ∧ ∀ x H', J.yld i t.h x H' → ∃ t', t'.h = H' ∧ Gro t t' ∧ StOk G t' st ∧ Is G t'.as t'.f x d
def IPost (G : Gm) (W : WX) (t : Hs) (σ : L2.St) (R : It → Hp → Prop) : AR → Prop
  | .ok _ l st => ∀ t' J, Gro t t' → StOk G t' st → ItOk G t' J l → R J t'.h
  | .exc c l st => ∀ t' x, Gro t t' → StOk G t' st → ExcOk G t' c l x → W (.ref (G.ca c)) x σ t'.h
  | .bad => False
def DIt (G : Gm) (W : WX) (wi : TI) (f : En → AR) : Prop := ∀ s t σ e st, EnvOk G s t σ e → StOk G t st → ∀ R : It → Hp → Prop, IPost G W t σ R (f ⟨e, st⟩) → wi σ t.h R
section
variable {G : Gm} {W : WX}
def iAny (K : PySem.W.Frag) (te : TE) : TI := fun σ H R => iList K te σ H R ∨ iTup K te σ H R ∨ iStr te σ H R
theorem pi_any {X : Cx} {tg e : Expr} {te : TE} (he : PE X e te) : PI X tg e (iAny X.K te) :=
  ⟨fun pins s σ H R I h => h.elim (fun z => (pi_list he).run pins s σ H R I z) fun z => z.elim (fun z => (pi_tup he).run pins s σ H R I z) (fun z => (pi_str he).run pins s σ H R I z)⟩
def itemsOf : D → Option (List D)
  | .lst l => some l
  | .tup l => some l
  | .scr l => some (l.map .int)
  | .str z => some (z.cps.toList.map fun c => .str ⟨#[c]⟩)
  | _ => none
def dIter (f : En → ER) : En → AR := fun E => match f E with
  | .val .B _ _ => .bad
  | .val _ d st => (match itemsOf d with | some l => .ok true l st | none => .bad)
  | .exc c l st => .exc c l st
  | .bad => .bad
theorem it_list {t1 : Hs} {a : Addr} {vs : List V} {l : List D} (h : ∀ t, Up t1 t → Same t.f t.h → SqL G.K t.h a vs ∧ IsL G t.as t.f vs l) : ItOk G t1 (Itl G.K a) l := by
  intro i t st u k
  obtain ⟨q, il⟩ := h t u k.sf
  refine ⟨fun hi => ⟨vs, q, by rw [il.len]; exact hi⟩, fun d hd => ?_⟩
  obtain ⟨v, h1, h2⟩ := il.get hd
  refine ⟨⟨vs, v, q, h1⟩, fun x H' y => ?_⟩
  obtain ⟨rfl, y⟩ := y
  have := y vs q
  rw [h1] at this; cases this
  exact ⟨t, rfl, Gro.refl k, k, h2⟩
theorem it_tup {t1 : Hs} {a : Addr} {vs : List V} {l : List D} (h : ∀ t, Up t1 t → Same t.f t.h → SqT G.K t.h a vs ∧ IsL G t.as t.f vs l) : ItOk G t1 (Itt G.K a) l := by
  intro i t st u k
  obtain ⟨q, il⟩ := h t u k.sf
  refine ⟨fun hi => ⟨vs, q, by rw [il.len]; exact hi⟩, fun d hd => ?_⟩
  obtain ⟨v, h1, h2⟩ := il.get hd
  refine ⟨⟨vs, v, q, h1⟩, fun x H' y => ?_⟩
  obtain ⟨rfl, y⟩ := y
  have := y vs q
  rw [h1] at this; cases this
  exact ⟨t, rfl, Gro.refl k, k, h2⟩
theorem it_str {t1 : Hs} (z : Str) : ItOk G t1 (Its z) (z.cps.toList.map fun c => .str ⟨#[c]⟩) := by
  intro i t st u k
  refine ⟨fun hi => by (show z.cps.size ≤ i); simpa using hi, fun d hd => ?_⟩
  rw [List.getElem?_map] at hd
  cases q : z.cps.toList[i]? with
  | none => rw [q] at hd; cases hd
  | some c =>
    rw [q] at hd
    cases hd
    have hi : i < z.cps.size := by
      have := (List.getElem?_eq_some_iff.mp q).1
      simpa using this
    refine ⟨hi, fun x H' y => ?_⟩
    obtain ⟨rfl, c', h1, rfl⟩ := y
    have : z.cps[i]? = some c := by rw [← Array.getElem?_toList]; exact q
    rw [this] at h1; cases h1
    exact ⟨t, rfl, Gro.refl k, k, .str _⟩
theorem i_any {te : TE} {f : En → ER} (h : DEv G W te f) : DIt G W (iAny G.K te) (dIter f) := by
  intro s t σ e st E k0 R post
  have hx : ∀ {Q : VK}, (∀ m d st1, f ⟨e, st⟩ = .val m d st1 → m ≠ .B → ∀ l, itemsOf d = some l → ∀ t' v, Gro t t' → StOk G t' st1 → Is G t'.as t'.f v d → Q v t'.h) → te σ t.h Q := fun {Q} k => by
    refine h s t σ e st E k0 _ ?_
    cases q : f ⟨e, st⟩ with
    | val m d st1 =>
      simp only [dIter, q] at post
      intro t' v g k' o
      have nb : m ≠ .B := fun z => by subst z; exact post.elim
      have : ∃ l, itemsOf d = some l := by
        cases m <;> first | exact absurd rfl nb | (cases q2 : itemsOf d <;> first | (simp only [q2] at post; exact post.elim) | exact ⟨_, rfl⟩)
      obtain ⟨l, hl⟩ := this
      obtain ⟨f2, g2, k2, _, i2⟩ := o.freeze g k' nb
      exact k m d st1 q nb l hl ⟨t'.as, f2, t'.h⟩ v g2 k2 i2
    | exc c l st1 => simp only [dIter, q] at post; exact post
    | bad => simp only [dIter, q] at post; exact post
  have hp : ∀ m d l st1, f ⟨e, st⟩ = .val m d st1 → m ≠ .B → itemsOf d = some l → ∀ t' J, Gro t t' → StOk G t' st1 → ItOk G t' J l → R J t'.h := fun m d l st1 q nb hl => by
    simp only [dIter, q] at post
    cases m <;> first | exact absurd rfl nb | (simp only [hl] at post; exact post)
  cases q : f ⟨e, st⟩ with
  | val m d st1 =>
    cases d with
    | tup l0 =>
      refine .inr (.inl (hx fun m' d' st' q' nb l hl t' v g k' i2 => ?_))
      rw [q] at q'; cases q'; cases hl
      cases i2 with
      | tup a b => exact ⟨_, rfl, ⟨_, same_t k'.sf a⟩, hp m (.tup l0) l0 st1 q nb rfl t' _ g k' (it_tup fun t2 u s2 => ⟨same_t (u.f.trans s2) a, b.up u.a u.f⟩)⟩
    | str z =>
      refine .inr (.inr (hx fun m' d' st' q' nb l hl t' v g k' i2 => ?_))
      rw [q] at q'; cases q'; cases hl
      cases i2 with
      | str => exact ⟨z, rfl, hp m (.str z) _ st1 q nb rfl t' _ g k' (it_str z)⟩
    | lst l0 =>
      refine .inl (hx fun m' d' st' q' nb l hl t' v g k' i2 => ?_)
      rw [q] at q'; cases q'; cases hl
      cases i2 with
      | lst a b => exact ⟨_, rfl, ⟨_, SqL.of (k'.sf _ _ a)⟩, hp m (.lst l0) l0 st1 q nb rfl t' _ g k' (it_list fun t2 u s2 => ⟨SqL.of (s2 _ _ (u.f _ _ a)), b.up u.a u.f⟩)⟩
    | scr l0 =>
      refine .inl (hx fun m' d' st' q' nb l hl t' v g k' i2 => ?_)
      rw [q] at q'; cases q'; cases hl
      cases i2 with
      | scr a => exact ⟨_, rfl, ⟨_, k'.sf.seq a⟩, hp m (.scr l0) _ st1 q nb rfl t' _ g k' (it_list fun t2 u s2 => ⟨(u.f.trans s2).seq a, IsL.ints _⟩)⟩
    | _ => refine .inl (hx fun m' d' st' q' nb l hl t' v g k' i2 => ?_); rw [q] at q'; cases q'; cases hl
  | exc c l st1 => refine .inl (hx fun m' d' st' q' => ?_); rw [q] at q'; cases q'
  | bad => refine .inl (hx fun m' d' st' q' => ?_); rw [q] at q'; cases q'
def rangeD (lo : Int) (n : Nat) : List D := (List.range n).map fun (k : Nat) => .int (lo + (k : Int))
theorem rangeD_get {lo : Int} {n i : Nat} {d : D} (h : (rangeD lo n)[i]? = some d) : i < n ∧ d = .int (lo + (i : Int)) := by
  unfold rangeD at h
  rw [List.getElem?_map] at h
  by_cases hi : i < n
  · rw [List.getElem?_range hi] at h; cases h; exact ⟨hi, rfl⟩
  · rw [List.getElem?_eq_none (by simpa using hi)] at h; cases h
theorem it_range {t1 : Hs} (lo : Int) (n : Nat) : ItOk G t1 (Itr lo n) (rangeD lo n) := by
  intro i t st u k
  refine ⟨fun hi => by (show n ≤ i); simpa [rangeD] using hi, fun d hd => ?_⟩
  obtain ⟨hi, rfl⟩ := rangeD_get hd
  refine ⟨hi, fun x H' y => ?_⟩
  obtain ⟨rfl, rfl⟩ := y
  exact ⟨t, rfl, Gro.refl k, k, .int _⟩
def rng1 : List D → Option (Int × Nat)
  | [.int j] => if -(2 ^ 62) ≤ j ∧ j < 2 ^ 62 then some (0, j.toNat) else none
  | _ => none
def rng2 : List D → Option (Int × Nat)
  | [.int i, .int j] => if -(2 ^ 62) ≤ i ∧ i < 2 ^ 62 ∧ -(2 ^ 62) ≤ j ∧ j < 2 ^ 62 then some (i, (j - i).toNat) else none
  | _ => none
def dRng (r : List D → Option (Int × Nat)) (f : En → AR) : En → AR := fun E => match f E with
  | .ok _ l st => (match r l with | some r => .ok true (rangeD r.1 r.2) st | none => .bad)
  | .exc c l st => .exc c l st
  | _ => .bad
theorem i_rng {ta : TA} {f : En → AR} {ro : List D → Option (Int × Nat)} {r : List V → Hp → (It → Hp → Prop) → Prop} (h : DAr G W ta f) (hr : ∀ t vs l p R, UL G t vs l → ro l = some p → R (Itr p.1 p.2) t.h → r vs t.h R) : DIt G W (fun σ H R => ta σ H fun vs H1 => r vs H1 R) (dRng ro f) := by
  intro s t σ e st E k R post
  refine h s t σ e st E k _ ?_
  unfold dRng at post
  cases q : f ⟨e, st⟩ with
  | ok p l st1 =>
    rw [q] at post
    intro t1 vs g1 k1 _ u1
    cases hl : ro l with
    | none => simp only [hl] at post; exact post.elim
    | some p =>
      simp only [hl] at post
      exact hr t1 vs l p R u1 hl (post t1 _ g1 k1 (it_range _ _))
  | exc c l st1 => rw [q] at post; exact post
  | bad => rw [q] at post; exact post
theorem i_range1 {ta : TA} {f : En → AR} (h : DAr G W ta f) : DIt G W (iRng1 ta) (dRng rng1 f) :=
  i_rng (r := fun vs H1 R => ∃ j : Int, vs = [.int j] ∧ -(2 ^ 62) ≤ j ∧ j < 2 ^ 62 ∧ R (Itr 0 j.toNat) H1) h fun t vs l p R u hl hR => by
    unfold rng1 at hl
    split at hl
    · rename_i j
      split at hl
      · rename_i c
        cases hl
        obtain ⟨v, rfl, hv⟩ := u.one
        obtain rfl := hv.int
        exact ⟨j, rfl, c.1, c.2, hR⟩
      · cases hl
    · cases hl
def enumD : Nat → List D → List D
  | _, [] => []
  | k, d :: l => .tup [.int (k : Int), d] :: enumD (k + 1) l
def dEnum (f : En → AR) : En → AR := fun E => match f E with
  | .ok true [.lst l] st => .ok true (enumD 0 l) st
  | .exc c l st => .exc c l st
  | _ => .bad
def zipD : List D → List D → List D
  | a :: l, b :: m => .tup [a, b] :: zipD l m
  | _, _ => []
theorem zipD_get : ∀ {l m : List D} {i : Nat} {d : D}, (zipD l m)[i]? = some d → ∃ x y, l[i]? = some x ∧ m[i]? = some y ∧ d = .tup [x, y]
  | [], _, _, _, h => by simp [zipD] at h
  | _ :: _, [], _, _, h => by simp [zipD] at h
  | a :: l, b :: m, 0, d, h => by simp [zipD] at h; subst h; exact ⟨a, b, rfl, rfl, rfl⟩
  | a :: l, b :: m, i + 1, d, h => by
    obtain ⟨x, y, h1, h2, h3⟩ := zipD_get (l := l) (m := m) (i := i) (d := d) (by simpa [zipD] using h)
    exact ⟨x, y, by simpa using h1, by simpa using h2, h3⟩
theorem zipD_len : ∀ (l m : List D), (zipD l m).length = min l.length m.length
  | [], _ => by simp [zipD]
  | _ :: _, [] => by simp [zipD]
  | a :: l, b :: m => by simp [zipD, zipD_len l m]
theorem it_zip {t1 : Hs} {a b : Addr} {vs ws : List V} {l m : List D} (h : ∀ t, Up t1 t → Same t.f t.h → SqL G.K t.h a vs ∧ IsL G t.as t.f vs l) (h' : ∀ t, Up t1 t → Same t.f t.h → SqL G.K t.h b ws ∧ IsL G t.as t.f ws m) : ItOk G t1 (Itz G.K a b) (zipD l m) := by
  intro i t st u k
  obtain ⟨q, il⟩ := h t u k.sf
  obtain ⟨q', im⟩ := h' t u k.sf
  refine ⟨fun hi => ⟨vs, ws, q, q', by rw [il.len, im.len]; rw [zipD_len] at hi; omega⟩, fun d hd => ?_⟩
  obtain ⟨x, y, h1, h2, rfl⟩ := zipD_get hd
  obtain ⟨v, h3, h4⟩ := il.get h1
  obtain ⟨w, h5, h6⟩ := im.get h2
  refine ⟨⟨vs, ws, v, w, q, q', h3, h5⟩, fun y H' z => ?_⟩
  obtain ⟨T, v', w', rfl, hT, rfl, z, z'⟩ := z
  have := z vs q
  rw [h3] at this; cases this
  have := z' ws q'
  rw [h5] at this; cases this
  have sn := same_new (o := .tup [v, w]) (k.sf.free hT)
  exact ⟨⟨t.as, upd t.f T _, upd t.h T _⟩, rfl, Gro.new k hT, k.grow hT, .tup (SqT.of upd_same) (.cons (h4.up (Ext.refl _) sn) (.cons (h6.up (Ext.refl _) sn) .nil))⟩
def dZip (f : En → AR) : En → AR := fun E => match f E with
  | .ok true [.lst l, .lst m] st => .ok true (zipD l m) st
  | .exc c l st => .exc c l st
  | _ => .bad
theorem i_zip {ta : TA} {f : En → AR} (h : DAr G W ta f) : DIt G W (iZip G.K ta) (dZip f) := by
  intro s t σ e st E k R post
  refine h s t σ e st E k _ ?_
  unfold dZip at post
  cases q : f ⟨e, st⟩ with
  | ok p l st1 =>
    rw [q] at post
    cases p with
    | false => exact post.elim
    | true =>
      match l, post with
      | [], post => exact post.elim
      | [d], post => cases d <;> exact post.elim
      | [d, d'], post =>
        cases d <;> first | exact post.elim | skip
        cases d' <;> first | exact post.elim | skip
        intro t' vs g k' i0 _
        have i := i0 rfl
        clear i0
        cases i with
        | cons i j =>
          cases j with
          | cons j k =>
            cases k
            cases i with
            | lst a b =>
              cases j with
              | lst a' b' => exact ⟨_, _, _, _, rfl, SqL.of (k'.sf _ _ a), SqL.of (k'.sf _ _ a'), post t' _ g k' (it_zip (fun t2 u s2 => ⟨SqL.of (s2 _ _ (u.f _ _ a)), b.up u.a u.f⟩) (fun t2 u s2 => ⟨SqL.of (s2 _ _ (u.f _ _ a')), b'.up u.a u.f⟩))⟩
      | a :: b :: c :: l, post => cases a <;> first | exact post.elim | (cases b <;> exact post.elim)
  | exc c l st1 => rw [q] at post; exact post
  | bad => rw [q] at post; exact post
def forD (b : D → En → SR) : List D → En → SR
  | [], e => .nx e
  | x :: xs, e => match b x e with
    | .nx e' => forD b xs e'
    | .ct e' => forD b xs e'
    | .bk e' => .nx e'
    | r => r
def tgB (t : D → DE → Option DE) (b : En → SR) : D → En → SR := fun d E => match t d E.e with
  | some e' => b ⟨e', E.st⟩
  | none => .bad
def sFor (src : En → AR) (t : D → DE → Option DE) (b : En → SR) : En → SR := fun E => match src E with
  | .ok _ l st => forD (tgB t b) l ⟨E.e, st⟩
  | .exc c l st => .exc c l ⟨E.e, st⟩
  | .bad => .bad
theorem s_for {wi : TI} {g : TG} {tb : TS} {src : En → AR} {js : List Nat} {t : D → DE → Option DE} {b : En → SR} (hi : DIt G W wi src) (hg : DTg G g js t) (hb : DSt G W tb b) : DSt G W (tFor wi g tb) (sFor src t b) := by
  intro s t0 σ e st E k0 N post
  refine hi s t0 σ e st E k0 _ ?_
  unfold sFor at post
  cases q : src ⟨e, st⟩ with
  | ok p l st1 =>
    rw [q] at post
    have post : SPost G W s t0 N (forD (tgB t b) l ⟨e, st1⟩) := post
    intro t1 J g1 k1 it
    refine ⟨fun i m σ H => m = l.length - i ∧ i ≤ l.length ∧ ∃ t2 E2, t2.h = H ∧ Up t1 t2 ∧ EnvOk G s t2 σ E2.e ∧ StOk G t2 E2.st ∧ SPost G W s t2 N (forD (tgB t b) (l.drop i) E2),
      ⟨l.length, by simp, Nat.zero_le _, t1, ⟨e, st1⟩, rfl, Up.refl _, E.up g1, k1, SPost.mono g1.up post⟩, ?_⟩
    rintro i m σ2 H2 ⟨rfl, hi, t2, F2, rfl, s2, E2, k2, p2⟩
    obtain ⟨i1, i2⟩ := it i t2 F2.st s2 k2
    by_cases hlt : i < l.length
    · right
      have hd : l[i]? = some l[i] := List.getElem?_eq_getElem hlt
      obtain ⟨go, y⟩ := i2 _ hd
      rw [List.drop_eq_getElem_cons hlt] at p2
      refine ⟨go, fun σ' H' => i + 1 ≤ l.length ∧ ∃ t2 E2, t2.h = H' ∧ Up t1 t2 ∧ EnvOk G s t2 σ' E2.e ∧ StOk G t2 E2.st ∧ SPost G W s t2 N (forD (tgB t b) (l.drop (i + 1)) E2), fun σ' H' h => ⟨l.length - (i + 1), by omega, rfl, h⟩, fun x H' hy => ?_⟩
      obtain ⟨t3, rfl, g3, k3, i3⟩ := y x H' hy
      cases q3 : t l[i] F2.e with
      | none =>
        have : forD (tgB t b) (l[i] :: l.drop (i + 1)) F2 = .bad := by
          unfold forD tgB; rw [q3]
        rw [this] at p2
        exact p2.elim
      | some e3 =>
        have tgb : tgB t b l[i] F2 = b ⟨e3, F2.st⟩ := by unfold tgB; rw [q3]
        refine hg s t3 σ2 F2.e F2.st x l[i] (E2.up g3) k3 i3 _ e3 q3 fun σ4 E4 _ _ => ?_
        refine hb s t3 σ4 e3 F2.st E4 k3 _ ?_
        have p4 := SPost.mono g3.up p2
        unfold forD at p4
        rw [tgb] at p4
        have s3 := s2.trans g3.up
        cases q5 : b ⟨e3, F2.st⟩ with
        | nx e5 => rw [q5] at p4; exact fun t6 σ6 s6 E6 k6 => ⟨hlt, t6, e5, rfl, s3.trans s6, E6, k6, SPost.mono s6 p4⟩
        | ct e5 => rw [q5] at p4; exact fun t6 σ6 s6 E6 k6 => ⟨hlt, t6, e5, rfl, s3.trans s6, E6, k6, SPost.mono s6 p4⟩
        | bk e5 => rw [q5] at p4; exact p4
        | rt m d st => rw [q5] at p4; exact p4
        | exc c l e => rw [q5] at p4; exact p4
        | bad => rw [q5] at p4; exact p4
    · left
      have : i = l.length := by omega
      subst this
      refine ⟨i1 (Nat.le_refl _), ?_⟩
      rw [List.drop_length] at p2
      exact p2 t2 σ2 (Up.refl _) E2 k2
  | exc c l st1 => rw [q] at post; exact fun t' x g k' o => post t' σ x g.up (E.up g) k' o
  | bad => rw [q] at post; exact post
def whN (c : En → ER) (b : En → SR) : Nat → En → Option SR
  | 0, _ => none
  | n + 1, E => match c E with
    | .val _ (.bl true) st => (match b ⟨E.e, st⟩ with
      | .nx e' => whN c b n e'
      | .ct e' => whN c b n e'
      | .bk e' => some (.nx e')
      | r => some r)
    | .val _ (.bl false) st => some (.nx ⟨E.e, st⟩)
    | .exc k l st => some (.exc k l ⟨E.e, st⟩)
    | _ => some .bad
theorem whN_mono {c : En → ER} {b : En → SR} : ∀ {n m : Nat} {e : En} {r : SR}, whN c b n e = some r → n ≤ m → whN c b m e = some r
  | 0, _, _, _, h, _ => by cases h
  | n + 1, 0, _, _, _, hm => by omega
  | n + 1, m + 1, e, r, h, hm => by
    unfold whN at h ⊢
    split at h
    · split at h
      · rename_i q; exact whN_mono h (by omega)
      · rename_i q; exact whN_mono h (by omega)
      · exact h
      · exact h
    · exact h
    · exact h
    · exact h
open Classical in
noncomputable def sWhile (c : En → ER) (b : En → SR) : En → SR := fun e => if h : ∃ n r, whN c b n e = some r then Classical.choose (Classical.choose_spec h) else .bad
theorem sWhile_eq {c : En → ER} {b : En → SR} {n : Nat} {e : En} {r : SR} (h : whN c b n e = some r) : sWhile c b e = r := by
  have hx : ∃ n r, whN c b n e = some r := ⟨n, r, h⟩
  unfold sWhile
  rw [dif_pos hx]
  have h2 := Classical.choose_spec (Classical.choose_spec hx)
  have h3 := whN_mono h (Nat.le_max_left n (Classical.choose hx))
  have h4 := whN_mono h2 (Nat.le_max_right n (Classical.choose hx))
  rw [h3] at h4
  exact (Option.some.inj h4).symm
theorem s_while {tc : TT} {tb : TS} {c : En → ER} {b : En → SR} (hc : DTt G W tc c) (hb : DSt G W tb b) : DSt G W (tWhile tc tb) (sWhile c b) := by
  intro s t σ e st E k N post
  unfold sWhile at post
  split at post
  · rename_i hx
    have h2 := Classical.choose_spec (Classical.choose_spec hx)
    generalize Classical.choose (Classical.choose_spec hx) = r at post h2
    generalize Classical.choose hx = n at h2
    refine ⟨fun m σ H => ∃ t2 F2, t2.h = H ∧ Up t t2 ∧ EnvOk G s t2 σ F2.e ∧ StOk G t2 F2.st ∧ whN c b m F2 = some r, ⟨n, t, ⟨e, st⟩, rfl, Up.refl _, E, k, h2⟩, ?_⟩
    rintro m σ2 H2 ⟨t2, F2, rfl, s2, E2, k2, w2⟩
    cases m with
    | zero => cases w2
    | succ m =>
      unfold whN at w2
      refine tst_st (N := N) hc E2 k2 (fun k l st1 q => ?_) ?_ fun k bb st1 q t3 g3 k3 => ?_
      · have q : c F2 = .exc k l st1 := q
        rw [q] at w2
        cases w2
        exact SPost.mono s2 post
      · show ∃ m b st1, c F2 = .val m (.bl b) st1 ∨ ∃ k l, c F2 = .exc k l st1
        cases q : c F2 with
        | val k d st1 =>
          rw [q] at w2
          cases d with
          | bl x => exact ⟨k, x, st1, .inl rfl⟩
          | _ => cases w2; exact post.elim
        | exc k l st1 => exact ⟨.P, true, st1, .inr ⟨k, l, rfl⟩⟩
        | bad => rw [q] at w2; cases w2; exact post.elim
      · have q : c F2 = .val k (.bl bb) st1 := q
        rw [q] at w2
        cases bb with
        | false =>
          cases w2
          exact iteF (post t3 σ2 (s2.trans g3.up) (E2.up g3) k3)
        | true =>
          refine iteT ⟨fun σ H => ∃ t4 F4, t4.h = H ∧ Up t t4 ∧ EnvOk G s t4 σ F4.e ∧ StOk G t4 F4.st ∧ whN c b m F4 = some r, fun σ' H' h => ⟨m, Nat.lt_succ_self _, h⟩, ?_⟩
          refine hb s t3 σ2 F2.e st1 (E2.up g3) k3 _ ?_
          have s3 := s2.trans g3.up
          have w3 : (match b ⟨F2.e, st1⟩ with | .nx e' => whN c b m e' | .ct e' => whN c b m e' | .bk e' => some (.nx e') | r => some r) = some r := w2
          cases q5 : b ⟨F2.e, st1⟩ with
          | nx e5 => rw [q5] at w3; exact fun t6 σ6 s6 E6 k6 => ⟨t6, e5, rfl, s3.trans s6, E6, k6, w3⟩
          | ct e5 => rw [q5] at w3; exact fun t6 σ6 s6 E6 k6 => ⟨t6, e5, rfl, s3.trans s6, E6, k6, w3⟩
          | bk e5 => rw [q5] at w3; cases w3; exact SPost.mono s3 post
          | rt k d st => rw [q5] at w3; cases w3; exact SPost.mono s3 post
          | exc k l e => rw [q5] at w3; cases w3; exact SPost.mono s3 post
          | bad => rw [q5] at w3; cases w3; exact post.elim
  · exact post.elim
end
end Dn
namespace Dn
open PySem PySem.Spec PyProof.Rows L2
section
variable {G : Gm} {W : WX}
abbrev W0 : WX := fun _ _ _ _ => False
def wipeE (e : DE) : List Nat → DE
  | [] => e
  | v :: vs => (wipeE e vs).set v .emp
theorem EnvOk.wipe {s t : Hs} {σ : L2.St} {e : DE} (E : EnvOk G s t σ e) : ∀ vs : List Nat, EnvOk G s t (L2.wipe σ vs) (wipeE e vs)
  | [] => E
  | v :: vs => (E.wipe vs).set (x := .emp) trivial (fun l z => nomatch z)
theorem wipe_agree {σ τ : L2.St} {vs js : List Nat} (hl : τ.length = σ.length) (hj : ∀ j ∈ js, j ∈ vs) (h : ∀ i, i ∉ js → τ[i]? = (L2.wipe σ vs)[i]?) (hl2 : τ.length = (L2.wipe σ vs).length) : L2.wipe τ vs = L2.wipe σ vs := by
  have key : ∀ (σ : L2.St) (us : List Nat) (i : Nat), i ∈ us → i < σ.length → (L2.wipe σ us)[i]? = some none := by
    intro σ us
    induction us with
    | nil => intro i h; cases h
    | cons v us ih =>
      intro i h hi
      unfold L2.wipe
      by_cases z : v = i
      · subst z
        rw [List.getElem?_set_self (by rw [L2.wipe_length]; exact hi)]
      · rw [List.getElem?_set_ne z]
        rcases List.mem_cons.mp h with rfl | h
        · exact absurd rfl z
        · exact ih i h hi
  apply List.ext_getElem?
  intro i
  by_cases hi : i ∈ vs
  · by_cases hlt : i < σ.length
    · rw [key τ vs i hi (by omega), key σ vs i hi hlt]
    · rw [List.getElem?_eq_none (by rw [L2.wipe_length]; omega), List.getElem?_eq_none (by rw [L2.wipe_length]; omega)]
  · rw [L2.wipe_out hi, h i (fun z => hi (hj i z))]
def lcStep (t : D → DE → Option DE) (c f : En → ER) (e : DE) (d : D) (st : Sto) : Option (Option D × Sto) := match t d e with
  | none => none
  | some e2 => (match c ⟨e2, st⟩ with
    | .val _ (.bl b) st1 => if b = true then (match f ⟨e2, st1⟩ with | .val .P y st2 => some (some y, st2) | .val .N y st2 => some (some y, st2) | _ => none) else some (none, st1)
    | _ => none)
def lcGo (k : D → Sto → Option (Option D × Sto)) : List D → Sto → Option (List D × Sto)
  | [], st => some ([], st)
  | d :: l, st => (k d st).bind fun o => (lcGo k l o.2).bind fun r => some (o.1.toList ++ r.1, r.2)
def dLc (src : En → AR) (t : D → DE → Option DE) (c f : En → ER) (vs : List Nat) : En → ER := fun E => match src E with
  | .ok _ l st => if l.length ≤ 1000000 then ofOpt (lcGo (lcStep t c f (wipeE E.e vs)) l st) fun r => .val .N (.lst r.1) r.2 else .bad
  | .exc k l st => .exc k l st
  | .bad => .bad
theorem t_yes : DTt G W tYes (fun E => .val .P (.bl true) E.st) := fun s t σ e st E k Q post => post t (Gro.refl k) k
theorem v_lc {wi : TI} {g : TG} {tt : TT} {te : TE} {vs js : List Nat} {src : En → AR} {t : D → DE → Option DE} {c f : En → ER} (hi : DIt G W wi src) (hg : DTg G g js t) (hj : ∀ j ∈ js, j ∈ vs) (ht : DTt G W0 tt c) (he : DEv G W0 te f) : DEv G W (tLc wi g tt te vs) (dLc src t c f vs) := by
  intro s t0 σ e st E k0 Q post
  refine hi s t0 σ e st E k0 _ ?_
  unfold dLc at post
  cases q : src ⟨e, st⟩ with
  | ok p l st1 =>
    rw [q] at post
    obtain ⟨hlen, post⟩ := RPost.cond _ _ post
    obtain ⟨out, hout, post⟩ := RPost.opt _ _ post
    intro t1 J g1 k1 it Dl hD
    have hDH : t0.h Dl = none := by
      cases q : t0.h Dl with
      | none => rfl
      | some o =>
        by_cases i : Dl ∈ t0.as
        · exact absurd (g1.a.mem i) (k1.new hD)
        · rw [g1.h Dl o q i] at hD; cases hD
    have hD0 : s.h Dl = none := by
      cases q : s.h Dl with
      | none => rfl
      | some o =>
        by_cases i : Dl ∈ s.as
        · exact absurd (E.gr.a.mem i) (k0.new hDH)
        · rw [E.gr.h Dl o q i] at hDH; cases hDH
    have hDf : t1.f Dl = none := k1.sf.free hD
    have hDa : Dl ∉ t1.as := k1.new hD
    have Ew := (E.up g1).wipe vs
    have hne : ∀ (j : Nat) (m : List D), (L2.wipe σ vs)[j]? = some (some (.ref Dl)) → (wipeE e vs)[j]? = some (.own m) → False := fun j m a b => by
      obtain ⟨o, h1, p', vs', h2, _, _, h3, _⟩ := Ew.slot b
      rw [a] at h1; cases h1
      cases h2
      rw [hD] at h3; cases h3
    have gd := g1.chg (o := .lst []) hDH hDf
    refine ⟨fun i m H' => m = l.length - i ∧ i ≤ l.length ∧ ∃ t2 st2 acc vacc rest, t2.h = H' ∧ Up t1 t2 ∧ Gro t0 t2 ∧ StOk G t2 st2 ∧ EnvOk G s t2 (L2.wipe σ vs) (wipeE e vs) ∧ t2.h Dl = some (.lst vacc) ∧ IsL G t2.as t2.f vacc acc ∧ t2.f Dl = none ∧ Dl ∉ t2.as ∧ acc.length ≤ i ∧
      lcGo (lcStep t c f (wipeE e vs)) (l.drop i) st2 = some (rest, out.2) ∧ acc ++ rest = out.1, ⟨l.length, by simp, Nat.zero_le _, ⟨t1.as, t1.f, upd t1.h Dl (.lst [])⟩, st1, [], [], out.1, rfl, ⟨Ext.refl _, Same.refl _⟩, gd, k1.chg hDf hDa, Ew.other hD0 hDf hne, upd_same, .nil, hDf, hDa, Nat.zero_le _, hout, rfl⟩, ?_⟩
    rintro i m H2 ⟨rfl, hi, t2, st2, acc, vacc, rest, rfl, s2, g2, k2, E2, d2, a2, n2, na2, l2, r2, o2⟩
    obtain ⟨i1, i2⟩ := it i t2 st2 s2 k2
    by_cases hlt : i < l.length
    · right
      have hd : l[i]? = some l[i] := List.getElem?_eq_getElem hlt
      obtain ⟨go, y⟩ := i2 _ hd
      rw [List.drop_eq_getElem_cons hlt] at r2
      refine ⟨go, fun H' => i + 1 ≤ l.length ∧ ∃ t2 st2 acc vacc rest, t2.h = H' ∧ Up t1 t2 ∧ Gro t0 t2 ∧ StOk G t2 st2 ∧ EnvOk G s t2 (L2.wipe σ vs) (wipeE e vs) ∧ t2.h Dl = some (.lst vacc) ∧ IsL G t2.as t2.f vacc acc ∧ t2.f Dl = none ∧ Dl ∉ t2.as ∧ acc.length ≤ i + 1 ∧
        lcGo (lcStep t c f (wipeE e vs)) (l.drop (i + 1)) st2 = some (rest, out.2) ∧ acc ++ rest = out.1, fun H' h => ⟨l.length - (i + 1), by omega, rfl, h⟩, fun x H' hy => ?_⟩
      obtain ⟨t3, rfl, g3, k3, i3⟩ := y x H' hy
      unfold lcGo at r2
      cases sk : lcStep t c f (wipeE e vs) l[i] st2 with
      | none => rw [sk] at r2; cases r2
      | some o =>
        rw [sk] at r2
        have r2 : ((lcGo (lcStep t c f (wipeE e vs)) (l.drop (i + 1)) o.2).bind fun r => some (o.1.toList ++ r.1, r.2)) = some (rest, out.2) := r2
        cases lg : lcGo (lcStep t c f (wipeE e vs)) (l.drop (i + 1)) o.2 with
        | none => rw [lg] at r2; cases r2
        | some rest' =>
          rw [lg] at r2
          have r3 : (o.1.toList ++ rest'.1, rest'.2) = (rest, out.2) := Option.some.inj r2
          have r4 : o.1.toList ++ rest'.1 = rest := (Prod.mk.inj r3).1
          have r5 : rest'.2 = out.2 := (Prod.mk.inj r3).2
          have lg' : lcGo (lcStep t c f (wipeE e vs)) (l.drop (i + 1)) o.2 = some (rest'.1, out.2) := by rw [lg, ← r5]
          unfold lcStep at sk
          cases q3 : t l[i] (wipeE e vs) with
          | none => rw [q3] at sk; cases sk
          | some e3 =>
            rw [q3] at sk
            refine hg s t3 (L2.wipe σ vs) (wipeE e vs) st2 x l[i] (E2.up g3) k3 i3 _ e3 q3 fun σ4 E4 l4 w4 => ?_
            refine ⟨wipe_agree (by rw [l4, L2.wipe_length]) hj w4 l4, ?_⟩
            refine ht s t3 σ4 e3 st2 E4 k3 _ ?_
            have sk' : (match c ⟨e3, st2⟩ with
              | .val _ (.bl b) st1 => if b = true then (match f ⟨e3, st1⟩ with | .val .P y st2 => some (some y, st2) | .val .N y st2 => some (some y, st2) | _ => none) else some (none, st1)
              | _ => none) = some o := sk
            cases q4 : c ⟨e3, st2⟩ with
            | exc k l st => rw [q4] at sk'; cases sk'
            | bad => rw [q4] at sk'; cases sk'
            | val mm d st4 =>
              rw [q4] at sk'
              cases d with
              | bl b =>
                intro t5 g5 k5
                have gg := g3.trans g5
                cases b with
                | false =>
                  cases sk'
                  refine iteF ⟨hlt, t5, st4, acc, vacc, rest'.1, rfl, s2.trans gg.up, g2.trans gg, k5, E2.up gg, gg.h _ _ d2 na2, a2.up gg.a gg.f, gg.n _ _ d2 n2, (fun m => (gg.w Dl m).elim na2 fun z => by rw [d2] at z; cases z), by omega, lg', ?_⟩
                  rw [← o2, ← r4]; rfl
                | true =>
                  refine iteT (he s t5 σ4 e3 st4 (E4.up g5) k5 _ ?_)
                  have fin : ∀ y st6 t6 v, Gro t5 t6 → StOk G t6 st6 → Is G t6.as t6.f v y → o = (some y, st6) → ∃ acc, t6.h Dl = some (.lst acc) ∧ acc.length < sizeLine ∧ (i + 1 ≤ l.length ∧ ∃ t2 st2 acc_1 vacc rest, t2.h = upd t6.h Dl (.lst (acc ++ [v])) ∧ Up t1 t2 ∧ Gro t0 t2 ∧ StOk G t2 st2 ∧ EnvOk G s t2 (L2.wipe σ vs) (wipeE e vs) ∧
                      t2.h Dl = some (.lst vacc) ∧ IsL G t2.as t2.f vacc acc_1 ∧ t2.f Dl = none ∧ Dl ∉ t2.as ∧ acc_1.length ≤ i + 1 ∧ lcGo (lcStep t c f (wipeE e vs)) (l.drop (i + 1)) st2 = some (rest, out.2) ∧ acc_1 ++ rest = out.1) := fun y st6 t6 v g6 k6 i6 ho => by
                    subst ho
                    have gh := gg.trans g6
                    have nn := gh.n _ _ d2 n2
                    have na : Dl ∉ t6.as := fun m => (gh.w Dl m).elim na2 fun z => by rw [d2] at z; cases z
                    have cl := a2.len
                    refine ⟨vacc, gh.h _ _ d2 na2, by rw [cl]; exact szlt (by omega), hlt, ⟨t6.as, t6.f, upd t6.h Dl (.lst (vacc ++ [v]))⟩, st6, acc ++ [y], vacc ++ [v], rest'.1, rfl, ?_, (g2.trans gh).chg hDH nn, k6.chg nn na, (E2.up gh).other hD0 nn hne, upd_same, (a2.up gh.a gh.f).append (.one i6), nn, na, by simp; omega, lg', ?_⟩
                    · exact ⟨s2.a.trans gh.a, s2.f.trans gh.f⟩
                    · rw [← o2, ← r4]
                      simp
                  have sk2 : (match f ⟨e3, st4⟩ with | .val .P y st2 => some (some y, st2) | .val .N y st2 => some (some y, st2) | _ => none) = some o := sk'
                  cases q6 : f ⟨e3, st4⟩ with
                  | val m6 y st6 =>
                    rw [q6] at sk2
                    intro t6 v g6 k6 o6
                    cases m6 with
                    | P => exact fin y st6 t6 v g6 k6 o6 (Option.some.inj sk2).symm
                    | B => cases sk2
                    | N =>
                      obtain ⟨f7, g7, k7, _, i7⟩ := o6.freeze g6 k6 (by decide)
                      exact fin y st6 ⟨t6.as, f7, t6.h⟩ v g7 k7 i7 (Option.some.inj sk2).symm
                  | exc k l st => rw [q6] at sk2; cases sk2
                  | bad => rw [q6] at sk2; cases sk2
              | _ => cases sk'
    · left
      have : i = l.length := by omega
      subst this
      refine ⟨i1 (Nat.le_refl _), ?_⟩
      rw [List.drop_length] at r2
      have r3 : (([] : List D), st2) = (rest, out.2) := Option.some.inj r2
      have r4 : [] = rest := (Prod.mk.inj r3).1
      have r5 : st2 = out.2 := (Prod.mk.inj r3).2
      subst r4
      rw [List.append_nil] at o2
      rw [← o2, ← r5] at post
      exact post t2 _ g2 k2 ⟨Dl, vacc, acc, rfl, rfl, d2, a2, na2, hDH, n2⟩
  | exc c l st1 => rw [q] at post; exact post
  | bad => rw [q] at post; exact post
def sRaise (c : Nat) : En → SR := fun E => .exc c [] E
theorem s_raise {c : Nat} {C : Addr} (hc : G.ca c = C) : DSt G W (fun _ σ H => (fun (_ : L2.St) (H : Hp) (Q : XK) => Q (.ref C) none H) σ H fun cls d H' => W cls d σ H') (sRaise c) := by
  intro s t σ e st E k N post
  subst hc
  exact post t σ none (Up.refl _) E k (.inl ⟨rfl, rfl⟩)
def SR.ret : SR → ER
  | .nx E => .val .P .non E.st
  | .rt m d st => .val m d st
  | .exc c l E => .exc c l E.st
  | _ => .bad
def startE (n : Nat) (ds : List D) : DE := ds.map .val ++ List.replicate (n - ds.length) .emp
def fnD (n N : Nat) (g : En → SR) : List D → Sto → ER := fun ds st => if ds.length = n then (g ⟨startE N ds, st⟩).ret else .bad
theorem start_ok {N : List Str} {t : Hs} {st : Sto} {vs : List V} {ds : List D} (k : StOk G t st) (h : IsL G t.as t.f vs ds) : EnvOk G t t (L2.start N vs) (startE N.length ds) := by
  have hl := h.len
  have noown : ∀ (j : Nat) (m : List D), (startE N.length ds)[j]? ≠ some (.own m) := fun j m z => by
    unfold startE at z
    rw [List.getElem?_append] at z
    split at z
    · rw [List.getElem?_map] at z
      cases q : ds[j]? <;> rw [q] at z <;> cases z
    · rw [List.getElem?_replicate] at z
      split at z <;> cases z
  refine ⟨Gro.refl k, by simp [L2.start, startE, hl], fun i o sl a b => ?_, fun i j p l m hij a b => absurd b (noown i l)⟩
  unfold L2.start at a
  unfold startE at b
  rw [List.getElem?_append] at a b
  rw [List.length_map] at a b
  split at a
  · rename_i hi
    rw [if_pos (by omega)] at b
    rw [List.getElem?_map] at a b
    cases q : vs[i]? with
    | none => rw [q] at a; cases a
    | some v =>
      obtain ⟨d, h1, h2⟩ := h.getV q
      rw [q] at a; rw [h1] at b
      cases a; cases b
      exact ⟨v, rfl, h2⟩
  · rename_i hi
    rw [if_neg (by omega)] at b
    rw [List.getElem?_replicate] at b
    split at b
    · cases b; trivial
    · cases b
theorem body_ok {N : List Str} {vs : List V} {H : Hp} {Q : VK} {E : XK} {ts : TS} {g : En → SR} {n : Nat} {D0 : Ends} (h2 : DSt G (fun c x _ H => E c x H) ts g) (hnx : D0.nx = fun _ H => Q .non H) (hrt : D0.rt = Q)
    (h : spF G (fnD n N.length g) vs H Q E) : ts D0 (L2.start N vs) H := by
  obtain ⟨t, ds, st, rfl, k, i, p⟩ := h
  obtain ⟨hl, p⟩ := RPost.cond _ _ p
  refine h2 t t _ _ st (start_ok k i) k _ ?_
  cases q : g ⟨startE N.length ds, st⟩ with
  | nx e => rw [q] at p; exact fun t' σ' s' E' k' => by rw [hnx]; exact p t' .non E'.gr k' .non
  | rt m d st1 => rw [q] at p; exact fun t' v s' g' k' o => by rw [hrt]; exact p t' v g' k' o
  | bk e => rw [q] at p; exact p.elim
  | ct e => rw [q] at p; exact p.elim
  | exc c l e => rw [q] at p; exact fun t' σ' x s' E' k' o => p t' x E'.gr k' o
  | bad => rw [q] at p; exact p.elim
theorem sp_len {n N : Nat} {g : En → SR} {vs : List V} {H : Hp} {Q : VK} {E : XK} (h : spF G (fnD n N g) vs H Q E) : vs.length = n := by
  obtain ⟨t, ds, st, rfl, k, i, p⟩ := h
  unfold fnD at p
  split at p
  · rename_i hl; rw [i.len]; exact hl
  · exact p.elim
theorem fn_ok {P : Program} {w : World} {K : PySem.W.Frag} {mg : Str → Option Value} {base : Heap} {x qual : Str} {st : Stmt} {f : Addr} {fd : FuncData} {N ps : List Str} {k : Nat} {g : En → SR} {n : Nat} (hn : ps.length = n) {m : Nat} (hm : N.length = m)
    (F : Fun K x qual st f fd) (S : FnScope N ps (defScope st))
    (hbody : ∀ (cdv : Value) (A : Around) (outer : List Env) (s : Shared) (H : Hp) (E : XK), Room k (A.deeper (envOfC qual (defScope st) s.heap.objs.size f cdv)) →
      ∃ t, PSs (cxOf (L2.CX P w) P w K mg base N qual (defScope st) f cdv A outer s H E) (defBody st) t ∧ DSt G (fun c x _ H => E c x H) t g) : FnOk P w K mg base (L2.CX P w) (k + 1) f fd ps (spF G (fnD n m g)) := by
  subst hn hm
  refine F.okX S (fun vs H Q E h => sp_len h) fun cdv A outer s H vs Q E hr h => ?_
  obtain ⟨t, h1, h2⟩ := hbody cdv A outer s H E hr
  exact ⟨t, h1, body_ok h2 rfl rfl h⟩
end
end Dn
namespace Dn
open PySem PySem.Spec PyProof.Rows L2
def pickL {α : Type} (idx : List Nat) (l : List α) : List α := idx.filterMap fun k => l[k]?
structure CallB (K : PySem.W.Frag) (fd : FuncData) (ps : List Str) (n : Nat) (ks : List Str) (idx : List Nat) (dvs : List V) : Prop where
  ex : ∃ its : List Value, Vals dvs its ∧ ∀ (s : Shared) (us ws : List Value), K.In s.heap → us.length = n → ws.length = ks.length → BindsTo s fd ⟨us, ks.zip ws⟩ (ps.zip (pickL idx (us ++ ws ++ its)))
theorem vals_pick {vs : List V} {us : List Value} (h : Vals vs us) : ∀ idx : List Nat, Vals (pickL idx vs) (pickL idx us)
  | [] => .nil
  | k :: idx => by
    have ih := vals_pick h idx
    unfold pickL at ih ⊢
    rw [List.filterMap_cons, List.filterMap_cons]
    cases q : vs[k]? with
    | none => rw [h.none_of q]; exact ih
    | some v => obtain ⟨u, h1, h2⟩ := h.get q; rw [h1]; exact .cons h2 ih
theorem isL_pick {G : Gm} {as : List Addr} {H : Hp} {vs : List V} {ds : List D} (h : IsL G as H vs ds) : ∀ idx : List Nat, IsL G as H (pickL idx vs) (pickL idx ds)
  | [] => .nil
  | k :: idx => by
    have ih := isL_pick h idx
    unfold pickL at ih ⊢
    rw [List.filterMap_cons, List.filterMap_cons]
    cases q : ds[k]? with
    | none =>
      have : vs[k]? = none := by
        rw [List.getElem?_eq_none_iff] at q ⊢
        rw [h.len]; exact q
      rw [this]; exact ih
    | some d => obtain ⟨u, h1, h2⟩ := h.get q; rw [h1]; exact .cons h2 ih
def toV : D → V
  | .bl b => .bl b
  | .int i => .int i
  | .str x => .str x
  | _ => .non
theorem is_toV {G : Gm} {as : List Addr} {H : Hp} {d : D} (h : flat d = true) : Is G as H (toV d) d := by
  cases d <;> first | exact .non | exact .bl _ | exact .int _ | exact .str _ | cases h
theorem isL_toV {G : Gm} {as : List Addr} {H : Hp} : ∀ {ds : List D}, ds.all flat = true → IsL G as H (ds.map toV) ds
  | [], _ => .nil
  | d :: ds, h => by
    have h' : flat d = true ∧ ds.all flat = true := by simpa using h
    exact .cons (is_toV h'.1) (isL_toV h'.2)
def tCallG (n m : Nat) (idx : List Nat) (dvs : List V) (sp : Sp) (E : L2.St → XK) (t tk : TA) : TE := fun σ H Q => t σ H fun vs H1 => tk σ H1 fun zs H2 => vs.length = n ∧ zs.length = m ∧ sp (pickL idx (vs ++ zs ++ dvs)) H2 Q (E σ)
section
variable {X : Cx} {CX : CXT} {k n : Nat} {f : Addr} {fd : FuncData} {ps ks : List Str} {idx : List Nat} {dvs : List V} {sp : Sp} {E : L2.St → XK} {x : Str} {p pos : Pos} {e : Expr} {es : List Expr} {kws : List Keyword} {t tk : TA}
theorem run_fnG {pins : List (Addr × Obj)} {σ : L2.St} {H : Hp} {s : Shared} {Q : VK} {us ws : List Value} {vs zs : List V} (F : FnOk X.prog X.w X.K X.mg X.base CX k f fd ps sp) (hr : Room k X.A) (hb : CallB X.K fd ps n ks idx dvs) (hx : PassesAt CX X σ (E σ))
    (I : Inv X pins σ H s) (r : Vals vs us) (rz : Vals zs ws) (l1 : vs.length = n) (l2 : zs.length = ks.length) (h : sp (pickL idx (vs ++ zs ++ dvs)) H Q (E σ)) : wpAny (model X.prog X.w) X.A (call (.ref f) us (ks.zip ws)) (EP X pins σ Q) X.xe s := by
  obtain ⟨its, rd, hb⟩ := hb.ex
  refine wpAny_call (codeAny_mono (F.run X.A X.stack s H ⟨us, ks.zip ws⟩ (pickL idx (us ++ ws ++ its)) (pickL idx (vs ++ zs ++ dvs)) Q (E σ) hr I.env0 (hb s us ws I.kIn (r.length.symm.trans l1) (rz.length.symm.trans l2)) (vals_pick ((r.append rz).append rd) idx) h) fun r s' hq => ?_)
  cases r with
  | error e => exact hx pins H s e s' I hq
  | ok fl =>
    cases fl with
    | ret u => exact I.after hq
    | next => exact False.elim hq
    | brk => exact False.elim hq
    | cont => exact False.elim hq
theorem pe_gN (F : FnOk X.prog X.w X.K X.mg X.base CX k f fd ps sp) (hr : Room k X.A) (hg : Gl X x) (hm : X.mg x = some (.ref f)) (hk : PySem.W.keepIn X.K (.ref f) = true) (hb : CallB X.K fd ps n [] idx dvs) (hx : ∀ σ, PassesAt CX X σ (E σ))
    (ha : PA X (e :: es) t) (hdb : (x == ("__debug__" : Str)) = false := by decide) (he : starEach (e :: es) X.env = (false, eval e X.env) :: starEach es X.env := by rfl) (hpl : (backTo pos (starEach es X.env)).any (·.1) = false := by rfl) :
    PE X (.Call (.Name x p) (e :: es) [] pos) (tCallG n 0 idx dvs sp E t tNil) := by
  refine ⟨fun pins s σ H Q I h => ?_⟩
  refine wpAny_Call_Name_kw (ld_glob I hg hm ?_ hdb)
  refine PySem.W.callWith_K (h₀ := X.base) I.ok.mod.kin hk (thn (ha.run pos pins s σ H _ I h) fun us s1 ⟨vs, H1, I1, r, l1, l2, q⟩ => ⟨I1.kIn, ?_⟩) he hpl
  exact run_fnG (ks := []) (ws := []) (zs := []) F hr hb (hx σ) I1 r .nil l1 rfl q
end
end Dn
namespace Dn
open PySem PySem.Spec PyProof.Rows L2
section
variable {G : Gm} {W : WX}
def dCallG (F : List D → Sto → ER) (n m : Nat) (idx : List Nat) (dd : List D) (f g : En → AR) : En → ER := fun E => match f E with
  | .ok true l st => (match g ⟨E.e, st⟩ with
    | .ok true z st1 => if l.length = n ∧ z.length = m then F (pickL idx (l ++ z ++ dd)) st1 else .bad
    | .exc c l st => .exc c l st
    | _ => .bad)
  | .exc c l st => .exc c l st
  | _ => .bad
theorem v_callG {F : List D → Sto → ER} {n m : Nat} {idx : List Nat} {dd : List D} {ta tk : TA} {f g : En → AR} (hd : dd.all flat = true) (ha : DAr G W ta f) (hk : DAr G W tk g) : DEv G W (tCallG n m idx (dd.map toV) (spF G F) (WE W) ta tk) (dCallG F n m idx dd f g) := by
  intro s t σ e st E k Q post
  refine ha s t σ e st E k _ ?_
  unfold dCallG at post
  cases q : f ⟨e, st⟩ with
  | ok p l st1 =>
    rw [q] at post
    cases p with
    | false => exact post.elim
    | true =>
      have post : RPost G W t σ Q (match g ⟨e, st1⟩ with
        | .ok true z st1 => if l.length = n ∧ z.length = m then F (pickL idx (l ++ z ++ dd)) st1 else .bad
        | .exc c l st => .exc c l st
        | _ => .bad) := post
      intro t1 vs g1 k1 i1 u1
      have i1 := i1 rfl
      refine hk s t1 σ e st1 (E.up g1) k1 _ ?_
      cases q2 : g ⟨e, st1⟩ with
      | ok p2 z st2 =>
        rw [q2] at post
        cases p2 with
        | false => exact post.elim
        | true =>
          obtain ⟨c, post⟩ := RPost.cond (l.length = n ∧ z.length = m) (F (pickL idx (l ++ z ++ dd)) st2) post
          intro t2 zs g2 k2 i2 u2
          have i2 := i2 rfl
          refine ⟨by rw [u1.len]; exact c.1, by rw [u2.len]; exact c.2, t2, _, st2, rfl, k2, isL_pick (((i1.up g2.a g2.f).append i2).append (isL_toV hd)) idx, (RPost.step (g1.trans g2) k2 post).w (fun c x H' h => h)⟩
      | exc c l st2 => rw [q2] at post; exact fun t' x g' => post t' x (g1.trans g')
      | bad => rw [q2] at post; exact post
  | exc c l st1 => rw [q] at post; exact post
  | bad => rw [q] at post; exact post
def tyN : D → String
  | .non => "NoneType"
  | .bl _ => "bool"
  | .int _ => "int"
  | .str _ => "str"
  | .tup _ => "tuple"
  | .lst _ => "list"
  | .scr _ => "list"
  | .obj _ _ => "object"
  | .ptr _ => "object"
def isT (T : String) : D → Sto → ER
  | .obj _ _, _ => .bad
  | .scr _, _ => .bad
  | .ptr _, _ => .bad
  | d, st => ofOpt (kitB (tyN d) T) fun b => .val .P (.bl b) st
def dIsi (T : String) (f : En → ER) : En → ER := fun E => (f E).bind (isT T)
def clr (e : DE) : DE := e.map fun s => match s with | .exn => .emp | .clo _ => .emp | s => s
theorem SlotOk.ea {s t : Hs} {o : Option V} {sl : SL} (x : Addr) (h : SlotOk G s t o sl) (hs : sl ≠ .exn ∧ ∀ ds, sl ≠ .clo ds) : SlotOk (G.at_ x) s t o sl := by
  cases sl with
  | emp => trivial
  | exn => exact absurd rfl hs.1
  | clo ds => exact absurd rfl (hs.2 ds)
  | val d => obtain ⟨v, a, b⟩ := h; exact ⟨v, a, b.ea x⟩
  | own l => obtain ⟨p, vs, a, b, c, d, e, f⟩ := h; exact ⟨p, vs, a, b, c, d, e.ea x, f⟩
theorem clr_get {e : DE} {i : Nat} {s : SL} (h : (clr e)[i]? = some s) : (s ≠ .exn ∧ ∀ ds, s ≠ .clo ds) ∧ (s = .emp ∨ e[i]? = some s) := by
  unfold clr at h
  rw [List.getElem?_map] at h
  cases q : e[i]? with
  | none => rw [q] at h; cases h
  | some s' =>
    rw [q] at h
    cases s' <;> cases h <;> first | exact ⟨⟨(fun z => nomatch z), fun _ z => nomatch z⟩, .inl rfl⟩ | exact ⟨⟨(fun z => nomatch z), fun _ z => nomatch z⟩, .inr rfl⟩
theorem EnvOk.ea {s t : Hs} {σ : L2.St} {e : DE} (x : Addr) (E : EnvOk G s t σ e) : EnvOk (G.at_ x) s t σ (clr e) := by
  refine ⟨E.gr, by rw [E.len]; simp [clr], fun i o s a b => ?_, fun i j p l m hij a b c d => ?_⟩
  · obtain ⟨h1, h2 | h2⟩ := clr_get b
    · subst h2; trivial
    · exact (E.at_ i o s a h2).ea x h1
  · obtain ⟨_, h2 | h2⟩ := clr_get b
    · cases h2
    · obtain ⟨_, h3 | h3⟩ := clr_get d
      · cases h3
      · exact E.dis i j p l m hij a h2 c h3
theorem ObOk.ea {s : Hs} {a : Addr} {o : Ob} (x : Addr) (h : ObOk G s a o) : ObOk (G.at_ x) s a o := by
  cases o with
  | lst l => obtain ⟨vs, h1, h2⟩ := h; exact ⟨vs, h1, h2.ea x⟩
  | ins c l => obtain ⟨dx, vs, h1, h2, h3⟩ := h; exact ⟨dx, vs, h1, h2, h3.ea x⟩
  | tbl q => exact h
  | dct l => obtain ⟨kvs, h1, h2⟩ := h; exact ⟨kvs, h1, h2.ea x⟩
theorem StOk.ea {s : Hs} {st : Sto} (x : Addr) (k : StOk G s st) : StOk (G.at_ x) s st := ⟨k.sf, k.len, k.nd, fun n a o h1 h2 => (k.ob n a o h1 h2).ea x, k.nf, k.tb, fun da h => by
  obtain ⟨xs, h1, h2, h3⟩ := k.ex da h
  exact ⟨xs, h1, h2, h3.ea x⟩⟩
def sTryAs (i : Nat) (catch? : Nat → Option Bool) (g : En → SR) (h : Nat → List D → En → SR) : En → SR := fun E => match g E with
  | .exc c l E1 => (match catch? c with
    | some true => (match h c l ⟨(clr E1.e).set i .exn, E1.st⟩ with
      | .nx E2 => .nx ⟨(clr E2.e).set i .emp, E2.st⟩
      | .bk E2 => .bk ⟨(clr E2.e).set i .emp, E2.st⟩
      | .ct E2 => .ct ⟨(clr E2.e).set i .emp, E2.st⟩
      | .rt m d st => .rt m d st
      | _ => .bad)
    | some false => .exc c l E1
    | none => .bad)
  | r => r
theorem VOk.ea {s t : Hs} {m : Md} {v : V} {d : D} (x : Addr) (h : VOk G s t m v d) : VOk (G.at_ x) s t m v d := by
  cases m with
  | P => exact Is.ea x _ h
  | B => obtain ⟨p, vs, l, a, b, c, e, f⟩ := h; exact ⟨p, vs, l, a, b, c, e.ea x, f⟩
  | N => obtain ⟨p, vs, l, a, b, c, e, f, n, z⟩ := h; exact ⟨p, vs, l, a, b, c, e.ea x, f, n, z⟩
theorem s_tryAs {i : Nat} {C : Value} {tb : WX → TS} {ts : Addr → Value → Option Addr → TS} {catch? : Nat → Option Bool} {g : En → SR} {h : Nat → List D → En → SR} (hb : ∀ W, DSt G W (tb W) g)
    (hc : ∀ c b, catch? c = some b → PySem.W.exmOne G.K (.ref (G.ca c)) C = some b)
    (hs : ∀ c l a x t, catch? c = some true → ExcOk G t c l x → ∀ s σ e st, EnvOk (G.at_ a) s t σ e → StOk (G.at_ a) t st → ∀ N : Ends, SPost (G.at_ a) W0 s t N (h c l ⟨e, st⟩) → ts a (.ref (G.ca c)) x N σ t.h) :
    DSt G W (fun N σ H => tb (wAs G.K C i ts W N) N σ H) (sTryAs i catch? g h) := by
  intro s t σ e st E k N post
  refine hb _ s t σ e st E k N ?_
  unfold sTryAs at post
  cases q : g ⟨e, st⟩ with
  | nx e1 => rw [q] at post; exact post
  | rt m d st => rw [q] at post; exact post
  | bk e1 => rw [q] at post; exact post
  | ct e1 => rw [q] at post; exact post
  | bad => rw [q] at post; exact post
  | exc c l F1 =>
    simp only [q] at post
    intro t1 σ1 x s1 E1 k1 ox
    cases q2 : catch? c with
    | none => simp only [q2] at post; exact post.elim
    | some b =>
      refine ⟨b, hc c b q2, fun hbt a ha => ?_, fun hbf => ?_⟩
      · subst hbt
        simp only [q2] at post
        have E2 := (E1.ea a).set (i := i) (o := some (.ref a)) (x := .exn) rfl (fun l z => nomatch z)
        refine hs c l a x t1 q2 ox s _ _ F1.st E2 (k1.ea a) _ ?_
        have back : ∀ {t' : Hs} {σ' : L2.St} {e2 : DE}, EnvOk (G.at_ a) s t' σ' e2 → EnvOk G s t' (σ'.set i none) ((clr e2).set i .emp) := fun E' =>
          EnvOk.set (G := G) (x := .emp) (E'.ea G.ea) trivial (fun l z => nomatch z)
        cases q3 : h c l ⟨(clr F1.e).set i .exn, F1.st⟩ with
        | nx e2 => rw [q3] at post; exact fun t' σ' s' E' k' => post t' _ (s1.trans s') (back E') (k'.ea G.ea)
        | bk e2 => rw [q3] at post; exact fun t' σ' s' E' k' => post t' _ (s1.trans s') (back E') (k'.ea G.ea)
        | ct e2 => rw [q3] at post; exact fun t' σ' s' E' k' => post t' _ (s1.trans s') (back E') (k'.ea G.ea)
        | rt m d st => rw [q3] at post; exact fun t' v s' g' k' o => post t' v (s1.trans s') g' (k'.ea G.ea) (o.ea G.ea)
        | exc c2 l2 e2 => rw [q3] at post; exact post.elim
        | bad => rw [q3] at post; exact post.elim
      · subst hbf
        simp only [q2] at post
        exact post t1 σ1 x s1 E1 k1 ox
def rIsEx (K : PySem.W.Frag) (a : Addr) (cls : Value) (d : Option Addr) : List V → Hp → VK → Prop := fun xs H Q => ∃ D, cls = .ref D ∧ d = none ∧ ExcC K D ∧ rIsE K D a xs H Q
theorem call_isEx {X : Cx} {a : Addr} {cls : Value} {d : Option Addr} {oe : Obj} {pn : List (Addr × Obj)} (hz : Zc cls d oe) (hf : ∃ vs, oe.data = .fields vs) : CallR (X.suite a ((a, oe) :: pn)) (.builtin "isinstance") (rIsEx X.K a cls d) := by
  intro pins s σ H xs us Q I r h
  obtain ⟨D, rfl, rfl, C, h⟩ := h
  exact call_isE C hz hf pins s σ H xs us Q I r h
def dIsE (i : Nat) (b : Option Bool) : En → ER := fun E => match E.e[i]? with
  | some .exn => ofOpt b fun b => .val .P (.bl b) E.st
  | _ => .bad
theorem v_isE {i : Nat} {b : Option Bool} {c : Nat} {a : Addr} {C : V} {cv cls : Value} {dd : Option Addr} (hcls : cls = .ref (G.ca c)) (hdd : dd = none) (T : ExcC G.K (G.ca c)) (hC : ∀ u, RelV C u → u = cv) (hb : ∀ r, b = some r → PySem.W.kitOne G.K (.ref (G.ca c)) cv = some r) :
    DEv (G.at_ a) W (tCB (rIsEx G.K a cls dd) (tCons (tVar i) (tCons (tC C) tNil))) (dIsE i b) := by
  subst hcls
  subst hdd
  intro s t σ e st E k Q post
  unfold dIsE at post
  split at post
  · rename_i q
    obtain ⟨o, h1, h2⟩ := E.slot q
    have h2 : o = some (.ref a) := h2
    subst h2
    obtain ⟨r, hr, post⟩ := RPost.opt _ _ post
    exact ⟨_, h1, G.ca c, rfl, rfl, T, C, cv, r, rfl, hC, hb r hr, post.now k (.bl _)⟩
  · exact post.elim
end
theorem fn_okD {G : Gm} {P : Program} {w : World} {K : PySem.W.Frag} {mg : Str → Option Value} {base : Heap} {x qual : Str} {params : Arguments} {body : List Stmt} {scope : Scope} {dvs : List V} {f : Addr} {fd : FuncData} {N ps : List Str} {k : Nat} {g : En → SR} {n : Nat} (hn : ps.length = n) {m : Nat} (hm : N.length = m)
    (F : FunD K x qual params body scope dvs [] f fd) (S : FnScope N ps scope)
    (hbody : ∀ (cdv : Value) (A : Around) (outer : List Env) (s : Shared) (H : Hp) (E : XK), Room k (A.deeper (envOfC qual scope s.heap.objs.size f cdv)) →
      ∃ t, PSs (cxOf (L2.CX P w) P w K mg base N qual scope f cdv A outer s H E) body t ∧ DSt G (fun c x _ H => E c x H) t g) : FnOk P w K mg base (L2.CX P w) (k + 1) f fd ps (spF G (fnD n m g)) := by
  subst hn hm
  refine F.ok S (fun vs H Q E h => sp_len h) fun cdv A outer s H vs Q E hr h => ?_
  obtain ⟨t, h1, h2⟩ := hbody cdv A outer s H E hr
  exact ⟨t, h1, body_ok h2 rfl rfl h⟩
theorem callB_d {K : PySem.W.Frag} {x qual : Str} {params : Arguments} {body : List Stmt} {scope : Scope} {T : Addr} {kV doc pm : Value} {an : Option Addr} {cdv ct : Value} {o : Obj} {its : List Value} {m : Nat} {dvs : List V} {ps ks : List Str} {n : Nat} {idx : List Nat} (lT : K.lookup T = some o) (oT : o.data = .seq its.toArray m) (rd : Vals dvs its)
    (h : ∀ (us ws : List Value), us.length = n → ws.length = ks.length → ∃ k, bindArgs (PySem.W.fnOf x qual params body scope (.ref T) kV doc pm an cdv ct) ⟨us, ks.zip ws⟩ = seqItems? (.ref T) >>= k ∧ k (some its.toArray) = pure (ps.zip (pickL idx (us ++ ws ++ its)))) :
    CallB K (PySem.W.fnOf x qual params body scope (.ref T) kV doc pm an cdv ct) ps n ks idx dvs :=
  ⟨its, rd, fun s us ws X l1 l2 => BindsTo.of_looks fun M => by
    obtain ⟨k, e1, e2⟩ := h us ws l1 l2
    rw [e1]
    exact looks_items X lT oT (.of_pure e2)⟩
theorem callB_n {K : PySem.W.Frag} {fd : FuncData} {ps ks : List Str} {n : Nat} {idx : List Nat} (h : ∀ (us ws : List Value), us.length = n → ws.length = ks.length → bindArgs fd ⟨us, ks.zip ws⟩ = pure (ps.zip (pickL idx (us ++ ws ++ [])))) : CallB K fd ps n ks idx [] :=
  ⟨[], .nil, fun s us ws X l1 l2 => .of_eq (h us ws l1 l2)⟩
def nilOnly (l : List D) (g : En → SR) : En → SR := fun e => match l with
  | [] => g e
  | _ => .bad
theorem suite_of {G : Gm} {catch? : Nat → Option Bool} {ts : Addr → Value → Option Addr → TS} {h : Nat → En → SR} (k : ∀ c a, catch? c = some true → DSt (G.at_ a) W0 (ts a (.ref (G.ca c)) none) (h c)) :
    ∀ (c : Nat) (l : List D) (a : Addr) (x : Option Addr) (t : Hs), catch? c = some true → ExcOk G t c l x → ∀ (s : Hs) (σ : L2.St) (e : DE) (st : Sto), EnvOk (G.at_ a) s t σ e → StOk (G.at_ a) t st → ∀ N : Ends, SPost (G.at_ a) W0 s t N (nilOnly l (h c) ⟨e, st⟩) → ts a (.ref (G.ca c)) x N σ t.h := by
  intro c l a x t hc ox s σ e st E ks N post
  rcases ox with ⟨rfl, rfl⟩ | ⟨da, xs, rfl, hl, _⟩
  · exact k c a hc s t σ e st E ks N post
  · cases l with
    | nil => exact absurd rfl hl
    | cons d l => exact post.elim
theorem s_tryN {G : Gm} {W : WX} {i : Nat} {C : Value} {tb : WX → TS} {ts : Addr → Value → Option Addr → TS} {catch? : Nat → Option Bool} {g : En → SR} {h : Nat → En → SR} (hb : ∀ W, DSt G W (tb W) g)
    (hc : ∀ c b, catch? c = some b → PySem.W.exmOne G.K (.ref (G.ca c)) C = some b)
    (k : ∀ c a, catch? c = some true → ∀ cls d, cls = .ref (G.ca c) → d = none → DSt (G.at_ a) W0 (ts a cls d) (h c)) :
    DSt G W (fun N σ H => tb (wAs G.K C i ts W N) N σ H) (sTryAs i catch? g (fun c l => nilOnly l (h c))) := s_tryAs hb hc (suite_of fun c a hc => k c a hc _ _ rfl rfl)
def Yes (r : ER) : Prop := ∃ st, r = .val .P (.bl true) st
end Dn
namespace Dn
open PySem PySem.Spec PyProof.Rows L2
section
variable {G : Gm} {W : WX}
def DMt (G : Gm) (r : V → List V → Hp → VK → Prop) (op : List D → List D → Option (D × List D)) : Prop :=
  ∀ (s : Hs) (p : Addr) (vs : List V) (l : List D) (xs : List V) (ds : List D) (o : D × List D), s.h p = some (.lst vs) → IsL G s.as s.f vs l → IsL G s.as s.f xs ds → op l ds = some o → Same s.f s.h →
    ∃ v vs', Is G s.as s.f v o.1 ∧ IsL G s.as s.f vs' o.2 ∧ ∀ Q : VK, Q v (upd s.h p (.lst vs')) → r (.ref p) xs s.h Q
def mAppend (l ds : List D) : Option (D × List D) := match ds with
  | [d] => if l.length < 1000000 then some (.non, l ++ [d]) else none
  | _ => none
def mInsert (l ds : List D) : Option (D × List D) := match ds with
  | [.int i, d] => if l.length < 1000000 ∧ 0 ≤ i ∧ i < 2 ^ 63 then some (.non, l.take i.toNat ++ [d] ++ l.drop i.toNat) else none
  | _ => none
def mPop (l ds : List D) : Option (D × List D) := match ds with
  | [] => (match l[l.length - 1]? with | some d => some (d, l.dropLast) | none => none)
  | _ => none
def mPopAt (l ds : List D) : Option (D × List D) := match ds with
  | [.int i] => if -(2 ^ 63) ≤ i ∧ i < 2 ^ 63 then (match seqIndex? i l.length with
    | some k => (match l[k]? with | some d => some (d, l.eraseIdx k) | none => none)
    | none => none) else none
  | _ => none
def mReverse (l ds : List D) : Option (D × List D) := match ds with
  | [] => some (.non, l.reverse)
  | _ => none
theorem m_append : DMt G rAppend mAppend := by
  intro s p vs l xs ds o hp il ix ho _sf
  unfold mAppend at ho
  split at ho
  · rename_i d
    split at ho
    · rename_i hl
      cases ho
      cases ix with
      | cons a b => cases b; exact ⟨.non, _, .non, il.append (.one a), fun Q q => ⟨p, vs, _, rfl, rfl, hp, by rw [il.len]; exact szlt hl, q⟩⟩
    · cases ho
  · cases ho
abbrev rInsert : V → List V → Hp → VK → Prop := fun x vs H Q => ∃ (l : Addr) (xs : List V) (i : Int) (y : V), x = .ref l ∧ vs = [.int i, y] ∧ H l = some (.lst xs) ∧ xs.length < sizeLine ∧ 0 ≤ i ∧ i < 2 ^ 63 ∧
    Q .non (upd H l (.lst (xs.take i.toNat ++ [y] ++ xs.drop i.toNat)))
theorem m_insert : DMt G rInsert mInsert := by
  intro s p vs l xs ds o hp il ix ho _sf
  unfold mInsert at ho
  split at ho
  · rename_i i d
    split at ho
    · rename_i hl
      cases ho
      cases ix with
      | cons a b =>
        cases b with
        | cons b c =>
          cases c
          cases a
          exact ⟨.non, _, .non, ((il.take _).append (.one b)).append (il.drop _), fun Q q => ⟨p, vs, i, _, rfl, rfl, hp, by rw [il.len]; exact szlt hl.1, hl.2.1, hl.2.2, q⟩⟩
    · cases ho
  · cases ho
theorem IsL.dropLast {as : List Addr} {H : Hp} {ds : List D} {vs : List V} (h : IsL G as H vs ds) : IsL G as H vs.dropLast ds.dropLast := by
  rw [List.dropLast_eq_take, List.dropLast_eq_take, h.len]
  exact h.take _
theorem m_popAt : DMt G rPopAt mPopAt := by
  intro s p vs l xs ds o hp il ix ho _sf
  unfold mPopAt at ho
  split at ho
  · rename_i i
    split at ho
    · rename_i hi
      split at ho
      · rename_i k hk
        split at ho
        · rename_i d hd
          cases ho
          cases ix with
          | cons a b =>
            cases b
            cases a
            obtain ⟨v, h1, h2⟩ := il.get hd
            exact ⟨v, _, h2, il.eraseIdx k, fun Q q => ⟨p, vs, i, k, v, rfl, rfl, hp, hi.1, hi.2, by rw [il.len]; exact hk, h1, q⟩⟩
        · cases ho
      · cases ho
    · cases ho
  · cases ho
def dMtP (op : List D → List D → Option (D × List D)) (fb : En → ER) (fa : En → AR) : En → ER := fun E => match fb E with
  | .val _ (.ptr n) st => (match stLst st n with
    | some _ => (match fa ⟨E.e, st⟩ with
      | .ok true ds st1 => (match stLst st1 n with
        | some l => (match op l ds with | some o => .val .P o.1 (st1.set n (.lst o.2)) | none => .bad)
        | none => .bad)
      | .exc c l st => .exc c l st
      | _ => .bad)
    | none => .bad)
  | .exc c l st => .exc c l st
  | _ => .bad
theorem mt_end {r : V → List V → Hp → VK → Prop} {op : List D → List D → Option (D × List D)} (hm : DMt G r op) {t : Hs} {st : Sto} {n : Nat} {p : Addr} {xs : List V} {ds l : List D} {o : D × List D} (k : StOk G t st) (hp : t.as[n]? = some p) (hl : stLst st n = some l) (ix : IsL G t.as t.f xs ds) (ho : op l ds = some o) {σ : L2.St} {Q : VK}
    (post : RPost G W t σ Q (.val .P o.1 (st.set n (.lst o.2)))) : r (.ref p) xs t.h Q := by
  obtain ⟨vs, hh, il⟩ := k.lst hp hl
  obtain ⟨v, vs', h1, h2, h3⟩ := hm t p vs l xs ds o hh il ix ho k.sf
  exact h3 Q (post ⟨t.as, t.f, upd t.h p (.lst vs')⟩ v (Gro.mod (Gro.refl k) k hp) (k.mod hp ⟨vs', upd_same, h2⟩) h1)
theorem v_mtP {r : V → List V → Hp → VK → Prop} {op : List D → List D → Option (D × List D)} {tb : TE} {ta : TA} {fb : En → ER} {fa : En → AR} (hm : DMt G r op) (hb : DEv G W tb fb) (ha : DAr G W ta fa) : DEv G W (tBM G.K "list" r tb ta) (dMtP op fb fa) := by
  intro s t σ e st E k Q post
  unfold dMtP at post
  refine hb s t σ e st E k _ ?_
  cases q : fb ⟨e, st⟩ with
  | val m d st1 =>
    rw [q] at post
    cases d <;> first | exact post.elim | skip
    rename_i n
    cases hl : stLst st1 n with
    | none => simp only [hl] at post; exact post.elim
    | some l0 =>
      simp only [hl] at post
      intro t1 v g1 k1 o1
      obtain ⟨p, rfl, hp⟩ := o1.u.ptr
      obtain ⟨vs, hh, _⟩ := k1.lst hp hl
      refine ⟨.inl ⟨rfl, vs, SqL.of hh⟩, ha s t1 σ e st1 (E.up g1) k1 _ ?_⟩
      cases q2 : fa ⟨e, st1⟩ with
      | ok b ds st2 =>
        rw [q2] at post
        cases b with
        | false => exact post.elim
        | true =>
          intro t2 xs g2 k2 i2 _
          cases hl2 : stLst st2 n with
          | none => simp only [hl2] at post; exact post.elim
          | some l =>
            simp only [hl2] at post
            cases ho : op l ds with
            | none => simp only [ho] at post; exact post.elim
            | some o =>
              simp only [ho] at post
              exact mt_end hm k2 (g2.a n p hp) hl2 (i2 rfl) ho (RPost.step (g1.trans g2) k2 post)
      | exc c l st2 => rw [q2] at post; exact fun t' x g' => post t' x (g1.trans g')
      | bad => rw [q2] at post; exact post
  | exc c l st1 => rw [q] at post; exact post
  | bad => rw [q] at post; exact post
def putAt (j : Option Nat) (d : D) (e : DE) : DE := match j with
  | some j => e.set j (.val d)
  | none => e
def sMtO (j : Option Nat) (op : List D → List D → Option (D × List D)) (i : Nat) (fa : En → AR) : En → SR := fun E => match E.e[i]? with
  | some (.own l) => (match fa E with
    | .ok true ds st1 => (match op l ds with | some o => .nx ⟨putAt j o.1 (E.e.set i (.own o.2)), st1⟩ | none => .bad)
    | .exc c l st => .exc c l ⟨E.e, st⟩
    | _ => .bad)
  | _ => .bad
theorem mtO_run {r : V → List V → Hp → VK → Prop} {op : List D → List D → Option (D × List D)} {ta : TA} {fa : En → AR} {i : Nat} (hm : DMt G r op) (ha : DAr G W ta fa) {s t : Hs} {σ : L2.St} {e : DE} {st : Sto} {l : List D} (E : EnvOk G s t σ e) (k : StOk G t st) (hx : e[i]? = some (.own l)) {N : Ends} {Q : VK} {j : Option Nat}
    (post : SPost G W s t N (match fa ⟨e, st⟩ with
      | .ok true ds st1 => (match op l ds with | some o => .nx ⟨putAt j o.1 (e.set i (.own o.2)), st1⟩ | none => .bad)
      | .exc c l st => .exc c l ⟨e, st⟩
      | _ => .bad))
    (fin : ∀ t' v d st1 l', Up t t' → EnvOk G s t' σ (e.set i (.own l')) → StOk G t' st1 → Is G t'.as t'.f v d → SPost G W s t N (.nx ⟨putAt j d (e.set i (.own l')), st1⟩) → Q v t'.h) : tBM G.K "list" r (tVar i) ta σ t.h Q := by
  obtain ⟨o, hσ, p, vs, rfl, p0, pf, ph, pl, pa⟩ := E.slot hx
  refine ⟨_, hσ, .inl ⟨rfl, vs, SqL.of ph⟩, ha s t σ e st E k _ ?_⟩
  cases q2 : fa ⟨e, st⟩ with
  | ok b ds st2 =>
    rw [q2] at post
    cases b with
    | false => exact post.elim
    | true =>
      intro t2 xs g2 k2 i2 _
      cases ho : op l ds with
      | none => simp only [ho] at post; exact post.elim
      | some o =>
        simp only [ho] at post
        have hp' : t2.h p = some (.lst vs) := g2.h _ _ ph pa
        have hf' : t2.f p = none := g2.n _ _ ph pf
        have ha' : p ∉ t2.as := fun m => (g2.w p m).elim pa fun z => by rw [ph] at z; cases z
        obtain ⟨v, vs', h1, h2, h3⟩ := hm t2 p vs l xs ds o hp' (pl.up g2.a g2.f) (i2 rfl) ho k2.sf
        exact h3 _ (fin ⟨t2.as, t2.f, upd t2.h p (.lst vs')⟩ v o.1 st2 o.2 ⟨g2.a, g2.f⟩ ((E.up g2).chg hσ hx p0 hf' h2 ha') (k2.chg hf' ha') h1 post)
  | exc c l st2 => rw [q2] at post; exact fun t' x g' k' o => post t' σ x g'.up (E.up g') k' o
  | bad => rw [q2] at post; exact post
theorem s_mtO {r : V → List V → Hp → VK → Prop} {op : List D → List D → Option (D × List D)} {ta : TA} {fa : En → AR} {i : Nat} (hm : DMt G r op) (ha : DAr G W ta fa) : DSt G W (tDrop (tBM G.K "list" r (tVar i) ta)) (sMtO none op i fa) := by
  intro s t σ e st E k N post
  unfold sMtO at post
  split at post
  · rename_i l hx
    exact mtO_run hm ha E k hx post fun t' v d st1 l' u E' k' _ p => p t' σ u E' k'
  · exact post.elim
def sMt (op : List D → List D → Option (D × List D)) (i : Nat) (fa : En → AR) : En → SR := fun E => match E.e[i]? with
  | some (.own _) => sMtO none op i fa E
  | _ => sDrop (dMtP op (dVar i) fa) E
theorem s_mt {r : V → List V → Hp → VK → Prop} {op : List D → List D → Option (D × List D)} {ta : TA} {fa : En → AR} {i : Nat} (hm : DMt G r op) (ha : DAr G W ta fa) : DSt G W (tDrop (tBM G.K "list" r (tVar i) ta)) (sMt op i fa) := by
  intro s t σ e st E k N post
  unfold sMt at post
  split at post
  · exact s_mtO hm ha s t σ e st E k N post
  · exact s_drop (v_mtP hm v_var ha) s t σ e st E k N post
def sMtA (j : Nat) (op : List D → List D → Option (D × List D)) (i : Nat) (fa : En → AR) : En → SR := fun E => match E.e[i]? with
  | some (.own _) => sMtO (some j) op i fa E
  | _ => sSetF j (dMtP op (dVar i) fa) E
end
end Dn
namespace Dn
open PySem PySem.Spec PyProof.Rows L2
def stIns (st : Sto) (n : Nat) : Option (Nat × List D) := match st[n]? with
  | some (.ins c l) => some (c, l)
  | _ => none
section
variable {G : Gm} {W : WX}
theorem StOk.ins {s : Hs} {st : Sto} {n c : Nat} {l : List D} {p : Addr} (k : StOk G s st) (ha : s.as[n]? = some p) (h : stIns st n = some (c, l)) : ∃ dx vs, s.h p = some (.ins (G.ca c) dx ((G.fn c).zip vs)) ∧ vs.length ≤ (G.fn c).length ∧ IsL G s.as s.f vs l := by
  unfold stIns at h
  split at h
  · rename_i c' l' q
    cases h
    exact k.ob n p _ ha q
  · cases h
structure FldOk (G : Gm) (f : Str) (ix : Nat → Option Nat) : Prop where
  ok : ∀ c i, ix c = some i → (G.fn c)[i]? = some f ∧ (G.fn c).Nodup ∧ (G.fn c).length < 1000 ∧ Cls G.K (G.ca c) ∧ NoAttr G.K (G.ca c) f
theorem zip_lookup {f : Str} : ∀ {ns : List Str} {vs : List V} {i : Nat} {v : V}, ns.Nodup → ns[i]? = some f → vs[i]? = some v → (ns.zip vs).lookup f = some v
  | [], _, _, _, _, h, _ => by simp at h
  | n :: ns, [], _, _, _, _, h => by simp at h
  | n :: ns, w :: vs, 0, v, _, h1, h2 => by
    simp at h1 h2
    subst h1; subst h2
    simp [List.zip_cons_cons, List.lookup]
  | n :: ns, w :: vs, i + 1, v, hn, h1, h2 => by
    have hn' := List.nodup_cons.mp hn
    have h1' : ns[i]? = some f := by simpa using h1
    have h2' : vs[i]? = some v := by simpa using h2
    have ne : f ≠ n := fun z => hn'.1 (z ▸ List.mem_of_getElem? h1')
    have : (f == n) = false := by simpa using ne
    simp only [List.zip_cons_cons, List.lookup, this]
    exact zip_lookup hn'.2 h1' h2'
theorem zip_no {f : Str} : ∀ {ns : List Str} (vs : List V), f ∉ ns → (ns.zip vs).lookup f = none
  | [], _, _ => rfl
  | n :: ns, [], _ => rfl
  | n :: ns, w :: vs, h => by
    have h' : f ≠ n ∧ f ∉ ns := by simpa using h
    have : (f == n) = false := by simpa using h'.1
    simp only [List.zip_cons_cons, List.lookup, this]
    exact zip_no vs h'.2
def putI (i : Nat) (d : D) (l : List D) : Option (List D) := if i < l.length then some (l.set i d) else if i = l.length then some (l ++ [d]) else none
theorem zip_put {f : Str} {z : V} : ∀ {ns : List Str} {vs : List V} {i : Nat}, ns.Nodup → ns[i]? = some f → i ≤ vs.length → putF f z (ns.zip vs) = ns.zip (if i < vs.length then vs.set i z else vs ++ [z])
  | [], _, _, _, h, _ => by simp at h
  | n :: ns, [], i, _, h1, h2 => by
    have : i = 0 := by simpa using h2
    subst this
    simp at h1
    subst h1
    simp [putF]
  | n :: ns, w :: vs, 0, _, h1, _ => by
    simp at h1
    subst h1
    simp [putF, List.zip_cons_cons]
  | n :: ns, w :: vs, i + 1, hn, h1, h2 => by
    have hn' := List.nodup_cons.mp hn
    have h1' : ns[i]? = some f := by simpa using h1
    have ne : n ≠ f := fun z => hn'.1 (z ▸ List.mem_of_getElem? h1')
    have ih := zip_put (z := z) hn'.2 h1' (vs := vs) (by simpa using h2)
    simp only [List.zip_cons_cons, putF, if_neg ne, ih]
    by_cases c : i < vs.length
    · simp [c]
    · simp [c]
def dFld (ix : Nat → Option Nat) (fe : En → ER) : En → ER := fun E => (fe E).bind fun x st => match x with
  | .ptr n => (match stIns st n with
    | some (c, l) => (match ix c with
      | some i => ofOpt l[i]? fun d => .val .P d st
      | none => .bad)
    | none => .bad)
  | _ => .bad
theorem v_fld {f : Str} {ix : Nat → Option Nat} {te : TE} {fe : En → ER} (hf : FldOk G f ix) (he : DEv G W te fe) : DEv G W (tFld G.K te f) (dFld ix fe) := by
  intro s t σ e st E k Q post
  refine he s t σ e st E k _ (RPost.bind post fun m d st1 t1 v g1 k1 o1 p1 => ?_)
  cases d <;> first | exact p1.elim | skip
  rename_i n
  obtain ⟨p, rfl, hp⟩ := o1.u.ptr
  cases hi : stIns st1 n with
  | none => simp only [hi] at p1; exact p1.elim
  | some cl =>
    obtain ⟨c, l⟩ := cl
    simp only [hi] at p1
    cases hx : ix c with
    | none => simp only [hx] at p1; exact p1.elim
    | some i =>
      simp only [hx] at p1
      obtain ⟨d, hd, p1⟩ := RPost.opt _ _ p1
      obtain ⟨dx, vs, hh, hl, il⟩ := k1.ins hp hi
      obtain ⟨v, h1, h2⟩ := il.get hd
      obtain ⟨fi, fnd, _, fc, fa⟩ := hf.ok c i hx
      exact ⟨p, _, dx, _, v, rfl, hh, fc, fa, zip_lookup fnd fi h1, p1.now k1 h2⟩
def sFldS (ix : Nat → Option Nat) (fo fe : En → ER) : En → SR := fun E => match fe E with
  | .val .B _ _ => .bad
  | .val _ d st => (match fo ⟨E.e, st⟩ with
    | .val _ (.ptr n) st1 => (match stIns st1 n with
      | some (c, l) => (match ix c with
        | some i => (match putI i d l with
          | some l' => .nx ⟨E.e, st1.set n (.ins c l')⟩
          | none => .bad)
        | none => .bad)
      | none => .bad)
    | .exc c l st => .exc c l ⟨E.e, st⟩
    | _ => .bad)
  | .exc c l st => .exc c l ⟨E.e, st⟩
  | .bad => .bad
theorem s_fldS {f : Str} {ix : Nat → Option Nat} {to te : TE} {fo fe : En → ER} (hf : FldOk G f ix) (ho : DEv G W to fo) (he : DEv G W te fe) : DSt G W (sFld G.K to te f) (sFldS ix fo fe) := by
  intro s t σ e st E k N post
  unfold sFldS at post
  refine ev_st (N := N) he E k (fun c l st1 q => by rw [q] at post; exact post) (fun q => by rw [q] at post; exact post) fun m d st1 q t1 v g1 k1 o1 => ?_
  rw [q] at post
  have fin : ∀ f2, Gro t ⟨t1.as, f2, t1.h⟩ → StOk G ⟨t1.as, f2, t1.h⟩ st1 → Is G t1.as f2 v d → SPost G W s t N (match fo ⟨e, st1⟩ with
    | .val _ (.ptr n) st1 => (match stIns st1 n with
      | some (c, l) => (match ix c with
        | some i => (match putI i d l with
          | some l' => .nx ⟨e, st1.set n (.ins c l')⟩
          | none => .bad)
        | none => .bad)
      | none => .bad)
    | .exc c l st => .exc c l ⟨e, st⟩
    | _ => .bad) → to σ t1.h fun x H2 => ∃ a C dx fs, x = .ref a ∧ H2 a = some (.ins C dx fs) ∧ Cls G.K C ∧ NoAttr G.K C f ∧ fs.length < 1000 ∧ N.nx σ (upd H2 a (.ins C dx (putF f v fs))) := fun f2 g2 k2 i2 post => by
    refine ev_st (N := N) ho (E.up g2) k2 (fun c l st3 q3 => ?_) (fun q3 => ?_) fun mb db st3 q3 t3 b g3 k3 o3 => ?_
    · rw [q3] at post; exact SPost.mono g2.up post
    · rw [q3] at post; exact post
    · rw [q3] at post
      cases db <;> try exact post.elim
      rename_i n
      obtain ⟨p, rfl, hp⟩ := o3.u.ptr
      have g23 := g2.trans g3
      cases hi : stIns st3 n with
      | none => simp only [hi] at post; exact post.elim
      | some cl =>
        obtain ⟨c, l⟩ := cl
        simp only [hi] at post
        cases hx : ix c with
        | none => simp only [hx] at post; exact post.elim
        | some i =>
          simp only [hx] at post
          cases hu : putI i d l with
          | none => simp only [hu] at post; exact post.elim
          | some l' =>
            simp only [hu] at post
            obtain ⟨dx, vs, hh, hl, il⟩ := k3.ins hp hi
            obtain ⟨fi, fnd, flen, fc, fa⟩ := hf.ok c i hx
            have ile := il.len
            have hik : i ≤ vs.length := by
              rw [ile]
              unfold putI at hu
              split at hu
              · omega
              · split at hu
                · omega
                · cases hu
            refine ⟨p, _, dx, _, rfl, hh, fc, fa, by rw [List.length_zip]; omega, ?_⟩
            rw [zip_put fnd fi hik]
            have iv := i2.up g3.a g3.f
            have il' : IsL G t3.as t3.f (if i < vs.length then vs.set i v else vs ++ [v]) l' := by
              unfold putI at hu
              rw [ile]
              split at hu
              · rename_i c1
                cases hu
                rw [if_pos c1]; exact il.set iv i
              · rename_i c1
                split at hu
                · cases hu; rw [if_neg c1]; exact il.append (.one iv)
                · cases hu
            have hlen : (if i < vs.length then vs.set i v else vs ++ [v]).length ≤ (G.fn c).length := by
              have : i < (G.fn c).length := (List.getElem?_eq_some_iff.mp fi).1
              split
              · simpa using hl
              · simp; omega
            exact post ⟨t3.as, t3.f, upd t3.h p (.ins (G.ca c) dx ((G.fn c).zip _))⟩ σ ⟨g23.a, g23.f⟩ ((E.up g23).modS k3 hp) (k3.mod hp ⟨dx, _, upd_same, hlen, il'⟩)
  cases m with
  | P => exact fin t1.f g1 k1 o1 post
  | B => exact post.elim
  | N =>
    obtain ⟨f2, g2, k2, _, i2⟩ := o1.freeze g1 k1 (by decide)
    exact fin f2 g2 k2 i2 post
end
def tMethG (C : Addr) (m : Str) (n r : Nat) (idx : List Nat) (dvs : List V) (sp : Sp) (E : L2.St → XK) (ta : TE) (t tk : TA) : TE := fun σ H Q => ta σ H fun x H1 => ∃ a dx fs, x = .ref a ∧ H1 a = some (.ins C dx fs) ∧ fs.lookup m = none ∧
  t σ H1 fun vs H2 => tk σ H2 fun zs H3 => (x :: vs).length = n ∧ zs.length = r ∧ sp (pickL idx ((x :: vs) ++ zs ++ dvs)) H3 Q (E σ)
section
variable {X : Cx} {CX : CXT} {k n : Nat} {f C : Addr} {fd : FuncData} {ps ks : List Str} {idx : List Nat} {dvs : List V} {sp : Sp} {E : L2.St → XK} {x m : Str} {p pos apos : Pos} {o e : Expr} {es : List Expr} {kws : List Keyword} {ta : TE} {t tk : TA}
theorem pe_m0 {pl : Sem Bool} (he : PE X o ta) (c : Cls X.K C) (hm : Meth X.K C m f) (F : FnOk X.prog X.w X.K X.mg X.base CX k f fd ps sp) (hr : Room k X.A) (hb : CallB X.K fd ps n [] idx dvs) (hx : ∀ σ, PassesAt CX X σ (E σ))
    (ht : eval (.Call (.Attribute o m apos) [] [] pos) X.env = (do
      let ov ← eval o X.env
      standAt apos.atName
      let (f, first) ← holding [ov] (getMethod ov m pl)
      callWith pos f first (backTo pos (starEach [] X.env)) (backToKw pos (keywordEach [] X.env))) := by rfl) :
    PE X (.Call (.Attribute o m apos) [] [] pos) (tMethG C m n 0 idx dvs sp E ta tNil tNil) := by
  refine ⟨fun pins s σ H Q I h => ?_⟩
  refine PySem.W.methodCall_KW (pl := pl) (thn (he.run pins s σ H _ I h) fun u s1 ⟨x, H1, I1, rx, a, dx, fs, ex, ea, l, q⟩ => ?_) ht
  subst ex
  obtain rfl : u = Value.ref a := rx
  refine getmeth_ok I1 ea c hm l ?_
  obtain ⟨l1, l2, q⟩ := q
  exact PySem.W.callWith_K0 (first := [.ref a]) I1.kIn hm.kp (run_fnG (us := [.ref a]) (vs := [.ref a]) (ks := []) (ws := []) (zs := []) F hr hb (hx σ) I1 (.cons rfl .nil) .nil l1 rfl q)
def tMakeG (C : Addr) (n r : Nat) (idx : List Nat) (dvs : List V) (sp : Sp) (E : L2.St → XK) (t tk : TA) : TE := fun σ H Q => t σ H fun vs H1 => tk σ H1 fun zs H2 => vs.length + 1 = n ∧ zs.length = r ∧ ∀ x dx, H2 x = none → H2 dx = none → dx ≠ x →
  sp (pickL idx ((.ref x :: vs) ++ zs ++ dvs)) (upd (upd H2 dx (.own x)) x (.ins C dx [])) (fun v H3 => v = .non ∧ Q (.ref x) H3) (E σ)
theorem run_makeG {pins : List (Addr × Obj)} {σ : L2.St} {H : Hp} {s : Shared} {Q : VK} {us ws : List Value} {vs zs : List V} (M : Mk X.K C f) (F : FnOk X.prog X.w X.K X.mg X.base CX k f fd ps sp) (hr : Room (k + 1) X.A) (hb : CallB X.K fd ps n ks idx dvs)
    (hx : PassesAt CX X σ (E σ)) (I : Inv X pins σ H s) (r : Vals vs us) (rz : Vals zs ws) (l1 : vs.length + 1 = n) (l2 : zs.length = ks.length)
    (h : ∀ x dx, H x = none → H dx = none → dx ≠ x → sp (pickL idx ((.ref x :: vs) ++ zs ++ dvs)) (upd (upd H dx (.own x)) x (.ins C dx [])) (fun v H2 => v = .non ∧ Q (.ref x) H2) (E σ)) :
    wpAny (model X.prog X.w) X.A (call (.ref C) us (ks.zip ws)) (EP X pins σ Q) X.xe s := by
  have hq := h (s.heap.objs.size + 1) s.heap.objs.size (I.hok.fresh (Nat.le_succ _)) (I.hok.fresh (Nat.le_refl _)) (Nat.ne_of_lt (Nat.lt_succ_self _))
  have I2 := Inv.made (C := C) I
  obtain ⟨its, rd, hb⟩ := hb.ex
  have r1 : Vals (V.ref (s.heap.objs.size + 1) :: vs) (Value.ref (s.heap.objs.size + 1) :: us) := .cons rfl r
  have l3 : (Value.ref (s.heap.objs.size + 1) :: us).length = n := by rw [← r1.length]; exact l1
  refine wpAny_call (make_map (f := f) I.kIn M.makes M.init (beq_iff_eq.mp M.fn) (codeAny_mono (F.run _ X.stack _ _ ⟨Value.ref (s.heap.objs.size + 1) :: us, ks.zip ws⟩ (pickL idx ((Value.ref (s.heap.objs.size + 1) :: us) ++ ws ++ its)) _ _ (E σ) (hr.make C us (ks.zip ws))
    (I2.env0.make C us (ks.zip ws)) (hb _ (Value.ref (s.heap.objs.size + 1) :: us) ws I2.kIn l3 (rz.length.symm.trans l2)) (vals_pick ((r1.append rz).append rd) idx) hq) fun r s' hq' => ?_))
  cases r with
  | error e => exact hx pins _ _ e s' I2 hq'
  | ok fl =>
    cases fl with
    | ret u =>
      obtain ⟨v, H', I3, rv, ev, q3⟩ := I2.after hq'
      subst ev
      exact ⟨rv, ⟨V.ref (s.heap.objs.size + 1), H', I3, rfl, q3⟩⟩
    | next => exact False.elim hq'
    | brk => exact False.elim hq'
    | cont => exact False.elim hq'
theorem pe_kN (M : Mk X.K C f) (F : FnOk X.prog X.w X.K X.mg X.base CX k f fd ps sp) (hr : Room (k + 1) X.A) (hg : Gl X x) (hm : X.mg x = some (.ref C)) (hb : CallB X.K fd ps n [] idx dvs) (hx : ∀ σ, PassesAt CX X σ (E σ))
    (ha : PA X (e :: es) t) (hdb : (x == ("__debug__" : Str)) = false := by decide) (he : starEach (e :: es) X.env = (false, eval e X.env) :: starEach es X.env := by rfl) (hpl : (backTo pos (starEach es X.env)).any (·.1) = false := by rfl) :
    PE X (.Call (.Name x p) (e :: es) [] pos) (tMakeG C n 0 idx dvs sp E t tNil) := by
  refine ⟨fun pins s σ H Q I h => ?_⟩
  refine wpAny_Call_Name_kw (ld_glob I hg hm ?_ hdb)
  refine PySem.W.callWith_K (h₀ := X.base) I.ok.mod.kin M.kp (thn (ha.run pos pins s σ H _ I h) fun us s1 ⟨vs, H1, I1, r, l1, l2, q⟩ => ⟨I1.kIn, ?_⟩) he hpl
  exact run_makeG (ks := []) (ws := []) (zs := []) M F hr hb (hx σ) I1 r .nil l1 rfl q
theorem PE.or {X : Cx} {e : Expr} {t u : TE} (h : PE X e t) (h' : PE X e u) : PE X e (fun σ H Q => t σ H Q ∨ u σ H Q) :=
  ⟨fun pins s σ H Q I z => z.elim (fun z => h.run pins s σ H Q I z) (fun z => h'.run pins s σ H Q I z)⟩
end
section
variable {G : Gm} {W : WX}
def dMeth (c : Nat) (F : List D → Sto → ER) (n r : Nat) (idx : List Nat) (dd : List D) (fo : En → ER) (fa fk : En → AR) : En → ER := fun E => (fo E).bind fun x st => match x with
  | .ptr p => (match stIns st p with
    | some (c', _) => if c' = c then (match fa ⟨E.e, st⟩ with
      | .ok true l st1 => (match fk ⟨E.e, st1⟩ with
        | .ok true z st2 => if l.length + 1 = n ∧ z.length = r then F (pickL idx ((.ptr p :: l) ++ z ++ dd)) st2 else .bad
        | .exc c l st => .exc c l st
        | _ => .bad)
      | .exc c l st => .exc c l st
      | _ => .bad) else .bad
    | none => .bad)
  | _ => .bad
theorem v_meth {c n r : Nat} {m : Str} {F : List D → Sto → ER} {idx : List Nat} {dd : List D} {to : TE} {ta tk : TA} {fo : En → ER} {fa fk : En → AR} (hm : m ∉ G.fn c) (hd : dd.all flat = true) (ho : DEv G W to fo) (ha : DAr G W ta fa) (hk : DAr G W tk fk) : DEv G W (tMethG (G.ca c) m n r idx (dd.map toV) (spF G F) (WE W) to ta tk) (dMeth c F n r idx dd fo fa fk) := by
  intro s t σ e st E k Q post
  refine ho s t σ e st E k _ (RPost.bind post fun mo d st1 t1 v g1 k1 o1 p1 => ?_)
  cases d <;> first | exact p1.elim | skip
  rename_i p
  obtain ⟨a, rfl, hp⟩ := o1.u.ptr
  cases hi : stIns st1 p with
  | none => simp only [hi] at p1; exact p1.elim
  | some cl =>
    obtain ⟨c', l0⟩ := cl
    simp only [hi] at p1
    obtain ⟨hc, p2⟩ := RPost.cond _ _ p1
    clear p1
    have p1 := p2
    clear p2
    subst hc
    obtain ⟨dx, fs, hh, hl, il⟩ := k1.ins hp hi
    refine ⟨a, dx, _, rfl, hh, zip_no fs hm, ha s t1 σ e st1 (E.up g1) k1 _ ?_⟩
    cases q : fa ⟨e, st1⟩ with
    | ok b l st2 =>
      rw [q] at p1
      cases b with
      | false => exact p1.elim
      | true =>
        have p1 : RPost G W t1 σ Q (match fk ⟨e, st2⟩ with
          | .ok true z st2 => if l.length + 1 = n ∧ z.length = r then F (pickL idx ((.ptr p :: l) ++ z ++ dd)) st2 else .bad
          | .exc c l st => .exc c l st
          | _ => .bad) := p1
        intro t2 vs g2 k2 i2 u2
        have i2 := i2 rfl
        refine hk s t2 σ e st2 ((E.up g1).up g2) k2 _ ?_
        cases q2 : fk ⟨e, st2⟩ with
        | ok b2 z st3 =>
          rw [q2] at p1
          cases b2 with
          | false => exact p1.elim
          | true =>
            obtain ⟨hc, p1⟩ := RPost.cond (l.length + 1 = n ∧ z.length = r) (F (pickL idx ((.ptr p :: l) ++ z ++ dd)) st3) p1
            intro t3 zs g3 k3 i3 u3
            have i3 := i3 rfl
            have ip : IsL G t3.as t3.f (.ref a :: vs) (.ptr p :: l) := .cons (.ptr (g3.a _ _ (g2.a _ _ hp))) (i2.up g3.a g3.f)
            exact ⟨by rw [← hc.1]; simp [u2.len], by rw [u3.len]; exact hc.2, t3, _, st3, rfl, k3, isL_pick ((ip.append i3).append (isL_toV hd)) idx, (RPost.step (g2.trans g3) k3 p1).w (fun c x H' h => h)⟩
        | exc c l st3 => rw [q2] at p1; exact fun t' x g' => p1 t' x (g2.trans g')
        | bad => rw [q2] at p1; exact p1
    | exc c l st2 => rw [q] at p1; exact p1
    | bad => rw [q] at p1; exact p1
def isC (c : Nat) (fo : En → ER) (E : En) : Bool := match fo E with
  | .val _ (.ptr n) st => (match stIns st n with | some (c', _) => c' == c | none => false)
  | _ => false
def dAlt (p : En → Bool) (f g : En → ER) : En → ER := fun E => if p E = true then f E else g E
def dMake (c : Nat) (F : List D → Sto → ER) (n r : Nat) (idx : List Nat) (dd : List D) (fa fk : En → AR) : En → ER := fun E => match fa E with
  | .ok true l st => (match fk ⟨E.e, st⟩ with
    | .ok true z st1 => if l.length + 1 = n ∧ z.length = r then (match F (pickL idx ((.ptr st1.length :: l) ++ z ++ dd)) (st1 ++ [.ins c []]) with
      | .val _ .non st2 => .val .P (.ptr st1.length) st2
      | .exc c l st => .exc c l st
      | _ => .bad) else .bad
    | .exc c l st => .exc c l st
    | _ => .bad)
  | .exc c l st => .exc c l st
  | _ => .bad
theorem v_make {c n r : Nat} {F : List D → Sto → ER} {idx : List Nat} {dd : List D} {ta tk : TA} {fa fk : En → AR} (hd : dd.all flat = true) (ha : DAr G W ta fa) (hk : DAr G W tk fk) : DEv G W (tMakeG (G.ca c) n r idx (dd.map toV) (spF G F) (WE W) ta tk) (dMake c F n r idx dd fa fk) := by
  intro s t σ e st E k Q post
  unfold dMake at post
  refine ha s t σ e st E k _ ?_
  cases q : fa ⟨e, st⟩ with
  | ok b l st2 =>
    rw [q] at post
    cases b with
    | false => exact post.elim
    | true =>
      have post : RPost G W t σ Q (match fk ⟨e, st2⟩ with
        | .ok true z st1 => if l.length + 1 = n ∧ z.length = r then (match F (pickL idx ((.ptr st1.length :: l) ++ z ++ dd)) (st1 ++ [.ins c []]) with
          | .val _ .non st2 => .val .P (.ptr st1.length) st2
          | .exc c l st => .exc c l st
          | _ => .bad) else .bad
        | .exc c l st => .exc c l st
        | _ => .bad) := post
      intro t2 vs g2 k2 i2 u2
      have i2 := i2 rfl
      refine hk s t2 σ e st2 (E.up g2) k2 _ ?_
      cases q2 : fk ⟨e, st2⟩ with
      | ok b2 z st3 =>
        rw [q2] at post
        cases b2 with
        | false => exact post.elim
        | true =>
          obtain ⟨hc, post⟩ := RPost.cond (l.length + 1 = n ∧ z.length = r) _ post
          intro t3 zs g3 k3 i3 u3
          have i3 := i3 rfl
          refine ⟨by rw [u2.len]; exact hc.1, by rw [u3.len]; exact hc.2, fun x dx hx hdx hne => ?_⟩
          have g4 := Gro.loose (o := .own x) k3 hdx
          have k4 := k3.loose (o := .own x) hdx
          have hx4 : upd t3.h dx (.own x) x = none := by rw [upd_ne (fun z => hne z.symm)]; exact hx
          have g5 := Gro.loose (o := .ins (G.ca c) dx []) k4 hx4
          have k5 := k4.loose (o := .ins (G.ca c) dx []) hx4
          have hf5 : t3.f x = none := k3.sf.free hx
          have hx0 : t.h x = none := by
            cases qx : t.h x with
            | none => rfl
            | some o =>
              by_cases i : x ∈ t.as
              · exact absurd ((g2.trans g3).a.mem i) (k3.new hx)
              · rw [(g2.trans g3).h x o qx i] at hx; cases hx
          have g6 := ((g2.trans g3).trans (g4.trans g5)).put k5 hx0 hf5
          have k6 : StOk G ⟨t3.as ++ [x], t3.f, upd (upd t3.h dx (.own x)) x (.ins (G.ca c) dx [])⟩ (st3 ++ [.ins c []]) :=
            k5.put (o := .ins c []) hf5 (k3.new hx) ⟨dx, [], by show upd _ x _ x = _; rw [upd_same, List.zip_nil_right], Nat.zero_le _, .nil⟩
          have hpx : (t3.as ++ [x])[st3.length]? = some x := by
            rw [← k3.len, List.getElem?_append_right (Nat.le_refl _)]; simp
          have ip : IsL G (t3.as ++ [x]) t3.f (.ref x :: vs) (.ptr st3.length :: l) := .cons (.ptr hpx) ((i2.up g3.a g3.f).up (Ext.app _ _) (Same.refl _))
          refine ⟨⟨t3.as ++ [x], t3.f, upd (upd t3.h dx (.own x)) x (.ins (G.ca c) dx [])⟩, _, st3 ++ [.ins c []], rfl, k6, isL_pick ((ip.append (i3.up (Ext.app _ _) (Same.refl _))).append (isL_toV hd)) idx, ?_⟩
          cases q3 : F (pickL idx ((.ptr st3.length :: l) ++ z ++ dd)) (st3 ++ [.ins c []]) with
          | val m d st4 =>
            rw [q3] at post
            cases d <;> first | exact post.elim | skip
            intro t7 v g7 k7 o7
            obtain rfl := o7.u.non
            exact ⟨rfl, post t7 _ (g6.trans g7) k7 (.ptr (g7.a _ _ hpx))⟩
          | exc c l st4 =>
            rw [q3] at post
            exact fun t7 x7 g7 k7 o7 => post t7 x7 (g6.trans g7) k7 o7
          | bad => rw [q3] at post; exact post.elim
      | exc c l st3 => rw [q2] at post; exact fun t' x g' => post t' x (g2.trans g')
      | bad => rw [q2] at post; exact post
  | exc c l st1 => rw [q] at post; exact post
  | bad => rw [q] at post; exact post
end
end Dn
namespace Dn
open PySem PySem.Spec PyProof.Rows L2
section
variable {G : Gm} {W : WX}
def ItOkE (G : Gm) (s : Hs) (σ : L2.St) (e : DE) (vs : List Nat) (t1 : Hs) (J : It) (l : List D) : Prop := ∀ (i : Nat) (t : Hs) (st : Sto), Up t1 t → EnvOk G s t (L2.wipe σ vs) (wipeE e vs) → StOk G t st → (l.length ≤ i → J.stop i t.h) ∧
  ∀ d, l[i]? = some d → J.go i t.h ∧ ∀ x H', J.yld i t.h x H' → ∃ t', t'.h = H' ∧ Gro t t' ∧ StOk G t' st ∧ Is G t'.as t'.f x d
def IPostE (G : Gm) (W : WX) (s : Hs) (e : DE) (vs : List Nat) (t : Hs) (σ : L2.St) (R : It → Hp → Prop) : AR → Prop
  | .ok _ l st => ∀ t' J, Gro t t' → StOk G t' st → ItOkE G s σ e vs t' J l → R J t'.h
  | .exc c l st => ∀ t' x, Gro t t' → StOk G t' st → ExcOk G t' c l x → W (.ref (G.ca c)) x σ t'.h
  | .bad => False
def DItE (G : Gm) (W : WX) (vs : List Nat) (wi : TI) (f : En → AR) : Prop := ∀ s t σ e st, EnvOk G s t σ e → StOk G t st → ∀ R : It → Hp → Prop, IPostE G W s e vs t σ R (f ⟨e, st⟩) → wi σ t.h R
theorem DIt.e {vs : List Nat} {wi : TI} {f : En → AR} (h : DIt G W wi f) : DItE G W vs wi f := by
  intro s t σ e st E k R post
  refine h s t σ e st E k R ?_
  cases q : f ⟨e, st⟩ with
  | ok p l st1 => rw [q] at post; exact fun t' J g k' it => post t' J g k' fun i t2 st2 u _ k2 => it i t2 st2 u k2
  | exc c l st1 => rw [q] at post; exact post
  | bad => rw [q] at post; exact post
def dIterV (i : Nat) : En → AR := fun E => match E.e[i]? with
  | some (.own l) => .ok false l E.st
  | _ => dIter (dVar i) E
end
end Dn
namespace Dn
open PySem PySem.Spec PyProof.Rows L2
section
variable {G : Gm} {W : WX}
def boolsOf : List D → Option (List Bool)
  | [] => some []
  | .bl i :: l => (boolsOf l).map (i :: ·)
  | _ => none
theorem boolsOf_V {as : List Addr} {H : Hp} : ∀ {l : List D} {vs : List V} {ns : List Bool}, boolsOf l = some ns → IsL G as H vs l → vs = ns.map V.bl
  | [], _, _, h, i => by cases i; cases h; rfl
  | d :: l, _, ns, h, i => by
    cases i with
    | cons a b =>
      cases d <;> first | (cases h; done) | skip
      rename_i i
      have h' : (boolsOf l).map (i :: ·) = some ns := h
      cases q : boolsOf l with
      | none => rw [q] at h'; cases h'
      | some ms =>
        rw [q] at h'; cases h'
        cases a
        rw [boolsOf_V q b]; rfl
def oAll : List D → Sto → ER
  | [.lst l], st => ofOpt (boolsOf l) fun ns => .val .P (.bl (ns.all id)) st
  | _, _ => .bad
def oAny : List D → Sto → ER
  | [.lst l], st => ofOpt (boolsOf l) fun ns => .val .P (.bl (ns.any id)) st
  | _, _ => .bad
theorem c_all : DCal G (rAll G.K) oAll := by
  refine DCal.one1 (fun _ => rfl) (fun a b l _ => by cases a <;> rfl) fun W σ s st v d k hv Q post => ?_
  cases d <;> try exact post.elim
  rename_i l
  obtain ⟨p, vs, rfl, hp, hl⟩ := hv.lst k.sf
  obtain ⟨ns, h, post⟩ := RPost.opt (boolsOf l) (fun ns => .val .P (.bl (ns.all id)) st) post
  have := boolsOf_V h hl
  subst this
  exact ⟨p, ns, rfl, SqL.of hp, post.now k (.bl _)⟩
def oRev : D → Sto → ER
  | .lst l, st => .val .N (.lst l.reverse) st
  | .ptr n, st => ofOpt (stLst st n) fun l => .val .N (.lst l.reverse) st
  | _, _ => .bad
def dRev (f : En → ER) : En → ER := fun E => (f E).bind oRev
def mClear (l ds : List D) : Option (D × List D) := match ds with
  | [] => some (.non, [])
  | _ => none
def dMtX (op : List D → List D → Option (D × List D)) (fb : En → ER) (fa : En → AR) : En → ER := fun E => match fb E with
  | .val .N (.lst l) st => (match fa ⟨E.e, st⟩ with
    | .ok true ds st1 => (match op l ds with | some o => .val .P o.1 st1 | none => .bad)
    | .exc c l st => .exc c l st
    | _ => .bad)
  | _ => dMtP op fb fa E
theorem v_mtX {r : V → List V → Hp → VK → Prop} {op : List D → List D → Option (D × List D)} {tb : TE} {ta : TA} {fb : En → ER} {fa : En → AR} (hm : DMt G r op) (hb : DEv G W tb fb) (ha : DAr G W ta fa) : DEv G W (tBM G.K "list" r tb ta) (dMtX op fb fa) := by
  intro s t σ e st E k Q post
  unfold dMtX at post
  split at post
  · rename_i l st1 q
    refine hb s t σ e st E k _ ?_
    rw [q]
    intro t1 v g1 k1 o1
    obtain ⟨p, vs, l', rfl, e', c, il, na, n0, nf⟩ := o1
    cases e'
    refine ⟨.inl ⟨rfl, vs, SqL.of c⟩, ha s t1 σ e st1 (E.up g1) k1 _ ?_⟩
    cases q2 : fa ⟨e, st1⟩ with
    | ok b ds st2 =>
      rw [q2] at post
      cases b with
      | false => exact post.elim
      | true =>
        intro t2 xs g2 k2 i2 _
        cases ho : op l ds with
        | none => simp only [ho] at post; exact post.elim
        | some o =>
          simp only [ho] at post
          have hp' : t2.h p = some (.lst vs) := g2.h _ _ c na
          have hf' : t2.f p = none := g2.n _ _ c nf
          have ha' : p ∉ t2.as := fun m => (g2.w p m).elim na fun z => by rw [c] at z; cases z
          obtain ⟨v, vs', h1, h2, h3⟩ := hm t2 p vs l xs ds o hp' (il.up g2.a g2.f) (i2 rfl) ho k2.sf
          exact h3 _ (post ⟨t2.as, t2.f, upd t2.h p (.lst vs')⟩ v ((g1.trans g2).chg n0 hf') (k2.chg hf' ha') h1)
    | exc c l st2 => rw [q2] at post; exact fun t' x g' => post t' x (g1.trans g')
    | bad => rw [q2] at post; exact post
  · exact v_mtP hm hb ha s t σ e st E k Q post
end
end Dn
namespace Dn
open PySem PySem.Spec PyProof.Rows L2
theorem unit65 {k : Nat} {A : Around} (r : Room k A) : A.units + 65 < cLine := by have := r.un; omega
section
variable {G : Gm} {W : WX}
def inL (d : D) (l : List D) : Option Bool := if isPy d = true ∧ isPyL l = true ∧ SeqAt.shaped (py d) = true ∧ SeqAt.shaped (.list (pyL l)) = true then some ((pyL l).any fun z => PyData.eqv z (py d)) else none
def oIn (a b : D) (st : Sto) : ER := match b with
  | .lst l => ofOpt (inL a l) fun r => .val .P (.bl r) st
  | .ptr n => ofOpt (stLst st n) fun l => ofOpt (inL a l) fun r => .val .P (.bl r) st
  | .str z => (match a with
    | .str x => (match x.cps.toList with | [c] => .val .P (.bl (decide (c ∈ z.cps.toList))) st | _ => .bad)
    | _ => .bad)
  | _ => .bad
def oNotIn (a b : D) (st : Sto) : ER := match b with
  | .lst l => ofOpt (inL a l) fun r => .val .P (.bl (!r)) st
  | .ptr n => ofOpt (stLst st n) fun l => ofOpt (inL a l) fun r => .val .P (.bl (!r)) st
  | .str z => (match a with
    | .str x => (match x.cps.toList with | [c] => .val .P (.bl (!decide (c ∈ z.cps.toList))) st | _ => .bad)
    | _ => .bad)
  | _ => .bad
abbrev rInA (K : PySem.W.Frag) : R2 := rOr (rInD K) rInS
abbrev rNotInA (K : PySem.W.Frag) : R2 := rOr (rNotInD K) rNotInS
theorem or_in {X : Cx} (hu : X.A.units + 65 < cLine) : OpR X (compareOp .In) (rInA X.K) := opOr (op_inD hu) op_inS
theorem or_notin {X : Cx} (hu : X.A.units + 65 < cLine) : OpR X (compareOp .NotIn) (rNotInA X.K) := opOr (op_notInD hu) op_notInS
theorem one_sign {x : Str} {c : Nat} (h : x.cps.toList = [c]) : x = ⟨#[c]⟩ := by
  cases x with | mk a =>
  have h' : a.toList = [c] := h
  have : a = #[c] := by apply Array.ext'; simpa using h'
  rw [this]
theorem inL_dp {s : Hs} {v w : V} {d : D} {l : List D} {r : Bool} (sm : Same s.f s.h) (hv : U G s v d) (p : Addr) (vs : List V) (hp : s.h p = some (.lst vs)) (hl : IsL G s.as s.f vs l) (h : inL d l = some r) : Dp G.K s.h v (py d) ∧ Dp G.K s.h (.ref p) (.list (pyL l)) ∧ SeqAt.shaped (py d) = true ∧ SeqAt.shaped (.list (pyL l)) = true ∧ r = (pyL l).any fun z => PyData.eqv z (py d) := by
  unfold inL at h
  split at h
  · rename_i c
    exact ⟨dp_u sm c.1 hv, .lst (SqL.of hp) (dpL_of sm l c.2.1 hl), c.2.2.1, c.2.2.2, (Option.some.inj h).symm⟩
  · cases h
theorem d_in : DOp G (rInA G.K) oIn := by
  intro W σ s st v w d d' k hv hw Q post
  cases d' <;> try exact post.elim
  case lst l =>
    obtain ⟨r, hr, post⟩ := RPost.opt (inL d l) (fun r => .val .P (.bl r) st) post
    obtain ⟨p, vs, rfl, hp, hl⟩ := hw.lst k.sf
    obtain ⟨a, b, c, e, f⟩ := inL_dp (w := .non) k.sf hv p vs hp hl hr
    exact .inl ⟨_, _, a, b, c, e, by rw [← f]; exact post.now k (.bl _)⟩
  case ptr n =>
    obtain ⟨l, hl, post⟩ := RPost.opt (stLst st n) (fun l => ofOpt (inL d l) fun r => .val .P (.bl r) st) post
    obtain ⟨r, hr, post⟩ := RPost.opt (inL d l) (fun r => .val .P (.bl r) st) post
    obtain ⟨p, rfl, hp⟩ := hw.ptr
    obtain ⟨vs, hh, il⟩ := k.lst hp hl
    obtain ⟨a, b, c, e, f⟩ := inL_dp (w := .non) k.sf hv p vs hh il hr
    exact .inl ⟨_, _, a, b, c, e, by rw [← f]; exact post.now k (.bl _)⟩
  case str z =>
    cases d <;> try exact post.elim
    rename_i x
    obtain rfl := hv.str; obtain rfl := hw.str
    cases q : x.cps.toList with
    | nil => simp only [oIn, q] at post; exact post.elim
    | cons c l =>
      cases l with
      | nil =>
        simp only [oIn, q] at post
        have := one_sign q
        subst this
        exact .inr ⟨c, z, rfl, rfl, RPost.now k post (.bl _)⟩
      | cons b l => simp only [oIn, q] at post; exact post.elim
theorem d_notin : DOp G (rNotInA G.K) oNotIn := by
  intro W σ s st v w d d' k hv hw Q post
  cases d' <;> try exact post.elim
  case lst l =>
    obtain ⟨r, hr, post⟩ := RPost.opt (inL d l) (fun r => .val .P (.bl (!r)) st) post
    obtain ⟨p, vs, rfl, hp, hl⟩ := hw.lst k.sf
    obtain ⟨a, b, c, e, f⟩ := inL_dp (w := .non) k.sf hv p vs hp hl hr
    exact .inl ⟨_, _, a, b, c, e, by rw [← f]; exact post.now k (.bl _)⟩
  case ptr n =>
    obtain ⟨l, hl, post⟩ := RPost.opt (stLst st n) (fun l => ofOpt (inL d l) fun r => .val .P (.bl (!r)) st) post
    obtain ⟨r, hr, post⟩ := RPost.opt (inL d l) (fun r => .val .P (.bl (!r)) st) post
    obtain ⟨p, rfl, hp⟩ := hw.ptr
    obtain ⟨vs, hh, il⟩ := k.lst hp hl
    obtain ⟨a, b, c, e, f⟩ := inL_dp (w := .non) k.sf hv p vs hh il hr
    exact .inl ⟨_, _, a, b, c, e, by rw [← f]; exact post.now k (.bl _)⟩
  case str z =>
    cases d <;> try exact post.elim
    rename_i x
    obtain rfl := hv.str; obtain rfl := hw.str
    cases q : x.cps.toList with
    | nil => simp only [oNotIn, q] at post; exact post.elim
    | cons c l =>
      cases l with
      | nil =>
        simp only [oNotIn, q] at post
        have := one_sign q
        subst this
        exact .inr ⟨c, z, rfl, rfl, RPost.now k post (.bl _)⟩
      | cons b l => simp only [oNotIn, q] at post; exact post.elim
end
end Dn
namespace Dn
open PySem PySem.Spec PyProof.Rows L2
section
variable {G : Gm} {W : WX}
def srt (ns : List Int) : List Int := ns.mergeSort (fun a b => decide (a ≤ b))
theorem srt_perm (ns : List Int) : (srt ns).Perm ns := List.mergeSort_perm _ _
theorem srt_pw (ns : List Int) : (srt ns).Pairwise (· ≤ ·) := by
  have := List.pairwise_mergeSort (le := fun a b : Int => decide (a ≤ b)) (by intro a b c; simp; omega) (by intro a b; simp; omega) ns
  simpa [srt] using this
theorem srt_is {ns ms : List Int} (h : ms.Perm ns) (p : ms.Pairwise (· ≤ ·)) : ms = srt ns :=
  List.Perm.eq_of_pairwise (le := (· ≤ ·)) (fun a b _ _ h1 h2 => Int.le_antisymm h1 h2) p (srt_pw ns) (h.trans (srt_perm ns).symm)
def oSorted : List D → Sto → ER
  | [.lst l], st => ofOpt (intsOf l) fun ns => if ns.length < 64 then .val .N (.lst ((srt ns).map .int)) st else .bad
  | _, _ => .bad
def dLr (f : En → ER) : En → ER := fun E => match f E with
  | .val _ (.int n) st => if -4611686018427387904 ≤ n ∧ n ≤ 1000000 then .val .N (.lst (rangeD 0 n.toNat)) st else .bad
  | .exc c l st => .exc c l st
  | _ => .bad
end
end Dn
namespace Dn
open PySem PySem.Spec PyProof.Rows L2 LamX
structure Alike (G G' : Gm) : Prop where
  K : G'.K = G.K
  ca : G'.ca = G.ca
  fn : G'.fn = G.fn
  tb : G'.tb = G.tb
  ed : G'.ed = G.ed
  en : G'.en = G.en
  el : G'.el = G.el
theorem Alike.symm {G G' : Gm} (a : Alike G G') : Alike G' G := ⟨a.K.symm, a.ca.symm, a.fn.symm, a.tb.symm, a.ed.symm, a.en.symm, a.el.symm⟩
mutual
theorem Is.sw {G G' : Gm} (a : Alike G G') {as : List Addr} {H : Hp} : ∀ (d : D) {v : V}, Is G as H v d → Is G' as H v d
  | .non, _, h => by cases h; exact .non
  | .bl _, _, h => by cases h; exact .bl _
  | .int _, _, h => by cases h; exact .int _
  | .str _, _, h => by cases h; exact .str _
  | .tup ds, _, h => by cases h with | tup p b => exact .tup (by rw [a.K]; exact p) (IsL.sw a ds b)
  | .lst ds, _, h => by cases h with | lst p b => exact .lst p (IsL.sw a ds b)
  | .scr l, _, h => by cases h with | scr p => exact .scr (by rw [a.K]; exact p)
  | .ptr n, _, h => by cases h with | ptr p => exact .ptr p
  | .obj c ds, _, h => by cases h with | obj p l b => exact .obj (by rw [a.ca, a.fn]; exact p) (by rw [a.fn]; exact l) (IsL.sw a ds b)
theorem IsL.sw {G G' : Gm} (a : Alike G G') {as : List Addr} {H : Hp} : ∀ (ds : List D) {vs : List V}, IsL G as H vs ds → IsL G' as H vs ds
  | [], _, h => by cases h; exact .nil
  | d :: ds, _, h => by cases h with | cons p b => exact .cons (Is.sw a d p) (IsL.sw a ds b)
end
section
variable {G G' : Gm} (a : Alike G G')
include a
theorem ObOk.sw {s : Hs} {x : Addr} {o : Ob} (h : ObOk G s x o) : ObOk G' s x o := by
  cases o with
  | lst l => obtain ⟨vs, h1, h2⟩ := h; exact ⟨vs, h1, IsL.sw a _ h2⟩
  | ins c l => obtain ⟨dx, vs, h1, h2, h3⟩ := h; exact ⟨dx, vs, by rw [a.ca, a.fn]; exact h1, by rw [a.fn]; exact h2, IsL.sw a _ h3⟩
  | tbl q => exact h
  | dct l => obtain ⟨kvs, h1, h2⟩ := h; exact ⟨kvs, h1, by
      clear h1
      induction h2 with
      | nil => exact .nil
      | cons p q ih => exact .cons (Is.sw a _ p) ih⟩
theorem StOk.sw {s : Hs} {st : Sto} (k : StOk G s st) : StOk G' s st := ⟨k.sf, k.len, k.nd, fun n x o h1 h2 => ObOk.sw a (k.ob n x o h1 h2), k.nf, by rw [a.tb]; exact k.tb, fun da h => by
  rw [a.ed] at h
  obtain ⟨xs, h1, h2, h3⟩ := k.ex da h
  rw [a.en, a.el]
  exact ⟨xs, h1, h2, IsL.sw a _ h3⟩⟩
theorem VOk.sw {s t : Hs} {m : Md} {v : V} {d : D} (h : VOk G s t m v d) : VOk G' s t m v d := by
  cases m with
  | P => exact Is.sw a _ h
  | B => obtain ⟨p, vs, l, x, b, c, e, f⟩ := h; exact ⟨p, vs, l, x, b, c, IsL.sw a _ e, f⟩
  | N => obtain ⟨p, vs, l, x, b, c, e, f, n, z⟩ := h; exact ⟨p, vs, l, x, b, c, IsL.sw a _ e, f, n, z⟩
theorem RPost.sw {s : Hs} {σ σ' : L2.St} {Q : VK} {r : ER} (h : RPost G' W0 s σ Q r) : RPost G W0 s σ' Q r := by
  cases r with
  | val m d st => exact fun t v g k o => h t v g (StOk.sw a k) (VOk.sw a o)
  | exc c l st =>
    intro t x g k o
    refine h t x g (StOk.sw a k) ?_
    rcases o with o | ⟨da, xs, o1, o2, o3, o4, o5⟩
    · exact .inl o
    · exact .inr ⟨da, xs, o1, o2, by rw [a.fn]; exact o3, by rw [a.fn]; exact o4, IsL.sw a _ o5⟩
  | bad => exact h
end
def Gm.lam (G : Gm) (f : Addr) (σ : L2.St) (c : Addr) (q : Str) : Gm := { G with ea := f, cl := σ, cc := c, cq := q }
theorem lam_alike (G : Gm) (f : Addr) (σ : L2.St) (c : Addr) (q : Str) : Alike G (G.lam f σ c q) := ⟨rfl, rfl, rfl, rfl, rfl, rfl, rfl⟩
def slO : Option D → SL
  | some d => .val d
  | none => .emp
def cloOf (e : DE) : List (Option D) := e.map fun s => match s with | .val d => some d | _ => none
def cloE (ds : List (Option D)) (ja jb : Nat) (x y : D) : DE := ((ds.map slO).set ja (.val x)).set jb (.val y)
def startL (n : Nat) (d : D) (ds : List (Option D)) : DE := .val d :: .clo ds :: List.replicate (n - 2) .emp
section
variable {G : Gm}
theorem start_lam {N : List Str} {t : Hs} {st : Sto} {v1 : V} {d1 : D} {ds : List (Option D)} {f c : Addr} {σ : L2.St} {q : Str} (hN : 2 ≤ N.length) (k : StOk G t st) (h1 : Is G t.as t.f v1 d1) (hl : σ.length = ds.length) (hc : t.f c = some (CodeO c q))
    (hd : ∀ (i : Nat) (d : D), ds[i]? = some (some d) → ∃ v, σ[i]? = some (some v) ∧ Is G t.as t.f v d) : EnvOk (G.lam f σ c q) t t (L2.start N [v1, .ref f]) (startL N.length d1 ds) := by
  have a := lam_alike G f σ c q
  have noown : ∀ (j : Nat) (m : List D), (startL N.length d1 ds)[j]? ≠ some (.own m) := fun j m z => by
    unfold startL at z
    rcases j with _ | _ | j
    · simp at z
    · simp at z
    · simp only [List.getElem?_cons_succ, List.getElem?_replicate] at z
      split at z <;> cases z
  refine ⟨Gro.refl (StOk.sw a k), by simp [L2.start, startL], fun i o sl p b => ?_, fun i j p l m hij x b => absurd b (noown i l)⟩
  unfold startL at b
  rcases i with _ | _ | i
  · simp [L2.start] at p b
    subst p; subst b
    exact ⟨v1, rfl, Is.sw a _ h1⟩
  · simp [L2.start] at p b
    subst p; subst b
    refine ⟨rfl, hl, hc, fun i d h => ?_⟩
    obtain ⟨v, e1, e2⟩ := hd i d h
    exact ⟨v, e1, Is.sw a _ e2⟩
  · simp only [List.getElem?_cons_succ, List.getElem?_replicate] at b
    split at b
    · cases b; trivial
    · cases b
def dHeld (i : Nat) (h : List (Option D) → D → D → Sto → ER) (fa : En → AR) : En → ER := fun E => match E.e[i]? with
  | some (.clo ds) => (match fa E with
    | .ok true [x, y] st => h ds x y st
    | .exc c l st => .exc c l st
    | _ => .bad)
  | _ => .bad
theorem v_held {i ja jb : Nat} {f c : Addr} {σ : L2.St} {q : Str} {ta : TA} {fa : En → AR} {tb : TE} {fb : En → ER} (ha : DAr (G.lam f σ c q) W0 ta fa) (hb : DEv G W0 tb fb) :
    DEv (G.lam f σ c q) W0 (fun σZ HZ Q => σZ[i]? = some (some (.ref f)) ∧ ta σZ HZ fun vs HZ1 => ∃ va vb, vs = [va, vb] ∧ HZ1 c = some (CodeO c q) ∧ tb ((σ.set ja (some va)).set jb (some vb)) HZ1 Q) (dHeld i (fun ds x y st => fb ⟨cloE ds ja jb x y, st⟩) fa) := by
  intro s t σZ e st E k Q post
  have al := lam_alike G f σ c q
  unfold dHeld at post
  split at post
  · rename_i ds hi
    obtain ⟨o, h1, h2, h3, h4, h5⟩ := E.slot hi
    have h2 : o = some (.ref f) := h2
    subst h2
    refine ⟨h1, ha s t σZ e st E k _ ?_⟩
    cases q2 : fa ⟨e, st⟩ with
    | ok b l st1 =>
      rw [q2] at post
      match b, l, post with
      | true, [x, y], post =>
        intro t1 vs g1 k1 i1 _
        have i1 := i1 rfl
        cases i1 with
        | cons ix i1 =>
          cases i1 with
          | cons iy i1 =>
            cases i1
            refine ⟨_, _, rfl, k1.sf _ _ (g1.f _ _ h4), ?_⟩
            have base : EnvOk G s t1 σ (ds.map slO) := by
              refine ⟨E.gr.trans g1, by rw [List.length_map]; exact h3, fun j o sl p b => ?_, fun j m p l l2 hjm x b => ?_⟩
              · rw [List.getElem?_map] at b
                cases hj : ds[j]? with
                | none => rw [hj] at b; cases b
                | some od =>
                  rw [hj] at b
                  cases od with
                  | none => cases b; trivial
                  | some d =>
                    cases b
                    obtain ⟨v, e1, e2⟩ := h5 j d hj
                    have e1 : σ[j]? = some (some v) := e1
                    rw [p] at e1; cases e1
                    exact ⟨v, rfl, (Is.sw al.symm _ e2).up g1.a g1.f⟩
              · rw [List.getElem?_map] at b
                cases hj : ds[j]? with
                | none => rw [hj] at b; cases b
                | some od => rw [hj] at b; cases od <;> cases b
            have E1 := (base.set (i := ja) (x := .val x) ⟨_, rfl, Is.sw al.symm _ ix⟩ (fun l z => nomatch z)).set (i := jb) (x := .val y) ⟨_, rfl, Is.sw al.symm _ iy⟩ (fun l z => nomatch z)
            exact hb s t1 _ _ st1 E1 (StOk.sw al.symm k1) Q (RPost.sw al (RPost.step g1 k1 post))
      | true, [], post => exact post.elim
      | true, [_], post => exact post.elim
      | true, _ :: _ :: _ :: _, post => exact post.elim
      | false, l, post => exact post.elim
    | exc c l st1 => rw [q2] at post; exact post
    | bad => rw [q2] at post; exact post
  · exact post.elim
def valOnly : ER → ER
  | .val m d st => .val m d st
  | _ => .bad
def dLamC (np : Nat) (q : Str) (N : Nat) (g : En → SR) (f1 : En → ER) : En → ER := fun E => match f1 E with
  | .val .B _ _ => .bad
  | .val _ d1 st => (match st[np]? with
    | some (.tbl q') => if q' = q then valOnly (g ⟨startL N d1 (cloOf E.e), st⟩).ret else .bad
    | _ => .bad)
  | .exc c l st => .exc c l st
  | .bad => .bad
def TTd (G : Gm) (q : Str) (N : Nat) (g : En → SR) : Addr → Addr → L2.St → V → Hp → VK → Prop := fun f c' σ v1 H1 Q => ∃ (t : Hs) (st : Sto) (d1 : D) (ds : List (Option D)), t.h = H1 ∧ StOk G t st ∧ Is G t.as t.f v1 d1 ∧ σ.length = ds.length ∧ t.f c' = some (CodeO c' q) ∧
  (∀ (i : Nat) (d : D), ds[i]? = some (some d) → ∃ v, σ[i]? = some (some v) ∧ Is G t.as t.f v d) ∧ RPost G W0 t σ Q (valOnly (g ⟨startL N d1 ds, st⟩).ret)
theorem upd_comm {H : Hp} {a b : Addr} {x y : HO} (h : a ≠ b) : upd (upd H a x) b y = upd (upd H b y) a x := by
  funext c
  by_cases e1 : c = a
  · subst e1; rw [upd_ne h, upd_same, upd_same]
  · by_cases e2 : c = b
    · subst e2; rw [upd_same, upd_ne e1, upd_same]
    · rw [upd_ne e2, upd_ne e1, upd_ne e1, upd_ne e2]
theorem RPost.val_w {W W' : WX} {s : Hs} {σ σ' : L2.St} {Q : VK} {r : ER} (h : RPost G W s σ Q (valOnly r)) : RPost G W' s σ' Q (valOnly r) := by
  cases r with
  | val m d st => exact h
  | exc c l st => exact h.elim
  | bad => exact h.elim
theorem cloOf_ok {s t : Hs} {σ : L2.St} {e : DE} (E : EnvOk G s t σ e) : σ.length = (cloOf e).length ∧ ∀ (i : Nat) (d : D), (cloOf e)[i]? = some (some d) → ∃ v, σ[i]? = some (some v) ∧ Is G t.as t.f v d := by
  refine ⟨by rw [E.len]; simp [cloOf], fun i d h => ?_⟩
  unfold cloOf at h
  rw [List.getElem?_map] at h
  cases hs : e[i]? with
  | none => rw [hs] at h; cases h
  | some sl =>
    rw [hs] at h
    cases sl <;> cases h
    obtain ⟨o, h1, v, rfl, h2⟩ := E.slot hs
    exact ⟨v, h1, h2⟩
theorem v_lamC {W : WX} {np : Nat} {q : Str} {P : Addr} {N : Nat} {g : En → SR} {t1 : TE} {f1 : En → ER} (hP : G.tb[np]? = some P) (h1 : DEv G W t1 f1) : DEv G W (LamP.tLam3 q P t1 (TTd G q N g)) (dLamC np q N g f1) := by
  intro s t σ e st E k Q post
  refine h1 s t σ e st E k _ ?_
  unfold dLamC at post
  cases q1 : f1 ⟨e, st⟩ with
  | exc c l st1 => rw [q1] at post; exact post
  | bad => rw [q1] at post; exact post
  | val m d1 st1 =>
    rw [q1] at post
    intro ta v1 ga ka oa
    have key : ∀ (tf : Hs), Gro t tf → StOk G tf st1 → Is G tf.as tf.f v1 d1 → tf.h = ta.h → RPost G W t σ Q (match st1[np]? with
        | some (.tbl q') => if q' = q then valOnly (g ⟨startL N d1 (cloOf e), st1⟩).ret else .bad
        | _ => .bad) → ∃ ps : Array Value, ta.h P = some (.tbl ps) ∧ TriplesOk ps.toList ∧ (∀ (pos : Pos) (cv : Value), codeAmong pos ps.toList = some cv → ∃ c, cv = .ref c ∧ ta.h c = some (CodeO c q)) ∧ ∀ f c' H1, LamP.Made q P ps ta.h H1 c' → H1 f = none → TTd G q N g f c' σ v1 H1 Q := by
      intro tf gf kf i1 eh post
      cases hs : st1[np]? with
      | none => simp only [hs] at post; exact post.elim
      | some o =>
        simp only [hs] at post
        cases o with
        | lst l => exact post.elim
        | ins c l => exact post.elim
        | dct l => exact post.elim
        | tbl q' =>
          obtain ⟨hq, post2⟩ := RPost.cond _ _ post
          clear post
          subst hq
          have hPa := kf.tb np P hP
          obtain ⟨ps, p1, p2, p3⟩ := kf.ob np P _ hPa hs
          rw [← eh]
          refine ⟨ps, p1, p2, fun pos cv hc => ?_, fun f c' H1 hm hf => ?_⟩
          · obtain ⟨c, c1, c2⟩ := p3 pos cv hc
            exact ⟨c, c1, kf.sf _ _ c2⟩
          · obtain ⟨cl, cd⟩ := cloOf_ok (E.up gf)
            rcases hm with ⟨ps', rfl, nC, nP, m1, m2⟩ | ⟨rfl, pos, hc⟩
            · have g1 := Gro.new (o := CodeO c' q') kf nC
              have k1 := kf.grow (o := CodeO c' q') nC
              have g2 := Gro.mod (o := .tbl ps') (Gro.refl k1) k1 hPa
              have k2 := StOk.mod (o := .tbl ps') (b := .tbl q') k1 hPa ⟨ps', upd_same, m1, fun pos cv hc => by
                rcases m2 pos cv hc with z | z
                · obtain ⟨c, c1, c2⟩ := p3 pos cv z
                  exact ⟨c, c1, g1.f _ _ c2⟩
                · exact ⟨c', z, upd_same⟩⟩
              have hset : st1.set np (.tbl q') = st1 := by
                apply List.ext_getElem?
                intro j
                by_cases z : np = j
                · subst z
                  rw [List.getElem?_set_self (List.getElem?_eq_some_iff.mp hs).1, hs]
                · rw [List.getElem?_set_ne z]
              rw [hset] at k2
              have g12 := g1.trans g2
              refine ⟨_, st1, d1, cloOf e, upd_comm nP, k2, i1.up g12.a g12.f, cl, upd_same, fun i d h => ?_, RPost.val_w (RPost.step (gf.trans g12) k2 post2)⟩
              obtain ⟨v, a1, a2⟩ := cd i d h
              exact ⟨v, a1, a2.up g12.a g12.f⟩
            · obtain ⟨c, c1, c2⟩ := p3 pos _ hc
              cases c1
              exact ⟨tf, st1, d1, cloOf e, rfl, kf, i1, cl, c2, cd, RPost.val_w (RPost.step gf kf post2)⟩
    cases m with
    | B => exact post.elim
    | P => exact key ta ga ka oa rfl post
    | N =>
      obtain ⟨f2, g2, k2, _, i2⟩ := oa.freeze ga ka (by decide)
      exact key ⟨ta.as, f2, ta.h⟩ g2 k2 i2 rfl post
theorem lam_body {q : Str} {N : List Str} {g : En → SR} {ts : TS} {f c' : Addr} {σ : L2.St} {v1 : V} {H1 : Hp} {Q : VK} {D0 : Ends} (hN : 2 ≤ N.length) (hb : DSt (G.lam f σ c' q) W0 ts g) (hnx : D0.nx = fun _ H => Q .non H) (hrt : D0.rt = Q) (h : TTd G q N.length g f c' σ v1 H1 Q) : ts D0 (L2.start N [v1, .ref f]) H1 := by
  obtain ⟨t, st, d1, ds, rfl, k, i1, hl, hc, hd, post⟩ := h
  have al := lam_alike G f σ c' q
  refine hb t t _ _ st (start_lam hN k i1 hl hc hd) (StOk.sw al k) _ ?_
  cases q2 : g ⟨startL N.length d1 ds, st⟩ with
  | nx e => rw [q2] at post; exact fun t' σ' s' E' k' => by rw [hnx]; exact post t' .non E'.gr (StOk.sw al.symm k') .non
  | rt m d st1 => rw [q2] at post; exact fun t' v s' g' k' o => by rw [hrt]; exact post t' v g' (StOk.sw al.symm k') (VOk.sw al.symm o)
  | bk e => rw [q2] at post; exact post.elim
  | ct e => rw [q2] at post; exact post.elim
  | exc c l e => rw [q2] at post; exact post.elim
  | bad => rw [q2] at post; exact post.elim
end
end Dn
namespace Dn
open PySem PySem.Spec PyProof.Rows L2 LamX
section
variable {G : Gm} {W : WX}
def sBad : En → SR := fun _ => .bad
def dBad : En → ER := fun _ => .bad
end
structure FunC (K : PySem.W.Frag) (x qual : Str) (st : Stmt) (f : Addr) (fd : FuncData) (c : Addr) : Prop where
  ex : ∃ (oc : Value) (od : Option Addr) (kV doc pm : Value) (an : Option Addr) (ct : Value) (osl : Array (Option Value)),
    fd = PySem.W.fnOf x qual (defArgs st) (defBody st) (defScope st) .none kV doc pm an (.ref c) ct ∧ K.lookup f = some ⟨oc, od, .func fd, osl⟩ ∧ PySem.W.codeIn K (.ref c) qual = true
  kp : PySem.W.keepIn K (.ref f) = true
theorem fn_okC {G : Gm} {P : Program} {w : World} {K : PySem.W.Frag} {mg : Str → Option Value} {base : Heap} {x qual : Str} {st : Stmt} {f c : Addr} {fd : FuncData} {N ps : List Str} {k : Nat} {g : En → SR} {n : Nat} (hn : ps.length = n) {m : Nat} (hm : N.length = m)
    (F : FunC K x qual st f fd c) (S : FnScope N ps (defScope st))
    (hbody : ∀ (A : Around) (outer : List Env) (s : Shared) (H : Hp) (E : XK), Room k (A.deeper (envOfC qual (defScope st) s.heap.objs.size f (.ref c))) →
      ∃ t, PSs (cxOf (L2.CX P w) P w K mg base N qual (defScope st) f (.ref c) A outer s H E) (defBody st) t ∧ DSt G (fun c x _ H => E c x H) t g) : FnOk P w K mg base (L2.CX P w) (k + 1) f fd ps (spF G (fnD n m g)) := by
  subst hn hm
  obtain ⟨oc, od, kV, doc, pm, an, ct, osl, rfl, lk, hcd⟩ := F.ex
  refine fn_of lk hcd S (fun vs H Q E h => sp_len h) fun A outer s H vs Q E hr h => ?_
  obtain ⟨t, h1, h2⟩ := hbody A outer s H E hr
  exact ⟨t, h1, body_ok h2 rfl rfl h⟩
theorem lamcallF {X : Cx} {x : Str} {st : Stmt} {fd : FuncData} {g c P : Addr} {k : Nat} {Ng : List Str} {pa pb a b : Str} {e1 : Expr} {t1 : TE} {TT : Addr → Addr → L2.St → V → Hp → VK → Prop}
    {params : Arguments} {body : Expr} {scope : Scope} {p lpos pos : Pos} (hg : Gl X x) (hm : X.mg x = some (.ref g)) (F : Fun X.K x x st g fd) (hb : L2.Binds X.K fd [pa, pb] []) (Sg : FnScope Ng [pa, pb] (defScope st))
    (he1 : PE X e1 t1) (TB : TabB X.base X.mg c P) (hcode : X.env.code = .ref c) (hr : Room (k + 2) X.A) (L : LamP.LamN X.env.scope scope a b) (hdef : defaultsOf params X.env = ([], []))
    (hG : ∀ (cdg : Value) (pins : List (Addr × Obj)) (s' : Shared) (σ : L2.St) (H1 : Hp) (f c' : Addr) (pm ctv : Value) (v1 : V) (Q : VK), Inv X pins σ H1 s' → s'.heap.get? f = some (PySem.W.kla_obj "<lambda>" (X.env.qual ++ "<lambda>") params body scope (cloFrom X.env.cells scope.names []) pm c' ctv) → H1 f = none → f ∉ frs X.stack →
      Room (k + 1) (X.A.deeper (envOfC x (defScope st) s'.heap.objs.size g cdg)) → TT f c' σ v1 H1 Q →
      ∃ t, PSs (cxOf (L2.CX X.prog X.w) X.prog X.w X.K X.mg X.base Ng x (defScope st) g cdg X.A X.stack s' H1 (fun _ _ _ => False)) (defBody st) t ∧ t { nx := fun _ H' => Q .non H', rt := Q } (L2.start Ng [v1, .ref f]) H1)
    (hdb : (x == ("__debug__" : Str)) = false := by decide) (hs1 : starEach [e1, .Lambda params body scope lpos] X.env = (false, eval e1 X.env) :: starEach [.Lambda params body scope lpos] X.env := by rfl) :
    PE X (.Call (.Name x p) [e1, .Lambda params body scope lpos] [] pos) (LamP.tLam3 (X.env.qual ++ "<lambda>") P t1 TT) := by
  obtain ⟨oc, od, kV, doc, pm, an, cdv, ct, osl, rfl, lk, hcd⟩ := F.ex
  exact LamP.lamcall3 hg hm F.kp lk hcd hb Sg he1 TB hcode hr L hdef (hG cdv) hdb hs1
def spLawT (K : PySem.W.Frag) (Ps : List Addr) : Sp := fun vs H Q _ => ∃ (a : Addr) (ns : List Int), vs = [.ref a] ∧ SqL K H a (ns.map V.int) ∧ ns.length ≤ 63 ∧ (∀ z ∈ ns, Builtin.Int.intBits z ≤ 1048576) ∧ (∀ P ∈ Ps, H P = some (.tbl #[])) ∧ ∀ H', Q (.bl true) H'
theorem law_impT {G : Gm} {F : List D → Sto → ER} (qs : List Str) (hq : G.tb.length = qs.length) (hn : G.tb.Nodup) (hF : ∀ ns : List Int, ns.length ≤ 63 → (∀ z ∈ ns, Builtin.Int.intBits z ≤ 1048576) → Yes (F [.scr ns] (qs.map .tbl))) (vs : List V) (H : Hp) (Q : VK) (E : XK) (h : spLawT G.K G.tb vs H Q E) (hE : G.ed = none := by rfl) : spF G F vs H Q E := by
  obtain ⟨a, ns, rfl, hS, h1, h2, hT, k⟩ := h
  obtain ⟨st, hF⟩ := hF ns h1 h2
  let f : Hp := fun x => if x ∈ G.tb then none else H x
  have fo : ∀ x o, f x = some o → H x = some o := fun x o e => by
    have e : (if x ∈ G.tb then none else H x) = some o := e
    split at e
    · cases e
    · exact e
  have hi : ∀ x o, H x = some o → (∀ ps, o ≠ .tbl ps) → f x = some o := fun x o e n => by
    show (if x ∈ G.tb then none else H x) = some o
    split
    · rename_i m
      rw [hT x m] at e; cases e
      exact absurd rfl (n #[])
    · exact e
  have hS' : SqL G.K f a (ns.map V.int) := by
    rcases hS with (h | ⟨o, h⟩) | h
    · exact .inl (.inl (hi _ _ h fun ps z => nomatch z))
    · exact .inl (.inr ⟨o, hi _ _ h fun ps z => nomatch z⟩)
    · exact .inr h
  refine ⟨⟨G.tb, f, H⟩, [.scr ns], qs.map .tbl, rfl, ⟨fo, by simpa using hq, hn, fun n x o h1 h2 => ?_, fun x m => if_pos m, fun n P h => h, fun da h => by rw [hE] at h; cases h⟩, .cons (.scr hS') .nil, ?_⟩
  · rw [List.getElem?_map] at h2
    cases q : qs[n]? with
    | none => rw [q] at h2; cases h2
    | some w =>
      rw [q] at h2; cases h2
      exact ⟨#[], hT x (List.mem_iff_getElem?.mpr ⟨n, h1⟩), True.intro, fun pos cv hc => by cases hc⟩
  · rw [hF]
    intro t v g k' o
    cases o
    exact k t.h
theorem walkT {k : Nat} (hk : Room k callerA) {l : PySem.W.OpenLaw} {q : Program} {loose : List Str} {XP : (Str → Option Value) → Heap → Prop} {YP : World → Heap → Prop} {d : DefRec} {K : Params → PySem.W.Frag} {x : Str} (hn : l.most = some 63) (hdf : d.params.defaults = [])
    (hY : ∀ (w : World) (h : Heap), YP w h → (K w.params).In h)
    (F : ∀ (w : World) (mg : Str → Option Value) (fa : Addr) (h : Heap), YP w h → (K w.params).In h → h.Ns mainGlobals mg → mg d.name = some (.ref fa) →
      ∃ (fd : FuncData) (cs : List (Addr × Addr)), (∀ p ∈ cs, h.get? p.2 = some { cls := .none, data := .fields #[] }) ∧ (∀ p ∈ cs, (K w.params).lookup p.2 = none) ∧ (∀ p ∈ cs, PySem.W.CodeHd h p.1 p.2) ∧ (∀ (s : Shared) (u : Value), BindsTo s fd ⟨[u], []⟩ [(x, u)]) ∧
        ∀ base : Heap, (K w.params).In base → base.Ns mainGlobals mg → (∀ p ∈ cs, TabB base mg p.1 p.2) → FnOk l.prog w (K w.params) mg base (L2.CX l.prog w) k fa fd [x] (spLawT (K w.params) (cs.map (·.2)))) :
    PySem.W.WalkO q loose XP YP l.row.toRowW d [] (fun f vs => PySem.call f vs) :=
  LamX.walk_ofTs (n := 63) (k := k) (x := x) (CX := fun w => L2.CX l.prog w) hn (by decide) hdf hk hY (fun w mg fa h Y KX hG hmg => by
    obtain ⟨fd, cs, h1, h2, h3, h4, h5⟩ := F w mg fa h Y KX hG hmg
    refine ⟨fd, cs, spLawT (K w.params) (cs.map (·.2)), h1, h2, h3, h4, fun H a ns hl hb hT hS => ⟨a, ns, rfl, hS, hl, hb, fun P hP => ?_, fun _ => rfl⟩, h5⟩
    obtain ⟨p, hp, rfl⟩ := List.mem_map.mp hP
    exact hT p hp) fun w H s e s' h => by
    obtain ⟨_, _, _, _, _, _, _, _, _, _, _, _, z⟩ := h
    exact z.elim
end Dn
namespace Dn
open PySem PySem.Spec PyProof.Rows L2
section
variable {G : Gm} {W : WX}
open Classical in
noncomputable def forPD (n : Nat) (L : List D) (b : D → En → SR) : List D → En → SR
  | [], E => if stLst E.st n = some L then .nx E else .bad
  | x :: xs, E => if stLst E.st n = some L then (match b x E with
    | .nx E' => forPD n L b xs E'
    | .ct E' => forPD n L b xs E'
    | .bk E' => .nx E'
    | r => r) else .bad
noncomputable def sForX (f : En → ER) (t : D → DE → Option DE) (b : En → SR) : En → SR := fun E => match f E with
  | .val _ (.ptr n) st => (match stLst st n with | some l => forPD n l (tgB t b) l ⟨E.e, st⟩ | none => .bad)
  | _ => sFor (dIter f) t b E
def deref (st : Sto) (d : D) : D := match d with
  | .ptr n => (match stLst st n with | some l => .lst l | none => .ptr n)
  | d => d
def oEqX (a b : D) (st : Sto) : ER := oEq (deref st a) (deref st b) st
def oNeX (a b : D) (st : Sto) : ER := oNe (deref st a) (deref st b) st
end
end Dn
namespace Dn
open PySem PySem.Spec PySem.Calls PyProof.Rows L2
structure OwnM (P : Program) (w : World) (K : PySem.W.Frag) (mg : Str → Option Value) (base : Heap) (G : Gm) (m : Str) (n k : Nat) (c : Nat) (F : List D → Sto → ER) : Prop where
  ex : ∃ (f : Addr) (fd : FuncData) (ps : List Str), Meth K (G.ca c) m f ∧ FnOk P w K mg base (L2.CX P w) k f fd ps (spF G F) ∧ L2.Binds K fd ps [] ∧ ps.length = n
theorem cx_false {P : Program} {w : World} {st : List Env} {H : Hp} {s s' : Shared} {e : Value} (h : L2.CX P w st H s (fun _ _ _ => False) e s') : False := by
  obtain ⟨_, _, _, _, _, _, _, _, _, _, _, _, z⟩ := h
  exact z
section
variable {X : Cx} {G : Gm} {pins : List (Addr × Obj)} {σ : L2.St} {H : Hp} {s : Shared}
theorem run_own {m : Str} {n k c : Nat} {F : List D → Sto → ER} (O : OwnM X.prog X.w X.K X.mg X.base G m n k c F) : ∃ f, PySem.W.findIn X.K (.ref (G.ca c)) m = some (some (.ref f)) ∧ PySem.W.isFn X.K (.ref f) = true ∧
    ∀ (A : Around), Room k A → A.frames = X.A.frames → ∀ (pins : List (Addr × Obj)) (σ : L2.St) (H : Hp) (s : Shared) (vs : List V) (us : List Value) (Q : VK), Inv X pins σ H s → Vals vs us → vs.length = n → spF G F vs H Q (fun _ _ _ => False) → wpAny (model X.prog X.w) A (call (.ref f) us) (EP X pins σ Q) X.xe s := by
  obtain ⟨f, fd, ps, hm, hF, hb, hn⟩ := O.ex
  refine ⟨f, hm.at_, hm.fn, fun A hr fr pins σ H s vs us Q I r l h => ?_⟩
  have e := I.env0
  have e0 : Env0 X.prog X.w X.K X.mg X.base A X.stack s H := ⟨by rw [fr]; exact e.frames, e.mod, e.bs, e.bsz, e.funs, e.frf, e.hok, e.bare⟩
  have hbind : BindsTo s fd ⟨us, []⟩ (ps.zip us) := by
    have := hb s us I.kIn (by simp; rw [← r.length, l, hn])
    simpa using this
  refine wpAny_call (codeAny_mono (hF.run A X.stack s H ⟨us, []⟩ us vs Q (fun _ _ _ => False) hr e0 hbind r h) fun res s' hq => ?_)
  cases res with
  | error e => exact (cx_false hq).elim
  | ok fl =>
    cases fl with
    | ret u => exact I.after hq
    | next => exact False.elim hq
    | brk => exact False.elim hq
    | cont => exact False.elim hq
abbrev OwnL := List (Nat × (List D → Sto → ER))
theorem CallR.or {f : Value} {r r' : List V → Hp → VK → Prop} (h : CallR X f r) (h' : CallR X f r') : CallR X f (fun xs H Q => r xs H Q ∨ r' xs H Q) := by
  intro pins s σ H xs us Q I rr z
  rcases z with z | z
  · exact h pins s σ H xs us Q I rr z
  · exact h' pins s σ H xs us Q I rr z
def rStrO (G : Gm) (Os : OwnL) : List V → Hp → VK → Prop := fun xs H Q => ∃ x ∈ Os, ∃ a dx fs, xs = [.ref a] ∧ H a = some (.ins (G.ca x.1) dx fs) ∧ spF G x.2 [.ref a] H (fun v H' => ∃ n : Str, v = .str n ∧ Q (.str n) H') (fun _ _ _ => False)
theorem call_strO {Os : OwnL} {k : Nat} (hO : ∀ x ∈ Os, OwnM X.prog X.w X.K X.mg X.base G "__str__" 1 k x.1 x.2) (hr : Room (k + 2) X.A) : CallR X (.type "str") (rStrO G Os) := by
  intro pins s σ H xs us Q I r h
  obtain ⟨x, hx, a, dx, fs, rfl, ha, h⟩ := h
  obtain ⟨u, rfl, ru⟩ := vals1 r
  obtain rfl : u = Value.ref a := ru
  obtain ⟨f, hs, hf, run⟩ := run_own (hO x hx)
  obtain ⟨mA, J, _⟩ := ins_get I.hok ha
  obtain ⟨od, J, _⟩ := J.look
  refine PySem.W.kso_call hr.in1.in1.units0 I.kIn J hs hf (wpAny_mono (run X.A.in1.in1 hr.in1.in1 rfl pins σ H s [.ref a] [.ref a] _ I (.cons rfl .nil) rfl h) (fun v s' q => ?_) fun _ _ e => e)
  obtain ⟨v1, H', I', rv, n, rfl, q⟩ := q
  obtain ⟨t, rfl⟩ := rv
  exact ⟨.str n, H', I', ⟨_, rfl⟩, q⟩
structure NeC (K : PySem.W.Frag) (C : Addr) : Prop where
  ne : PySem.W.findIn K (.ref C) "__ne__" = some (some (.builtin "object.__ne__"))
  mo : PySem.W.mroIn K C (.type "object") = some true
end
def ownF : OwnL → Nat → Option (List D → Sto → ER)
  | [], _ => none
  | (c', F) :: l, c => if c = c' then some F else ownF l c
theorem ownF_mem : ∀ {Os : OwnL} {c : Nat} {F : List D → Sto → ER}, ownF Os c = some F → (c, F) ∈ Os
  | (c', F') :: l, c, F, h => by
    unfold ownF at h
    split at h
    · rename_i e
      cases h; subst e; exact List.mem_cons_self ..
    · exact List.mem_cons_of_mem _ (ownF_mem h)
section
variable {G : Gm} {W : WX}
def asLen : ER → ER
  | .val _ (.int i) st => if 0 ≤ i ∧ i < 2 ^ 63 then .val .P (.int i) st else .bad
  | _ => .bad
def dLenX (Os : OwnL) (f : En → ER) : En → ER := fun E => match f E with
  | .val _ (.ptr n) st => (match stIns st n with
    | some (c, _) => ofOpt (ownF Os c) fun F => asLen (F [.ptr n] st)
    | none => oLen [.ptr n] st)
  | .val _ d st => oLen [d] st
  | .exc c l st => .exc c l st
  | .bad => .bad
def asStr : ER → ER
  | .val _ (.str i) st => .val .P (.str i) st
  | _ => .bad
def asBl (neg : Bool) : ER → ER
  | .val _ (.bl i) st => .val .P (.bl (i != neg)) st
  | _ => .bad
def oInt : List D → Sto → ER
  | [.int i], st => .val .P (.int i) st
  | [.bl b], st => .val .P (.int (if b then 1 else 0)) st
  | [.str a], st => if a.length ≤ 640 then ofOpt (PySem.intText? a) fun n => .val .P (.int n) st else .bad
  | _, _ => .bad
abbrev rIntA : List V → Hp → VK → Prop := fun xs H Q => ((∃ i, xs = [.int i] ∧ Q (.int i) H) ∨ ∃ k, xs = [.bl k] ∧ Q (.int (if k then 1 else 0)) H) ∨ ∃ a n, xs = [.str a] ∧ PySem.intText? a = some n ∧ a.length ≤ 640 ∧ Q (.int n) H
theorem call_intA {X : Cx} : CallR X (.type "int") rIntA := CallR.or call_int1 call_int_str
theorem c_int : DCal G rIntA oInt := by
  refine DCal.one1 (fun _ => rfl) (fun a b l _ => by cases a <;> rfl) fun W σ s st v d k hv Q post => ?_
  cases d <;> try exact post.elim
  case int i => obtain rfl := hv.int; exact .inl (.inl ⟨_, rfl, post.now k (.int _)⟩)
  case bl i => obtain rfl := hv.bl; exact .inl (.inr ⟨_, rfl, post.now k (.int _)⟩)
  case str a =>
    obtain rfl := hv.str
    obtain ⟨h, post⟩ := RPost.cond (a.length ≤ 640) (ofOpt (PySem.intText? a) fun n => .val .P (.int n) st) post
    obtain ⟨n, hn, post⟩ := RPost.opt (PySem.intText? a) (fun n => .val .P (.int n) st) post
    exact .inr ⟨a, n, rfl, hn, h, post.now k (.int _)⟩
def itxt (i : Int) : Str := toString i
def oStr : List D → Sto → ER
  | [.int i], st => if i.natAbs.log2 < 1920 then .val .P (.str (itxt i)) st else .bad
  | [.str a], st => .val .P (.str a) st
  | _, _ => .bad
abbrev rStrA : List V → Hp → VK → Prop := fun xs H Q => (∃ i, xs = [.int i] ∧ i.natAbs.log2 < 1920 ∧ Q (.str (toString i)) H) ∨ ∃ a, xs = [.str a] ∧ Q (.str a) H
theorem call_strA {X : Cx} : CallR X (.type "str") rStrA := CallR.or call_str_int SkE.call_str_str
theorem c_str : DCal G rStrA oStr := by
  refine DCal.one1 (fun _ => rfl) (fun a b l _ => by cases a <;> rfl) fun W σ s st v d k hv Q post => ?_
  cases d <;> try exact post.elim
  case int i =>
    obtain rfl := hv.int
    obtain ⟨h, post⟩ := RPost.cond (i.natAbs.log2 < 1920) (.val .P (.str (itxt i)) st) post
    exact .inl ⟨_, rfl, h, post.now k (.str _)⟩
  case str a => obtain rfl := hv.str; exact .inr ⟨_, rfl, post.now k (.str _)⟩
def dStrX (Os : OwnL) (f : En → ER) : En → ER := fun E => match f E with
  | .val _ (.ptr n) st => (match stIns st n with
    | some (c, _) => ofOpt (ownF Os c) fun F => asStr (F [.ptr n] st)
    | none => .bad)
  | .val _ d st => oStr [d] st
  | .exc c l st => .exc c l st
  | .bad => .bad
theorem v_strX {Os : OwnL} {te : TE} {f : En → ER} (h : DEv G W te f) : DEv G W (tCB (fun xs H Q => rStrA xs H Q ∨ rStrO G Os xs H Q) (tCons te tNil)) (dStrX Os f) := by
  intro s t σ e st E k Q post
  refine h s t σ e st E k _ ?_
  unfold dStrX at post
  cases q : f ⟨e, st⟩ with
  | exc c l st1 => rw [q] at post; exact post
  | bad => rw [q] at post; exact post
  | val m d st1 =>
    rw [q] at post
    intro t1 v g1 k1 o1
    have plain : ∀ (d : D), U G t1 v d → RPost G W t σ Q (oStr [d] st1) → rStrA [v] t1.h Q := fun d u p => c_str W σ t1 st1 [v] [d] k1 (.cons u .nil) Q (RPost.step g1 k1 p)
    cases d with
    | ptr n =>
      cases hi : stIns st1 n with
      | none => simp only [hi] at post; exact post.elim
      | some cl =>
        obtain ⟨c, l0⟩ := cl
        simp only [hi] at post
        obtain ⟨F, hF, post⟩ := RPost.opt _ _ post
        obtain ⟨a, rfl, hp⟩ := o1.u.ptr
        obtain ⟨dx, fs, hh, hl, il⟩ := k1.ins hp hi
        refine .inr ⟨(c, F), ownF_mem hF, a, dx, _, rfl, hh, t1, [.ptr n], st1, rfl, k1, .cons (.ptr hp) .nil, ?_⟩
        have p1 := RPost.step g1 k1 post
        show RPost G _ t1 [] _ (F [.ptr n] st1)
        cases q2 : F [.ptr n] st1 with
        | exc c l st2 => simp only [asStr, q2] at p1; exact p1.elim
        | bad => simp only [asStr, q2] at p1; exact p1.elim
        | val m2 d2 st2 =>
          cases d2 <;> first | (simp only [asStr, q2] at p1; exact p1.elim) | skip
          rename_i i
          simp only [asStr, q2] at p1
          intro t2 v2 g2 k2 o2
          obtain rfl := o2.u.str
          exact ⟨i, rfl, p1 t2 _ g2 k2 (.str _)⟩
    | _ => exact .inl (plain _ o1.u post)
structure ClsI (K : PySem.W.Frag) (C : Addr) : Prop where
  cl : Cls K C
  ha : PySem.W.findIn K (.ref C) "__class__" = some (some (.builtin "object.__class__"))
  hn : PySem.W.specialIn K (.builtin "object.__class__") "__get__" = some (some (.builtin "getset_descriptor.__get__"))
  htk : PySem.W.takesIn K (.builtin "object.__class__") = some true
  hm : PySem.W.mroIn K C (.type "object") = some true
def plainTs : List String := ["NoneType", "bool", "int", "str", "tuple", "list"]
def isO (tab : Nat → Option Bool) : D → Sto → ER
  | .ptr n, st => (match stIns st n with | some (c, _) => ofOpt (tab c) fun b => .val .P (.bl b) st | none => (match stLst st n with | some _ => .val .P (.bl false) st | none => .bad))
  | .obj _ _, _ => .bad
  | .scr _, _ => .bad
  | _, st => .val .P (.bl false) st
def dIsO (tab : Nat → Option Bool) (f : En → ER) : En → ER := fun E => (f E).bind (isO tab)
structure IsOk (G : Gm) (C : Addr) (tab : Nat → Option Bool) : Prop where
  ki : ∀ c b, tab c = some b → PySem.W.kitOne G.K (.ref (G.ca c)) (.ref C) = some b
  ci : ∀ c b, tab c = some b → ClsI G.K (G.ca c)
  kt : ∀ T ∈ plainTs, PySem.W.kitOne G.K (.type T) (.ref C) = some false
structure EqOk (G : Gm) (Os : OwnL) (Cs : List Nat) : Prop where
  pt : ∀ x ∈ Os, ∀ T ∈ plainTs, PySem.W.notFirst G.K (G.ca x.1) (.type T) = true
  pc : ∀ x ∈ Os, ∀ c ∈ Cs, PySem.W.notFirst G.K (G.ca x.1) (.ref (G.ca c)) = true
  ci : ∀ c ∈ Cs, ClsI G.K (G.ca c)
def eqArg (Cs : List Nat) : D → Sto → Bool
  | .ptr n, st => (match stIns st n with | some (c, _) => Cs.contains c | none => false)
  | .obj _ _, _ => false
  | .scr _, _ => false
  | _, _ => true
def eqO2 (Os : OwnL) (Cs : List Nat) (neg : Bool) (o : D → D → Sto → ER) (m : Md) (x y : D) (st : Sto) : ER := match x with
  | .ptr n => (match stIns st n with
    | some (c, _) => ofOpt (ownF Os c) fun F => if m ≠ .B ∧ eqArg Cs y st = true then asBl neg (F [.ptr n, y] st) else .bad
    | none => o x y st)
  | _ => o x y st
def dEqO (Os : OwnL) (Cs : List Nat) (neg : Bool) (o : D → D → Sto → ER) (f g : En → ER) : En → ER := fun E => match f E with
  | .val _ x st => (match g ⟨E.e, st⟩ with
    | .val m y st1 => eqO2 Os Cs neg o m x y st1
    | .exc c l st => .exc c l st
    | .bad => .bad)
  | .exc c l st => .exc c l st
  | .bad => .bad
end
end Dn
namespace Dn
open PySem PySem.Spec PyProof.Rows L2
def PairAt (K : PySem.W.Frag) (H : Hp) (x : V) (r : Int × Int) : Prop := ∃ t, x = V.ref t ∧ SqT K H t [.int r.1, .int r.2]
def rSortedQ (K : PySem.W.Frag) : List V → Hp → VK → Prop := fun vs H Q => ∃ (a : Addr) (xs : List V) (rs : List (Int × Int)), vs = [V.ref a] ∧ SqL K H a xs ∧ xs.length = rs.length ∧ (∀ p ∈ xs.zip rs, PairAt K H p.1 p.2) ∧
  ∀ (zs : List (V × (Int × Int))) p, zs.Perm (xs.zip rs) → zs.Pairwise (fun x y => SrtO.lexB y.2 x.2 = false) → H p = none → Q (.ref p) (upd H p (.lst (zs.map (·.1))))
theorem cr_sortedQ {X : Cx} : CallR X (.builtin "sorted") (rSortedQ X.K) := by
  intro pins s σ H vs us Q I r h
  obtain ⟨a, xs, rs, rfl, hs, hlen, hx, q⟩ := h
  have uniq : ∀ x r r', PairAt X.K H x r → PairAt X.K H x r' → r = r' := fun x r r' h h' => by
    obtain ⟨t, rfl, h⟩ := h
    obtain ⟨t', e, h'⟩ := h'
    cases e
    have e := I.tuple_inj h h'
    simp at e
    exact Prod.ext e.1 e.2
  have pick : ∀ x : V, ∃ r, (∃ r', PairAt X.K H x r') → PairAt X.K H x r := fun x => by
    by_cases c : ∃ r', PairAt X.K H x r'
    · obtain ⟨r, hr⟩ := c; exact ⟨r, fun _ => hr⟩
    · exact ⟨(0, 0), fun z => absurd z c⟩
  have ⟨k, hk⟩ := Classical.axiomOfChoice pick
  have hz : ∀ (ys : List V) (ms : List (Int × Int)), ys.length = ms.length → (∀ p ∈ ys.zip ms, PairAt X.K H p.1 p.2) → ys.zip ms = ys.map fun y => (y, k y) := by
    intro ys
    induction ys with
    | nil => intro ms _ _; simp
    | cons y ys ih =>
      intro ms hl hp
      cases ms with
      | nil => simp at hl
      | cons m ms =>
        simp at hl
        rw [List.zip_cons_cons, List.map_cons, ih ms hl fun p hm => hp p (by rw [List.zip_cons_cons]; exact List.mem_cons_of_mem _ hm)]
        have h1 := hp (y, m) (by rw [List.zip_cons_cons]; exact List.mem_cons_self ..)
        rw [uniq y m (k y) h1 (hk y ⟨m, h1⟩)]
  have hxz := hz xs rs hlen hx
  have hkx : ∀ x ∈ xs, PairAt X.K H x (k x) := fun x m => hk x (by
    have : (x, k x) ∈ xs.zip rs := by rw [hxz]; exact List.mem_map.mpr ⟨x, m, rfl⟩
    exact ⟨_, hx _ this⟩)
  obtain ⟨its, rv, hl, hzz⟩ := I.list hs
  obtain ⟨u, rfl, ru⟩ := vals1 r
  obtain rfl : u = Value.ref a := ru
  obtain ⟨e1, e2⟩ := refs_back rv fun x m => by
    obtain ⟨t, e, _⟩ := hkx x m
    exact ⟨t, e⟩
  refine SrtO.sorted_pairsO (k := fun u => k (backV u)) hl.isList (by rw [← rv.length]; exact hzz) (fun v hv => ?_) fun h' d out h1 h2 kp hd hn => ?_
  · obtain ⟨t, rfl⟩ := e2 v hv
    have hm : V.ref t ∈ xs := by rw [e1]; exact List.mem_map.mpr ⟨_, hv, rfl⟩
    obtain ⟨t', e, ht⟩ := hkx _ hm
    cases e
    obtain ⟨its2, r2, ⟨o, ho, hc, n, hd⟩, _⟩ := I.tuple ht
    obtain ⟨u1, u2, rfl, ri, rj⟩ := vals2 r2
    obtain ⟨t1, rfl⟩ := ri
    obtain ⟨t2, rfl⟩ := rj
    exact ⟨t, o, t1, t2, n, rfl, ho, hc, hd⟩
  · have h3 : ∀ u ∈ out, ∃ a, u = Value.ref a := fun u hu => e2 u (h2.perm.mem_iff.mp hu)
    obtain ⟨n, hn⟩ := hn
    have hb : SrtO.Stb (ltP k) (out.map backV) xs := by
      rw [e1]
      exact SrtO.Stb.map (ltP_swo k) backV h2
    have hq := q ((out.map backV).map fun y => (y, k y)) d (by rw [hxz]; exact hb.perm.map _) (by
      have := SrtO.srtd_map (f := backV) (lt := ltP k) h1
      exact List.pairwise_map.mpr this) (I.hok.fresh hd)
    have hmm : ((out.map backV).map fun y => (y, k y)).map (·.1) = out.map backV := by simp
    rw [hmm] at hq
    refine ⟨.ref d, upd H d (.lst (out.map backV)), I.laid (t' := s.toks) kp hd ⟨?_, out, n, vals_back h3, hn⟩, rfl, hq⟩
    rw [hb.len]
    exact hzz
def lexLe (a b : Int × Int) : Bool := !SrtO.lexB b a
def srtP (rs : List (Int × Int)) : List (Int × Int) := rs.mergeSort lexLe
theorem lexLe_iff {a b : Int × Int} : lexLe a b = true ↔ a.1 < b.1 ∨ (a.1 = b.1 ∧ a.2 ≤ b.2) := by
  unfold lexLe
  rw [Bool.not_eq_true', SrtO.lexB_no]
  omega
theorem srtP_perm (rs : List (Int × Int)) : (srtP rs).Perm rs := List.mergeSort_perm _ _
theorem srtP_pw (rs : List (Int × Int)) : (srtP rs).Pairwise (fun a b => lexLe a b = true) :=
  List.pairwise_mergeSort (le := lexLe) (fun a b c h1 h2 => by rw [lexLe_iff] at *; omega) (fun a b => by rw [Bool.or_eq_true, lexLe_iff, lexLe_iff]; omega) rs
theorem srtP_is {rs ms : List (Int × Int)} (h : ms.Perm rs) (p : ms.Pairwise (fun a b => lexLe a b = true)) : ms = srtP rs :=
  List.Perm.eq_of_pairwise (le := fun a b => lexLe a b = true) (fun a b _ _ h1 h2 => by rw [lexLe_iff] at *; exact Prod.ext (by omega) (by omega)) p (srtP_pw rs) (h.trans (srtP_perm rs).symm)
def rowsOf : List D → Option (List (Int × Int))
  | [] => some []
  | .tup [.int a, .int b] :: l => (rowsOf l).map ((a, b) :: ·)
  | _ => none
section
variable {G : Gm} {W : WX}
theorem rowsOf_V {as : List Addr} {f H : Hp} (sm : Same f H) : ∀ {l : List D} {vs : List V} {rs : List (Int × Int)}, rowsOf l = some rs → IsL G as f vs l → vs.length = rs.length ∧ l = rs.map (fun r => D.tup [.int r.1, .int r.2]) ∧ ∀ p ∈ vs.zip rs, PairAt G.K H p.1 p.2 ∧ Is G as f p.1 (.tup [.int p.2.1, .int p.2.2])
  | [], _, _, h, i => by cases i; cases h; exact ⟨rfl, rfl, fun p m => by simp at m⟩
  | d :: l, _, rs, h, i => by
    cases i with
    | cons a b =>
      unfold rowsOf at h
      split at h
      · cases ‹_ :: _ = _›
      · rename_i x y l' e
        cases e
        cases q : rowsOf l with
        | none => rw [q] at h; cases h
        | some ms =>
          rw [q] at h; cases h
          obtain ⟨h1, h2, h3⟩ := rowsOf_V sm q b
          refine ⟨by simp [h1], by rw [List.map_cons, ← h2], fun p m => ?_⟩
          rw [List.zip_cons_cons] at m
          rcases List.mem_cons.mp m with rfl | m
          · refine ⟨?_, a⟩
            cases a with
            | tup c c2 =>
              cases c2 with
              | cons e1 c2 =>
                cases c2 with
                | cons e2 c2 =>
                  cases c2; cases e1; cases e2
                  exact ⟨_, rfl, same_t sm c⟩
          · exact h3 p m
      · cases h
def oSortedX : List D → Sto → ER
  | [.lst l], st => (match intsOf l with
    | some ns => if ns.length < 64 then .val .N (.lst ((srt ns).map .int)) st else .bad
    | none => ofOpt (rowsOf l) fun rs => .val .N (.lst ((srtP rs).map fun r => .tup [.int r.1, .int r.2])) st)
  | _, _ => .bad
theorem isl_zip {as : List Addr} {f : Hp} : ∀ {zs : List (V × (Int × Int))}, (∀ p ∈ zs, Is G as f p.1 (.tup [.int p.2.1, .int p.2.2])) → IsL G as f (zs.map (·.1)) (zs.map fun z => D.tup [.int z.2.1, .int z.2.2])
  | [], _ => .nil
  | z :: zs, h => .cons (h z (List.mem_cons_self ..)) (isl_zip fun p m => h p (List.mem_cons_of_mem _ m))
theorem c_sortedX : DCal G (fun xs H Q => rSorted G.K xs H Q ∨ rSortedQ G.K xs H Q) oSortedX := by
  refine DCal.one1 (fun _ => rfl) (fun a b l _ => by cases a <;> rfl) fun W σ s st v d k hv Q post => ?_
  cases d <;> try exact post.elim
  rename_i l
  have post : RPost G W s σ Q (match intsOf l with
    | some ns => if ns.length < 64 then .val .N (.lst ((srt ns).map .int)) st else .bad
    | none => ofOpt (rowsOf l) fun rs => .val .N (.lst ((srtP rs).map fun r => .tup [.int r.1, .int r.2])) st) := post
  obtain ⟨p, vs, rfl, hp, hl⟩ := hv.lst k.sf
  cases qi : intsOf l with
  | some ns =>
    simp only [qi] at post
    obtain ⟨hlt, post⟩ := RPost.cond (ns.length < 64) (.val .N (.lst ((srt ns).map .int)) st) post
    have := intsOf_V qi hl
    subst this
    refine .inl ⟨p, ns, rfl, SqL.of hp, hlt, fun ms r hm hs hr => ?_⟩
    rw [srt_is hm hs]
    exact RPost.newL k post (IsL.ints _) hr
  | none =>
    simp only [qi] at post
    obtain ⟨rs, hrs, post⟩ := RPost.opt (rowsOf l) (fun rs => .val .N (.lst ((srtP rs).map fun r => .tup [.int r.1, .int r.2])) st) post
    obtain ⟨h1, h2, h3⟩ := rowsOf_V k.sf hrs hl
    refine .inr ⟨p, vs, rs, rfl, SqL.of hp, h1, fun q m => (h3 q m).1, fun zs r hm hs hr => ?_⟩
    have hz : ∀ q ∈ zs, Is G s.as s.f q.1 (.tup [.int q.2.1, .int q.2.2]) := fun q m => (h3 q (hm.mem_iff.mp m)).2
    have e1 : zs.map (·.2) = srtP rs := by
      refine srtP_is ?_ (List.pairwise_map.mpr (hs.imp fun {a b} h => by unfold lexLe; rw [h]; rfl))
      have := hm.map (fun q : V × (Int × Int) => q.2)
      have e : (vs.zip rs).map (fun q : V × (Int × Int) => q.2) = rs := by
        rw [List.map_snd_zip]; omega
      rw [e] at this
      exact this
    have e2 : (srtP rs).map (fun r => D.tup [.int r.1, .int r.2]) = zs.map fun z => D.tup [.int z.2.1, .int z.2.2] := by
      rw [← e1, List.map_map]; rfl
    rw [e2] at post
    exact RPost.newL k post (isl_zip hz) hr
end
end Dn
namespace Dn
open PySem PySem.Spec PyProof.Rows L2
section
variable {G : Gm} {W : WX}
def DMs (G : Gm) (r : V → List V → Hp → VK → Prop) (op : Str → List D → Sto → ER) : Prop :=
  ∀ (W : WX) (σ : L2.St) (s : Hs) (st : Sto) (x : Str) (vs : List V) (ds : List D), StOk G s st → UL G s vs ds → ∀ Q : VK, RPost G W s σ Q (op x ds st) → r (.str x) vs s.h Q
def dMs (op : Str → List D → Sto → ER) (fb : En → ER) (fa : En → AR) : En → ER := fun E => match fb E with
  | .val _ (.str x) st => (match fa ⟨E.e, st⟩ with
    | .ok _ ds st1 => op x ds st1
    | .exc c l st => .exc c l st
    | .bad => .bad)
  | .exc c l st => .exc c l st
  | _ => .bad
theorem v_ms {r : V → List V → Hp → VK → Prop} {op : Str → List D → Sto → ER} {tb : TE} {ta : TA} {fb : En → ER} {fa : En → AR} (hm : DMs G r op) (hb : DEv G W tb fb) (ha : DAr G W ta fa) : DEv G W (tBM G.K "str" r tb ta) (dMs op fb fa) := by
  intro s t σ e st E k Q post
  refine hb s t σ e st E k _ ?_
  unfold dMs at post
  cases q : fb ⟨e, st⟩ with
  | exc c l st1 => rw [q] at post; exact post
  | bad => rw [q] at post; exact post
  | val m d st1 =>
    rw [q] at post
    cases d <;> first | exact post.elim | skip
    rename_i x
    intro t1 v g1 k1 o1
    obtain rfl := o1.u.str
    refine ⟨rfl, ha s t1 σ e st1 (E.up g1) k1 _ ?_⟩
    have post : RPost G W t1 σ Q (match fa ⟨e, st1⟩ with
      | .ok _ ds st1 => op x ds st1
      | .exc c l st => .exc c l st
      | .bad => .bad) := RPost.step g1 k1 post
    cases q2 : fa ⟨e, st1⟩ with
    | ok b ds st2 => rw [q2] at post; exact fun t2 xs g2 k2 _ u2 => hm W σ t2 st2 x xs ds k2 u2 Q (RPost.step g2 k2 post)
    | exc c l st2 => rw [q2] at post; exact post
    | bad => rw [q2] at post; exact post
def strsOf : List D → Option (List Str)
  | [] => some []
  | .str i :: l => (strsOf l).map (i :: ·)
  | _ => none
theorem strsOf_V {as : List Addr} {H : Hp} : ∀ {l : List D} {vs : List V} {ns : List Str}, strsOf l = some ns → IsL G as H vs l → vs = ns.map V.str
  | [], _, _, h, i => by cases i; cases h; rfl
  | d :: l, _, ns, h, i => by
    cases i with
    | cons a b =>
      cases d <;> first | (cases h; done) | skip
      rename_i i
      have h' : (strsOf l).map (i :: ·) = some ns := h
      cases q : strsOf l with
      | none => rw [q] at h'; cases h'
      | some ms =>
        rw [q] at h'; cases h'
        cases a
        rw [strsOf_V q b]; rfl
theorem IsL.strs {as : List Addr} {H : Hp} : ∀ (l : List Str), IsL G as H (l.map V.str) (l.map D.str)
  | [] => .nil
  | i :: l => .cons (.str i) (IsL.strs l)
def seqStrs : D → Sto → Option (List Str)
  | .lst l, _ => strsOf l
  | .tup l, _ => strsOf l
  | .ptr n, st => (stLst st n).bind strsOf
  | _, _ => none
def msJoin (a : Str) (ds : List D) (st : Sto) : ER := match ds with
  | [d] => ofOpt (seqStrs d st) fun ys => if (ys.map (·.length)).sum + ys.length * a.length ≤ 1000000 then .val .P (.str (Txt.join a ys)) st else .bad
  | _ => .bad
abbrev rJoin (K : PySem.W.Frag) : V → List V → Hp → VK → Prop := fun x xs H Q => ∃ a p, ∃ ys : List Str, x = .str a ∧ xs = [.ref p] ∧ (SqL K H p (ys.map V.str) ∨ SqT K H p (ys.map V.str)) ∧
    (ys.map (·.length)).sum + ys.length * a.length ≤ 16777216 ∧ Q (.str (Txt.join a ys)) H
theorem ms_join : DMs G (rJoin G.K) msJoin := by
  intro W σ s st a vs ds k u Q post
  unfold msJoin at post
  split at post
  · rename_i d
    obtain ⟨v, rfl, hv⟩ := u.one
    obtain ⟨ys, hy, post2⟩ := RPost.opt _ _ post
    clear post
    obtain ⟨c, post3⟩ := RPost.cond _ _ post2
    clear post2
    have c' : (ys.map (·.length)).sum + ys.length * a.length ≤ 16777216 := Nat.le_trans c (by decide)
    cases d <;> first | (cases hy; done) | skip
    case tup l =>
      obtain ⟨p, ws, rfl, hp, il⟩ := hv.tup k.sf
      have := strsOf_V hy il
      subst this
      exact ⟨a, p, ys, rfl, rfl, .inr hp, c', post3.now k (.str _)⟩
    case lst l =>
      obtain ⟨p, ws, rfl, hp, il⟩ := hv.lst k.sf
      have := strsOf_V hy il
      subst this
      exact ⟨a, p, ys, rfl, rfl, .inl (SqL.of hp), c', post3.now k (.str _)⟩
    case ptr n =>
      obtain ⟨p, rfl, hp⟩ := hv.ptr
      have hy : (stLst st n).bind strsOf = some ys := hy
      cases hl : stLst st n with
      | none => rw [hl] at hy; cases hy
      | some l =>
        rw [hl] at hy
        obtain ⟨ws, hh, il⟩ := k.lst hp hl
        have := strsOf_V hy il
        subst this
        exact ⟨a, p, ys, rfl, rfl, .inl (SqL.of hh), c', post3.now k (.str _)⟩
  · exact post.elim
def msSplit (a : Str) (ds : List D) (st : Sto) : ER := match ds with
  | [.str b] => if (b.length == 0) = false ∧ a.length + 2 ≤ 1000000 then .val .N (.lst ((Txt.split a b).map .str)) st else .bad
  | _ => .bad
abbrev rSplit : V → List V → Hp → VK → Prop := fun x xs H Q => ∃ a b, x = .str a ∧ xs = [.str b] ∧ (b.length == 0) = false ∧ a.length + 2 ≤ sizeLine ∧ rNewStrs (Txt.split a b) H Q
theorem ms_split : DMs G rSplit msSplit := by
  intro W σ s st a vs ds k u Q post
  unfold msSplit at post
  split at post
  · rename_i b
    obtain ⟨v, rfl, hv⟩ := u.one
    obtain rfl := hv.str
    obtain ⟨c, post⟩ := RPost.cond _ _ post
    exact ⟨a, b, rfl, rfl, c.1, sz c.2, fun p hp => RPost.newL k post (IsL.strs _) hp⟩
  · exact post.elim
def msPartition (a : Str) (ds : List D) (st : Sto) : ER := match ds with
  | [.str b] => if (b.length == 0) = false ∧ a.length ≤ 1000000 then .val .P (.tup [.str (Txt.partition a b).1, .str (Txt.partition a b).2.1, .str (Txt.partition a b).2.2]) st else .bad
  | _ => .bad
abbrev rPartition : V → List V → Hp → VK → Prop := fun x xs H Q => ∃ a b, x = .str a ∧ xs = [.str b] ∧ (b.length == 0) = false ∧ a.length ≤ sizeLine ∧
    ∀ p, H p = none → Q (.ref p) (upd H p (.tup [.str (Txt.partition a b).1, .str (Txt.partition a b).2.1, .str (Txt.partition a b).2.2]))
theorem ms_partition : DMs G rPartition msPartition := by
  intro W σ s st a vs ds k u Q post
  unfold msPartition at post
  split at post
  · rename_i b
    obtain ⟨v, rfl, hv⟩ := u.one
    obtain rfl := hv.str
    obtain ⟨c, post⟩ := RPost.cond _ _ post
    exact ⟨a, b, rfl, rfl, c.1, sz c.2, fun p hp => RPost.newT k post (.cons (.str _) (.cons (.str _) (.cons (.str _) .nil))) hp⟩
  · exact post.elim
def msCount (a : Str) (ds : List D) (st : Sto) : ER := match ds with
  | [.str b] => .val .P (.int (Txt.count a b)) st
  | _ => .bad
def dFmt (f : En → ER) : En → ER := fun E => match f E with
  | .val _ (.str y) st => if y.length ≤ 1000000 then .val .P (.str y) st else .bad
  | .val _ (.int i) st => if i.natAbs.log2 < 1920 then .val .P (.str (itxt i)) st else .bad
  | .exc c l st => .exc c l st
  | _ => .bad
theorem v_fmt {te : TE} {f : En → ER} (h : DEv G W te f) : DEv G W (tFmt te) (dFmt f) := by
  intro s t σ e st E k Q post
  refine h s t σ e st E k _ ?_
  unfold dFmt at post
  cases q : f ⟨e, st⟩ with
  | exc c l st1 => rw [q] at post; exact post
  | bad => rw [q] at post; exact post
  | val m d st1 =>
    rw [q] at post
    intro t1 v g1 k1 o1
    cases d <;> first | exact post.elim | skip
    case int i =>
      obtain rfl := o1.u.int
      obtain ⟨c, post⟩ := RPost.cond (i.natAbs.log2 < 1920) (.val .P (.str (itxt i)) st1) post
      exact .inr ⟨i, rfl, c, (RPost.step g1 k1 post).now k1 (.str _)⟩
    case str y =>
      obtain rfl := o1.u.str
      obtain ⟨c, post⟩ := RPost.cond (y.length ≤ 1000000) (.val .P (.str y) st1) post
      exact .inl ⟨y, rfl, sz c, (RPost.step g1 k1 post).now k1 (.str _)⟩
inductive DJs (G : Gm) (W : WX) : List TE → List (En → ER) → Prop
  | nil : DJs G W [] []
  | cons {t : TE} {ts : List TE} {f : En → ER} {fs : List (En → ER)} : DEv G W t f → DJs G W ts fs → DJs G W (t :: ts) (f :: fs)
def jsGo : List (En → ER) → Str → DE → Sto → ER
  | [], acc, _, st => .val .P (.str acc) st
  | f :: fs, acc, e, st => match f ⟨e, st⟩ with
    | .val _ (.str y) st1 => if (acc ++ y).length ≤ 1000000 then jsGo fs (acc ++ y) e st1 else .bad
    | .exc c l st => .exc c l st
    | _ => .bad
theorem js_run {s : Hs} {σ : L2.St} {e : DE} {Q : VK} : ∀ {ts : List TE} {fs : List (En → ER)}, DJs G W ts fs → ∀ (t : Hs) (st : Sto) (acc : Str), EnvOk G s t σ e → StOk G t st → RPost G W t σ Q (jsGo fs acc e st) → tJs ts acc σ t.h fun out H1 => Q (.str out) H1
  | _, _, .nil, t, st, acc, _, k, post => post.now k (.str _)
  | _, _, .cons (f := f) (fs := fs) h hs, t, st, acc, E, k, post => by
    refine h s t σ e st E k _ ?_
    unfold jsGo at post
    cases q : f ⟨e, st⟩ with
    | exc c l st1 => rw [q] at post; exact post
    | bad => rw [q] at post; exact post
    | val m d st1 =>
      rw [q] at post
      cases d <;> first | exact post.elim | skip
      rename_i y
      intro t1 v g1 k1 o1
      obtain rfl := o1.u.str
      obtain ⟨c, post⟩ := RPost.cond ((acc ++ y).length ≤ 1000000) (jsGo fs (acc ++ y) e st1) post
      exact ⟨y, rfl, sz c, js_run hs t1 st1 (acc ++ y) (E.up g1) k1 (RPost.step g1 k1 post)⟩
def dJs (fs : List (En → ER)) : En → ER := fun E => jsGo fs Str.empty E.e E.st
theorem v_js {ts : List TE} {fs : List (En → ER)} (h : DJs G W ts fs) : DEv G W (fun σ H Q => tJs ts Str.empty σ H fun out H1 => Q (.str out) H1) (dJs fs) := fun s t σ e st E k Q post => js_run h t st Str.empty E k post
end
end Dn
namespace Dn
open PySem PySem.Spec PyProof.Rows L2
section
variable {G : Gm} {W : WX}
def isTP (T : String) : D → Sto → ER
  | .ptr n, st => (match stLst st n with | some _ => ofOpt (kitB "list" T) fun b => .val .P (.bl b) st | none => .bad)
  | d, st => isT T d st
def dIsiP (T : String) (f : En → ER) : En → ER := fun E => (f E).bind (isTP T)
end
end Dn
namespace Dn
open PySem PySem.Spec PyProof.Rows L2
@[simp] theorem e_oAdd_1 : ∀ i j st, oAdd (.int i) (.int j) st = .val .P (.int (i + j)) st := fun _ _ _ => rfl
@[simp] theorem e_oAdd_2 : ∀ a b st, oAdd (.str a) (.str b) st = if a.length + b.length ≤ 1000000 then .val .P (.str (a ++ b)) st else .bad := fun _ _ _ => rfl
@[simp] theorem e_oAdd_3 : ∀ a b st, oAdd (.lst a) (.lst b) st = if a.length + b.length ≤ 1000000 then .val .N (.lst (a ++ b)) st else .bad := fun _ _ _ => rfl
@[simp] theorem e_oAdd_4 : ∀ a b st, oAdd (.tup a) (.tup b) st = if a.length + b.length ≤ 1000000 then .val .P (.tup (a ++ b)) st else .bad := fun _ _ _ => rfl
@[simp] theorem e_oSub_1 : ∀ i j st, oSub (.int i) (.int j) st = .val .P (.int (i - j)) st := fun _ _ _ => rfl
@[simp] theorem e_oMul_1 : ∀ i j st, oMul (.int i) (.int j) st = if i.natAbs.log2 + j.natAbs.log2 < 1000000 then .val .P (.int (i * j)) st else .bad := fun _ _ _ => rfl
@[simp] theorem e_oMul_2 : ∀ a k st, oMul (.lst a) (.int k) st = if -(2 ^ 63) ≤ k ∧ k < 2 ^ 63 ∧ a.length * k.toNat ≤ 1000000 then .val .N (.lst (List.replicate k.toNat a).flatten) st else .bad := fun _ _ _ => rfl
@[simp] theorem e_oDiv_1 : ∀ i j st, oDiv (.int i) (.int j) st = if j ≠ 0 ∧ j.natAbs.log2 < 9000 then .val .P (.int (i.fdiv j)) st else .bad := fun _ _ _ => rfl
@[simp] theorem e_oMod_1 : ∀ i j st, oMod (.int i) (.int j) st = if j ≠ 0 then .val .P (.int (i.fmod j)) st else .bad := fun _ _ _ => rfl
@[simp] theorem e_oPow_1 : ∀ i j st, oPow (.int i) (.int j) st = if 0 ≤ j ∧ j ≤ 1000000 ∧ i.natAbs < 2 ^ 64 then .val .P (.int (i ^ j.toNat)) st else .bad := fun _ _ _ => rfl
@[simp] theorem e_oCmp_1 {p : Int → Int → Bool} : ∀ i j st, oCmp p (.int i) (.int j) st = .val .P (.bl (p i j)) st := fun _ _ _ => rfl
@[simp] theorem e_oIx_1 : ∀ l i st, oIx (.lst l) (.int i) st = ofOpt (atI l i) fun d => .val .P d st := fun _ _ _ => rfl
@[simp] theorem e_oIx_2 : ∀ l i st, oIx (.tup l) (.int i) st = ofOpt (atI l i) fun d => .val .P d st := fun _ _ _ => rfl
@[simp] theorem e_oIx_3 : ∀ l i st, oIx (.scr l) (.int i) st = ofOpt (atI l i) fun d => .val .P (.int d) st := fun _ _ _ => rfl
@[simp] theorem e_oIx_4 : ∀ z i st, oIx (.str z) (.int i) st = if z.length ≤ 1000000 then ofOpt (atI z.cps.toList i) (fun c => .val .P (.str ⟨#[c]⟩) st) else .bad := fun _ _ _ => rfl
@[simp] theorem e_oIx_5 : ∀ n i st, oIx (.ptr n) (.int i) st = ofOpt (stLst st n) fun l => ofOpt (atI l i) fun d => .val .P d st := fun _ _ _ => rfl
@[simp] theorem e_dVar {i : Nat} {E : En} : dVar i E = match E.e[i]? with
  | some (.val d) => .val .P d E.st
  | some (.own l) => .val .B (.lst l) E.st
  | _ => .bad := rfl
@[simp] theorem e_dC {d : D} {E : En} : dC d E = .val .P d E.st := rfl
@[simp] theorem e_dOp {o : D → D → Sto → ER} {f g : En → ER} {E : En} : dOp o f g E = (f E).bind fun x st => (g ⟨E.e, st⟩).bind fun y st => o x y st := rfl
@[simp] theorem e_dUn {o : D → Sto → ER} {f : En → ER} {E : En} : dUn o f E = (f E).bind o := rfl
@[simp] theorem e_oNeg_1 : ∀ i st, oNeg (.int i) st = .val .P (.int (-i)) st := fun _ _ => rfl
@[simp] theorem e_dAnd {f g : En → ER} {E : En} : dAnd f g E = (f E).bindB fun b st => if b = true then g ⟨E.e, st⟩ else .val .P (.bl false) st := rfl
@[simp] theorem e_dOr {f g : En → ER} {E : En} : dOr f g E = (f E).bindB fun b st => if b = true then .val .P (.bl true) st else g ⟨E.e, st⟩ := rfl
@[simp] theorem e_dNot {f : En → ER} {E : En} : dNot f E = (f E).bindB fun b st => .val .P (.bl (!b)) st := rfl
@[simp] theorem e_dIf {c f g : En → ER} {E : En} : dIf c f g E = (c E).bindB fun b st => if b = true then f ⟨E.e, st⟩ else g ⟨E.e, st⟩ := rfl
@[simp] theorem e_dChain {o o' : D → D → Sto → ER} {f g h : En → ER} {E : En} : dChain o o' f g h E = (f E).bind fun x st => (g ⟨E.e, st⟩).bind fun y st => (o x y st).bindB fun b st => if b = true then (h ⟨E.e, st⟩).bind fun z st => o' y z st else .val .P (.bl false) st := rfl
@[simp] theorem e_aNil {E : En} : aNil  E = .ok true [] E.st := rfl
@[simp] theorem e_aCons {f : En → ER} {g : En → AR} {E : En} : aCons f g E = (f E).cons fun st => g ⟨E.e, st⟩ := rfl
@[simp] theorem e_dTup {f : En → AR} {E : En} : dTup f E = match f E with
  | .ok true l st => if l.length ≤ 1000000 then .val .P (.tup l) st else .bad
  | .exc c l st => .exc c l st
  | _ => .bad := rfl
@[simp] theorem e_dLst {f : En → AR} {E : En} : dLst f E = match f E with
  | .ok true l st => if l.length ≤ 1000000 then .val .N (.lst l) st else .bad
  | .exc c l st => .exc c l st
  | _ => .bad := rfl
@[simp] theorem e_dPut {f : En → ER} {E : En} : dPut f E = match f E with
  | .val .N (.lst l) st => .val .P (.ptr st.length) (st ++ [.lst l])
  | .exc c l st => .exc c l st
  | _ => .bad := rfl
@[simp] theorem e_dCall {F : List D → Sto → ER} {f : En → AR} {E : En} : dCall F f E = match f E with
  | .ok true l st => F l st
  | .exc c l st => .exc c l st
  | _ => .bad := rfl
@[simp] theorem e_dCB {o : List D → Sto → ER} {f : En → AR} {E : En} : dCB o f E = match f E with
  | .ok _ l st => o l st
  | .exc c l st => .exc c l st
  | .bad => .bad := rfl
@[simp] theorem e_oAbs_1 : ∀ i st, oAbs ([.int i]) st = .val .P (.int (if i < 0 then -i else i)) st := fun _ _ => rfl
@[simp] theorem e_oLen_1 : ∀ l st, oLen ([.lst l]) st = .val .P (.int l.length) st := fun _ _ => rfl
@[simp] theorem e_oLen_2 : ∀ l st, oLen ([.tup l]) st = .val .P (.int l.length) st := fun _ _ => rfl
@[simp] theorem e_oLen_3 : ∀ l st, oLen ([.scr l]) st = .val .P (.int l.length) st := fun _ _ => rfl
@[simp] theorem e_oLen_4 : ∀ n st, oLen ([.ptr n]) st = ofOpt (stLst st n) fun l => .val .P (.int l.length) st := fun _ _ => rfl
@[simp] theorem e_oLen_5 : ∀ z st, oLen ([.str z]) st = if z.length ≤ 1000000 then .val .P (.int z.length) st else .bad := fun _ _ => rfl
@[simp] theorem e_oMax2_1 : ∀ i j st, oMax2 ([.int i, .int j]) st = .val .P (.int (if j > i then j else i)) st := fun _ _ _ => rfl
@[simp] theorem e_oMin2_1 : ∀ i j st, oMin2 ([.int i, .int j]) st = .val .P (.int (if j < i then j else i)) st := fun _ _ _ => rfl
@[simp] theorem e_oSum_1 : ∀ l st, oSum ([.lst l]) st = ofOpt (intsOf l) fun ns => .val .P (.int ns.sum) st := fun _ _ => rfl
@[simp] theorem e_oList_1 : ∀ l st, oList ([.lst l]) st = .val .N (.lst l) st := fun _ _ => rfl
@[simp] theorem e_oList_2 : ∀ l st, oList ([.tup l]) st = .val .N (.lst l) st := fun _ _ => rfl
@[simp] theorem e_oList_3 : ∀ l st, oList ([.scr l]) st = .val .N (.lst (l.map .int)) st := fun _ _ => rfl
@[simp] theorem e_oList_4 : ∀ n st, oList ([.ptr n]) st = ofOpt (stLst st n) fun l => .val .N (.lst l) st := fun _ _ => rfl
@[simp] theorem e_oTuple_1 : ∀ l st, oTuple ([.lst l]) st = .val .P (.tup l) st := fun _ _ => rfl
@[simp] theorem e_oTuple_2 : ∀ l st, oTuple ([.tup l]) st = .val .P (.tup l) st := fun _ _ => rfl
@[simp] theorem e_dSl {o : D → Option Int → Option Int → Sto → ER} {f : En → ER} {lo hi : En → Option ER} {E : En} : dSl o f lo hi E = (f E).bind fun x st => ofOpt (partI (lo ⟨E.e, st⟩) st) fun l => ofOpt (partI (hi ⟨E.e, l.2⟩) l.2) fun u => o x l.1 u.1 u.2 := rfl
@[simp] theorem e_sSeq {f g : En → SR} {E : En} : sSeq f g E = (f E).bind g := rfl
@[simp] theorem e_sSet {i : Nat} {f : En → ER} {E : En} : sSet i f E = match f E with
  | .val .P d st => .nx ⟨E.e.set i (.val d), st⟩
  | .val .N (.lst l) st => .nx ⟨E.e.set i (.own l), st⟩
  | .exc c l st => .exc c l ⟨E.e, st⟩
  | _ => .bad := rfl
@[simp] theorem e_sSetF {i : Nat} {f : En → ER} {E : En} : sSetF i f E = match f E with
  | .val .P d st => .nx ⟨E.e.set i (.val d), st⟩
  | .val .N d st => .nx ⟨E.e.set i (.val d), st⟩
  | .exc c l st => .exc c l ⟨E.e, st⟩
  | _ => .bad := rfl
@[simp] theorem e_sAsg {t : D → DE → Option DE} {f : En → ER} {E : En} : sAsg t f E = match f E with
  | .val .B _ _ => .bad
  | .val _ d st => (match t d E.e with | some e' => .nx ⟨e', st⟩ | none => .bad)
  | .exc c l st => .exc c l ⟨E.e, st⟩
  | _ => .bad := rfl
@[simp] theorem e_sPar {i j : Nat} {f : En → AR} {E : En} : sPar i j f E = match f E with
  | .ok true [a, b] st => .nx ⟨(E.e.set i (.val a)).set j (.val b), st⟩
  | .exc c l st => .exc c l ⟨E.e, st⟩
  | _ => .bad := rfl
@[simp] theorem e_sDrop {f : En → ER} {E : En} : sDrop f E = match f E with
  | .val _ _ st => .nx ⟨E.e, st⟩
  | .exc c l st => .exc c l ⟨E.e, st⟩
  | .bad => .bad := rfl
@[simp] theorem e_sRet {f : En → ER} {E : En} : sRet f E = match f E with
  | .val .P d st => .rt .P d st
  | .val .N d st => .rt .N d st
  | .exc c l st => .exc c l ⟨E.e, st⟩
  | _ => .bad := rfl
@[simp] theorem e_sRetV {i : Nat} {E : En} : sRetV i E = match E.e[i]? with
  | some (.val d) => .rt .P d E.st
  | some (.own l) => .rt .N (.lst l) E.st
  | _ => .bad := rfl
@[simp] theorem e_sRetN {E : En} : sRetN  E = .rt .P .non E.st := rfl
@[simp] theorem e_sIf {c : En → ER} {f g : En → SR} {E : En} : sIf c f g E = match c E with
  | .val _ (.bl b) st => if b = true then f ⟨E.e, st⟩ else g ⟨E.e, st⟩
  | .exc c l st => .exc c l ⟨E.e, st⟩
  | _ => .bad := rfl
@[simp] theorem e_sFrz {i : Nat} {g : En → SR} {E : En} : sFrz i g E = g ⟨frz i E.e, E.st⟩ := rfl
@[simp] theorem e_sApp {i : Nat} {f : En → ER} {E : En} : sApp i f E = match E.e[i]? with
  | some (.own l) => (match f E with
    | .val .B _ _ => .bad
    | .val _ d st => if l.length < 1000000 then .nx ⟨E.e.set i (.own (l ++ [d])), st⟩ else .bad
    | .exc c l st => .exc c l ⟨E.e, st⟩
    | .bad => .bad)
  | _ => .bad := rfl
@[simp] theorem e_sSetO {x : Nat} {f fi : En → ER} {E : En} : sSetO x f fi E = match E.e[x]? with
  | some (.own l) => (match f E with
    | .val .B _ _ => .bad
    | .val _ d st => (match fi ⟨E.e, st⟩ with
      | .val _ (.int i) st1 => (match ixN l.length i with | some j => .nx ⟨E.e.set x (.own (l.set j d)), st1⟩ | none => .bad)
      | .exc c l st => .exc c l ⟨E.e, st⟩
      | _ => .bad)
    | .exc c l st => .exc c l ⟨E.e, st⟩
    | .bad => .bad)
  | _ => .bad := rfl
@[simp] theorem e_sSetP {fb f fi : En → ER} {E : En} : sSetP fb f fi E = match f E with
  | .val .B _ _ => .bad
  | .val _ d st => (match fb ⟨E.e, st⟩ with
    | .val _ (.ptr n) st1 => (match fi ⟨E.e, st1⟩ with
      | .val _ (.int i) st2 => (match stLst st2 n with
        | some l => (match ixN l.length i with | some j => .nx ⟨E.e, st2.set n (.lst (l.set j d))⟩ | none => .bad)
        | none => .bad)
      | .exc c l st => .exc c l ⟨E.e, st⟩
      | _ => .bad)
    | .exc c l st => .exc c l ⟨E.e, st⟩
    | _ => .bad)
  | .exc c l st => .exc c l ⟨E.e, st⟩
  | .bad => .bad := rfl
@[simp] theorem e_dIter {f : En → ER} {E : En} : dIter f E = match f E with
  | .val .B _ _ => .bad
  | .val _ d st => (match itemsOf d with | some l => .ok true l st | none => .bad)
  | .exc c l st => .exc c l st
  | .bad => .bad := rfl
@[simp] theorem e_dRng {r : List D → Option (Int × Nat)} {f : En → AR} {E : En} : dRng r f E = match f E with
  | .ok _ l st => (match r l with | some r => .ok true (rangeD r.1 r.2) st | none => .bad)
  | .exc c l st => .exc c l st
  | _ => .bad := rfl
@[simp] theorem e_dEnum {f : En → AR} {E : En} : dEnum f E = match f E with
  | .ok true [.lst l] st => .ok true (enumD 0 l) st
  | .exc c l st => .exc c l st
  | _ => .bad := rfl
@[simp] theorem e_dZip {f : En → AR} {E : En} : dZip f E = match f E with
  | .ok true [.lst l, .lst m] st => .ok true (zipD l m) st
  | .exc c l st => .exc c l st
  | _ => .bad := rfl
@[simp] theorem e_sFor {src : En → AR} {t : D → DE → Option DE} {b : En → SR} {E : En} : sFor src t b E = match src E with
  | .ok _ l st => forD (tgB t b) l ⟨E.e, st⟩
  | .exc c l st => .exc c l ⟨E.e, st⟩
  | .bad => .bad := rfl
@[simp] theorem e_dLc {src : En → AR} {t : D → DE → Option DE} {c f : En → ER} {vs : List Nat} {E : En} : dLc src t c f vs E = match src E with
  | .ok _ l st => if l.length ≤ 1000000 then ofOpt (lcGo (lcStep t c f (wipeE E.e vs)) l st) fun r => .val .N (.lst r.1) r.2 else .bad
  | .exc k l st => .exc k l st
  | .bad => .bad := rfl
@[simp] theorem e_sRaise {c : Nat} {E : En} : sRaise c E = .exc c [] E := rfl
@[simp] theorem e_dCallG {F : List D → Sto → ER} {n m : Nat} {idx : List Nat} {dd : List D} {f g : En → AR} {E : En} : dCallG F n m idx dd f g E = match f E with
  | .ok true l st => (match g ⟨E.e, st⟩ with
    | .ok true z st1 => if l.length = n ∧ z.length = m then F (pickL idx (l ++ z ++ dd)) st1 else .bad
    | .exc c l st => .exc c l st
    | _ => .bad)
  | .exc c l st => .exc c l st
  | _ => .bad := rfl
@[simp] theorem e_dIsi {T : String} {f : En → ER} {E : En} : dIsi T f E = (f E).bind (isT T) := rfl
@[simp] theorem e_sTryAs {i : Nat} {catch? : Nat → Option Bool} {g : En → SR} {h : Nat → List D → En → SR} {E : En} : sTryAs i catch? g h E = match g E with
  | .exc c l E1 => (match catch? c with
    | some true => (match h c l ⟨(clr E1.e).set i .exn, E1.st⟩ with
      | .nx E2 => .nx ⟨(clr E2.e).set i .emp, E2.st⟩
      | .bk E2 => .bk ⟨(clr E2.e).set i .emp, E2.st⟩
      | .ct E2 => .ct ⟨(clr E2.e).set i .emp, E2.st⟩
      | .rt m d st => .rt m d st
      | _ => .bad)
    | some false => .exc c l E1
    | none => .bad)
  | r => r := rfl
@[simp] theorem e_dIsE {i : Nat} {b : Option Bool} {E : En} : dIsE i b E = match E.e[i]? with
  | some .exn => ofOpt b fun b => .val .P (.bl b) E.st
  | _ => .bad := rfl
@[simp] theorem e_dMtP {op : List D → List D → Option (D × List D)} {fb : En → ER} {fa : En → AR} {E : En} : dMtP op fb fa E = match fb E with
  | .val _ (.ptr n) st => (match stLst st n with
    | some _ => (match fa ⟨E.e, st⟩ with
      | .ok true ds st1 => (match stLst st1 n with
        | some l => (match op l ds with | some o => .val .P o.1 (st1.set n (.lst o.2)) | none => .bad)
        | none => .bad)
      | .exc c l st => .exc c l st
      | _ => .bad)
    | none => .bad)
  | .exc c l st => .exc c l st
  | _ => .bad := rfl
@[simp] theorem e_sMtO {j : Option Nat} {op : List D → List D → Option (D × List D)} {i : Nat} {fa : En → AR} {E : En} : sMtO j op i fa E = match E.e[i]? with
  | some (.own l) => (match fa E with
    | .ok true ds st1 => (match op l ds with | some o => .nx ⟨putAt j o.1 (E.e.set i (.own o.2)), st1⟩ | none => .bad)
    | .exc c l st => .exc c l ⟨E.e, st⟩
    | _ => .bad)
  | _ => .bad := rfl
@[simp] theorem e_sMt {op : List D → List D → Option (D × List D)} {i : Nat} {fa : En → AR} {E : En} : sMt op i fa E = match E.e[i]? with
  | some (.own _) => sMtO none op i fa E
  | _ => sDrop (dMtP op (dVar i) fa) E := rfl
@[simp] theorem e_sMtA {j : Nat} {op : List D → List D → Option (D × List D)} {i : Nat} {fa : En → AR} {E : En} : sMtA j op i fa E = match E.e[i]? with
  | some (.own _) => sMtO (some j) op i fa E
  | _ => sSetF j (dMtP op (dVar i) fa) E := rfl
@[simp] theorem e_dFld {ix : Nat → Option Nat} {fe : En → ER} {E : En} : dFld ix fe E = (fe E).bind fun x st => match x with
  | .ptr n => (match stIns st n with
    | some (c, l) => (match ix c with
      | some i => ofOpt l[i]? fun d => .val .P d st
      | none => .bad)
    | none => .bad)
  | _ => .bad := rfl
@[simp] theorem e_sFldS {ix : Nat → Option Nat} {fo fe : En → ER} {E : En} : sFldS ix fo fe E = match fe E with
  | .val .B _ _ => .bad
  | .val _ d st => (match fo ⟨E.e, st⟩ with
    | .val _ (.ptr n) st1 => (match stIns st1 n with
      | some (c, l) => (match ix c with
        | some i => (match putI i d l with
          | some l' => .nx ⟨E.e, st1.set n (.ins c l')⟩
          | none => .bad)
        | none => .bad)
      | none => .bad)
    | .exc c l st => .exc c l ⟨E.e, st⟩
    | _ => .bad)
  | .exc c l st => .exc c l ⟨E.e, st⟩
  | .bad => .bad := rfl
@[simp] theorem e_dMeth {c : Nat} {F : List D → Sto → ER} {n r : Nat} {idx : List Nat} {dd : List D} {fo : En → ER} {fa fk : En → AR} {E : En} : dMeth c F n r idx dd fo fa fk E = (fo E).bind fun x st => match x with
  | .ptr p => (match stIns st p with
    | some (c', _) => if c' = c then (match fa ⟨E.e, st⟩ with
      | .ok true l st1 => (match fk ⟨E.e, st1⟩ with
        | .ok true z st2 => if l.length + 1 = n ∧ z.length = r then F (pickL idx ((.ptr p :: l) ++ z ++ dd)) st2 else .bad
        | .exc c l st => .exc c l st
        | _ => .bad)
      | .exc c l st => .exc c l st
      | _ => .bad) else .bad
    | none => .bad)
  | _ => .bad := rfl
@[simp] theorem e_dAlt {p : En → Bool} {f g : En → ER} {E : En} : dAlt p f g E = if p E = true then f E else g E := rfl
@[simp] theorem e_dMake {c : Nat} {F : List D → Sto → ER} {n r : Nat} {idx : List Nat} {dd : List D} {fa fk : En → AR} {E : En} : dMake c F n r idx dd fa fk E = match fa E with
  | .ok true l st => (match fk ⟨E.e, st⟩ with
    | .ok true z st1 => if l.length + 1 = n ∧ z.length = r then (match F (pickL idx ((.ptr st1.length :: l) ++ z ++ dd)) (st1 ++ [.ins c []]) with
      | .val _ .non st2 => .val .P (.ptr st1.length) st2
      | .exc c l st => .exc c l st
      | _ => .bad) else .bad
    | .exc c l st => .exc c l st
    | _ => .bad)
  | .exc c l st => .exc c l st
  | _ => .bad := rfl
@[simp] theorem e_oAll_1 : ∀ l st, oAll ([.lst l]) st = ofOpt (boolsOf l) fun ns => .val .P (.bl (ns.all id)) st := fun _ _ => rfl
@[simp] theorem e_oAny_1 : ∀ l st, oAny ([.lst l]) st = ofOpt (boolsOf l) fun ns => .val .P (.bl (ns.any id)) st := fun _ _ => rfl
@[simp] theorem e_oRev_1 : ∀ l st, oRev (.lst l) st = .val .N (.lst l.reverse) st := fun _ _ => rfl
@[simp] theorem e_oRev_2 : ∀ n st, oRev (.ptr n) st = ofOpt (stLst st n) fun l => .val .N (.lst l.reverse) st := fun _ _ => rfl
@[simp] theorem e_dRev {f : En → ER} {E : En} : dRev f E = (f E).bind oRev := rfl
@[simp] theorem e_dMtX {op : List D → List D → Option (D × List D)} {fb : En → ER} {fa : En → AR} {E : En} : dMtX op fb fa E = match fb E with
  | .val .N (.lst l) st => (match fa ⟨E.e, st⟩ with
    | .ok true ds st1 => (match op l ds with | some o => .val .P o.1 st1 | none => .bad)
    | .exc c l st => .exc c l st
    | _ => .bad)
  | _ => dMtP op fb fa E := rfl
@[simp] theorem e_oSorted_1 : ∀ l st, oSorted ([.lst l]) st = ofOpt (intsOf l) fun ns => if ns.length < 64 then .val .N (.lst ((srt ns).map .int)) st else .bad := fun _ _ => rfl
@[simp] theorem e_dLr {f : En → ER} {E : En} : dLr f E = match f E with
  | .val _ (.int n) st => if -4611686018427387904 ≤ n ∧ n ≤ 1000000 then .val .N (.lst (rangeD 0 n.toNat)) st else .bad
  | .exc c l st => .exc c l st
  | _ => .bad := rfl
@[simp] theorem e_dHeld {i : Nat} {h : List (Option D) → D → D → Sto → ER} {fa : En → AR} {E : En} : dHeld i h fa E = match E.e[i]? with
  | some (.clo ds) => (match fa E with
    | .ok true [x, y] st => h ds x y st
    | .exc c l st => .exc c l st
    | _ => .bad)
  | _ => .bad := rfl
@[simp] theorem e_dLamC {np : Nat} {q : Str} {N : Nat} {g : En → SR} {f1 : En → ER} {E : En} : dLamC np q N g f1 E = match f1 E with
  | .val .B _ _ => .bad
  | .val _ d1 st => (match st[np]? with
    | some (.tbl q') => if q' = q then valOnly (g ⟨startL N d1 (cloOf E.e), st⟩).ret else .bad
    | _ => .bad)
  | .exc c l st => .exc c l st
  | .bad => .bad := rfl
@[simp] theorem e_dLenX {Os : OwnL} {f : En → ER} {E : En} : dLenX Os f E = match f E with
  | .val _ (.ptr n) st => (match stIns st n with
    | some (c, _) => ofOpt (ownF Os c) fun F => asLen (F [.ptr n] st)
    | none => oLen [.ptr n] st)
  | .val _ d st => oLen [d] st
  | .exc c l st => .exc c l st
  | .bad => .bad := rfl
@[simp] theorem e_oInt_1 : ∀ i st, oInt ([.int i]) st = .val .P (.int i) st := fun _ _ => rfl
@[simp] theorem e_oInt_2 : ∀ b st, oInt ([.bl b]) st = .val .P (.int (if b then 1 else 0)) st := fun _ _ => rfl
@[simp] theorem e_oInt_3 : ∀ a st, oInt ([.str a]) st = if a.length ≤ 640 then ofOpt (PySem.intText? a) fun n => .val .P (.int n) st else .bad := fun _ _ => rfl
@[simp] theorem e_oStr_1 : ∀ i st, oStr ([.int i]) st = if i.natAbs.log2 < 1920 then .val .P (.str (itxt i)) st else .bad := fun _ _ => rfl
@[simp] theorem e_oStr_2 : ∀ a st, oStr ([.str a]) st = .val .P (.str a) st := fun _ _ => rfl
@[simp] theorem e_dStrX {Os : OwnL} {f : En → ER} {E : En} : dStrX Os f E = match f E with
  | .val _ (.ptr n) st => (match stIns st n with
    | some (c, _) => ofOpt (ownF Os c) fun F => asStr (F [.ptr n] st)
    | none => .bad)
  | .val _ d st => oStr [d] st
  | .exc c l st => .exc c l st
  | .bad => .bad := rfl
@[simp] theorem e_dIsO {tab : Nat → Option Bool} {f : En → ER} {E : En} : dIsO tab f E = (f E).bind (isO tab) := rfl
@[simp] theorem e_dEqO {Os : OwnL} {Cs : List Nat} {neg : Bool} {o : D → D → Sto → ER} {f g : En → ER} {E : En} : dEqO Os Cs neg o f g E = match f E with
  | .val _ x st => (match g ⟨E.e, st⟩ with
    | .val m y st1 => eqO2 Os Cs neg o m x y st1
    | .exc c l st => .exc c l st
    | .bad => .bad)
  | .exc c l st => .exc c l st
  | .bad => .bad := rfl
@[simp] theorem e_dMs {op : Str → List D → Sto → ER} {fb : En → ER} {fa : En → AR} {E : En} : dMs op fb fa E = match fb E with
  | .val _ (.str x) st => (match fa ⟨E.e, st⟩ with
    | .ok _ ds st1 => op x ds st1
    | .exc c l st => .exc c l st
    | .bad => .bad)
  | .exc c l st => .exc c l st
  | _ => .bad := rfl
@[simp] theorem e_dFmt {f : En → ER} {E : En} : dFmt f E = match f E with
  | .val _ (.str y) st => if y.length ≤ 1000000 then .val .P (.str y) st else .bad
  | .val _ (.int i) st => if i.natAbs.log2 < 1920 then .val .P (.str (itxt i)) st else .bad
  | .exc c l st => .exc c l st
  | _ => .bad := rfl
@[simp] theorem e_dJs {fs : List (En → ER)} {E : En} : dJs fs E = jsGo fs Str.empty E.e E.st := rfl
@[simp] theorem e_dIsiP {T : String} {f : En → ER} {E : En} : dIsiP T f E = (f E).bind (isTP T) := rfl
@[simp] theorem e_sSkip {E : En} : sSkip E = .nx E := rfl
@[simp] theorem e_sBreak {E : En} : sBreak E = .bk E := rfl
@[simp] theorem e_sCont {E : En} : sCont E = .ct E := rfl
@[simp] theorem cons_P {d : D} {st : Sto} {a : Sto → AR} : (ER.val .P d st).cons a = (a st).cons true d := rfl
@[simp] theorem cons_N {d : D} {st : Sto} {a : Sto → AR} : (ER.val .N d st).cons a = (a st).cons true d := rfl
@[simp] theorem cons_B {d : D} {st : Sto} {a : Sto → AR} : (ER.val .B d st).cons a = (a st).cons false d := rfl
@[simp] theorem cons_exc {k : Nat} {l : List D} {st : Sto} {a : Sto → AR} : (ER.exc k l st).cons a = .exc k l st := rfl
@[simp] theorem cons_bad {a : Sto → AR} : ER.bad.cons a = .bad := rfl
@[simp] theorem acons_ok {p q : Bool} {d : D} {l : List D} {st : Sto} : (AR.ok q l st).cons p d = .ok (p && q) (d :: l) st := rfl
@[simp] theorem acons_exc {p : Bool} {d : D} {k : Nat} {l : List D} {st : Sto} : (AR.exc k l st).cons p d = .exc k l st := rfl
@[simp] theorem acons_bad {p : Bool} {d : D} : AR.bad.cons p d = .bad := rfl
@[simp] theorem e_pickNil {α : Type} {l : List α} : pickL [] l = [] := rfl
@[simp] theorem e_pickCons {α : Type} {k : Nat} {ks : List Nat} {l : List α} : pickL (k :: ks) l = (match l[k]? with | some x => [x] | none => []) ++ pickL ks l := by
  unfold pickL; rw [List.filterMap_cons]; cases l[k]? <;> rfl
@[simp] theorem e_part0 {st : Sto} : partI none st = some (none, st) := rfl
@[simp] theorem e_partI {m : Md} {i : Int} {st st1 : Sto} : partI (some (.val m (.int i) st1)) st = some (some i, st1) := rfl
@[simp] theorem e_tgN {i : Nat} {e : DE} {d : D} : tgN i d e = some (e.set i (.val d)) := rfl
@[simp] theorem e_tgsNil {e : DE} : tgsNil [] e = some e := rfl
@[simp] theorem e_tgsCons {e : DE} {q : D → DE → Option DE} {qs : List D → DE → Option DE} {d : D} {l : List D} : tgsCons q qs (d :: l) e = (q d e).bind (qs l) := rfl
@[simp] theorem e_tgTt {e : DE} {n : Nat} {qs : List D → DE → Option DE} {l : List D} : tgT n qs (.tup l) e = if l.length = n then qs l e else none := rfl
@[simp] theorem e_tgTl {e : DE} {n : Nat} {qs : List D → DE → Option DE} {l : List D} : tgT n qs (.lst l) e = if l.length = n then qs l e else none := rfl
@[simp] theorem e_tgB {E : En} {s : En → SR} {q : D → DE → Option DE} {d : D} : tgB q s d E = match q d E.e with | some e' => s ⟨e', E.st⟩ | none => .bad := rfl
@[simp] theorem e_for0 {b : D → En → SR} {E : En} : forD b [] E = .nx E := rfl
theorem e_forC {b : D → En → SR} {x : D} {xs : List D} {E : En} : forD b (x :: xs) E = match b x E with | .nx e' => forD b xs e' | .ct e' => forD b xs e' | .bk e' => .nx e' | r => r := rfl
@[simp] theorem e_itL {l : List D} : itemsOf (.lst l) = some l := rfl
@[simp] theorem e_itT {l : List D} : itemsOf (.tup l) = some l := rfl
@[simp] theorem e_itS {z : Str} : itemsOf (.str z) = some (z.cps.toList.map fun c => .str ⟨#[c]⟩) := rfl
@[simp] theorem e_itR {l : List Int} : itemsOf (.scr l) = some (l.map .int) := rfl
@[simp] theorem e_rng1 {j : Int} : rng1 [.int j] = if -(2 ^ 62) ≤ j ∧ j < 2 ^ 62 then some (0, j.toNat) else none := rfl
@[simp] theorem e_rng2 {i j : Int} : rng2 [.int i, .int j] = if -(2 ^ 62) ≤ i ∧ i < 2 ^ 62 ∧ -(2 ^ 62) ≤ j ∧ j < 2 ^ 62 then some (i, (j - i).toNat) else none := rfl
@[simp] theorem e_wipe0 {e : DE} : wipeE e [] = e := rfl
@[simp] theorem e_wipeC {e : DE} {v : Nat} {vs : List Nat} : wipeE e (v :: vs) = (wipeE e vs).set v .emp := rfl
@[simp] theorem e_lc0 {k : D → Sto → Option (Option D × Sto)} {st : Sto} : lcGo k [] st = some ([], st) := rfl
theorem e_lcC {k : D → Sto → Option (Option D × Sto)} {d : D} {l : List D} {st : Sto} : lcGo k (d :: l) st = (k d st).bind fun o => (lcGo k l o.2).bind fun r => some (o.1.toList ++ r.1, r.2) := rfl
@[simp] theorem e_lcStep {q : D → DE → Option DE} {c f : En → ER} {e : DE} {d : D} {st : Sto} : lcStep q c f e d st = match q d e with
  | none => none
  | some e2 => (match c ⟨e2, st⟩ with
    | .val _ (.bl b) st1 => if b = true then (match f ⟨e2, st1⟩ with | .val .P y st2 => some (some y, st2) | .val .N y st2 => some (some y, st2) | _ => none) else some (none, st1)
    | _ => none) := rfl
@[simp] theorem e_nilOnly {s : En → SR} {E : En} : nilOnly [] s E = s E := rfl
@[simp] theorem e_clr0 : clr [] = [] := rfl
@[simp] theorem e_clrC {x : SL} {r : DE} : clr (x :: r) = (match x with | .exn => .emp | .clo _ => .emp | s => s) :: clr r := rfl
@[simp] theorem e_ret_nx {E : En} : (SR.nx E).ret = .val .P .non E.st := rfl
@[simp] theorem e_ret_rt {m : Md} {d : D} {st : Sto} : (SR.rt m d st).ret = .val m d st := rfl
@[simp] theorem e_ret_exc {k : Nat} {l : List D} {E : En} : (SR.exc k l E).ret = .exc k l E.st := rfl
@[simp] theorem e_ret_bad : SR.bad.ret = .bad := rfl
@[simp] theorem e_fnD {n m : Nat} {s : En → SR} {ds : List D} {st : Sto} : fnD n m s ds st = if ds.length = n then (s ⟨startE m ds, st⟩).ret else .bad := rfl
@[simp] theorem e_startE {n : Nat} {ds : List D} : startE n ds = ds.map .val ++ List.replicate (n - ds.length) .emp := rfl
@[simp] theorem e_frz {i : Nat} {e : DE} : frz i e = match e[i]? with | some (.own l) => e.set i (.val (.lst l)) | _ => e := rfl
@[simp] theorem e_sSetI {x : Nat} {f fi : En → ER} {E : En} : sSetI x f fi E = match E.e[x]? with | some (.own _) => sSetO x f fi E | _ => sSetP (dVar x) f fi E := rfl
@[simp] theorem e_stLst {st : Sto} {n : Nat} : stLst st n = match st[n]? with | some (.lst l) => some l | _ => none := rfl
@[simp] theorem e_slL {l : List D} {lo hi : Option Int} {st : Sto} : oSl (.lst l) lo hi st = .val .N (.lst (cutG l lo hi)) st := rfl
@[simp] theorem e_slR {l : List Int} {lo hi : Option Int} {st : Sto} : oSl (.scr l) lo hi st = .val .N (.lst ((cutG l lo hi).map .int)) st := rfl
@[simp] theorem e_slS {z : Str} {lo hi : Option Int} {st : Sto} : oSl (.str z) lo hi st = if z.length ≤ 1000000 then .val .P (.str (cutS z lo hi)) st else .bad := rfl
@[simp] theorem e_isN {a : D} {st : Sto} : oIsN a .non st = .val .P (.bl (isNon a)) st := rfl
@[simp] theorem e_notN {a : D} {st : Sto} : oNotN a .non st = .val .P (.bl (!isNon a)) st := rfl
@[simp] theorem isNon_non : isNon .non = true := rfl
@[simp] theorem isNon_int {i : Int} : isNon (.int i) = false := rfl
@[simp] theorem isNon_str {i : Str} : isNon (.str i) = false := rfl
@[simp] theorem isNon_lst {i : List D} : isNon (.lst i) = false := rfl
@[simp] theorem isNon_tup {i : List D} : isNon (.tup i) = false := rfl
@[simp] theorem isNon_obj {c : Nat} {i : List D} : isNon (.obj c i) = false := rfl
@[simp] theorem e_eqI {i j : Int} {st : Sto} : oEq (.int i) (.int j) st = .val .P (.bl (decide (i = j))) st := rfl
@[simp] theorem e_neI {i j : Int} {st : Sto} : oNe (.int i) (.int j) st = .val .P (.bl (!decide (i = j))) st := rfl
@[simp] theorem e_eqS {i j : Str} {st : Sto} : oEq (.str i) (.str j) st = .val .P (.bl (decide (i = j))) st := rfl
@[simp] theorem e_neS {i j : Str} {st : Sto} : oNe (.str i) (.str j) st = .val .P (.bl (!decide (i = j))) st := rfl
theorem kit_ii : kitB "int" "int" = some true := by decide +kernel
theorem kit_ib : kitB "int" "bool" = some false := by decide +kernel
theorem kit_tt : kitB "tuple" "tuple" = some true := by decide +kernel
theorem kit_ll : kitB "list" "list" = some true := by decide +kernel
theorem kit_ss : kitB "str" "str" = some true := by decide +kernel
theorem kit_si : kitB "str" "int" = some false := by decide +kernel
theorem kit_is : kitB "int" "str" = some false := by decide +kernel
theorem kit_ti : kitB "tuple" "int" = some false := by decide +kernel
theorem kit_it : kitB "int" "tuple" = some false := by decide +kernel
@[simp] theorem e_is_ii {i : Int} {st : Sto} : isT "int" (.int i) st = .val .P (.bl true) st := by simp only [isT, tyN, kit_ii, ofOpt_some]
@[simp] theorem e_is_ib {i : Int} {st : Sto} : isT "bool" (.int i) st = .val .P (.bl false) st := by simp only [isT, tyN, kit_ib, ofOpt_some]
@[simp] theorem e_is_tt {l : List D} {st : Sto} : isT "tuple" (.tup l) st = .val .P (.bl true) st := by simp only [isT, tyN, kit_tt, ofOpt_some]
@[simp] theorem e_is_ll {l : List D} {st : Sto} : isT "list" (.lst l) st = .val .P (.bl true) st := by simp only [isT, tyN, kit_ll, ofOpt_some]
@[simp] theorem e_is_ss {l : Str} {st : Sto} : isT "str" (.str l) st = .val .P (.bl true) st := by simp only [isT, tyN, kit_ss, ofOpt_some]
@[simp] theorem e_is_is {i : Int} {st : Sto} : isT "str" (.int i) st = .val .P (.bl false) st := by simp only [isT, tyN, kit_is, ofOpt_some]
@[simp] theorem e_is_it {i : Int} {st : Sto} : isT "tuple" (.int i) st = .val .P (.bl false) st := by simp only [isT, tyN, kit_it, ofOpt_some]
@[simp] theorem e_is_si {l : Str} {st : Sto} : isT "int" (.str l) st = .val .P (.bl false) st := by simp only [isT, tyN, kit_si, ofOpt_some]
@[simp] theorem e_is_ti {l : List D} {st : Sto} : isT "int" (.tup l) st = .val .P (.bl false) st := by simp only [isT, tyN, kit_ti, ofOpt_some]
theorem eqAny_of {a b : D} {r : Bool} {st : Sto} (hs : scalD a b = false) (h1 : isPy a = true) (h2 : isPy b = true) (h3 : SeqAt.shaped (py a) = true) (h4 : SeqAt.shaped (py b) = true) (he : PyData.eqv (py a) (py b) = r) : oEq a b st = .val .P (.bl r) st := by
  unfold oEq eqAny
  rw [if_neg (by rw [hs]; exact Bool.false_ne_true), if_pos ⟨h1, h2, h3, h4⟩, he]
theorem py_ints : ∀ l : List Int, pyL (l.map D.int) = l.map PyData.int
  | [] => rfl
  | i :: l => by simp [pyL, py, py_ints l]
theorem isPy_ints : ∀ l : List Int, isPyL (l.map D.int) = true
  | [] => rfl
  | i :: l => by simp [isPyL, isPy, isPy_ints l]
theorem eqv_ints : ∀ l m : List Int, PyData.eqvAll (l.map PyData.int) (m.map PyData.int) = decide (l = m)
  | [], [] => by simp [PyData.eqvAll]
  | [], _ :: _ => by simp [PyData.eqvAll]
  | _ :: _, [] => by simp [PyData.eqvAll]
  | i :: l, j :: m => by
    simp only [List.map_cons, PyData.eqvAll, PyData.eqv, eqv_ints l m]
    by_cases h : i = j <;> simp [h]
theorem lay_ints : ∀ l : List Int, PyData.canLayAll0 (l.map PyData.int) = true
  | [] => by simp [PyData.canLayAll0]
  | i :: l => by simp [PyData.canLayAll0, PyData.canLay0, lay_ints l]
theorem depth_ints : ∀ l : List Int, PyData.depthAll (l.map PyData.int) = 0
  | [] => by simp [PyData.depthAll]
  | i :: l => by simp [PyData.depthAll, PyData.depth, depth_ints l]
theorem eq_tupInts (l m : List Int) (st : Sto) : oEq (.tup (l.map .int)) (.tup (m.map .int)) st = .val .P (.bl (decide (l = m))) st := by
  refine eqAny_of rfl ?_ ?_ ?_ ?_ ?_
  · simp [isPy, isPy_ints]
  · simp [isPy, isPy_ints]
  · simp [SeqAt.shaped, py, py_ints, PyData.canLay0, PyData.depth, lay_ints, depth_ints]
  · simp [SeqAt.shaped, py, py_ints, PyData.canLay0, PyData.depth, lay_ints, depth_ints]
  · simp [py, py_ints, PyData.eqv, eqv_ints]
@[simp] theorem eq_tup2 {a b c d : Int} {st : Sto} : oEq (.tup [.int a, .int b]) (.tup [.int c, .int d]) st = .val .P (.bl (decide (a = c ∧ b = d))) st := by
  have h := eq_tupInts [a, b] [c, d] st
  simp only [List.map_cons, List.map_nil] at h
  rw [h]
  simp
theorem ne_of_eq {a b : D} {st : Sto} {r : Bool} (h : oEq a b st = .val .P (.bl r) st) : oNe a b st = .val .P (.bl (!r)) st := by
  unfold oEq at h; unfold oNe
  cases q : eqAny a b with
  | none => rw [q] at h; cases h
  | some x => rw [q] at h; cases h; rfl
@[simp] theorem ne_tup2 {a b c d : Int} {st : Sto} : oNe (.tup [.int a, .int b]) (.tup [.int c, .int d]) st = .val .P (.bl (!decide (a = c ∧ b = d))) st := ne_of_eq eq_tup2
@[simp] theorem e_stIns {st : Sto} {n : Nat} : stIns st n = match st[n]? with | some (.ins c l) => some (c, l) | _ => none := rfl
@[simp] theorem e_putI {i : Nat} {d : D} {l : List D} : putI i d l = if i < l.length then some (l.set i d) else if i = l.length then some (l ++ [d]) else none := rfl
@[simp] theorem e_mAppend {l : List D} {d : D} : mAppend l [d] = if l.length < 1000000 then some (.non, l ++ [d]) else none := rfl
@[simp] theorem e_mInsert {l : List D} {i : Int} {d : D} : mInsert l [.int i, d] = if l.length < 1000000 ∧ 0 ≤ i ∧ i < 2 ^ 63 then some (.non, l.take i.toNat ++ [d] ++ l.drop i.toNat) else none := rfl
@[simp] theorem e_mPop {l : List D} : mPop l [] = match l[l.length - 1]? with | some d => some (d, l.dropLast) | none => none := rfl
@[simp] theorem e_mPopAt {l : List D} {i : Int} : mPopAt l [.int i] = if -(2 ^ 63) ≤ i ∧ i < 2 ^ 63 then (match seqIndex? i l.length with | some k => (match l[k]? with | some d => some (d, l.eraseIdx k) | none => none) | none => none) else none := rfl
@[simp] theorem e_mReverse {l : List D} : mReverse l [] = some (.non, l.reverse) := rfl
@[simp] theorem e_putAt0 {d : D} {e : DE} : putAt none d e = e := rfl
@[simp] theorem e_putAt1 {d : D} {e : DE} {j : Nat} : putAt (some j) d e = e.set j (.val d) := rfl
@[simp] theorem e_isC {c : Nat} {fo : En → ER} {E : En} : isC c fo E = match fo E with
  | .val _ (.ptr n) st => (match stIns st n with | some (c', _) => c' == c | none => false)
  | _ => false := rfl
@[simp] theorem e_dIterV {i : Nat} {E : En} : dIterV i E = match E.e[i]? with
  | some (.own l) => .ok false l E.st
  | _ => dIter (dVar i) E := rfl
@[simp] theorem e_mClear {l : List D} : mClear l [] = some (.non, []) := rfl
@[simp] theorem boolsOf_map {α : Type} (f : α → Bool) : ∀ l : List α, boolsOf (l.map fun a => .bl (f a)) = some (l.map f)
  | [] => rfl
  | a :: l => by simp [boolsOf, boolsOf_map f l]
@[simp] theorem e_oIn_1 {a : D} {l : List D} {st : Sto} : oIn a (.lst l) st = ofOpt (inL a l) fun r => .val .P (.bl r) st := rfl
@[simp] theorem e_oIn_2 {a : D} {n : Nat} {st : Sto} : oIn a (.ptr n) st = ofOpt (stLst st n) fun l => ofOpt (inL a l) fun r => .val .P (.bl r) st := rfl
@[simp] theorem e_oNotIn_1 {a : D} {l : List D} {st : Sto} : oNotIn a (.lst l) st = ofOpt (inL a l) fun r => .val .P (.bl (!r)) st := rfl
@[simp] theorem e_oNotIn_2 {a : D} {n : Nat} {st : Sto} : oNotIn a (.ptr n) st = ofOpt (stLst st n) fun l => ofOpt (inL a l) fun r => .val .P (.bl (!r)) st := rfl
@[simp] theorem e_cloOf0 : cloOf [] = [] := rfl
@[simp] theorem e_cloOfC {x : SL} {r : DE} : cloOf (x :: r) = (match x with | .val d => some d | _ => none) :: cloOf r := rfl
@[simp] theorem e_cloE {ds : List (Option D)} {ja jb : Nat} {x y : D} : cloE ds ja jb x y = ((ds.map slO).set ja (.val x)).set jb (.val y) := rfl
@[simp] theorem e_slO1 {d : D} : slO (some d) = .val d := rfl
@[simp] theorem e_slO0 : slO none = .emp := rfl
@[simp] theorem e_startL {n : Nat} {d : D} {ds : List (Option D)} : startL n d ds = .val d :: .clo ds :: List.replicate (n - 2) .emp := rfl
@[simp] theorem e_valOnly {m : Md} {d : D} {st : Sto} : valOnly (.val m d st) = .val m d st := rfl
@[simp] theorem e_sBad {E : En} : sBad E = .bad := rfl
@[simp] theorem e_dBad {E : En} : dBad E = .bad := rfl
@[simp] theorem e_sForX {f : En → ER} {t : D → DE → Option DE} {b : En → SR} {E : En} : sForX f t b E = match f E with
  | .val _ (.ptr n) st => (match stLst st n with | some l => forPD n l (tgB t b) l ⟨E.e, st⟩ | none => .bad)
  | _ => sFor (dIter f) t b E := rfl
@[simp] theorem e_derefL {st : Sto} {l : List D} : deref st (.lst l) = .lst l := rfl
@[simp] theorem e_derefT {st : Sto} {l : List D} : deref st (.tup l) = .tup l := rfl
@[simp] theorem e_derefI {st : Sto} {i : Int} : deref st (.int i) = .int i := rfl
@[simp] theorem e_derefS {st : Sto} {x : Str} : deref st (.str x) = .str x := rfl
@[simp] theorem e_derefB {st : Sto} {x : Bool} : deref st (.bl x) = .bl x := rfl
@[simp] theorem e_derefN {st : Sto} : deref st .non = .non := rfl
@[simp] theorem e_derefP {st : Sto} {n : Nat} : deref st (.ptr n) = (match stLst st n with | some l => .lst l | none => .ptr n) := rfl
@[simp] theorem e_oEqX {a b : D} {st : Sto} : oEqX a b st = oEq (deref st a) (deref st b) st := rfl
@[simp] theorem e_oNeX {a b : D} {st : Sto} : oNeX a b st = oNe (deref st a) (deref st b) st := rfl
@[simp] theorem e_ownF0 {c : Nat} : ownF [] c = none := rfl
@[simp] theorem e_ownFC {c c' : Nat} {F : List D → Sto → ER} {l : OwnL} : ownF ((c', F) :: l) c = if c = c' then some F else ownF l c := rfl
@[simp] theorem e_asLen {m : Md} {i : Int} {st : Sto} : asLen (.val m (.int i) st) = if 0 ≤ i ∧ i < 2 ^ 63 then .val .P (.int i) st else .bad := rfl
@[simp] theorem e_asStr {m : Md} {i : Str} {st : Sto} : asStr (.val m (.str i) st) = .val .P (.str i) st := rfl
@[simp] theorem e_asBl {m : Md} {i n : Bool} {st : Sto} : asBl n (.val m (.bl i) st) = .val .P (.bl (i != n)) st := rfl
@[simp] theorem e_isOP {t : Nat → Option Bool} {n : Nat} {st : Sto} : isO t (.ptr n) st = (match stIns st n with | some (c, _) => ofOpt (t c) fun b => .val .P (.bl b) st | none => (match stLst st n with | some _ => .val .P (.bl false) st | none => .bad)) := rfl
@[simp] theorem e_isON {t : Nat → Option Bool} {st : Sto} : isO t .non st = .val .P (.bl false) st := rfl
@[simp] theorem e_isOI {t : Nat → Option Bool} {i : Int} {st : Sto} : isO t (.int i) st = .val .P (.bl false) st := rfl
@[simp] theorem e_isOB {t : Nat → Option Bool} {i : Bool} {st : Sto} : isO t (.bl i) st = .val .P (.bl false) st := rfl
@[simp] theorem e_isOS {t : Nat → Option Bool} {i : Str} {st : Sto} : isO t (.str i) st = .val .P (.bl false) st := rfl
@[simp] theorem e_isOT {t : Nat → Option Bool} {l : List D} {st : Sto} : isO t (.tup l) st = .val .P (.bl false) st := rfl
@[simp] theorem e_isOL {t : Nat → Option Bool} {l : List D} {st : Sto} : isO t (.lst l) st = .val .P (.bl false) st := rfl
@[simp] theorem e_eqArgP {Cs : List Nat} {n : Nat} {st : Sto} : eqArg Cs (.ptr n) st = (match stIns st n with | some (c, _) => Cs.contains c | none => false) := rfl
@[simp] theorem e_eqArgN {Cs : List Nat} {st : Sto} : eqArg Cs .non st = true := rfl
@[simp] theorem e_eqArgI {Cs : List Nat} {i : Int} {st : Sto} : eqArg Cs (.int i) st = true := rfl
@[simp] theorem e_eqArgB {Cs : List Nat} {i : Bool} {st : Sto} : eqArg Cs (.bl i) st = true := rfl
@[simp] theorem e_eqArgS {Cs : List Nat} {i : Str} {st : Sto} : eqArg Cs (.str i) st = true := rfl
@[simp] theorem e_eqArgT {Cs : List Nat} {i : List D} {st : Sto} : eqArg Cs (.tup i) st = true := rfl
@[simp] theorem e_eqArgL {Cs : List Nat} {i : List D} {st : Sto} : eqArg Cs (.lst i) st = true := rfl
@[simp] theorem e_eqO2P {Os : OwnL} {Cs : List Nat} {neg : Bool} {o : D → D → Sto → ER} {m : Md} {n : Nat} {y : D} {st : Sto} : eqO2 Os Cs neg o m (.ptr n) y st = (match stIns st n with
    | some (c, _) => ofOpt (ownF Os c) fun F => if m ≠ .B ∧ eqArg Cs y st = true then asBl neg (F [.ptr n, y] st) else .bad
    | none => o (.ptr n) y st) := rfl
@[simp] theorem e_eqO2I {Os : OwnL} {Cs : List Nat} {neg : Bool} {o : D → D → Sto → ER} {m : Md} {i : Int} {y : D} {st : Sto} : eqO2 Os Cs neg o m (.int i) y st = o (.int i) y st := rfl
@[simp] theorem e_eqO2L {Os : OwnL} {Cs : List Nat} {neg : Bool} {o : D → D → Sto → ER} {m : Md} {i : List D} {y : D} {st : Sto} : eqO2 Os Cs neg o m (.lst i) y st = o (.lst i) y st := rfl
@[simp] theorem e_rowsOf {α : Type} {f g : α → Int} : ∀ l : List α, rowsOf (l.map fun a => .tup [.int (f a), .int (g a)]) = some (l.map fun a => (f a, g a))
  | [] => rfl
  | a :: l => by simp only [List.map_cons, rowsOf, e_rowsOf l]; rfl
@[simp] theorem e_strsOf {α : Type} {f : α → Str} : ∀ l : List α, strsOf (l.map fun a => .str (f a)) = some (l.map f)
  | [] => rfl
  | a :: l => by simp only [List.map_cons, strsOf, e_strsOf l]; rfl
@[simp] theorem e_seqL {l : List D} {st : Sto} : seqStrs (.lst l) st = strsOf l := rfl
@[simp] theorem e_seqT {l : List D} {st : Sto} : seqStrs (.tup l) st = strsOf l := rfl
@[simp] theorem e_seqP {n : Nat} {st : Sto} : seqStrs (.ptr n) st = (stLst st n).bind strsOf := rfl
@[simp] theorem e_js0 {a : Str} {e : DE} {st : Sto} : jsGo [] a e st = .val .P (.str a) st := rfl
@[simp] theorem e_jsC {f : En → ER} {fs : List (En → ER)} {acc : Str} {e : DE} {st : Sto} : jsGo (f :: fs) acc e st = match f ⟨e, st⟩ with
    | .val _ (.str y) st1 => if (acc ++ y).length ≤ 1000000 then jsGo fs (acc ++ y) e st1 else .bad
    | .exc c l st => .exc c l st
    | _ => .bad := rfl
@[simp] theorem e_oSortedX {l : List D} {st : Sto} : oSortedX [.lst l] st = (match intsOf l with
    | some ns => if ns.length < 64 then .val .N (.lst ((srt ns).map .int)) st else .bad
    | none => ofOpt (rowsOf l) fun rs => .val .N (.lst ((srtP rs).map fun r => .tup [.int r.1, .int r.2])) st) := rfl
@[simp] theorem e_msJoin {a : Str} {d : D} {st : Sto} : msJoin a [d] st = ofOpt (seqStrs d st) fun ys => if (ys.map (·.length)).sum + ys.length * a.length ≤ 1000000 then .val .P (.str (Txt.join a ys)) st else .bad := rfl
@[simp] theorem e_msSplit {a b : Str} {st : Sto} : msSplit a [.str b] st = if (b.length == 0) = false ∧ a.length + 2 ≤ 1000000 then .val .N (.lst ((Txt.split a b).map .str)) st else .bad := rfl
@[simp] theorem e_msPartition {a b : Str} {st : Sto} : msPartition a [.str b] st = if (b.length == 0) = false ∧ a.length ≤ 1000000 then .val .P (.tup [.str (Txt.partition a b).1, .str (Txt.partition a b).2.1, .str (Txt.partition a b).2.2]) st else .bad := rfl
@[simp] theorem e_msCount {a b : Str} {st : Sto} : msCount a [.str b] st = .val .P (.int (Txt.count a b)) st := rfl
@[simp] theorem e_isTPp {T : String} {n : Nat} {st : Sto} : isTP T (.ptr n) st = (match stLst st n with | some _ => ofOpt (kitB "list" T) fun b => .val .P (.bl b) st | none => .bad) := rfl
@[simp] theorem e_isTPl {T : String} {l : List D} {st : Sto} : isTP T (.lst l) st = isT T (.lst l) st := rfl
@[simp] theorem e_isTPt {T : String} {l : List D} {st : Sto} : isTP T (.tup l) st = isT T (.tup l) st := rfl
end Dn
namespace Dn
open PySem PySem.Spec PyProof.Rows L2
def sThru (g : En → SR) : En → SR := fun E => match g E with
  | .exc _ _ _ => .bad
  | r => r
@[simp] theorem e_sThru {g : En → SR} {E : En} : sThru g E = match g E with
  | .exc _ _ _ => .bad
  | r => r := rfl
end Dn
namespace Dn
open PySem PySem.Spec PyProof.Rows L2
section
variable {G : Gm} {W : WX}
def sSwI (x : Nat) (f : En → ER) (f1 f2 : En → ER) : En → SR := fun E => match f E with
  | .val .P (.tup [a, b]) st => (match E.e[x]? with
    | some (.own l) => (match f1 ⟨E.e, st⟩ with
      | .val _ (.int i) st1 => (match ixN l.length i with
        | some j => (match f2 ⟨E.e.set x (.own (l.set j a)), st1⟩ with
          | .val _ (.int i2) st2 => (match ixN l.length i2 with
            | some j2 => .nx ⟨(E.e.set x (.own (l.set j a))).set x (.own ((l.set j a).set j2 b)), st2⟩
            | none => .bad)
          | _ => .bad)
        | none => .bad)
      | _ => .bad)
    | _ => .bad)
  | .exc c l st => .exc c l ⟨E.e, st⟩
  | _ => .bad
@[simp] theorem e_sSwI {x : Nat} {f f1 f2 : En → ER} {E : En} : sSwI x f f1 f2 E = match f E with
  | .val .P (.tup [a, b]) st => (match E.e[x]? with
    | some (.own l) => (match f1 ⟨E.e, st⟩ with
      | .val _ (.int i) st1 => (match ixN l.length i with
        | some j => (match f2 ⟨E.e.set x (.own (l.set j a)), st1⟩ with
          | .val _ (.int i2) st2 => (match ixN l.length i2 with
            | some j2 => .nx ⟨(E.e.set x (.own (l.set j a))).set x (.own ((l.set j a).set j2 b)), st2⟩
            | none => .bad)
          | _ => .bad)
        | none => .bad)
      | _ => .bad)
    | _ => .bad)
  | .exc c l st => .exc c l ⟨E.e, st⟩
  | _ => .bad := rfl
end
end Dn
namespace L2
open PySem PySem.Spec PyProof.Rows
end L2
namespace Dn
open PySem PySem.Spec PyProof.Rows L2
section
variable {G : Gm} {W : WX}
def cntL (d : D) (l : List D) : Option Nat := if isPy d = true ∧ isPyL l = true ∧ SeqAt.shaped (py d) = true ∧ SeqAt.shaped (.list (pyL l)) = true then some ((pyL l).countP fun z => PyData.eqv z (py d)) else none
def dCnt (fb : En → ER) (fa : En → AR) : En → ER := fun E => match fb E with
  | .val _ (.lst l) st => (match fa ⟨E.e, st⟩ with
    | .ok _ [d] st1 => ofOpt (cntL d l) fun n => .val .P (.int (n : Nat)) st1
    | .exc c l st => .exc c l st
    | _ => .bad)
  | .exc c l st => .exc c l st
  | _ => .bad
@[simp] theorem e_dCnt {fb : En → ER} {fa : En → AR} {E : En} : dCnt fb fa E = match fb E with
  | .val _ (.lst l) st => (match fa ⟨E.e, st⟩ with
    | .ok _ [d] st1 => ofOpt (cntL d l) fun n => .val .P (.int (n : Nat)) st1
    | .exc c l st => .exc c l st
    | _ => .bad)
  | .exc c l st => .exc c l st
  | _ => .bad := rfl
def oInT (a b : D) (st : Sto) : ER := match a, b with
  | .str x, .tup l => ofOpt (strsOf l) fun ys => .val .P (.bl (inV (.str x) (ys.map V.str))) st
  | _, _ => .bad
@[simp] theorem e_oInT {x : Str} {l : List D} {st : Sto} : oInT (.str x) (.tup l) st = ofOpt (strsOf l) fun ys => .val .P (.bl (inV (.str x) (ys.map V.str))) st := rfl
end
end Dn
namespace Dn
open PySem PySem.Spec PyProof.Rows L2
def pickN (n : Nat) (lo hi : Option Int) (c : Int) : List Nat := sliceRange (sliceBounds lo hi (some c) n).1 (sliceBounds lo hi (some c) n).2.1 (sliceBounds lo hi (some c) n).2.2
def stepG {α : Type} (l : List α) (lo hi : Option Int) (c : Int) : List α := (pickN l.length lo hi c).filterMap (l[·]?)
theorem IsL.pick {G : Gm} {as : List Addr} {H : Hp} {vs : List V} {ds : List D} (h : IsL G as H vs ds) : ∀ (ks : List Nat), IsL G as H (ks.filterMap (vs[·]?)) (ks.filterMap (ds[·]?))
  | [] => .nil
  | k :: ks => by
    have ih := IsL.pick h ks
    cases e : ds[k]? with
    | none =>
      have e' : vs[k]? = none := by
        rw [List.getElem?_eq_none_iff] at e ⊢
        rw [h.len]; exact e
      rw [List.filterMap_cons_none e, List.filterMap_cons_none e']; exact ih
    | some d =>
      obtain ⟨v, e', hv⟩ := h.get e
      rw [List.filterMap_cons_some e, List.filterMap_cons_some e']; exact .cons hv ih
section
variable {G : Gm} {W : WX}
def dStp (c : Int) (f : En → ER) (lo hi : En → Option ER) : En → ER := fun E => (f E).bind fun x st => ofOpt (partI (lo ⟨E.e, st⟩) st) fun l => ofOpt (partI (hi ⟨E.e, l.2⟩) l.2) fun u => match x with
  | .lst xs => if (stepG xs l.1 u.1 c).length ≤ xs.length then .val .N (.lst (stepG xs l.1 u.1 c)) u.2 else .bad
  | _ => .bad
@[simp] theorem e_dStp {c : Int} {f : En → ER} {lo hi : En → Option ER} {E : En} : dStp c f lo hi E = (f E).bind fun x st => ofOpt (partI (lo ⟨E.e, st⟩) st) fun l => ofOpt (partI (hi ⟨E.e, l.2⟩) l.2) fun u => match x with
  | .lst xs => if (stepG xs l.1 u.1 c).length ≤ xs.length then .val .N (.lst (stepG xs l.1 u.1 c)) u.2 else .bad
  | _ => .bad := rfl
end
section
variable {G : Gm} {W : WX}
def msIndex (a : Str) (ds : List D) (st : Sto) : ER := match ds with
  | [.str b] => ofOpt (Txt.index0 a b) fun k => .val .P (.int (k : Nat)) st
  | _ => .bad
@[simp] theorem e_msIndex {a b : Str} {st : Sto} : msIndex a [.str b] st = ofOpt (Txt.index0 a b) fun k => .val .P (.int (k : Nat)) st := rfl
end
section
variable {G : Gm} {W : WX}
def sAugO (x : Nat) (o : Int → Int → Int) (fi fe : En → ER) : En → SR := fun E => match E.e[x]? with
  | some (.own l) => (match fi E with
    | .val _ (.int i) st1 => if 0 ≤ i then (match ixN l.length i with
      | some j => (match l[j]? with
        | some (.int a) => (match fe ⟨E.e, st1⟩ with
          | .val _ (.int b) st2 => .nx ⟨E.e.set x (.own (l.set j (.int (o a b)))), st2⟩
          | _ => .bad)
        | _ => .bad)
      | none => .bad) else .bad
    | _ => .bad)
  | _ => .bad
@[simp] theorem e_sAugO {x : Nat} {o : Int → Int → Int} {fi fe : En → ER} {E : En} : sAugO x o fi fe E = match E.e[x]? with
  | some (.own l) => (match fi E with
    | .val _ (.int i) st1 => if 0 ≤ i then (match ixN l.length i with
      | some j => (match l[j]? with
        | some (.int a) => (match fe ⟨E.e, st1⟩ with
          | .val _ (.int b) st2 => .nx ⟨E.e.set x (.own (l.set j (.int (o a b)))), st2⟩
          | _ => .bad)
        | _ => .bad)
      | none => .bad) else .bad
    | _ => .bad)
  | _ => .bad := rfl
end
section
variable {G : Gm} {W : WX}
def dEnumS (f : En → AR) : En → AR := fun E => match f E with
  | .ok _ [.str z] st => .ok true (enumD 0 (z.cps.toList.map fun c => .str ⟨#[c]⟩)) st
  | .exc c l st => .exc c l st
  | _ => .bad
@[simp] theorem e_dEnumS {f : En → AR} {E : En} : dEnumS f E = match f E with
  | .ok _ [.str z] st => .ok true (enumD 0 (z.cps.toList.map fun c => .str ⟨#[c]⟩)) st
  | .exc c l st => .exc c l st
  | _ => .bad := rfl
end
section
variable {G : Gm} {W : WX}
def oListS : List D → Sto → ER
  | [.str x], st => if x.length ≤ 1000000 then .val .N (.lst (x.cps.toList.map fun c => .str ⟨#[c]⟩)) st else .bad
  | _, _ => .bad
@[simp] theorem e_oListS {x : Str} {st : Sto} : oListS [.str x] st = if x.length ≤ 1000000 then .val .N (.lst (x.cps.toList.map fun c => .str ⟨#[c]⟩)) st else .bad := rfl
end
abbrev rMulS : R2 := fun x y H Q => ∃ (a : Str) (n : Int), x = .str a ∧ y = .int n ∧ 0 ≤ n ∧ n ≤ 1000 ∧ a.length ≤ 1000 ∧ Q (.str (Txt.mul a n)) H
theorem op_mulS {X : Cx} : OpR X (binaryOp .Mult) rMulS := by
  intro pins s σ H x y v u Q I rx ry h
  obtain ⟨a, n, rfl, rfl, h0, h1, ha, q⟩ := h
  obtain ⟨t, rfl⟩ := rx
  obtain ⟨t', rfl⟩ := ry
  refine PySem.SB.mul ⟨?_, fun h2 _ => ?_, fun h2 _ => ?_⟩ fun t2 k => ⟨.str (Txt.mul a n), H, I.tok _, ⟨_, rfl⟩, q⟩
  · have e1 : decide (n < -(2 ^ 63 : Int)) = false := decide_eq_false (by omega)
    have e2 : decide (n ≥ 2 ^ 63) = false := decide_eq_false (by omega)
    rw [e1, e2]; rfl
  · have : (1000 : Int) ≤ (2 ^ 63 - 1) / n := by
      refine (Int.le_ediv_iff_mul_le (by omega)).mpr ?_
      have : (1000 : Int) * n ≤ 1000 * 1000 := Int.mul_le_mul_of_nonneg_left h1 (by decide)
      omega
    omega
  · have h3 : a.length * n.toNat ≤ 1000 * 1000 := Nat.mul_le_mul ha (by omega)
    have h4 : a.length * n.toNat ≤ sizeLine := sz (Nat.le_trans h3 (by decide))
    exact decide_eq_false (Nat.not_lt.mpr h4)
section
variable {G : Gm} {W : WX}
def oMulS : D → D → Sto → ER
  | .str a, .int n, st => if 0 ≤ n ∧ n ≤ 1000 ∧ a.length ≤ 1000 then .val .P (.str (Txt.mul a n)) st else .bad
  | _, _, _ => .bad
theorem d_mulS : DOp G rMulS oMulS := by
  intro W σ s st v w d d' k hv hw Q post
  cases d <;> cases d' <;> try exact post.elim
  case str.int a n =>
    obtain rfl := hv.str; obtain rfl := hw.int
    obtain ⟨h, post⟩ := RPost.cond (0 ≤ n ∧ n ≤ 1000 ∧ a.length ≤ 1000) (.val .P (.str (Txt.mul a n)) st) post
    exact ⟨a, n, rfl, rfl, h.1, h.2.1, h.2.2, post.now k (.str _)⟩
@[simp] theorem e_oMulS {a : Str} {n : Int} {st : Sto} : oMulS (.str a) (.int n) st = if 0 ≤ n ∧ n ≤ 1000 ∧ a.length ≤ 1000 then .val .P (.str (Txt.mul a n)) st else .bad := rfl
end
end Dn
namespace Dn
open PySem PySem.Spec PyProof.Rows L2
section
variable {G : Gm} {W : WX}
def sTryO (catch? : Nat → Option Bool) (g : En → SR) (h : En → SR) : En → SR := fun E => match g E with
  | .exc c l E1 => (match catch? c with
    | some true => (match h ⟨clr E1.e, E1.st⟩ with
      | .nx E2 => .nx ⟨clr E2.e, E2.st⟩
      | .bk E2 => .bk ⟨clr E2.e, E2.st⟩
      | .ct E2 => .ct ⟨clr E2.e, E2.st⟩
      | .rt m d st => .rt m d st
      | _ => .bad)
    | some false => .exc c l E1
    | none => .bad)
  | r => r
@[simp] theorem e_sTryO {catch? : Nat → Option Bool} {g h : En → SR} {E : En} : sTryO catch? g h E = match g E with
  | .exc c l E1 => (match catch? c with
    | some true => (match h ⟨clr E1.e, E1.st⟩ with
      | .nx E2 => .nx ⟨clr E2.e, E2.st⟩
      | .bk E2 => .bk ⟨clr E2.e, E2.st⟩
      | .ct E2 => .ct ⟨clr E2.e, E2.st⟩
      | .rt m d st => .rt m d st
      | _ => .bad)
    | some false => .exc c l E1
    | none => .bad)
  | r => r := rfl
end
section
variable {G : Gm} {W : WX}
def sRaiseF (c : Nat) (fa : En → AR) : En → SR := fun E => match fa E with
  | .ok true [d] st => .exc c [d] ⟨E.e, st⟩
  | .exc c' l st => .exc c' l ⟨E.e, st⟩
  | _ => .bad
@[simp] theorem e_sRaiseF {c : Nat} {fa : En → AR} {E : En} : sRaiseF c fa E = match fa E with
  | .ok true [d] st => .exc c [d] ⟨E.e, st⟩
  | .exc c' l st => .exc c' l ⟨E.e, st⟩
  | _ => .bad := rfl
end
def Gm.exn (G : Gm) (a : Addr) (x : Option Addr) (c : Nat) (l : List D) : Gm := { G with ea := a, ed := x, en := G.fn c, el := l }
mutual
theorem Is.swI {G G' : Gm} (eK : G'.K = G.K) (ec : G'.ca = G.ca) (ef : G'.fn = G.fn) {as : List Addr} {H : Hp} : ∀ (d : D) {v : V}, Is G as H v d → Is G' as H v d
  | .non, _, h => by cases h; exact .non
  | .bl _, _, h => by cases h; exact .bl _
  | .int _, _, h => by cases h; exact .int _
  | .str _, _, h => by cases h; exact .str _
  | .tup ds, _, h => by cases h with | tup p b => exact .tup (by rw [eK]; exact p) (IsL.swI eK ec ef ds b)
  | .lst ds, _, h => by cases h with | lst p b => exact .lst p (IsL.swI eK ec ef ds b)
  | .scr l, _, h => by cases h with | scr p => exact .scr (by rw [eK]; exact p)
  | .ptr n, _, h => by cases h with | ptr p => exact .ptr p
  | .obj c ds, _, h => by cases h with | obj p l b => exact .obj (by rw [ec, ef]; exact p) (by rw [ef]; exact l) (IsL.swI eK ec ef ds b)
theorem IsL.swI {G G' : Gm} (eK : G'.K = G.K) (ec : G'.ca = G.ca) (ef : G'.fn = G.fn) {as : List Addr} {H : Hp} : ∀ (ds : List D) {vs : List V}, IsL G as H vs ds → IsL G' as H vs ds
  | [], _, h => by cases h; exact .nil
  | d :: ds, _, h => by cases h with | cons p b => exact .cons (Is.swI eK ec ef d p) (IsL.swI eK ec ef ds b)
end
section
variable {G G' : Gm} (eK : G'.K = G.K) (ec : G'.ca = G.ca) (ef : G'.fn = G.fn)
include eK ec ef
theorem ObOk.swI {s : Hs} {x : Addr} {o : Ob} (h : ObOk G s x o) : ObOk G' s x o := by
  cases o with
  | lst l => obtain ⟨vs, h1, h2⟩ := h; exact ⟨vs, h1, IsL.swI eK ec ef _ h2⟩
  | ins c l => obtain ⟨dx, vs, h1, h2, h3⟩ := h; exact ⟨dx, vs, by rw [ec, ef]; exact h1, by rw [ef]; exact h2, IsL.swI eK ec ef _ h3⟩
  | tbl q => exact h
  | dct l => obtain ⟨kvs, h1, h2⟩ := h; exact ⟨kvs, h1, by
      clear h1
      induction h2 with
      | nil => exact .nil
      | cons p q ih => exact .cons (Is.swI eK ec ef _ p) ih⟩
theorem StOk.swI {s : Hs} {st : Sto} (et : G'.tb = G.tb) (k : StOk G s st) (hx : ExF G' s) : StOk G' s st := ⟨k.sf, k.len, k.nd, fun n x o h1 h2 => ObOk.swI eK ec ef (k.ob n x o h1 h2), k.nf, by rw [et]; exact k.tb, hx⟩
theorem VOk.swI {s t : Hs} {m : Md} {v : V} {d : D} (h : VOk G s t m v d) : VOk G' s t m v d := by
  cases m with
  | P => exact Is.swI eK ec ef _ h
  | B => obtain ⟨p, vs, l, x, b, c, e, f⟩ := h; exact ⟨p, vs, l, x, b, c, IsL.swI eK ec ef _ e, f⟩
  | N => obtain ⟨p, vs, l, x, b, c, e, f, g⟩ := h; exact ⟨p, vs, l, x, b, c, IsL.swI eK ec ef _ e, f, g⟩
theorem SlotOk.swI {s t : Hs} {o : Option V} {sl : SL} (h : SlotOk G s t o sl) (hs : sl ≠ .exn ∧ ∀ ds, sl ≠ .clo ds) : SlotOk G' s t o sl := by
  cases sl with
  | emp => trivial
  | exn => exact absurd rfl hs.1
  | clo ds => exact absurd rfl (hs.2 ds)
  | val d => obtain ⟨v, a, b⟩ := h; exact ⟨v, a, Is.swI eK ec ef _ b⟩
  | own l => obtain ⟨p, vs, a, b, c, d, e, f⟩ := h; exact ⟨p, vs, a, b, c, d, IsL.swI eK ec ef _ e, f⟩
theorem EnvOk.swI {s t : Hs} {σ : L2.St} {e : DE} (E : EnvOk G s t σ e) : EnvOk G' s t σ (clr e) := by
  refine ⟨E.gr, by rw [E.len]; simp [clr], fun i o s a b => ?_, fun i j p l m hij a b c d => ?_⟩
  · obtain ⟨h1, h2 | h2⟩ := clr_get b
    · subst h2; trivial
    · exact (E.at_ i o s a h2).swI eK ec ef h1
  · obtain ⟨_, h2 | h2⟩ := clr_get b
    · cases h2
    · obtain ⟨_, h3 | h3⟩ := clr_get d
      · cases h3
      · exact E.dis i j p l m hij a h2 c h3
end
section
variable {G : Gm} {W : WX}
def dXf (i : Nat) (o : Option D) : En → ER := fun E => match E.e[i]? with
  | some .exn => ofOpt o fun d => .val .P d E.st
  | _ => .bad
@[simp] theorem e_dXf {i : Nat} {o : Option D} {E : En} : dXf i o E = match E.e[i]? with
  | some .exn => ofOpt o fun d => .val .P d E.st
  | _ => .bad := rfl
end
end Dn
namespace Dn
open PySem PySem.W PySem.Spec PyProof.Rows L2
end Dn
namespace Dn
open PySem PySem.Spec PyProof.Rows L2
section
variable {G : Gm} {W : WX}
open Classical in
noncomputable def lcGoC (C : Sto → Prop) (k : D → Sto → Option (Option D × Sto)) : List D → Sto → Option (List D × Sto)
  | [], st => if C st then some ([], st) else none
  | d :: l, st => if C st then (k d st).bind fun o => (lcGoC C k l o.2).bind fun r => some (o.1.toList ++ r.1, r.2) else none
noncomputable def dLcX (f : En → ER) (t : D → DE → Option DE) (c g : En → ER) (vs : List Nat) : En → ER := fun E => match f E with
  | .val _ (.ptr n) st => (match stLst st n with
    | some l => if l.length ≤ 1000000 then ofOpt (lcGoC (fun st => stLst st n = some l) (lcStep t c g (wipeE E.e vs)) l st) fun r => .val .N (.lst r.1) r.2 else .bad
    | none => .bad)
  | _ => dLc (dIter f) t c g vs E
end
section
variable {G : Gm} {W : WX}
def oNotInF (a b : D) (st : Sto) : ER := match b with
  | .tup l => if flat a = true ∧ l.all flat = true then .val .P (.bl (!inV (toV a) (l.map toV))) st else .bad
  | _ => .bad
@[simp] theorem e_oNotInF {a : D} {l : List D} {st : Sto} : oNotInF a (.tup l) st = if flat a = true ∧ l.all flat = true then .val .P (.bl (!inV (toV a) (l.map toV))) st else .bad := rfl
end
end Dn
namespace Dn
open PySem PySem.Spec PyProof.Rows L2
def ZS (h : Heap) (z TI TO i1 i2 l1 l2 S : Addr) (k : Nat) : Prop := IsPair h TI (.ref i1) (.ref i2) ∧ h.IsListIter i1 l1 k ∧ h.IsListIter i2 l2 k ∧ (∃ o, h.get? TO = some o) ∧
  ((IsZip h z TI TO .none ∧ ∃ a b, IsPair h TO a b) ∨ ∃ T f oT, IsZipHeld h z TI TO T f ∧ h.get? T = some oT ∧ T ≠ z ∧ T ≠ i1 ∧ T ≠ i2 ∧ T ≠ S)
theorem ZS.keep {h h' : Heap} {z TI TO i1 i2 l1 l2 S : Addr} {k : Nat} (q : ZS h z TI TO i1 i2 l1 l2 S k) (nS : S ≠ z ∧ S ≠ TI ∧ S ≠ TO ∧ S ≠ i1 ∧ S ≠ i2) (hk : ∀ b o, b ≠ S → h.get? b = some o → h'.get? b = some o) : ZS h' z TI TO i1 i2 l1 l2 S k := by
  obtain ⟨a, b, c, ⟨oo, w⟩, d⟩ := q
  obtain ⟨n1, n2, n3, n4, n5⟩ := nS
  refine ⟨hk _ _ (Ne.symm n2) a, b.at fun o e => hk _ o (Ne.symm n4) e, c.at fun o e => hk _ o (Ne.symm n5) e, ⟨oo, hk _ _ (Ne.symm n3) w⟩, ?_⟩
  rcases d with ⟨d, x, y, e⟩ | ⟨T, f, oT, d, e, r1, r2, r3, r4⟩
  · exact .inl ⟨hk _ _ (Ne.symm n1) d, x, y, hk _ _ (Ne.symm n3) e⟩
  · exact .inr ⟨T, f, oT, hk _ _ (Ne.symm n1) d, hk _ _ r4 e, r1, r2, r3, r4⟩
section
variable {G : Gm} {W : WX}
def lstOf (st : Sto) : D → Option (List D)
  | .lst l => some l
  | .ptr n => stLst st n
  | _ => none
def dLz (f : En → AR) : En → ER := fun E => match f E with
  | .ok _ [a, b] st => ofOpt (lstOf st a) fun l => ofOpt (lstOf st b) fun m => if min l.length m.length ≤ 1000000 then .val .N (.lst (zipD l m)) st else .bad
  | .exc c l st => .exc c l st
  | _ => .bad
@[simp] theorem e_dLz {f : En → AR} {E : En} : dLz f E = match f E with
  | .ok _ [a, b] st => ofOpt (lstOf st a) fun l => ofOpt (lstOf st b) fun m => if min l.length m.length ≤ 1000000 then .val .N (.lst (zipD l m)) st else .bad
  | .exc c l st => .exc c l st
  | _ => .bad := rfl
@[simp] theorem lstOf_lst {st : Sto} {l : List D} : lstOf st (.lst l) = some l := rfl
@[simp] theorem lstOf_ptr {st : Sto} {n : Nat} : lstOf st (.ptr n) = stLst st n := rfl
end
theorem FldOk.sw {G G' : Gm} {f : Str} {ix : Nat → Option Nat} (h : FldOk G f ix) (eK : G'.K = G.K := by rfl) (ec : G'.ca = G.ca := by rfl) (ef : G'.fn = G.fn := by rfl) : FldOk G' f ix := ⟨fun c i q => by rw [eK, ec, ef]; exact h.ok c i q⟩
@[simp] theorem e_dLcX {f : En → ER} {t : D → DE → Option DE} {c g : En → ER} {vs : List Nat} {E : En} : dLcX f t c g vs E = match f E with
  | .val _ (.ptr n) st => (match stLst st n with
    | some l => if l.length ≤ 1000000 then ofOpt (lcGoC (fun st => stLst st n = some l) (lcStep t c g (wipeE E.e vs)) l st) fun r => .val .N (.lst r.1) r.2 else .bad
    | none => .bad)
  | _ => dLc (dIter f) t c g vs E := rfl
end Dn
namespace Dn
open PySem PySem.Spec PyProof.Rows L2
open HandSPX
def CEnd (M : Model) (A : Around) (E : Value → Shared → Prop) (use : Option (Value → Sem Unit)) (Q : Value → Shared → Prop) (acc : Value) (cv : Env) (r : Result) (s' : Shared) : Prop := match r with
  | .ok f => compPost M A E use Q acc cv.locals (.ok f) s'
  | .error x => ∃ m, s'.heap.Ns cv.locals m ∧ ∀ h1, Heap.SameBut cv.locals s'.heap h1 → wpAny M A (passOn "comprehension.variables-let-go" x cv : Sem Value) (fun _ _ => False) E { s' with heap := h1 }
theorem comp_run {M : Model} {A : Around} {E : Value → Shared → Prop} {s : Shared} {ev : Env} {ex : Expr} {sc : Scope} {pos : Pos} {mk fst : Sem Value} {g : Comprehension} {gs : List Comprehension} {cl : List (Str × Addr)} {use : Option (Value → Sem Unit)} {Q : Value → Shared → Prop}
    (h1 : clausesOf ex = g :: gs) (h2 : ∀ x, foldedSetIterable g.iter ev x = pure x) (h3 : closureFor sc ev = pure cl) (h4 : sc.kind = .function) (h5 : ∀ x ∈ sc.names, x.2 = .local → sc.names.lookup x.1 = some .local)
    (h : wpAny M A fst (fun x sa => wpAny M A (pyIter x) (fun it sb => wpAny M A mk (fun acc sd => wpAny M A (newFunctionEnv sc ev.globals cl [] ev.qual none .none (some ev)) (fun cv se =>
        codeAny M A (.compStart ex 0 it acc { cv with scope := relabel sc ev }) (CEnd M A E use Q acc { cv with scope := relabel sc ev }) se) E sd) E sb) E sa) E s) : wpAny M A (comprehension ex sc ev pos mk false fst use) Q E s := by
  unfold comprehension
  rw [h3, h1]
  refine wpAny_bind (wpAny_mono h (fun x sa ha => wpAny_bind (wpAny_standAt (wpAny_bind (wpAny_of_eq (h2 x) (wpAny_bind (wpAny_holding (wpAny_mono ha (fun it sb hb => wpAny_standIf (wpAny_bind (wpAny_mono hb (fun acc sd hd => wpAny_bind (wpAny_pure (wpAny_bind (wpAny_mono hd (fun cv se he => ?_) fun _ _ z => z)))) fun _ _ z => z))) fun _ _ z => z))))))) fun _ _ z => z)
  dsimp only
  have loc : ∀ x ∈ sc.names, x.2 = .local → Env.kindOf { cv with scope := relabel sc ev } x.1 = some .local := fun x hx hl => lookup_relabel_local (h5 x hx hl)
  have v1 : ∀ x ∈ (sc.names.filter fun x => (x.2 == .local || x.2 == .cell) && x.1 != (".0" : Str)).reverse, x.2 = .local → Env.kindOf { cv with scope := relabel sc ev } x.1 = some .local := fun x hx => loc x (List.mem_filter.mp (List.mem_reverse.mp hx)).1
  have v2 : ∀ x ∈ (sc.names.filter fun x => (x.2 == .local || x.2 == .cell) && x.1 != (".0" : Str)).reverse.drop 1 ++ (sc.names.filter fun x => (x.2 == .local || x.2 == .cell) && x.1 != (".0" : Str)).reverse.take 1, x.2 = .local → Env.kindOf { cv with scope := relabel sc ev } x.1 = some .local := fun x hx => (List.mem_append.mp hx).elim (fun z => v1 x (List.mem_of_mem_drop z)) fun z => v1 x (List.mem_of_mem_take z)
  refine wpAny_holding (wpAny_bind (wpAny_attempt (wpAny_holding (wpAny_run (codeAny_mono he fun r s' hr => ?_)))))
  cases r with
  | ok f =>
    have hr : compPost M A E use Q acc cv.locals (.ok f) s' := hr
    cases use with
    | none =>
      obtain ⟨m, hn, hr⟩ := hr
      exact wpAny_bind (wpAny_holding (wpAny_comp_letGo (cenv := { cv with scope := relabel sc ev }) h4 _ s' m v1 hn fun ha _ _ hb => wpAny_pure (hr ha hb)))
    | some u =>
      refine wpAny_bind (wpAny_rule (wpAny_bind (wpAny_holding (wpAny_mono hr (fun _ sf hf => ?_) fun _ _ z => z))))
      obtain ⟨m, hn, hf⟩ := hf
      exact wpAny_bind (wpAny_comp_letGo (cenv := { cv with scope := relabel sc ev }) h4 _ sf m v2 hn fun ha _ _ hb => wpAny_pure (hf ha hb))
  | error x =>
    obtain ⟨m, hn, hr⟩ := hr
    exact wpAny_bind (wpAny_holding (wpAny_comp_letGo (cenv := { cv with scope := relabel sc ev }) h4 _ s' m v1 hn fun ha _ _ hb => wpAny_mono (hr ha hb) (fun _ _ f => f.elim) fun _ _ z => z))
abbrev withE (X : Cx) (E : Value → Shared → Prop) : Cx := { X with xe := E }
theorem ok_withE {X : Cx} {E : Value → Shared → Prop} (h : X.Ok) : (withE X E).Ok := ⟨h.mod, h.kind, h.glob, h.blt, h.above, h.inj, h.has, h.cab, h.hd, h.frames, h.stk, h.exf, h.bs, h.bsz, h.noex, h.exfs, h.funs, h.frf⟩
theorem inv_withE {X : Cx} {E : Value → Shared → Prop} {pins : List (Addr × Obj)} {σ : L2.St} {H : Hp} {s : Shared} (h : Inv X pins σ H s) : Inv (withE X E) pins σ H s := ⟨ok_withE h.ok, h.os, h.bare, h.base, h.loc, h.cell, h.free, h.freeC, h.pin, h.hok, h.len⟩
theorem inv_backE {X : Cx} {E : Value → Shared → Prop} {pins : List (Addr × Obj)} {σ : L2.St} {H : Hp} {s : Shared} (h : Inv (withE X E) pins σ H s) : Inv X pins σ H s := inv_withE (X := withE X E) (E := X.xe) h
abbrev airE (X : Cx) (W : WX) : Cx := withE X (fun u s' => XE X W u s')
theorem takes_air {X : Cx} {W : WX} : Takes (airE X W) W := fun u s' ⟨a, B, sI, pins, σ, H, cls, d, e, I, nb, up, sky, na, os, ag, w⟩ => ⟨a, B, sI, pins, σ, H, cls, d, e, inv_backE I, nb, up, sky, na, os, ag, w⟩
theorem looks_offZ {M : Model} {A : Around} {E : Value → Shared → Prop} {s : Shared} {Z : Obj → Prop} {base : Heap} {env : Env} {outer : List Env} {L e : Addr} {fl : Value} {Q : Unit → Shared → Prop} (hZ : Steady Z) (hfr : A.frames = some (env :: outer)) (hf : env.frame = some L) (hkb : base.StaysIn s.heap) (hen : base.get? e = none) (hl : s.heap.FunFrames base (env :: outer)) (tr : TracedZ s.heap base e Z fl) (hne : fl ≠ rawInt L)
    (hQ : ∀ h1, HeldZ base (env :: outer) e Z L h1 → s.heap.UpToSlots h1 → Q () { s with heap := h1 }) : wpAny M A (noteFrame (.ref e) env) Q E s := by
  obtain ⟨oe, vs, T, oT, ts, he, hz, hd, h1, hnT, hTe, hT, hdT, h3⟩ := tr
  unfold noteFrame
  simp only [hf]
  refine wpAny_bind (wpAny_field he hd h1 ?_)
  rw [if_pos (by simp : (Value.ref T != Value.none) = true)]
  refine wpAny_bind (wpAny_field hT hdT h3 ?_)
  rw [if_neg (by simpa using hne : ¬ ((fl == rawInt L) = true))]
  refine wpAny_bind (wpAny_setField hT hdT (Array.getElem?_eq_some_iff.mp h3).1 ?_)
  have oth : ∀ b, b ≠ T → (s.heap.update T (Obj.mapFields (·.setIfInBounds 3 Value.none))).get? b = s.heap.get? b := fun b hb => Heap.get?_update_other _ _ (Ne.symm hb)
  have nrec : ∀ b o, s.heap.get? b = some o → (∀ vs, o.data ≠ .fields vs) → b ≠ T := fun b o hb hnf q => by subst q; rw [hT] at hb; cases hb; exact hnf ts hdT
  refine wpAny_entryZ hZ hfr (hl.of_keeps fun b o hb hnf => ⟨o, (oth b (nrec b o hb hnf)).trans hb, rfl⟩) hf ((oth e (Ne.symm hTe)).trans he) (fun b o hbo => (oth b fun q => by subst q; rw [hnT] at hbo; cases hbo).trans (hkb b o hbo)) hen hd (Array.getElem?_eq_some_iff.mp h1).1 hz fun ha hN => ?_
  obtain ⟨x1, x2, x3, x4⟩ := hN
  exact hQ ha ⟨x1, hen, x2, x3⟩ fun b o hb hnf => x4 b o ((oth b (nrec b o hb hnf)).trans hb) hnf
theorem ff_but {h1 h2 B B' : Heap} : ∀ {l : List Env}, h1.FunFrames B l → (∀ L ∈ frs l, h2.get? L = h1.get? L) → (∀ L ∈ frs l, B'.get? L = none) → h2.FunFrames B' l
  | [], _, _, _ => trivial
  | env :: l, h, k, n => by
    obtain ⟨hk, ⟨L, o, hf, _, ho, hd⟩, hr⟩ := h
    have m : L ∈ frs (env :: l) := List.mem_filterMap.mpr ⟨env, .head _, hf⟩
    have sub : ∀ b, b ∈ frs l → b ∈ frs (env :: l) := fun b hb => by
      obtain ⟨e, he, q⟩ := List.mem_filterMap.mp hb
      exact List.mem_filterMap.mpr ⟨e, .tail _ he, q⟩
    exact ⟨hk, ⟨L, o, hf, n L m, (k L m).trans ho, hd⟩, ff_but hr (fun b hb => k b (sub b hb)) fun b hb => n b (sub b hb)⟩
theorem raw_ne {a b : Addr} (h : a ≠ b) : rawInt a ≠ rawInt b := fun z => by
  have q : ((a : Nat) : Int) = ((b : Nat) : Int) := by simpa [rawInt] using z
  exact h (Int.ofNat_inj.mp q)
theorem comp_leaves {X : Cx} {W : WX} {pins : List (Addr × Obj)} {σ : L2.St} {H3 : Hp} {s3 : Shared} {sc : Scope} {ce : Env} {fp : List Addr} {use : Option (Value → Sem Unit)} {Qf : Value → Shared → Prop} {acc u : Value} {s' : Shared} (tk : Takes X W) (hst : X.stack = X.env :: X.outer) (hf : X.env.frame = some X.env.locals) (hcf : ce.frame = X.env.frame)
    (I3 : Inv X pins σ H3 s3) (f3 : ∀ b ∈ fp, FpOk X pins H3 b ∧ b < s3.heap.objs.size) (hC : ce.locals = s3.heap.objs.size) (x : XE (X.blk s3 H3 sc ce fp) (fun cls d _ H => W cls d σ H) u s') :
    notedBy (model X.prog X.w) X.A ce (fun e s2 => CEnd (model X.prog X.w) X.A X.xe use Qf acc ce (.error e) s2) u s' := by
  obtain ⟨a, B, sI, pins', σ', H, cls, d, rfl, I, nb, up, sky, na, os, ag, w⟩ := x
  have hfr : X.A.frames = some (X.env :: X.outer) := by rw [I3.ok.frames, hst]
  have IX : Inv X pins σ H sI := I3.call' (ch := fp) I.os I.base I.hok I.bare fun b hb => ⟨(f3 b hb).1.2.2.2.1, (f3 b hb).1.2.1, (f3 b hb).1.2.2.2.2.1, (f3 b hb).1.2.2.2.2.2⟩
  have nC : H ce.locals = none := I.free
  have fC : FpOk X pins H ce.locals := I3.fpOk (Nat.le_of_eq hC.symm) nC
  have nS : ce.locals ∉ frs X.stack := fun z => by
    rcases List.mem_cons.mp (I3.stkSub _ z) with q | q
    · exact fC.2.1 q
    · exact fC.2.2.1 q
  obtain ⟨m, hn, _⟩ := I.loc
  have hn : sI.heap.Ns ce.locals m := hn
  have bC : ∃ oC, sI.heap.get? ce.locals = some oC ∧ B.get? ce.locals = some oC := by
    obtain ⟨o, _, _, ho, _⟩ := hn
    exact ⟨o, ho, nb _ _ ho nS⟩
  obtain ⟨oC, hoC, hBC⟩ := bC
  have nf : noteFrame (.ref a) ce = noteFrame (.ref a) X.env := by unfold noteFrame PySem.frameOf; rw [hcf]
  have fin : ∀ h1, HeldZ B (X.env :: X.outer) a (Zc cls d) X.env.locals h1 → s'.heap.UpToSlots h1 → CEnd (model X.prog X.w) X.A X.xe use Qf acc ce (.error (.ref a)) { s' with heap := h1 } := fun h1 hh up1 => by
    obtain ⟨k1, k2, k3, oe, vs, T, oT, ts, he, hz, hd, e1, hnT, hTe, hT, hdT, e3⟩ := hh
    refine ⟨m, hn.at fun o e => k1 _ _ (nb _ _ e nS), fun h2 sb => ?_⟩
    have neA : a ≠ ce.locals := fun z => by rw [z, hBC] at k2; cases k2
    have neT : T ≠ ce.locals := fun z => by rw [z, hBC] at hnT; cases hnT
    have kp : ∀ b, b ≠ ce.locals → h2.get? b = h1.get? b := fun b hb => sb.2 b hb
    have nB : ∀ b, B.get? b = none → (PySem.W.hideAll B [ce.locals]).get? b = none := fun b e => by
      cases q : (PySem.W.hideAll B [ce.locals]).get? b with
      | none => rfl
      | some o => rw [PySem.W.of_hideAll _ q] at e; cases e
    have tr2 : TracedZ h2 (PySem.W.hideAll B [ce.locals]) a (Zc cls d) (rawInt X.env.locals) := ⟨oe, vs, T, oT, ts, (kp a neA).trans he, hz, hd, e1, nB T hnT, hTe, (kp T neT).trans hT, hdT, e3⟩
    have held2 : HeldZ (PySem.W.hideAll B [ce.locals]) (X.env :: X.outer) a (Zc cls d) X.env.locals h2 := by
      refine ⟨fun b o e => ?_, nB a k2, ff_but k3 (fun L hL => kp L fun z => nS (by rw [hst, ← z]; exact hL)) (fun L hL => nB L ?_), tr2⟩
      · have e' := PySem.W.of_hideAll _ e
        have ne : b ≠ ce.locals := fun z => by rw [PySem.W.hideAll_none _ (by simp [z])] at e; cases e
        rw [kp b ne]; exact k1 b o e'
      · exact (k3.mem hL).1
    unfold PySem.passOn
    refine wpAny_bind (wpAny_field ((kp a neA).trans he) hd e1 ?_)
    rw [if_neg (by simp : ¬ ((Value.ref T == Value.none) = true))]
    have ends : wpAny (model X.prog X.w) X.A (setFlight (.ref a) ce.frame) (fun _ s4 => wpAny (model X.prog X.w) X.A (throw (.ref a) : Sem Value) (fun _ _ => False) X.xe s4) X.xe { s' with heap := h2 } := by
      rw [hcf, hf]
      refine setFlight_onZ held2 fun h3 hh3 up3 => wpAny_throw (tk _ _ ?_)
      refine ⟨a, PySem.W.hideAll B [ce.locals], { sI with heap := PySem.W.hideAll sI.heap [ce.locals], toks := sI.toks }, pins, σ, H, cls, d, rfl, IX.turned (t' := sI.toks) (fun b o hb e => PySem.W.hideAll_get _ e (by simpa using hb)) fC.1 fC.2.1 fC.2.2.2.1 fC.2.2.2.2.1 fC.2.2.2.2.2, fun b o e hb => ?_, fun b o e hnf => ?_, .inr (.inr (by rw [hst]; exact hh3)), na, os, ag, w⟩
      · have e' := PySem.W.of_hideAll _ e
        have ne : b ≠ ce.locals := fun z => by rw [PySem.W.hideAll_none _ (by simp [z])] at e; cases e
        exact PySem.W.hideAll_get _ (nb b o e' hb) (by simpa using ne)
      · have e' := PySem.W.of_hideAll _ e
        have ne : b ≠ ce.locals := fun z => by rw [PySem.W.hideAll_none _ (by simp [z])] at e; cases e
        obtain ⟨sl1, q1⟩ := (up.trans up1) b o e' hnf
        exact up3 b { o with slots := sl1 } ((kp b ne).trans q1) hnf
    first
      | exact wpAny_bind (wpAny_pure (wpAny_bind ends))
      | exact wpAny_bind ends
  show wpAny _ _ (noteFrame (.ref a) ce) _ _ _
  rw [nf]
  have sky : Sky B (X.env :: X.outer) a (Zc cls d) ce.locals s'.heap := by rw [← hst]; exact sky
  rcases sky with ⟨hB, hn', hl, oe, vs, he, hz, hd, h1⟩ | fl | hh
  · exact look_newZ Zc.steady hfr hl hf he hB hn' hd h1 hz fin
  · exact looks_onZ Zc.steady hfr hf fl fin
  · exact looks_offZ Zc.steady hfr hf hh.1 hh.2.1 hh.2.2.1 hh.2.2.2 (raw_ne (fun z => fC.2.1 z)) fin
def tLcE (W : WX) (wi : TI) (g : TG) (tt : TT) (te : WX → TE) (vs : List Nat) : TE := fun σ H Q => tLc wi g tt (te fun cls d _ H' => W cls d σ H') vs σ H Q
theorem lc_coreE {X : Cx} {W : WX} {pins : List (Addr × Obj)} {s : Shared} {σ : L2.St} {H : Hp} {Q : VK} {elt tg iter : Expr} {ifs : List Expr} {sc : Scope} {own : List (Str × Nat)} {pos pos' : Pos} {wi : TI} {g : TG} {tt : TT} {te : WX → TE} {use : Option (Value → Sem Unit)} {Qf : Value → Shared → Prop}
    (hst : X.stack = X.env :: X.outer) (hf : X.env.frame = some X.env.locals) (tk : Takes X W) (calm : X.calm = true) (nd : X.N.Nodup) (I : Inv X pins σ H s) (hi : PI X tg iter wi) (ok : BlkOk X.N X.env.scope sc own)
    (hg : ∀ (s : Shared) (H : Hp) (C : Addr) (cl : List (Str × Addr)) (fp : List Addr), PG (X.blk s H sc (compEnvC sc cl C X.env) fp) tg g) (ht : ∀ (s : Shared) (H : Hp) (C : Addr) (cl : List (Str × Addr)) (fp : List Addr), PTs (X.blk s H sc (compEnvC sc cl C X.env) fp) ifs tt)
    (he : ∀ (W' : WX) (xe : Value → Shared → Prop) (s : Shared) (H : Hp) (C : Addr) (cl : List (Str × Addr)) (fp : List Addr), Takes (withE (X.blk s H sc (compEnvC sc cl C X.env) fp) xe) W' → PE (withE (X.blk s H sc (compEnvC sc cl C X.env) fp) xe) elt (te W')) (hs : ∀ x, foldedSetIterable iter X.env x = pure x)
    (h : tLcE W wi g tt te (own.map (·.2)) σ H Q) (hRR : ∀ D C s' m H', Inv X pins σ H' s' → Q (.ref D) H' → s'.heap.Ns C m → FpOk X pins H' C → compPost (model X.prog X.w) X.A X.xe use Qf (.ref D) C (.ok .next) s') :
    wpAny (model X.prog X.w) X.A (comprehension (.ListComp elt [⟨tg, iter, ifs, 0⟩] sc pos) sc X.env pos' (newList []) false (eval iter X.env) use) Qf X.xe s := by
  have fr : ∀ y ∈ sc.names, y.2 = .free → ∃ c, X.env.cells.lookup y.1 = some c := fun y hy e => I.ok.has _ ((ok.free y hy e).elim .inl .inr)
  refine comp_run (use := use) rfl hs (closure_ok fr) ok.kind (fun y hy e => (ok.uniq y hy).trans (by rw [e])) (thn (hi.run pins s σ H _ I h) fun xv s1 hx => thn hx fun itv s2 h2 => ?_)
  obtain ⟨it, fp, tn, J, H2, rfl, I2, T, st2, f2, q⟩ := h2
  refine wpAny_newObj_type (newEnv_comp ?_) (by show 0 ≤ sizeLine; decide)
  generalize hD : s2.heap.objs.size = D
  obtain ⟨Wm, ⟨m0, w0⟩, turn⟩ := q D (I2.hok.fresh (Nat.le_of_eq hD))
  generalize hs3 : ({ s2 with heap := s2.heap.push { cls := .type "list", data := .seq ([] : List Value).toArray } } : Shared) = s3
  have h3 : s3.heap = s2.heap.push { cls := .type "list", data := .seq ([] : List Value).toArray } := by rw [← hs3]
  have I3 : Inv X pins σ (upd H2 D (.lst [])) s3 := by
    rw [← hs3]
    exact I2.laid (t' := s2.toks) (fun b o e => Heap.get?_push_of_some _ e) (Nat.le_of_eq hD) ⟨Nat.zero_le _, [], 0, .nil, by rw [← hD]; exact Heap.get?_push_size _ rfl⟩
  have f3 : ∀ b ∈ fp, FpOk X pins (upd H2 D (.lst [])) b ∧ b < s3.heap.objs.size := fun b hb => by
    obtain ⟨o, eo, _⟩ := T.obj _ _ st2 b hb
    have lt := Heap.lt_size eo
    exact ⟨⟨by rw [upd_ne (by rw [← hD]; exact Nat.ne_of_lt lt)]; exact (f2 b hb).1, (f2 b hb).2⟩, by rw [h3, Heap.size_push]; exact Nat.lt_succ_of_lt lt⟩
  have st3 : tn 0 s3.heap := T.keep _ _ _ st2 fun b _ o e => by rw [h3]; exact Heap.get?_push_of_some _ e
  have I4 := block_start I3 ok nd f3
  have pg := hg s3 (upd H2 D (.lst [])) s3.heap.objs.size (cellsFrom (s3.heap.objs.size + 1) sc.names (cloFrom X.env.cells sc.names [])) fp
  have pt := ht s3 (upd H2 D (.lst [])) s3.heap.objs.size (cellsFrom (s3.heap.objs.size + 1) sc.names (cloFrom X.env.cells sc.names [])) fp
  have pe := fun W' xe => he W' xe s3 (upd H2 D (.lst [])) s3.heap.objs.size (cellsFrom (s3.heap.objs.size + 1) sc.names (cloFrom X.env.cells sc.names [])) fp
  show codeAny _ _ (.compStart (.ListComp elt [⟨tg, iter, ifs, 0⟩] sc pos) 0 (.ref it) (.ref D) (compEnvC sc (cellsFrom (s3.heap.objs.size + 1) sc.names (cloFrom X.env.cells sc.names [])) s3.heap.objs.size X.env)) (CEnd (model X.prog X.w) X.A X.xe use Qf (.ref D) (compEnvC sc (cellsFrom (s3.heap.objs.size + 1) sc.names (cloFrom X.env.cells sc.names [])) s3.heap.objs.size X.env)) { s3 with heap := pushCells (s3.heap.push { cls := .type "dict", data := .dict #[] }) sc.names }
  have nfp : ∀ b ∈ fp, (upd H2 D (.lst [])) b = none := fun b hb => (f3 b hb).1.1
  generalize hce : compEnvC sc (cellsFrom (s3.heap.objs.size + 1) sc.names (cloFrom X.env.cells sc.names [])) s3.heap.objs.size X.env = ce at I4 pg pt pe ⊢
  have cL : ce.locals = s3.heap.objs.size := by subst hce; rfl
  have cF : ce.frame = X.env.frame := by subst hce; rfl
  generalize hH3 : upd H2 D (.lst []) = H3 at I3 I4 pg pt pe w0 nfp f3
  generalize hs4 : ({ s3 with heap := pushCells (s3.heap.push { cls := .type "dict", data := .dict #[] }) sc.names } : Shared) = s4 at I4 ⊢
  have st4 : tn 0 s4.heap := T.keep _ _ _ st3 fun b _ o e => by rw [← hs4]; exact pushCells_keeps _ _ _ _ (Heap.get?_push_of_some _ e)
  have stat : ∀ {σ' : L2.St} {H' : Hp} {s' : Shared}, Inv (X.blk s3 H3 sc ce fp) [] σ' H' s' → (∀ b ∈ fp, H' b = none) → ∀ b ∈ fp, FpOk (X.blk s3 H3 sc ce fp) [] H' b := fun {σ' H' s'} I' hn b hb => ⟨hn b hb, (I'.ok.exf b hb).1, I'.ok.exfs b hb, .inl hb, fun x c e => (I'.ok.exf b hb).2 x c e, fun p hp => absurd (show p ∈ ([] : List (Addr × Obj)) ++ [] from hp) (by simp)⟩
  have loop : codeAny (model X.prog X.w) X.A (.compLoop (.ListComp elt [⟨tg, iter, ifs, 0⟩] sc pos) 0 (.ref it) (.ref D) ce) (CEnd (model X.prog X.w) X.A X.xe use Qf (.ref D) ce) s4 := by
    refine compLoop_any (fun n s' => ∃ i H', Inv (X.blk s3 H3 sc ce fp) [] (L2.wipe σ (own.map (·.2))) H' s' ∧ tn i s'.heap ∧ (∀ b ∈ fp, H' b = none) ∧ Wm i n H') ?_ m0 ⟨0, H3, I4, st4, nfp, w0⟩
    rintro n s5 ⟨i, H5, I5, st5, n5, w5⟩
    rcases turn i n H5 w5 with ⟨stop, qq⟩ | ⟨go, Nx, hNx, step⟩
    · refine thnF (T.done (X.blk s3 H3 sc ce fp) rfl rfl rfl calm i [] s5 _ H5 (fun _ _ => False) I5 (stat I5 n5) st5 stop) fun r s6 ⟨hr, I6⟩ => ?_
      subst hr
      have I7 : Inv X pins σ H5 s6 := I3.call' (ch := fp) I6.os I6.base I6.hok I6.bare fun b hb => ⟨(f3 b hb).1.2.2.2.1, (f3 b hb).1.2.1, (f3 b hb).1.2.2.2.2.1, (f3 b hb).1.2.2.2.2.2⟩
      have nC : H5 ce.locals = none := I6.free
      obtain ⟨m, hn, _⟩ := I6.loc
      exact hRR D ce.locals s6 m H5 I7 qq hn (I3.fpOk (Nat.le_of_eq cL.symm) nC)
    · refine thnF (T.item (X.blk s3 H3 sc ce fp) rfl rfl rfl calm i [] s5 _ H5 (fun _ _ => False) I5 (stat I5 n5) st5 go) fun r s6 ⟨u, hr, h6⟩ => ?_
      subst hr
      refine thnF h6 fun _ s7 ⟨x, H7, I7, r7, y7, st7, n7⟩ => ?_
      refine thnF (pg.run _ s7 _ H7 x u _ (I7.pinned (stat I7 n7) (T.obj _ _ st7)) r7 (step x H7 y7)) fun _ s8 ⟨σ8, H8, I8, hw8, q8⟩ => ?_
      refine thnF (pt.run _ s8 σ8 H8 _ I8 q8) fun b s9 ⟨H9, I9, q9⟩ => ?_
      have fin : ∀ {s' : Shared} {H' : Hp}, Inv (X.blk s3 H3 sc ce fp) ([] ++ pinsAt fp s7.heap) σ8 H' s' → Nx H' → ∃ m, m < n ∧ ∃ i H', Inv (X.blk s3 H3 sc ce fp) [] (L2.wipe σ (own.map (·.2))) H' s' ∧ tn i s'.heap ∧ (∀ b ∈ fp, H' b = none) ∧ Wm i m H' := fun {s' H'} I' nx => by
        obtain ⟨m', hm, w'⟩ := hNx H' nx
        have pin' : ∀ b ∈ fp, ∀ o, s7.heap.get? b = some o → s'.heap.get? b = some o ∧ H' b = none := fun b hb o e => let z := I'.pin (b, o) (List.mem_append_right _ (List.mem_append_right _ (mem_pinsAt hb e))); ⟨z.1, z.2.1⟩
        refine ⟨m', hm, i + 1, H', (I'.unpinned (pins := [])).weak (by rw [← hw8, L2.wipe_length]) (fun j v e => ?_), T.keep _ _ _ st7 fun b hb o e => (pin' b hb o e).1, fun b hb => ?_, w'⟩
        · exact (L2.wipe_some (hw8.symm ▸ e)).1
        · obtain ⟨o, e, _⟩ := T.obj _ _ st7 b hb; exact (pin' b hb o e).2
      cases b with
      | false => rw [if_neg Bool.false_ne_true] at q9 ⊢; exact fin I9 q9
      | true =>
        rw [if_pos rfl] at q9 ⊢
        refine wpAny_mono ((pe (fun cls d _ H' => W cls d σ H') (fun u s' => XE (X.blk s3 H3 sc ce fp) (fun cls d _ H' => W cls d σ H') u s') takes_air).run _ s9 σ8 H9 _ (inv_withE I9) q9) (fun z s10 ⟨yv, H10, I10, r10, acc, hD10, hz10, nx⟩ => ?_) fun u s' x => comp_leaves tk hst hf cF I3 f3 cL x
        exact app_ok (X := X.blk s3 H3 sc ce fp) (inv_backE I10) hD10 hz10 r10 fun s11 I11 => fin I11 nx
  exact codeAny_compStart_list loop (T.self X.A 0 _ _ _ st4 loop)
section
variable {X : Cx} {W : WX}
theorem ps_setLcE {i : Nat} {y : Str} {py : Pos} {elt tg iter : Expr} {ifs : List Expr} {sc : Scope} {own : List (Str × Nat)} {pos spos : Pos} {wi : TI} {g : TG} {tt : TT} {te : WX → TE} (hst : X.stack = X.env :: X.outer) (hf : X.env.frame = some X.env.locals) (tk : Takes X W) (calm : X.calm = true) (nd : X.N.Nodup) (hy : X.N[i]? = some y) (hyl : X.env.scope.names.lookup y = some .local)
    (hsw : swapsWith (.ListComp elt [⟨tg, iter, ifs, 0⟩] sc pos) (some (.Name y py)) spos.line X.env = pure true) (hi : PI X tg iter wi) (ok : BlkOk X.N X.env.scope sc own)
    (hg : ∀ (s : Shared) (H : Hp) (C : Addr) (cl : List (Str × Addr)) (fp : List Addr), PG (X.blk s H sc (compEnvC sc cl C X.env) fp) tg g) (ht : ∀ (s : Shared) (H : Hp) (C : Addr) (cl : List (Str × Addr)) (fp : List Addr), PTs (X.blk s H sc (compEnvC sc cl C X.env) fp) ifs tt)
    (he : ∀ (W' : WX) (xe : Value → Shared → Prop) (s : Shared) (H : Hp) (C : Addr) (cl : List (Str × Addr)) (fp : List Addr), Takes (withE (X.blk s H sc (compEnvC sc cl C X.env) fp) xe) W' → PE (withE (X.blk s H sc (compEnvC sc cl C X.env) fp) xe) elt (te W')) (hs : ∀ x, foldedSetIterable iter X.env x = pure x := by intro _; rfl) :
    PS X (.Assign [.Name y py] (.ListComp elt [⟨tg, iter, ifs, 0⟩] sc pos) spos) (tAsg (tLcE W wi g tt te (own.map (·.2))) (gName i)) := by
  refine ⟨fun pins s σ H N I h => ?_⟩
  rw [exec_Assign_Name_used _ _ _ _ hsw]
  refine wpAny_bind (wpAny_standAt (wpAny_bind ?_))
  have h : tLcE W wi g tt te (own.map (·.2)) σ H (fun x H1 => gName i x σ H1 N.nx) := h
  show wpAny _ X.A (do let _ ← comprehension (.ListComp elt [⟨tg, iter, ifs, 0⟩] sc pos) sc X.env (firstIterPos [⟨tg, iter, ifs, 0⟩] pos) (newList []) false (eval iter X.env) (some (assign (.Name y py) X.env))) _ _ s
  refine wpAny_bind (thn (lc_coreE (Qf := fun _ s' => SP X pins N .next s') hst hf tk calm nd I hi ok hg ht he hs h fun D C s' m H' I' q hn f => ?_) fun _ s' hq => wpAny_pure (wpAny_pure hq))
  show wpAny _ _ (assign (.Name y py) X.env (.ref D)) _ _ _
  refine wpAny_assign_Name (store_ok2 (v := V.ref D) I' nd hy (.inl hyl) rfl (fun s2 I2 ⟨a, sb, ha⟩ => ?_) (.inr hyl))
  have ne : C ≠ a := ha.elim (fun z => by rw [z]; exact f.2.1) fun z q => f.2.2.2.2.1 y a z q.symm
  exact ⟨m, hn.sameBut sb ne, fun h1 sb1 => ⟨_, H', I2.turned (t' := s2.toks) (fun b o hb e => (sb1.2 b hb).trans e) f.1 f.2.1 f.2.2.2.1 f.2.2.2.2.1 f.2.2.2.2.2, q⟩⟩
end
end Dn
namespace Dn
open PySem PySem.Spec PyProof.Rows L2
inductive LR where | ok (o : Option D) (st : Sto) | exc (c : Nat) (l : List D) (st : Sto) | bad
def lcStepE (t : D → DE → Option DE) (c f : En → ER) (e : DE) (d : D) (st : Sto) : LR := match t d e with
  | none => .bad
  | some e2 => (match c ⟨e2, st⟩ with
    | .val _ (.bl b) st1 => if b = true then (match f ⟨e2, st1⟩ with | .val .P y st2 => .ok (some y) st2 | .val .N y st2 => .ok (some y) st2 | .exc k l st2 => .exc k l st2 | _ => .bad) else .ok none st1
    | _ => .bad)
def lcGoE (k : D → Sto → LR) : List D → List D → Sto → ER
  | [], acc, st => .val .N (.lst acc) st
  | d :: l, acc, st => match k d st with
    | .ok o st1 => lcGoE k l (acc ++ o.toList) st1
    | .exc c x st1 => .exc c x st1
    | .bad => .bad
def dLcE (src : En → AR) (t : D → DE → Option DE) (c f : En → ER) (vs : List Nat) : En → ER := fun E => match src E with
  | .ok _ l st => if l.length ≤ 1000000 then lcGoE (lcStepE t c f (wipeE E.e vs)) l [] st else .bad
  | .exc k l st => .exc k l st
  | .bad => .bad
section
variable {G : Gm} {W : WX}
theorem v_lcG {wi : TI} {g : TG} {tt : TT} {te : WX → TE} {vs js : List Nat} {src : En → AR} {t : D → DE → Option DE} {c f : En → ER} (hi : DIt G W wi src) (hg : DTg G g js t) (hj : ∀ j ∈ js, j ∈ vs) (ht : DTt G W0 tt c) (he : ∀ W', DEv G W' (te W') f) : DEv G W (tLcE W wi g tt te vs) (dLcE src t c f vs) := by
  intro s t0 σ e st E k0 Q post
  refine hi s t0 σ e st E k0 _ ?_
  unfold dLcE at post
  cases q : src ⟨e, st⟩ with
  | ok p l st1 =>
    rw [q] at post
    obtain ⟨hlen, post⟩ := RPost.cond _ _ post
    intro t1 J g1 k1 it Dl hD
    have hDH : t0.h Dl = none := by
      cases q : t0.h Dl with
      | none => rfl
      | some o =>
        by_cases i : Dl ∈ t0.as
        · exact absurd (g1.a.mem i) (k1.new hD)
        · rw [g1.h Dl o q i] at hD; cases hD
    have hD0 : s.h Dl = none := by
      cases q : s.h Dl with
      | none => rfl
      | some o =>
        by_cases i : Dl ∈ s.as
        · exact absurd (E.gr.a.mem i) (k0.new hDH)
        · rw [E.gr.h Dl o q i] at hDH; cases hDH
    have hDf : t1.f Dl = none := k1.sf.free hD
    have hDa : Dl ∉ t1.as := k1.new hD
    have Ew := (E.up g1).wipe vs
    have hne : ∀ (j : Nat) (m : List D), (L2.wipe σ vs)[j]? = some (some (.ref Dl)) → (wipeE e vs)[j]? = some (.own m) → False := fun j m a b => by
      obtain ⟨o, h1, p', vs', h2, _, _, h3, _⟩ := Ew.slot b
      rw [a] at h1; cases h1
      cases h2
      rw [hD] at h3; cases h3
    have gd := g1.chg (o := .lst []) hDH hDf
    refine ⟨fun i m H' => m = l.length - i ∧ i ≤ l.length ∧ ∃ t2 st2 acc vacc, t2.h = H' ∧ Up t1 t2 ∧ Gro t0 t2 ∧ StOk G t2 st2 ∧ EnvOk G s t2 (L2.wipe σ vs) (wipeE e vs) ∧ t2.h Dl = some (.lst vacc) ∧ IsL G t2.as t2.f vacc acc ∧ t2.f Dl = none ∧ Dl ∉ t2.as ∧ acc.length ≤ i ∧
      RPost G W t0 σ Q (lcGoE (lcStepE t c f (wipeE e vs)) (l.drop i) acc st2), ⟨l.length, by simp, Nat.zero_le _, ⟨t1.as, t1.f, upd t1.h Dl (.lst [])⟩, st1, [], [], rfl, ⟨Ext.refl _, Same.refl _⟩, gd, k1.chg hDf hDa, Ew.other hD0 hDf hne, upd_same, .nil, hDf, hDa, Nat.zero_le _, post⟩, ?_⟩
    rintro i m H2 ⟨rfl, hi, t2, st2, acc, vacc, rfl, s2, g2, k2, E2, d2, a2, n2, na2, l2, r2⟩
    obtain ⟨i1, i2⟩ := it i t2 st2 s2 k2
    by_cases hlt : i < l.length
    · right
      have hd : l[i]? = some l[i] := List.getElem?_eq_getElem hlt
      obtain ⟨go, y⟩ := i2 _ hd
      rw [List.drop_eq_getElem_cons hlt] at r2
      refine ⟨go, fun H' => i + 1 ≤ l.length ∧ ∃ t2 st2 acc vacc, t2.h = H' ∧ Up t1 t2 ∧ Gro t0 t2 ∧ StOk G t2 st2 ∧ EnvOk G s t2 (L2.wipe σ vs) (wipeE e vs) ∧ t2.h Dl = some (.lst vacc) ∧ IsL G t2.as t2.f vacc acc ∧ t2.f Dl = none ∧ Dl ∉ t2.as ∧ acc.length ≤ i + 1 ∧
        RPost G W t0 σ Q (lcGoE (lcStepE t c f (wipeE e vs)) (l.drop (i + 1)) acc st2), fun H' h => ⟨l.length - (i + 1), by omega, rfl, h⟩, fun x H' hy => ?_⟩
      obtain ⟨t3, rfl, g3, k3, i3⟩ := y x H' hy
      unfold lcGoE lcStepE at r2
      cases q3 : t l[i] (wipeE e vs) with
      | none => rw [q3] at r2; exact r2.elim
      | some e3 =>
        rw [q3] at r2
        refine hg s t3 (L2.wipe σ vs) (wipeE e vs) st2 x l[i] (E2.up g3) k3 i3 _ e3 q3 fun σ4 E4 l4 w4 => ?_
        refine ⟨wipe_agree (by rw [l4, L2.wipe_length]) hj w4 l4, ?_⟩
        refine ht s t3 σ4 e3 st2 E4 k3 _ ?_
        dsimp only at r2
        cases q4 : c ⟨e3, st2⟩ with
        | exc k l st => rw [q4] at r2; exact r2.elim
        | bad => rw [q4] at r2; exact r2.elim
        | val mm d st4 =>
          rw [q4] at r2
          cases d with
          | bl b =>
            intro t5 g5 k5
            have gg := g3.trans g5
            cases b with
            | false =>
              have r2 : RPost G W t0 σ Q (lcGoE (lcStepE t c f (wipeE e vs)) (l.drop (i + 1)) (acc ++ []) st4) := r2
              rw [List.append_nil] at r2
              exact iteF ⟨hlt, t5, st4, acc, vacc, rfl, s2.trans gg.up, g2.trans gg, k5, E2.up gg, gg.h _ _ d2 na2, a2.up gg.a gg.f, gg.n _ _ d2 n2, (fun m => (gg.w Dl m).elim na2 fun z => by rw [d2] at z; cases z), by omega, r2⟩
            | true =>
              refine iteT (he _ s t5 σ4 e3 st4 (E4.up g5) k5 _ ?_)
              have fin : ∀ y st6 t6 v, Gro t5 t6 → StOk G t6 st6 → Is G t6.as t6.f v y → RPost G W t0 σ Q (lcGoE (lcStepE t c f (wipeE e vs)) (l.drop (i + 1)) (acc ++ [y]) st6) → ∃ acc, t6.h Dl = some (.lst acc) ∧ acc.length < sizeLine ∧ (i + 1 ≤ l.length ∧ ∃ t2 st2 acc_1 vacc, t2.h = upd t6.h Dl (.lst (acc ++ [v])) ∧ Up t1 t2 ∧ Gro t0 t2 ∧ StOk G t2 st2 ∧ EnvOk G s t2 (L2.wipe σ vs) (wipeE e vs) ∧
                  t2.h Dl = some (.lst vacc) ∧ IsL G t2.as t2.f vacc acc_1 ∧ t2.f Dl = none ∧ Dl ∉ t2.as ∧ acc_1.length ≤ i + 1 ∧ RPost G W t0 σ Q (lcGoE (lcStepE t c f (wipeE e vs)) (l.drop (i + 1)) acc_1 st2)) := fun y st6 t6 v g6 k6 i6 rr => by
                have gh := gg.trans g6
                have nn := gh.n _ _ d2 n2
                have na : Dl ∉ t6.as := fun m => (gh.w Dl m).elim na2 fun z => by rw [d2] at z; cases z
                have cl := a2.len
                refine ⟨vacc, gh.h _ _ d2 na2, by rw [cl]; exact szlt (by omega), hlt, ⟨t6.as, t6.f, upd t6.h Dl (.lst (vacc ++ [v]))⟩, st6, acc ++ [y], vacc ++ [v], rfl, ?_, (g2.trans gh).chg hDH nn, k6.chg nn na, (E2.up gh).other hD0 nn hne, upd_same, (a2.up gh.a gh.f).append (.one i6), nn, na, by simp; omega, rr⟩
                exact ⟨s2.a.trans gh.a, s2.f.trans gh.f⟩
              have r3 : RPost G W t0 σ Q (match (match f ⟨e3, st4⟩ with | .val .P y st2 => LR.ok (some y) st2 | .val .N y st2 => .ok (some y) st2 | .exc k l st2 => .exc k l st2 | _ => .bad) with
                | .ok o st1 => lcGoE (lcStepE t c f (wipeE e vs)) (l.drop (i + 1)) (acc ++ o.toList) st1
                | .exc c x st1 => .exc c x st1
                | .bad => .bad) := r2
              cases q6 : f ⟨e3, st4⟩ with
              | val m6 y st6 =>
                rw [q6] at r3
                intro t6 v g6 k6 o6
                cases m6 with
                | P => exact fin y st6 t6 v g6 k6 o6 r3
                | B => exact r3.elim
                | N =>
                  obtain ⟨f7, g7, k7, _, i7⟩ := o6.freeze g6 k6 (by decide)
                  exact fin y st6 ⟨t6.as, f7, t6.h⟩ v g7 k7 i7 r3
              | exc k x st6 =>
                rw [q6] at r3
                intro t6 v g6 k6 o6
                exact r3 t6 v (g2.trans (gg.trans g6)) k6 o6
              | bad => rw [q6] at r3; exact r3.elim
          | _ => exact r2.elim
    · left
      have : i = l.length := by omega
      subst this
      refine ⟨i1 (Nat.le_refl _), ?_⟩
      rw [List.drop_length] at r2
      exact r2 t2 _ g2 k2 ⟨Dl, vacc, acc, rfl, rfl, d2, a2, na2, hDH, n2⟩
  | exc c l st1 => rw [q] at post; exact post
  | bad => rw [q] at post; exact post
end
@[simp] theorem e_dLcE {src : En → AR} {t : D → DE → Option DE} {c f : En → ER} {vs : List Nat} {E : En} : dLcE src t c f vs E = match src E with
  | .ok _ l st => if l.length ≤ 1000000 then lcGoE (lcStepE t c f (wipeE E.e vs)) l [] st else .bad
  | .exc k l st => .exc k l st
  | .bad => .bad := rfl
end Dn
namespace Dn
open PySem PySem.Spec PyProof.Rows L2
section
variable {G : Gm} {W : WX}
def oAddX (a b : D) (st : Sto) : ER := match deref st a, deref st b with
  | .lst x, .lst y => if x.length + y.length ≤ 1000000 then .val .N (.lst (x ++ y)) st else .bad
  | _, _ => oAdd a b st
def oSlX (d : D) (lo hi : Option Int) (st : Sto) : ER := match deref st d with
  | .lst l => .val .N (.lst (cutG l lo hi)) st
  | _ => oSl d lo hi st
def firstI (k : Int) : List Int → Option Nat
  | [] => none
  | n :: r => if n = k then some 0 else (firstI k r).map (· + 1)
def mRemove (l ds : List D) : Option (D × List D) := match ds with
  | [.int k] => (intsOf l).bind fun ns => (firstI k ns).map fun j => (.non, (ns.eraseIdx j).map .int)
  | _ => none
end
@[simp] theorem e_oAddX {a b : D} {st : Sto} : oAddX a b st = (match deref st a, deref st b with
  | .lst x, .lst y => if x.length + y.length ≤ 1000000 then .val .N (.lst (x ++ y)) st else .bad
  | _, _ => oAdd a b st) := rfl
@[simp] theorem e_oSlX {d : D} {lo hi : Option Int} {st : Sto} : oSlX d lo hi st = (match deref st d with
  | .lst l => .val .N (.lst (cutG l lo hi)) st
  | _ => oSl d lo hi st) := rfl
@[simp] theorem e_mRemove {l : List D} {k : Int} : mRemove l [.int k] = (intsOf l).bind fun ns => (firstI k ns).map fun j => (.non, (ns.eraseIdx j).map .int) := rfl
end Dn
namespace Dn
open PySem PySem.Spec PyProof.Rows L2
section
variable {G : Gm} {W : WX}
def hdl : List ((Nat → Option Bool) × (En → SR)) → Nat → Option (Option (En → SR))
  | [], _ => some none
  | x :: r, c => match x.1 c with
    | some true => some (some x.2)
    | some false => hdl r c
    | none => none
def clrS : SR → SR
  | .nx E => .nx ⟨clr E.e, E.st⟩
  | .bk E => .bk ⟨clr E.e, E.st⟩
  | .ct E => .ct ⟨clr E.e, E.st⟩
  | .rt m d st => .rt m d st
  | _ => .bad
def sTryL (hs : List ((Nat → Option Bool) × (En → SR))) (g : En → SR) : En → SR := fun E => match g E with
  | .exc c l E1 => (match hdl hs c with
    | some (some h) => clrS (h ⟨clr E1.e, E1.st⟩)
    | some none => .exc c l E1
    | none => .bad)
  | r => r
inductive HsD (G : Gm) : List (Value × (Addr → Value → Option Addr → TS)) → List ((Nat → Option Bool) × (En → SR)) → Prop
  | nil : HsD G [] []
  | cons {C : Value} {ts : Addr → Value → Option Addr → TS} {p : Nat → Option Bool} {h : En → SR} {l : List (Value × (Addr → Value → Option Addr → TS))} {hs : List ((Nat → Option Bool) × (En → SR))} (hc : ∀ c b, p c = some b → PySem.W.exmOne G.K (.ref (G.ca c)) C = some b) (hd : ∀ a cls d, DSt (G.at_ a) W0 (ts a cls d) h) (r : HsD G l hs) : HsD G ((C, ts) :: l) ((p, h) :: hs)
end
@[simp] theorem e_hdl0 {c : Nat} : hdl [] c = some none := rfl
@[simp] theorem e_hdlC {p : Nat → Option Bool} {h : En → SR} {r : List ((Nat → Option Bool) × (En → SR))} {c : Nat} : hdl ((p, h) :: r) c = (match p c with
    | some true => some (some h)
    | some false => hdl r c
    | none => none) := rfl
@[simp] theorem e_sTryL {hs : List ((Nat → Option Bool) × (En → SR))} {g : En → SR} {E : En} : sTryL hs g E = match g E with
  | .exc c l E1 => (match hdl hs c with
    | some (some h) => clrS (h ⟨clr E1.e, E1.st⟩)
    | some none => .exc c l E1
    | none => .bad)
  | r => r := rfl
@[simp] theorem e_clrSN {E : En} : clrS (.nx E) = .nx ⟨clr E.e, E.st⟩ := rfl
@[simp] theorem e_clrSB {E : En} : clrS (.bk E) = .bk ⟨clr E.e, E.st⟩ := rfl
@[simp] theorem e_clrSC {E : En} : clrS (.ct E) = .ct ⟨clr E.e, E.st⟩ := rfl
@[simp] theorem e_clrSR {m : Md} {d : D} {st : Sto} : clrS (.rt m d st) = .rt m d st := rfl
end Dn
namespace Dn
open PySem PySem.Spec PyProof.Rows L2
section
variable {G : Gm} {W : WX}
def oTupleX : List D → Sto → ER
  | [.ptr n], st => ofOpt (stLst st n) fun l => .val .P (.tup l) st
  | l, st => oTuple l st
def dIdx (fb : En → ER) (fa : En → AR) : En → ER := fun E => match fb E with
  | .val _ (.lst l) st => (match fa ⟨E.e, st⟩ with
    | .ok _ [.int k] st1 => ofOpt ((intsOf l).bind (firstI k)) fun n => .val .P (.int (n : Nat)) st1
    | .exc c l st => .exc c l st
    | _ => .bad)
  | .exc c l st => .exc c l st
  | _ => .bad
end
@[simp] theorem e_oTupleXP {n : Nat} {st : Sto} : oTupleX [.ptr n] st = ofOpt (stLst st n) fun l => .val .P (.tup l) st := rfl
@[simp] theorem e_oTupleXL {l : List D} {st : Sto} : oTupleX [.lst l] st = .val .P (.tup l) st := rfl
@[simp] theorem e_oTupleXT {l : List D} {st : Sto} : oTupleX [.tup l] st = .val .P (.tup l) st := rfl
@[simp] theorem e_dIdx {fb : En → ER} {fa : En → AR} {E : En} : dIdx fb fa E = match fb E with
  | .val _ (.lst l) st => (match fa ⟨E.e, st⟩ with
    | .ok _ [.int k] st1 => ofOpt ((intsOf l).bind (firstI k)) fun n => .val .P (.int (n : Nat)) st1
    | .exc c l st => .exc c l st
    | _ => .bad)
  | .exc c l st => .exc c l st
  | _ => .bad := rfl
end Dn
namespace Dn
open PySem PySem.Spec PyProof.Rows L2
section
variable {G : Gm} {W : WX}
def derefN : Nat → Sto → D → D
  | 0, _, d => d
  | k + 1, st, .ptr n => (match stLst st n with | some l => .lst (l.map (derefN k st)) | none => .ptr n)
  | k + 1, st, .tup l => .tup (l.map (derefN k st))
  | k + 1, st, .lst l => .lst (l.map (derefN k st))
  | _ + 1, _, d => d
def oEqN (a b : D) (st : Sto) : ER := oEq (derefN 4 st a) (derefN 4 st b) st
def oNeN (a b : D) (st : Sto) : ER := oNe (derefN 4 st a) (derefN 4 st b) st
@[simp] theorem e_oEqN {a b : D} {st : Sto} : oEqN a b st = oEq (derefN 4 st a) (derefN 4 st b) st := rfl
@[simp] theorem e_oNeN {a b : D} {st : Sto} : oNeN a b st = oNe (derefN 4 st a) (derefN 4 st b) st := rfl
end
end Dn
namespace Dn
open PySem PySem.Spec PyProof.Rows L2
section
variable {G : Gm} {W : WX}
def dZipA (f : En → AR) : En → AR := fun E => match f E with
  | .ok true [.lst l, .lst m] st => .ok true (zipD l m) st
  | .ok true [.tup l, .tup m] st => .ok true (zipD l m) st
  | .exc c l st => .exc c l st
  | _ => .bad
@[simp] theorem e_dZipA {f : En → AR} {E : En} : dZipA f E = match f E with
  | .ok true [.lst l, .lst m] st => .ok true (zipD l m) st
  | .ok true [.tup l, .tup m] st => .ok true (zipD l m) st
  | .exc c l st => .exc c l st
  | _ => .bad := rfl
end
end Dn
namespace Dn
open PySem PySem.Spec PyProof.Rows L2
section
variable {G : Gm} {W : WX}
noncomputable def dLcZ (f : En → AR) (t : D → DE → Option DE) (c g : En → ER) (vs : List Nat) : En → ER := fun E => match f E with
  | .ok true [.ptr n, .lst m] st => (match stLst st n with
    | some l => if (zipD l m).length ≤ 1000000 then ofOpt (lcGoC (fun st => stLst st n = some l) (lcStep t c g (wipeE E.e vs)) (zipD l m) st) fun r => .val .N (.lst r.1) r.2 else .bad
    | none => .bad)
  | _ => dLc (dZipA f) t c g vs E
end
@[simp] theorem e_dLcZ {fs : En → AR} {t : D → DE → Option DE} {c f : En → ER} {vs : List Nat} {E : En} : dLcZ fs t c f vs E = match fs E with
  | .ok true [.ptr n, .lst m] st => (match stLst st n with
    | some l => if (zipD l m).length ≤ 1000000 then ofOpt (lcGoC (fun st => stLst st n = some l) (lcStep t c f (wipeE E.e vs)) (zipD l m) st) fun r => .val .N (.lst r.1) r.2 else .bad
    | none => .bad)
  | _ => dLc (dZipA fs) t c f vs E := rfl
section
variable {G : Gm}
def mExtend (l ds : List D) : Option (D × List D) := match ds with
  | [.lst z] => if l.length + z.length ≤ 1000000 then some (.non, l ++ z) else none
  | _ => none
@[simp] theorem e_mExtend {l z : List D} : mExtend l [.lst z] = if l.length + z.length ≤ 1000000 then some (.non, l ++ z) else none := rfl
end
end Dn
namespace Dn
open PySem PySem.W PySem.Spec PyProof.Rows L2
end Dn
namespace Dn
open PySem PySem.W PySem.Spec PyProof.Rows L2
def anyO : List (Option Bool) → Option Bool
  | [] => some false
  | none :: _ => none
  | some true :: _ => some true
  | some false :: l => anyO l
@[simp] theorem e_anyO_nil : anyO [] = some false := rfl
@[simp] theorem e_anyO_t {l : List (Option Bool)} : anyO (some true :: l) = some true := rfl
@[simp] theorem e_anyO_f {l : List (Option Bool)} : anyO (some false :: l) = anyO l := rfl
end Dn
namespace Dn
open PySem PySem.Spec PyProof.Rows L2
section
variable {G : Gm} {W : WX}
def oInF (a b : D) (st : Sto) : ER := match b with
  | .tup l => if flat a = true ∧ l.all flat = true then .val .P (.bl (inV (toV a) (l.map toV))) st else .bad
  | _ => .bad
@[simp] theorem e_oInF {a : D} {l : List D} {st : Sto} : oInF a (.tup l) st = if flat a = true ∧ l.all flat = true then .val .P (.bl (inV (toV a) (l.map toV))) st else .bad := rfl
end
end Dn
namespace Dn
open PySem PySem.Spec PyProof.Rows L2
section
variable {G : Gm} {W : WX}
noncomputable def sForE (f : En → AR) (t : D → DE → Option DE) (b : En → SR) : En → SR := fun E => match f E with
  | .ok true [.ptr n] st => (match stLst st n with | some l => forPD n l (tgB t b) (enumD 0 l) ⟨E.e, st⟩ | none => .bad)
  | _ => sFor (dEnum f) t b E
def oSortedP : List D → Sto → ER
  | [.ptr n], st => (match stLst st n with
    | some l => (match intsOf l with
      | some ns => if ns.length < 64 then .val .N (.lst ((srt ns).map .int)) st else .bad
      | none => .bad)
    | none => .bad)
  | l, st => oSortedX l st
@[simp] theorem e_oSortedP_1 {n : Nat} {st : Sto} : oSortedP [.ptr n] st = (match stLst st n with
    | some l => (match intsOf l with
      | some ns => if ns.length < 64 then .val .N (.lst ((srt ns).map .int)) st else .bad
      | none => .bad)
    | none => .bad) := rfl
@[simp] theorem e_oSortedP_2 {l : List D} {st : Sto} : oSortedP [.lst l] st = oSortedX [.lst l] st := rfl
@[simp] theorem e_sForE {f : En → AR} {t : D → DE → Option DE} {b : En → SR} {E : En} : sForE f t b E = match f E with
  | .ok true [.ptr n] st => (match stLst st n with | some l => forPD n l (tgB t b) (enumD 0 l) ⟨E.e, st⟩ | none => .bad)
  | _ => sFor (dEnum f) t b E := rfl
end
end Dn
namespace L2
open PySem PySem.Spec PyProof.Rows
end L2
namespace Dn
open PySem PySem.Spec PyProof.Rows L2
def dctAt : List (Str × D) → Str → Option D
  | [], _ => none
  | p :: r, k => if p.1 = k then some p.2 else dctAt r k
def dctPut (l : List (Str × D)) (k : Str) (d : D) : List (Str × D) :=
  if (dctAt l k).isSome = true then l.map (fun p => if p.1 = k then (p.1, d) else p) else l ++ [(k, d)]
def dctDrop (l : List (Str × D)) (k : Str) : List (Str × D) := l.filter fun p => decide (p.1 ≠ k)
def stDct (st : Sto) (n : Nat) : Option (List (Str × D)) := match st[n]? with
  | some (.dct l) => some l
  | _ => none
section
variable {G : Gm} {W : WX}
theorem StOk.dct {s : Hs} {st : Sto} {n : Nat} {l : List (Str × D)} {p : Addr} (k : StOk G s st) (ha : s.as[n]? = some p) (h : stDct st n = some l) : ∃ kvs : List (Key × V), s.h p = some (.dK kvs) ∧ KsR G s.as s.f kvs l := by
  unfold stDct at h
  split at h
  · rename_i l' q
    cases h
    exact k.ob n p _ ha q
  · cases h
section
variable {as : List Addr} {H : Hp} {kvs : List (Key × V)} {l : List (Str × D)}
theorem inr_ne {x k : Str} (e : ¬ x = k) : ¬ (Sum.inr x : Key) = .inr k := fun z => e (Sum.inr.inj z)
theorem KsR.get (h : KsR G as H kvs l) {k : Str} {d : D} (e : dctAt l k = some d) : ∃ v, valV kvs (.inr k) = some v ∧ Is G as H v d := by
  induction h with
  | nil => cases e
  | @cons x v d' ps ds a b ih =>
    unfold dctAt at e
    by_cases c : x = k
    · rw [if_pos c] at e
      cases e
      exact ⟨v, valV_pos (p := ((.inr x : Key), v)) (congrArg Sum.inr c), a⟩
    · rw [if_neg c] at e
      rw [valV_neg (p := ((.inr x : Key), v)) (inr_ne c)]
      exact ih e
theorem KsR.is (h : KsR G as H kvs l) (k : Str) : (valV kvs (.inr k)).isSome = (dctAt l k).isSome := by
  induction h with
  | nil => rfl
  | @cons x v d' ps ds a b ih =>
    unfold dctAt
    by_cases c : x = k
    · rw [if_pos c, valV_pos (p := ((.inr x : Key), v)) (congrArg Sum.inr c)]; rfl
    · rw [if_neg c, valV_neg (p := ((.inr x : Key), v)) (inr_ne c)]
      exact ih
theorem KsR.len (h : KsR G as H kvs l) : kvs.length = l.length := by
  induction h with
  | nil => rfl
  | cons a b ih => exact congrArg Nat.succ ih
theorem KsR.snoc (h : KsR G as H kvs l) {x : Str} {v : V} {d : D} (q : Is G as H v d) : KsR G as H (kvs ++ [(.inr x, v)]) (l ++ [(x, d)]) := by
  induction h with
  | nil => exact .cons q .nil
  | cons a b ih => exact .cons a ih
theorem KsR.repl (h : KsR G as H kvs l) {x : Str} {v : V} {d : D} (q : Is G as H v d) : KsR G as H (kvs.map fun kv => if kv.1 = .inr x then (kv.1, v) else kv) (l.map fun p => if p.1 = x then (p.1, d) else p) := by
  induction h with
  | nil => exact .nil
  | @cons y w d' ps ds a b ih =>
    rw [List.map_cons, List.map_cons]
    by_cases c : y = x
    · rw [if_pos (show ((Sum.inr y : Key), w).1 = .inr x from congrArg Sum.inr c), if_pos c]; exact .cons q ih
    · rw [if_neg (show ¬ ((Sum.inr y : Key), w).1 = .inr x from inr_ne c), if_neg c]; exact .cons a ih
theorem KsR.put (h : KsR G as H kvs l) {x : Str} {v : V} {d : D} (q : Is G as H v d) : KsR G as H (putK kvs (.inr x) v) (dctPut l x d) := by
  unfold putK dctPut
  rw [valV_any, h.is x]
  by_cases c : (dctAt l x).isSome = true
  · rw [if_pos c, if_pos c]; exact h.repl q
  · rw [if_neg c, if_neg c]; exact h.snoc q
theorem KsR.drop (h : KsR G as H kvs l) (x : Str) : KsR G as H (dropK kvs (.inr x)) (dctDrop l x) := by
  unfold dropK dctDrop
  induction h with
  | nil => exact .nil
  | @cons y w d' ps ds a b ih =>
    rw [List.filter_cons, List.filter_cons]
    by_cases c : y = x
    · rw [if_neg (by simp [c]), if_neg (by simp [c])]; exact ih
    · rw [if_pos (by simp [c]), if_pos (by simp [c])]; exact .cons a ih
end
def dDNew : En → ER := fun E => .val .P (.ptr E.st.length) (E.st ++ [.dct []])
def oInD (a b : D) (st : Sto) : ER := match a, b with
  | .str x, .ptr n => ofOpt (stDct st n) fun l => .val .P (.bl (dctAt l x).isSome) st
  | _, _ => .bad
def oNotInD (a b : D) (st : Sto) : ER := match a, b with
  | .str x, .ptr n => ofOpt (stDct st n) fun l => .val .P (.bl (!(dctAt l x).isSome)) st
  | _, _ => .bad
def oIxD (a b : D) (st : Sto) : ER := match a, b with
  | .ptr n, .str x => ofOpt (stDct st n) fun l => ofOpt (dctAt l x) fun d => .val .P d st
  | _, _ => .bad
def sSetD (fb f fi : En → ER) : En → SR := fun E => match f E with
  | .val .B _ _ => .bad
  | .val _ d st => (match fb ⟨E.e, st⟩ with
    | .val _ (.ptr n) st1 => (match fi ⟨E.e, st1⟩ with
      | .val _ (.str x) st2 => (match stDct st2 n with
        | some l => if l.length < 1000000 then .nx ⟨E.e, st2.set n (.dct (dctPut l x d))⟩ else .bad
        | none => .bad)
      | .exc c l st => .exc c l ⟨E.e, st⟩
      | _ => .bad)
    | .exc c l st => .exc c l ⟨E.e, st⟩
    | _ => .bad)
  | .exc c l st => .exc c l ⟨E.e, st⟩
  | .bad => .bad
def dDPop (f g : En → ER) : En → ER := fun E => match f E with
  | .val _ (.ptr n) st => (match stDct st n with
    | some _ => (match g ⟨E.e, st⟩ with
      | .val _ (.str x) st1 => (match stDct st1 n with
        | some l => (match dctAt l x with
          | some d => .val .P d (st1.set n (.dct (dctDrop l x)))
          | none => .bad)
        | none => .bad)
      | .exc c l st => .exc c l st
      | _ => .bad)
    | none => .bad)
  | .exc c l st => .exc c l st
  | _ => .bad
@[simp] theorem e_stDct {st : Sto} {n : Nat} : stDct st n = match st[n]? with | some (.dct l) => some l | _ => none := rfl
@[simp] theorem e_dDNew {E : En} : dDNew E = .val .P (.ptr E.st.length) (E.st ++ [.dct []]) := rfl
@[simp] theorem e_oInD {x : Str} {n : Nat} {st : Sto} : oInD (.str x) (.ptr n) st = ofOpt (stDct st n) fun l => .val .P (.bl (dctAt l x).isSome) st := rfl
@[simp] theorem e_oNotInD {x : Str} {n : Nat} {st : Sto} : oNotInD (.str x) (.ptr n) st = ofOpt (stDct st n) fun l => .val .P (.bl (!(dctAt l x).isSome)) st := rfl
@[simp] theorem e_oIxD {x : Str} {n : Nat} {st : Sto} : oIxD (.ptr n) (.str x) st = ofOpt (stDct st n) fun l => ofOpt (dctAt l x) fun d => .val .P d st := rfl
@[simp] theorem e_sSetD {fb f fi : En → ER} {E : En} : sSetD fb f fi E = match f E with
  | .val .B _ _ => .bad
  | .val _ d st => (match fb ⟨E.e, st⟩ with
    | .val _ (.ptr n) st1 => (match fi ⟨E.e, st1⟩ with
      | .val _ (.str x) st2 => (match stDct st2 n with
        | some l => if l.length < 1000000 then .nx ⟨E.e, st2.set n (.dct (dctPut l x d))⟩ else .bad
        | none => .bad)
      | .exc c l st => .exc c l ⟨E.e, st⟩
      | _ => .bad)
    | .exc c l st => .exc c l ⟨E.e, st⟩
    | _ => .bad)
  | .exc c l st => .exc c l ⟨E.e, st⟩
  | .bad => .bad := rfl
@[simp] theorem e_dDPop {f g : En → ER} {E : En} : dDPop f g E = match f E with
  | .val _ (.ptr n) st => (match stDct st n with
    | some _ => (match g ⟨E.e, st⟩ with
      | .val _ (.str x) st1 => (match stDct st1 n with
        | some l => (match dctAt l x with
          | some d => .val .P d (st1.set n (.dct (dctDrop l x)))
          | none => .bad)
        | none => .bad)
      | .exc c l st => .exc c l st
      | _ => .bad)
    | none => .bad)
  | .exc c l st => .exc c l st
  | _ => .bad := rfl
end
end Dn
namespace Dn
open PySem PySem.Spec PyProof.Rows L2
section
variable {G : Gm} {W : WX}
def oIsB (a b : D) (st : Sto) : ER := match a, b with
  | .bl x, .bl y => .val .P (.bl (decide (x = y))) st
  | _, _ => .bad
@[simp] theorem e_oIsB {x y : Bool} {st : Sto} : oIsB (.bl x) (.bl y) st = .val .P (.bl (decide (x = y))) st := rfl
end
end Dn
namespace Dn
open PySem PySem.Spec PyProof.Rows L2
end Dn
namespace Dn
open PySem PySem.Spec PyProof.Rows L2
section
variable {G : Gm} {W : WX}
def firstS (k : Str) : List Str → Option Nat
  | [] => none
  | n :: r => if n = k then some 0 else (firstS k r).map (· + 1)
def dIdxX (fb : En → ER) (fa : En → AR) : En → ER := fun E => match fb E with
  | .val _ (.ptr n) st => (match stLst st n with
    | some _ => (match fa ⟨E.e, st⟩ with
      | .ok _ [.str k] st1 => ofOpt ((stLst st1 n).bind fun l => (strsOf l).bind (firstS k)) fun j => .val .P (.int (j : Nat)) st1
      | .exc c l st => .exc c l st
      | _ => .bad)
    | none => .bad)
  | .exc c l st => .exc c l st
  | _ => .bad
end
@[simp] theorem e_dIdxX {fb : En → ER} {fa : En → AR} {E : En} : dIdxX fb fa E = match fb E with
  | .val _ (.ptr n) st => (match stLst st n with
    | some _ => (match fa ⟨E.e, st⟩ with
      | .ok _ [.str k] st1 => ofOpt ((stLst st1 n).bind fun l => (strsOf l).bind (firstS k)) fun j => .val .P (.int (j : Nat)) st1
      | .exc c l st => .exc c l st
      | _ => .bad)
    | none => .bad)
  | .exc c l st => .exc c l st
  | _ => .bad := rfl
end Dn
namespace Dn
open PySem PySem.Spec PyProof.Rows L2
def dDispG (n : Nat) : List (Str × (En → ER)) → List (Str × D) → En → ER
  | [], acc, E => (match stDct E.st n with
    | some [] => .val .P (.ptr n) (E.st.set n (.dct acc))
    | _ => .bad)
  | (x, f) :: r, acc, E => match f E with
    | .val .B _ _ => .bad
    | .val _ d st => dDispG n r (acc ++ [(x, d)]) ⟨E.e, st⟩
    | .exc c l st => .exc c l st
    | .bad => .bad
def dDisp (ps : List (Str × (En → ER))) : En → ER := fun E => dDispG E.st.length ps [] ⟨E.e, E.st ++ [.dct []]⟩
section
variable {G : Gm} {W : WX}
inductive DPs (G : Gm) (W : WX) : List (TE × TE) → List (Str × (En → ER)) → Prop
  | nil : DPs G W [] []
  | cons {x : Str} {tv : TE} {f : En → ER} {trs : List (TE × TE)} {ps : List (Str × (En → ER))} : DEv G W tv f → DPs G W trs ps → DPs G W ((tC (.str x), tv) :: trs) ((x, f) :: ps)
def dDGet2 (f g h : En → ER) : En → ER := fun E => match f E with
  | .val _ (.ptr n) st => (match stDct st n with
    | some _ => (match g ⟨E.e, st⟩ with
      | .val _ (.str x) st1 => (match h ⟨E.e, st1⟩ with
        | .val .B _ _ => .bad
        | .val _ d st2 => (match stDct st2 n with
          | some l => .val .P ((dctAt l x).getD d) st2
          | none => .bad)
        | .exc c l st => .exc c l st
        | .bad => .bad)
      | .exc c l st => .exc c l st
      | _ => .bad)
    | none => .bad)
  | .exc c l st => .exc c l st
  | _ => .bad
theorem KsR.getD {as : List Addr} {H : Hp} {kvs : List (Key × V)} {l : List (Str × D)} (h : KsR G as H kvs l) {k : Str} {v : V} {d : D} (i : Is G as H v d) : Is G as H ((valV kvs (.inr k)).getD v) ((dctAt l k).getD d) := by
  cases e : dctAt l k with
  | none =>
    have := h.is k
    rw [e] at this
    cases e2 : valV kvs (.inr k) with
    | none => exact i
    | some w => rw [e2] at this; cases this
  | some d' =>
    obtain ⟨w, h1, h2⟩ := h.get e
    rw [h1]; exact h2
end
@[simp] theorem e_dDisp {ps : List (Str × (En → ER))} {E : En} : dDisp ps E = dDispG E.st.length ps [] ⟨E.e, E.st ++ [.dct []]⟩ := rfl
@[simp] theorem e_dDispG0 {n : Nat} {acc : List (Str × D)} {E : En} : dDispG n [] acc E = (match stDct E.st n with
    | some [] => .val .P (.ptr n) (E.st.set n (.dct acc))
    | _ => .bad) := rfl
@[simp] theorem e_dDispG1 {n : Nat} {x : Str} {f : En → ER} {r : List (Str × (En → ER))} {acc : List (Str × D)} {E : En} : dDispG n ((x, f) :: r) acc E = (match f E with
    | .val .B _ _ => .bad
    | .val _ d st => dDispG n r (acc ++ [(x, d)]) ⟨E.e, st⟩
    | .exc c l st => .exc c l st
    | .bad => .bad) := rfl
@[simp] theorem e_dDGet2 {f g h : En → ER} {E : En} : dDGet2 f g h E = match f E with
  | .val _ (.ptr n) st => (match stDct st n with
    | some _ => (match g ⟨E.e, st⟩ with
      | .val _ (.str x) st1 => (match h ⟨E.e, st1⟩ with
        | .val .B _ _ => .bad
        | .val _ d st2 => (match stDct st2 n with
          | some l => .val .P ((dctAt l x).getD d) st2
          | none => .bad)
        | .exc c l st => .exc c l st
        | .bad => .bad)
      | .exc c l st => .exc c l st
      | _ => .bad)
    | none => .bad)
  | .exc c l st => .exc c l st
  | _ => .bad := rfl
end Dn
namespace L2
open PySem PySem.Spec PyProof.Rows
end L2
namespace Dn
open PySem PySem.Spec PyProof.Rows L2
def insS (k : Int) : List Int → List Int
  | [] => [k]
  | a :: l => if k < a then k :: a :: l else if k = a then a :: l else a :: insS k l
def sset : List Int → List Int
  | [] => []
  | a :: l => insS a (sset l)
def oSortSet : List D → Sto → ER
  | [.lst l], st => ofOpt (intsOf l) fun ns => if ns.length < 64 then .val .N (.lst ((sset ns).map .int)) st else .bad
  | _, _ => .bad
@[simp] theorem e_oSortSet {l : List D} {st : Sto} : oSortSet [.lst l] st = ofOpt (intsOf l) fun ns => if ns.length < 64 then .val .N (.lst ((sset ns).map .int)) st else .bad := rfl
end Dn
namespace GQ
open PySem PySem.SeqAt
open AutoSeq1 (wpAny_loadPart')
open MeetsSeq MeetsSeq2 MeetsSeq3 SeqRoads2
end GQ
namespace Dn
open PySem PySem.Spec PySem.Calls PyProof.Rows L2
open AutoSeq1 (wpAny_loadPart')
end Dn
namespace L2
open PySem PySem.Spec PySem.Calls PyProof.Rows
abbrev RI := V → V → Hp → (Bool → Hp → Prop) → Prop
def EqI (X : Cx) (n : Nat) (r : RI) : Prop :=
  ∀ (A : Around) (pins : List (Addr × Obj)) (s : Shared) (σ : St) (H : Hp) (x y : V) (u v : Value) (Q : Bool → Hp → Prop), Sub X n A → Inv X pins σ H s → RelV x u → RelV y v → r x y H Q →
    wpAny (model X.prog X.w) A (eqBool u v) (TP X pins σ Q) X.xe s
end L2
namespace Dn
open PySem PySem.Spec PySem.Calls PyProof.Rows L2
section
variable {X : Cx} {G : Gm}
inductive Pln (K : PySem.W.Frag) (C : Addr) (H : Hp) : V → Prop
  | non (h : PySem.W.subIn K (.ref C) (.type "NoneType") = some false) : Pln K C H .non
  | int (i : Int) (h : PySem.W.subIn K (.ref C) (.type "int") = some false) : Pln K C H (.int i)
  | str (i : Str) (h : PySem.W.subIn K (.ref C) (.type "str") = some false) : Pln K C H (.str i)
  | lst (b : Addr) (l : List V) (e : H b = some (.lst l)) (h : PySem.W.subIn K (.ref C) (.type "list") = some false) : Pln K C H (.ref b)
theorem EqI.or {k : Nat} {r r' : RI} (h : EqI X k r) (h' : EqI X k r') : EqI X k (fun i x H Q => r i x H Q ∨ r' i x H Q) := by
  intro A pins s σ H i x u v Q sb I ri rx z
  rcases z with z | z
  · exact h A pins s σ H i x u v Q sb I ri rx z
  · exact h' A pins s σ H i x u v Q sb I ri rx z
end
end Dn
namespace Dn
open PySem PySem.Spec PySem.Calls PyProof.Rows L2
structure InOk (G : Gm) (Os : OwnL) : Prop where
  pl : ∀ x ∈ Os, ∀ T ∈ plainTs, PySem.W.subIn G.K (.ref (G.ca x.1)) (.type T) = some false
end Dn
namespace Dn
open PySem PySem.Spec PyProof.Rows L2
section
variable {G : Gm} {P : Program} {w : World} {K : PySem.W.Frag} {mg : Str → Option Value} {base : Heap} {x qual : Str} {st : Stmt} {f : Addr} {fd : FuncData} {N ps : List Str} {k : Nat} {g : En → SR} {n : Nat}
theorem fn_okN (hn : ps.length = n) {m : Nat} (hm : N.length = m) (F : Fun K x qual st f fd) (S : FnScope N ps (defScope st))
    (hbody : ∀ (cdv : Value) (A : Around) (outer : List Env) (s : Shared) (H : Hp) (E : XK), Room k (A.deeper (envOfC qual (defScope st) s.heap.objs.size f cdv)) →
      ∃ t, PSs (cxOf (L2N.CX P w) P w K mg base N qual (defScope st) f cdv A outer s H E) (defBody st) t ∧ DSt G (fun c x _ H => E c x H) t g) : FnOk P w K mg base (L2N.CX P w) (k + 1) f fd ps (spF G (fnD n m g)) := by
  subst hn hm
  obtain ⟨oc, od, kV, doc, pm, an, cdv, ct, osl, rfl, lk, hcd⟩ := F.ex
  refine fn_of lk hcd S (fun vs H Q E h => sp_len h) fun A outer s H vs Q E hr h => ?_
  obtain ⟨t, h1, h2⟩ := hbody cdv A outer s H E hr
  exact ⟨t, h1, body_ok h2 rfl rfl h⟩
theorem fn_okCN {c : Addr} (hn : ps.length = n) {m : Nat} (hm : N.length = m) (F : FunC K x qual st f fd c) (S : FnScope N ps (defScope st))
    (hbody : ∀ (A : Around) (outer : List Env) (s : Shared) (H : Hp) (E : XK), Room k (A.deeper (envOfC qual (defScope st) s.heap.objs.size f (.ref c))) →
      ∃ t, PSs (cxOf (L2N.CX P w) P w K mg base N qual (defScope st) f (.ref c) A outer s H E) (defBody st) t ∧ DSt G (fun c x _ H => E c x H) t g) : FnOk P w K mg base (L2N.CX P w) (k + 1) f fd ps (spF G (fnD n m g)) := by
  subst hn hm
  obtain ⟨oc, od, kV, doc, pm, an, ct, osl, rfl, lk, hcd⟩ := F.ex
  refine fn_of lk hcd S (fun vs H Q E h => sp_len h) fun A outer s H vs Q E hr h => ?_
  obtain ⟨t, h1, h2⟩ := hbody A outer s H E hr
  exact ⟨t, h1, body_ok h2 rfl rfl h⟩
end
theorem pmk_own5 {X : Cx} {C : Addr} {bmB : List Value} {B newId initId : String} {x m : Str} {j : Nat} {p p2 pos : Pos} (F : ExcBaseFacts B newId initId bmB) (q : PySem.W.excIn X.K C bmB newId = true) (gC : X.mg x = some (.ref C)) (kC : PySem.W.keepIn X.K (.ref C) = true) (r : Raises X (.ref C)) (hg : Gl X x)
    (hdb : (x == ("__debug__" : Str)) = false := by decide) : L2H.PMk5 X (.Call (.Name x p) [.Constant (.str m) j p2] [] pos) (fun _ H Q => Q (.ref C) none H) := by
  intro pins s σ H Q I h
  refine wpAny_Call_Name_kw (ld_glob I hg gC ?_ hdb)
  have ha : PA X [.Constant (.str m) j p2] (tCons (tC (.str m)) tNil) := pa_cons pe_str pa_nil
  refine PySem.W.callWith_K (h₀ := X.base) I.ok.mod.kin kC (thn (ha.run pos pins s σ H (fun vs H1 => vs = [V.str m] ∧ H = H1) I ⟨rfl, rfl⟩) fun us s1 hh => ?_)
  obtain ⟨vs, H1, I1, r1, ev, eH⟩ := hh
  subst ev
  rw [← eH] at I1
  refine ⟨I1.kIn, ?_⟩
  cases r1 with
  | cons ru rn =>
    rename_i u us'
    cases rn
    show wpAny _ _ (call (.ref C) [u]) _ _ _
    obtain ⟨bm, N, nm, qn, bs, hdct, sn, sub, ab, col, dd, k0, k1, k2, k3, k5, mN, hC, hN, hni, T⟩ := exc_obj I1.kIn q
    refine wpAny_call_exc_subT F T hC hN hni (fun h' e hm => ?_) (by show 1 ≤ sizeLine; rw [sizeLine_eq]; omega)
    exact L2H.mk_of5 I1 hm r h (I1.hok.gone hm.new)
section
variable {G : Gm} {W : WX}
def clrR : SR → SR
  | .nx E => .nx ⟨clr E.e, E.st⟩
  | .bk E => .bk ⟨clr E.e, E.st⟩
  | .ct E => .ct ⟨clr E.e, E.st⟩
  | .rt m d st => .rt m d st
  | .exc c [] E => .exc c [] ⟨clr E.e, E.st⟩
  | _ => .bad
def sTryR (catch? : Nat → Option Bool) (g : En → SR) (h : En → SR) : En → SR := fun E => match g E with
  | .exc c l E1 => (match catch? c with
    | some true => clrR (h ⟨clr E1.e, E1.st⟩)
    | some false => .exc c l E1
    | none => .bad)
  | r => r
theorem s_tryR {C : Value} {tb : WX → TS} {ts : Addr → Value → Option Addr → TS} {catch? : Nat → Option Bool} {g h : En → SR} (hb : ∀ W, DSt G W (tb W) g)
    (hc : ∀ c b, catch? c = some b → PySem.W.exmOne G.K (.ref (G.ca c)) C = some b)
    (hs : ∀ a cls d, DSt (G.at_ a) W (ts a cls d) h) :
    DSt G W (fun N σ H => tb (wOnly G.K C ts W N) N σ H) (sTryR catch? g h) := by
  intro s t σ e st E k N post
  refine hb _ s t σ e st E k N ?_
  unfold sTryR at post
  cases q : g ⟨e, st⟩ with
  | nx e1 => rw [q] at post; exact post
  | rt m d st => rw [q] at post; exact post
  | bk e1 => rw [q] at post; exact post
  | ct e1 => rw [q] at post; exact post
  | bad => rw [q] at post; exact post
  | exc c l F1 =>
    simp only [q] at post
    intro t1 σ1 x s1 E1 k1 ox
    cases q2 : catch? c with
    | none => simp only [q2] at post; exact post.elim
    | some b =>
      refine ⟨b, hc c b q2, fun hbt a ha => ?_, fun hbf => ?_⟩
      · subst hbt
        simp only [q2] at post
        refine hs a _ x s t1 σ1 _ F1.st (E1.ea a) (k1.ea a) _ ?_
        have back : ∀ {t' : Hs} {σ' : L2.St} {e2 : DE}, EnvOk (G.at_ a) s t' σ' e2 → EnvOk G s t' σ' (clr e2) := fun E' => E'.ea G.ea
        cases q3 : h ⟨clr F1.e, F1.st⟩ with
        | nx e2 => rw [q3] at post; exact fun t' σ' s' E' k' => post t' _ (s1.trans s') (back E') (k'.ea G.ea)
        | bk e2 => rw [q3] at post; exact fun t' σ' s' E' k' => post t' _ (s1.trans s') (back E') (k'.ea G.ea)
        | ct e2 => rw [q3] at post; exact fun t' σ' s' E' k' => post t' _ (s1.trans s') (back E') (k'.ea G.ea)
        | rt m d st => rw [q3] at post; exact fun t' v s' g' k' o => post t' v (s1.trans s') g' (k'.ea G.ea) (o.ea G.ea)
        | exc c2 l2 e2 =>
          rw [q3] at post
          cases l2 with
          | cons => exact post.elim
          | nil =>
            intro t' σ' x' s' E' k' o'
            refine post t' σ' x' (s1.trans s') (back E') (k'.ea G.ea) ?_
            rcases o' with h0 | ⟨_, _, _, h0, _⟩
            · exact .inl h0
            · exact absurd rfl h0
        | bad => rw [q3] at post; exact post.elim
      · subst hbf
        simp only [q2] at post
        exact post t1 σ1 x s1 E1 k1 ox
@[simp] theorem e_sTryR {catch? : Nat → Option Bool} {g h : En → SR} {E : En} : sTryR catch? g h E = match g E with
  | .exc c l E1 => (match catch? c with
    | some true => clrR (h ⟨clr E1.e, E1.st⟩)
    | some false => .exc c l E1
    | none => .bad)
  | r => r := rfl
@[simp] theorem e_clrRN {E : En} : clrR (.nx E) = .nx ⟨clr E.e, E.st⟩ := rfl
@[simp] theorem e_clrRR {m : Md} {d : D} {st : Sto} : clrR (.rt m d st) = .rt m d st := rfl
@[simp] theorem e_clrRE {c : Nat} {E : En} : clrR (.exc c [] E) = .exc c [] ⟨clr E.e, E.st⟩ := rfl
end
end Dn
namespace Dn
open PySem PySem.Spec PyProof.Rows L2
structure Ch where
  fn : List He.DefD
  tf : List He.Defn
  ex : PySem.W.Frag → Bool
structure SaysC (h : Heap) (K : PySem.W.Frag) (c : Ch) : Prop where
  d : He.SaysD [] c.fn K
  more : c.ex K = true
  tabs : ∀ p ∈ c.tf, PySem.W.codeHdIn K (He.cT K p).1 (He.cT K p).2 = true ∧ K.lookup (He.cT K p).2 = none ∧ h.get? (He.cT K p).2 = some { cls := .none, data := .fields #[] }
end Dn
namespace Dn
open PySem PySem.Spec PyProof.Rows L2
theorem log2_lt {n k : Nat} (hk : 0 < k) (h : n < 2 ^ k) : n.log2 < k := by
  by_cases z : n = 0
  · subst z; simpa using hk
  · exact (Nat.log2_lt z).mpr h
theorem log2_mono {n m k : Nat} (hk : m.log2 < k) (h : n ≤ m) : n.log2 < k := by
  by_cases z : n = 0
  · subst z
    have : Nat.log2 0 = 0 := by decide
    omega
  · exact (Nat.log2_lt z).mpr (Nat.lt_of_le_of_lt h (by
      by_cases zm : m = 0
      · omega
      · exact (Nat.log2_lt zm).mp hk))
theorem mul_ok {i j : Int} {a b : Nat} (ha : i.natAbs < 2 ^ a) (hb : j.natAbs < 2 ^ b) (h : a + b ≤ 1000000) (h0 : 0 < a) (h1 : 0 < b) : i.natAbs.log2 + j.natAbs.log2 < 1000000 := by
  have := log2_lt h0 ha
  have := log2_lt h1 hb
  omega
theorem e_wh {c : En → ER} {b : En → SR} {n : Nat} {e : DE} {st st1 : Sto} {m : Md} {x : Bool} (h : c ⟨e, st⟩ = .val m (.bl x) st1) : whN c b (n + 1) ⟨e, st⟩ = if x = true then (match b ⟨e, st1⟩ with
      | .nx e' => whN c b n e'
      | .ct e' => whN c b n e'
      | .bk e' => some (.nx e')
      | r => some r) else some (.nx ⟨e, st1⟩) := by
  rw [whN]
  rw [h]
  cases x <;> rfl
def InR : List Int → List Int → Prop
  | [], [] => True
  | a :: l, b :: s => (0 ≤ a ∧ a < b) ∧ InR l s
  | _, _ => False
theorem InR.cons {l s : List Int} {b : Int} (h : InR l (b :: s)) : ∃ a l', l = a :: l' ∧ 0 ≤ a ∧ a < b ∧ InR l' s := by
  cases l with
  | nil => exact h.elim
  | cons a l => exact ⟨a, l, rfl, h.1.1, h.1.2, h.2⟩
theorem InR.nil {l : List Int} (h : InR l []) : l = [] := by
  cases l with
  | nil => rfl
  | cons a l => exact h.elim
theorem InR.len : ∀ {l s : List Int}, InR l s → l.length = s.length
  | [], [], _ => rfl
  | a :: l, b :: s, h => congrArg Nat.succ (InR.len h.2)
  | [], _ :: _, h => h.elim
  | _ :: _, [], h => h.elim
theorem gcd_wh (st : Sto) : ∀ (b a : Nat), ∃ n, whN (dOp oGt (dVar 1) (dC (.int 0))) (sPar 0 1 (aCons (dVar 1) (aCons (dOp oMod (dVar 0) (dVar 1)) aNil))) n ⟨[.val (.int a), .val (.int b)], st⟩ = some (.nx ⟨[.val (.int (Nat.gcd a b)), .val (.int 0)], st⟩) := by
  intro b
  induction b using Nat.strongRecOn with
  | ind b ih =>
    intro a
    by_cases hb : b = 0
    · subst hb
      refine ⟨1, ?_⟩
      rw [e_wh (x := false) (m := .P) (st1 := st) (by simp)]
      simp
    · obtain ⟨n, hn⟩ := ih (a % b) (Nat.mod_lt _ (Nat.pos_of_ne_zero hb)) b
      refine ⟨n + 1, ?_⟩
      rw [e_wh (x := true) (m := .P) (st1 := st) (by simp; omega)]
      have hm : (a : Int).fmod (b : Int) = ((a % b : Nat) : Int) := by
        rw [Int.fmod_eq_emod_of_nonneg _ (Int.natCast_nonneg b)]
        rfl
      have hb' : ¬ (b : Int) = 0 := by omega
      simp only [if_true, e_sPar, e_aCons, e_aNil, e_dVar, e_dOp, List.getElem?_cons_succ, List.getElem?_cons_zero, ER.bind_val, e_oMod_1, cons_P, acons_ok, ne_eq, hb', not_false_eq_true, Bool.and_self, List.set_cons_zero, List.set_cons_succ, hm]
      rw [hn]
      have : Nat.gcd a b = Nat.gcd b (a % b) := by
        rw [Nat.gcd_comm a b, Nat.gcd_rec b a, Nat.gcd_comm]
      rw [this]
theorem gcd_while (a b : Nat) (st : Sto) : sWhile (dOp oGt (dVar 1) (dC (.int 0))) (sPar 0 1 (aCons (dVar 1) (aCons (dOp oMod (dVar 0) (dVar 1)) aNil))) ⟨[.val (.int a), .val (.int b)], st⟩ = .nx ⟨[.val (.int (Nat.gcd a b)), .val (.int 0)], st⟩ := by
  obtain ⟨n, h⟩ := gcd_wh st b a
  exact sWhile_eq h
theorem absI (a : Int) : (if a < 0 then -a else a) = ((a.natAbs : Nat) : Int) := by split <;> omega
end Dn
namespace Dn
open PySem PySem.Spec PyProof.Rows L2
def dF (q : Rat) : D := .tup [.int q.num, .int q.den]
theorem bit_mul {x y : Int} {m n : Nat} (h1 : x.natAbs < 2 ^ m) (h2 : y.natAbs < 2 ^ n) : (x * y).natAbs < 2 ^ (m + n) := by
  rw [Int.natAbs_mul, Nat.pow_add]
  exact Nat.mul_lt_mul_of_lt_of_lt h1 h2
theorem bit_up {x : Int} {m n : Nat} (h1 : x.natAbs < 2 ^ m) (h : m ≤ n) : x.natAbs < 2 ^ n := Nat.lt_of_lt_of_le h1 (Nat.pow_le_pow_right (by decide) h)
theorem bit_sub {x y : Int} {m n : Nat} (h1 : x.natAbs < 2 ^ m) (h2 : y.natAbs < 2 ^ n) : (x - y).natAbs < 2 ^ (max m n + 1) := by
  have a := bit_up h1 (Nat.le_max_left m n)
  have b := bit_up h2 (Nat.le_max_right m n)
  rw [Nat.pow_succ]; omega
theorem bit_log {x : Int} {m n : Nat} (h1 : x.natAbs < 2 ^ m) (h : m < n) : x.natAbs.log2 < n := by
  by_cases z : x.natAbs = 0
  · rw [z]
    have : Nat.log2 0 = 0 := by decide
    omega
  · exact (Nat.log2_lt z).mpr (Nat.lt_of_lt_of_le h1 (Nat.pow_le_pow_right (by decide) (by omega)))
theorem bit_log2 {x y : Int} {m n : Nat} (h1 : x.natAbs < 2 ^ m) (h2 : y.natAbs < 2 ^ n) (h : m + n + 2 ≤ 1000000) : x.natAbs.log2 + y.natAbs.log2 < 1000000 := by
  have := bit_log h1 (Nat.lt_succ_self m)
  have := bit_log h2 (Nat.lt_succ_self n)
  omega
theorem low_num (t b : Int) (hb : b ≠ 0) : t.fdiv (if b < 0 then -(Int.gcd t b : Int) else (Int.gcd t b : Int)) = (Rat.divInt t b).num ∧ b.fdiv (if b < 0 then -(Int.gcd t b : Int) else (Int.gcd t b : Int)) = ((Rat.divInt t b).den : Int) := by
  have hg : Int.gcd t b ≠ 0 := fun h => hb (Int.gcd_eq_zero_iff.mp h).2
  obtain ⟨q, hq⟩ := Int.gcd_dvd_left (a := t) (b := b)
  obtain ⟨r, hr⟩ := Int.gcd_dvd_right (a := t) (b := b)
  rw [Rat.num_divInt, Rat.den_divInt, if_neg hb, Int.gcd_comm b t]
  generalize Int.gcd t b = g at *
  have hg' : (g : Int) ≠ 0 := by omega
  have hgn : 0 < g := by omega
  subst hq
  have hr0 : r ≠ 0 := fun z => hb (by rw [hr, z]; simp)
  have hrn : (b.natAbs / g : Nat) = r.natAbs := by rw [hr, Int.natAbs_mul]; simp [Nat.mul_div_cancel_left _ hgn]
  rw [hrn]
  by_cases hn : b < 0
  · have rn : r < 0 := by
      by_cases z : r < 0
      · exact z
      · have := Int.mul_nonneg (show (0 : Int) ≤ g by omega) (show 0 ≤ r by omega)
        omega
    rw [if_pos hn, Int.sign_eq_neg_one_of_neg hn, hr]
    constructor
    · rw [show (g : Int) * q = -(g : Int) * (-q) by grind, Int.mul_fdiv_cancel_left _ (by omega)]
      rw [show -1 * (-(g : Int) * -q) = (g : Int) * (-q) by grind, Int.mul_ediv_cancel_left _ hg']
    · rw [show (g : Int) * r = -(g : Int) * (-r) by grind, Int.mul_fdiv_cancel_left _ (by omega)]
      omega
  · have rn : 0 < r := by
      by_cases z : 0 < r
      · exact z
      · have := Int.mul_nonpos_of_nonneg_of_nonpos (show (0 : Int) ≤ g by omega) (show r ≤ 0 by omega)
        omega
    rw [if_neg hn, Int.sign_eq_one_of_pos (by omega), hr]
    constructor
    · rw [Int.mul_fdiv_cancel_left _ hg', Int.one_mul, Int.mul_ediv_cancel_left _ hg']
    · rw [Int.mul_fdiv_cancel_left _ hg']
      omega
theorem sgd_log {t b : Int} (hb : b ≠ 0) {k : Nat} (h : b.natAbs.log2 < k) : ¬ Int.gcd t b = 0 ∧ (Int.gcd t b).log2 < k := by
  have h1 : Int.gcd t b ≤ b.natAbs := Nat.le_of_dvd (by omega) (Int.gcd_dvd_natAbs_right t b)
  exact ⟨fun h => hb (Int.gcd_eq_zero_iff.mp h).2, log2_mono h h1⟩
def Sz (n : Nat) (q : Rat) : Prop := q.num.natAbs < 2 ^ n ∧ q.den < 2 ^ n
theorem Sz.up {m n : Nat} {q : Rat} (h : Sz m q) (k : m ≤ n) : Sz n q := ⟨bit_up h.1 k, Nat.lt_of_lt_of_le h.2 (Nat.pow_le_pow_right (by decide) k)⟩
theorem Sz.den {n : Nat} {q : Rat} (h : Sz n q) : (q.den : Int).natAbs < 2 ^ n := by simpa using h.2
theorem Sz.mk {n : Nat} {t b : Int} (h1 : t.natAbs < 2 ^ n) (h2 : b.natAbs < 2 ^ n) (hb : b ≠ 0) : Sz n (Rat.divInt t b) := by
  refine ⟨?_, ?_⟩
  · rw [Rat.num_divInt]
    refine Nat.lt_of_le_of_lt ?_ h1
    have : (b.sign * t / ((b.gcd t : Nat) : Int)).natAbs ≤ (b.sign * t).natAbs := Int.natAbs_ediv_le_natAbs _ _
    refine Nat.le_trans this ?_
    rw [Int.natAbs_mul]
    have : b.sign.natAbs ≤ 1 := by
      rcases Int.lt_trichotomy b 0 with z | z | z
      · rw [Int.sign_eq_neg_one_of_neg z]; decide
      · exact absurd z hb
      · rw [Int.sign_eq_one_of_pos z]; decide
    calc b.sign.natAbs * t.natAbs ≤ 1 * t.natAbs := Nat.mul_le_mul_right _ this
      _ = t.natAbs := Nat.one_mul _
  · rw [Rat.den_divInt, if_neg hb]
    exact Nat.lt_of_le_of_lt (Nat.div_le_self _ _) h2
theorem den_pos (q : Rat) : 0 < (q.den : Int) := by have := q.den_nz; omega
theorem q_eq (q : Rat) : q = Rat.divInt q.num q.den := (Rat.num_divInt_den q).symm
theorem q_sub (a b : Rat) : a - b = Rat.divInt (a.num * b.den - b.num * a.den) (a.den * b.den) := by
  conv => lhs; rw [q_eq a, q_eq b]
  rw [Rat.divInt_sub_divInt _ _ (by have := den_pos a; omega) (by have := den_pos b; omega)]
theorem q_mul (a b : Rat) : a * b = Rat.divInt (a.num * b.num) (a.den * b.den) := by
  conv => lhs; rw [q_eq a, q_eq b]
  rw [Rat.divInt_mul_divInt]
theorem den2 (a b : Rat) : (a.den : Int) * b.den ≠ 0 := Int.mul_ne_zero (by have := den_pos a; omega) (by have := den_pos b; omega)
theorem Sz.sub {m n : Nat} {a b : Rat} (h : Sz m a) (k : Sz n b) : Sz (m + n + 1) (a - b) := by
  rw [q_sub]
  have x := bit_mul h.1 k.den
  have y := bit_mul k.1 h.den
  rw [Nat.add_comm n m] at y
  have z := bit_sub x y
  rw [Nat.max_self] at z
  exact Sz.mk z (bit_up (bit_mul h.den k.den) (by omega)) (den2 a b)
theorem Sz.mul {m n : Nat} {a b : Rat} (h : Sz m a) (k : Sz n b) : Sz (m + n) (a * b) := by
  rw [q_mul]
  exact Sz.mk (bit_mul h.1 k.1) (bit_mul h.den k.den) (den2 a b)
theorem Sz.neg {m : Nat} {a : Rat} (h : Sz m a) : Sz m (-a) := ⟨by simpa using h.1, by simpa using h.2⟩
theorem two_pow_gt (n : Nat) : 1 < 2 ^ (n + 1) := by have := Nat.one_le_two_pow (n := n); rw [Nat.pow_succ]; omega
theorem Sz.int {m : Nat} {a : Int} (h : a.natAbs < 2 ^ m) : Sz (m + 1) (a : Rat) := ⟨bit_up (m := m) (by simpa using h) (by omega), by simpa using two_pow_gt m⟩
theorem sz0 {n : Nat} : Sz (n + 1) 0 := ⟨by simp [Nat.two_pow_pos], by simpa using two_pow_gt n⟩
theorem sz1 {n : Nat} : Sz (n + 1) 1 := ⟨by simpa using two_pow_gt n, by simpa using two_pow_gt n⟩
@[simp] theorem dF_0 : D.tup [.int 0, .int 1] = dF 0 := rfl
@[simp] theorem dF_1 : D.tup [.int 1, .int 1] = dF 1 := rfl
@[simp] theorem ix0_dF {q : Rat} {st : Sto} : oIx (dF q) (.int 0) st = .val .P (.int q.num) st := by simp [dF, atI, ixN]
@[simp] theorem ix1_dF {q : Rat} {st : Sto} : oIx (dF q) (.int 1) st = .val .P (.int q.den) st := by simp [dF, atI, ixN]
@[simp] theorem len_dF {q : Rat} {st : Sto} : oLen [dF q] st = .val .P (.int 2) st := rfl
@[simp] theorem items_dF {q : Rat} : itemsOf (dF q) = some [.int q.num, .int q.den] := rfl
@[simp] theorem tup_dF {q : Rat} {st : Sto} : isT "tuple" (dF q) st = .val .P (.bl true) st := by simp [dF]
theorem dF_inj {a b : Rat} : dF a = dF b ↔ a = b := by
  constructor
  · intro h
    unfold dF at h
    injection h with h
    injection h with h1 h2
    injection h2 with h2 h3
    injection h1 with h1
    injection h2 with h2
    exact Rat.ext h1 (by omega)
  · rintro rfl; rfl
theorem q_eq_iff (a b : Rat) : a = b ↔ a.num = b.num ∧ a.den = b.den := ⟨fun h => by subst h; exact ⟨rfl, rfl⟩, fun h => Rat.ext h.1 h.2⟩
@[simp] theorem eq_dF {a b : Rat} {st : Sto} : oEq (dF a) (dF b) st = .val .P (.bl (decide (a = b))) st := by
  have : decide (a = b) = decide (a.num = b.num ∧ (a.den : Int) = b.den) := by
    rw [decide_eq_decide, q_eq_iff]
    omega
  rw [this]
  simp [dF]
@[simp] theorem ne_dF {a b : Rat} {st : Sto} : oNe (dF a) (dF b) st = .val .P (.bl (!decide (a = b))) st := by
  have : decide (a = b) = decide (a.num = b.num ∧ (a.den : Int) = b.den) := by
    rw [decide_eq_decide, q_eq_iff]
    omega
  rw [this]
  simp [dF]
theorem lt_num (a b : Rat) : a.num * b.den < b.num * a.den ↔ a < b := (Rat.lt_iff a b).symm
end Dn
namespace Dn
open PySem PySem.Spec PyProof.Rows L2
theorem for_inv {b : D → En → SR} (I : Nat → En → Prop) : ∀ (xs : List D) (k : Nat) (E : En), (∀ i x E, xs[i]? = some x → I (k + i) E → ∃ E', (b x E = .nx E' ∨ b x E = .ct E') ∧ I (k + i + 1) E') → I k E → ∃ E', forD b xs E = .nx E' ∧ I (k + xs.length) E'
  | [], k, E, _, h => ⟨E, rfl, h⟩
  | x :: xs, k, E, hb, h => by
    obtain ⟨E1, h1, h2⟩ := hb 0 x E rfl h
    obtain ⟨E2, h3, h4⟩ := for_inv I xs (k + 1) E1 (fun i y E hy hI => by
      have := hb (i + 1) y E (by simpa using hy) (by rw [show k + (i + 1) = k + 1 + i by omega]; exact hI)
      rw [show k + 1 + i + 1 = k + (i + 1) + 1 by omega]
      exact this) h2
    refine ⟨E2, ?_, by rw [List.length_cons, show k + (xs.length + 1) = k + 1 + xs.length by omega]; exact h4⟩
    rcases h1 with h1 | h1 <;> simp only [e_forC, h1, h3]
theorem lc_map {α : Type} {k : D → Sto → Option (Option D × Sto)} {enc f : α → D} {st : Sto} : ∀ {l : List α}, (∀ a ∈ l, k (enc a) st = some (some (f a), st)) → lcGo k (l.map enc) st = some (l.map f, st)
  | [], _ => rfl
  | a :: l, h => by
    rw [List.map_cons, e_lcC, h a (List.mem_cons_self ..), Option.bind_some, lc_map (fun a m => h a (List.mem_cons_of_mem _ m))]
    rfl
theorem lc_filter {α : Type} {k : D → Sto → Option (Option D × Sto)} {enc f : α → D} {p : α → Bool} {st : Sto} : ∀ {l : List α}, (∀ a ∈ l, k (enc a) st = some (if p a = true then some (f a) else none, st)) → lcGo k (l.map enc) st = some ((l.filter p).map f, st)
  | [], _ => rfl
  | a :: l, h => by
    rw [List.map_cons, e_lcC, h a (List.mem_cons_self ..), Option.bind_some, lc_filter (fun a m => h a (List.mem_cons_of_mem _ m))]
    cases q : p a <;> simp [q, List.filter_cons]
@[simp] theorem intsOf_map {α : Type} (f : α → Int) : ∀ l : List α, intsOf (l.map fun a => .int (f a)) = some (l.map f)
  | [] => rfl
  | a :: l => by simp [intsOf, intsOf_map f l]
mutual
def pur : D → Bool
  | .non | .int _ => true
  | .str x => PyData.strOk x
  | .tup l => purL l
  | .lst l => purL l
  | _ => false
def purL : List D → Bool
  | [] => true
  | d :: l => pur d && purL l
end
mutual
def dep : D → Nat
  | .tup l => depL l + 1
  | .lst l => depL l + 1
  | _ => 0
def depL : List D → Nat
  | [] => 0
  | d :: l => max (dep d) (depL l)
end
mutual
theorem pur_py : ∀ d, pur d = true → isPy d = true ∧ PyData.canLay0 (py d) = true ∧ PyData.depth (py d) = dep d
  | .non, _ => ⟨rfl, by simp [py, PyData.canLay0], by simp [py, PyData.depth, dep]⟩
  | .int _, _ => ⟨rfl, by simp [py, PyData.canLay0], by simp [py, PyData.depth, dep]⟩
  | .str _, h => ⟨rfl, by simpa [py, PyData.canLay0, pur] using h, by simp [py, PyData.depth, dep]⟩
  | .tup l, h => by
    obtain ⟨a, b, c⟩ := purL_py l (by simpa [pur] using h)
    exact ⟨by simpa [isPy] using a, by simpa [py, PyData.canLay0] using b, by simp [py, PyData.depth, dep, c]⟩
  | .lst l, h => by
    obtain ⟨a, b, c⟩ := purL_py l (by simpa [pur] using h)
    exact ⟨by simpa [isPy] using a, by simpa [py, PyData.canLay0] using b, by simp [py, PyData.depth, dep, c]⟩
  | .bl _, h => by simp [pur] at h
  | .obj _ _, h => by simp [pur] at h
  | .scr _, h => by simp [pur] at h
  | .ptr _, h => by simp [pur] at h
theorem purL_py : ∀ l, purL l = true → isPyL l = true ∧ PyData.canLayAll0 (pyL l) = true ∧ PyData.depthAll (pyL l) = depL l
  | [], _ => ⟨rfl, by simp [pyL, PyData.canLayAll0], by simp [pyL, PyData.depthAll, depL]⟩
  | d :: l, h => by
    have h' : pur d = true ∧ purL l = true := by simpa [purL] using h
    obtain ⟨a, b, c⟩ := pur_py d h'.1
    obtain ⟨a', b', c'⟩ := purL_py l h'.2
    exact ⟨by simp [isPyL, a, a'], by simp [pyL, PyData.canLayAll0, b, b'], by simp [pyL, PyData.depthAll, depL, c, c']⟩
end
mutual
theorem eqv_pur : ∀ a b, pur a = true → pur b = true → (PyData.eqv (py a) (py b) = true ↔ a = b)
  | .non, b, _, hb => by cases b <;> simp [py, PyData.eqv, pur] at hb ⊢
  | .int _, b, _, hb => by cases b <;> simp [py, PyData.eqv, pur] at hb ⊢
  | .str _, b, _, hb => by cases b <;> simp [py, PyData.eqv, pur] at hb ⊢
  | .tup l, b, ha, hb => by
    cases b <;> simp [py, PyData.eqv, pur] at ha hb ⊢
    exact eqvL_pur _ _ ha hb
  | .lst l, b, ha, hb => by
    cases b <;> simp [py, PyData.eqv, pur] at ha hb ⊢
    exact eqvL_pur _ _ ha hb
  | .bl _, _, h, _ => by simp [pur] at h
  | .obj _ _, _, h, _ => by simp [pur] at h
  | .scr _, _, h, _ => by simp [pur] at h
  | .ptr _, _, h, _ => by simp [pur] at h
theorem eqvL_pur : ∀ l m, purL l = true → purL m = true → (PyData.eqvAll (pyL l) (pyL m) = true ↔ l = m)
  | [], [], _, _ => by simp [pyL, PyData.eqvAll]
  | [], _ :: _, _, _ => by simp [pyL, PyData.eqvAll]
  | _ :: _, [], _, _ => by simp [pyL, PyData.eqvAll]
  | a :: l, b :: m, ha, hb => by
    have h1 : pur a = true ∧ purL l = true := by simpa [purL] using ha
    have h2 : pur b = true ∧ purL m = true := by simpa [purL] using hb
    simp only [pyL, PyData.eqvAll, Bool.and_eq_true, eqv_pur a b h1.1 h2.1, eqvL_pur l m h1.2 h2.2, List.cons.injEq]
end
theorem eq_of {a b : D} {p : Prop} [Decidable p] (st : Sto) (ha : pur a = true) (hb : pur b = true) (da : dep a ≤ 64) (db : dep b ≤ 64) (h : a = b ↔ p) : oEq a b st = .val .P (.bl (decide p)) st := by
  obtain ⟨a1, a2, a3⟩ := pur_py a ha
  obtain ⟨b1, b2, b3⟩ := pur_py b hb
  have e := (eqv_pur a b ha hb).trans h
  unfold oEq eqAny
  by_cases s : scalD a b = true
  · rw [if_pos s]
    have : eqF a b = decide p := by
      rw [Bool.eq_iff_iff, decide_eq_true_iff, ← h]
      cases a <;> cases b <;> simp [scalD, eqF] at s ⊢
    rw [this]
  · rw [if_neg s, if_pos ⟨a1, b1, by simp [SeqAt.shaped, a2, a3, da], by simp [SeqAt.shaped, b2, b3, db]⟩]
    have : PyData.eqv (py a) (py b) = decide p := by
      rw [Bool.eq_iff_iff, decide_eq_true_iff, ← e]
    rw [this]
theorem purL_map {α : Type} {enc : α → D} (h : ∀ a, pur (enc a) = true) : ∀ l : List α, purL (l.map enc) = true
  | [] => rfl
  | a :: l => by simp [purL, h a, purL_map h l]
theorem depL_map {α : Type} {enc : α → D} {n : Nat} (h : ∀ a, dep (enc a) ≤ n) : ∀ l : List α, depL (l.map enc) ≤ n
  | [] => by simp [depL]
  | a :: l => by have := depL_map h l; have := h a; simp only [List.map_cons, depL]; omega
theorem map_inj {α : Type} {enc : α → D} (h : ∀ a b, enc a = enc b → a = b) : ∀ l m : List α, l.map enc = m.map enc ↔ l = m
  | [], [] => by simp
  | [], _ :: _ => by simp
  | _ :: _, [] => by simp
  | a :: l, b :: m => by
    simp only [List.map_cons, List.cons.injEq, map_inj h l m]
    exact ⟨fun x => ⟨h a b x.1, x.2⟩, fun x => ⟨by rw [x.1], x.2⟩⟩
theorem eq_lst {α : Type} [DecidableEq α] {enc : α → D} (hp : ∀ a, pur (enc a) = true) (hd : ∀ a, dep (enc a) ≤ 60) (hi : ∀ a b, enc a = enc b → a = b) (l m : List α) (st : Sto) : oEq (.lst (l.map enc)) (.lst (m.map enc)) st = .val .P (.bl (decide (l = m))) st := by
  refine eq_of st (by simp [pur, purL_map hp]) (by simp [pur, purL_map hp]) ?_ ?_ ?_
  · have := depL_map hd l; simp only [dep]; omega
  · have := depL_map hd m; simp only [dep]; omega
  · simp [map_inj hi]
@[simp high] theorem pow10_6 {st : Sto} : oPow (.int 10) (.int 6) st = .val .P (.int 1000000) st := rfl
@[simp high] theorem pow10_8 {st : Sto} : oPow (.int 10) (.int 8) st = .val .P (.int 100000000) st := rfl
@[simp high] theorem pow10_9 {st : Sto} : oPow (.int 10) (.int 9) st = .val .P (.int 1000000000) st := rfl
@[simp high] theorem pow10_12 {st : Sto} : oPow (.int 10) (.int 12) st = .val .P (.int 1000000000000) st := rfl
@[simp high] theorem pow10_18 {st : Sto} : oPow (.int 10) (.int 18) st = .val .P (.int 1000000000000000000) st := rfl
@[simp high] theorem pow10_19 {st : Sto} : oPow (.int 10) (.int 19) st = .val .P (.int 10000000000000000000) st := rfl
@[simp high] theorem pow10_20 {st : Sto} : oPow (.int 10) (.int 20) st = .val .P (.int 100000000000000000000) st := rfl
@[simp high] theorem pow10_26 {st : Sto} : oPow (.int 10) (.int 26) st = .val .P (.int 100000000000000000000000000) st := rfl
@[simp high] theorem pow10_30 {st : Sto} : oPow (.int 10) (.int 30) st = .val .P (.int 1000000000000000000000000000000) st := rfl
@[simp high] theorem pow10_36 {st : Sto} : oPow (.int 10) (.int 36) st = .val .P (.int 1000000000000000000000000000000000000) st := rfl
@[simp high] theorem pow10_39 {st : Sto} : oPow (.int 10) (.int 39) st = .val .P (.int 1000000000000000000000000000000000000000) st := rfl
@[simp high] theorem pow10_40 {st : Sto} : oPow (.int 10) (.int 40) st = .val .P (.int 10000000000000000000000000000000000000000) st := rfl
@[simp high] theorem pow10_45 {st : Sto} : oPow (.int 10) (.int 45) st = .val .P (.int 1000000000000000000000000000000000000000000000) st := rfl
@[simp high] theorem pow10_60 {st : Sto} : oPow (.int 10) (.int 60) st = .val .P (.int 1000000000000000000000000000000000000000000000000000000000000) st := rfl
@[simp high] theorem pow10_180 {st : Sto} : oPow (.int 10) (.int 180) st = .val .P (.int 1000000000000000000000000000000000000000000000000000000000000000000000000000000000000000000000000000000000000000000000000000000000000000000000000000000000000000000000000000000000000) st := rfl
def dRow (r : Int × Int) : D := .tup [.int r.1, .int r.2]
@[simp] theorem tg_row {e : DE} {i j : Nat} {r : Int × Int} : tgT 2 (tgsCons (tgN i) (tgsCons (tgN j) tgsNil)) (dRow r) e = some ((e.set i (.val (.int r.1))).set j (.val (.int r.2))) := by simp [dRow]
@[simp] theorem ix0_row {r : Int × Int} {st : Sto} : oIx (dRow r) (.int 0) st = .val .P (.int r.1) st := by simp [dRow, atI, ixN]
@[simp] theorem ix1_row {r : Int × Int} {st : Sto} : oIx (dRow r) (.int 1) st = .val .P (.int r.2) st := by simp [dRow, atI, ixN]
theorem dRow_inj (a b : Int × Int) (h : dRow a = dRow b) : a = b := by
  unfold dRow at h
  injection h with h
  injection h with h1 h2
  injection h2 with h2 h3
  injection h1 with h1
  injection h2 with h2
  exact Prod.ext h1 h2
@[simp] theorem eq_rows {l m : List (Int × Int)} {st : Sto} : oEq (.lst (l.map dRow)) (.lst (m.map dRow)) st = .val .P (.bl (decide (l = m))) st :=
  eq_lst (fun a => by simp [dRow, pur, purL]) (fun a => by simp [dRow, dep, depL]) dRow_inj l m st
@[simp] theorem ne_rows {l m : List (Int × Int)} {st : Sto} : oNe (.lst (l.map dRow)) (.lst (m.map dRow)) st = .val .P (.bl (!decide (l = m))) st := ne_of_eq eq_rows
theorem pur_dF (q : Rat) : pur (dF q) = true := by simp [dF, pur, purL]
theorem dep_dF (q : Rat) : dep (dF q) ≤ 1 := by simp [dF, dep, depL]
@[simp] theorem eq_Fs {l m : List Rat} {st : Sto} : oEq (.lst (l.map dF)) (.lst (m.map dF)) st = .val .P (.bl (decide (l = m))) st :=
  eq_lst pur_dF (fun a => by have := dep_dF a; omega) (fun a b => dF_inj.mp) l m st
@[simp] theorem ne_Fs {l m : List Rat} {st : Sto} : oNe (.lst (l.map dF)) (.lst (m.map dF)) st = .val .P (.bl (!decide (l = m))) st := ne_of_eq eq_Fs
end Dn
namespace Dn
open PySem PySem.Spec PyProof.Rows L2
def RowOk (r : Int × Int) : Prop := 1 ≤ r.1 ∧ r.1 ≤ 999 ∧ 0 ≤ r.2 ∧ r.2 ≤ 999999999
def RowsOk (m : Nat) (rows : List (Int × Int)) : Prop := 1 ≤ rows.length ∧ rows.length ≤ m ∧ (∀ r ∈ rows, RowOk r) ∧ (rows.map (·.2)).sum ≠ 0
theorem RowsOk.up {m n : Nat} {rows : List (Int × Int)} (h : RowsOk m rows) (k : m ≤ n) : RowsOk n rows := ⟨h.1, by have := h.2.1; omega, h.2.2⟩
def pre (rows : List (Int × Int)) (i : Nat) : Int := ((rows.take i).map (·.1)).sum
def wid (rows : List (Int × Int)) : Int := (rows.map (·.1)).sum
section
variable {rows : List (Int × Int)} (hr : RowsOk 8 rows)
include hr
end
def bq (rows : List (Int × Int)) (i : Nat) : Rat := Rat.divInt (pre rows i) (wid rows)
theorem q_ltP {a b c d : Int} (hb : 0 < b) (hd : 0 < d) : Rat.divInt a b < Rat.divInt c d ↔ a * d < c * b := by
  have hb' : (0 : Rat) < (b : Rat) := Rat.intCast_pos.mpr hb
  have hd' : (0 : Rat) < (d : Rat) := Rat.intCast_pos.mpr hd
  rw [Rat.divInt_eq_div, Rat.divInt_eq_div, Rat.div_lt_iff hb']
  have : (c : Rat) / d * b = (c * b : Int) / d := by
    rw [Rat.intCast_mul]; grind
  rw [this, Rat.lt_div_iff hd', ← Rat.intCast_mul, Rat.intCast_lt_intCast]
section
variable {rows : List (Int × Int)} (hr : RowsOk 8 rows)
include hr
end
def lo (x : Rat) (rows : List (Int × Int)) (i : Nat) : Rat := if x < bq rows i then bq rows i else x
def hi (y : Rat) (rows : List (Int × Int)) (i : Nat) : Rat := if bq rows (i + 1) < y then bq rows (i + 1) else y
def vq (rows : List (Int × Int)) (i : Nat) : Rat := (((rows[i]?.map (·.2)).getD 0 : Int) : Rat)
def wseg (x y : Rat) (rows : List (Int × Int)) (i : Nat) : Rat := vq rows i * ((hi y rows i - lo x rows i) / (bq rows (i + 1) - bq rows i))
def sumR (f : Nat → Rat) : Nat → Rat
  | 0 => 0
  | k + 1 => sumR f k + f k
def wpart (x y : Rat) (rows : List (Int × Int)) (i : Nat) : Rat := if lo x rows i < hi y rows i then wseg x y rows i else 0
def wq (x y : Rat) (rows : List (Int × Int)) : Rat := sumR (wpart x y rows) rows.length
section
variable {rows : List (Int × Int)} (hr : RowsOk 8 rows) {x y : Rat} {s : Nat} (hs : 13 ≤ s)
include hr hs
end
end Dn
namespace Dn
open PySem PySem.Spec PyProof.Rows L2
section
variable {rows : List (Int × Int)} (hr : RowsOk 8 rows)
include hr
end
end Dn
namespace Dn
open PySem PySem.Spec PyProof.Rows L2
section
variable {rows : List (Int × Int)} (hr : RowsOk 8 rows) {x y m : Rat} {i : Nat} (hi' : i < rows.length) (hlh : lo x rows i < hi y rows i) (h0 : 0 < m - sumR (wpart x y rows) i) (h1 : m - sumR (wpart x y rows) i ≤ wseg x y rows i)
include hlh h0 h1 in
include hr hi' hlh h0 h1 in
include hr hi' hlh h0 h1 in
include hr hlh h0 h1 in
include hr hi' hlh h0 h1 in
include hr hi' hlh h0 h1 in
include hr hi' hlh h0 h1 in
include hr hi' hlh h0 h1 in
end
end Dn
namespace Dn
open PySem PySem.Spec PyProof.Rows L2
def Ris (l : List Rat) : Prop := l.Pairwise (· < ·)
def ahead (q : Rat) : List Rat → Nat
  | [] => 0
  | a :: l => if a < q then ahead q l + 1 else 0
def ins (q : Rat) (l : List Rat) : List Rat := if q ∈ l then l else l.take (ahead q l) ++ q :: l.drop (ahead q l)
theorem ahead_le (q : Rat) : ∀ l, ahead q l ≤ l.length
  | [] => Nat.le_refl _
  | a :: l => by unfold ahead; split <;> simp [ahead_le q l]
theorem ahead_lt {q : Rat} : ∀ {l : List Rat} {i : Nat} (h : i < ahead q l) (hl : i < l.length), l[i] < q
  | a :: l, i, h, hl => by
    unfold ahead at h
    split at h
    · rename_i c
      cases i with
      | zero => exact c
      | succ i => exact ahead_lt (l := l) (by omega) (by simpa using hl)
    · omega
theorem ahead_ge {q : Rat} : ∀ {l : List Rat} (h : ahead q l < l.length), ¬ l[ahead q l] < q
  | [], h => by simp at h
  | a :: l, h => by
    by_cases c : a < q
    · have e : ahead q (a :: l) = ahead q l + 1 := by simp [ahead, c]
      have h' : ahead q l < l.length := by rw [e] at h; simpa using h
      have := ahead_ge h'
      simp only [e, List.getElem_cons_succ]
      exact this
    · have e : ahead q (a :: l) = 0 := by simp [ahead, c]
      simp only [e, List.getElem_cons_zero]
      exact c
theorem mem_ins {q a : Rat} {l : List Rat} : a ∈ ins q l ↔ a = q ∨ a ∈ l := by
  unfold ins
  split
  · rename_i h
    exact ⟨.inr, fun z => z.elim (fun e => e ▸ h) id⟩
  · rw [List.mem_append, List.mem_cons]
    have : a ∈ l ↔ a ∈ l.take (ahead q l) ∨ a ∈ l.drop (ahead q l) := by
      rw [← List.mem_append, List.take_append_drop]
    rw [this]
    exact ⟨fun z => by rcases z with z | z | z <;> simp [z], fun z => by rcases z with z | z | z <;> simp [z]⟩
theorem ris_take_lt {q : Rat} {l : List Rat} : ∀ a ∈ l.take (ahead q l), a < q := by
  intro a ha
  obtain ⟨i, hi, rfl⟩ := List.mem_iff_getElem.mp ha
  rw [List.getElem_take]
  rw [List.length_take] at hi
  exact ahead_lt (by omega) (by omega)
theorem ris_drop_ge {q : Rat} {l : List Rat} (h : Ris l) (hq : q ∉ l) : ∀ a ∈ l.drop (ahead q l), q < a := by
  intro a ha
  obtain ⟨i, hi, rfl⟩ := List.mem_iff_getElem.mp ha
  rw [List.length_drop] at hi
  rw [List.getElem_drop]
  have h0 := ahead_ge (q := q) (l := l) (by omega)
  have h1 : q ≠ l[ahead q l] := fun e => hq (e ▸ List.getElem_mem _)
  have h2 : q < l[ahead q l] := by grind
  by_cases c : i = 0
  · subst c; simpa using h2
  · have := List.pairwise_iff_getElem.mp h (ahead q l) (ahead q l + i) (by omega) (by omega) (by omega)
    grind
theorem ris_ins {q : Rat} {l : List Rat} (h : Ris l) : Ris (ins q l) := by
  unfold ins
  split
  · exact h
  · rename_i hq
    unfold Ris
    rw [List.pairwise_append, List.pairwise_cons]
    refine ⟨h.sublist (List.take_sublist _ _), ⟨ris_drop_ge h hq, h.sublist (List.drop_sublist _ _)⟩, fun a ha b hb => ?_⟩
    have a1 := ris_take_lt a ha
    rcases List.mem_cons.mp hb with rfl | hb
    · exact a1
    · have := ris_drop_ge h hq b hb
      grind
def insAll : List Rat → List Rat → List Rat
  | l, [] => l
  | l, q :: qs => insAll (ins q l) qs
theorem insAll_ris : ∀ {qs l : List Rat}, Ris l → Ris (insAll l qs)
  | [], l, h => h
  | q :: qs, l, h => insAll_ris (qs := qs) (l := ins q l) (ris_ins h)
theorem insAll_mem {a : Rat} : ∀ {qs l : List Rat}, a ∈ insAll l qs ↔ a ∈ qs ∨ a ∈ l
  | [], l => by simp [insAll]
  | q :: qs, l => by simp only [insAll, insAll_mem (qs := qs), mem_ins, List.mem_cons]; grind
end Dn
namespace Dn
open PySem PySem.Spec PyProof.Rows L2
def dPair (p : Rat × Rat) : D := .tup [dF p.1, dF p.2]
theorem zip_dF : ∀ l m : List Rat, zipD (l.map dF) (m.map dF) = (l.zip m).map dPair
  | [], _ => by simp [zipD]
  | _ :: _, [] => by simp [zipD]
  | a :: l, b :: m => by simp [zipD, dPair, zip_dF l m]
@[simp] theorem tg_pair {e : DE} {i j : Nat} {r : Rat × Rat} : tgT 2 (tgsCons (tgN i) (tgsCons (tgN j) tgsNil)) (dPair r) e = some ((e.set i (.val (dF r.1))).set j (.val (dF r.2))) := by simp [dPair]
end Dn
namespace Dn
open PySem PySem.Spec PyProof.Rows L2
def cw (rows : List (Int × Int)) (z : Rat) : Rat := wq 0 z rows
section
variable {rows : List (Int × Int)} (hr : RowsOk 8 rows)
include hr
end
end Dn
namespace Dn
open PySem PySem.Spec PyProof.Rows L2
def cnt (E : List Rat) (z : Rat) : Nat := (E.filter fun e => decide (z < e)).length
structure Ends (E : List Rat) (r : List (Int × Int)) : Prop where
  i : ∀ j, j ≤ r.length → bq r j ∈ E
  z : ∀ e ∈ E, 0 ≤ e ∧ e ≤ 1 ∧ Sz 13 e
structure HalfAt (r : List (Int × Int)) (H h0 : Rat) : Prop where
  a : 0 ≤ h0
  b : h0 ≤ 1
  c : cw r h0 = H
  l : ∀ y, 0 ≤ y → y < h0 → cw r y < H
  t : cw r 1 = 2 * H
  p : 0 < H
  s : Sz 40 H
structure Kn (r : List (Int × Int)) (H h0 low high : Rat) : Prop where
  a : 0 ≤ low
  ah : low ≤ h0
  lh : low ≤ high
  b : high ≤ 1
  w : cw r high - cw r low = H
  sl : Sz 280 low
  sh : Sz 280 high
structure Mv (E : List Rat) (r : List (Int × Int)) (H h0 low high low' high' : Rat) : Prop where
  k : Kn r H h0 low' high'
  l : low ≤ low'
  h : high ≤ high'
  nl : ∀ e ∈ E, e ≤ low ∨ low' ≤ e
  nh : ∀ e ∈ E, e ≤ high ∨ high' ≤ e
  c : cnt E low' + cnt E high' < cnt E low + cnt E high
structure Nxt (E : List Rat) (z e : Rat) : Prop where
  m : e ∈ E
  l : z < e
  n : ∀ x ∈ E, x ≤ z ∨ e ≤ x
section
variable {E : List Rat} {r : List (Int × Int)} {H h0 low high after behind : Rat} (hr : RowsOk 8 r) (hE : Ends E r) (hH : HalfAt r H h0) (K : Kn r H h0 low high) (A : Nxt E high after)
include hr hE hH K A
variable (B : Nxt E low behind)
include B
end
end Dn
namespace Dn
open PySem PySem.Spec PyProof.Rows L2
def cov (L : List (Rat × Rat)) (x : Rat) : Prop := ∃ s ∈ L, s.1 ≤ x ∧ x < s.2
def Can (L : List (Rat × Rat)) : Prop := (∀ s ∈ L, s.1 < s.2) ∧ L.Pairwise (fun s t => s.2 < t.1)
theorem cov_nil (x : Rat) : ¬ cov [] x := fun ⟨_, h, _⟩ => by simp at h
theorem cov_cons {s : Rat × Rat} {L : List (Rat × Rat)} {x : Rat} : cov (s :: L) x ↔ (s.1 ≤ x ∧ x < s.2) ∨ cov L x := by
  constructor
  · rintro ⟨t, h, k⟩
    rcases List.mem_cons.mp h with rfl | h
    · exact .inl k
    · exact .inr ⟨t, h, k⟩
  · rintro (h | ⟨t, h, k⟩)
    · exact ⟨s, List.mem_cons_self .., h⟩
    · exact ⟨t, List.mem_cons_of_mem _ h, k⟩
theorem cov_app {L M : List (Rat × Rat)} {x : Rat} : cov (L ++ M) x ↔ cov L x ∨ cov M x := by
  constructor
  · rintro ⟨t, h, k⟩
    rcases List.mem_append.mp h with h | h
    · exact .inl ⟨t, h, k⟩
    · exact .inr ⟨t, h, k⟩
  · rintro (⟨t, h, k⟩ | ⟨t, h, k⟩)
    · exact ⟨t, List.mem_append_left _ h, k⟩
    · exact ⟨t, List.mem_append_right _ h, k⟩
theorem can_nil : Can [] := ⟨fun s h => by simp at h, .nil⟩
theorem can_cons {s : Rat × Rat} {L : List (Rat × Rat)} : Can (s :: L) ↔ s.1 < s.2 ∧ (∀ t ∈ L, s.2 < t.1) ∧ Can L := by
  unfold Can
  rw [List.pairwise_cons]
  constructor
  · rintro ⟨h, k, l⟩
    exact ⟨h s (List.mem_cons_self ..), k, fun t m => h t (List.mem_cons_of_mem _ m), l⟩
  · rintro ⟨h, k, l, m⟩
    refine ⟨fun t z => ?_, k, m⟩
    rcases List.mem_cons.mp z with rfl | z
    · exact h
    · exact l t z
theorem can_first {s : Rat × Rat} {L : List (Rat × Rat)} {x : Rat} (h : Can (s :: L)) (c : cov (s :: L) x) : s.1 ≤ x := by
  obtain ⟨h1, h2, h3⟩ := can_cons.mp h
  rcases cov_cons.mp c with c | ⟨t, m, c⟩
  · exact c.1
  · have := h2 t m; grind
theorem can_tail {s : Rat × Rat} {L : List (Rat × Rat)} {x : Rat} (h : Can (s :: L)) (c : cov L x) : s.2 < x := by
  obtain ⟨h1, h2, h3⟩ := can_cons.mp h
  obtain ⟨t, m, c⟩ := c
  have := h2 t m; grind
theorem can_ext : ∀ {L M : List (Rat × Rat)}, Can L → Can M → (∀ x, cov L x ↔ cov M x) → L = M
  | [], [], _, _, _ => rfl
  | [], t :: M, _, h, e => by
    have := (can_cons.mp h).1
    exact absurd ((e t.1).mpr (cov_cons.mpr (.inl ⟨Rat.le_refl, this⟩))) (cov_nil _)
  | s :: L, [], h, _, e => by
    have := (can_cons.mp h).1
    exact absurd ((e s.1).mp (cov_cons.mpr (.inl ⟨Rat.le_refl, this⟩))) (cov_nil _)
  | s :: L, t :: M, h, k, e => by
    obtain ⟨h1, h2, h3⟩ := can_cons.mp h
    obtain ⟨k1, k2, k3⟩ := can_cons.mp k
    have a1 : t.1 ≤ s.1 := can_first k ((e s.1).mp (cov_cons.mpr (.inl ⟨Rat.le_refl, h1⟩)))
    have a2 : s.1 ≤ t.1 := can_first h ((e t.1).mpr (cov_cons.mpr (.inl ⟨Rat.le_refl, k1⟩)))
    have a : s.1 = t.1 := by grind
    have b1 : ¬ s.2 < t.2 := fun z => by
      have := (e s.2).mpr (cov_cons.mpr (.inl ⟨by grind, z⟩))
      rcases cov_cons.mp this with c | c
      · grind
      · have := can_tail h c; grind
    have b2 : ¬ t.2 < s.2 := fun z => by
      have := (e t.2).mp (cov_cons.mpr (.inl ⟨by grind, z⟩))
      rcases cov_cons.mp this with c | c
      · grind
      · have := can_tail k c; grind
    have b : s.2 = t.2 := by grind
    have st : s = t := Prod.ext a b
    subst st
    congr 1
    refine can_ext h3 k3 fun x => ⟨fun c => ?_, fun c => ?_⟩
    · have z := can_tail h c
      rcases cov_cons.mp ((e x).mp (cov_cons.mpr (.inr c))) with d | d
      · grind
      · exact d
    · have z := can_tail k c
      rcases cov_cons.mp ((e x).mpr (cov_cons.mpr (.inr c))) with d | d
      · grind
      · exact d
theorem can_snoc {L : List (Rat × Rat)} {s : Rat × Rat} : Can (L ++ [s]) ↔ Can L ∧ s.1 < s.2 ∧ ∀ t ∈ L, t.2 < s.1 := by
  unfold Can
  rw [List.pairwise_append]
  constructor
  · rintro ⟨h, k, _, l⟩
    exact ⟨⟨fun t m => h t (List.mem_append_left _ m), k⟩, h s (by simp), fun t m => l t m s (by simp)⟩
  · rintro ⟨⟨h, k⟩, l, m⟩
    refine ⟨fun t z => ?_, k, by simp, fun a z b w => ?_⟩
    · rcases List.mem_append.mp z with z | z
      · exact h t z
      · have : t = s := by simpa using z
        subst this; exact l
    · have : b = s := by simpa using w
      subst this; exact m a z
def adj (P : List Rat) : List (Rat × Rat) := P.zip P.tail
theorem adj_cons (a b : Rat) (P : List Rat) : adj (a :: b :: P) = (a, b) :: adj (b :: P) := rfl
theorem adj_in : ∀ {P : List Rat}, Ris P → ∀ ab ∈ adj P, ab.1 ∈ P ∧ ab.2 ∈ P ∧ ab.1 < ab.2 ∧ ∀ u ∈ P, u ≤ ab.1 ∨ ab.2 ≤ u
  | [], _, ab, h => by simp [adj] at h
  | [a], _, ab, h => by simp [adj] at h
  | a :: b :: P, h, ab, m => by
    rw [adj_cons] at m
    unfold Ris at h
    have hh := List.pairwise_cons.mp h
    have hab := hh.1 b (List.mem_cons_self ..)
    rcases List.mem_cons.mp m with rfl | m
    · refine ⟨List.mem_cons_self .., by simp, hab, fun u hu => ?_⟩
      rcases List.mem_cons.mp hu with rfl | hu
      · exact .inl Rat.le_refl
      · rcases List.mem_cons.mp hu with rfl | hu
        · exact .inr Rat.le_refl
        · have := (List.pairwise_cons.mp hh.2).1 u hu
          exact .inr (Rat.le_of_lt this)
    · obtain ⟨h1, h2, h3, h4⟩ := adj_in (P := b :: P) hh.2 ab m
      refine ⟨List.mem_cons_of_mem _ h1, List.mem_cons_of_mem _ h2, h3, fun u hu => ?_⟩
      rcases List.mem_cons.mp hu with rfl | hu
      · have := hh.1 ab.1 h1
        exact .inl (Rat.le_of_lt this)
      · exact h4 u hu
theorem adj_has : ∀ {P : List Rat} {x : Rat}, Ris P → (∃ u ∈ P, u ≤ x) → (∃ v ∈ P, x < v) → ∃ ab ∈ adj P, ab.1 ≤ x ∧ x < ab.2
  | [], x, _, ⟨u, m, _⟩, _ => by simp at m
  | [a], x, _, ⟨u, m, h⟩, ⟨v, n, k⟩ => by
    simp at m n
    subst m; subst n; grind
  | a :: b :: P, x, hR, ⟨u, m, h⟩, ⟨v, n, k⟩ => by
    unfold Ris at hR
    have hh := List.pairwise_cons.mp hR
    by_cases c : x < b
    · refine ⟨(a, b), by rw [adj_cons]; exact List.mem_cons_self .., ?_, c⟩
      rcases List.mem_cons.mp m with rfl | m
      · exact h
      · have := hh.1 u m; show a ≤ x; grind
    · have cb : b ≤ x := Rat.not_lt.mp c
      have hv : v ∈ b :: P := by
        rcases List.mem_cons.mp n with rfl | n
        · have := hh.1 b (List.mem_cons_self ..); grind
        · exact n
      obtain ⟨ab, h1, h2⟩ := adj_has (P := b :: P) hh.2 ⟨b, List.mem_cons_self .., cb⟩ ⟨v, hv, k⟩
      exact ⟨ab, by rw [adj_cons]; exact List.mem_cons_of_mem _ h1, h2⟩
def swStep (p : Rat → Rat → Bool) (F : List (Rat × Rat)) (ab : Rat × Rat) : List (Rat × Rat) :=
  if p ab.1 ab.2 = true then (match F.getLast? with | some l => if l.2 = ab.1 then F.dropLast ++ [(l.1, ab.2)] else F ++ [ab] | none => F ++ [ab]) else F
def sw (p : Rat → Rat → Bool) (P : List Rat) : List (Rat × Rat) := (adj P).foldl (swStep p) []
theorem swStep_ok {p : Rat → Rat → Bool} {F : List (Rat × Rat)} {a b : Rat} (hF : Can F) (hl : ∀ s ∈ F, s.2 ≤ a) (hab : a < b) :
    Can (swStep p F (a, b)) ∧ (∀ s ∈ swStep p F (a, b), s.2 ≤ b) ∧ ∀ x, cov (swStep p F (a, b)) x ↔ cov F x ∨ (p a b = true ∧ a ≤ x ∧ x < b) := by
  unfold swStep
  by_cases hp : p a b = true
  · rw [if_pos hp]
    have hle : ∀ s ∈ F, s.2 ≤ b := fun s m => by have := hl s m; grind
    cases hg : F.getLast? with
    | none =>
      have : F = [] := List.getLast?_eq_none_iff.mp hg
      subst this
      refine ⟨can_snoc.mpr ⟨can_nil, hab, fun t m => by simp at m⟩, fun s m => ?_, fun x => ?_⟩
      · simp at m; subst m; exact Rat.le_refl
      · simp [cov_cons, cov_nil, hp]
    | some l =>
      obtain ⟨D, rfl⟩ := List.getLast?_eq_some_iff.mp hg
      obtain ⟨cD, cl, cd⟩ := can_snoc.mp hF
      have ll := hl l (by simp)
      by_cases e : l.2 = a
      · simp only [e, if_true, List.dropLast_concat]
        refine ⟨can_snoc.mpr ⟨cD, by show l.1 < b; grind, cd⟩, fun s m => ?_, fun x => ?_⟩
        · rcases List.mem_append.mp m with m | m
          · exact hle s (List.mem_append_left _ m)
          · simp at m; subst m; exact Rat.le_refl
        · simp only [cov_app, cov_cons, cov_nil, or_false, hp, true_and]
          constructor
          · rintro (h | ⟨h1, h2⟩)
            · exact .inl (.inl h)
            · by_cases z : x < a
              · exact .inl (.inr ⟨h1, by rw [e]; exact z⟩)
              · exact .inr ⟨Rat.not_lt.mp z, h2⟩
          · rintro ((h | ⟨h1, h2⟩) | ⟨h1, h2⟩)
            · exact .inl h
            · exact .inr ⟨h1, by grind⟩
            · exact .inr ⟨by grind, h2⟩
      · simp only [e, if_false]
        refine ⟨can_snoc.mpr ⟨hF, hab, fun t m => ?_⟩, fun s m => ?_, fun x => ?_⟩
        · show t.2 < a
          rcases List.mem_append.mp m with m | m
          · have := cd t m; grind
          · simp at m; subst m; grind
        · rcases List.mem_append.mp m with m | m
          · exact hle s m
          · simp at m; subst m; exact Rat.le_refl
        · simp [cov_app, cov_cons, cov_nil, hp]; grind
  · rw [if_neg hp]
    refine ⟨hF, fun s m => by have := hl s m; grind, fun x => ?_⟩
    simp [hp]
theorem sw_inv {p : Rat → Rat → Bool} : ∀ (P : List Rat) (a : Rat) (F : List (Rat × Rat)), Ris (a :: P) → Can F → (∀ s ∈ F, s.2 ≤ a) →
    Can ((adj (a :: P)).foldl (swStep p) F) ∧ ∀ x, cov ((adj (a :: P)).foldl (swStep p) F) x ↔ cov F x ∨ ∃ ab ∈ adj (a :: P), p ab.1 ab.2 = true ∧ ab.1 ≤ x ∧ x < ab.2
  | [], a, F, _, hF, _ => by simp [adj, hF]
  | b :: P, a, F, hR, hF, hl => by
    unfold Ris at hR
    have hh := List.pairwise_cons.mp hR
    obtain ⟨h1, h2, h3⟩ := swStep_ok (p := p) hF hl (hh.1 b (List.mem_cons_self ..))
    obtain ⟨k1, k2⟩ := sw_inv (p := p) P b (swStep p F (a, b)) hh.2 h1 h2
    rw [adj_cons, List.foldl_cons]
    refine ⟨k1, fun x => ?_⟩
    rw [k2 x, h3 x]
    simp only [List.mem_cons, exists_eq_or_imp]
    rw [or_assoc]
theorem sw_spec {p : Rat → Rat → Bool} {P : List Rat} {Q : Rat → Prop} (hP : Ris P) (h : ∀ ab ∈ adj P, ∀ x, ab.1 ≤ x → x < ab.2 → (p ab.1 ab.2 = true ↔ Q x)) (hQ : ∀ x, Q x → (∃ u ∈ P, u ≤ x) ∧ ∃ v ∈ P, x < v) : Can (sw p P) ∧ ∀ x, cov (sw p P) x ↔ Q x := by
  cases P with
  | nil =>
    refine ⟨can_nil, fun x => ⟨fun c => absurd c (cov_nil x), fun q => ?_⟩⟩
    obtain ⟨⟨u, m, _⟩, _⟩ := hQ x q
    simp at m
  | cons a P =>
    obtain ⟨k1, k2⟩ := sw_inv (p := p) P a [] hP can_nil (by simp)
    refine ⟨k1, fun x => (k2 x).trans ⟨?_, fun q => ?_⟩⟩
    · rintro (c | ⟨ab, m, h1, h2, h3⟩)
      · exact absurd c (cov_nil x)
      · exact (h ab m x h2 h3).mp h1
    · obtain ⟨h1, h2⟩ := hQ x q
      obtain ⟨ab, m, h3, h4⟩ := adj_has hP h1 h2
      exact .inr ⟨ab, m, (h ab m x h3 h4).mpr q, h3, h4⟩
theorem swStep_ends {p : Rat → Rat → Bool} {F : List (Rat × Rat)} {ab : Rat × Rat} {E : Rat → Prop} (hF : ∀ s ∈ F, E s.1 ∧ E s.2) (h : E ab.1 ∧ E ab.2) : ∀ s ∈ swStep p F ab, E s.1 ∧ E s.2 := by
  intro s m
  have last : ∀ s ∈ F ++ [ab], E s.1 ∧ E s.2 := fun s m => by
    rcases List.mem_append.mp m with m | m
    · exact hF s m
    · simp at m; subst m; exact h
  unfold swStep at m
  split at m
  · split at m
    · rename_i l hg
      split at m
      · rcases List.mem_append.mp m with m | m
        · exact hF s (List.dropLast_subset _ m)
        · simp at m; subst m
          exact ⟨(hF l (List.mem_of_getLast? hg)).1, h.2⟩
      · exact last s m
    · exact last s m
  · exact hF s m
theorem foldl_ends {p : Rat → Rat → Bool} {E : Rat → Prop} : ∀ (l : List (Rat × Rat)) (F : List (Rat × Rat)), (∀ s ∈ F, E s.1 ∧ E s.2) → (∀ s ∈ l, E s.1 ∧ E s.2) → ∀ s ∈ l.foldl (swStep p) F, E s.1 ∧ E s.2
  | [], F, hF, _ => hF
  | ab :: l, F, hF, hl => by
    rw [List.foldl_cons]
    exact foldl_ends l _ (swStep_ends hF (hl ab (List.mem_cons_self ..))) fun s m => hl s (List.mem_cons_of_mem _ m)
theorem sw_ends {p : Rat → Rat → Bool} {P : List Rat} (hP : Ris P) : ∀ s ∈ sw p P, s.1 ∈ P ∧ s.2 ∈ P :=
  foldl_ends (E := (· ∈ P)) (adj P) [] (by simp) fun s m => ⟨(adj_in hP s m).1, (adj_in hP s m).2.1⟩
def cvr (L : List (Rat × Rat)) (a b : Rat) : Bool := L.any fun s => !decide (a < s.1) && !decide (s.2 < b)
def endsOf (L : List (Rat × Rat)) : List Rat := L.flatMap fun s => [s.1, s.2]
theorem mem_ends {L : List (Rat × Rat)} {x : Rat} : x ∈ endsOf L ↔ ∃ s ∈ L, x = s.1 ∨ x = s.2 := by simp [endsOf]
theorem cvr_iff {L : List (Rat × Rat)} {P : List Rat} (hP : Ris P) (hL : ∀ e ∈ endsOf L, e ∈ P) : ∀ ab ∈ adj P, ∀ x, ab.1 ≤ x → x < ab.2 → (cvr L ab.1 ab.2 = true ↔ cov L x) := by
  intro ab m x h1 h2
  obtain ⟨_, _, hlt, hb⟩ := adj_in hP ab m
  unfold cvr
  rw [List.any_eq_true]
  constructor
  · rintro ⟨s, hs, q⟩
    simp at q
    exact ⟨s, hs, by grind⟩
  · rintro ⟨s, hs, q1, q2⟩
    refine ⟨s, hs, ?_⟩
    have e1 := hb s.1 (hL _ (mem_ends.mpr ⟨s, hs, .inl rfl⟩))
    have e2 := hb s.2 (hL _ (mem_ends.mpr ⟨s, hs, .inr rfl⟩))
    simp
    grind
theorem cov_ends {L : List (Rat × Rat)} {P : List Rat} (hL : ∀ e ∈ endsOf L, e ∈ P) {x : Rat} (c : cov L x) : (∃ u ∈ P, u ≤ x) ∧ ∃ v ∈ P, x < v := by
  obtain ⟨s, hs, q1, q2⟩ := c
  exact ⟨⟨s.1, hL _ (mem_ends.mpr ⟨s, hs, .inl rfl⟩), q1⟩, s.2, hL _ (mem_ends.mpr ⟨s, hs, .inr rfl⟩), q2⟩
def plc (L : List (Rat × Rat)) : List Rat := insAll [] (endsOf L)
theorem plc_ris (L : List (Rat × Rat)) : Ris (plc L) := insAll_ris List.Pairwise.nil
theorem plc_mem {L : List (Rat × Rat)} {x : Rat} : x ∈ plc L ↔ x ∈ endsOf L := by simp [plc, insAll_mem]
def norm (L : List (Rat × Rat)) : List (Rat × Rat) := sw (cvr L) (plc L)
theorem norm_spec (L : List (Rat × Rat)) : Can (norm L) ∧ ∀ x, cov (norm L) x ↔ cov L x :=
  sw_spec (plc_ris L) (cvr_iff (plc_ris L) fun e h => plc_mem.mpr h) fun x c => cov_ends (fun e h => plc_mem.mpr h) c
theorem norm_ends {L : List (Rat × Rat)} : ∀ s ∈ norm L, s.1 ∈ endsOf L ∧ s.2 ∈ endsOf L := fun s m => by
  have := sw_ends (plc_ris L) s m
  exact ⟨plc_mem.mp this.1, plc_mem.mp this.2⟩
theorem norm_of {L N : List (Rat × Rat)} (h : Can N) (e : ∀ x, cov N x ↔ cov L x) : norm L = N := can_ext (norm_spec L).1 h fun x => ((norm_spec L).2 x).trans (e x).symm
def jStep (F : List (Int × Int)) (s : Int × Int) : List (Int × Int) := match F.getLast? with
  | some l => if s.1 ≤ l.2 then F.dropLast ++ [(l.1, max s.2 l.2)] else F ++ [s]
  | none => F ++ [s]
def jn (S : List (Int × Int)) : List (Int × Int) := S.foldl jStep []
section
variable {f : Int → Rat} (hf : ∀ a b, a < b ↔ f a < f b)
abbrev f2 (f : Int → Rat) (s : Int × Int) : Rat × Rat := (f s.1, f s.2)
include hf
theorem f_le (a b : Int) : a ≤ b ↔ f a ≤ f b := by
  have := hf b a
  rw [← Int.not_lt, ← Rat.not_lt, this]
theorem jn_inv : ∀ (S F : List (Int × Int)), S.Pairwise (fun s t => s.1 ≤ t.1) → (∀ s ∈ S, s.1 < s.2) → Can (F.map (f2 f)) → (∀ s ∈ F, ∀ t ∈ S, s.1 ≤ t.1) →
    Can ((S.foldl jStep F).map (f2 f)) ∧ ∀ x, cov ((S.foldl jStep F).map (f2 f)) x ↔ cov (F.map (f2 f)) x ∨ cov (S.map (f2 f)) x
  | [], F, _, _, hF, _ => by simp [hF, cov_nil]
  | s :: S, F, hS, hn, hF, hl => by
    obtain ⟨hs, hS'⟩ := List.pairwise_cons.mp hS
    have hn' : ∀ t ∈ S, t.1 < t.2 := fun t m => hn t (List.mem_cons_of_mem _ m)
    have s12 := hn s (List.mem_cons_self ..)
    have g12 := (hf _ _).mp s12
    rw [List.foldl_cons, List.map_cons]
    unfold jStep
    cases hg : F.getLast? with
    | none =>
      have : F = [] := List.getLast?_eq_none_iff.mp hg
      subst this
      obtain ⟨k1, k2⟩ := jn_inv S ([] ++ [s]) hS' hn' (by simp only [List.nil_append, List.map_cons, List.map_nil]; exact can_cons.mpr ⟨g12, fun t m => by simp at m, can_nil⟩) (fun a m t n => by simp at m; subst m; exact hs t n)
      refine ⟨k1, fun x => (k2 x).trans ?_⟩
      simp [cov_cons, cov_nil]
    | some l =>
      obtain ⟨D, rfl⟩ := List.getLast?_eq_some_iff.mp hg
      rw [List.map_append, List.map_cons, List.map_nil] at hF
      obtain ⟨cD, cl, cd⟩ := can_snoc.mp hF
      have ls := hl l (by simp) s (List.mem_cons_self ..)
      have fls := (f_le hf _ _).mp ls
      by_cases e : s.1 ≤ l.2
      · have fe := (f_le hf _ _).mp e
        simp only [e, if_true, List.dropLast_concat]
        have hm : (f (max s.2 l.2) = f s.2 ∧ f l.2 ≤ f s.2) ∨ (f (max s.2 l.2) = f l.2 ∧ f s.2 ≤ f l.2) := by
          rcases Int.le_total s.2 l.2 with z | z
          · exact .inr ⟨by rw [Int.max_eq_right z], (f_le hf _ _).mp z⟩
          · exact .inl ⟨by rw [Int.max_eq_left z], (f_le hf _ _).mp z⟩
        obtain ⟨k1, k2⟩ := jn_inv S (D ++ [(l.1, max s.2 l.2)]) hS' hn' (by
          rw [List.map_append, List.map_cons, List.map_nil]
          refine can_snoc.mpr ⟨cD, ?_, cd⟩
          show f l.1 < f (max s.2 l.2)
          have cl : f l.1 < f l.2 := cl
          grind) (fun a m t n => by
            rcases List.mem_append.mp m with m | m
            · exact hl a (List.mem_append_left _ m) t (List.mem_cons_of_mem _ n)
            · simp at m; subst m
              exact hl l (by simp) t (List.mem_cons_of_mem _ n))
        refine ⟨k1, fun x => (k2 x).trans ?_⟩
        simp only [List.map_append, List.map_cons, List.map_nil, cov_app, cov_cons, cov_nil, or_false]
        have : (f l.1 ≤ x ∧ x < f (max s.2 l.2)) ↔ (f l.1 ≤ x ∧ x < f l.2) ∨ (f s.1 ≤ x ∧ x < f s.2) := by grind
        rw [this]
        grind
      · have fe : f l.2 < f s.1 := (hf _ _).mp (by omega)
        simp only [e, if_false]
        obtain ⟨k1, k2⟩ := jn_inv S (D ++ [l] ++ [s]) hS' hn' (by
          rw [List.map_append, List.map_cons, List.map_nil]
          refine can_snoc.mpr ⟨by rw [List.map_append, List.map_cons, List.map_nil]; exact hF, g12, fun t m => ?_⟩
          rw [List.map_append, List.map_cons, List.map_nil] at m
          show t.2 < f s.1
          rcases List.mem_append.mp m with m | m
          · have := cd t m
            have cl : f l.1 < f l.2 := cl
            have this : t.2 < f l.1 := this
            grind
          · simp at m; subst m; exact fe) (fun a m t n => by
            rcases List.mem_append.mp m with m | m
            · exact hl a m t (List.mem_cons_of_mem _ n)
            · simp at m; subst m; exact hs t n)
        refine ⟨k1, fun x => (k2 x).trans ?_⟩
        simp only [List.map_append, List.map_cons, List.map_nil, cov_app, cov_cons, cov_nil, or_false]
        grind
theorem jn_spec {S : List (Int × Int)} (hS : S.Pairwise (fun s t => s.1 ≤ t.1)) (hn : ∀ s ∈ S, s.1 < s.2) : Can ((jn S).map (f2 f)) ∧ ∀ x, cov ((jn S).map (f2 f)) x ↔ cov (S.map (f2 f)) x := by
  obtain ⟨h1, h2⟩ := jn_inv hf S [] hS hn can_nil (fun a m => by simp at m)
  refine ⟨h1, fun x => (h2 x).trans ?_⟩
  simp [cov_nil]
end
structure Lp (lp : (D → En → SR) → List D → En → SR) (st : Sto) : Prop where
  nil : ∀ b e, lp b [] ⟨e, st⟩ = .nx ⟨e, st⟩
  cons : ∀ b x xs e, lp b (x :: xs) ⟨e, st⟩ = match b x ⟨e, st⟩ with
    | .nx E' => lp b xs E'
    | .ct E' => lp b xs E'
    | .bk E' => .nx E'
    | r => r
theorem lpD (st : Sto) : Lp forD st := ⟨fun b e => rfl, fun b x xs e => by
  show (match b x ⟨e, st⟩ with | .nx e' => forD b xs e' | .ct e' => forD b xs e' | .bk e' => .nx e' | r => r) = _
  cases b x ⟨e, st⟩ <;> rfl⟩
end Dn
namespace Dn
open PySem PySem.Spec PyProof.Rows L2 TL
theorem itxt_nat (n : Nat) : tl (itxt (n : Int)) = numL n := tl_num n
theorem itxt_pos {i : Int} (h : 0 ≤ i) : tl (itxt i) = numL i.toNat := by
  obtain ⟨n, rfl⟩ := Int.eq_ofNat_of_zero_le h
  exact tl_num n
theorem empty_app (x : Str) : Str.empty ++ x = x := ext_tl (by rw [tl_append]; rfl)
theorem numL_len2 {n k : Nat} (h : n < 2 ^ (3 * (k + 1))) : (numL n).length ≤ k + 1 := by
  refine numL_len (by omega) (Nat.lt_of_lt_of_le h ?_)
  rw [Nat.pow_mul]
  exact Nat.pow_le_pow_left (by decide) _
theorem _root_.TL.numL_len2' {n k : Nat} (h : n < 2 ^ (3 * (k + 1))) : (numL n).length ≤ k + 1 := numL_len2 h
def ftxt (q : Rat) : Str := if q.den = 1 then itxt q.num else itxt q.num ++ "/" ++ itxt q.den
theorem tl_slash : tl (Str.ofString "/") = [47] := rfl
theorem tl_dash : tl (Str.ofString "-") = [45] := rfl
theorem tl_blank : tl (Str.ofString " ") = [32] := rfl
theorem tl_ftxt {q : Rat} (h : 0 ≤ q) : tl (ftxt q) = numL q.num.toNat ++ (if q.den = 1 then [] else 47 :: numL q.den) := by
  have hn : 0 ≤ q.num := Rat.num_nonneg.mpr h
  unfold ftxt
  split
  · rw [itxt_pos hn]; simp
  · rw [tl_append, tl_append, tl_slash, itxt_pos hn, itxt_nat]; simp
theorem ftxt_free {q : Rat} (h : 0 ≤ q) {c : Nat} (hc : c < 47 ∨ 57 < c) : c ∉ tl (ftxt q) := by
  rw [tl_ftxt h]
  intro m
  rcases List.mem_append.mp m with m | m
  · exact numL_free (by omega) m
  · split at m
    · simp at m
    · rcases List.mem_cons.mp m with rfl | m
      · omega
      · exact numL_free (by omega) m
theorem ftxt_inj {q r : Rat} (hq : 0 ≤ q) (hr : 0 ≤ r) (h : ftxt q = ftxt r) : q = r := by
  have nq : 0 ≤ q.num := Rat.num_nonneg.mpr hq
  have nr : 0 ≤ r.num := Rat.num_nonneg.mpr hr
  have key : ∀ {q : Rat}, 0 ≤ q → Txt.partition (ftxt q) "/" = if q.den = 1 then (itxt q.num, Str.empty, Str.empty) else (itxt q.num, Str.ofString "/", itxt q.den) := fun {q} h => by
    have hn : 0 ≤ q.num := Rat.num_nonneg.mpr h
    have free : 47 ∉ tl (itxt q.num) := by rw [itxt_pos hn]; exact numL_free (by omega)
    unfold ftxt
    split
    · exact partition_none tl_slash free
    · exact partition_app tl_slash free
  have e := (key hq).symm.trans ((congrArg (fun x => Txt.partition x "/") h).trans (key hr))
  have num : itxt q.num = itxt r.num → q.num = r.num := fun e => by
    have := congrArg tl e
    rw [itxt_pos nq, itxt_pos nr] at this
    have := numL_inj this
    omega
  have den : itxt q.den = itxt r.den → q.den = r.den := fun e => by
    have := congrArg tl e
    rw [itxt_nat, itxt_nat] at this
    exact numL_inj this
  have ne : Str.empty ≠ Str.ofString "/" := fun z => by have := congrArg tl z; rw [tl_slash] at this; cases this
  by_cases c : q.den = 1 <;> by_cases d : r.den = 1
  · simp only [c, d, if_true, Prod.mk.injEq] at e
    exact Rat.ext (num e.1) (by rw [c, d])
  · simp only [c, d, if_true, if_false, Prod.mk.injEq] at e
    exact absurd e.2.1 ne
  · simp only [c, d, if_true, if_false, Prod.mk.injEq] at e
    exact absurd e.2.1.symm ne
  · simp only [c, d, if_false, Prod.mk.injEq] at e
    exact Rat.ext (num e.1) (den e.2.2)
theorem ftxt_len {q : Rat} {k : Nat} (h : 0 ≤ q) (hs : Sz (3 * (k + 1)) q) : (ftxt q).length ≤ 2 * k + 3 := by
  rw [len_tl, tl_ftxt h]
  have hn : 0 ≤ q.num := Rat.num_nonneg.mpr h
  have e : q.num.toNat = q.num.natAbs := by omega
  have h1 := numL_len2 (n := q.num.toNat) (k := k) (by rw [e]; exact hs.1)
  have h2 := numL_len2 (n := q.den) (k := k) hs.2
  split <;> simp <;> omega
def spTxt (p : Rat × Rat) : Str := ftxt p.1 ++ "-" ++ ftxt p.2
def shTxt (L : List (Rat × Rat)) : Str := if L = [] then "none" else Txt.join " " (L.map spTxt)
def Pos2 (L : List (Rat × Rat)) : Prop := ∀ p ∈ L, 0 ≤ p.1 ∧ 0 ≤ p.2
theorem spTxt_part {p : Rat × Rat} (h : 0 ≤ p.1) : Txt.partition (spTxt p) "-" = (ftxt p.1, Str.ofString "-", ftxt p.2) := partition_app tl_dash (ftxt_free h (by omega))
theorem spTxt_inj {p q : Rat × Rat} (hp : 0 ≤ p.1 ∧ 0 ≤ p.2) (hq : 0 ≤ q.1 ∧ 0 ≤ q.2) (h : spTxt p = spTxt q) : p = q := by
  have e := (spTxt_part hp.1).symm.trans ((congrArg (fun x => Txt.partition x "-") h).trans (spTxt_part hq.1))
  simp only [Prod.mk.injEq] at e
  exact Prod.ext (ftxt_inj hp.1 hq.1 e.1) (ftxt_inj hp.2 hq.2 e.2.2)
theorem spTxt_free {p : Rat × Rat} (h : 0 ≤ p.1 ∧ 0 ≤ p.2) {c : Nat} (hc : c < 45 ∨ c = 46 ∨ 57 < c) : c ∉ tl (spTxt p) := by
  unfold spTxt
  rw [tl_append, tl_append, tl_dash]
  intro m
  rcases List.mem_append.mp m with m | m
  · rcases List.mem_append.mp m with m | m
    · exact ftxt_free h.1 (by omega) m
    · simp at m; omega
  · exact ftxt_free h.2 (by omega) m
theorem joinL_mem {S : List Nat} {c : Nat} : ∀ {ps : List (List Nat)}, c ∈ joinL S ps → c ∈ S ∨ ∃ p ∈ ps, c ∈ p
  | [], h => by simp [joinL] at h
  | [p], h => .inr ⟨p, by simp, h⟩
  | p :: q :: r, h => by
    rcases List.mem_append.mp h with h | h
    · exact .inr ⟨p, by simp, h⟩
    · rcases List.mem_append.mp h with h | h
      · exact .inl h
      · rcases joinL_mem h with h | ⟨z, hz, h⟩
        · exact .inl h
        · exact .inr ⟨z, List.mem_cons_of_mem _ hz, h⟩
theorem shTxt_split {L : List (Rat × Rat)} (hL : Pos2 L) (hn : L ≠ []) : Txt.split (shTxt L) " " = L.map spTxt := by
  unfold shTxt
  rw [if_neg hn]
  refine split_join (s := 32) (S := []) tl_blank (by decide +kernel) (by simpa using hn) fun p m => ?_
  obtain ⟨q, hq, rfl⟩ := List.mem_map.mp m
  exact spTxt_free (hL q hq) (by omega)
theorem shTxt_none {L : List (Rat × Rat)} (hL : Pos2 L) (hn : L ≠ []) : shTxt L ≠ Str.ofString "none" := by
  intro h
  have h1 : 110 ∈ tl (Str.ofString "none") := by decide
  rw [← h] at h1
  unfold shTxt at h1
  rw [if_neg hn, join_eq, tl_join] at h1
  rcases joinL_mem h1 with z | ⟨z, hz, m⟩
  · rw [tl_blank] at z; simp at z
  · rw [List.map_map] at hz
    obtain ⟨q, hq, rfl⟩ := List.mem_map.mp hz
    exact spTxt_free (hL q hq) (c := 110) (by omega) m
theorem map_sp_inj : ∀ {L M : List (Rat × Rat)}, Pos2 L → Pos2 M → L.map spTxt = M.map spTxt → L = M
  | [], [], _, _, _ => rfl
  | [], _ :: _, _, _, h => by simp at h
  | _ :: _, [], _, _, h => by simp at h
  | p :: L, q :: M, hL, hM, h => by
    simp only [List.map_cons, List.cons.injEq] at h
    rw [spTxt_inj (hL p (List.mem_cons_self ..)) (hM q (List.mem_cons_self ..)) h.1, map_sp_inj (fun r m => hL r (List.mem_cons_of_mem _ m)) (fun r m => hM r (List.mem_cons_of_mem _ m)) h.2]
theorem shTxt_inj {L M : List (Rat × Rat)} (hL : Pos2 L) (hM : Pos2 M) (h : shTxt L = shTxt M) : L = M := by
  by_cases c : L = [] <;> by_cases d : M = []
  · rw [c, d]
  · have : shTxt L = Str.ofString "none" := by unfold shTxt; rw [if_pos c]
    exact absurd (h.symm.trans this) (shTxt_none hM d)
  · have : shTxt M = Str.ofString "none" := by unfold shTxt; rw [if_pos d]
    exact absurd (h.trans this) (shTxt_none hL c)
  · have := (shTxt_split hL c).symm.trans ((congrArg (fun x => Txt.split x " ") h).trans (shTxt_split hM d))
    exact map_sp_inj hL hM this
theorem spTxt_len {p : Rat × Rat} {k : Nat} (h : 0 ≤ p.1 ∧ 0 ≤ p.2) (h1 : Sz (3 * (k + 1)) p.1) (h2 : Sz (3 * (k + 1)) p.2) : (spTxt p).length ≤ 4 * k + 7 := by
  have a := ftxt_len h.1 h1
  have b := ftxt_len h.2 h2
  rw [len_tl] at a b
  unfold spTxt
  rw [len_tl, tl_append, tl_append, tl_dash, List.length_append, List.length_append, List.length_singleton]
  omega
theorem pur_dPair (p : Rat × Rat) : pur (dPair p) = true := by simp [dPair, dF, pur, purL]
theorem dep_dPair (p : Rat × Rat) : dep (dPair p) ≤ 2 := by simp [dPair, dF, dep, depL]
theorem dPair_inj (a b : Rat × Rat) (h : dPair a = dPair b) : a = b := by
  simp only [dPair, D.tup.injEq, List.cons.injEq, and_true] at h
  exact Prod.ext (dF_inj.mp h.1) (dF_inj.mp h.2)
@[simp] theorem eq_pairs {l m : List (Rat × Rat)} {st : Sto} : oEq (.lst (l.map dPair)) (.lst (m.map dPair)) st = .val .P (.bl (decide (l = m))) st :=
  eq_lst pur_dPair (fun p => Nat.le_trans (dep_dPair p) (by decide)) dPair_inj l m st
@[simp] theorem ne_pairs {l m : List (Rat × Rat)} {st : Sto} : oNe (.lst (l.map dPair)) (.lst (m.map dPair)) st = .val .P (.bl (!decide (l = m))) st := ne_of_eq eq_pairs
theorem eq_pairs0 {l : List (Rat × Rat)} {st : Sto} : oNe (.lst (l.map dPair)) (.lst (l.map dPair)) st = .val .P (.bl false) st := by simp
theorem eqv_bls : ∀ l m : List Bool, PyData.eqvAll (pyL (l.map .bl)) (pyL (m.map .bl)) = decide (l = m)
  | [], [] => by simp [pyL, PyData.eqvAll]
  | [], b :: m => by simp [pyL, PyData.eqvAll]
  | a :: l, [] => by simp [pyL, PyData.eqvAll]
  | a :: l, b :: m => by
    have ih := eqv_bls l m
    cases a <;> cases b <;> simp [pyL, PyData.eqvAll, py, PyData.eqv, ih]
theorem lay_bls : ∀ l : List Bool, isPyL (l.map .bl) = true ∧ PyData.canLayAll0 (pyL (l.map .bl)) = true ∧ PyData.depthAll (pyL (l.map .bl)) = 0
  | [] => by simp [isPyL, pyL, PyData.canLayAll0, PyData.depthAll]
  | a :: l => by
    obtain ⟨h1, h2, h3⟩ := lay_bls l
    simp [isPyL, isPy, pyL, py, PyData.canLayAll0, PyData.canLay0, PyData.depthAll, PyData.depth, h1, h2, h3]
theorem eq_bls (l m : List Bool) (st : Sto) : oEq (.lst (l.map .bl)) (.lst (m.map .bl)) st = .val .P (.bl (decide (l = m))) st := by
  obtain ⟨h1, h2, h3⟩ := lay_bls l
  obtain ⟨k1, k2, k3⟩ := lay_bls m
  have e := eqv_bls l m
  simp [oEq, eqAny, scalD, isPy, h1, k1, py, SeqAt.shaped, PyData.canLay0, PyData.depth, h2, h3, k2, k3, PyData.eqv, e]
end Dn
namespace Dn
theorem map_eraseIdx {α β : Type} (f : α → β) : ∀ (l : List α) (k : Nat), (l.map f).eraseIdx k = (l.eraseIdx k).map f
  | [], k => by simp
  | a :: l, 0 => by simp
  | a :: l, k + 1 => by simp [map_eraseIdx f l k]
end Dn
namespace Dn
open PySem PySem.Spec PyProof.Rows L2
def Ov (D : Int) (q : Rat) : Prop := ∃ n : Int, q * (D : Rat) = (n : Rat)
theorem Ov.zero (D : Int) : Ov D 0 := ⟨0, by simp⟩
theorem Ov.one (D : Int) : Ov D 1 := ⟨D, by simp [Rat.one_mul]⟩
theorem Ov.sub {D : Int} {a b : Rat} (h : Ov D a) (k : Ov D b) : Ov D (a - b) := by
  obtain ⟨m, h⟩ := h
  obtain ⟨n, k⟩ := k
  exact ⟨m - n, by rw [Rat.intCast_sub, ← h, ← k]; grind⟩
theorem Ov.mul {D E : Int} {a : Rat} (h : Ov D a) : Ov (D * E) a := by
  obtain ⟨m, h⟩ := h
  exact ⟨m * E, by rw [Rat.intCast_mul, Rat.intCast_mul, ← h]; grind⟩
theorem Ov.int {D : Int} {a : Rat} (n : Int) (h : Ov D a) : Ov D ((n : Rat) * a) := by
  obtain ⟨m, h⟩ := h
  exact ⟨n * m, by rw [Rat.intCast_mul, ← h]; grind⟩
theorem Ov.qf {D : Int} (hD : 0 < D) (a : Int) : Ov D (Rat.divInt a D) := ⟨a, by
  rw [Rat.divInt_eq_div]
  exact Rat.div_mul_cancel (by have := (Rat.intCast_pos (a := D)).mpr hD; grind)⟩
theorem Ov.sz {D : Int} {q : Rat} {a b : Nat} (h : Ov D q) (hD : 0 < D) (h2 : D.natAbs < 2 ^ a) (q0 : 0 ≤ q) (q1 : q ≤ ((2 ^ b : Int) : Rat)) : Sz (a + b) q := by
  obtain ⟨n, h⟩ := h
  have hd := (Rat.intCast_pos (a := D)).mpr hD
  have e : q = Rat.divInt n D := by
    rw [Rat.divInt_eq_div, ← h, Rat.div_def, Rat.mul_assoc, Rat.mul_inv_cancel _ (by grind), Rat.mul_one]
  rw [e]
  have n0 : 0 ≤ n := by
    have : (0 : Rat) ≤ (n : Rat) := by rw [← h]; exact Rat.mul_nonneg q0 (Rat.le_of_lt hd)
    exact Rat.intCast_nonneg.mp this
  have n1 : n ≤ 2 ^ b * D := by
    have : (n : Rat) ≤ ((2 ^ b * D : Int) : Rat) := by
      rw [← h, Rat.intCast_mul]
      exact Rat.mul_le_mul_of_nonneg_right q1 (Rat.le_of_lt hd)
    exact Rat.intCast_le_intCast.mp this
  have n2 : n.natAbs < 2 ^ (a + b) := by
    have h3 : n.natAbs ≤ 2 ^ b * D.natAbs := by
      have : (n.natAbs : Int) ≤ ((2 ^ b * D.natAbs : Nat) : Int) := by
        rw [Int.natAbs_of_nonneg n0, Int.natCast_mul, Int.natAbs_of_nonneg (by omega)]
        simpa using n1
      exact Int.ofNat_le.mp this
    have h4 : 2 ^ b * D.natAbs < 2 ^ b * 2 ^ a := Nat.mul_lt_mul_of_pos_left h2 (Nat.two_pow_pos b)
    rw [Nat.pow_add, Nat.mul_comm (2 ^ a)]
    omega
  exact Sz.mk n2 (Nat.lt_of_lt_of_le h2 (Nat.pow_le_pow_right (by decide) (by omega))) (by omega)
def Gd (g : Int) (p : Rat × Rat) : Prop := Ov g p.1 ∧ Ov g p.2 ∧ 0 ≤ p.1 ∧ p.1 ≤ p.2 ∧ p.2 ≤ 1
theorem Gd.sz {g : Int} {p : Rat × Rat} {a : Nat} (h : Gd g p) (hg : 0 < g) (h2 : g.natAbs < 2 ^ a) : Sz a p.1 ∧ Sz a p.2 := by
  obtain ⟨h1, h3, h4, h5, h6⟩ := h
  exact ⟨h1.sz (b := 0) hg h2 h4 (by simp; grind), h3.sz (b := 0) hg h2 (by grind) (by simpa using h6)⟩
theorem ins_len (q : Rat) (l : List Rat) : (ins q l).length ≤ l.length + 1 := by
  have := ahead_le q l
  unfold ins
  split <;> simp <;> omega
theorem ins_sz {s : Nat} {q : Rat} {l : List Rat} (hl : ∀ a ∈ l, Sz s a) (hq : Sz s q) : ∀ a ∈ ins q l, Sz s a := by
  intro a m
  rcases mem_ins.mp m with rfl | m
  · exact hq
  · exact hl a m
theorem insAll_len : ∀ (qs l : List Rat), (insAll l qs).length ≤ l.length + qs.length
  | [], l => by simp [insAll]
  | q :: qs, l => by
    have := insAll_len qs (ins q l)
    have := ins_len q l
    simp only [insAll, List.length_cons]; omega
end Dn
namespace Dn
open PySem PySem.Spec PyProof.Rows L2
def Add (μ : Rat → Rat → Rat) : Prop := ∀ x z y, x ≤ z → z ≤ y → μ x z + μ z y = μ x y
def smr (μ : Rat → Rat → Rat) (f : Rat → Rat → Bool) (A : List (Rat × Rat)) : Rat := A.foldr (fun p a => (if f p.1 p.2 = true then μ p.1 p.2 else 0) + a) 0
theorem smr_cons (μ : Rat → Rat → Rat) (f : Rat → Rat → Bool) (p : Rat × Rat) (A : List (Rat × Rat)) : smr μ f (p :: A) = (if f p.1 p.2 = true then μ p.1 p.2 else 0) + smr μ f A := rfl
theorem Add.nil {μ : Rat → Rat → Rat} (h : Add μ) (x : Rat) : μ x x = 0 := by
  have := h x x x Rat.le_refl Rat.le_refl
  grind
theorem smr_none {μ : Rat → Rat → Rat} {f : Rat → Rat → Bool} : ∀ {A : List (Rat × Rat)}, (∀ p ∈ A, f p.1 p.2 = false) → smr μ f A = 0
  | [], _ => rfl
  | p :: A, h => by
    rw [smr_cons, h p (List.mem_cons_self ..), smr_none fun q m => h q (List.mem_cons_of_mem _ m)]
    simp [Rat.add_zero]
def hold (u v a b : Rat) : Bool := !decide (a < u) && !decide (v < b)
theorem ris_cons {a : Rat} {P : List Rat} (h : Ris (a :: P)) : Ris P ∧ ∀ b ∈ P, a < b := by
  unfold Ris at *
  exact ⟨(List.pairwise_cons.mp h).2, (List.pairwise_cons.mp h).1⟩
theorem one1 {μ : Rat → Rat → Rat} (hA : Add μ) {u v : Rat} : ∀ (P : List Rat) (a : Rat), Ris (a :: P) → u ≤ a → v ∈ a :: P → smr μ (hold u v) (adj (a :: P)) = μ a v
  | [], a, _, _, hv => by
    rw [List.mem_singleton.mp hv, hA.nil]; rfl
  | b :: P, a, hR, hu, hv => by
    obtain ⟨hR1, hlt⟩ := ris_cons hR
    have hab := hlt b (List.mem_cons_self ..)
    rw [adj_cons, smr_cons]
    by_cases c : v = a
    · subst c
      rw [hA.nil, smr_none]
      · have : hold u v v b = false := by simp [hold, hab]
        rw [this]; simp [Rat.add_zero]
      · intro p m
        obtain ⟨m1, m2, m3, m4⟩ := adj_in hR1 p m
        have h1 := hlt _ m2
        simp [hold, h1]
    · have hv' : v ∈ b :: P := (List.mem_cons.mp hv).resolve_left c
      have hbv : b ≤ v := by
        rcases List.mem_cons.mp hv' with e | e
        · rw [e]; exact Rat.le_refl
        · exact Rat.le_of_lt ((ris_cons hR1).2 v e)
      have ih := one1 hA P b hR1 (show u ≤ b by grind) hv'
      have hh : hold u v a b = true := by
        unfold hold
        rw [decide_eq_false (by grind), decide_eq_false (by grind)]; rfl
      rw [ih, hh]
      simp only [if_true]
      exact hA a b v (Rat.le_of_lt hab) hbv
end Dn
namespace Dn
open PySem PySem.Spec PyProof.Rows L2
abbrev S (l : List Nat) : Str := ⟨l.toArray⟩
@[simp] theorem tl_S (l : List Nat) : TL.tl (S l) = l := by simp [TL.tl]
@[simp] theorem S_cps (l : List Nat) : (S l).cps.toList = l := by simp
@[simp] theorem S_len (l : List Nat) : (S l).length = l.length := by simp [Str.length]
theorem S_of (x : Str) : x = S x.cps.toList := TL.ext_tl (by simp [TL.tl])
theorem S_inj {a b : List Nat} (h : S a = S b) : a = b := by have := congrArg TL.tl h; simpa using this
def evs {α : Type} : List α → List α
  | [] => []
  | [a] => [a]
  | a :: _ :: l => a :: evs l
end Dn
namespace Dn
open PySem PySem.Spec PyProof.Rows L2
open TL (tl numL)
theorem itxt_S (n : Nat) : itxt (n : Int) = S (numL n) := TL.ext_tl (by rw [itxt_nat, tl_S])
theorem ofS_app (a b : String) : Str.ofString (a ++ b) = Str.ofString a ++ Str.ofString b := by
  refine TL.ext_tl ?_
  rw [TL.tl_append]
  show (Str.ofString (a ++ b)).cps.toList = (Str.ofString a).cps.toList ++ (Str.ofString b).cps.toList
  rw [signs_ofString, signs_ofString, signs_ofString, String.toList_append, List.map_append]
theorem itxt_neg {n : Nat} (h : 0 < n) : itxt (-(n : Int)) = S (45 :: numL n) := by
  show Str.ofString (toString (-(n : Int))) = _
  rw [toString_neg (by omega), show (0 : Int) - -(n : Int) = (n : Int) by omega, ofS_app]
  refine TL.ext_tl ?_
  rw [TL.tl_append, tl_S]
  show tl (Str.ofString "-") ++ tl (itxt (n : Int)) = _
  rw [itxt_nat]; rfl
theorem numL_pos_head {n : Nat} (h : 0 < n) : ∃ c cs, numL n = c :: cs ∧ 49 ≤ c ∧ c ≤ 57 := by
  induction n using Nat.strongRecOn with
  | _ n ih =>
    by_cases c : n < 10
    · exact ⟨48 + n, [], TL.numL_lt c, by omega, by omega⟩
    · obtain ⟨c', cs, e, l, u⟩ := ih (n / 10) (by omega) (by omega)
      exact ⟨c', cs ++ [48 + n % 10], by rw [TL.numL_step (by omega), e]; rfl, l, u⟩
theorem numL_0 : numL 0 = [48] := TL.numL_lt (by decide)
def figB (L : List Nat) : Bool := decide (L ≠ []) && decide (L.length ≤ 40) && L.all (fun c => decide (48 ≤ c ∧ c ≤ 57)) && (decide (L = [48]) || decide (L.head? ≠ some 48))
theorem num_of (k : Nat) : ∀ L : List Nat, L.length = k → L ≠ [] → (∀ c ∈ L, 48 ≤ c ∧ c ≤ 57) → (L = [48] ∨ L.head? ≠ some 48) → ∃ n, L = numL n := by
  induction k with
  | zero => intro L h hn; exact absurd (List.length_eq_zero_iff.mp h) hn
  | succ k ih =>
    intro L hk hn hd hh
    obtain ⟨M, d, rfl⟩ : ∃ M d, L = M ++ [d] := ⟨L.dropLast, L.getLast hn, (List.dropLast_concat_getLast hn).symm⟩
    have hdd := hd d (by simp)
    by_cases hM : M = []
    · subst hM
      refine ⟨d - 48, ?_⟩
      rw [TL.numL_lt (by omega)]
      simp; omega
    · have hM2 : M.head? ≠ some 48 := by
        rcases hh with hh | hh
        · cases M with
          | nil => exact absurd rfl hM
          | cons a l => simp at hh
        · cases M with
          | nil => exact absurd rfl hM
          | cons a l => simpa using hh
      obtain ⟨m, rfl⟩ := ih M (by simpa using hk) hM (fun c h => hd c (by simp [h])) (.inr hM2)
      have m0 : 0 < m := by
        rcases Nat.eq_zero_or_pos m with rfl | h
        · rw [numL_0] at hM2; simp at hM2
        · exact h
      refine ⟨10 * m + (d - 48), ?_⟩
      rw [TL.numL_step (n := 10 * m + (d - 48)) (by omega), show (10 * m + (d - 48)) / 10 = m by omega, show 48 + (10 * m + (d - 48)) % 10 = d by omega]
theorem figB_num (n : Nat) (h : (numL n).length ≤ 40) : figB (numL n) = true := by
  unfold figB
  simp only [Bool.and_eq_true, decide_eq_true_eq, List.all_eq_true, Bool.or_eq_true]
  refine ⟨⟨⟨TL.numL_ne n, h⟩, TL.numL_digits n⟩, ?_⟩
  rcases Nat.eq_zero_or_pos n with rfl | hp
  · exact .inl numL_0
  · obtain ⟨c, cs, e, l, u⟩ := numL_pos_head hp
    exact .inr (by rw [e]; simp; omega)
theorem figB_iff {L : List Nat} : figB L = true ↔ ∃ n, L = numL n ∧ (numL n).length ≤ 40 := by
  constructor
  · intro h
    unfold figB at h
    simp only [Bool.and_eq_true, decide_eq_true_eq, List.all_eq_true, Bool.or_eq_true] at h
    obtain ⟨⟨⟨h1, h2⟩, h3⟩, h4⟩ := h
    obtain ⟨n, rfl⟩ := num_of _ L rfl h1 h3 h4
    exact ⟨n, rfl, h2⟩
  · rintro ⟨n, rfl, h⟩
    exact figB_num n h
theorem int_S {n : Nat} (h : (numL n).length ≤ 40) : intText? (S (numL n)) = some (n : Int) := by
  rw [← itxt_S]; exact TL.int_num (by omega)
theorem num_bits {n : Nat} (h : (numL n).length ≤ 40) : n < 10 ^ 40 := by
  have key : ∀ k m, (numL m).length ≤ k → m < 10 ^ k := by
    intro k
    induction k with
    | zero => intro m hm; exact absurd (List.length_eq_zero_iff.mp (Nat.le_zero.mp hm)) (TL.numL_ne m)
    | succ k ih =>
      intro m hm
      by_cases c : m < 10
      · exact Nat.lt_of_lt_of_le c (by rw [Nat.pow_succ]; have : 0 < 10 ^ k := Nat.pow_pos (by decide); omega)
      · rw [TL.numL_step (by omega)] at hm
        have := ih (m / 10) (by simpa using hm)
        rw [Nat.pow_succ]; omega
  exact key 40 n h
def sp (s : Nat) : List Nat → List (List Nat)
  | [] => [[]]
  | c :: l => if c = s then [] :: sp s l else match sp s l with
    | [] => [[c]]
    | h :: t => (c :: h) :: t
theorem sp_ne (s : Nat) : ∀ l, sp s l ≠ []
  | [] => by simp [sp]
  | c :: l => by
    unfold sp
    split
    · simp
    · split <;> simp
theorem sp_free (s : Nat) : ∀ l, ∀ p ∈ sp s l, s ∉ p
  | [], p, m => by simp [sp] at m; subst m; simp
  | c :: l, p, m => by
    have ih := sp_free s l
    unfold sp at m
    split at m
    · rcases List.mem_cons.mp m with rfl | m
      · simp
      · exact ih p m
    · rename_i hc
      split at m
      · rename_i e; exact absurd e (sp_ne s l)
      · rename_i h t e
        rw [e] at ih
        rcases List.mem_cons.mp m with rfl | m
        · intro z
          rcases List.mem_cons.mp z with z | z
          · exact hc z.symm
          · exact ih h (List.mem_cons_self ..) z
        · exact ih p (List.mem_cons_of_mem _ m)
theorem sp_join (s : Nat) : ∀ l, TL.joinL [s] (sp s l) = l
  | [] => rfl
  | c :: l => by
    have ih := sp_join s l
    unfold sp
    split
    · rename_i hc
      subst hc
      cases e : sp c l with
      | nil => exact absurd e (sp_ne c l)
      | cons h t =>
        rw [e] at ih
        rw [TL.joinL, ih]; rfl
    · split
      · rename_i e; exact absurd e (sp_ne s l)
      · rename_i h t e
        rw [e] at ih
        cases t with
        | nil => rw [TL.joinL] at ih ⊢; rw [ih]
        | cons a t => rw [TL.joinL] at ih ⊢; rw [List.cons_append, ih]
theorem split_S {y : Str} {s : Nat} (ey : tl y = [s]) (hk : y.cps.all (· < 256) = true) (l : List Nat) : Txt.split (S l) y = (sp s l).map S := by
  have h := TL.split_join (y := y) (s := s) (S := []) ey hk (parts := (sp s l).map S) (by simp [sp_ne]) (fun p m => by
    obtain ⟨q, hq, rfl⟩ := List.mem_map.mp m
    rw [tl_S]; exact sp_free s l q hq)
  have e : Txt.join y ((sp s l).map S) = S l := by
    rw [TL.join_eq]
    refine TL.ext_tl ?_
    rw [TL.tl_join, ey]
    have hm : ((sp s l).map S).map tl = sp s l := by
      rw [List.map_map]
      conv => rhs; rw [← List.map_id (sp s l)]
      exact List.map_congr_left fun l _ => tl_S l
    rw [hm, sp_join, tl_S]
  rw [e] at h
  exact h
theorem sp_none {s : Nat} : ∀ {l : List Nat}, s ∉ l → sp s l = [l]
  | [], _ => rfl
  | c :: l, h => by
    have h1 : c ≠ s := fun z => h (by rw [z]; exact List.mem_cons_self ..)
    rw [sp, if_neg h1, sp_none (fun z => h (List.mem_cons_of_mem _ z))]
theorem sp_app {s : Nat} : ∀ {A R : List Nat}, s ∉ A → sp s (A ++ s :: R) = A :: sp s R
  | [], R, _ => by rw [List.nil_append, sp, if_pos rfl]
  | c :: A, R, h => by
    have h1 : c ≠ s := fun z => h (by rw [z]; exact List.mem_cons_self ..)
    rw [List.cons_append, sp, if_neg h1, sp_app (fun z => h (List.mem_cons_of_mem _ z))]
theorem first_sign {s : Nat} : ∀ {l : List Nat}, s ∈ l → ∃ A R, l = A ++ s :: R ∧ s ∉ A
  | c :: l, h => by
    by_cases e : c = s
    · exact ⟨[], l, by rw [e]; rfl, by simp⟩
    · have m : s ∈ l := by rcases List.mem_cons.mp h with z | z; exact absurd z.symm e; exact z
      obtain ⟨A, R, rfl, hA⟩ := first_sign m
      exact ⟨c :: A, R, rfl, fun z => by rcases List.mem_cons.mp z with z | z; exact e z.symm; exact hA z⟩
theorem part_S {y : Str} {s : Nat} (ey : tl y = [s]) {A R : List Nat} (h : s ∉ A) : Txt.partition (S (A ++ s :: R)) y = (S A, y, S R) := by
  have e : S (A ++ s :: R) = S A ++ y ++ S R := by
    refine TL.ext_tl ?_
    rw [TL.tl_append, TL.tl_append, tl_S, tl_S]
    rw [show tl y = [s] from ey]
    show A ++ s :: R = A ++ [s] ++ tl (S R)
    rw [tl_S]; simp
  rw [e]
  exact TL.partition_app (S := []) ey (by rw [tl_S]; exact h)
theorem part_none {y : Str} {s : Nat} (ey : tl y = [s]) {A : List Nat} (h : s ∉ A) : Txt.partition (S A) y = (S A, Str.empty, Str.empty) := TL.partition_none (S := []) ey (by rw [tl_S]; exact h)
end Dn
namespace Dn
open PySem PySem.Spec PyProof.Rows L2
def sub_CrumbError : Nat → Option Bool
  | 0 => some true
  | 1 => some true
  | 2 => some true
  | 3 => some true
  | 4 => some true
  | _ => none
def sub_NoFraction : Nat → Option Bool
  | 0 => some false
  | 1 => some true
  | 2 => some false
  | 3 => some false
  | 4 => some false
  | _ => none
def sub_NoSpan : Nat → Option Bool
  | 0 => some false
  | 1 => some false
  | 2 => some false
  | 3 => some false
  | 4 => some true
  | _ => none
def sub_NoTable : Nat → Option Bool
  | 0 => some false
  | 1 => some false
  | 2 => some false
  | 3 => some true
  | 4 => some false
  | _ => none
def sub_NoText : Nat → Option Bool
  | 0 => some false
  | 1 => some false
  | 2 => some true
  | 3 => some false
  | 4 => some false
  | _ => none
def ix_parts : Nat → Option Nat
  | 5 => some 0
  | _ => none
@[simp] theorem ix_parts_5 : ix_parts 5 = some 0 := rfl
abbrev np_Share___init__ : Nat := 0
abbrev tbls : Sto := [.tbl ("Share.__init__" ++ ".<locals>." ++ "<lambda>")]
noncomputable def wc_divisor_1 : En → ER :=
  (dOp oGt (dVar 1) (dC (.int 0)))
noncomputable def wb_divisor_2 : En → SR :=
  (sPar 0 1 (aCons (dVar 1) (aCons (dOp oMod (dVar 0) (dVar 1)) aNil)))
noncomputable def g_divisor : En → SR :=
  (sSeq (sSetF 0 (dCB oAbs (aCons (dVar 0) aNil)))
  (sSeq (sSetF 1 (dCB oAbs (aCons (dVar 1) aNil)))
  (sSeq (sWhile wc_divisor_1 wb_divisor_2)
  (sRetV 0))))
noncomputable def F_divisor : List D → Sto → ER := fnD 2 2 g_divisor
noncomputable def g_is_less : En → SR :=
  (sRet (dOp oLt (dOp oMul (dOp oIx (dVar 0) (dC (.int 0))) (dOp oIx (dVar 1) (dC (.int 1)))) (dOp oMul (dOp oIx (dVar 1) (dC (.int 0))) (dOp oIx (dVar 0) (dC (.int 1))))))
noncomputable def F_is_less : List D → Sto → ER := fnD 2 2 g_is_less
noncomputable def g_fraction_text : En → SR :=
  (sSeq (sIf (dOp oEq (dOp oIx (dVar 0) (dC (.int 1))) (dC (.int 1))) (sRet (dCB oStr (aCons (dOp oIx (dVar 0) (dC (.int 0))) aNil))) sSkip)
  (sRet (dJs [(dFmt (dOp oIx (dVar 0) (dC (.int 0)))), (dC (.str "/")), (dFmt (dOp oIx (dVar 0) (dC (.int 1))))])))
noncomputable def F_fraction_text : List D → Sto → ER := fnD 1 1 g_fraction_text
noncomputable def fb_is_figures_1 : En → SR :=
  (sIf (dOp oNotIn (dVar 1) (dC (.str "0123456789"))) (sRet (dC (.bl false))) sSkip)
theorem q_fb_is_figures_1 {e : En} : fb_is_figures_1 e = (sIf (dOp oNotIn (dVar 1) (dC (.str "0123456789"))) (sRet (dC (.bl false))) sSkip) e := rfl
noncomputable def g_is_figures : En → SR :=
  (sSeq (sIf (dOr (dOp oEq (dCB oLen (aCons (dVar 0) aNil)) (dC (.int 0))) (dOp oGt (dCB oLen (aCons (dVar 0) aNil)) (dC (.int 40)))) (sRet (dC (.bl false))) sSkip)
  (sSeq (sFor (dIter (dVar 0)) (tgN 1) fb_is_figures_1)
  (sRet (dOr (dOp oEq (dVar 0) (dC (.str "0"))) (dOp oNe (dOp oIx (dVar 0) (dC (.int 0))) (dC (.str "0")))))))
noncomputable def F_is_figures : List D → Sto → ER := fnD 1 2 g_is_figures
noncomputable def fb_spans_where_1 (h : List (Option D) → D → D → Sto → ER) : En → SR :=
  (sIf (dHeld 1 h (aCons (dVar 3) (aCons (dVar 4) aNil))) (sIf (dAnd (dOp oGt (dCB oLen (aCons (dVar 2) aNil)) (dC (.int 0))) (dOp oEq (dOp oIx (dOp oIx (dVar 2) (dUn oNeg (dC (.int 1)))) (dC (.int 1))) (dVar 3))) (sSetI 2 (dTup (aCons (dOp oIx (dOp oIx (dVar 2) (dUn oNeg (dC (.int 1)))) (dC (.int 0))) (aCons (dVar 4) aNil))) (dUn oNeg (dC (.int 1)))) (sMt mAppend 2 (aCons (dTup (aCons (dVar 3) (aCons (dVar 4) aNil))) aNil))) sSkip)
theorem q_fb_spans_where_1 {h : List (Option D) → D → D → Sto → ER} {e : En} : fb_spans_where_1 h e = (sIf (dHeld 1 h (aCons (dVar 3) (aCons (dVar 4) aNil))) (sIf (dAnd (dOp oGt (dCB oLen (aCons (dVar 2) aNil)) (dC (.int 0))) (dOp oEq (dOp oIx (dOp oIx (dVar 2) (dUn oNeg (dC (.int 1)))) (dC (.int 1))) (dVar 3))) (sSetI 2 (dTup (aCons (dOp oIx (dOp oIx (dVar 2) (dUn oNeg (dC (.int 1)))) (dC (.int 0))) (aCons (dVar 4) aNil))) (dUn oNeg (dC (.int 1)))) (sMt mAppend 2 (aCons (dTup (aCons (dVar 3) (aCons (dVar 4) aNil))) aNil))) sSkip) e := rfl
noncomputable def g_spans_where (h : List (Option D) → D → D → Sto → ER) : En → SR :=
  (sSeq (sSet 2 (dLst aNil))
  (sSeq (sFor (dZip (aCons (dVar 0) (aCons (dSl oSl (dVar 0) (fun e => some ((dC (.int 1)) e)) (fun _ => none)) aNil))) (tgT 2 (tgsCons (tgN 3) (tgsCons (tgN 4) tgsNil))) (fb_spans_where_1 h))
  (sRetV 2)))
noncomputable def g_Share_spans : En → SR :=
  (sRet (dCB oList (aCons (dFld ix_parts (dVar 0)) aNil)))
noncomputable def F_Share_spans : List D → Sto → ER := fnD 1 1 g_Share_spans
noncomputable def ce_law_box_1 : En → ER :=
  (dVar 2)
theorem q_ce_law_box_1 {e : En} : ce_law_box_1 e = (dVar 2) e := rfl
noncomputable def ct_law_box_2 : En → ER :=
  (dOp oGe (dVar 2) (dOp oPow (dC (.int 10)) (dC (.int 18))))
theorem q_ct_law_box_2 {e : En} : ct_law_box_2 e = (dOp oGe (dVar 2) (dOp oPow (dC (.int 10)) (dC (.int 18)))) e := rfl
noncomputable def ce_law_box_3 : En → ER :=
  (dVar 2)
theorem q_ce_law_box_3 {e : En} : ce_law_box_3 e = (dVar 2) e := rfl
noncomputable def ct_law_box_4 : En → ER :=
  (dOp oLt (dVar 2) (dOp oPow (dC (.int 10)) (dC (.int 18))))
theorem q_ct_law_box_4 {e : En} : ct_law_box_4 e = (dOp oLt (dVar 2) (dOp oPow (dC (.int 10)) (dC (.int 18)))) e := rfl
noncomputable def g_law_box : En → SR :=
  (sSeq (sSetF 1 (dPut (dLc (dIter (dVar 0)) (tgN 2) ct_law_box_2 ce_law_box_1 [2])))
  (sRet (dPut (dLst (aCons (dVar 1) (aCons (dC (.int 0)) (aCons (dLc (dIter (dVar 0)) (tgN 2) ct_law_box_4 ce_law_box_3 [2]) (aCons (dC (.int 0)) aNil))))))))
noncomputable def F_law_box : List D → Sto → ER := fnD 1 3 g_law_box
noncomputable def g_law_mixed : En → SR :=
  (sSeq (sSetF 2 (dOp oMod (dOp oPow (dOp oAdd (dOp oAdd (dOp oAdd (dOp oMod (dVar 0) (dC (.int 2147483647))) (dOp oMul (dOp oMul (dC (.int 1009)) (dVar 1)) (dVar 1))) (dOp oMul (dC (.int 48611)) (dVar 1))) (dC (.int 17))) (dC (.int 5))) (dC (.int 2147483647))))
  (sRet (dOp oMod (dOp oAdd (dOp oMul (dVar 2) (dC (.int 39373))) (dOp oMul (dC (.int 7919)) (dVar 1))) (dC (.int 1000000007)))))
noncomputable def F_law_mixed : List D → Sto → ER := fnD 2 3 g_law_mixed
noncomputable def wc_law_low_1 : En → ER :=
  (dOp oGt (dVar 3) (dC (.int 0)))
theorem q_wc_law_low_1 {e : En} : wc_law_low_1 e = (dOp oGt (dVar 3) (dC (.int 0))) e := rfl
noncomputable def wb_law_low_2 : En → SR :=
  (sPar 2 3 (aCons (dVar 3) (aCons (dOp oMod (dVar 2) (dVar 3)) aNil)))
theorem q_wb_law_low_2 {e : En} : wb_law_low_2 e = (sPar 2 3 (aCons (dVar 3) (aCons (dOp oMod (dVar 2) (dVar 3)) aNil))) e := rfl
noncomputable def g_law_low : En → SR :=
  (sSeq (sSetF 2 (dCB oAbs (aCons (dVar 0) aNil)))
  (sSeq (sSetF 3 (dCB oAbs (aCons (dVar 1) aNil)))
  (sSeq (sWhile wc_law_low_1 wb_law_low_2)
  (sSeq (sIf (dOp oLt (dVar 1) (dC (.int 0))) (sSetF 2 (dUn oNeg (dVar 2))) sSkip)
  (sRet (dTup (aCons (dOp oDiv (dVar 0) (dVar 2)) (aCons (dOp oDiv (dVar 1) (dVar 2)) aNil))))))))
noncomputable def F_law_low : List D → Sto → ER := fnD 2 4 g_law_low
noncomputable def g_law_less : En → SR :=
  (sRet (dOp oLt (dOp oMul (dOp oIx (dVar 0) (dC (.int 0))) (dOp oIx (dVar 1) (dC (.int 1)))) (dOp oMul (dOp oIx (dVar 1) (dC (.int 0))) (dOp oIx (dVar 0) (dC (.int 1))))))
noncomputable def F_law_less : List D → Sto → ER := fnD 2 2 g_law_less
noncomputable def ce_law_joined_1 : En → ER :=
  (dVar 4)
theorem q_ce_law_joined_1 {e : En} : ce_law_joined_1 e = (dVar 4) e := rfl
noncomputable def ct_law_joined_2 : En → ER :=
  (dOp oLt (dOp oIx (dVar 4) (dC (.int 0))) (dOp oIx (dVar 4) (dC (.int 1))))
theorem q_ct_law_joined_2 {e : En} : ct_law_joined_2 e = (dOp oLt (dOp oIx (dVar 4) (dC (.int 0))) (dOp oIx (dVar 4) (dC (.int 1)))) e := rfl
noncomputable def fb_law_joined_3 : En → SR :=
  (sIf (dAnd (dOp oGt (dCB oLen (aCons (dVar 1) aNil)) (dC (.int 0))) (dOp oLe (dVar 2) (dOp oIx (dOp oIx (dVar 1) (dUn oNeg (dC (.int 1)))) (dC (.int 1))))) (sSetI 1 (dTup (aCons (dOp oIx (dOp oIx (dVar 1) (dUn oNeg (dC (.int 1)))) (dC (.int 0))) (aCons (dCB oMax2 (aCons (dVar 3) (aCons (dOp oIx (dOp oIx (dVar 1) (dUn oNeg (dC (.int 1)))) (dC (.int 1))) aNil))) aNil))) (dUn oNeg (dC (.int 1)))) (sMt mAppend 1 (aCons (dTup (aCons (dVar 2) (aCons (dVar 3) aNil))) aNil)))
theorem q_fb_law_joined_3 {e : En} : fb_law_joined_3 e = (sIf (dAnd (dOp oGt (dCB oLen (aCons (dVar 1) aNil)) (dC (.int 0))) (dOp oLe (dVar 2) (dOp oIx (dOp oIx (dVar 1) (dUn oNeg (dC (.int 1)))) (dC (.int 1))))) (sSetI 1 (dTup (aCons (dOp oIx (dOp oIx (dVar 1) (dUn oNeg (dC (.int 1)))) (dC (.int 0))) (aCons (dCB oMax2 (aCons (dVar 3) (aCons (dOp oIx (dOp oIx (dVar 1) (dUn oNeg (dC (.int 1)))) (dC (.int 1))) aNil))) aNil))) (dUn oNeg (dC (.int 1)))) (sMt mAppend 1 (aCons (dTup (aCons (dVar 2) (aCons (dVar 3) aNil))) aNil))) e := rfl
noncomputable def g_law_joined : En → SR :=
  (sSeq (sSet 1 (dLst aNil))
  (sSeq (sFor (dIter (dCB oSortedX (aCons (dLc (dIter (dVar 0)) (tgN 4) ct_law_joined_2 ce_law_joined_1 [4]) aNil))) (tgT 2 (tgsCons (tgN 2) (tgsCons (tgN 3) tgsNil))) fb_law_joined_3)
  (sRetV 1)))
noncomputable def F_law_joined : List D → Sto → ER := fnD 1 5 g_law_joined
noncomputable def g_law_number : En → SR :=
  (sSeq (sIf (dOp oEq (dOp oIx (dVar 0) (dC (.int 1))) (dC (.int 1))) (sRet (dCB oStr (aCons (dOp oIx (dVar 0) (dC (.int 0))) aNil))) sSkip)
  (sRet (dOp oAdd (dOp oAdd (dCB oStr (aCons (dOp oIx (dVar 0) (dC (.int 0))) aNil)) (dC (.str "/"))) (dCB oStr (aCons (dOp oIx (dVar 0) (dC (.int 1))) aNil)))))
noncomputable def F_law_number : List D → Sto → ER := fnD 1 1 g_law_number
noncomputable def ce_law_figures_1 : En → ER :=
  (dOp oIn (dVar 1) (dC (.str "0123456789")))
theorem q_ce_law_figures_1 {e : En} : ce_law_figures_1 e = (dOp oIn (dVar 1) (dC (.str "0123456789"))) e := rfl
noncomputable def g_law_figures : En → SR :=
  (sSeq (sIf (dOr (dOp oEq (dCB oLen (aCons (dVar 0) aNil)) (dC (.int 0))) (dOr (dOp oGt (dCB oLen (aCons (dVar 0) aNil)) (dC (.int 40))) (dNot (dCB oAll (aCons (dLc (dIter (dVar 0)) (tgN 1) (fun E => .val .P (.bl true) E.st) ce_law_figures_1 [1]) aNil))))) (sRet (dC (.bl false))) sSkip)
  (sRet (dOr (dOp oEq (dVar 0) (dC (.str "0"))) (dOp oNe (dOp oIx (dVar 0) (dC (.int 0))) (dC (.str "0"))))))
noncomputable def F_law_figures : List D → Sto → ER := fnD 1 2 g_law_figures
noncomputable def g_fraction_of : En → SR :=
  (sSeq (sIf (dOp oEq (dVar 1) (dC (.int 0))) (sRaise 1) sSkip)
  (sSeq (sSetF 2 (dCall F_divisor (aCons (dVar 0) (aCons (dVar 1) aNil))))
  (sSeq (sIf (dOp oLt (dVar 1) (dC (.int 0))) (sSetF 2 (dUn oNeg (dVar 2))) sSkip)
  (sRet (dTup (aCons (dOp oDiv (dVar 0) (dVar 2)) (aCons (dOp oDiv (dVar 1) (dVar 2)) aNil)))))))
noncomputable def F_fraction_of : List D → Sto → ER := fnD 2 3 g_fraction_of
noncomputable def g_ask_span : En → SR :=
  (sIf (dOr (dCall F_is_less (aCons (dVar 0) (aCons (dC (.tup [(.int 0), (.int 1)])) aNil))) (dOr (dCall F_is_less (aCons (dC (.tup [(.int 1), (.int 1)])) (aCons (dVar 1) aNil))) (dCall F_is_less (aCons (dVar 1) (aCons (dVar 0) aNil))))) (sRaise 4) sSkip)
noncomputable def F_ask_span : List D → Sto → ER := fnD 2 2 g_ask_span
noncomputable def wc_rising_places_1 : En → ER :=
  (dAnd (dOp oGt (dVar 4) (dC (.int 0))) (dCall F_is_less (aCons (dVar 3) (aCons (dOp oIx (dVar 1) (dOp oSub (dVar 4) (dC (.int 1)))) aNil))))
theorem q_wc_rising_places_1 {e : En} : wc_rising_places_1 e = (dAnd (dOp oGt (dVar 4) (dC (.int 0))) (dCall F_is_less (aCons (dVar 3) (aCons (dOp oIx (dVar 1) (dOp oSub (dVar 4) (dC (.int 1)))) aNil)))) e := rfl
noncomputable def wb_rising_places_2 : En → SR :=
  (sSetF 4 (dOp oSub (dVar 4) (dC (.int 1))))
theorem q_wb_rising_places_2 {e : En} : wb_rising_places_2 e = (sSetF 4 (dOp oSub (dVar 4) (dC (.int 1)))) e := rfl
noncomputable def fb_rising_places_3 : En → SR :=
  (sSeq (sSetF 4 (dCB oLen (aCons (dVar 1) aNil)))
  (sSeq (sWhile wc_rising_places_1 wb_rising_places_2)
  (sIf (dOr (dOp oEq (dVar 4) (dC (.int 0))) (dOp oNe (dOp oIx (dVar 1) (dOp oSub (dVar 4) (dC (.int 1)))) (dVar 3))) (sMt mInsert 1 (aCons (dVar 4) (aCons (dVar 3) aNil))) sSkip)))
theorem q_fb_rising_places_3 {e : En} : fb_rising_places_3 e = (sSeq (sSetF 4 (dCB oLen (aCons (dVar 1) aNil)))
  (sSeq (sWhile wc_rising_places_1 wb_rising_places_2)
  (sIf (dOr (dOp oEq (dVar 4) (dC (.int 0))) (dOp oNe (dOp oIx (dVar 1) (dOp oSub (dVar 4) (dC (.int 1)))) (dVar 3))) (sMt mInsert 1 (aCons (dVar 4) (aCons (dVar 3) aNil))) sSkip))) e := rfl
noncomputable def fb_rising_places_4 : En → SR :=
  (sFor (dIter (dVar 2)) (tgN 3) fb_rising_places_3)
theorem q_fb_rising_places_4 {e : En} : fb_rising_places_4 e = (sFor (dIter (dVar 2)) (tgN 3) fb_rising_places_3) e := rfl
noncomputable def g_rising_places : En → SR :=
  (sSeq (sSet 1 (dLst aNil))
  (sSeq (sFor (dIter (dVar 0)) (tgN 2) fb_rising_places_4)
  (sRetV 1)))
noncomputable def F_rising_places : List D → Sto → ER := fnD 1 5 g_rising_places
noncomputable def fb_covers_1 : En → SR :=
  (sIf (dAnd (dNot (dCall F_is_less (aCons (dVar 1) (aCons (dVar 3) aNil)))) (dNot (dCall F_is_less (aCons (dVar 4) (aCons (dVar 2) aNil))))) (sRet (dC (.bl true))) sSkip)
theorem q_fb_covers_1 {e : En} : fb_covers_1 e = (sIf (dAnd (dNot (dCall F_is_less (aCons (dVar 1) (aCons (dVar 3) aNil)))) (dNot (dCall F_is_less (aCons (dVar 4) (aCons (dVar 2) aNil))))) (sRet (dC (.bl true))) sSkip) e := rfl
noncomputable def g_covers : En → SR :=
  (sSeq (sFor (dIter (dVar 0)) (tgT 2 (tgsCons (tgN 3) (tgsCons (tgN 4) tgsNil))) fb_covers_1)
  (sRet (dC (.bl false))))
noncomputable def F_covers : List D → Sto → ER := fnD 3 5 g_covers
noncomputable def ce_Share___str___1 : En → ER :=
  (dOp oAdd (dOp oAdd (dCall F_fraction_text (aCons (dVar 1) aNil)) (dC (.str "-"))) (dCall F_fraction_text (aCons (dVar 2) aNil)))
theorem q_ce_Share___str___1 {e : En} : ce_Share___str___1 e = (dOp oAdd (dOp oAdd (dCall F_fraction_text (aCons (dVar 1) aNil)) (dC (.str "-"))) (dCall F_fraction_text (aCons (dVar 2) aNil))) e := rfl
noncomputable def g_Share___str__ : En → SR :=
  (sSeq (sIf (dOp oEq (dCB oLen (aCons (dFld ix_parts (dVar 0)) aNil)) (dC (.int 0))) (sRet (dC (.str "none"))) sSkip)
  (sRet (dMs msJoin (dC (.str " ")) (aCons (dLc (dIter (dFld ix_parts (dVar 0))) (tgT 2 (tgsCons (tgN 1) (tgsCons (tgN 2) tgsNil))) (fun E => .val .P (.bl true) E.st) ce_Share___str___1 [1, 2]) aNil))))
noncomputable def F_Share___str__ : List D → Sto → ER := fnD 1 3 g_Share___str__
noncomputable def wc_law_take_1 : En → ER :=
  (dOp oLt (dVar 4) (dVar 1))
theorem q_wc_law_take_1 {e : En} : wc_law_take_1 e = (dOp oLt (dVar 4) (dVar 1)) e := rfl
noncomputable def wb_law_take_2 : En → SR :=
  (sSeq (sSetF 3 (dOp oAdd (dOp oMul (dVar 3) (dC (.int 1000000007))) (dCall F_law_mixed (aCons (dVar 2) (aCons (dOp oAdd (dOp oIx (dVar 0) (dC (.int 3))) (dOp oMul (dC (.int 1000)) (dOp oMod (dVar 3) (dC (.int 89))))) aNil)))))
  (sSetF 4 (dOp oMul (dVar 4) (dC (.int 1000000007)))))
theorem q_wb_law_take_2 {e : En} : wb_law_take_2 e = (sSeq (sSetF 3 (dOp oAdd (dOp oMul (dVar 3) (dC (.int 1000000007))) (dCall F_law_mixed (aCons (dVar 2) (aCons (dOp oAdd (dOp oIx (dVar 0) (dC (.int 3))) (dOp oMul (dC (.int 1000)) (dOp oMod (dVar 3) (dC (.int 89))))) aNil)))))
  (sSetF 4 (dOp oMul (dVar 4) (dC (.int 1000000007))))) e := rfl
noncomputable def g_law_take : En → SR :=
  (sSeq (sSetI 0 (dOp oAdd (dOp oIx (dVar 0) (dC (.int 3))) (dC (.int 1))) (dC (.int 3)))
  (sSeq (sIf (dAnd (dOp oEq (dOp oIx (dVar 0) (dC (.int 1))) (dC (.int 0))) (dOp oGt (dCB oLen (aCons (dOp oIx (dVar 0) (dC (.int 0))) aNil)) (dC (.int 0)))) (sSetI 0 (dMtX mPopAt (dOp oIx (dVar 0) (dC (.int 0))) (aCons (dC (.int 0)) aNil)) (dC (.int 1))) sSkip)
  (sSeq (sIf (dOp oGt (dOp oIx (dVar 0) (dC (.int 1))) (dC (.int 0))) (sSeq (sSetF 3 (dOp oMod (dOp oIx (dVar 0) (dC (.int 1))) (dVar 1)))
  (sSeq (sSetI 0 (dOp oDiv (dOp oIx (dVar 0) (dC (.int 1))) (dVar 1)) (dC (.int 1)))
  (sRetV 3))) sSkip)
  (sSeq (sSetF 2 (dOp oMul (dC (.int 7)) (dOp oIx (dVar 0) (dC (.int 3)))))
  (sSeq (sIf (dOp oGt (dCB oLen (aCons (dOp oIx (dVar 0) (dC (.int 2))) aNil)) (dC (.int 0))) (sSetF 2 (dOp oIx (dOp oIx (dVar 0) (dC (.int 2))) (dOp oMod (dOp oIx (dVar 0) (dC (.int 3))) (dCB oLen (aCons (dOp oIx (dVar 0) (dC (.int 2))) aNil))))) sSkip)
  (sSeq (sSetF 3 (dC (.int 0)))
  (sSeq (sSetF 4 (dC (.int 1)))
  (sSeq (sWhile wc_law_take_1 wb_law_take_2)
  (sRet (dOp oMod (dVar 3) (dVar 1)))))))))))
noncomputable def F_law_take : List D → Sto → ER := fnD 2 5 g_law_take
noncomputable def ce_law_told_1 : En → ER :=
  (dTup (aCons (dCall F_law_low (aCons (dVar 2) (aCons (dVar 1) aNil))) (aCons (dCall F_law_low (aCons (dVar 3) (aCons (dVar 1) aNil))) aNil)))
theorem q_ce_law_told_1 {e : En} : ce_law_told_1 e = (dTup (aCons (dCall F_law_low (aCons (dVar 2) (aCons (dVar 1) aNil))) (aCons (dCall F_law_low (aCons (dVar 3) (aCons (dVar 1) aNil))) aNil))) e := rfl
noncomputable def g_law_told : En → SR :=
  (sRet (dLc (dIter (dVar 0)) (tgT 2 (tgsCons (tgN 2) (tgsCons (tgN 3) tgsNil))) (fun E => .val .P (.bl true) E.st) ce_law_told_1 [2, 3]))
noncomputable def F_law_told : List D → Sto → ER := fnD 2 4 g_law_told
noncomputable def ce_law_text_1 : En → ER :=
  (dOp oAdd (dOp oAdd (dCall F_law_number (aCons (dVar 1) aNil)) (dC (.str "-"))) (dCall F_law_number (aCons (dVar 2) aNil)))
theorem q_ce_law_text_1 {e : En} : ce_law_text_1 e = (dOp oAdd (dOp oAdd (dCall F_law_number (aCons (dVar 1) aNil)) (dC (.str "-"))) (dCall F_law_number (aCons (dVar 2) aNil))) e := rfl
noncomputable def g_law_text : En → SR :=
  (sSeq (sIf (dOp oEq (dCB oLen (aCons (dVar 0) aNil)) (dC (.int 0))) (sRet (dC (.str "none"))) sSkip)
  (sRet (dMs msJoin (dC (.str " ")) (aCons (dLc (dIter (dVar 0)) (tgT 2 (tgsCons (tgN 1) (tgsCons (tgN 2) tgsNil))) (fun E => .val .P (.bl true) E.st) ce_law_text_1 [1, 2]) aNil))))
noncomputable def F_law_text : List D → Sto → ER := fnD 1 3 g_law_text
noncomputable def g_law_read_place : En → SR :=
  (sSeq (sAsg (tgT 3 (tgsCons (tgN 1) (tgsCons (tgN 2) (tgsCons (tgN 3) tgsNil)))) (dMs msPartition (dVar 0) (aCons (dC (.str "/")) aNil)))
  (sSeq (sIf (dNot (dCall F_law_figures (aCons (dVar 1) aNil))) (sRet (dC .non)) sSkip)
  (sSeq (sIf (dOp oEq (dVar 2) (dC (.str ""))) (sRet (dTup (aCons (dCB oInt (aCons (dVar 1) aNil)) (aCons (dC (.int 1)) aNil)))) sSkip)
  (sSeq (sIf (dOr (dNot (dCall F_law_figures (aCons (dVar 3) aNil))) (dOr (dOp oLt (dCB oInt (aCons (dVar 3) aNil)) (dC (.int 2))) (dOp oNe (dCall F_law_low (aCons (dCB oInt (aCons (dVar 1) aNil)) (aCons (dCB oInt (aCons (dVar 3) aNil)) aNil))) (dTup (aCons (dCB oInt (aCons (dVar 1) aNil)) (aCons (dCB oInt (aCons (dVar 3) aNil)) aNil)))))) (sRet (dC .non)) sSkip)
  (sRet (dTup (aCons (dCB oInt (aCons (dVar 1) aNil)) (aCons (dCB oInt (aCons (dVar 3) aNil)) aNil))))))))
noncomputable def F_law_read_place : List D → Sto → ER := fnD 1 4 g_law_read_place
noncomputable def g_read_fraction : En → SR :=
  (sSeq (sSetF 1 (dVar 0))
  (sSeq (sIf (dOp oEq (dSl oSl (dVar 0) (fun _ => none) (fun e => some ((dC (.int 1)) e))) (dC (.str "-"))) (sSetF 1 (dSl oSl (dVar 0) (fun e => some ((dC (.int 1)) e)) (fun _ => none))) sSkip)
  (sSeq (sAsg (tgT 3 (tgsCons (tgN 3) (tgsCons (tgN 4) (tgsCons (tgN 5) tgsNil)))) (dMs msPartition (dVar 1) (aCons (dC (.str "/")) aNil)))
  (sSeq (sIf (dOp oEq (dVar 4) (dC (.str ""))) (sSetF 5 (dC (.str "1"))) sSkip)
  (sSeq (sIf (dOr (dNot (dCall F_is_figures (aCons (dVar 3) aNil))) (dOr (dNot (dCall F_is_figures (aCons (dVar 5) aNil))) (dOp oEq (dVar 5) (dC (.str "0"))))) (sRaise 2) sSkip)
  (sSeq (sSetF 2 (dCallG F_fraction_of 2 0 [0, 1] [(.int 1)] (aCons (dCB oInt (aCons (dVar 3) aNil)) (aCons (dCB oInt (aCons (dVar 5) aNil)) aNil)) aNil))
  (sSeq (sIf (dOp oNe (dVar 1) (dVar 0)) (sSetF 2 (dTup (aCons (dUn oNeg (dOp oIx (dVar 2) (dC (.int 0)))) (aCons (dOp oIx (dVar 2) (dC (.int 1))) aNil)))) sSkip)
  (sSeq (sIf (dOp oNe (dCall F_fraction_text (aCons (dVar 2) aNil)) (dVar 0)) (sRaise 2) sSkip)
  (sRetV 2)))))))))
noncomputable def F_read_fraction : List D → Sto → ER := fnD 1 6 g_read_fraction
noncomputable def fb_law_pairs_1 : En → SR :=
  (sSeq (sSetF 4 (dCall F_law_take (aCons (dVar 0) (aCons (dC (.int 4)) aNil))))
  (sSeq (sSetF 5 (dCall F_law_take (aCons (dVar 0) (aCons (dOp oAdd (dVar 1) (dC (.int 1))) aNil))))
  (sSeq (sSetF 6 (dOp oAdd (dVar 5) (dCall F_law_take (aCons (dVar 0) (aCons (dOp oSub (dOp oAdd (dVar 1) (dC (.int 1))) (dVar 5)) aNil)))))
  (sSeq (sIf (dAnd (dOp oEq (dVar 4) (dC (.int 0))) (dOp oGt (dCB oLen (aCons (dVar 2) aNil)) (dC (.int 0)))) (sSeq (sSetF 5 (dOp oIx (dOp oIx (dVar 2) (dCall F_law_take (aCons (dVar 0) (aCons (dCB oLen (aCons (dVar 2) aNil)) aNil)))) (dC (.int 1))))
  (sSetF 6 (dCB oMax2 (aCons (dVar 5) (aCons (dVar 6) aNil))))) sSkip)
  (sSeq (sIf (dOp oEq (dVar 4) (dC (.int 1))) (sSetF 6 (dCB oMin2 (aCons (dVar 1) (aCons (dOp oAdd (dVar 5) (dCall F_law_take (aCons (dVar 0) (aCons (dC (.int 3)) aNil)))) aNil)))) sSkip)
  (sMt mAppend 2 (aCons (dTup (aCons (dVar 5) (aCons (dVar 6) aNil))) aNil)))))))
theorem q_fb_law_pairs_1 {e : En} : fb_law_pairs_1 e = (sSeq (sSetF 4 (dCall F_law_take (aCons (dVar 0) (aCons (dC (.int 4)) aNil))))
  (sSeq (sSetF 5 (dCall F_law_take (aCons (dVar 0) (aCons (dOp oAdd (dVar 1) (dC (.int 1))) aNil))))
  (sSeq (sSetF 6 (dOp oAdd (dVar 5) (dCall F_law_take (aCons (dVar 0) (aCons (dOp oSub (dOp oAdd (dVar 1) (dC (.int 1))) (dVar 5)) aNil)))))
  (sSeq (sIf (dAnd (dOp oEq (dVar 4) (dC (.int 0))) (dOp oGt (dCB oLen (aCons (dVar 2) aNil)) (dC (.int 0)))) (sSeq (sSetF 5 (dOp oIx (dOp oIx (dVar 2) (dCall F_law_take (aCons (dVar 0) (aCons (dCB oLen (aCons (dVar 2) aNil)) aNil)))) (dC (.int 1))))
  (sSetF 6 (dCB oMax2 (aCons (dVar 5) (aCons (dVar 6) aNil))))) sSkip)
  (sSeq (sIf (dOp oEq (dVar 4) (dC (.int 1))) (sSetF 6 (dCB oMin2 (aCons (dVar 1) (aCons (dOp oAdd (dVar 5) (dCall F_law_take (aCons (dVar 0) (aCons (dC (.int 3)) aNil)))) aNil)))) sSkip)
  (sMt mAppend 2 (aCons (dTup (aCons (dVar 5) (aCons (dVar 6) aNil))) aNil))))))) e := rfl
noncomputable def g_law_pairs : En → SR :=
  (sSeq (sSet 2 (dLst aNil))
  (sSeq (sFor (dRng rng1 (aCons (dCall F_law_take (aCons (dVar 0) (aCons (dC (.int 9)) aNil))) aNil)) (tgN 3) fb_law_pairs_1)
  (sRetV 2)))
noncomputable def F_law_pairs : List D → Sto → ER := fnD 2 7 g_law_pairs
noncomputable def g_law_changed : En → SR :=
  (sSeq (sSetF 2 (dCall F_law_take (aCons (dVar 0) (aCons (dC (.int 9)) aNil))))
  (sSeq (sSetF 3 (dC (.str " !\"#$&'()*+,-./0123456789:;<=>?@ABCDEFGHIJKLMNOPQRSTUVWXYZ[\\]^_`abcdefghijklmnopqrstuvwxyz{|}~")))
  (sSeq (sSetF 4 (dOp oIx (dVar 3) (dCall F_law_take (aCons (dVar 0) (aCons (dCB oLen (aCons (dVar 3) aNil)) aNil)))))
  (sSeq (sSetF 5 (dCall F_law_take (aCons (dVar 0) (aCons (dOp oAdd (dCB oLen (aCons (dVar 1) aNil)) (dC (.int 1))) aNil))))
  (sSeq (sSet 6 (dMs msSplit (dVar 1) (aCons (dC (.str " ")) aNil)))
  (sSeq (sSetF 7 (dCall F_law_take (aCons (dVar 0) (aCons (dCB oLen (aCons (dVar 6) aNil)) aNil))))
  (sSeq (sSetF 8 (dCall F_law_take (aCons (dVar 0) (aCons (dCB oLen (aCons (dVar 6) aNil)) aNil))))
  (sSeq (sSetF 9 (dOp oAdd (dC (.str "1")) (dOp oMulS (dC (.str "0")) (dOp oAdd (dC (.int 38)) (dCall F_law_take (aCons (dVar 0) (aCons (dC (.int 3)) aNil)))))))
  (sSeq (sSetF 10 (dLst (aCons (dC (.str "2/2")) (aCons (dC (.str "2/4")) (aCons (dC (.str "3/2")) (aCons (dC (.str "-1/2")) (aCons (dC (.str "01")) (aCons (dOp oAdd (dC (.str "1/")) (dVar 9)) (aCons (dC (.str "0/1")) (aCons (dC (.str "1/1")) (aCons (dOp oAdd (dOp oAdd (dSl oSl (dVar 9) (fun e => some ((dC (.int 1)) e)) (fun _ => none)) (dC (.str "/"))) (dVar 9)) (aCons (dC (.str "1")) (aCons (dC (.str "0")) (aCons (dC (.str "")) aNil))))))))))))))
  (sSeq (sSetF 11 (dOp oIx (dVar 10) (dCall F_law_take (aCons (dVar 0) (aCons (dCB oLen (aCons (dVar 10) aNil)) aNil)))))
  (sSeq (sIf (dOp oEq (dVar 2) (dC (.int 1))) (sRet (dOp oAdd (dOp oAdd (dSl oSl (dVar 1) (fun _ => none) (fun e => some ((dVar 5) e))) (dVar 4)) (dSl oSl (dVar 1) (fun e => some ((dVar 5) e)) (fun _ => none)))) sSkip)
  (sSeq (sIf (dOp oEq (dVar 2) (dC (.int 2))) (sRet (dOp oAdd (dSl oSl (dVar 1) (fun _ => none) (fun e => some ((dVar 5) e))) (dSl oSl (dVar 1) (fun e => some ((dOp oAdd (dVar 5) (dC (.int 1))) e)) (fun _ => none)))) sSkip)
  (sSeq (sIf (dOp oEq (dVar 2) (dC (.int 3))) (sRet (dOp oAdd (dOp oAdd (dSl oSl (dVar 1) (fun _ => none) (fun e => some ((dVar 5) e))) (dVar 4)) (dSl oSl (dVar 1) (fun e => some ((dOp oAdd (dVar 5) (dC (.int 1))) e)) (fun _ => none)))) sSkip)
  (sSeq (sIf (dOp oEq (dVar 2) (dC (.int 4))) (sMt mPopAt 6 (aCons (dVar 7) aNil)) sSkip)
  (sSeq (sIf (dOp oEq (dVar 2) (dC (.int 5))) (sMt mInsert 6 (aCons (dVar 7) (aCons (dOp oIx (dVar 6) (dVar 8)) aNil))) sSkip)
  (sSeq (sIf (dOp oEq (dVar 2) (dC (.int 6))) (sSeq (sSetF 12 (dOp oIx (dVar 6) (dVar 7)))
  (sSeq (sSetI 6 (dOp oIx (dVar 6) (dVar 8)) (dVar 7))
  (sSetI 6 (dVar 12) (dVar 8)))) sSkip)
  (sSeq (sIf (dOp oEq (dVar 2) (dC (.int 7))) (sSeq (sAsg (tgT 3 (tgsCons (tgN 13) (tgsCons (tgN 14) (tgsCons (tgN 15) tgsNil)))) (dMs msPartition (dOp oIx (dVar 6) (dVar 7)) (aCons (dC (.str "-")) aNil)))
  (sSetI 6 (dOp oIx (dLst (aCons (dOp oAdd (dOp oAdd (dVar 11) (dC (.str "-"))) (dVar 15)) (aCons (dOp oAdd (dOp oAdd (dVar 13) (dC (.str "-"))) (dVar 11)) aNil))) (dCall F_law_take (aCons (dVar 0) (aCons (dC (.int 2)) aNil)))) (dVar 7))) sSkip)
  (sSeq (sIf (dOp oEq (dVar 2) (dC (.int 8))) (sRet (dOp oIx (dLst (aCons (dC (.str "none")) (aCons (dC (.str "")) (aCons (dC (.str "none none")) (aCons (dC (.str "None")) (aCons (dC (.str " none")) (aCons (dC (.str "0-1")) aNil))))))) (dCall F_law_take (aCons (dVar 0) (aCons (dC (.int 6)) aNil))))) sSkip)
  (sFrz 6 (sRet (dMs msJoin (dC (.str " ")) (aCons (dVar 6) aNil))))))))))))))))))))))
noncomputable def F_law_changed : List D → Sto → ER := fnD 2 16 g_law_changed
noncomputable def fb_law_read_1 : En → SR :=
  (sSeq (sSetF 3 (dMs msSplit (dVar 2) (aCons (dC (.str "-")) aNil)))
  (sSeq (sIf (dOp oNe (dCB oLen (aCons (dVar 3) aNil)) (dC (.int 2))) (sRet (dC .non)) sSkip)
  (sSeq (sSetF 4 (dCall F_law_read_place (aCons (dOp oIx (dVar 3) (dC (.int 0))) aNil)))
  (sSeq (sSetF 5 (dCall F_law_read_place (aCons (dOp oIx (dVar 3) (dC (.int 1))) aNil)))
  (sSeq (sIf (dOr (dOp oIsN (dVar 4) (dC .non)) (dOr (dOp oIsN (dVar 5) (dC .non)) (dOr (dOp oGt (dOp oIx (dVar 5) (dC (.int 0))) (dOp oIx (dVar 5) (dC (.int 1)))) (dNot (dCall F_law_less (aCons (dVar 4) (aCons (dVar 5) aNil))))))) (sRet (dC .non)) sSkip)
  (sSeq (sIf (dAnd (dOp oGt (dCB oLen (aCons (dVar 1) aNil)) (dC (.int 0))) (dNot (dCall F_law_less (aCons (dOp oIx (dOp oIx (dVar 1) (dUn oNeg (dC (.int 1)))) (dC (.int 1))) (aCons (dVar 4) aNil))))) (sRet (dC .non)) sSkip)
  (sMt mAppend 1 (aCons (dTup (aCons (dVar 4) (aCons (dVar 5) aNil))) aNil))))))))
theorem q_fb_law_read_1 {e : En} : fb_law_read_1 e = (sSeq (sSetF 3 (dMs msSplit (dVar 2) (aCons (dC (.str "-")) aNil)))
  (sSeq (sIf (dOp oNe (dCB oLen (aCons (dVar 3) aNil)) (dC (.int 2))) (sRet (dC .non)) sSkip)
  (sSeq (sSetF 4 (dCall F_law_read_place (aCons (dOp oIx (dVar 3) (dC (.int 0))) aNil)))
  (sSeq (sSetF 5 (dCall F_law_read_place (aCons (dOp oIx (dVar 3) (dC (.int 1))) aNil)))
  (sSeq (sIf (dOr (dOp oIsN (dVar 4) (dC .non)) (dOr (dOp oIsN (dVar 5) (dC .non)) (dOr (dOp oGt (dOp oIx (dVar 5) (dC (.int 0))) (dOp oIx (dVar 5) (dC (.int 1)))) (dNot (dCall F_law_less (aCons (dVar 4) (aCons (dVar 5) aNil))))))) (sRet (dC .non)) sSkip)
  (sSeq (sIf (dAnd (dOp oGt (dCB oLen (aCons (dVar 1) aNil)) (dC (.int 0))) (dNot (dCall F_law_less (aCons (dOp oIx (dOp oIx (dVar 1) (dUn oNeg (dC (.int 1)))) (dC (.int 1))) (aCons (dVar 4) aNil))))) (sRet (dC .non)) sSkip)
  (sMt mAppend 1 (aCons (dTup (aCons (dVar 4) (aCons (dVar 5) aNil))) aNil)))))))) e := rfl
noncomputable def g_law_read : En → SR :=
  (sSeq (sIf (dOp oEq (dVar 0) (dC (.str "none"))) (sRet (dLst aNil)) sSkip)
  (sSeq (sSet 1 (dLst aNil))
  (sSeq (sFor (dIter (dMs msSplit (dVar 0) (aCons (dC (.str " ")) aNil))) (tgN 2) fb_law_read_1)
  (sRetV 1))))
noncomputable def F_law_read : List D → Sto → ER := fnD 1 6 g_law_read
noncomputable def g_read_span : En → SR :=
  (sSeq (sSetF 1 (dMs msSplit (dVar 0) (aCons (dC (.str "-")) aNil)))
  (sSeq (sIf (dOp oNe (dCB oLen (aCons (dVar 1) aNil)) (dC (.int 2))) (sRaise 2) sSkip)
  (sRet (dTup (aCons (dCall F_read_fraction (aCons (dOp oIx (dVar 1) (dC (.int 0))) aNil)) (aCons (dCall F_read_fraction (aCons (dOp oIx (dVar 1) (dC (.int 1))) aNil)) aNil))))))
noncomputable def F_read_span : List D → Sto → ER := fnD 1 2 g_read_span
noncomputable def fb_Share___init___1 : En → SR :=
  (sDrop (dCall F_ask_span (aCons (dVar 2) (aCons (dVar 3) aNil))))
theorem q_fb_Share___init___1 {e : En} : fb_Share___init___1 e = (sDrop (dCall F_ask_span (aCons (dVar 2) (aCons (dVar 3) aNil)))) e := rfl
noncomputable def lb_Share___init___2 : En → ER :=
  (dCall F_covers (aCons (dVar 1) (aCons (dVar 2) (aCons (dVar 3) aNil))))
theorem q_lb_Share___init___2 {e : En} : lb_Share___init___2 e = (dCall F_covers (aCons (dVar 1) (aCons (dVar 2) (aCons (dVar 3) aNil)))) e := rfl
noncomputable def g_Share___init__ : En → SR :=
  (sSeq (sFor (dIter (dVar 1)) (tgT 2 (tgsCons (tgN 2) (tgsCons (tgN 3) tgsNil))) fb_Share___init___1)
  (sFldS ix_parts (dVar 0) (dLamC np_Share___init__ ("Share.__init__" ++ ".<locals>." ++ "<lambda>") 5 (g_spans_where (fun ds x y st => lb_Share___init___2 ⟨cloE ds 2 3 x y, st⟩)) (dCall F_rising_places (aCons (dVar 1) aNil)))))
noncomputable def F_Share___init__ : List D → Sto → ER := fnD 2 4 g_Share___init__
noncomputable def ce_read_share_1 : En → ER :=
  (dCall F_read_span (aCons (dVar 3) aNil))
theorem q_ce_read_share_1 {e : En} : ce_read_share_1 e = (dCall F_read_span (aCons (dVar 3) aNil)) e := rfl
noncomputable def g_read_share : En → SR :=
  (sSeq (sSetF 1 (dLst aNil))
  (sSeq (sIf (dOp oNe (dVar 0) (dC (.str "none"))) (sSetF 1 (dLcE (dIter (dMs msSplit (dVar 0) (aCons (dC (.str " ")) aNil))) (tgN 3) (fun E => .val .P (.bl true) E.st) ce_read_share_1 [3])) sSkip)
  (sSeq (sTryR sub_NoSpan (sSetF 2 (dMake 5 F_Share___init__ 2 0 [0, 1] [] (aCons (dVar 1) aNil) aNil)) (sRaise 2))
  (sSeq (sIf (dOp oNe (dStrX [(5, F_Share___str__)] (dVar 2)) (dVar 0)) (sRaise 2) sSkip)
  (sRetV 2)))))
noncomputable def F_read_share : List D → Sto → ER := fnD 1 4 g_read_share
noncomputable def fb_law_1 : En → SR :=
  (sSetF 4 (dCall F_law_changed (aCons (dVar 1) (aCons (dVar 4) aNil))))
theorem q_fb_law_1 {e : En} : fb_law_1 e = (sSetF 4 (dCall F_law_changed (aCons (dVar 1) (aCons (dVar 4) aNil)))) e := rfl
noncomputable def fb_law_2 : En → SR :=
  (sSeq (sSetF 8 (dLst aNil))
  (sSeq (sSetF 9 (dMake 5 F_Share___init__ 2 0 [0, 1] [] (aCons (dLst aNil) aNil) aNil))
  (sSeq (sTryAs 10 sub_CrumbError (sSetF 9 (dCall F_read_share (aCons (dVar 4) aNil))) (fun c l => nilOnly l (sSetF 8 (dLst (aCons (dIsE 10 (sub_NoText c)) (aCons (dIsE 10 (sub_NoSpan c)) (aCons (dIsE 10 (sub_NoTable c)) (aCons (dIsE 10 (sub_NoFraction c)) aNil))))))))
  (sSeq (sIf (dAnd (dOp oIsN (dVar 6) (dC .non)) (dOp oNe (dVar 8) (dLst (aCons (dC (.bl true)) (aCons (dC (.bl false)) (aCons (dC (.bl false)) (aCons (dC (.bl false)) aNil))))))) (sRet (dC (.bl false))) sSkip)
  (sIf (dAnd (dOp oNotN (dVar 6) (dC .non)) (dOr (dOp oNe (dVar 8) (dLst aNil)) (dOp oNe (dMeth 5 F_Share_spans 1 0 [0] [] (dVar 9) aNil aNil) (dVar 6)))) (sRet (dC (.bl false))) sSkip)))))
theorem q_fb_law_2 {e : En} : fb_law_2 e = (sSeq (sSetF 8 (dLst aNil))
  (sSeq (sSetF 9 (dMake 5 F_Share___init__ 2 0 [0, 1] [] (aCons (dLst aNil) aNil) aNil))
  (sSeq (sTryAs 10 sub_CrumbError (sSetF 9 (dCall F_read_share (aCons (dVar 4) aNil))) (fun c l => nilOnly l (sSetF 8 (dLst (aCons (dIsE 10 (sub_NoText c)) (aCons (dIsE 10 (sub_NoSpan c)) (aCons (dIsE 10 (sub_NoTable c)) (aCons (dIsE 10 (sub_NoFraction c)) aNil))))))))
  (sSeq (sIf (dAnd (dOp oIsN (dVar 6) (dC .non)) (dOp oNe (dVar 8) (dLst (aCons (dC (.bl true)) (aCons (dC (.bl false)) (aCons (dC (.bl false)) (aCons (dC (.bl false)) aNil))))))) (sRet (dC (.bl false))) sSkip)
  (sIf (dAnd (dOp oNotN (dVar 6) (dC .non)) (dOr (dOp oNe (dVar 8) (dLst aNil)) (dOp oNe (dMeth 5 F_Share_spans 1 0 [0] [] (dVar 9) aNil aNil) (dVar 6)))) (sRet (dC (.bl false))) sSkip))))) e := rfl
noncomputable def k_law_7 : En → SR :=
  (sRet (dC (.bl true)))
theorem q_k_law_7 {e : En} : k_law_7 e = (sRet (dC (.bl true))) e := rfl
noncomputable def k_law_6 : En → SR :=
  (sSeq (sFor (dRng rng1 (aCons (dC (.int 2)) aNil)) (tgN 7) fb_law_2)
  k_law_7)
theorem q_k_law_6 {e : En} : k_law_6 e = (sSeq (sFor (dRng rng1 (aCons (dC (.int 2)) aNil)) (tgN 7) fb_law_2)
  k_law_7) e := rfl
noncomputable def k_law_5 : En → SR :=
  (sSeq (sSetF 6 (dCall F_law_read (aCons (dVar 4) aNil)))
  k_law_6)
theorem q_k_law_5 {e : En} : k_law_5 e = (sSeq (sSetF 6 (dCall F_law_read (aCons (dVar 4) aNil)))
  k_law_6) e := rfl
noncomputable def k_law_4 : En → SR :=
  (sSeq (sFor (dRng rng1 (aCons (dOp oMod (dVar 2) (dC (.int 3))) aNil)) (tgN 5) fb_law_1)
  k_law_5)
theorem q_k_law_4 {e : En} : k_law_4 e = (sSeq (sFor (dRng rng1 (aCons (dOp oMod (dVar 2) (dC (.int 3))) aNil)) (tgN 5) fb_law_1)
  k_law_5) e := rfl
noncomputable def k_law_3 : En → SR :=
  (sSeq (sSetF 4 (dCall F_law_text (aCons (dCall F_law_told (aCons (dCall F_law_joined (aCons (dSl oSl (dCall F_law_pairs (aCons (dVar 1) (aCons (dVar 3) aNil))) (fun _ => none) (fun e => some ((dC (.int 4)) e))) aNil)) (aCons (dVar 3) aNil))) aNil)))
  k_law_4)
theorem q_k_law_3 {e : En} : k_law_3 e = (sSeq (sSetF 4 (dCall F_law_text (aCons (dCall F_law_told (aCons (dCall F_law_joined (aCons (dSl oSl (dCall F_law_pairs (aCons (dVar 1) (aCons (dVar 3) aNil))) (fun _ => none) (fun e => some ((dC (.int 4)) e))) aNil)) (aCons (dVar 3) aNil))) aNil)))
  k_law_4) e := rfl
noncomputable def k_law_2 : En → SR :=
  (sSeq (sSetF 3 (dOp oAdd (dC (.int 1)) (dCall F_law_take (aCons (dVar 1) (aCons (dOp oIx (dLst (aCons (dC (.int 12)) (aCons (dC (.int 60)) (aCons (dOp oPow (dC (.int 10)) (dC (.int 9))) aNil)))) (dCall F_law_take (aCons (dVar 1) (aCons (dC (.int 3)) aNil)))) aNil)))))
  k_law_3)
theorem q_k_law_2 {e : En} : k_law_2 e = (sSeq (sSetF 3 (dOp oAdd (dC (.int 1)) (dCall F_law_take (aCons (dVar 1) (aCons (dOp oIx (dLst (aCons (dC (.int 12)) (aCons (dC (.int 60)) (aCons (dOp oPow (dC (.int 10)) (dC (.int 9))) aNil)))) (dCall F_law_take (aCons (dVar 1) (aCons (dC (.int 3)) aNil)))) aNil)))))
  k_law_3) e := rfl
noncomputable def k_law_1 : En → SR :=
  (sSeq (sSetF 2 (dCall F_law_take (aCons (dVar 1) (aCons (dC (.int 4)) aNil))))
  k_law_2)
theorem q_k_law_1 {e : En} : k_law_1 e = (sSeq (sSetF 2 (dCall F_law_take (aCons (dVar 1) (aCons (dC (.int 4)) aNil))))
  k_law_2) e := rfl
noncomputable def g_law : En → SR :=
  (sSeq (sSetF 1 (dCall F_law_box (aCons (dVar 0) aNil)))
  k_law_1)
noncomputable def F_law : List D → Sto → ER := fnD 1 11 g_law
end Dn
namespace Dn
open PySem PySem.Spec PyProof.Rows L2
theorem divisor_eq (a b : Int) (st : Sto) : F_divisor [.int a, .int b] st = .val .P (.int (Int.gcd a b)) st := by
  simp [F_divisor, g_divisor, wc_divisor_1, wb_divisor_2, absI, gcd_while]
  rfl
theorem fraction_of_eq {t b : Int} (hb : b ≠ 0) (h : b.natAbs.log2 < 9000) (st : Sto) : F_fraction_of [.int t, .int b] st = .val .P (dF (Rat.divInt t b)) st := by
  obtain ⟨h1, h2⟩ := sgd_log (t := t) hb h
  obtain ⟨e1, e2⟩ := low_num t b hb
  unfold dF
  rw [← e1, ← e2]
  by_cases hn : b < 0
  · simp [F_fraction_of, g_fraction_of, hb, divisor_eq, hn, h1, h2]
  · simp [F_fraction_of, g_fraction_of, hb, divisor_eq, hn, h1, h2]
theorem is_less_eq {a b : Rat} {m n : Nat} (ha : Sz m a) (hb : Sz n b) (h : m + n < 900000) (st : Sto) : F_is_less [dF a, dF b] st = .val .P (.bl (decide (a < b))) st := by
  have m1 := bit_log2 ha.1 hb.den (by omega)
  have m2 := bit_log2 hb.1 ha.den (by omega)
  simp only [Int.natAbs_natCast] at m1 m2
  simp [F_is_less, g_is_less, m1, m2, lt_num]
theorem ask_span_eq {x y : Rat} {s : Nat} (hx : Sz (s + 1) x) (hy : Sz (s + 1) y) (hs : s ≤ 4000) (st : Sto) : F_ask_span [dF x, dF y] st = if x < 0 ∨ 1 < y ∨ y < x then .exc 4 [] st else .val .P .non st := by
  have l1 := is_less_eq hx (sz0 (n := s)) (by omega) st
  have l2 := is_less_eq (sz1 (n := s)) hy (by omega) st
  have l3 := is_less_eq hy hx (by omega) st
  by_cases c1 : x < 0
  · simp [F_ask_span, g_ask_span, l1, c1]
  · by_cases c2 : 1 < y
    · simp [F_ask_span, g_ask_span, l1, l2, c1, c2]
    · by_cases c3 : y < x <;> simp [F_ask_span, g_ask_span, l1, l2, l3, c1, c2, c3]
theorem fmod_in (x : Int) {s : Int} (h : 0 < s) : 0 ≤ x.fmod s ∧ x.fmod s < s := ⟨Int.fmod_nonneg_of_pos x h, Int.fmod_lt_of_pos x h⟩
theorem atI_ok {α : Type} {l : List α} {i : Int} (h0 : 0 ≤ i) (h : i < l.length) : ∃ x, atI l i = some x := by
  have hi : i.toNat < l.length := by omega
  refine ⟨l[i.toNat], ?_⟩
  have := atI_nat (List.getElem?_eq_getElem hi)
  rwa [Int.toNat_of_nonneg h0] at this
theorem mixed_ex (c k : Int) (h0 : 0 ≤ k) (h1 : k ≤ 1000000) : ∃ r : Int, 0 ≤ r ∧ r < 1000000007 ∧ ∀ st, F_law_mixed [.int c, .int k] st = .val .P (.int r) st := by
  have hc := fmod_in c (s := 2147483647) (by decide)
  have hkk : (1009 : Int) * k * k ≤ 1009 * 1000000 * 1000000 := Int.mul_le_mul (by omega) h1 h0 (by omega)
  have hkk0 : (0 : Int) ≤ 1009 * k * k := Int.mul_nonneg (by omega) h0
  have q1 : (1009 : Int).natAbs.log2 + k.natAbs.log2 < 1000000 := mul_ok (a := 20) (b := 30) (by decide) (by omega) (by decide) (by decide) (by decide)
  have q2 : (1009 * k).natAbs.log2 + k.natAbs.log2 < 1000000 := mul_ok (a := 60) (b := 30) (by omega) (by omega) (by decide) (by decide) (by decide)
  have q3 : (48611 : Int).natAbs.log2 + k.natAbs.log2 < 1000000 := mul_ok (a := 20) (b := 30) (by decide) (by omega) (by decide) (by decide) (by decide)
  generalize hb : (c.fmod 2147483647 + 1009 * k * k + 48611 * k + 17) = bb
  have q4 : bb.natAbs < 2 ^ 64 := by omega
  have hm := fmod_in (bb ^ 5) (s := 2147483647) (by decide)
  generalize hw : (bb ^ 5).fmod 2147483647 = w at hm
  have q5 : w.natAbs.log2 + (39373 : Int).natAbs.log2 < 1000000 := mul_ok (a := 40) (b := 20) (by omega) (by decide) (by decide) (by decide) (by decide)
  have q6 : (7919 : Int).natAbs.log2 + k.natAbs.log2 < 1000000 := mul_ok (a := 20) (b := 30) (by decide) (by omega) (by decide) (by decide) (by decide)
  have hr := fmod_in (w * 39373 + 7919 * k) (s := 1000000007) (by decide)
  refine ⟨_, hr.1, hr.2, fun st => ?_⟩
  simp only [F_law_mixed, g_law_mixed, e_fnD, e_startE, e_sSeq, e_sSetF, e_dOp, e_dVar, e_dC, List.map_cons, List.map_nil, List.length_cons, List.length_nil, if_true, List.cons_append, List.nil_append, List.replicate, List.getElem?_cons_succ, List.getElem?_cons_zero, ER.bind_val, e_oMod_1, e_oMul_1, e_oAdd_1, e_oPow_1, q1, q2, q3, hb, q4, hw, q5, q6]
  have q4' : bb.natAbs < 18446744073709551616 := q4
  simp +decide [hb, q4', hw, q5, q6]
  simp +decide at q5 q6
  simp +decide [q5, q6]
def Box (p q N : Nat) (st : Sto) : Prop := p ≠ q ∧ ∃ (g sm : List Int) (a c : Int), st[q]? = some (.lst (g.map .int)) ∧ st[p]? = some (.lst [.ptr q, .int a, .lst (sm.map .int), .int c]) ∧ 0 ≤ a ∧ 0 ≤ c ∧ c ≤ N ∧ (∀ x ∈ g, 0 < x) ∧ g.length ≤ 63 ∧ sm.length ≤ 63
def Rest (p q : Nat) (st st' : Sto) : Prop := st'.length = st.length ∧ ∀ m, m ≠ p → m ≠ q → st'[m]? = st[m]?
theorem Rest.refl {p q : Nat} {st : Sto} : Rest p q st st := ⟨rfl, fun _ _ _ => rfl⟩
theorem Rest.trans {p q : Nat} {s t u : Sto} (h : Rest p q s t) (k : Rest p q t u) : Rest p q s u := ⟨k.1.trans h.1, fun m a b => (k.2 m a b).trans (h.2 m a b)⟩
theorem Box.up {p q N M : Nat} {st : Sto} (h : Box p q N st) (k : N ≤ M) : Box p q M st := by
  obtain ⟨a, g, sm, x, c, h1, h2, h3, h4, h5, h6⟩ := h
  exact ⟨a, g, sm, x, c, h1, h2, h3, h4, by omega, h6⟩
theorem take_loop {p : Nat} {st : Sto} {n c k : Int} (hn : n < 2 ^ 1000) (hst : ∃ x y z, st[p]? = some (.lst [x, y, z, .int c])) (hc0 : 0 ≤ c) (hc : c ≤ 200000) :
    ∀ (m : Nat) (f r : Int), 0 < r → 0 ≤ f → f < r → r < n * 1000000007 ∨ r = 1 → (n - r).toNat ≤ m →
      ∃ f' r', 0 ≤ f' ∧ ∃ i, whN wc_law_take_1 wb_law_take_2 i ⟨[.val (.ptr p), .val (.int n), .val (.int k), .val (.int f), .val (.int r)], st⟩ = some (.nx ⟨[.val (.ptr p), .val (.int n), .val (.int k), .val (.int f'), .val (.int r')], st⟩) := by
  obtain ⟨x, y, z, hst⟩ := hst
  intro m
  induction m with
  | zero =>
    intro f r hr hf hfr hb hm
    refine ⟨f, r, hf, 1, ?_⟩
    rw [e_wh (x := false) (m := .P) (st1 := st) (by simp [q_wc_law_take_1]; omega)]
    simp
  | succ m ih =>
    intro f r hr hf hfr hb hm
    by_cases hlt : r < n
    · obtain ⟨mx, h0, h1, hx⟩ := mixed_ex k (c + 1000 * f.fmod 89) (by have := fmod_in f (s := 89) (by decide); omega) (by have := fmod_in f (s := 89) (by decide); omega)
      obtain ⟨f', r', hf', i, hi⟩ := ih (f * 1000000007 + mx) (r * 1000000007) (by omega) (by omega) (by omega) (by omega) (by omega)
      refine ⟨f', r', hf', i + 1, ?_⟩
      rw [e_wh (x := true) (m := .P) (st1 := st) (by simp [q_wc_law_take_1]; omega)]
      have q1 : f.natAbs.log2 + Nat.log2 1000000007 < 1000000 := mul_ok (j := 1000000007) (a := 1000) (b := 40) (by omega) (by decide) (by decide) (by decide) (by decide)
      have q2 : r.natAbs.log2 + Nat.log2 1000000007 < 1000000 := mul_ok (j := 1000000007) (a := 1000) (b := 40) (by omega) (by decide) (by decide) (by decide) (by decide)
      have q3 : Nat.log2 1000 + (f.fmod 89).natAbs.log2 < 1000000 := mul_ok (i := 1000) (a := 40) (b := 40) (by decide) (by have := fmod_in f (s := 89) (by decide); omega) (by decide) (by decide) (by decide)
      simp [q_wb_law_take_2, q1, q2, q3, hst, atI, ixN, hx]
      exact hi
    · refine ⟨f, r, hf, 1, ?_⟩
      rw [e_wh (x := false) (m := .P) (st1 := st) (by simp [q_wc_law_take_1]; omega)]
      simp
theorem take_ok {p q N : Nat} {st : Sto} {n : Int} (B : Box p q N st) (h1 : 1 ≤ n) (h2 : n < 2 ^ 1000 := by decide) (hN : N ≤ 100000 := by decide) : ∃ r st', F_law_take [.ptr p, .int n] st = .val .P (.int r) st' ∧ 0 ≤ r ∧ r < n ∧ Box p q (N + 1) st' ∧ Rest p q st st' := by
  obtain ⟨pq, g, sm, a, c, hq, hp, a0, c0, cN, gp, gl, sl⟩ := B
  have qp : q ≠ p := fun h => pq h.symm
  have lp : p < st.length := (List.getElem?_eq_some_iff.mp hp).1
  have lq : q < st.length := (List.getElem?_eq_some_iff.mp hq).1
  have hn0 : ¬ n = 0 := by omega
  have hlog : n.natAbs.log2 < 9000 := Nat.lt_of_lt_of_le (log2_lt (k := 1000) (by decide) (by omega)) (by decide)
  have sp : ∀ (s : Sto) (x : Ob), s.length = st.length → (s.set p x)[p]? = some x := fun s x h => List.getElem?_set_self (by omega)
  have sq : ∀ (s : Sto) (x : Ob), s.length = st.length → (s.set q x)[q]? = some x := fun s x h => List.getElem?_set_self (by omega)
  by_cases ha : 0 < a
  · have hd := Int.fdiv_nonneg a0 (show 0 ≤ n by omega)
    refine ⟨a.fmod n, (st.set p (.lst [.ptr q, .int a, .lst (sm.map .int), .int (c + 1)])).set p (.lst [.ptr q, .int (a.fdiv n), .lst (sm.map .int), .int (c + 1)]), ?_, (fmod_in a h1).1, (fmod_in a h1).2, ⟨pq, g, sm, a.fdiv n, c + 1, ?_, ?_, hd, by omega, by omega, gp, gl, sl⟩, by simp, fun m m1 m2 => ?_⟩
    · have ha' : ¬ a = 0 := by omega
      simp [F_law_take, g_law_take, hp, hq, atI, ixN, ha, ha', sp, hn0, hlog, List.getElem?_set_ne pq]
    · simp [List.getElem?_set_ne pq, hq]
    · exact sp _ _ (by simp)
    · simp [List.getElem?_set_ne (Ne.symm m1)]
  · have ha0 : a = 0 := by omega
    subst ha0
    cases g with
    | cons x g =>
      have hx : 0 < x := gp x (List.mem_cons_self ..)
      have hd := Int.fdiv_nonneg (show 0 ≤ x by omega) (show 0 ≤ n by omega)
      refine ⟨x.fmod n, ((((st.set p (.lst [.ptr q, .int 0, .lst (sm.map .int), .int (c + 1)])).set q (.lst (g.map .int))).set p (.lst [.ptr q, .int x, .lst (sm.map .int), .int (c + 1)]))).set p (.lst [.ptr q, .int (x.fdiv n), .lst (sm.map .int), .int (c + 1)]), ?_, (fmod_in x h1).1, (fmod_in x h1).2, ⟨pq, g, sm, x.fdiv n, c + 1, ?_, ?_, hd, by omega, by omega, fun y hy => gp y (List.mem_cons_of_mem _ hy), by simp at gl; omega, sl⟩, by simp, fun m m1 m2 => ?_⟩
      · have hx' : ¬ x = 0 := by omega
        simp [F_law_take, g_law_take, hp, hq, atI, ixN, hx, hx', sp, sq, hn0, hlog, List.getElem?_set_ne pq, List.getElem?_set_ne qp, seqIndex?]
      · rw [List.getElem?_set_ne pq, List.getElem?_set_ne pq]; exact sq _ _ (by simp)
      · exact sp _ _ (by simp)
      · simp [List.getElem?_set_ne (Ne.symm m1), List.getElem?_set_ne (Ne.symm m2)]
    | nil =>
      have hS : (st.set p (.lst [.ptr q, .int 0, .lst (sm.map .int), .int (c + 1)]))[p]? = some (.lst [.ptr q, .int 0, .lst (sm.map .int), .int (c + 1)]) := sp _ _ rfl
      have hQ : (st.set p (.lst [.ptr q, .int 0, .lst (sm.map .int), .int (c + 1)]))[q]? = some (.lst []) := by rw [List.getElem?_set_ne pq]; exact hq
      have hl : (st.set p (.lst [.ptr q, .int 0, .lst (sm.map .int), .int (c + 1)])).length = st.length := by simp
      have hr : ∀ m, m ≠ p → m ≠ q → (st.set p (.lst [.ptr q, .int 0, .lst (sm.map .int), .int (c + 1)]))[m]? = st[m]? := fun m m1 m2 => List.getElem?_set_ne (Ne.symm m1)
      generalize hs : st.set p (.lst [.ptr q, .int 0, .lst (sm.map .int), .int (c + 1)]) = s at hS hQ hl hr
      have q7 : Nat.log2 7 + (c + 1).natAbs.log2 < 1000000 := mul_ok (i := 7) (a := 40) (b := 40) (by decide) (by omega) (by decide) (by decide) (by decide)
      have key : ∀ k : Int, ∃ f, 0 ≤ f ∧ f < n ∧ ((sSeq (sSetF 3 (dC (.int 0)))
          (sSeq (sSetF 4 (dC (.int 1)))
          (sSeq (sWhile wc_law_take_1 wb_law_take_2)
          (sRet (dOp oMod (dVar 3) (dVar 1)))))) ⟨[.val (.ptr p), .val (.int n), .val (.int k), .emp, .emp], s⟩) = .rt .P (.int f) s := fun k => by
        obtain ⟨f, r, hf, i, hi⟩ := take_loop (p := p) (st := s) (n := n) (c := c + 1) (k := k) h2 ⟨_, _, _, hS⟩ (by omega) (by omega) (n - 1).toNat 0 1 (by decide) (by decide) (by decide) (.inr rfl) (by omega)
        have hw := sWhile_eq hi
        refine ⟨f.fmod n, (fmod_in f h1).1, (fmod_in f h1).2, ?_⟩
        simp [hw, hn0]
      have fin : ∀ f, 0 ≤ f → f < n → F_law_take [.ptr p, .int n] st = .val .P (.int f) s → ∃ r st', F_law_take [.ptr p, .int n] st = .val .P (.int r) st' ∧ 0 ≤ r ∧ r < n ∧ Box p q (N + 1) st' ∧ Rest p q st st' := fun f h3 h4 h5 =>
        ⟨f, s, h5, h3, h4, ⟨pq, [], sm, 0, c + 1, hQ, hS, by decide, by omega, by omega, fun y hy => by simp at hy, by decide, sl⟩, hl, hr⟩
      cases sm with
      | nil =>
        obtain ⟨f, f0, f1, hf⟩ := key (7 * (c + 1))
        refine fin f f0 f1 ?_
        simp only [e_sSeq] at hf
        simp [F_law_take, g_law_take, hp, atI, ixN] at hf hs hS ⊢
        rw [hs]
        simp [hS, hQ, q7, hf, atI, ixN]
      | cons y sm =>
        have hL : (0 : Int) < ((y :: sm).length : Int) := by rw [List.length_cons]; omega
        have hfm := fmod_in (c + 1) hL
        obtain ⟨k, hk⟩ := atI_ok (l := (y :: sm).map D.int) (i := (c + 1).fmod ((y :: sm).length : Int)) hfm.1 (by rw [List.length_map]; exact hfm.2)
        have hk2 : ∃ z, k = .int z := by
          unfold atI at hk
          cases hx : ixN ((y :: sm).map D.int).length ((c + 1).fmod ((y :: sm).length : Int)) with
          | none => rw [hx] at hk; cases hk
          | some j =>
            rw [hx] at hk
            have hk' : ((y :: sm).map D.int)[j]? = some k := hk
            rw [List.getElem?_map] at hk'
            cases hj : (y :: sm)[j]? with
            | none => rw [hj] at hk'; cases hk'
            | some z => rw [hj] at hk'; exact ⟨z, (Option.some.inj hk').symm⟩
        obtain ⟨z, rfl⟩ := hk2
        obtain ⟨f, f0, f1, hf⟩ := key z
        refine fin f f0 f1 ?_
        generalize hY : y :: sm = Y at *
        have hY0 : 0 < Y.length := by rw [← hY]; simp
        have hYn : ¬ Y = [] := by rw [← hY]; simp
        have hY1 : ¬ (Y.length : Int) = 0 := by omega
        have a3 : ∀ X : D, atI [D.ptr q, .int 0, .lst (Y.map .int), X] 3 = some X := fun X => by simp [atI, ixN]
        have a2 : ∀ X : D, atI [D.ptr q, .int 0, .lst (Y.map .int), X] 2 = some (.lst (Y.map .int)) := fun X => by simp [atI, ixN]
        have a1 : ∀ X : D, atI [D.ptr q, .int 0, .lst (Y.map .int), X] 1 = some (.int 0) := fun X => by simp [atI, ixN]
        have a0' : ∀ X : D, atI [D.ptr q, .int 0, .lst (Y.map .int), X] 0 = some (.ptr q) := fun X => by simp [atI, ixN]
        have i3 : ixN 4 3 = some 3 := by decide
        simp only [e_sSeq] at hf
        simp [F_law_take, g_law_take, hp, a3, i3] at hf hs hS ⊢
        rw [hs]
        simp [hS, hQ, q7, hf, a0', a1, a2, a3, hY0, hYn, hk]
theorem low_wh (st : Sto) : ∀ (b a : Nat) (x y : SL), ∃ n, whN wc_law_low_1 wb_law_low_2 n ⟨[x, y, .val (.int a), .val (.int b)], st⟩ = some (.nx ⟨[x, y, .val (.int (Nat.gcd a b)), .val (.int 0)], st⟩) := by
  intro b
  induction b using Nat.strongRecOn with
  | ind b ih =>
    intro a x y
    by_cases hb : b = 0
    · subst hb
      refine ⟨1, ?_⟩
      rw [e_wh (x := false) (m := .P) (st1 := st) (by simp [q_wc_law_low_1])]
      simp
    · obtain ⟨n, hn⟩ := ih (a % b) (Nat.mod_lt _ (Nat.pos_of_ne_zero hb)) b x y
      refine ⟨n + 1, ?_⟩
      rw [e_wh (x := true) (m := .P) (st1 := st) (by simp [q_wc_law_low_1]; omega)]
      have hm : (a : Int).fmod (b : Int) = ((a % b : Nat) : Int) := by
        rw [Int.fmod_eq_emod_of_nonneg _ (Int.natCast_nonneg b)]
        rfl
      have hb' : ¬ (b : Int) = 0 := by omega
      simp only [if_true, q_wb_law_low_2, e_sPar, e_aCons, e_aNil, e_dVar, e_dOp, List.getElem?_cons_succ, List.getElem?_cons_zero, ER.bind_val, e_oMod_1, cons_P, acons_ok, ne_eq, hb', not_false_eq_true, Bool.and_self, List.set_cons_zero, List.set_cons_succ, hm]
      rw [hn]
      have : Nat.gcd a b = Nat.gcd b (a % b) := by
        rw [Nat.gcd_comm a b, Nat.gcd_rec b a, Nat.gcd_comm]
      rw [this]
theorem law_low_eq {t b : Int} (hb : b ≠ 0) (h : b.natAbs.log2 < 9000) (st : Sto) : F_law_low [.int t, .int b] st = .val .P (dF (Rat.divInt t b)) st := by
  obtain ⟨h1, h2⟩ := sgd_log (t := t) hb h
  obtain ⟨e1, e2⟩ := low_num t b hb
  unfold dF
  rw [← e1, ← e2]
  have hw : ∀ x y : SL, ∀ a b : Nat, sWhile wc_law_low_1 wb_law_low_2 ⟨[x, y, .val (.int a), .val (.int b)], st⟩ = .nx ⟨[x, y, .val (.int (Nat.gcd a b)), .val (.int 0)], st⟩ := fun x y a b => by
    obtain ⟨n, h⟩ := low_wh st b a x y
    exact sWhile_eq h
  have hg : Nat.gcd t.natAbs b.natAbs = Int.gcd t b := rfl
  simp only [F_law_low, g_law_low, e_fnD, e_startE, e_sSeq, e_sSetF, e_dCB, e_aCons, e_aNil, e_dVar, List.map_cons, List.map_nil, List.length_cons, List.length_nil, if_true, List.cons_append, List.nil_append, List.replicate, List.getElem?_cons_succ, List.getElem?_cons_zero, Nat.reduceAdd, Nat.reduceSub, cons_P, acons_ok, e_oAbs_1, absI, SR.bind_nx, List.set_cons_succ, List.set_cons_zero, hw, hg]
  by_cases hn : b < 0
  · simp [hn, h1, h2]
  · simp [hn, h1, h2]
theorem at_last {α : Type} {l : List α} {a : α} : atI (l ++ [a]) (-1) = some a := by
  have h1 : (1 : Int) ≤ (l.length : Int) + 1 := by omega
  have h2 : (-1 + ((l.length : Int) + 1)).toNat = l.length := by omega
  simp [atI, ixN, h1, h2]
theorem at_dF0 {l : List Rat} {i : Nat} (h : i < l.length) : atI (l.map dF) (i : Int) = some (dF l[i]) := by
  have h1 : ¬ (i : Int) < 0 := by omega
  simp [atI, ixN, h1, h]
def upto (q : Rat) (l : List Rat) : Nat := if q ∈ l then ahead q l + 1 else ahead q l
theorem upto_le {q : Rat} {l : List Rat} (hR : Ris l) : upto q l ≤ l.length := by
  have := ahead_le q l
  unfold upto
  split
  · rename_i m
    have hm := m
    by_cases c : ahead q l < l.length
    · omega
    · exfalso
      obtain ⟨j, hj, e⟩ := List.mem_iff_getElem.mp hm
      have := ahead_lt (q := q) (l := l) (i := j) (by omega) hj
      rw [e] at this; grind
  · exact this
theorem mem_ahead' {q : Rat} {l : List Rat} (h : Ris l) (m : q ∈ l) : ∃ c : ahead q l < l.length, l[ahead q l] = q := by
  have hle := ahead_le q l
  have hu := upto_le (q := q) h
  unfold upto at hu
  rw [if_pos m] at hu
  refine ⟨by omega, ?_⟩
  have g := ahead_ge (q := q) (l := l) (by omega)
  obtain ⟨j, hj, e⟩ := List.mem_iff_getElem.mp m
  have hj2 : ¬ j < ahead q l := fun z => by have := ahead_lt (q := q) z hj; rw [e] at this; grind
  by_cases z : j = ahead q l
  · subst z; exact e
  · have := List.pairwise_iff_getElem.mp h (ahead q l) j (by omega) hj (by omega)
    grind
theorem upto_lt {q : Rat} {l : List Rat} (hR : Ris l) {i : Nat} (h : i < l.length) (hi : upto q l ≤ i) : q < l[i] := by
  have hle := ahead_le q l
  unfold upto at hi
  by_cases m : q ∈ l
  · rw [if_pos m] at hi
    obtain ⟨c, e⟩ := mem_ahead' hR m
    have := List.pairwise_iff_getElem.mp hR (ahead q l) i c h (by omega)
    rw [e] at this; exact this
  · rw [if_neg m] at hi
    have c : ahead q l < l.length := by omega
    have g := ahead_ge (q := q) c
    have ne : l[ahead q l] ≠ q := fun e => m (e ▸ List.getElem_mem c)
    by_cases z : i = ahead q l
    · subst z; grind
    · have := List.pairwise_iff_getElem.mp hR (ahead q l) i c h (by omega)
      grind
theorem upto_ge {q : Rat} {l : List Rat} (hR : Ris l) {i : Nat} (h : i < l.length) (hi : i < upto q l) : ¬ q < l[i] := by
  unfold upto at hi
  by_cases m : q ∈ l
  · rw [if_pos m] at hi
    by_cases z : i < ahead q l
    · have := ahead_lt (q := q) z h; grind
    · have : i = ahead q l := by omega
      subst this
      obtain ⟨c, e⟩ := mem_ahead' hR m
      rw [e]; grind
  · rw [if_neg m] at hi
    have := ahead_lt (q := q) hi h; grind
theorem places_wh {l : List Rat} {q : Rat} {s : Nat} (hR : Ris l) (hl : ∀ a ∈ l, Sz s a) (hq : Sz s q) (hs : s ≤ 4000) (e0 e2 : SL) (st : Sto) : ∀ (k i : Nat), i = upto q l + k → i ≤ l.length → ∃ n, whN wc_rising_places_1 wb_rising_places_2 n ⟨[e0, .own (l.map dF), e2, .val (dF q), .val (.int i)], st⟩ = some (.nx ⟨[e0, .own (l.map dF), e2, .val (dF q), .val (.int (upto q l))], st⟩) := by
  intro k
  induction k with
  | zero =>
    intro i hi hil
    have hi : i = upto q l := by omega
    subst hi
    refine ⟨1, ?_⟩
    rw [e_wh (x := false) (m := .P) (st1 := st) ?_]
    · simp
    · cases hu : upto q l with
      | zero => simp -implicitDefEqProofs [q_wc_rising_places_1]
      | succ j =>
        have c : j < l.length := by omega
        have a1 := at_dF0 c
        have a2 := is_less_eq hq (hl _ (List.getElem_mem c)) (by omega) st
        have a3 := upto_ge (q := q) hR c (by omega)
        have a4 : (0 : Int) < (j : Int) + 1 := by omega
        have a5 : (j : Int) + 1 - 1 = (j : Int) := by omega
        simp -implicitDefEqProofs [q_wc_rising_places_1, a1, a2, a3, a4, a5]
  | succ k ih =>
    intro i hi hil
    obtain ⟨n, hn⟩ := ih (i - 1) (by omega) (by omega)
    refine ⟨n + 1, ?_⟩
    obtain ⟨j, rfl⟩ : ∃ j, i = j + 1 := ⟨i - 1, by omega⟩
    have c : j < l.length := by omega
    have a1 := at_dF0 c
    have a2 := is_less_eq hq (hl _ (List.getElem_mem c)) (by omega) st
    have a3 := upto_lt (q := q) hR c (by omega)
    have a4 : (0 : Int) < (j : Int) + 1 := by omega
    have a5 : (j : Int) + 1 - 1 = (j : Int) := by omega
    rw [e_wh (x := true) (m := .P) (st1 := st) ?_]
    · simp -implicitDefEqProofs [q_wb_rising_places_2, a5]
      exact hn
    · simp -implicitDefEqProofs [q_wc_rising_places_1, a1, a2, a3, a4, a5]
theorem places_body {l : List Rat} {q : Rat} {s : Nat} (hR : Ris l) (hl : ∀ a ∈ l, Sz s a) (hq : Sz s q) (hs : s ≤ 4000) (hn : l.length ≤ 900000) (e0 e2 e4 : SL) (st : Sto) : ∃ e4', fb_rising_places_3 ⟨[e0, .own (l.map dF), e2, .val (dF q), e4], st⟩ = .nx ⟨[e0, .own ((ins q l).map dF), e2, .val (dF q), e4'], st⟩ := by
  obtain ⟨n, h⟩ := places_wh hR hl hq hs e0 e2 st (l.length - upto q l) l.length (by have := upto_le (q := q) hR; omega) (Nat.le_refl _)
  have hw := sWhile_eq h
  have hle := ahead_le q l
  refine ⟨.val (.int (upto q l)), ?_⟩
  by_cases m : q ∈ l
  · have hu : upto q l = ahead q l + 1 := by simp [upto, m]
    obtain ⟨c, e⟩ := mem_ahead' hR m
    have a1 := at_dF0 c
    rw [e] at a1
    have a5 : (ahead q l : Int) + 1 - 1 = (ahead q l : Int) := by omega
    have a6 : ¬ (ahead q l : Int) + 1 = 0 := by omega
    rw [hu] at hw ⊢
    simp -implicitDefEqProofs [q_fb_rising_places_3, hw, ins, m, a1, a5, a6]
  · have hu : upto q l = ahead q l := by simp [upto, m]
    rw [hu] at hw ⊢
    have i1 : (ahead q l : Int) < 9223372036854775808 := by omega
    have i2 : l.length < 1000000 := by omega
    cases hz : ahead q l with
    | zero =>
      rw [hz] at hw
      simp only [Int.ofNat_zero, Int.natCast_zero] at hw
      simp -implicitDefEqProofs [q_fb_rising_places_3, hw, ins, m, hz, mInsert, i2]
    | succ j =>
      have c : j < l.length := by omega
      have a1 := at_dF0 c
      have a5 : (j : Int) + 1 - 1 = (j : Int) := by omega
      have a6 : ¬ (j : Int) + 1 = 0 := by omega
      have ne : ¬ l[j] = q := fun e => m (e ▸ List.getElem_mem c)
      rw [hz] at hw i1
      have a7 : (0 : Int) ≤ (j : Int) + 1 := by omega
      have a8 : ((j : Int) + 1).toNat = j + 1 := by omega
      simp only [Int.natCast_add, Int.natCast_one, Int.cast_ofNat_Int] at hw i1
      simp -implicitDefEqProofs [q_fb_rising_places_3, hw, ins, m, hz, a1, a5, a6, ne, mInsert, i1, i2, a7, a8]
theorem cut_from {α : Type} (l : List α) {a : Int} (h : 0 ≤ a) : cutG l (some a) none = l.drop a.toNat := by
  have : ¬ a < 0 := by omega
  simp only [cutG, HT.sIx, this, if_false]
  by_cases c : a.toNat ≤ l.length
  · rw [Nat.min_eq_left c, List.take_of_length_le (by rw [List.length_drop]; omega)]
  · rw [Nat.min_eq_right (by omega), List.drop_of_length_le (Nat.le_refl _), List.drop_of_length_le (by omega)]
    simp
def SzL (s : Nat) (L : List (Rat × Rat)) : Prop := ∀ p ∈ L, Sz s p.1 ∧ Sz s p.2
theorem SzL.ends {s : Nat} {L : List (Rat × Rat)} (h : SzL s L) : ∀ a ∈ endsOf L, Sz s a := fun a m => by
  obtain ⟨p, hp, z⟩ := mem_ends.mp m
  rcases z with rfl | rfl
  · exact (h p hp).1
  · exact (h p hp).2
theorem SzL.of {s : Nat} {L M : List (Rat × Rat)} (h : SzL s L) (k : ∀ p ∈ M, p.1 ∈ endsOf L ∧ p.2 ∈ endsOf L) : SzL s M := fun p m => ⟨h.ends _ (k p m).1, h.ends _ (k p m).2⟩
theorem SzL.app {s : Nat} {L M : List (Rat × Rat)} (h : SzL s L) (k : SzL s M) : SzL s (L ++ M) := fun p m => (List.mem_append.mp m).elim (h p) (k p)
theorem places_all {s : Nat} (hs : s ≤ 4000) {e0 : SL} {st : Sto} {lp : (D → En → SR) → List D → En → SR} (hlp : Lp lp st) : ∀ (L : List (Rat × Rat)) (l : List Rat) (x2 x3 x4 : SL), Ris l → (∀ a ∈ l, Sz s a) → SzL s L → l.length + 2 * L.length ≤ 800000 →
    ∃ x2' x3' x4', lp (tgB (tgN 2) fb_rising_places_4) (L.map dPair) ⟨[e0, .own (l.map dF), x2, x3, x4], st⟩ = .nx ⟨[e0, .own ((insAll l (endsOf L)).map dF), x2', x3', x4'], st⟩
  | [], l, x2, x3, x4, _, _, _, _ => ⟨x2, x3, x4, by simp only [List.map_nil, hlp.nil]; rfl⟩
  | p :: L, l, x2, x3, x4, hR, hl, hL, hn => by
    simp at hn
    have hp := hL p (List.mem_cons_self ..)
    obtain ⟨y4, h1⟩ := places_body hR hl hp.1 hs (by omega) e0 (.val (dPair p)) x4 st
    have l1 := ins_len p.1 l
    have R1 := ris_ins (q := p.1) hR
    have z1 := ins_sz hl hp.1
    obtain ⟨z4, h2⟩ := places_body R1 z1 hp.2 hs (by omega) e0 (.val (dPair p)) y4 st
    have l2 := ins_len p.2 (ins p.1 l)
    obtain ⟨x2', x3', x4', h3⟩ := places_all hs (e0 := e0) (st := st) hlp L (ins p.2 (ins p.1 l)) (.val (dPair p)) (.val (dF p.2)) z4 (ris_ins R1) (ins_sz z1 hp.2) (fun q m => hL q (List.mem_cons_of_mem _ m)) (by omega)
    refine ⟨x2', x3', x4', ?_⟩
    have hd : itemsOf (dPair p) = some [dF p.1, dF p.2] := rfl
    have he : insAll l (endsOf (p :: L)) = insAll (ins p.2 (ins p.1 l)) (endsOf L) := rfl
    rw [he, ← h3]
    simp -implicitDefEqProofs [hlp.cons, e_forC, q_fb_rising_places_4, hd, h1, h2]
theorem rising_places_eq {s : Nat} (hs : s ≤ 4000) {L : List (Rat × Rat)} (hL : SzL s L) (hn : L.length ≤ 100000) (st : Sto) : F_rising_places [.lst (L.map dPair)] st = .val .N (.lst ((plc L).map dF)) st := by
  obtain ⟨x2, x3, x4, h⟩ := places_all hs (e0 := .val (.lst (L.map dPair))) (st := st) (lpD st) L [] .emp .emp .emp List.Pairwise.nil (by simp) hL (by simp; omega)
  simp only [List.map_nil] at h
  simp -implicitDefEqProofs [F_rising_places, g_rising_places, h, plc]
theorem covers_for {s : Nat} (hs : s ≤ 4000) {a b : Rat} (ha : Sz s a) (hb : Sz s b) {e0 : SL} {st : Sto} {lp : (D → En → SR) → List D → En → SR} (hlp : Lp lp st) : ∀ (L : List (Rat × Rat)) (x3 x4 : SL), SzL s L →
    lp (tgB (tgT 2 (tgsCons (tgN 3) (tgsCons (tgN 4) tgsNil))) fb_covers_1) (L.map dPair) ⟨[e0, .val (dF a), .val (dF b), x3, x4], st⟩ = (if cvr L a b = true then .rt .P (.bl true) st else .nx ⟨[e0, .val (dF a), .val (dF b), ((L.getLast?.map fun p => SL.val (dF p.1)).getD x3), ((L.getLast?.map fun p => SL.val (dF p.2)).getD x4)], st⟩)
  | [], x3, x4, _ => by simp [cvr, hlp.nil]
  | p :: L, x3, x4, hL => by
    have hp := hL p (List.mem_cons_self ..)
    have a1 := is_less_eq ha hp.1 (by omega) st
    have a2 := is_less_eq hp.2 hb (by omega) st
    have ih := covers_for hs ha hb (e0 := e0) (st := st) hlp L (.val (dF p.1)) (.val (dF p.2)) (fun q m => hL q (List.mem_cons_of_mem _ m))
    have hg : ∀ (f : Rat × Rat → SL) (x : SL), ((p :: L).getLast?.map f).getD x = (L.getLast?.map f).getD (f p) := fun f x => by
      cases L with
      | nil => rfl
      | cons q L => simp [List.getLast?_cons]
    rw [hg, hg]
    have hc : cvr (p :: L) a b = ((!decide (a < p.1) && !decide (p.2 < b)) || cvr L a b) := rfl
    by_cases c1 : a < p.1
    · simp -implicitDefEqProofs [hlp.cons, q_fb_covers_1, a1, c1, ih, hc]
    · by_cases c2 : p.2 < b
      · simp -implicitDefEqProofs [hlp.cons, q_fb_covers_1, a1, a2, c1, c2, ih, hc]
      · simp -implicitDefEqProofs [hlp.cons, q_fb_covers_1, a1, a2, c1, c2, hc]
theorem covers_eq {s : Nat} (hs : s ≤ 4000) {a b : Rat} (ha : Sz s a) (hb : Sz s b) {L : List (Rat × Rat)} (hL : SzL s L) (st : Sto) : F_covers [.lst (L.map dPair), dF a, dF b] st = .val .P (.bl (cvr L a b)) st := by
  have h := covers_for hs ha hb (e0 := .val (.lst (L.map dPair))) (st := st) (lpD st) L .emp .emp hL
  cases c : cvr L a b with
  | true => simp only [c, if_true] at h; simp -implicitDefEqProofs [F_covers, g_covers, h]
  | false => simp only [c, Bool.false_eq_true, if_false] at h; simp -implicitDefEqProofs [F_covers, g_covers, h]
theorem where_body {p : Rat → Rat → Bool} {h : List (Option D) → D → D → Sto → ER} {ds : List (Option D)} {st : Sto} {F : List (Rat × Rat)} {ab : Rat × Rat} (hh : h ds (dF ab.1) (dF ab.2) st = .val .P (.bl (p ab.1 ab.2)) st) (hn : F.length ≤ 900000) (e0 : SL) :
    fb_spans_where_1 h ⟨[e0, .clo ds, .own (F.map dPair), .val (dF ab.1), .val (dF ab.2)], st⟩ = .nx ⟨[e0, .clo ds, .own ((swStep p F ab).map dPair), .val (dF ab.1), .val (dF ab.2)], st⟩ := by
  have hl : F.length < 1000000 := by omega
  unfold swStep
  cases hp : p ab.1 ab.2 with
  | false =>
    rw [hp] at hh
    simp -implicitDefEqProofs [q_fb_spans_where_1, hh]
  | true =>
    rw [hp] at hh
    cases hg : F.getLast? with
    | none =>
      have : F = [] := List.getLast?_eq_none_iff.mp hg
      subst this
      simp -implicitDefEqProofs [q_fb_spans_where_1, hh, mAppend, dPair]
    | some l =>
      obtain ⟨D', rfl⟩ := List.getLast?_eq_some_iff.mp hg
      have ml : (D' ++ [l]).map dPair = D'.map dPair ++ [dPair l] := by simp
      have a1 : atI (D'.map dPair ++ [dPair l]) (-1) = some (dPair l) := at_last
      have a2 : ixN ((D'.map dPair ++ [dPair l]).length) (-1) = some D'.length := by
        have h1 : (1 : Int) ≤ (D'.length : Int) + 1 := by omega
        have h2 : (-1 + ((D'.length : Int) + 1)).toNat = D'.length := by omega
        simp [ixN, h1, h2]
      have a3 : ∀ x, (D'.map dPair ++ [dPair l]).set D'.length x = D'.map dPair ++ [x] := fun x => by
        rw [List.set_append_right _ _ (by simp)]; simp
      have b1 : ∀ st, oIx (dPair l) (.int 1) st = .val .P (dF l.2) st := fun st => by simp [dPair, atI, ixN]
      have b0 : ∀ st, oIx (dPair l) (.int 0) st = .val .P (dF l.1) st := fun st => by simp [dPair, atI, ixN]
      have pos : 0 < (D'.map dPair ++ [dPair l]).length := by simp
      have hl' : (D'.map dPair ++ [dPair l]).length < 1000000 := by simpa using hl
      have dl : (D' ++ [l]).dropLast = D' := List.dropLast_concat
      rw [ml]
      by_cases e : l.2 = ab.1
      · simp only [e, if_true, dl, List.map_append, List.map_cons, List.map_nil]
        rw [e] at b1
        generalize D'.map dPair ++ [dPair l] = X at *
        simp -implicitDefEqProofs [q_fb_spans_where_1, hh, pos, a1, a2, a3, b0, b1]
        rfl
      · simp only [e, if_true, if_false, dl, List.map_append, List.map_cons, List.map_nil]
        have ne : ¬ l.2 = ab.1 := e
        generalize D'.map dPair ++ [dPair l] = X at *
        simp -implicitDefEqProofs [q_fb_spans_where_1, hh, pos, a1, b1, ne, mAppend, hl']
        rfl
theorem swStep_len (p : Rat → Rat → Bool) (F : List (Rat × Rat)) (ab : Rat × Rat) : (swStep p F ab).length ≤ F.length + 1 := by
  unfold swStep
  split
  · split
    · split <;> simp
    · simp
  · omega
theorem where_for {p : Rat → Rat → Bool} {h : List (Option D) → D → D → Sto → ER} {ds : List (Option D)} {st : Sto} {e0 : SL} : ∀ (A : List (Rat × Rat)) (F : List (Rat × Rat)) (x3 x4 : SL), (∀ ab ∈ A, h ds (dF ab.1) (dF ab.2) st = .val .P (.bl (p ab.1 ab.2)) st) → F.length + A.length ≤ 900000 →
    ∃ x3' x4', forD (tgB (tgT 2 (tgsCons (tgN 3) (tgsCons (tgN 4) tgsNil))) (fb_spans_where_1 h)) (A.map dPair) ⟨[e0, .clo ds, .own (F.map dPair), x3, x4], st⟩ = .nx ⟨[e0, .clo ds, .own ((A.foldl (swStep p) F).map dPair), x3', x4'], st⟩
  | [], F, x3, x4, _, _ => ⟨x3, x4, rfl⟩
  | ab :: A, F, x3, x4, hh, hn => by
    simp at hn
    have h1 := where_body (p := p) (F := F) (hh ab (List.mem_cons_self ..)) (by omega) e0
    have l1 := swStep_len p F ab
    obtain ⟨x3', x4', h2⟩ := where_for (p := p) (e0 := e0) A (swStep p F ab) (.val (dF ab.1)) (.val (dF ab.2)) (fun q m => hh q (List.mem_cons_of_mem _ m)) (by omega)
    refine ⟨x3', x4', ?_⟩
    rw [List.foldl_cons, ← h2]
    simp -implicitDefEqProofs [e_forC, h1]
theorem zip_tail (P : List Rat) : zipD (P.map dF) (P.map dF).tail = (adj P).map dPair := by
  rw [← List.map_tail, zip_dF, adj]
theorem where_eq {p : Rat → Rat → Bool} {h : List (Option D) → D → D → Sto → ER} {ds : List (Option D)} {st : Sto} {P : List Rat} (hh : ∀ ab ∈ adj P, h ds (dF ab.1) (dF ab.2) st = .val .P (.bl (p ab.1 ab.2)) st) (hn : P.length ≤ 800000) :
    valOnly (g_spans_where h ⟨startL 5 (.lst (P.map dF)) ds, st⟩).ret = .val .N (.lst ((sw p P).map dPair)) st := by
  have hl : (adj P).length ≤ P.length := by simp [adj]
  obtain ⟨x3, x4, h1⟩ := where_for (p := p) (e0 := .val (.lst (P.map dF))) (adj P) [] .emp .emp hh (by simp; omega)
  have c1 := cut_from (P.map dF) (a := 1) (by decide)
  have c2 : (P.map dF).drop (1 : Int).toNat = (P.map dF).tail := by rw [← List.drop_one]; rfl
  rw [c2] at c1
  have z := zip_tail P
  simp only [List.map_nil] at h1
  simp -implicitDefEqProofs [startL, g_spans_where, c1, z, h1, sw, valOnly]
def TbOk (st : Sto) : Prop := ∀ (i : Nat) (x : Ob), tbls[i]? = some x → st[i]? = some x
theorem TbOk.app {st : Sto} (h : TbOk st) (o : Sto) : TbOk (st ++ o) := fun i x e => by
  have := h i x e
  rw [List.getElem?_append_left (List.getElem?_eq_some_iff.mp this).1]; exact this
def shr (L : List (Rat × Rat)) : Ob := .ins 5 [.lst (L.map dPair)]
def outS (p : Rat × Rat) : Bool := decide (p.1 < 0 ∨ 1 < p.2 ∨ p.2 < p.1)
theorem init_for {s : Nat} (hs : s ≤ 4000) {e0 e1 : SL} {st : Sto} {lp : (D → En → SR) → List D → En → SR} (hlp : Lp lp st) : ∀ (L : List (Rat × Rat)) (x2 x3 : SL), SzL (s + 1) L →
    ∃ x2' x3', lp (tgB (tgT 2 (tgsCons (tgN 2) (tgsCons (tgN 3) tgsNil))) fb_Share___init___1) (L.map dPair) ⟨[e0, e1, x2, x3], st⟩ = (if L.any outS = true then .exc 4 [] ⟨[e0, e1, x2', x3'], st⟩ else .nx ⟨[e0, e1, x2', x3'], st⟩)
  | [], x2, x3, _ => ⟨x2, x3, by simp only [List.map_nil, hlp.nil]; rfl⟩
  | p :: L, x2, x3, hL => by
    have hp := hL p (List.mem_cons_self ..)
    have ha := ask_span_eq hp.1 hp.2 hs st
    obtain ⟨x2', x3', ih⟩ := init_for hs (e0 := e0) (e1 := e1) (st := st) hlp L (.val (dF p.1)) (.val (dF p.2)) (fun q m => hL q (List.mem_cons_of_mem _ m))
    by_cases c : p.1 < 0 ∨ 1 < p.2 ∨ p.2 < p.1
    · rw [if_pos c] at ha
      have hc : outS p = true := by simp [outS, c]
      refine ⟨.val (dF p.1), .val (dF p.2), ?_⟩
      simp -implicitDefEqProofs [hlp.cons, q_fb_Share___init___1, ha, hc]
    · rw [if_neg c] at ha
      have hc : outS p = false := by simp only [outS, c, decide_false]
      refine ⟨x2', x3', ?_⟩
      rw [List.any_cons, hc, Bool.false_or, ← ih]
      simp -implicitDefEqProofs [hlp.cons, q_fb_Share___init___1, ha]
theorem ends_len (M : List (Rat × Rat)) : (endsOf M).length = 2 * M.length := by
  induction M with
  | nil => rfl
  | cons p L ih => simp only [endsOf, List.flatMap_cons, List.length_append, List.length_cons, List.length_nil] at *; omega
theorem plc_len {L : List (Rat × Rat)} (hn : L.length ≤ 100000) : (plc L).length ≤ 800000 := by
  have h2 := insAll_len (endsOf L) []
  have h3 := ends_len L
  simp only [plc, List.length_nil] at *
  omega
theorem share_init {s : Nat} (hs : s ≤ 3900) {L : List (Rat × Rat)} (hL : SzL s L) (hn : L.length ≤ 100000) {st : Sto} (T : TbOk st) :
    F_Share___init__ [.ptr st.length, .lst (L.map dPair)] (st ++ [.ins 5 []]) = if L.any outS = true then .exc 4 [] (st ++ [.ins 5 []]) else .val .P .non (st ++ [shr (norm L)]) := by
  have hL1 : SzL (s + 1) L := fun p m => ⟨(hL p m).1.up (by omega), (hL p m).2.up (by omega)⟩
  obtain ⟨x2, x3, h1⟩ := init_for (s := s) (by omega) (e0 := .val (.ptr st.length)) (e1 := .val (.lst (L.map dPair))) (st := st ++ [.ins 5 []]) (lpD _) L .emp .emp hL1
  by_cases c : L.any outS = true
  · rw [if_pos c] at h1 ⊢
    simp -implicitDefEqProofs [F_Share___init__, g_Share___init__, h1]
  · rw [if_neg c] at h1 ⊢
    have hr := rising_places_eq (s := s) (by omega) hL hn (st ++ [.ins 5 []])
    have hT := (T.app [.ins 5 []]) np_Share___init__ _ rfl
    have pl := plc_len hn
    have hw := where_eq (p := cvr L) (h := fun ds x y st => lb_Share___init___2 ⟨cloE ds 2 3 x y, st⟩) (ds := cloOf [.val (.ptr st.length), .val (.lst (L.map dPair)), x2, x3]) (st := st ++ [.ins 5 []]) (P := plc L) (fun ab m => by
      obtain ⟨m1, m2, _⟩ := adj_in (plc_ris L) ab m
      have z1 := hL.ends _ (plc_mem.mp m1)
      have z2 := hL.ends _ (plc_mem.mp m2)
      have hc := covers_eq (s := s) (by omega) z1 z2 hL (st ++ [.ins 5 []])
      simp -implicitDefEqProofs [cloE, cloOf, q_lb_Share___init___2, hc, slO]) pl
    have hst : (st ++ [.ins 5 []])[st.length]? = some (Ob.ins 5 []) := by
      rw [List.getElem?_append_right (Nat.le_refl _)]; simp
    have hset : ∀ x : Ob, (st ++ [Ob.ins 5 []]).set st.length x = st ++ [x] := fun x => by
      rw [List.set_append_right _ _ (Nat.le_refl _)]; simp
    have hw : _ = ER.val .N (.lst ((norm L).map dPair)) (st ++ [.ins 5 []]) := hw
    generalize st ++ [Ob.ins 5 []] = s1 at *
    simp -implicitDefEqProofs [F_Share___init__, g_Share___init__, h1, hr, hT, hw, hst, hset, shr, -e_cloOf0, -e_cloOfC, -e_cloE, -e_startL]
theorem ftext_eq {q : Rat} {k : Nat} (h : 0 ≤ q) (hs : Sz (3 * (k + 1)) q) (hk : k ≤ 600) (st : Sto) : F_fraction_text [dF q] st = .val .P (.str (ftxt q)) st := by
  have l1 : q.num.natAbs.log2 < 1920 := bit_log hs.1 (by omega)
  have l2 : q.den.log2 < 1920 := by have := bit_log hs.den (show 3 * (k + 1) < 1920 by omega); simpa using this
  have hn : 0 ≤ q.num := Rat.num_nonneg.mpr h
  have e : q.num.toNat = q.num.natAbs := by omega
  have n1 := TL.numL_len2' (n := q.num.toNat) (k := k) (by rw [e]; exact hs.1)
  have n2 := TL.numL_len2' (n := q.den) (k := k) hs.2
  by_cases c : q.den = 1
  · have c' : (q.den : Int) = 1 := by omega
    simp -implicitDefEqProofs [F_fraction_text, g_fraction_text, c, l1, ftxt]
  · have c' : ¬ (q.den : Int) = 1 := by omega
    have a1 : (itxt q.num).length ≤ 1000000 := by rw [TL.len_tl, itxt_pos hn]; omega
    have a2 : (itxt q.num ++ Str.ofString "/").length ≤ 1000000 := by
      rw [TL.len_tl, TL.tl_append, itxt_pos hn, tl_slash]; simp; omega
    have a3 : (itxt q.num ++ Str.ofString "/" ++ itxt (q.den : Int)).length ≤ 1000000 := by
      rw [TL.len_tl, TL.tl_append, TL.tl_append, itxt_pos hn, tl_slash, itxt_nat]; simp; omega
    simp -implicitDefEqProofs [F_fraction_text, g_fraction_text, c, c', l1, l2, empty_app, a1, a2, a3, ftxt]
theorem str_eq {n : Nat} {st : Sto} {L : List (Rat × Rat)} {k : Nat} (h : st[n]? = some (shr L)) (hp : Pos2 L) (hs : SzL (3 * (k + 1)) L) (hk : k ≤ 199) (hn : L.length ≤ 1200) : F_Share___str__ [.ptr n] st = .val .P (.str (shTxt L)) st := by
  unfold shr at h
  by_cases c : L = []
  · subst c
    simp -implicitDefEqProofs [F_Share___str__, g_Share___str__, h, shTxt]
  · have c' : ¬ L.length = 0 := fun z => c (List.length_eq_zero_iff.mp z)
    have c2 : ¬ (L.length : Int) = 0 := by omega
    have hl : L.length ≤ 1000000 := by omega
    have hk : lcGo (lcStep (tgT 2 (tgsCons (tgN 1) (tgsCons (tgN 2) tgsNil))) (fun E => .val .P (.bl true) E.st) ce_Share___str___1 [.val (.ptr n), .emp, .emp]) (L.map dPair) st = some (L.map (fun p => D.str (spTxt p)), st) :=
      lc_map fun p m => by
        have z := hs p m
        have w := hp p m
        have f1 := ftext_eq w.1 z.1 (by omega) st
        have f2 := ftext_eq w.2 z.2 (by omega) st
        have g1 := ftxt_len w.1 z.1
        have g2 := ftxt_len w.2 z.2
        have g3 := spTxt_len w z.1 z.2
        have d1 : (Str.ofString "-").length = 1 := rfl
        have a1 : (ftxt p.1).length + (Str.ofString "-").length ≤ 1000000 := by rw [d1]; omega
        have a2 : (ftxt p.1 ++ Str.ofString "-").length + (ftxt p.2).length ≤ 1000000 := by
          have : (ftxt p.1 ++ Str.ofString "-").length = (ftxt p.1).length + 1 := by rw [TL.len_tl, TL.tl_append, List.length_append, ← TL.len_tl]; rfl
          omega
        simp -implicitDefEqProofs [q_ce_Share___str___1, f1, f2, a1, a2, spTxt]
    have sm : ((L.map spTxt).map (·.length)).sum + (L.map spTxt).length * (Str.ofString " ").length ≤ 1000000 := by
      have d1 : (Str.ofString " ").length = 1 := rfl
      have : ∀ M : List (Rat × Rat), (∀ p ∈ M, p ∈ L) → ((M.map spTxt).map (·.length)).sum ≤ M.length * 810 := by
        intro M
        induction M with
        | nil => intro _; simp
        | cons p M ih =>
          intro hm
          have z := hs p (hm p (List.mem_cons_self ..))
          have g3 := spTxt_len (hp p (hm p (List.mem_cons_self ..))) z.1 z.2
          have := ih fun q m => hm q (List.mem_cons_of_mem _ m)
          simp only [List.map_cons, List.sum_cons, List.length_cons]
          omega
      have := this L fun p m => m
      rw [d1, List.length_map]
      omega
    have sm' : ((L.map fun p => spTxt p).map (·.length)).sum + (L.map fun p => spTxt p).length * (Str.ofString " ").length ≤ 1000000 := sm
    have j : seqStrs (.lst (L.map fun p => D.str (spTxt p))) st = some (L.map spTxt) := by simp
    generalize hX : (L.map fun p => D.str (spTxt p)) = X at *
    generalize hY : L.map spTxt = Y at *
    simp -implicitDefEqProofs [F_Share___str__, g_Share___str__, h, c, c2, hl, hk, j, sm, shTxt, hY, -e_seqL]
theorem keep_go (e : DE) (c f : En → ER) (v : Nat) (pr : Int → Bool) (hc : ∀ x st, c ⟨e.set v (.val (.int x)), st⟩ = .val .P (.bl (pr x)) st) (hf : ∀ x st, f ⟨e.set v (.val (.int x)), st⟩ = .val .P (.int x) st) :
    ∀ (ns : List Int) (st : Sto), lcGo (lcStep (tgN v) c f e) (ns.map .int) st = some ((ns.filter pr).map .int, st)
  | [], st => rfl
  | x :: ns, st => by
    rw [List.map_cons, e_lcC]
    have ih := keep_go e c f v pr hc hf ns st
    cases h : pr x with
    | true => simp [hc, hf, h, ih, List.filter_cons]
    | false => simp [hc, hf, h, ih, List.filter_cons]
theorem box_okG (ns : List Int) (hl : ns.length ≤ 63) (s0 : Sto) : ∃ st, F_law_box [.scr ns] s0 = .val .P (.ptr (s0.length + 1)) st ∧ Box (s0.length + 1) s0.length 0 st ∧ st.length = s0.length + 2 ∧ ∀ m, m < s0.length → st[m]? = s0[m]? := by
  have k1 := keep_go [SL.val (.scr ns), .emp, .emp] ct_law_box_2 ce_law_box_1 2 (fun x => decide (x ≥ 1000000000000000000)) (fun x st => by simp [q_ct_law_box_2]) (fun x st => by simp [q_ce_law_box_1]) ns s0
  generalize hg : ns.filter (fun x => decide (x ≥ 1000000000000000000)) = g at k1
  have k2 := keep_go [SL.val (.scr ns), .val (.ptr s0.length), .emp] ct_law_box_4 ce_law_box_3 2 (fun x => decide (x < 1000000000000000000)) (fun x st => by simp [q_ct_law_box_4]) (fun x st => by simp [q_ce_law_box_3]) ns (s0 ++ [.lst (g.map .int)])
  generalize hs : ns.filter (fun x => decide (x < 1000000000000000000)) = sm at k2
  have gl : g.length ≤ 63 := by rw [← hg]; exact Nat.le_trans (List.length_filter_le ..) hl
  have sl : sm.length ≤ 63 := by rw [← hs]; exact Nat.le_trans (List.length_filter_le ..) hl
  have gp : ∀ x ∈ g, 0 < x := fun x hx => by
    rw [← hg] at hx
    have := (List.mem_filter.mp hx).2
    have : x ≥ 1000000000000000000 := by simpa using this
    omega
  have hl' : ns.length ≤ 1000000 := by omega
  refine ⟨s0 ++ [.lst (g.map .int), .lst [.ptr s0.length, .int 0, .lst (sm.map .int), .int 0]], ?_, ⟨by omega, g, sm, 0, 0, ?_, ?_, by decide, by decide, by decide, gp, gl, sl⟩, by simp, fun m hm => List.getElem?_append_left hm⟩
  · simp -implicitDefEqProofs [F_law_box, g_law_box, hl', k1, k2]
  · rw [List.getElem?_append_right (Nat.le_refl _)]; simp
  · rw [List.getElem?_append_right (by omega)]; simp
def qf (g : Int) (a : Int) : Rat := Rat.divInt a g
theorem qf_lt {g : Int} (hg : 0 < g) (a b : Int) : a < b ↔ qf g a < qf g b := by
  unfold qf
  rw [q_ltP hg hg]
  constructor
  · intro h; exact Int.mul_lt_mul_of_pos_right h hg
  · intro h; exact Int.lt_of_mul_lt_mul_right h (Int.le_of_lt hg)
theorem qf_sz {g a : Int} {n : Nat} (hg : 1 ≤ g) (h2 : g.natAbs < 2 ^ n) (ha : a.natAbs < 2 ^ n) : Sz n (qf g a) := Sz.mk ha h2 (by omega)
theorem told_eq {g : Int} {ps : List (Int × Int)} (hg : 1 ≤ g) (hg2 : g < 2 ^ 200) (hl : ps.length ≤ 1000000) (st : Sto) : F_law_told [.lst (ps.map dRow), .int g] st = .val .N (.lst ((ps.map (f2 (qf g))).map dPair)) st := by
  have hlow := fun t st => law_low_eq (t := t) (b := g) (by omega) (bit_log (m := 200) (by omega) (by decide)) st
  have hk : lcGo (lcStep (tgT 2 (tgsCons (tgN 2) (tgsCons (tgN 3) tgsNil))) (fun E => .val .P (.bl true) E.st) ce_law_told_1 [.val (.lst (ps.map dRow)), .val (.int g), .emp, .emp]) (ps.map dRow) st = some (ps.map (fun r => dPair (f2 (qf g) r)), st) :=
    lc_map fun r _ => by simp -implicitDefEqProofs [q_ce_law_told_1, hlow, dPair, f2, qf]
  have hk' : ps.map (fun r => dPair (f2 (qf g) r)) = (ps.map (f2 (qf g))).map dPair := by simp
  rw [hk'] at hk
  simp -implicitDefEqProofs only [F_law_told, g_law_told, e_fnD, e_startE, e_sRet, e_dLc, e_dIter, e_dVar, List.map_cons, List.map_nil, List.length_cons, List.length_nil, if_true, List.cons_append, List.nil_append, List.replicate, List.getElem?_cons_succ, List.getElem?_cons_zero, e_itL, List.length_map, hl, e_wipeC, e_wipe0, List.set_cons_succ, List.set_cons_zero, Nat.reduceAdd, Nat.reduceSub, hk, ofOpt_some]
  rfl
theorem joined_body {st : Sto} {F : List (Int × Int)} {r : Int × Int} (hn : F.length ≤ 900000) (e0 e4 : SL) :
    fb_law_joined_3 ⟨[e0, .own (F.map dRow), .val (.int r.1), .val (.int r.2), e4], st⟩ = .nx ⟨[e0, .own ((jStep F r).map dRow), .val (.int r.1), .val (.int r.2), e4], st⟩ := by
  have hl : F.length < 1000000 := by omega
  unfold jStep
  cases hg : F.getLast? with
  | none =>
    have : F = [] := List.getLast?_eq_none_iff.mp hg
    subst this
    simp -implicitDefEqProofs [q_fb_law_joined_3, mAppend, dRow]
  | some l =>
    obtain ⟨D', rfl⟩ := List.getLast?_eq_some_iff.mp hg
    have ml : (D' ++ [l]).map dRow = D'.map dRow ++ [dRow l] := by simp
    have a1 : atI (D'.map dRow ++ [dRow l]) (-1) = some (dRow l) := at_last
    have a2 : ixN ((D'.map dRow ++ [dRow l]).length) (-1) = some D'.length := by
      have h1 : (1 : Int) ≤ (D'.length : Int) + 1 := by omega
      have h2 : (-1 + ((D'.length : Int) + 1)).toNat = D'.length := by omega
      simp [ixN, h1, h2]
    have a3 : ∀ x, (D'.map dRow ++ [dRow l]).set D'.length x = D'.map dRow ++ [x] := fun x => by
      rw [List.set_append_right _ _ (by simp)]; simp
    have pos : 0 < (D'.map dRow ++ [dRow l]).length := by simp
    have hl' : (D'.map dRow ++ [dRow l]).length < 1000000 := by simpa using hl
    have dl : (D' ++ [l]).dropLast = D' := List.dropLast_concat
    have mx : (if l.2 > r.2 then l.2 else r.2) = max r.2 l.2 := by
      rw [Int.max_def]; split <;> split <;> omega
    rw [ml]
    by_cases e : r.1 ≤ l.2
    · simp only [e, if_true, dl, List.map_append, List.map_cons, List.map_nil]
      generalize D'.map dRow ++ [dRow l] = X at *
      simp -implicitDefEqProofs [q_fb_law_joined_3, pos, a1, a2, a3, e]
      simp only [gt_iff_lt] at mx
      rw [mx]
      rfl
    · simp only [e, if_false, dl, List.map_append, List.map_cons, List.map_nil]
      generalize D'.map dRow ++ [dRow l] = X at *
      simp -implicitDefEqProofs [q_fb_law_joined_3, pos, a1, e, mAppend, hl']
      rfl
theorem jStep_len (F : List (Int × Int)) (s : Int × Int) : (jStep F s).length ≤ F.length + 1 := by
  unfold jStep
  split
  · split <;> simp
  · simp
theorem joined_for {st : Sto} {e0 e4 : SL} : ∀ (S F : List (Int × Int)) (x2 x3 : SL), F.length + S.length ≤ 900000 →
    ∃ x2' x3', forD (tgB (tgT 2 (tgsCons (tgN 2) (tgsCons (tgN 3) tgsNil))) fb_law_joined_3) (S.map dRow) ⟨[e0, .own (F.map dRow), x2, x3, e4], st⟩ = .nx ⟨[e0, .own ((S.foldl jStep F).map dRow), x2', x3', e4], st⟩
  | [], F, x2, x3, _ => ⟨x2, x3, rfl⟩
  | s :: S, F, x2, x3, hn => by
    simp at hn
    have h1 := joined_body (st := st) (F := F) (r := s) (by omega) e0 e4
    have l1 := jStep_len F s
    obtain ⟨x2', x3', h2⟩ := joined_for (st := st) (e0 := e0) (e4 := e4) S (jStep F s) (.val (.int s.1)) (.val (.int s.2)) (by omega)
    refine ⟨x2', x3', ?_⟩
    rw [List.foldl_cons, ← h2]
    simp -implicitDefEqProofs [e_forC, h1]
def full (ps : List (Int × Int)) : List (Int × Int) := ps.filter fun s => decide (s.1 < s.2)
def jnd (ps : List (Int × Int)) : List (Int × Int) := jn (srtP (full ps))
theorem ints_row : ∀ l : List (Int × Int), l ≠ [] → intsOf (l.map dRow) = none
  | [], h => absurd rfl h
  | a :: l, _ => rfl
theorem joined_eq {ps : List (Int × Int)} (hn : ps.length ≤ 1000) (st : Sto) : F_law_joined [.lst (ps.map dRow)] st = .val .N (.lst ((jnd ps).map dRow)) st := by
  have hl : ps.length ≤ 1000000 := by omega
  have hk : lcGo (lcStep (tgN 4) ct_law_joined_2 ce_law_joined_1 [.val (.lst (ps.map dRow)), .own [], .emp, .emp, .emp]) (ps.map dRow) st = some ((full ps).map dRow, st) :=
    lc_filter (p := fun s : Int × Int => decide (s.1 < s.2)) fun r _ => by
      by_cases c : r.1 < r.2 <;> simp -implicitDefEqProofs [q_ct_law_joined_2, q_ce_law_joined_1, c]
  have fl : (full ps).length ≤ ps.length := List.length_filter_le ..
  have sl : (srtP (full ps)).length = (full ps).length := (srtP_perm _).length_eq
  obtain ⟨x2, x3, h1⟩ := joined_for (st := st) (e0 := .val (.lst (ps.map dRow))) (e4 := .emp) (srtP (full ps)) [] .emp .emp (by simp; omega)
  simp only [List.map_nil] at h1
  have hs : oSortedX [.lst ((full ps).map dRow)] st = .val .N (.lst ((srtP (full ps)).map dRow)) st := by
    rw [e_oSortedX]
    cases hf : full ps with
    | nil =>
      have : srtP [] = [] := by simp [srtP]
      rw [this]
      simp [intsOf, srt]
    | cons a l =>
      rw [ints_row (a :: l) (by simp)]
      show ofOpt (rowsOf ((a :: l).map fun r => .tup [.int r.1, .int r.2])) _ = _
      rw [e_rowsOf]
      simp only [ofOpt_some]
      have : (a :: l).map (fun r : Int × Int => (r.1, r.2)) = a :: l := by simp
      rw [this]
      rfl
  simp -implicitDefEqProofs [F_law_joined, g_law_joined, hl, hk, hs, h1, -e_oSortedX]
  rfl
theorem jnd_ok (ps : List (Int × Int)) : (srtP (full ps)).Pairwise (fun s t => s.1 ≤ t.1) ∧ ∀ s ∈ srtP (full ps), s.1 < s.2 := by
  refine ⟨(srtP_pw _).imp fun {a b} h => by rw [lexLe_iff] at h; omega, fun s m => ?_⟩
  have := (srtP_perm _).mem_iff.mp m
  simpa using (List.mem_filter.mp this).2
theorem jnd_len (ps : List (Int × Int)) : (jnd ps).length ≤ ps.length := by
  have fl : (full ps).length ≤ ps.length := List.length_filter_le ..
  have sl : (srtP (full ps)).length = (full ps).length := (srtP_perm _).length_eq
  have : ∀ (S F : List (Int × Int)), (S.foldl jStep F).length ≤ F.length + S.length := by
    intro S
    induction S with
    | nil => intro F; simp
    | cons s S ih => intro F; have := ih (jStep F s); have := jStep_len F s; simp only [List.foldl_cons, List.length_cons]; omega
  have := this (srtP (full ps)) []
  simp only [jnd, jn, List.length_nil] at *
  omega
def PairOk (g : Int) (r : Int × Int) : Prop := 0 ≤ r.1 ∧ r.1 ≤ r.2 ∧ r.2 ≤ g
theorem pairs_body {p q N : Nat} {st : Sto} {g : Int} {ps : List (Int × Int)} {x3 x4 x5 x6 : SL} (B : Box p q N st) (hN : N ≤ 90000) (hg : 1 ≤ g) (hg2 : g < 2 ^ 200) (hl : ps.length < 1000) (hp : ∀ r ∈ ps, PairOk g r) :
    ∃ r x4' x5' x6' st', fb_law_pairs_1 ⟨[.val (.ptr p), .val (.int g), .own (ps.map dRow), x3, x4, x5, x6], st⟩ = .nx ⟨[.val (.ptr p), .val (.int g), .own ((ps ++ [r]).map dRow), x3, x4', x5', x6'], st'⟩ ∧ PairOk g r ∧ Box p q (N + 6) st' ∧ Rest p q st st' := by
  obtain ⟨w, st1, t1, w0, w1, B1, R1⟩ := take_ok B (n := 4) (by decide) (by decide) (by omega)
  obtain ⟨lo, st2, t2, lo0, lo1, B2, R2⟩ := take_ok B1 (n := g + 1) (by omega) (by omega) (by omega)
  obtain ⟨hi, st3, t3, hi0, hi1, B3, R3⟩ := take_ok B2 (n := g + 1 - lo) (by omega) (by omega) (by omega)
  have R13 := (R1.trans R2).trans R3
  have hl' : ps.length < 1000000 := by omega
  have fin : ∀ (x4 : SL) (lo hi : Int) (s : Sto) (M : Nat), Box p q M s → M ≤ 95000 → 0 ≤ lo → lo ≤ hi → hi ≤ g → ∃ r x5' x6' s', (sSeq (sIf (dOp oEq (dVar 4) (dC (.int 1))) (sSetF 6 (dCB oMin2 (aCons (dVar 1) (aCons (dOp oAdd (dVar 5) (dCall F_law_take (aCons (dVar 0) (aCons (dC (.int 3)) aNil)))) aNil)))) sSkip)
      (sMt mAppend 2 (aCons (dTup (aCons (dVar 5) (aCons (dVar 6) aNil))) aNil))) ⟨[.val (.ptr p), .val (.int g), .own (ps.map dRow), x3, .val (.int w), .val (.int lo), .val (.int hi)], s⟩ = .nx ⟨[.val (.ptr p), .val (.int g), .own ((ps ++ [r]).map dRow), x3, .val (.int w), x5', x6'], s'⟩ ∧ PairOk g r ∧ Box p q (M + 1) s' ∧ Rest p q s s' := by
    intro _ lo hi s M Bs hM h0 h1 h2
    by_cases cw : w = 1
    · obtain ⟨z, s1, tz, z0, z1, Bz, Rz⟩ := take_ok Bs (n := 3) (by decide) (by decide) (by omega)
      refine ⟨(lo, if lo + z < g then lo + z else g), .val (.int lo), .val (.int (if lo + z < g then lo + z else g)), s1, ?_, ⟨h0, by show lo ≤ _; split <;> omega, by show _ ≤ g; split <;> omega⟩, Bz, Rz⟩
      simp -implicitDefEqProofs [cw, tz, hl', mAppend, dRow]
    · refine ⟨(lo, hi), .val (.int lo), .val (.int hi), s, ?_, ⟨h0, h1, h2⟩, Bs.up (by omega), Rest.refl⟩
      simp -implicitDefEqProofs [cw, hl', mAppend, dRow]
  have start : ∀ r, fb_law_pairs_1 ⟨[.val (.ptr p), .val (.int g), .own (ps.map dRow), x3, x4, x5, x6], st⟩ = r ↔ (sSeq (sIf (dAnd (dOp oEq (dVar 4) (dC (.int 0))) (dOp oGt (dCB oLen (aCons (dVar 2) aNil)) (dC (.int 0)))) (sSeq (sSetF 5 (dOp oIx (dOp oIx (dVar 2) (dCall F_law_take (aCons (dVar 0) (aCons (dCB oLen (aCons (dVar 2) aNil)) aNil)))) (dC (.int 1))))
      (sSetF 6 (dCB oMax2 (aCons (dVar 5) (aCons (dVar 6) aNil))))) sSkip)
      (sSeq (sIf (dOp oEq (dVar 4) (dC (.int 1))) (sSetF 6 (dCB oMin2 (aCons (dVar 1) (aCons (dOp oAdd (dVar 5) (dCall F_law_take (aCons (dVar 0) (aCons (dC (.int 3)) aNil)))) aNil)))) sSkip)
      (sMt mAppend 2 (aCons (dTup (aCons (dVar 5) (aCons (dVar 6) aNil))) aNil)))) ⟨[.val (.ptr p), .val (.int g), .own (ps.map dRow), x3, .val (.int w), .val (.int lo), .val (.int (lo + hi))], st3⟩ = r := fun r => by
    rw [q_fb_law_pairs_1]
    simp -implicitDefEqProofs only [e_sSeq, e_sSetF, e_dCall, e_aCons, e_aNil, e_dVar, e_dC, List.getElem?_cons_succ, List.getElem?_cons_zero, cons_P, acons_ok, Bool.and_self, t1, SR.bind_nx, List.set_cons_succ, List.set_cons_zero, e_dOp, ER.bind_val, e_oAdd_1, e_oSub_1, t2, t3]
  by_cases c : w = 0 ∧ 0 < ps.length
  · obtain ⟨c1, c2⟩ := c
    obtain ⟨j, st4, t4, j0, j1, B4, R4⟩ := take_ok B3 (n := (ps.length : Int)) (by omega) (by omega) (by omega)
    have hj : j.toNat < ps.length := by omega
    have hat : atI (ps.map dRow) j = some (dRow ps[j.toNat]) := by
      have := atI_nat (xs := ps.map dRow) (j := j.toNat) (v := dRow ps[j.toNat]) (by simp [hj])
      rwa [Int.toNat_of_nonneg j0] at this
    have ok := hp _ (List.getElem_mem hj)
    obtain ⟨o1, o2, o3⟩ := ok
    obtain ⟨r, x5', x6', s', hf, ho, hB, hR⟩ := fin x4 ps[j.toNat].2 (if lo + hi > ps[j.toNat].2 then lo + hi else ps[j.toNat].2) st4 (N + 4) B4 (by omega) (by omega) (by split <;> omega) (by split <;> omega)
    refine ⟨r, .val (.int w), x5', x6', s', ?_, ho, hB.up (by omega), (R13.trans R4).trans hR⟩
    rw [start, e_sSeq]
    have c2' : (0 : Int) < (ps.length : Int) := by omega
    have : (sIf (dAnd (dOp oEq (dVar 4) (dC (.int 0))) (dOp oGt (dCB oLen (aCons (dVar 2) aNil)) (dC (.int 0)))) (sSeq (sSetF 5 (dOp oIx (dOp oIx (dVar 2) (dCall F_law_take (aCons (dVar 0) (aCons (dCB oLen (aCons (dVar 2) aNil)) aNil)))) (dC (.int 1))))
      (sSetF 6 (dCB oMax2 (aCons (dVar 5) (aCons (dVar 6) aNil))))) sSkip) ⟨[.val (.ptr p), .val (.int g), .own (ps.map dRow), x3, .val (.int w), .val (.int lo), .val (.int (lo + hi))], st3⟩ = .nx ⟨[.val (.ptr p), .val (.int g), .own (ps.map dRow), x3, .val (.int w), .val (.int ps[j.toNat].2), .val (.int (if lo + hi > ps[j.toNat].2 then lo + hi else ps[j.toNat].2))], st4⟩ := by
      simp -implicitDefEqProofs [c1, c2, t4, hat]
    rw [this, SR.bind_nx]
    exact hf
  · obtain ⟨r, x5', x6', s', hf, ho, hB, hR⟩ := fin x4 lo (lo + hi) st3 (N + 3) B3 (by omega) (by omega) (by omega) (by omega)
    refine ⟨r, .val (.int w), x5', x6', s', ?_, ho, hB.up (by omega), R13.trans hR⟩
    rw [start, e_sSeq]
    have : (sIf (dAnd (dOp oEq (dVar 4) (dC (.int 0))) (dOp oGt (dCB oLen (aCons (dVar 2) aNil)) (dC (.int 0)))) (sSeq (sSetF 5 (dOp oIx (dOp oIx (dVar 2) (dCall F_law_take (aCons (dVar 0) (aCons (dCB oLen (aCons (dVar 2) aNil)) aNil)))) (dC (.int 1))))
      (sSetF 6 (dCB oMax2 (aCons (dVar 5) (aCons (dVar 6) aNil))))) sSkip) ⟨[.val (.ptr p), .val (.int g), .own (ps.map dRow), x3, .val (.int w), .val (.int lo), .val (.int (lo + hi))], st3⟩ = .nx ⟨[.val (.ptr p), .val (.int g), .own (ps.map dRow), x3, .val (.int w), .val (.int lo), .val (.int (lo + hi))], st3⟩ := by
      by_cases c1 : w = 0
      · have c2 : ps = [] := by
          cases ps with
          | nil => rfl
          | cons a l => exact absurd ⟨c1, by simp⟩ c
        subst c2
        simp -implicitDefEqProofs [c1]
      · simp -implicitDefEqProofs [c1]
    rw [this, SR.bind_nx]
    exact hf
theorem pairs_ok {p q N : Nat} {st : Sto} {g : Int} (B : Box p q N st) (hN : N ≤ 80000) (hg : 1 ≤ g) (hg2 : g < 2 ^ 200) :
    ∃ (ps : List (Int × Int)) (st' : Sto), F_law_pairs [.ptr p, .int g] st = .val .N (.lst (ps.map dRow)) st' ∧ (∀ r ∈ ps, PairOk g r) ∧ ps.length ≤ 8 ∧ Box p q (N + 60) st' ∧ Rest p q st st' := by
  obtain ⟨n, st1, t1, n0, n1, B1, R1⟩ := take_ok B (n := 9) (by decide) (by decide) (by omega)
  let I : Nat → En → Prop := fun k E => ∃ (ps : List (Int × Int)) (st' : Sto) (x3 x4 x5 x6 : SL), E = ⟨[.val (.ptr p), .val (.int g), .own (ps.map dRow), x3, x4, x5, x6], st'⟩ ∧ ps.length = k ∧ (∀ r ∈ ps, PairOk g r) ∧ Box p q (N + 1 + 6 * k) st' ∧ Rest p q st st'
  have hlen : (rangeD 0 n.toNat).length = n.toNat := by simp [rangeD]
  obtain ⟨E', hf, hI⟩ := for_inv (b := tgB (tgN 3) fb_law_pairs_1) I (rangeD 0 n.toNat) 0 ⟨[.val (.ptr p), .val (.int g), .own [], .emp, .emp, .emp, .emp], st1⟩ (by
    rintro i x E hx ⟨ps, st', x3, x4, x5, x6, rfl, hlr, hr, B', R'⟩
    obtain ⟨hi, rfl⟩ := rangeD_get hx
    obtain ⟨r, y4, y5, y6, st2, hb, ho, B2, R2⟩ := pairs_body (x3 := .val (.int (0 + (i : Int)))) (x4 := x4) (x5 := x5) (x6 := x6) B' (by omega) hg hg2 (ps := ps) (by omega) hr
    have hb' : tgB (tgN 3) fb_law_pairs_1 (.int (0 + (i : Int))) ⟨[.val (.ptr p), .val (.int g), .own (ps.map dRow), x3, x4, x5, x6], st'⟩ = _ := hb
    refine ⟨_, .inl hb', ps ++ [r], st2, _, _, _, _, rfl, by simp; omega, fun a ha => ?_, B2.up (by omega), R'.trans R2⟩
    rcases List.mem_append.mp ha with z | z
    · exact hr a z
    · simp at z; subst z; exact ho) ⟨[], st1, .emp, .emp, .emp, .emp, rfl, rfl, fun r h => by simp at h, B1, R1⟩
  obtain ⟨ps, st2, x3, x4, x5, x6, rfl, hlr, hr, B2, R2⟩ := hI
  rw [Nat.zero_add, hlen] at hlr B2
  have c62 : -4611686018427387904 ≤ n ∧ n < 4611686018427387904 := by omega
  refine ⟨ps, st2, ?_, hr, by omega, B2.up (by omega), R2⟩
  simp -implicitDefEqProofs [F_law_pairs, g_law_pairs, t1, c62, hf]
theorem spans_eq {n : Nat} {st : Sto} {L : List (Rat × Rat)} (h : st[n]? = some (shr L)) : F_Share_spans [.ptr n] st = .val .N (.lst (L.map dPair)) st := by
  unfold shr at h
  simp -implicitDefEqProofs [F_Share_spans, g_Share_spans, h]
theorem app_new {st : Sto} {y : Ob} : (st ++ [y])[st.length]? = some y := by
  rw [List.getElem?_append_right (Nat.le_refl _)]; simp
theorem TbOk.rest {p q : Nat} {st st' : Sto} (h : TbOk st) (r : Rest p q st st') (hp : tbls.length ≤ p) (hq : tbls.length ≤ q) : TbOk st' := fun i x e => by
  have hi := (List.getElem?_eq_some_iff.mp e).1
  rw [r.2 i (by omega) (by omega)]
  exact h i x e
theorem told_pos {g : Int} (hg : 0 < g) {ps : List (Int × Int)} (hp : ∀ r ∈ ps, PairOk g r) : Pos2 (ps.map (f2 (qf g))) := fun p m => by
  obtain ⟨r, hr, rfl⟩ := List.mem_map.mp m
  obtain ⟨a, b, c⟩ := hp r hr
  have h0 : qf g 0 = 0 := by unfold qf; simp
  have e1 := (f_le (qf_lt hg) 0 r.1).mp a
  have e2 := (f_le (qf_lt hg) r.1 r.2).mp b
  rw [h0] at e1
  exact ⟨e1, by show 0 ≤ qf g r.2; grind⟩
theorem jn_bnd {g : Int} : ∀ (S F : List (Int × Int)), (∀ r ∈ S, 0 ≤ r.1 ∧ r.2 ≤ g) → (∀ r ∈ F, 0 ≤ r.1 ∧ r.2 ≤ g) → ∀ r ∈ S.foldl jStep F, 0 ≤ r.1 ∧ r.2 ≤ g
  | [], F, _, hF => hF
  | s :: S, F, hS, hF => by
    rw [List.foldl_cons]
    have hs := hS s (List.mem_cons_self ..)
    refine jn_bnd S (jStep F s) (fun r m => hS r (List.mem_cons_of_mem _ m)) fun r m => ?_
    unfold jStep at m
    split at m
    · rename_i l hg
      have hl := hF l (List.mem_of_getLast? hg)
      split at m
      · rcases List.mem_append.mp m with m | m
        · exact hF r (List.dropLast_subset _ m)
        · simp at m; subst m
          exact ⟨hl.1, by show max s.2 l.2 ≤ g; omega⟩
      · rcases List.mem_append.mp m with m | m
        · exact hF r m
        · simp at m; subst m; exact hs
    · rcases List.mem_append.mp m with m | m
      · exact hF r m
      · simp at m; subst m; exact hs
def CanI (g : Int) (A : List (Int × Int)) : Prop := Can (A.map (f2 (qf g))) ∧ ∀ r ∈ A, PairOk g r
theorem jnd_can {g : Int} (hg : 0 < g) {ps : List (Int × Int)} (hp : ∀ r ∈ ps, PairOk g r) : CanI g (jnd ps) := by
  obtain ⟨h1, h2⟩ := jnd_ok ps
  obtain ⟨c, e⟩ := jn_spec (qf_lt hg) h1 h2
  refine ⟨c, fun r m => ?_⟩
  have b := jn_bnd (g := g) (srtP (full ps)) [] (fun r m => by
    have := hp r (List.mem_filter.mp ((srtP_perm _).mem_iff.mp m)).1
    exact ⟨this.1, this.2.2⟩) (by simp) r m
  have := c.1 (f2 (qf g) r) (List.mem_map.mpr ⟨r, m, rfl⟩)
  have := (qf_lt hg r.1 r.2).mpr this
  exact ⟨b.1, by omega, b.2⟩
theorem CanI.norm {g : Int} {A : List (Int × Int)} (h : CanI g A) : norm (A.map (f2 (qf g))) = A.map (f2 (qf g)) := norm_of h.1 fun x => Iff.rfl
theorem ftxt_head {q : Rat} (h : 0 ≤ q) : ∃ c cs, TL.tl (ftxt q) = c :: cs ∧ 48 ≤ c ∧ c ≤ 57 := by
  rw [tl_ftxt h]
  cases e : TL.numL q.num.toNat with
  | nil => exact absurd e (TL.numL_ne _)
  | cons c cs =>
    have hm : c ∈ TL.numL q.num.toNat := by rw [e]; exact List.mem_cons_self ..
    refine ⟨c, _, rfl, ?_, ?_⟩
    · rw [← Nat.not_lt]; intro z; exact TL.numL_free (.inl z) hm
    · rw [← Nat.not_lt]; intro z; exact TL.numL_free (.inr z) hm
def Few (q : Rat) : Prop := 0 ≤ q ∧ (TL.numL q.num.toNat).length ≤ 40 ∧ (TL.numL q.den).length ≤ 40 ∧ Sz 600 q
def FewL (L : List (Rat × Rat)) : Prop := ∀ p ∈ L, Few p.1 ∧ Few p.2
open TL (tl numL) in
theorem fig_loop {st : Sto} {e0 : SL} : ∀ (l : List Nat) (x1 : SL), ∃ x1', forD (tgB (tgN 1) fb_is_figures_1) (l.map fun c => D.str ⟨#[c]⟩) ⟨[e0, x1], st⟩ = if l.all (fun c => decide (48 ≤ c ∧ c ≤ 57)) = true then .nx ⟨[e0, x1'], st⟩ else .rt .P (.bl false) st
  | [], x1 => ⟨x1, rfl⟩
  | c :: l, x1 => by
    obtain ⟨x1', ih⟩ := fig_loop (st := st) (e0 := e0) l (.val (.str ⟨#[c]⟩))
    refine ⟨x1', ?_⟩
    have hm : c ∈ (Str.ofString "0123456789").cps.toList ↔ (48 ≤ c ∧ c ≤ 57) := by
      have e : (Str.ofString "0123456789").cps.toList = [48, 49, 50, 51, 52, 53, 54, 55, 56, 57] := by decide +kernel
      rw [e]; simp; omega
    have hn : ∀ st, oNotIn (.str ⟨#[c]⟩) (.str (Str.ofString "0123456789")) st = .val .P (.bl (!decide (48 ≤ c ∧ c ≤ 57))) st := fun st => by
      show (ER.val .P (.bl (!decide (c ∈ (Str.ofString "0123456789").cps.toList))) st) = _
      rw [show decide (c ∈ (Str.ofString "0123456789").cps.toList) = decide (48 ≤ c ∧ c ≤ 57) from decide_eq_decide.mpr hm]
    rw [List.map_cons, e_forC, List.all_cons]
    generalize (l.map fun c => D.str ⟨#[c]⟩) = LD at *
    cases hc : decide (48 ≤ c ∧ c ≤ 57) with
    | true =>
      rw [Bool.true_and, ← ih]
      rw [hc] at hn
      simp -implicitDefEqProofs [q_fb_is_figures_1, hn]
    | false =>
      rw [hc] at hn
      simp -implicitDefEqProofs [q_fb_is_figures_1, hn]
theorem str_ne_S {z : Str} {L M : List Nat} (hz : z = S L) : (z = S M) ↔ L = M := by
  rw [hz]; exact ⟨S_inj, fun h => by rw [h]⟩
theorem zero_S : Str.ofString "0" = S [48] := by decide +kernel
theorem fig_last (L : List Nat) (hL : L.length ≤ 100000) (h0 : L ≠ []) (x1 : SL) (st : Sto) : dOr (dOp oEq (dVar 0) (dC (.str "0"))) (dOp oNe (dOp oIx (dVar 0) (dC (.int 0))) (dC (.str "0"))) ⟨[.val (.str (S L)), x1], st⟩ = .val .P (.bl (decide (L = [48]) || decide (L.head? ≠ some 48))) st := by
  obtain ⟨c, cs, rfl⟩ : ∃ c cs, L = c :: cs := by cases L with | nil => exact absurd rfl h0 | cons c cs => exact ⟨c, cs, rfl⟩
  have hix : oIx (.str (S (c :: cs))) (.int 0) st = .val .P (.str (S [c])) st := by
    show (if (S (c :: cs)).length ≤ 1000000 then ofOpt (atI (S (c :: cs)).cps.toList 0) (fun c => ER.val .P (.str ⟨#[c]⟩) st) else .bad) = _
    rw [S_cps, if_pos (by rw [S_len]; omega)]
    have a0 : atI (c :: cs) 0 = some c := by simp [atI, ixN]
    rw [a0]; rfl
  have d1 : decide (S (c :: cs) = Str.ofString "0") = decide (c :: cs = [48]) := by
    rw [zero_S]; exact decide_eq_decide.mpr (str_ne_S rfl)
  have d2 : decide (S [c] = Str.ofString "0") = decide (c = 48) := by
    rw [zero_S]; exact decide_eq_decide.mpr ((str_ne_S rfl).trans (by simp))
  have q1 : ∀ st, oEq (.str (S (c :: cs))) (.str (Str.ofString "0")) st = .val .P (.bl (decide (c :: cs = [48]))) st := fun st => by rw [e_eqS, d1]
  have q2 : ∀ st, oNe (.str (S [c])) (.str (Str.ofString "0")) st = .val .P (.bl (!decide (c = 48))) st := fun st => by rw [← d2]; rfl
  have hh : decide ((c :: cs).head? ≠ some 48) = !decide (c = 48) := by simp
  rw [hh]
  generalize S (c :: cs) = z at *
  generalize S [c] = z1 at *
  generalize decide (c :: cs = [48]) = b1 at *
  cases b1
  · simp -implicitDefEqProofs [q1, hix, q2, -e_eqS, -e_neS, -e_oIx_4]
  · simp -implicitDefEqProofs [q1, hix, q2, -e_eqS, -e_neS, -e_oIx_4]
theorem is_figures_eq (L : List Nat) (hL : L.length ≤ 100000) (st : Sto) : F_is_figures [.str (S L)] st = .val .P (.bl (figB L)) st := by
  obtain ⟨x1, hf⟩ := fig_loop (st := st) (e0 := .val (.str (S L))) L .emp
  have hsl : (S L).length = L.length := S_len L
  have hs : itemsOf (.str (S L)) = some (L.map fun c => D.str ⟨#[c]⟩) := by rw [e_itS, S_cps]
  have hl : L.length ≤ 1000000 := by omega
  have hLD : (L.map fun c => D.str ⟨#[c]⟩).length ≤ 1000000 := by simp; omega
  by_cases h0 : L = []
  · have : figB L = false := by simp [figB, h0]
    rw [this]
    have n0 : L.length = 0 := by rw [h0]; rfl
    rw [n0] at hsl hl
    generalize S L = z at *
    simp -implicitDefEqProofs [F_is_figures, g_is_figures, hsl, hl]
  · have n0 : L.length ≠ 0 := fun z => h0 (List.length_eq_zero_iff.mp z)
    have n1 : ¬ ((L.length : Int) = 0) := by omega
    by_cases h1 : L.length ≤ 40
    · have n2 : ¬ ((40 : Int) < (L.length : Int)) := by omega
      have last := fig_last L hL h0 x1 st
      have e : figB L = (L.all (fun c => decide (48 ≤ c ∧ c ≤ 57)) && (decide (L = [48]) || decide (L.head? ≠ some 48))) := by simp [figB, h0, h1]
      rw [e]
      generalize (decide (L = [48]) || decide (L.head? ≠ some 48)) = b2 at *
      generalize L.all (fun c => decide (48 ≤ c ∧ c ≤ 57)) = b1 at *
      generalize (L.map fun c => D.str ⟨#[c]⟩) = LD at *
      generalize S L = z at *
      cases b1
      · simp -implicitDefEqProofs [F_is_figures, g_is_figures, -e_itS, hsl, hl, n0, n1, n2, hs, hLD, hf]
      · have first : dOr (dOp oEq (dCB oLen (aCons (dVar 0) aNil)) (dC (.int 0))) (dOp oGt (dCB oLen (aCons (dVar 0) aNil)) (dC (.int 40))) ⟨[.val (.str z), .emp], st⟩ = .val .P (.bl false) st := by
          simp -implicitDefEqProofs [hsl, hl, n0, n1, n2]
        simp -implicitDefEqProofs [F_is_figures, g_is_figures, -e_itS, -e_dOr, first, hs, hLD, hf, last]
    · have n2 : (40 : Int) < (L.length : Int) := by omega
      have : figB L = false := by simp [figB, h1]
      rw [this]
      generalize S L = z at *
      simp -implicitDefEqProofs [F_is_figures, g_is_figures, hsl, hl, n0, n1, n2]
open TL (tl numL) in
theorem tl_ftxtZ (q : Rat) : tl (ftxt q) = (if q.num < 0 then [45] else []) ++ (numL q.num.natAbs ++ (if q.den = 1 then [] else 47 :: numL q.den)) := by
  have hn : tl (itxt q.num) = (if q.num < 0 then [45] else []) ++ numL q.num.natAbs := by
    by_cases h : q.num < 0
    · have e : q.num = -((q.num.natAbs : Nat) : Int) := by omega
      rw [if_pos h]
      conv => lhs; rw [e]
      rw [itxt_neg (by omega), tl_S]; rfl
    · have e : q.num = ((q.num.natAbs : Nat) : Int) := by omega
      rw [if_neg h]
      conv => lhs; rw [e]
      rw [itxt_nat]; rfl
  unfold ftxt
  split
  · rw [hn]; simp
  · show tl (itxt q.num ++ Str.ofString "/" ++ itxt (q.den : Int)) = _
    rw [TL.tl_append, TL.tl_append, hn, tl_slash, itxt_nat]; simp
open TL (tl numL) in
def Wr (T : List Nat) (q : Rat) : Prop := tl (ftxt q) = T ∧ (numL q.num.natAbs).length ≤ 40 ∧ (numL q.den).length ≤ 40
open TL (tl numL) in
theorem parts_of {T : List Nat} {q : Rat} (h : tl (ftxt q) = T) : T = (if q.num < 0 then [45] else []) ++ (numL q.num.natAbs ++ (if q.den = 1 then [] else 47 :: numL q.den)) := by rw [← tl_ftxtZ]; exact h.symm
theorem dig_ne {n c : Nat} (h : c < 48 ∨ 57 < c) {L : List Nat} (e : TL.numL n = L) : c ∉ L := by rw [← e]; exact TL.numL_free h
theorem app_inj {s : Nat} : ∀ {A A' R R' : List Nat}, s ∉ A → s ∉ A' → A ++ s :: R = A' ++ s :: R' → A = A' ∧ R = R'
  | [], [], R, R', _, _, e => by simp at e; exact ⟨rfl, e⟩
  | [], c :: A', R, R', _, h, e => by simp at e; exact absurd (by rw [e.1]; exact List.mem_cons_self ..) h
  | c :: A, [], R, R', h, _, e => by simp at e; exact absurd (by rw [← e.1]; exact List.mem_cons_self ..) h
  | c :: A, d :: A', R, R', h, h', e => by
    simp at e
    obtain ⟨r1, r2⟩ := app_inj (fun z => h (List.mem_cons_of_mem _ z)) (fun z => h' (List.mem_cons_of_mem _ z)) e.2
    exact ⟨by rw [e.1, r1], r2⟩
def wordOf (T : List Nat) : List Nat := if T.head? = some 45 then T.tail else T
theorem word_of {T : List Nat} {q : Rat} (h : TL.tl (ftxt q) = T) : (T.head? = some 45 ↔ q.num < 0) ∧ wordOf T = TL.numL q.num.natAbs ++ (if q.den = 1 then [] else 47 :: TL.numL q.den) := by
  have e := parts_of h
  have hd : (TL.numL q.num.natAbs ++ (if q.den = 1 then [] else 47 :: TL.numL q.den)).head? ≠ some 45 := by
    cases e2 : TL.numL q.num.natAbs with
    | nil => exact absurd e2 (TL.numL_ne _)
    | cons c cs =>
      have := dig_ne (c := 45) (.inl (by decide)) e2
      simp at this ⊢
      omega
  unfold wordOf
  by_cases c : q.num < 0
  · rw [if_pos c] at e
    have h1 : T.head? = some 45 := by rw [e]; rfl
    rw [if_pos h1]
    exact ⟨⟨fun _ => c, fun _ => h1⟩, by rw [e]; rfl⟩
  · rw [if_neg c, List.nil_append] at e
    have h1 : T.head? ≠ some 45 := by rw [e]; exact hd
    rw [if_neg h1]
    exact ⟨⟨fun z => absurd z h1, fun z => absurd z c⟩, e⟩
def sgn (T : List Nat) (q : Rat) : Rat := if T.head? = some 45 then -q else q
theorem abs_div {q : Rat} : Rat.divInt (q.num.natAbs : Int) (q.den : Int) = if q.num < 0 then -q else q := by
  by_cases c : q.num < 0
  · rw [if_pos c, show ((q.num.natAbs : Nat) : Int) = -q.num by omega, ← Rat.neg_divInt]
    rw [Rat.num_divInt_den]
  · rw [if_neg c, show ((q.num.natAbs : Nat) : Int) = q.num by omega]
    exact Rat.num_divInt_den q
open TL (numL) in
theorem Wr.one {T : List Nat} {q : Rat} (h : Wr T q) (hs : 47 ∉ wordOf T) : ∃ n, wordOf T = numL n ∧ (numL n).length ≤ 40 ∧ q = sgn T (Rat.divInt (n : Int) 1) := by
  obtain ⟨h1, h2⟩ := word_of h.1
  have hd : q.den = 1 := by
    apply Classical.byContradiction
    intro z
    rw [h2, if_neg z] at hs
    simp at hs
  rw [h2, if_pos hd, List.append_nil]
  refine ⟨_, rfl, h.2.1, ?_⟩
  have := abs_div (q := q)
  rw [hd] at this
  unfold sgn
  rw [show ((1 : Nat) : Int) = 1 from rfl] at this
  rw [this]
  by_cases c : q.num < 0
  · rw [if_pos (h1.mpr c), if_pos c]; simp
  · rw [if_neg (fun z => c (h1.mp z)), if_neg c]
open TL (numL) in
theorem Wr.two {T A R : List Nat} {q : Rat} (h : Wr T q) (e : wordOf T = A ++ 47 :: R) (hA : 47 ∉ A) : ∃ n m, A = numL n ∧ R = numL m ∧ (numL n).length ≤ 40 ∧ (numL m).length ≤ 40 ∧ 2 ≤ m ∧ n = q.num.natAbs ∧ m = q.den ∧ q = sgn T (Rat.divInt (n : Int) (m : Int)) := by
  obtain ⟨h1, h2⟩ := word_of h.1
  have hd : q.den ≠ 1 := fun z => by
    rw [h2, if_pos z, List.append_nil] at e
    exact dig_ne (c := 47) (.inl (by decide)) e (by simp)
  rw [h2, if_neg hd] at e
  obtain ⟨e1, e2⟩ := app_inj (TL.numL_free (.inl (by decide))) hA e
  have := q.den_pos
  refine ⟨_, _, e1.symm, e2.symm, h.2.1, h.2.2, by omega, rfl, rfl, ?_⟩
  unfold sgn
  rw [abs_div]
  by_cases c : q.num < 0
  · rw [if_pos (h1.mpr c), if_pos c]; simp
  · rw [if_neg (fun z => c (h1.mp z)), if_neg c]
open TL (numL) in
theorem wr_two {T A R : List Nat} {q : Rat} (h : TL.tl (ftxt q) = T) (e : wordOf T = A ++ 47 :: R) (hA : 47 ∉ A) (l1 : A.length ≤ 40) (l2 : R.length ≤ 40) : Wr T q := by
  obtain ⟨h1, h2⟩ := word_of h
  have hd : q.den ≠ 1 := fun z => by
    rw [h2, if_pos z, List.append_nil] at e
    exact dig_ne (c := 47) (.inl (by decide)) e (by simp)
  rw [h2, if_neg hd] at e
  obtain ⟨e1, e2⟩ := app_inj (TL.numL_free (.inl (by decide))) hA e
  exact ⟨h, by rw [e1]; exact l1, by rw [e2]; exact l2⟩
open TL (numL) in
theorem wr_one {T : List Nat} {q : Rat} (h : TL.tl (ftxt q) = T) (hs : 47 ∉ wordOf T) (l1 : (wordOf T).length ≤ 40) : Wr T q := by
  obtain ⟨h1, h2⟩ := word_of h
  have hd : q.den = 1 := by
    apply Classical.byContradiction
    intro z
    rw [h2, if_neg z] at hs
    simp at hs
  rw [h2, if_pos hd, List.append_nil] at l1
  exact ⟨h, l1, by rw [hd, show numL 1 = [49] from TL.numL_lt (by decide)]; decide⟩
theorem cut_S (T : List Nat) {h u : Nat} (h1 : h ≤ u) (h2 : u ≤ T.length) : cutS (S T) (some (h : Int)) (some (u : Int)) = S ((T.drop h).take (u - h)) := by
  have e1 : HT.sIx (S T).length 0 (some (h : Int)) = h := by
    rw [S_len]
    simp only [HT.sIx]
    rw [if_neg (by omega)]; simp; omega
  have e2 : HT.sIx (S T).length (S T).length (some (u : Int)) = u := by
    rw [S_len]
    simp only [HT.sIx]
    rw [if_neg (by omega)]; simp; omega
  unfold cutS
  rw [e1, e2, S_cps]
theorem cutS_len (z : Str) (lo hi : Option Int) : (cutS z lo hi).length ≤ z.length := by
  unfold cutS
  simp [Str.length]; omega
theorem ftextZ {q : Rat} (hs : Sz 200 q) (st : Sto) : F_fraction_text [dF q] st = .val .P (.str (ftxt q)) st := by
  have l1 : q.num.natAbs.log2 < 1920 := bit_log hs.1 (by omega)
  have l2 : q.den.log2 < 1920 := by have := bit_log hs.den (show 200 < 1920 by omega); simpa using this
  have n1 := TL.numL_len2' (n := q.num.natAbs) (k := 200) (Nat.lt_of_lt_of_le hs.1 (Nat.pow_le_pow_right (by decide) (by decide)))
  have n2 := TL.numL_len2' (n := q.den) (k := 200) (Nat.lt_of_lt_of_le hs.2 (Nat.pow_le_pow_right (by decide) (by decide)))
  have hi : (itxt q.num).length ≤ 1000 := by
    by_cases h : q.num < 0
    · have e : q.num = -((q.num.natAbs : Nat) : Int) := by omega
      rw [e, itxt_neg (by omega), S_len]
      simp; omega
    · have e : q.num = ((q.num.natAbs : Nat) : Int) := by omega
      rw [e, itxt_S, S_len]; simp; omega
  by_cases c : q.den = 1
  · have c' : (q.den : Int) = 1 := by omega
    simp -implicitDefEqProofs [F_fraction_text, g_fraction_text, c, l1, ftxt]
  · have c' : ¬ (q.den : Int) = 1 := by omega
    have a0 : (Str.ofString "/").length = 1 := rfl
    have a1 : (itxt q.num).length ≤ 1000000 := by omega
    have a2 : (itxt q.num ++ Str.ofString "/").length ≤ 1000000 := by rw [Str.length_append, a0]; omega
    have a3 : (itxt q.num ++ Str.ofString "/" ++ itxt (q.den : Int)).length ≤ 1000000 := by
      have a4 : (itxt (q.den : Int)).length = (TL.numL q.den).length := by rw [itxt_S, S_len]
      rw [Str.length_append, Str.length_append, a0, a4]; omega
    simp -implicitDefEqProofs [F_fraction_text, g_fraction_text, c, c', l1, l2, empty_app, a1, a2, a3, ftxt]
theorem head_cut {T : List Nat} : (cutS (S T) none (some 1) = Str.ofString "-") ↔ T.head? = some 45 := by
  have e2 : Str.ofString "-" = S [45] := by decide +kernel
  cases T with
  | nil =>
    have : cutS (S []) none (some 1) = S [] := by decide +kernel
    rw [this, e2]
    exact ⟨fun h => by have := S_inj h; simp at this, fun h => by simp at h⟩
  | cons c T =>
    have e : cutS (S (c :: T)) none (some 1) = S [c] := by
      have := cut_S (c :: T) (h := 0) (u := 1) (by omega) (by simp)
      exact this
    rw [e, e2]
    exact ⟨fun h => by have := S_inj h; simpa using this, fun h => by simp at h; rw [h]⟩
theorem tail_cut (T : List Nat) : cutS (S T) (some 1) none = S T.tail := by
  cases T with
  | nil => decide +kernel
  | cons c T =>
    have := cut_S (c :: T) (h := 1) (u := (c :: T).length) (by simp) (Nat.le_refl _)
    have e : cutS (S (c :: T)) (some 1) none = cutS (S (c :: T)) (some ((1 : Nat) : Int)) (some (((c :: T).length : Nat) : Int)) := by
      unfold cutS
      have e1 : HT.sIx (S (c :: T)).length (S (c :: T)).length none = HT.sIx (S (c :: T)).length (S (c :: T)).length (some (((c :: T).length : Nat) : Int)) := by
        rw [S_len]
        simp only [HT.sIx]
        rw [if_neg (by omega)]; simp
      rw [e1]; rfl
    rw [e, this]
    simp
theorem word_S (T : List Nat) : (if cutS (S T) none (some 1) = Str.ofString "-" then cutS (S T) (some 1) none else S T) = S (wordOf T) := by
  unfold wordOf
  by_cases c : T.head? = some 45
  · rw [if_pos (head_cut.mpr c), if_pos c, tail_cut]
  · rw [if_neg (fun z => c (head_cut.mp z)), if_neg c]
theorem word_ne {T : List Nat} : S (wordOf T) ≠ S T ↔ T.head? = some 45 := by
  unfold wordOf
  by_cases c : T.head? = some 45
  · rw [if_pos c]
    refine ⟨fun _ => c, fun _ h => ?_⟩
    have := S_inj h
    cases T with
    | nil => simp at c
    | cons a l => have := congrArg List.length this; simp at this
  · rw [if_neg c]
    exact ⟨fun h => absurd rfl h, fun h => absurd h c⟩
noncomputable def rdK : En → SR :=
  (sSeq (sAsg (tgT 3 (tgsCons (tgN 3) (tgsCons (tgN 4) (tgsCons (tgN 5) tgsNil)))) (dMs msPartition (dVar 1) (aCons (dC (.str "/")) aNil)))
  (sSeq (sIf (dOp oEq (dVar 4) (dC (.str ""))) (sSetF 5 (dC (.str "1"))) sSkip)
  (sSeq (sIf (dOr (dNot (dCall F_is_figures (aCons (dVar 3) aNil))) (dOr (dNot (dCall F_is_figures (aCons (dVar 5) aNil))) (dOp oEq (dVar 5) (dC (.str "0"))))) (sRaise 2) sSkip)
  (sSeq (sSetF 2 (dCallG F_fraction_of 2 0 [0, 1] [(.int 1)] (aCons (dCB oInt (aCons (dVar 3) aNil)) (aCons (dCB oInt (aCons (dVar 5) aNil)) aNil)) aNil))
  (sSeq (sIf (dOp oNe (dVar 1) (dVar 0)) (sSetF 2 (dTup (aCons (dUn oNeg (dOp oIx (dVar 2) (dC (.int 0)))) (aCons (dOp oIx (dVar 2) (dC (.int 1))) aNil)))) sSkip)
  (sSeq (sIf (dOp oNe (dCall F_fraction_text (aCons (dVar 2) aNil)) (dVar 0)) (sRaise 2) sSkip)
  (sRetV 2)))))))
theorem rd_start {z w : Str} (hz : z.length ≤ 1000000) (hw : (if cutS z none (some 1) = Str.ofString "-" then cutS z (some 1) none else z) = w) (st : Sto) : F_read_fraction [.str z] st = (rdK ⟨[.val (.str z), .val (.str w), .emp, .emp, .emp, .emp], st⟩).ret := by
  have hg : g_read_fraction = sSeq (sSetF 1 (dVar 0)) (sSeq (sIf (dOp oEq (dSl oSl (dVar 0) (fun _ => none) (fun e => some ((dC (.int 1)) e))) (dC (.str "-"))) (sSetF 1 (dSl oSl (dVar 0) (fun e => some ((dC (.int 1)) e)) (fun _ => none))) sSkip) rdK) := rfl
  unfold F_read_fraction
  rw [hg]
  generalize rdK = K at *
  by_cases c : cutS z none (some 1) = Str.ofString "-"
  · rw [if_pos c] at hw
    subst hw
    simp -implicitDefEqProofs [hz, c]
  · rw [if_neg c] at hw
    subst hw
    simp -implicitDefEqProofs [hz, c]
theorem rd_bad {z w t s b : Str} {b1 b2 : Bool} {st : Sto} (hw : w.length ≤ 1000000) (hp : Txt.partition w "/" = (t, s, b)) {b' : Str} (hb : b' = if s = Str.ofString "" then Str.ofString "1" else b) (f1 : F_is_figures [.str t] st = .val .P (.bl b1) st) (f2 : F_is_figures [.str b'] st = .val .P (.bl b2) st) (h : b1 = false ∨ b2 = false ∨ b' = Str.ofString "0") :
    rdK ⟨[.val (.str z), .val (.str w), .emp, .emp, .emp, .emp], st⟩ = .exc 2 [] ⟨[.val (.str z), .val (.str w), .emp, .val (.str t), .val (.str s), .val (.str b')], st⟩ := by
  have s1 : ((Str.ofString "/").length == 0) = false := rfl
  unfold rdK
  by_cases c : s = Str.ofString ""
  · rw [if_pos c] at hb
    subst hb
    rcases h with rfl | rfl | h
    · simp -implicitDefEqProofs [hw, hp, s1, c, f1]
    · cases b1 <;> simp -implicitDefEqProofs [hw, hp, s1, c, f1, f2]
    · exact absurd h (by decide +kernel)
  · rw [if_neg c] at hb
    subst hb
    rcases h with rfl | rfl | h
    · simp -implicitDefEqProofs [hw, hp, s1, c, f1]
    · cases b1 <;> simp -implicitDefEqProofs [hw, hp, s1, c, f1, f2]
    · rw [h] at f2
      cases b1 <;> cases b2 <;> simp -implicitDefEqProofs [hw, hp, s1, c, f1, f2, h]
theorem rd_good {z w t s b : Str} {st : Sto} (hw : w.length ≤ 1000000) (hp : Txt.partition w "/" = (t, s, b)) {b' : Str} (hb : b' = if s = Str.ofString "" then Str.ofString "1" else b) (f1 : F_is_figures [.str t] st = .val .P (.bl true) st) (f2 : F_is_figures [.str b'] st = .val .P (.bl true) st) (h : b' ≠ Str.ofString "0") {n m : Int} (lt : t.length ≤ 640) (lb : b'.length ≤ 640) (i1 : intText? t = some n) (i2 : intText? b' = some m)
    {Q Q' : Rat} (hF : F_fraction_of [.int n, .int m] st = .val .P (dF Q) st) (hQ : Q' = if w ≠ z then -Q else Q) (hT : F_fraction_text [dF Q'] st = .val .P (.str (ftxt Q')) st) :
    rdK ⟨[.val (.str z), .val (.str w), .emp, .emp, .emp, .emp], st⟩ = if ftxt Q' = z then .rt .P (dF Q') st else .exc 2 [] ⟨[.val (.str z), .val (.str w), .val (dF Q'), .val (.str t), .val (.str s), .val (.str b')], st⟩ := by
  have s1 : ((Str.ofString "/").length == 0) = false := rfl
  have dq : D.tup [.int (-Q.num), .int (Q.den : Int)] = dF (-Q) := by unfold dF; simp
  have a0 : ∀ x y : D, atI [x, y] 0 = some x := fun _ _ => rfl
  have a1 : ∀ x y : D, atI [x, y] 1 = some y := fun _ _ => rfl
  unfold rdK
  have main : ∀ s5 : Str, s5 = b' → (sSeq (sIf (dOr (dNot (dCall F_is_figures (aCons (dVar 3) aNil))) (dOr (dNot (dCall F_is_figures (aCons (dVar 5) aNil))) (dOp oEq (dVar 5) (dC (.str "0"))))) (sRaise 2) sSkip)
      (sSeq (sSetF 2 (dCallG F_fraction_of 2 0 [0, 1] [(.int 1)] (aCons (dCB oInt (aCons (dVar 3) aNil)) (aCons (dCB oInt (aCons (dVar 5) aNil)) aNil)) aNil))
      (sSeq (sIf (dOp oNe (dVar 1) (dVar 0)) (sSetF 2 (dTup (aCons (dUn oNeg (dOp oIx (dVar 2) (dC (.int 0)))) (aCons (dOp oIx (dVar 2) (dC (.int 1))) aNil)))) sSkip)
      (sSeq (sIf (dOp oNe (dCall F_fraction_text (aCons (dVar 2) aNil)) (dVar 0)) (sRaise 2) sSkip)
      (sRetV 2))))) ⟨[.val (.str z), .val (.str w), .emp, .val (.str t), .val (.str s), .val (.str s5)], st⟩ = if ftxt Q' = z then .rt .P (dF Q') st else .exc 2 [] ⟨[.val (.str z), .val (.str w), .val (dF Q'), .val (.str t), .val (.str s), .val (.str b')], st⟩ := fun s5 e5 => by
    subst e5
    by_cases c : w ≠ z
    · rw [if_pos c] at hQ
      subst hQ
      have hF' : F_fraction_of [.int n, .int m] st = .val .P (.tup [.int Q.num, .int (Q.den : Int)]) st := hF
      generalize hd : dF (-Q) = dd at *
      by_cases e : ftxt (-Q) = z
      · simp -implicitDefEqProofs [f1, f2, h, lt, lb, i1, i2, hF', c, a0, a1, dq, hT, e]
      · simp -implicitDefEqProofs [f1, f2, h, lt, lb, i1, i2, hF', c, a0, a1, dq, hT, e]
    · have c' : w = z := Classical.not_not.mp c
      rw [if_neg c] at hQ
      subst hQ
      generalize dF Q' = dd at *
      by_cases e : ftxt Q' = z
      · simp -implicitDefEqProofs [f1, f2, h, lt, lb, i1, i2, hF, c', hT, e]
      · simp -implicitDefEqProofs [f1, f2, h, lt, lb, i1, i2, hF, c', hT, e]
  generalize (sSeq (sIf (dOr (dNot (dCall F_is_figures (aCons (dVar 3) aNil))) (dOr (dNot (dCall F_is_figures (aCons (dVar 5) aNil))) (dOp oEq (dVar 5) (dC (.str "0"))))) (sRaise 2) sSkip) _) = K at *
  by_cases c : s = Str.ofString ""
  · rw [if_pos c] at hb
    rw [← main _ hb.symm]
    simp -implicitDefEqProofs [hw, hp, s1, c]
  · rw [if_neg c] at hb
    rw [← main _ hb.symm]
    simp -implicitDefEqProofs [hw, hp, s1, c]
theorem sz_num {a b : Nat} (ha : (TL.numL a).length ≤ 40) (hb : (TL.numL b).length ≤ 40) (h0 : b ≠ 0) : Sz 200 (Rat.divInt (a : Int) (b : Int)) := by
  have h1 := num_bits ha
  have h2 := num_bits hb
  have e : (10 : Nat) ^ 40 ≤ 2 ^ 200 := by decide
  exact Sz.mk (by simp; omega) (by simp; omega) (by omega)
theorem sz_neg {n : Nat} {q : Rat} (h : Sz n q) : Sz n (-q) := ⟨by simpa using h.1, by simpa using h.2⟩
theorem fof_num {a b : Nat} (hb : (TL.numL b).length ≤ 40) (h0 : b ≠ 0) (st : Sto) : F_fraction_of [.int (a : Int), .int (b : Int)] st = .val .P (dF (Rat.divInt (a : Int) (b : Int))) st := by
  have h2 := num_bits hb
  have e : (10 : Nat) ^ 40 ≤ 2 ^ 200 := by decide
  exact fraction_of_eq (by omega) (bit_log (m := 200) (by simp; omega) (by decide)) st
theorem read_any {T : List Nat} (hT : T.length ≤ 5000) (st : Sto) : (∃ q, Wr T q ∧ F_read_fraction [.str (S T)] st = .val .P (dF q) st) ∨ ((∀ q, ¬ Wr T q) ∧ F_read_fraction [.str (S T)] st = .exc 2 [] st) := by
  have hz : (S T).length ≤ 1000000 := by rw [S_len]; omega
  rw [rd_start hz (word_S T) st]
  have hwl : (wordOf T).length ≤ 5000 := by
    unfold wordOf
    split
    · rw [List.length_tail]; omega
    · exact hT
  have hw : (S (wordOf T)).length ≤ 1000000 := by rw [S_len]; omega
  have e0 : Str.empty = Str.ofString "" := by decide +kernel
  have ene : ∀ {a b : Nat} {Q : Rat}, (if S (wordOf T) ≠ S T then -Q else Q) = sgn T Q := fun {a b Q} => by
    unfold sgn
    by_cases c : T.head? = some 45
    · rw [if_pos (word_ne.mpr c), if_pos c]
    · rw [if_neg (fun z => c (word_ne.mp z)), if_neg c]
  have szs : ∀ {Q : Rat}, Sz 200 Q → Sz 200 (sgn T Q) := fun h => by
    unfold sgn
    split
    · exact sz_neg h
    · exact h
  have eqS : ∀ {Q : Rat}, ftxt Q = S T ↔ TL.tl (ftxt Q) = T := fun {Q} => ⟨fun h => by rw [h, tl_S], fun h => TL.ext_tl (by rw [h, tl_S])⟩
  have fin : ∀ {a b : Nat}, (TL.numL a).length ≤ 40 → (TL.numL b).length ≤ 40 → b ≠ 0 → (∀ q, Wr T q → q = sgn T (Rat.divInt (a : Int) (b : Int))) → (TL.tl (ftxt (sgn T (Rat.divInt (a : Int) (b : Int)))) = T → Wr T (sgn T (Rat.divInt (a : Int) (b : Int)))) → ∀ {r : SR} {E : En}, E.st = st → r = (if ftxt (sgn T (Rat.divInt (a : Int) (b : Int))) = S T then .rt .P (dF (sgn T (Rat.divInt (a : Int) (b : Int)))) st else .exc 2 [] E) → (∃ q, Wr T q ∧ r.ret = .val .P (dF q) st) ∨ ((∀ q, ¬ Wr T q) ∧ r.ret = .exc 2 [] st) := fun {a b} ha hb h0 hu hr {r E} hE e => by
    by_cases c : TL.tl (ftxt (sgn T (Rat.divInt (a : Int) (b : Int)))) = T
    · rw [if_pos (eqS.mpr c)] at e
      exact .inl ⟨_, hr c, by rw [e]; rfl⟩
    · rw [if_neg (fun z => c (eqS.mp z))] at e
      refine .inr ⟨fun q h => c ?_, by rw [e, ← hE]; rfl⟩
      rw [← hu q h]; exact h.1
  have bad : ∀ {r : SR} {E : En}, E.st = st → r = .exc 2 [] E → (∀ q, ¬ Wr T q) → (∃ q, Wr T q ∧ r.ret = .val .P (dF q) st) ∨ ((∀ q, ¬ Wr T q) ∧ r.ret = .exc 2 [] st) := fun {r E} hE e h => .inr ⟨h, by rw [e, ← hE]; rfl⟩
  by_cases hs : 47 ∈ wordOf T
  · obtain ⟨A, R, e, hA⟩ := first_sign hs
    have hp := part_S (y := "/") (s := 47) tl_slash (A := A) (R := R) hA
    rw [← e] at hp
    have hl : A.length + R.length + 1 ≤ 5000 := by rw [e] at hwl; simp at hwl; omega
    have f1 := is_figures_eq A (by omega) st
    have f2 := is_figures_eq R (by omega) st
    have hb : S R = if Str.ofString "/" = Str.ofString "" then Str.ofString "1" else S R := by rw [if_neg (by decide +kernel)]
    cases g1 : figB A with
    | false =>
      rw [g1] at f1
      refine bad ?_ (rd_bad hw hp hb f1 f2 (.inl rfl)) (fun q h => ?_)
      · rfl
      · obtain ⟨n, m, rfl, rfl, n1, n2, _⟩ := h.two e hA
        rw [figB_num n n1] at g1; cases g1
    | true =>
      rw [g1] at f1
      cases g2 : figB R with
      | false =>
        rw [g2] at f2
        refine bad ?_ (rd_bad hw hp hb f1 f2 (.inr (.inl rfl))) (fun q h => ?_)
        · rfl
        · obtain ⟨n, m, rfl, rfl, n1, n2, _⟩ := h.two e hA
          rw [figB_num m n2] at g2; cases g2
      | true =>
        rw [g2] at f2
        obtain ⟨a, rfl, la⟩ := figB_iff.mp g1
        obtain ⟨b, rfl, lb⟩ := figB_iff.mp g2
        by_cases hb0 : b = 0
        · subst hb0
          refine bad ?_ (rd_bad hw hp hb f1 f2 (.inr (.inr (by rw [numL_0]; exact zero_S.symm)))) (fun q h => ?_)
          · rfl
          · obtain ⟨n, m, e1, e2, n1, n2, n3, _⟩ := h.two e hA
            have := TL.numL_inj e2; omega
        · have hne : S (TL.numL b) ≠ Str.ofString "0" := fun z => by
            rw [zero_S, ← numL_0] at z
            exact hb0 (TL.numL_inj (S_inj z))
          refine fin la lb hb0 (fun q h => ?_) (fun h => ?_) ?_ (rd_good (Q' := sgn T (Rat.divInt (a : Int) (b : Int))) hw hp hb f1 f2 hne (by rw [S_len]; omega) (by rw [S_len]; omega) (int_S la) (int_S lb) (fof_num lb hb0 st) (ene (a := a) (b := b)).symm (ftextZ (szs (sz_num la lb hb0)) st))
          · obtain ⟨n, m, e1, e2, n1, n2, n3, _, _, hq⟩ := h.two e hA
            rw [TL.numL_inj e1, TL.numL_inj e2]; exact hq
          · exact wr_two h e hA la lb
          · rfl
  · have hp := part_none (y := "/") (s := 47) tl_slash (A := wordOf T) hs
    rw [e0] at hp
    have f1 := is_figures_eq (wordOf T) (by omega) st
    have l1 : (TL.numL 1).length ≤ 40 := by rw [show TL.numL 1 = [49] from TL.numL_lt (by decide)]; decide
    have one : Str.ofString "1" = S (TL.numL 1) := by rw [show TL.numL 1 = [49] from TL.numL_lt (by decide)]; decide +kernel
    have f2 := is_figures_eq (TL.numL 1) (by omega) st
    rw [figB_num 1 l1, ← one] at f2
    have hb : Str.ofString "1" = if Str.ofString "" = Str.ofString "" then Str.ofString "1" else Str.ofString "" := by rw [if_pos rfl]
    cases g1 : figB (wordOf T) with
    | false =>
      rw [g1] at f1
      refine bad ?_ (rd_bad hw hp hb f1 f2 (.inl rfl)) (fun q h => ?_)
      · rfl
      · obtain ⟨n, e, n1, _⟩ := h.one hs
        rw [e, figB_num n n1] at g1; cases g1
    | true =>
      rw [g1] at f1
      obtain ⟨a, e, la⟩ := figB_iff.mp g1
      have i1 : intText? (S (wordOf T)) = some (a : Int) := by rw [e]; exact int_S la
      have i2 : intText? (Str.ofString "1") = some ((1 : Nat) : Int) := by rw [one]; exact int_S l1
      refine fin (b := 1) la l1 (by decide) (fun q h => ?_) (fun h => ?_) ?_ (rd_good (Q' := sgn T (Rat.divInt (a : Int) ((1 : Nat) : Int))) hw hp hb f1 f2 (by decide +kernel) (by rw [S_len, e]; omega) (by rw [one, S_len]; omega) i1 i2 (fof_num l1 (by decide) st) (ene (a := a) (b := 1)).symm (ftextZ (szs (sz_num la l1 (by decide))) st))
      · obtain ⟨n, e1, n1, hq⟩ := h.one hs
        rw [e] at e1
        rw [TL.numL_inj e1]; exact hq
      · exact wr_one h hs (by rw [e]; exact la)
      · rfl
open TL (tl numL)
theorem law_figures_eq (L : List Nat) (hL : L.length ≤ 100000) (st : Sto) : F_law_figures [.str (S L)] st = .val .P (.bl (figB L)) st := by
  have hsl : (S L).length = L.length := S_len L
  have hs : itemsOf (.str (S L)) = some (L.map fun c => D.str ⟨#[c]⟩) := by rw [e_itS, S_cps]
  have hl : L.length ≤ 1000000 := by omega
  have hLD : (L.map fun c => D.str ⟨#[c]⟩).length ≤ 1000000 := by simp; omega
  have hin : ∀ (c : Nat) (st : Sto), oIn (.str ⟨#[c]⟩) (.str (Str.ofString "0123456789")) st = .val .P (.bl (decide (48 ≤ c ∧ c ≤ 57))) st := fun c st => by
    have hm : c ∈ (Str.ofString "0123456789").cps.toList ↔ (48 ≤ c ∧ c ≤ 57) := by
      have e : (Str.ofString "0123456789").cps.toList = [48, 49, 50, 51, 52, 53, 54, 55, 56, 57] := by decide +kernel
      rw [e]; simp; omega
    show (ER.val .P (.bl (decide (c ∈ (Str.ofString "0123456789").cps.toList))) st) = _
    rw [show decide (c ∈ (Str.ofString "0123456789").cps.toList) = decide (48 ≤ c ∧ c ≤ 57) from decide_eq_decide.mpr hm]
  have hlc : ∀ e1 : SL, lcGo (lcStep (tgN 1) (fun E => .val .P (.bl true) E.st) ce_law_figures_1 [.val (.str (S L)), e1]) (L.map fun c => .str ⟨#[c]⟩) st = some (L.map fun c => .bl (decide (48 ≤ c ∧ c ≤ 57)), st) := fun e1 => by
    refine lc_map (enc := fun c => D.str ⟨#[c]⟩) (f := fun c => D.bl (decide (48 ≤ c ∧ c ≤ 57))) fun c _ => ?_
    generalize S L = z at *
    simp -implicitDefEqProofs [q_ce_law_figures_1, hin]
  have hbo := boolsOf_map (fun c : Nat => decide (48 ≤ c ∧ c ≤ 57)) L
  have hall : (L.map fun c => decide (48 ≤ c ∧ c ≤ 57)).all id = L.all (fun c => decide (48 ≤ c ∧ c ≤ 57)) := by rw [List.all_map]; rfl
  by_cases h0 : L = []
  · have : figB L = false := by simp [figB, h0]
    rw [this]
    have n0 : L.length = 0 := by rw [h0]; rfl
    rw [n0] at hsl hl
    generalize S L = z at *
    simp -implicitDefEqProofs [F_law_figures, g_law_figures, hsl, hl]
  · have n0 : L.length ≠ 0 := fun z => h0 (List.length_eq_zero_iff.mp z)
    have n1 : ¬ ((L.length : Int) = 0) := by omega
    by_cases h1 : L.length ≤ 40
    · have n2 : ¬ ((40 : Int) < (L.length : Int)) := by omega
      have last := fig_last L hL h0 .emp st
      have e : figB L = (L.all (fun c => decide (48 ≤ c ∧ c ≤ 57)) && (decide (L = [48]) || decide (L.head? ≠ some 48))) := by simp [figB, h0, h1]
      rw [e]
      generalize (decide (L = [48]) || decide (L.head? ≠ some 48)) = b2 at *
      generalize (L.map fun c => D.str ⟨#[c]⟩) = LD at *
      generalize (L.map fun c => D.bl (decide (48 ≤ c ∧ c ≤ 57))) = BD at *
      generalize (L.map fun c => decide (48 ≤ c ∧ c ≤ 57)) = BB at *
      generalize L.all (fun c => decide (48 ≤ c ∧ c ≤ 57)) = b1 at *
      generalize L.length = ln at *
      generalize S L = z at *
      cases b1
      · simp -implicitDefEqProofs [F_law_figures, g_law_figures, -e_itS, hsl, hl, n0, n1, n2, hs, hLD, hlc, hbo, hall]
      · have first : dOr (dOp oEq (dCB oLen (aCons (dVar 0) aNil)) (dC (.int 0))) (dOr (dOp oGt (dCB oLen (aCons (dVar 0) aNil)) (dC (.int 40))) (dNot (dCB oAll (aCons (dLc (dIter (dVar 0)) (tgN 1) (fun E => .val .P (.bl true) E.st) ce_law_figures_1 [1]) aNil)))) ⟨[.val (.str z), .emp], st⟩ = .val .P (.bl false) st := by
          simp -implicitDefEqProofs [-e_itS, hsl, hl, n0, n1, n2, hs, hLD, hlc, hbo, hall]
        simp -implicitDefEqProofs [F_law_figures, g_law_figures, -e_itS, -e_dOr, first, last]
    · have n2 : (40 : Int) < (L.length : Int) := by omega
      have : figB L = false := by simp [figB, h1]
      rw [this]
      generalize L.length = ln at *
      generalize S L = z at *
      simp -implicitDefEqProofs [F_law_figures, g_law_figures, hsl, hl, n0, n1, n2]
open TL (tl numL)
theorem wordOf_free {T : List Nat} (h : 45 ∉ T) : wordOf T = T := by
  unfold wordOf
  rw [if_neg]
  cases T with
  | nil => simp
  | cons a l => intro z; simp at z; exact h (by rw [z]; exact List.mem_cons_self ..)
theorem sgn_free {T : List Nat} (h : 45 ∉ T) (q : Rat) : sgn T q = q := by
  unfold sgn
  rw [if_neg]
  cases T with
  | nil => simp
  | cons a l => intro z; simp at z; exact h (by rw [z]; exact List.mem_cons_self ..)
theorem wr_pos {T : List Nat} {q : Rat} (h : 45 ∉ T) (w : Wr T q) : 0 ≤ q := by
  have e := tl_ftxtZ q
  rw [w.1] at e
  by_cases c : q.num < 0
  · rw [if_pos c] at e
    exact absurd (by rw [e]; simp) h
  · exact Rat.num_nonneg.mp (by omega)
theorem wr_few {T : List Nat} {q : Rat} (h : 45 ∉ T) (w : Wr T q) : Few q := by
  have h0 := wr_pos h w
  have hn : 0 ≤ q.num := Rat.num_nonneg.mpr h0
  have e : q.num.toNat = q.num.natAbs := by omega
  have b1 := num_bits w.2.1
  have b2 := num_bits w.2.2
  have e2 : (10 : Nat) ^ 40 ≤ 2 ^ 600 := by decide
  exact ⟨h0, by rw [e]; exact w.2.1, w.2.2, ⟨by omega, by omega⟩⟩
theorem few_wr {q : Rat} (h : Few q) : Wr (tl (ftxt q)) q := by
  have hn : 0 ≤ q.num := Rat.num_nonneg.mpr h.1
  have e : q.num.toNat = q.num.natAbs := by omega
  exact ⟨rfl, by rw [← e]; exact h.2.1, h.2.2.1⟩
theorem low_nm {a b : Nat} (hb : (numL b).length ≤ 40) (h0 : 0 < b) (st : Sto) : F_law_low [.int (a : Int), .int (b : Int)] st = .val .P (dF (Rat.divInt (a : Int) (b : Int))) st := by
  have b2 := num_bits hb
  have e2 : (10 : Nat) ^ 40 ≤ 2 ^ 200 := by decide
  exact law_low_eq (by omega) (bit_log (m := 200) (by simp; omega) (by decide)) st
theorem law_place {T : List Nat} (hT : T.length ≤ 5000) (hm : 45 ∉ T) (st : Sto) : (∃ q, Wr T q ∧ F_law_read_place [.str (S T)] st = .val .P (dF q) st) ∨ ((∀ q, ¬ Wr T q) ∧ F_law_read_place [.str (S T)] st = .val .P .non st) := by
  have hw : (S T).length ≤ 1000000 := by rw [S_len]; omega
  have s1 : ((Str.ofString "/").length == 0) = false := rfl
  have wT := wordOf_free hm
  have a0 : ∀ x y : D, atI [x, y] 0 = some x := fun _ _ => rfl
  by_cases hs : 47 ∈ T
  · obtain ⟨A, R, e, hA⟩ := first_sign hs
    have hp := part_S (y := "/") (s := 47) tl_slash (A := A) (R := R) hA
    rw [← e] at hp
    have hl : A.length + R.length + 1 ≤ 5000 := by rw [e] at hT; simp at hT; omega
    have f1 := law_figures_eq A (by omega) st
    have f2 := law_figures_eq R (by omega) st
    have c0 : ¬ (Str.ofString "/" = Str.ofString "") := by decide +kernel
    have e' : wordOf T = A ++ 47 :: R := by rw [wT]; exact e
    cases g1 : figB A with
    | false =>
      rw [g1] at f1
      refine .inr ⟨fun q h => ?_, ?_⟩
      · obtain ⟨n, m, rfl, rfl, n1, n2, _⟩ := h.two e' hA
        rw [figB_num n n1] at g1; cases g1
      · generalize S T = z at *
        simp -implicitDefEqProofs [F_law_read_place, g_law_read_place, hw, hp, s1, f1]
    | true =>
      rw [g1] at f1
      cases g2 : figB R with
      | false =>
        rw [g2] at f2
        refine .inr ⟨fun q h => ?_, ?_⟩
        · obtain ⟨n, m, rfl, rfl, n1, n2, _⟩ := h.two e' hA
          rw [figB_num m n2] at g2; cases g2
        · generalize S T = z at *
          simp -implicitDefEqProofs [F_law_read_place, g_law_read_place, hw, hp, s1, f1, f2, c0]
      | true =>
        rw [g2] at f2
        obtain ⟨a, rfl, la⟩ := figB_iff.mp g1
        obtain ⟨b, rfl, lb⟩ := figB_iff.mp g2
        have i1 : intText? (S (numL a)) = some (a : Int) := int_S la
        have i2 : intText? (S (numL b)) = some (b : Int) := int_S lb
        have l1 : (S (numL a)).length ≤ 640 := by rw [S_len]; omega
        have l2 : (S (numL b)).length ≤ 640 := by rw [S_len]; omega
        by_cases hb2 : b < 2
        · refine .inr ⟨fun q h => ?_, ?_⟩
          · obtain ⟨n, m, e1, e2, n1, n2, n3, _⟩ := h.two e' hA
            have := TL.numL_inj e2; omega
          · have hb : (b : Int) < 2 := by omega
            generalize (b : Int) = bi at *
            generalize (a : Int) = ai at *
            generalize S (numL a) = za at *
            generalize S (numL b) = zb at *
            generalize S T = z at *
            simp -implicitDefEqProofs [F_law_read_place, g_law_read_place, hw, hp, s1, f1, f2, c0, i1, i2, l1, l2, hb]
        · have lo := low_nm (a := a) lb (by omega) st
          have hb : ¬ (b : Int) < 2 := by omega
          have key : (Rat.divInt (a : Int) (b : Int)).num = a ∧ ((Rat.divInt (a : Int) (b : Int)).den : Int) = b ↔ Wr T (Rat.divInt (a : Int) (b : Int)) := by
            constructor
            · intro h
              have h2 : (Rat.divInt (a : Int) (b : Int)).den = b := by omega
              refine wr_two ?_ e' hA (by omega) (by omega)
              rw [tl_ftxtZ, h.1, h2, if_neg (by omega), if_neg (by omega), e]
              simp
            · intro h
              obtain ⟨n, m, e1, e2, n1, n2, n3, h1, h2, _⟩ := h.two e' hA
              have hq := wr_pos hm h
              have := Rat.num_nonneg.mpr hq
              have e3 := TL.numL_inj e1
              have e4 := TL.numL_inj e2
              omega
          by_cases c : (Rat.divInt (a : Int) (b : Int)).num = a ∧ ((Rat.divInt (a : Int) (b : Int)).den : Int) = b
          · refine .inl ⟨_, key.mp c, ?_⟩
            have ne : ∀ st, oNe (dF (Rat.divInt (a : Int) (b : Int))) (dF (Rat.divInt (a : Int) (b : Int))) st = .val .P (.bl false) st := fun st => by simp
            have dq : D.tup [.int (a : Int), .int (b : Int)] = dF (Rat.divInt (a : Int) (b : Int)) := by unfold dF; rw [c.1, c.2]
            generalize dF (Rat.divInt (a : Int) (b : Int)) = dd at *
            generalize (b : Int) = bi at *
            generalize (a : Int) = ai at *
            generalize S (numL a) = za at *
            generalize S (numL b) = zb at *
            generalize S T = z at *
            simp -implicitDefEqProofs [F_law_read_place, g_law_read_place, hw, hp, s1, f1, f2, c0, i1, i2, l1, l2, hb, lo, ne, dq]
          · refine .inr ⟨fun q h => ?_, ?_⟩
            · obtain ⟨n, m, e1, e2, n1, n2, n3, h1, h2, hq⟩ := h.two e' hA
              rw [sgn_free hm] at hq
              have e3 := TL.numL_inj e1
              have e4 := TL.numL_inj e2
              subst e3; subst e4
              rw [← hq] at c
              have := Rat.num_nonneg.mpr (wr_pos hm h)
              exact c ⟨by omega, by omega⟩
            · have ne : ∀ st, oNe (dF (Rat.divInt (a : Int) (b : Int))) (.tup [.int (a : Int), .int (b : Int)]) st = .val .P (.bl true) st := fun st => by
                have hc := fun (x y u v : Int) (st : Sto) => show oNe (.tup [.int x, .int y]) (.tup [.int u, .int v]) st = .val .P (.bl (!decide (x = u ∧ y = v))) st from by simp
                unfold dF
                rw [hc, decide_eq_false c]; rfl
              generalize dF (Rat.divInt (a : Int) (b : Int)) = dd at *
              generalize (b : Int) = bi at *
              generalize (a : Int) = ai at *
              generalize S (numL a) = za at *
              generalize S (numL b) = zb at *
              generalize S T = z at *
              simp -implicitDefEqProofs [F_law_read_place, g_law_read_place, hw, hp, s1, f1, f2, c0, i1, i2, l1, l2, hb, lo, ne]
  · have hp := part_none (y := "/") (s := 47) tl_slash (A := T) hs
    have e0 : Str.empty = Str.ofString "" := by decide +kernel
    rw [e0] at hp
    have f1 := law_figures_eq T (by omega) st
    have hs' : 47 ∉ wordOf T := by rw [wT]; exact hs
    cases g1 : figB T with
    | false =>
      rw [g1] at f1
      refine .inr ⟨fun q h => ?_, ?_⟩
      · obtain ⟨n, e, n1, _⟩ := h.one hs'
        rw [wT] at e
        rw [e, figB_num n n1] at g1; cases g1
      · generalize S T = z at *
        simp -implicitDefEqProofs [F_law_read_place, g_law_read_place, hw, hp, s1, f1]
    | true =>
      rw [g1] at f1
      obtain ⟨a, e, la⟩ := figB_iff.mp g1
      have i1 : intText? (S T) = some (a : Int) := by rw [e]; exact int_S la
      have l1 : (S T).length ≤ 640 := by rw [S_len, e]; omega
      refine .inl ⟨(a : Int), ?_, ?_⟩
      · refine wr_one ?_ hs' (by rw [wT, e]; exact la)
        rw [tl_ftxtZ, e]
        have h1 : ((a : Int) : Rat).num = a := rfl
        have h2 : ((a : Int) : Rat).den = 1 := rfl
        rw [h1, h2, if_neg (by omega), if_pos rfl]; simp
      · have dq : D.tup [.int (a : Int), .int 1] = dF ((a : Int) : Rat) := rfl
        generalize dF ((a : Int) : Rat) = dd at *
        generalize (a : Int) = ai at *
        generalize S T = z at *
        simp -implicitDefEqProofs [F_law_read_place, g_law_read_place, hw, hp, s1, f1, i1, l1, dq]
open TL (tl numL)
def wtx (p : Rat × Rat) : List Nat := tl (spTxt p)
theorem wtx_eq (p : Rat × Rat) : wtx p = tl (ftxt p.1) ++ 45 :: tl (ftxt p.2) := by
  unfold wtx spTxt
  rw [TL.tl_append, TL.tl_append, tl_dash]; simp
theorem wtx_sp {p : Rat × Rat} (h : 0 ≤ p.1 ∧ 0 ≤ p.2) : sp 45 (wtx p) = [tl (ftxt p.1), tl (ftxt p.2)] := by
  rw [wtx_eq, sp_app (ftxt_free h.1 (by omega)), sp_none (ftxt_free h.2 (by omega))]
theorem wtx_inj {p q : Rat × Rat} (hp : 0 ≤ p.1 ∧ 0 ≤ p.2) (hq : 0 ≤ q.1 ∧ 0 ≤ q.2) (h : wtx p = wtx q) : p = q := spTxt_inj hp hq (TL.ext_tl h)
def WrS (W : List Nat) (p : Rat × Rat) : Prop := W = wtx p ∧ Few p.1 ∧ Few p.2
theorem wrS_of {W A B : List Nat} {p : Rat × Rat} (e : sp 45 W = [A, B]) (h : WrS W p) : Wr A p.1 ∧ Wr B p.2 := by
  obtain ⟨rfl, h1, h2⟩ := h
  rw [wtx_sp ⟨h1.1, h2.1⟩] at e
  simp only [List.cons.injEq, and_true] at e
  exact ⟨e.1 ▸ few_wr h1, e.2 ▸ few_wr h2⟩
theorem wrS_two {W : List Nat} {p : Rat × Rat} (h : WrS W p) : ∃ A B, sp 45 W = [A, B] := by
  obtain ⟨rfl, h1, h2⟩ := h
  exact ⟨_, _, wtx_sp ⟨h1.1, h2.1⟩⟩
theorem of_wrS {W A B : List Nat} {p : Rat × Rat} (e : sp 45 W = [A, B]) (ha : Wr A p.1) (hb : Wr B p.2) : WrS W p := by
  have fr := sp_free 45 W
  rw [e] at fr
  have j := sp_join 45 W
  rw [e] at j
  refine ⟨?_, wr_few (fr A (by simp)) ha, wr_few (fr B (by simp)) hb⟩
  rw [wtx_eq, ha.1, hb.1, ← j]
  simp [TL.joinL]
theorem spw_len {s : Nat} : ∀ l, (sp s l).length ≤ l.length + 1
  | [] => by simp [sp]
  | c :: l => by
    have ih := spw_len (s := s) l
    unfold sp
    split
    · simp; omega
    · split
      · simp
      · rename_i h t e; rw [e] at ih; simp at ih ⊢; omega
theorem sp_part {s : Nat} : ∀ l, ∀ p ∈ sp s l, p.length ≤ l.length
  | [], p, m => by simp [sp] at m; subst m; simp
  | c :: l, p, m => by
    have ih := sp_part (s := s) l
    unfold sp at m
    split at m
    · rcases List.mem_cons.mp m with rfl | m
      · simp
      · have := ih p m; simp; omega
    · split at m
      · simp at m; subst m; simp
      · rename_i h t e
        rw [e] at ih
        rcases List.mem_cons.mp m with rfl | m
        · have := ih h (by simp); simp; omega
        · have := ih p (by simp [m]); simp; omega
theorem split_dash {W : List Nat} : Txt.split (S W) (Str.ofString "-") = (sp 45 W).map S := split_S (y := Str.ofString "-") tl_dash (by decide +kernel) W
theorem read_span_any {W : List Nat} (hW : W.length ≤ 5000) (st : Sto) : (∃ p, WrS W p ∧ F_read_span [.str (S W)] st = .val .P (dPair p) st) ∨ ((∀ p, ¬ WrS W p) ∧ F_read_span [.str (S W)] st = .exc 2 [] st) := by
  have hsp := split_dash (W := W)
  have hpt := sp_part (s := 45) W
  have hln := spw_len (s := 45) W
  have ld : ¬ (Str.ofString "-").length = 0 := by decide +kernel
  have l2 : (S W).length + 2 ≤ 1000000 := by rw [S_len]; omega
  have a0 : ∀ a b : D, atI [a, b] 0 = some a := fun a b => rfl
  have a1 : ∀ a b : D, atI [a, b] 1 = some b := fun a b => rfl
  by_cases c : ∃ A B, sp 45 W = [A, B]
  · obtain ⟨A, B, e⟩ := c
    rw [e] at hsp hpt
    have lA := hpt A (by simp)
    have lB := hpt B (by simp)
    have hsp' : Txt.split (S W) (Str.ofString "-") = [S A, S B] := hsp
    rcases read_any (T := A) (by omega) st with ⟨a, ha, r1⟩ | ⟨na, r1⟩
    · rcases read_any (T := B) (by omega) st with ⟨b, hb, r2⟩ | ⟨nb, r2⟩
      · refine .inl ⟨(a, b), of_wrS e ha hb, ?_⟩
        have dp : D.tup [dF a, dF b] = dPair (a, b) := rfl
        generalize dPair (a, b) = dd at *
        generalize dF a = da at *
        generalize dF b = db at *
        generalize S A = za at *
        generalize S B = zb at *
        generalize S W = z at *
        simp -implicitDefEqProofs [F_read_span, g_read_span, hsp', ld, l2, a0, a1, r1, r2, dp]
      · refine .inr ⟨fun p h => nb _ (wrS_of e h).2, ?_⟩
        generalize dF a = da at *
        generalize S A = za at *
        generalize S B = zb at *
        generalize S W = z at *
        simp -implicitDefEqProofs [F_read_span, g_read_span, hsp', ld, l2, a0, a1, r1, r2]
    · refine .inr ⟨fun p h => na _ (wrS_of e h).1, ?_⟩
      generalize S A = za at *
      generalize S B = zb at *
      generalize S W = z at *
      simp -implicitDefEqProofs [F_read_span, g_read_span, hsp', ld, l2, a0, a1, r1]
  · refine .inr ⟨fun p h => c (wrS_two h), ?_⟩
    have hn : ¬ (sp 45 W).length = 2 := fun z => by
      match hs : sp 45 W, z with
      | [A, B], _ => exact c ⟨A, B, hs⟩
    have hl : ((sp 45 W).map S).length = (sp 45 W).length := List.length_map ..
    have hl2 : (((sp 45 W).map S).map D.str).length = (sp 45 W).length := by simp
    generalize (sp 45 W).length = n at *
    have n2 : ¬ ((n : Int) = 2) := by omega
    have n3 : n ≤ 1000000 := by omega
    generalize (sp 45 W).map S = M at *
    generalize hMd : M.map D.str = MD at *
    generalize S W = z at *
    simp -implicitDefEqProofs [F_read_span, g_read_span, hsp, ld, l2, hl, hMd, hl2, n2, n3]
open TL (tl numL)
theorem swF_len {p : Rat → Rat → Bool} : ∀ (l F : List (Rat × Rat)), (l.foldl (swStep p) F).length ≤ F.length + l.length
  | [], F => by simp
  | x :: l, F => by
    have h1 := swF_len (p := p) l (swStep p F x)
    have h2 := swStep_len p F x
    simp only [List.foldl_cons, List.length_cons]
    omega
theorem norm_len (L : List (Rat × Rat)) : (norm L).length ≤ 2 * L.length := by
  unfold norm sw
  have h1 := swF_len (p := cvr L) (adj (plc L)) []
  have h2 : (adj (plc L)).length ≤ (plc L).length := by unfold adj; rw [List.length_zip]; omega
  have h3 := insAll_len (endsOf L) []
  have h4 := ends_len L
  unfold plc at *
  simp only [List.length_nil] at h1 h3
  omega
theorem few_norm {L : List (Rat × Rat)} (h : FewL L) : FewL (norm L) := fun s m => by
  obtain ⟨h1, h2⟩ := norm_ends s m
  have key : ∀ x ∈ endsOf L, Few x := fun x hx => by
    obtain ⟨p, hp, rfl | rfl⟩ := mem_ends.mp hx
    · exact (h p hp).1
    · exact (h p hp).2
  exact ⟨key _ h1, key _ h2⟩
theorem FewL.pos {L : List (Rat × Rat)} (h : FewL L) : Pos2 L := fun p m => ⟨(h p m).1.1, (h p m).2.1⟩
theorem FewL.sz {L : List (Rat × Rat)} (h : FewL L) : SzL 600 L := fun p m => ⟨(h p m).1.2.2.2, (h p m).2.2.2.2⟩
theorem prog_words {e0 e1 e2 : SL} {st : Sto} : ∀ (ws : List (List Nat)) (acc : List D), (∀ w ∈ ws, w.length ≤ 5000) →
    (∃ L, ws = L.map wtx ∧ FewL L ∧ lcGoE (lcStepE (tgN 3) (fun E => .val .P (.bl true) E.st) ce_read_share_1 [e0, e1, e2, .emp]) (ws.map fun w => D.str (S w)) acc st = .val .N (.lst (acc ++ L.map dPair)) st) ∨
    ((∀ L, FewL L → ws ≠ L.map wtx) ∧ lcGoE (lcStepE (tgN 3) (fun E => .val .P (.bl true) E.st) ce_read_share_1 [e0, e1, e2, .emp]) (ws.map fun w => D.str (S w)) acc st = .exc 2 [] st)
  | [], acc, _ => .inl ⟨[], rfl, fun p m => by simp at m, by simp [lcGoE]⟩
  | w :: ws, acc, h => by
    have hw := h w (by simp)
    rcases read_span_any hw st with ⟨p, hp, r⟩ | ⟨np, r⟩
    · have hstep : lcStepE (tgN 3) (fun E => .val .P (.bl true) E.st) ce_read_share_1 [e0, e1, e2, .emp] (D.str (S w)) st = .ok (some (dPair p)) st := by
        generalize dPair p = dd at *
        generalize S w = z at *
        simp -implicitDefEqProofs [lcStepE, q_ce_read_share_1, r]
      rcases prog_words ws (acc ++ [dPair p]) (fun v m => h v (by simp [m])) with ⟨L, e, hF, r2⟩ | ⟨nL, r2⟩
      · refine .inl ⟨p :: L, by rw [List.map_cons, ← hp.1, e], fun q m => ?_, ?_⟩
        · rcases List.mem_cons.mp m with rfl | m
          · exact hp.2
          · exact hF q m
        · rw [List.map_cons, lcGoE, hstep]
          show lcGoE _ _ (acc ++ [dPair p]) st = _
          rw [r2]; simp
      · refine .inr ⟨fun L hF e => ?_, ?_⟩
        · cases L with
          | nil => simp at e
          | cons q L =>
            simp only [List.map_cons, List.cons.injEq] at e
            exact nL L (fun x m => hF x (by simp [m])) e.2
        · rw [List.map_cons, lcGoE, hstep]
          exact r2
    · refine .inr ⟨fun L hF e => ?_, ?_⟩
      · cases L with
        | nil => simp at e
        | cons q L =>
          simp only [List.map_cons, List.cons.injEq] at e
          exact np q ⟨e.1, hF q (by simp)⟩
      · have hstep : lcStepE (tgN 3) (fun E => .val .P (.bl true) E.st) ce_read_share_1 [e0, e1, e2, .emp] (D.str (S w)) st = .exc 2 [] st := by
          generalize S w = z at *
          simp -implicitDefEqProofs [lcStepE, q_ce_read_share_1, r]
        rw [List.map_cons, lcGoE, hstep]
def Good (L : List (Rat × Rat)) : Prop := FewL L ∧ Can L ∧ L.any outS = false
theorem sh_words {L : List (Rat × Rat)} (hL : Pos2 L) (hn : L ≠ []) : sp 32 (tl (shTxt L)) = L.map wtx := by
  have h := shTxt_split hL hn
  have e : shTxt L = S (tl (shTxt L)) := TL.ext_tl (by rw [tl_S])
  rw [e] at h
  have h2 := split_S (y := Str.ofString " ") (s := 32) tl_blank (by decide +kernel) (tl (shTxt L))
  have h3 : (sp 32 (tl (shTxt L))).map S = L.map spTxt := h2.symm.trans h
  have h4 := congrArg (List.map tl) h3
  rw [List.map_map, List.map_map] at h4
  have h5 : (tl ∘ S) = id := by funext x; exact tl_S x
  rw [h5, List.map_id] at h4
  exact h4
theorem of_words {T : List Nat} {L : List (Rat × Rat)} (hn : L ≠ []) (e : sp 32 T = L.map wtx) : S T = shTxt L := by
  have h := sp_join 32 T
  rw [e] at h
  unfold shTxt
  rw [if_neg hn]
  refine TL.ext_tl ?_
  rw [tl_S, TL.join_eq, TL.tl_join, tl_blank, List.map_map]
  exact h.symm
open TL (tl numL)
theorem any_out_norm {L : List (Rat × Rat)} (h : L.any outS = false) (hn : ∀ p ∈ norm L, p.1 < p.2) : (norm L).any outS = false := by
  rw [List.any_eq_false] at h ⊢
  intro p m
  obtain ⟨h1, h2⟩ := norm_ends p m
  have key : ∀ x ∈ endsOf L, 0 ≤ x ∧ x ≤ 1 := fun x hx => by
    obtain ⟨q, hq, e⟩ := mem_ends.mp hx
    have := h q hq
    simp only [outS, decide_eq_true_eq, not_or] at this
    rcases e with rfl | rfl <;> grind
  have k1 := key _ h1
  have k2 := key _ h2
  have k3 := hn p m
  simp only [outS, decide_eq_true_eq, not_or]
  grind
theorem good_norm {L : List (Rat × Rat)} (hF : FewL L) (h : L.any outS = false) : Good (norm L) :=
  ⟨few_norm hF, (norm_spec L).1, any_out_norm h fun p m => (norm_spec L).1.1 p m⟩
theorem joinL_ge : ∀ ps : List (List Nat), (∀ p ∈ ps, 3 ≤ p.length) → 4 * ps.length ≤ (TL.joinL [32] ps).length + 1
  | [], _ => by simp
  | [p], h => by have := h p (by simp); simp [TL.joinL]; omega
  | p :: q :: r, h => by
    have ih := joinL_ge (q :: r) fun x m => h x (by simp at m ⊢; right; exact m)
    have := h p (by simp)
    simp only [TL.joinL, List.length_append, List.length_cons, List.length_nil] at ih ⊢
    omega
theorem wtx_len (p : Rat × Rat) (h : 0 ≤ p.1 ∧ 0 ≤ p.2) : 3 ≤ (wtx p).length := by
  have key : ∀ q : Rat, 0 ≤ q → 1 ≤ (tl (ftxt q)).length := fun q hq => by
    obtain ⟨c, cs, e, _⟩ := ftxt_head hq
    rw [e]; simp
  rw [wtx_eq]
  have := key _ h.1
  have := key _ h.2
  rw [List.length_append, List.length_cons]; omega
theorem words_few {T : List Nat} {L : List (Rat × Rat)} (hF : FewL L) (e : sp 32 T = L.map wtx) : 4 * L.length ≤ T.length + 1 := by
  have h := joinL_ge (sp 32 T) (by rw [e]; intro p m; obtain ⟨q, hq, rfl⟩ := List.mem_map.mp m; exact wtx_len q (hF.pos q hq))
  rw [sp_join, e, List.length_map] at h
  exact h
theorem read_share_any {T : List Nat} (hT : T.length ≤ 1100) {st : Sto} (tb : TbOk st) :
    (∃ L, Good L ∧ S T = shTxt L ∧ L.length ≤ 1200 ∧ F_read_share [.str (S T)] st = .val .P (.ptr st.length) (st ++ [shr L])) ∨
    ((∀ L, Good L → S T ≠ shTxt L) ∧ ∃ o, F_read_share [.str (S T)] st = .exc 2 [] (st ++ o)) := by
  by_cases c : S T = Str.ofString "none"
  · refine .inl ⟨[], ⟨fun p m => by simp at m, can_nil, rfl⟩, by rw [c]; rfl, by simp, ?_⟩
    have hi := share_init (s := 600) (L := []) (by decide) (fun p m => by simp at m) (by simp) tb
    have e0 : norm ([] : List (Rat × Rat)) = [] := rfl
    rw [e0] at hi
    have hj : F_Share___init__ [.ptr st.length, .lst []] (st ++ [.ins 5 []]) = ER.val .P .non (st ++ [shr []]) := hi
    have hnew := app_new (st := st) (y := shr [])
    have hs := str_eq (k := 199) hnew (fun p m => by simp at m) (fun p m => by simp at m) (by decide) (by simp)
    have e1 : shTxt [] = Str.ofString "none" := rfl
    rw [e1] at hs
    rw [c]
    generalize st ++ [shr []] = S1 at *
    unfold shr at hnew
    rw [List.map_nil] at hnew
    simp -implicitDefEqProofs [F_read_share, g_read_share, hj, hnew, hs]
  · have hsp : Txt.split (S T) (Str.ofString " ") = (sp 32 T).map S := split_S (y := Str.ofString " ") tl_blank (by decide +kernel) T
    have lb : ¬ (Str.ofString " ").length = 0 := by decide +kernel
    have lt : (S T).length + 2 ≤ 1000000 := by rw [S_len]; omega
    have hpt := sp_part (s := 32) T
    have hln := spw_len (s := 32) T
    have hml : ((sp 32 T).map S).length ≤ 1000000 := by simp; omega
    have hmd : (((sp 32 T).map S).map D.str).length ≤ 1000000 := by simp; omega
    have hmm : ((sp 32 T).map S).map D.str = (sp 32 T).map fun w => D.str (S w) := by rw [List.map_map]; rfl
    rcases prog_words (e0 := .val (.str (S T))) (e1 := .val (.lst [])) (e2 := .emp) (st := st) (sp 32 T) [] (fun w m => by have := hpt w m; omega) with ⟨L, e, hF, r⟩ | ⟨nL, r⟩
    · rw [← hmm] at r
      have hLl : L.length ≤ 300 := by have := words_few hF e; omega
      have hL0 : L ≠ [] := fun z => by rw [z] at e; exact sp_ne 32 T e
      have hi := share_init (s := 600) (L := L) (by decide) hF.sz (by omega) tb
      rw [List.nil_append] at r
      cases ho : L.any outS with
      | true =>
        rw [ho, if_pos rfl] at hi
        refine .inr ⟨fun M hM e2 => ?_, [.ins 5 []], ?_⟩
        · have hM0 : M ≠ [] := fun z => by rw [z] at e2; exact c e2
          have h1 := sh_words hM.1.pos hM0
          rw [← e2, tl_S, e] at h1
          have h3 : L = M := by
            refine map_sp_inj hF.pos hM.1.pos ?_
            have h4 := congrArg (List.map S) h1
            rw [List.map_map, List.map_map] at h4
            have h5 : (S ∘ wtx) = spTxt := by funext p; exact TL.ext_tl (by show tl (S (wtx p)) = _; rw [tl_S]; rfl)
            rw [h5] at h4
            exact h4
          rw [h3, hM.2.2] at ho; cases ho
        · have hj : _ = ER.exc 4 [] (st ++ [.ins 5 []]) := hi
          rw [← hmm] at hmm
          generalize hM : (sp 32 T).map S = M at *
          generalize hMD : M.map D.str = MD at *
          generalize L.map dPair = DL at *
          generalize S T = z at *
          simp -implicitDefEqProofs [F_read_share, g_read_share, c, hsp, hMD, lb, lt, hml, hmd, r, hj, sub_NoSpan]
      | false =>
        rw [ho, if_neg (by simp)] at hi
        have gN := good_norm hF ho
        have hnl := norm_len L
        have hnew := app_new (st := st) (y := shr (norm L))
        have tx := str_eq (k := 199) hnew gN.1.pos gN.1.sz (by decide) (by omega)
        by_cases q : shTxt (norm L) = S T
        · refine .inl ⟨norm L, gN, q.symm, by omega, ?_⟩
          rw [q] at tx
          have hj : _ = ER.val .P .non (st ++ [shr (norm L)]) := hi
          rw [← hmm] at hmm
          generalize hM : (sp 32 T).map S = M at *
          generalize hMD : M.map D.str = MD at *
          generalize L.map dPair = DL at *
          generalize st ++ [shr (norm L)] = S1 at *
          unfold shr at hnew
          generalize S T = z at *
          simp -implicitDefEqProofs [F_read_share, g_read_share, c, hsp, hMD, lb, lt, hml, hmd, r, hj, hnew, tx]
        · refine .inr ⟨fun M hM e2 => ?_, [shr (norm L)], ?_⟩
          · have hM0 : M ≠ [] := fun z => by rw [z] at e2; exact c e2
            have h1 := sh_words hM.1.pos hM0
            rw [← e2, tl_S, e] at h1
            have h3 : L = M := by
              refine map_sp_inj hF.pos hM.1.pos ?_
              have h4 := congrArg (List.map S) h1
              rw [List.map_map, List.map_map] at h4
              have h5 : (S ∘ wtx) = spTxt := by funext p; exact TL.ext_tl (by show tl (S (wtx p)) = _; rw [tl_S]; rfl)
              rw [h5] at h4
              exact h4
            have h6 : norm L = L := norm_of (by rw [h3]; exact hM.2.1) fun x => Iff.rfl
            rw [h6, h3] at q
            exact q e2.symm
          · have hj : _ = ER.val .P .non (st ++ [shr (norm L)]) := hi
            generalize hM : (sp 32 T).map S = M at *
            generalize hMD : M.map D.str = MD at *
            generalize L.map dPair = DL at *
            generalize st ++ [shr (norm L)] = S1 at *
            generalize shTxt (norm L) = z2 at *
            unfold shr at hnew
            generalize S T = z at *
            simp -implicitDefEqProofs [F_read_share, g_read_share, c, hsp, hMD, lb, lt, hml, hmd, r, hj, hnew, tx, q]
    · rw [← hmm] at r
      refine .inr ⟨fun M hM e2 => ?_, [], ?_⟩
      · have hM0 : M ≠ [] := fun z => by rw [z] at e2; exact c e2
        have h1 := sh_words hM.1.pos hM0
        rw [← e2, tl_S] at h1
        exact nL M hM.1 h1
      · rw [List.append_nil]
        rw [← hmm] at hmm
        generalize hM : (sp 32 T).map S = M at *
        generalize hMD : M.map D.str = MD at *
        generalize S T = z at *
        simp -implicitDefEqProofs [F_read_share, g_read_share, c, hsp, hMD, lb, lt, hml, hmd, r]
theorem law_less_eq {a b : Rat} {m n : Nat} (ha : Sz m a) (hb : Sz n b) (h : m + n < 900000) (st : Sto) : F_law_less [dF a, dF b] st = .val .P (.bl (decide (a < b))) st := by
  have m1 := bit_log2 ha.1 hb.den (by omega)
  have m2 := bit_log2 hb.1 ha.den (by omega)
  simp only [Int.natAbs_natCast] at m1 m2
  simp [F_law_less, g_law_less, m1, m2, lt_num]
open TL (tl numL)
def lastLt (R : List (Rat × Rat)) (a : Rat) : Bool := match R.getLast? with | none => true | some r => decide (r.2 < a)
def LawW (R : List (Rat × Rat)) (p : Rat × Rat) : Prop := p.1 < p.2 ∧ p.2 ≤ 1 ∧ lastLt R p.1 = true
theorem wr_uniq {T : List Nat} {q r : Rat} (hm : 45 ∉ T) (h : Wr T q) (k : Wr T r) : q = r := ftxt_inj (wr_pos hm h) (wr_pos hm k) (TL.ext_tl (h.1.trans k.1.symm))
theorem num_den {q : Rat} (h : 0 ≤ q) : (q.num > (q.den : Int)) ↔ ¬ q ≤ 1 := by
  have h1 := den_pos q
  rw [Rat.le_iff]
  simp
theorem law_word {W : List Nat} (hW : W.length ≤ 5000) {R : List (Rat × Rat)} (hR : R.length ≤ 5000) (hRF : FewL R) {e0 e3 e4 e5 : SL} (st : Sto) :
    (∃ p e3' e4' e5', WrS W p ∧ LawW R p ∧ fb_law_read_1 ⟨[e0, .own (R.map dPair), .val (.str (S W)), e3, e4, e5], st⟩ = .nx ⟨[e0, .own ((R ++ [p]).map dPair), .val (.str (S W)), e3', e4', e5'], st⟩) ∨
    ((∀ p, ¬ (WrS W p ∧ LawW R p)) ∧ fb_law_read_1 ⟨[e0, .own (R.map dPair), .val (.str (S W)), e3, e4, e5], st⟩ = .rt .P .non st) := by
  have hsp := split_dash (W := W)
  have hpt := sp_part (s := 45) W
  have hln := spw_len (s := 45) W
  have hfr := sp_free 45 W
  have ld : ¬ (Str.ofString "-").length = 0 := by decide +kernel
  have l2 : (S W).length + 2 ≤ 1000000 := by rw [S_len]; omega
  have a0 : ∀ a b : D, atI [a, b] 0 = some a := fun a b => rfl
  have a1 : ∀ a b : D, atI [a, b] 1 = some b := fun a b => rfl
  by_cases c : ∃ A B, sp 45 W = [A, B]
  · obtain ⟨A, B, e⟩ := c
    rw [e] at hsp hpt hfr
    have lA := hpt A (by simp)
    have lB := hpt B (by simp)
    have hsp' : Txt.split (S W) (Str.ofString "-") = [S A, S B] := hsp
    rcases law_place (T := A) (by omega) (hfr A (by simp)) st with ⟨a, ha, r1⟩ | ⟨na, r1⟩
    · have nA : isNon (dF a) = false := rfl
      rcases law_place (T := B) (by omega) (hfr B (by simp)) st with ⟨b, hb, r2⟩ | ⟨nb, r2⟩
      · have nB : isNon (dF b) = false := rfl
        have wab : WrS W (a, b) := of_wrS e ha hb
        have uni : ∀ p, WrS W p → p = (a, b) := fun p h => by
          obtain ⟨h1, h2⟩ := wrS_of e h
          exact Prod.ext (wr_uniq (hfr A (by simp)) h1 ha) (wr_uniq (hfr B (by simp)) h2 hb)
        have sa := (wr_few (hfr A (by simp)) ha).2.2.2
        have sb := (wr_few (hfr B (by simp)) hb).2.2.2
        have ll := fun st => law_less_eq (a := a) (b := b) sa sb (by decide) st
        have ixn : ∀ st, oIx (dF b) (.int 0) st = .val .P (.int b.num) st := fun st => by simp -implicitDefEqProofs [dF, a0]
        have ixd : ∀ st, oIx (dF b) (.int 1) st = .val .P (.int (b.den : Int)) st := fun st => by simp -implicitDefEqProofs [dF, a1]
        have hcmp := num_den (wr_pos (hfr B (by simp)) hb)
        by_cases c1 : b ≤ 1
        · by_cases c2 : a < b
          · have hc : ¬ ((b.den : Int) < b.num) := fun z => hcmp.mp z c1
            rw [decide_eq_true c2] at ll
            have lapp : (R.map dPair).length < 1000000 := by simp; omega
            have hd : D.tup [dF a, dF b] = dPair (a, b) := rfl
            have hmap : (R ++ [(a, b)]).map dPair = R.map dPair ++ [dPair (a, b)] := by simp
            have fin : (dAnd (dOp oGt (dCB oLen (aCons (dVar 1) aNil)) (dC (.int 0))) (dNot (dCall F_law_less (aCons (dOp oIx (dOp oIx (dVar 1) (dUn oNeg (dC (.int 1)))) (dC (.int 1))) (aCons (dVar 4) aNil))))) ⟨[e0, .own (R.map dPair), .val (.str (S W)), .val (.lst [.str (S A), .str (S B)]), .val (dF a), .val (dF b)], st⟩ = .val .P (.bl (!lastLt R a)) st := by
              rcases List.eq_nil_or_concat R with h | ⟨R', r, h⟩
              · subst h
                simp -implicitDefEqProofs [lastLt]
              · rw [List.concat_eq_append] at h
                subst h
                have n0 : ¬ ((R' ++ [r]).map dPair).length = 0 := by simp
                have gl : atI ((R' ++ [r]).map dPair) (-1) = some (dPair r) := by
                  rw [List.map_append, List.map_cons, List.map_nil]
                  have : ixN (R'.map dPair ++ [dPair r]).length (-1) = some (R'.map dPair).length := by
                    unfold ixN; simp; omega
                  unfold atI
                  rw [this]; simp
                have lr := law_less_eq (a := r.2) (b := a) (hRF r (by simp)).2.2.2.2 sa (by decide) st
                have dr : dPair r = .tup [dF r.1, dF r.2] := rfl
                have e3 : lastLt (R' ++ [r]) a = decide (r.2 < a) := by simp [lastLt]
                have lm : ((R' ++ [r]).map dPair).length ≤ 1000000 := by simp at hR ⊢; omega
                rw [e3]
                generalize hRR : (R' ++ [r]).map dPair = RR at n0 gl lm ⊢
                have n1 : (0 : Int) < (RR.length : Int) := by omega
                rw [dr] at gl
                generalize dF a = da at *
                generalize dF r.1 = d1 at *
                generalize dF r.2 = d2 at *
                have n2 : ¬ RR = [] := fun z => n0 (by rw [z]; rfl)
                simp -implicitDefEqProofs [n1, n2, lm, gl, a1, lr]
            by_cases c3 : lastLt R a = true
            · refine .inl ⟨(a, b), .val (.lst [.str (S A), .str (S B)]), .val (dF a), .val (dF b), wab, ⟨c2, c1, c3⟩, ?_⟩
              rw [c3] at fin
              rw [hmap]
              generalize dPair (a, b) = dd at *
              generalize dF a = da at *
              generalize dF b = db at *
              generalize R.map dPair = RD at *
              generalize S A = za at *
              generalize S B = zb at *
              generalize S W = z at *
              simp -implicitDefEqProofs [q_fb_law_read_1, hsp', ld, l2, a0, a1, r1, r2, nA, nB, ixn, ixd, hc, ll, fin, lapp, hd, mAppend, -e_dAnd]
            · refine .inr ⟨fun p h => ?_, ?_⟩
              · have := uni p h.1; subst this; exact c3 h.2.2.2
              · rw [Bool.not_eq_true] at c3
                rw [c3] at fin
                generalize dF a = da at *
                generalize dF b = db at *
                generalize R.map dPair = RD at *
                generalize S A = za at *
                generalize S B = zb at *
                generalize S W = z at *
                simp -implicitDefEqProofs [q_fb_law_read_1, hsp', ld, l2, a0, a1, r1, r2, nA, nB, ixn, ixd, hc, ll, fin, -e_dAnd]
          · refine .inr ⟨fun p h => ?_, ?_⟩
            · have := uni p h.1; subst this; exact c2 h.2.1
            · have hc : ¬ ((b.den : Int) < b.num) := fun z => hcmp.mp z c1
              rw [decide_eq_false c2] at ll
              generalize dF a = da at *
              generalize dF b = db at *
              generalize R.map dPair = RD at *
              generalize S A = za at *
              generalize S B = zb at *
              generalize S W = z at *
              simp -implicitDefEqProofs [q_fb_law_read_1, hsp', ld, l2, a0, a1, r1, r2, nA, nB, ixn, ixd, hc, ll]
        · refine .inr ⟨fun p h => ?_, ?_⟩
          · have := uni p h.1; subst this; exact c1 h.2.2.1
          · have hc : (b.den : Int) < b.num := hcmp.mpr c1
            generalize dF a = da at *
            generalize dF b = db at *
            generalize R.map dPair = RD at *
            generalize S A = za at *
            generalize S B = zb at *
            generalize S W = z at *
            simp -implicitDefEqProofs [q_fb_law_read_1, hsp', ld, l2, a0, a1, r1, r2, nA, nB, ixn, ixd, hc]
      · refine .inr ⟨fun p h => nb _ (wrS_of e h.1).2, ?_⟩
        generalize dF a = da at *
        generalize R.map dPair = RD at *
        generalize S A = za at *
        generalize S B = zb at *
        generalize S W = z at *
        simp -implicitDefEqProofs [q_fb_law_read_1, hsp', ld, l2, a0, a1, r1, r2, nA]
    · rcases law_place (T := B) (by omega) (hfr B (by simp)) st with ⟨b, hb, r2⟩ | ⟨nb, r2⟩
      · refine .inr ⟨fun p h => na _ (wrS_of e h.1).1, ?_⟩
        generalize dF b = da at *
        generalize R.map dPair = RD at *
        generalize S A = za at *
        generalize S B = zb at *
        generalize S W = z at *
        simp -implicitDefEqProofs [q_fb_law_read_1, hsp', ld, l2, a0, a1, r1, r2]
      · refine .inr ⟨fun p h => na _ (wrS_of e h.1).1, ?_⟩
        generalize R.map dPair = RD at *
        generalize S A = za at *
        generalize S B = zb at *
        generalize S W = z at *
        simp -implicitDefEqProofs [q_fb_law_read_1, hsp', ld, l2, a0, a1, r1, r2]
  · refine .inr ⟨fun p h => c (wrS_two h.1), ?_⟩
    have hn : ¬ (sp 45 W).length = 2 := fun z => by
      match hs : sp 45 W, z with
      | [A, B], _ => exact c ⟨A, B, hs⟩
    have hl : ((sp 45 W).map S).length = (sp 45 W).length := List.length_map ..
    have hl2 : (((sp 45 W).map S).map D.str).length = (sp 45 W).length := by simp
    generalize (sp 45 W).length = n at *
    have n2 : ¬ ((n : Int) = 2) := by omega
    have n3 : n ≤ 1000000 := by omega
    generalize (sp 45 W).map S = M at *
    generalize hMd : M.map D.str = MD at *
    generalize R.map dPair = RD at *
    generalize S W = z at *
    simp -implicitDefEqProofs [q_fb_law_read_1, hsp, ld, l2, hl, hMd, hl2, n2, n3]
open TL (tl numL)
theorem can_lastLt {R : List (Rat × Rat)} {p : Rat × Rat} (h : Can R) : (Can (R ++ [p]) ↔ p.1 < p.2 ∧ lastLt R p.1 = true) := by
  rw [can_snoc]
  constructor
  · rintro ⟨_, h1, h2⟩
    refine ⟨h1, ?_⟩
    unfold lastLt
    cases e : R.getLast? with
    | none => rfl
    | some r => exact decide_eq_true (h2 r (List.mem_of_getLast? e))
  · rintro ⟨h1, h2⟩
    refine ⟨h, h1, fun t m => ?_⟩
    rcases List.eq_nil_or_concat R with z | ⟨R', r, z⟩
    · subst z; simp at m
    · rw [List.concat_eq_append] at z
      subst z
      have h3 : r.2 < p.1 := by simpa [lastLt] using h2
      rcases List.mem_append.mp m with m | m
      · have h4 := can_snoc.mp h
        have h5 := h4.2.2 t m
        have h6 := h4.2.1
        grind
      · simp at m; subst m; exact h3
theorem good_snoc {R : List (Rat × Rat)} {p : Rat × Rat} (h : Good R) (hp : Few p.1 ∧ Few p.2) : Good (R ++ [p]) ↔ LawW R p := by
  have h0 := hp.1.1
  have ho : (R ++ [p]).any outS = outS p := by rw [List.any_append, h.2.2]; simp
  constructor
  · rintro ⟨_, h1, h2⟩
    obtain ⟨h3, h4⟩ := (can_lastLt h.2.1).mp h1
    rw [ho] at h2
    simp only [outS, decide_eq_false_iff_not, not_or] at h2
    exact ⟨h3, by grind, h4⟩
  · rintro ⟨h1, h2, h3⟩
    refine ⟨fun q m => ?_, (can_lastLt h.2.1).mpr ⟨h1, h3⟩, ?_⟩
    · rcases List.mem_append.mp m with m | m
      · exact h.1 q m
      · simp at m; subst m; exact hp
    · rw [ho]
      simp only [outS, decide_eq_false_iff_not, not_or]
      grind
theorem good_pre {R L : List (Rat × Rat)} (h : Good (R ++ L)) : Good R := by
  refine ⟨fun p m => h.1 p (List.mem_append_left _ m), ?_, ?_⟩
  · have h2 := h.2.1
    exact ⟨fun s m => h2.1 s (List.mem_append_left _ m), (List.pairwise_append.mp h2.2).1⟩
  · have h3 := h.2.2
    rw [List.any_append] at h3
    cases e : R.any outS with
    | false => rfl
    | true => rw [e] at h3; simp at h3
theorem law_words {e0 : SL} {st : Sto} : ∀ (ws : List (List Nat)) (R : List (Rat × Rat)) (e2 e3 e4 e5 : SL), (∀ w ∈ ws, w.length ≤ 5000) → R.length + ws.length ≤ 5000 → Good R →
    (∃ L e2' e3' e4' e5', ws = L.map wtx ∧ Good (R ++ L) ∧ forD (tgB (tgN 2) fb_law_read_1) (ws.map fun w => D.str (S w)) ⟨[e0, .own (R.map dPair), e2, e3, e4, e5], st⟩ = .nx ⟨[e0, .own ((R ++ L).map dPair), e2', e3', e4', e5'], st⟩) ∨
    ((∀ L, ws = L.map wtx → ¬ Good (R ++ L)) ∧ forD (tgB (tgN 2) fb_law_read_1) (ws.map fun w => D.str (S w)) ⟨[e0, .own (R.map dPair), e2, e3, e4, e5], st⟩ = .rt .P .non st)
  | [], R, e2, e3, e4, e5, _, _, hG => .inl ⟨[], e2, e3, e4, e5, rfl, by rw [List.append_nil]; exact hG, by rw [List.append_nil]; rfl⟩
  | w :: ws, R, e2, e3, e4, e5, h, hl, hG => by
    have hw := h w (by simp)
    simp only [List.length_cons] at hl
    have hstep : ∀ r, fb_law_read_1 ⟨[e0, .own (R.map dPair), .val (.str (S w)), e3, e4, e5], st⟩ = r → tgB (tgN 2) fb_law_read_1 (D.str (S w)) ⟨[e0, .own (R.map dPair), e2, e3, e4, e5], st⟩ = r := fun r hr => by
      generalize R.map dPair = RD at *
      generalize S w = z at *
      rw [← hr]; simp -implicitDefEqProofs
    rcases law_word hw (R := R) (by omega) hG.1 (e0 := e0) (e3 := e3) (e4 := e4) (e5 := e5) st with ⟨p, f3, f4, f5, hp, hL, r⟩ | ⟨np, r⟩
    · have hG2 := (good_snoc hG hp.2).mpr hL
      rw [List.map_cons, e_forC, hstep _ r]
      rcases law_words ws (R ++ [p]) (.val (.str (S w))) f3 f4 f5 (fun v m => h v (by simp [m])) (by simp; omega) hG2 with ⟨L, g2, g3, g4, g5, e, hF, r2⟩ | ⟨nL, r2⟩
      · refine .inl ⟨p :: L, g2, g3, g4, g5, by rw [List.map_cons, ← hp.1, e], by rw [List.append_cons]; exact hF, ?_⟩
        rw [List.append_cons R p L]
        exact r2
      · refine .inr ⟨fun L e hF => ?_, r2⟩
        cases L with
        | nil => simp at e
        | cons q L =>
          simp only [List.map_cons, List.cons.injEq] at e
          have hq := hF.1 q (by simp)
          have : q = p := wtx_inj ⟨hq.1.1, hq.2.1⟩ ⟨hp.2.1.1, hp.2.2.1⟩ (e.1.symm.trans hp.1)
          subst this
          rw [List.append_cons] at hF
          exact nL L e.2 hF
    · refine .inr ⟨fun L e hF => ?_, ?_⟩
      · cases L with
        | nil => simp at e
        | cons q L =>
          simp only [List.map_cons, List.cons.injEq] at e
          rw [List.append_cons] at hF
          have hq := hF.1 q (by simp)
          exact np q ⟨⟨e.1, hq⟩, (good_snoc hG hq).mp (good_pre hF)⟩
      · rw [List.map_cons, e_forC, hstep _ r]
theorem law_read_any {T : List Nat} (hT : T.length ≤ 1100) (st : Sto) :
    (∃ L, Good L ∧ S T = shTxt L ∧ F_law_read [.str (S T)] st = .val .P (.lst (L.map dPair)) st) ∨ (∃ L, Good L ∧ S T = shTxt L ∧ F_law_read [.str (S T)] st = .val .N (.lst (L.map dPair)) st) ∨
    ((∀ L, Good L → S T ≠ shTxt L) ∧ F_law_read [.str (S T)] st = .val .P .non st) := by
  by_cases c : S T = Str.ofString "none"
  · refine .inr (.inl ⟨[], ⟨fun p m => by simp at m, can_nil, rfl⟩, by rw [c]; rfl, ?_⟩)
    rw [c]
    simp -implicitDefEqProofs [F_law_read, g_law_read]
  · have hsp : Txt.split (S T) (Str.ofString " ") = (sp 32 T).map S := split_S (y := Str.ofString " ") tl_blank (by decide +kernel) T
    have lb : ¬ (Str.ofString " ").length = 0 := by decide +kernel
    have lt : (S T).length + 2 ≤ 1000000 := by rw [S_len]; omega
    have hpt := sp_part (s := 32) T
    have hln := spw_len (s := 32) T
    have hml : ((sp 32 T).map S).length ≤ 1000000 := by simp; omega
    have hmd : (((sp 32 T).map S).map D.str).length ≤ 1000000 := by simp; omega
    have hmm : ((sp 32 T).map S).map D.str = (sp 32 T).map fun w => D.str (S w) := by rw [List.map_map]; rfl
    rcases law_words (e0 := .val (.str (S T))) (st := st) (sp 32 T) [] .emp .emp .emp .emp (fun w m => by have := hpt w m; omega) (by simp; omega) ⟨fun p m => by simp at m, can_nil, rfl⟩ with ⟨L, f2, f3, f4, f5, e, hF, r⟩ | ⟨nL, r⟩
    · rw [← hmm] at r
      have hL0 : L ≠ [] := fun z => by rw [z] at e; exact sp_ne 32 T e
      refine .inr (.inl ⟨L, hF, of_words hL0 e, ?_⟩)
      rw [List.nil_append] at r
      rw [← hmm] at hmm
      generalize hM : (sp 32 T).map S = M at *
      generalize hMD : M.map D.str = MD at *
      generalize L.map dPair = DL at *
      rw [List.map_nil] at r
      generalize S T = z at *
      simp -implicitDefEqProofs [F_law_read, g_law_read, c, hsp, hMD, lb, lt, hml, hmd, r]
    · refine .inr (.inr ⟨fun L hF e2 => ?_, ?_⟩)
      · have hL0 : L ≠ [] := fun z => by rw [z] at e2; exact c e2
        have h1 := sh_words hF.1.pos hL0
        rw [← e2, tl_S] at h1
        exact nL L h1 hF
      · rw [← hmm] at r hmm
        generalize hM : (sp 32 T).map S = M at *
        generalize hMD : M.map D.str = MD at *
        rw [List.map_nil] at r
        generalize S T = z at *
        simp -implicitDefEqProofs [F_law_read, g_law_read, c, hsp, hMD, lb, lt, hml, hmd, r]
def wsum (ws : List Str) : Nat := (ws.map (·.length)).sum
theorem wsum_cons (w : Str) (ws : List Str) : wsum (w :: ws) = w.length + wsum ws := rfl
theorem wsum_mem {ws : List Str} {w : Str} (h : w ∈ ws) : w.length ≤ wsum ws := by
  induction ws with
  | nil => cases h
  | cons a l ih =>
    rw [wsum_cons]
    rcases List.mem_cons.mp h with rfl | h
    · omega
    · have := ih h; omega
theorem wsum_set (ws : List Str) (i : Nat) (x : Str) : wsum (ws.set i x) ≤ wsum ws + x.length := by
  induction ws generalizing i with
  | nil => simp [wsum]
  | cons a l ih =>
    cases i with
    | zero => rw [List.set_cons_zero, wsum_cons, wsum_cons]; omega
    | succ i => rw [List.set_cons_succ, wsum_cons, wsum_cons]; have := ih i; omega
theorem wsum_erase (ws : List Str) (i : Nat) : wsum (ws.eraseIdx i) ≤ wsum ws := by
  induction ws generalizing i with
  | nil => simp
  | cons a l ih =>
    cases i with
    | zero => rw [List.eraseIdx_cons_zero, wsum_cons]; omega
    | succ i => rw [List.eraseIdx_cons_succ, wsum_cons, wsum_cons]; have := ih i; omega
theorem wsum_app (a b : List Str) : wsum (a ++ b) = wsum a + wsum b := by unfold wsum; rw [List.map_append, List.sum_append]
theorem join_len (ws : List Str) : (Txt.join " " ws).length ≤ wsum ws + ws.length := by
  rw [TL.join_eq, TL.len_tl, TL.tl_join]
  have e : TL.tl (Str.ofString " ") = [32] := rfl
  show (TL.joinL (TL.tl (Str.ofString " ")) (ws.map TL.tl)).length ≤ _
  rw [e]
  induction ws with
  | nil => simp [TL.joinL]
  | cons a l ih =>
    cases l with
    | nil => simp [TL.joinL, wsum, TL.len_tl]
    | cons b l =>
      rw [wsum_cons, List.map_cons, List.map_cons, TL.joinL]
      have h : (TL.tl a).length = a.length := (TL.len_tl a).symm
      rw [List.map_cons] at ih
      simp only [List.length_append, List.length_cons, List.length_nil] at ih ⊢
      omega
theorem popAt_ok {l : List D} {i : Int} {k : Nat} {d : D} (h0 : 0 ≤ i) (h1 : i < 100000) (hs : seqIndex? i l.length = some k) (hd : l[k]? = some d) : mPopAt l [.int i] = some (d, l.eraseIdx k) := by
  rw [e_mPopAt, if_pos (by omega), hs]
  simp [hd]
theorem strs_map : ∀ l : List Str, strsOf (l.map D.str) = some l
  | [] => rfl
  | a :: l => by simp only [List.map_cons, strsOf, strs_map l]; rfl
theorem ins_ok {l : List D} {i : Int} {d : D} (h0 : 0 ≤ i) (h1 : i < 100000) (hl : l.length < 1000000) : mInsert l [.int i, d] = some (.non, l.take i.toNat ++ [d] ++ l.drop i.toNat) := by
  rw [e_mInsert, if_pos ⟨hl, h0, by omega⟩]
theorem ixN_nat {n : Nat} {i : Int} (h0 : 0 ≤ i) (h1 : i < n) : ixN n i = some i.toNat := by
  unfold ixN
  rw [if_pos h0, if_pos h1]
theorem sq_nat {n : Nat} {i : Int} (h0 : 0 ≤ i) (h1 : i < n) : seqIndex? i n = some i.toNat := by
  have h2 : ¬ i < 0 := by omega
  simp [seqIndex?, h2, h0, h1]
theorem at_ex {ws : List Str} {i : Int} (h0 : 0 ≤ i) (h1 : i < ws.length) : ∃ x, atI (ws.map D.str) i = some (.str x) ∧ x ∈ ws := by
  have h2 : i.toNat < ws.length := by omega
  refine ⟨ws[i.toNat], ?_, List.getElem_mem h2⟩
  have := atI_nat (xs := ws.map D.str) (j := i.toNat) (by rw [List.getElem?_map, List.getElem?_eq_getElem h2]; rfl)
  rwa [Int.toNat_of_nonneg h0] at this
open TL (tl numL)
theorem wsum_sp (s : Nat) : ∀ l : List Nat, wsum ((sp s l).map S) + (sp s l).length = l.length + 1
  | [] => rfl
  | c :: l => by
    have ih := wsum_sp s l
    unfold sp
    split
    · rw [List.map_cons, wsum_cons, S_len]; simp only [List.length_cons, List.length_nil]; omega
    · cases e : sp s l with
      | nil => exact absurd e (sp_ne s l)
      | cons h t =>
        rw [e, List.map_cons, wsum_cons, S_len] at ih
        rw [List.map_cons, wsum_cons, S_len]
        simp only [List.length_cons] at ih ⊢
        omega
theorem wsum_set2 (ws : List Str) (i : Nat) (x y : Str) (h : ws[i]? = some y) : wsum (ws.set i x) + y.length = wsum ws + x.length := by
  induction ws generalizing i with
  | nil => simp at h
  | cons w ws ih =>
    cases i with
    | zero => simp at h; subst h; simp [wsum_cons]; omega
    | succ i =>
      rw [List.getElem?_cons_succ] at h
      have := ih i h
      rw [List.set_cons_succ, wsum_cons, wsum_cons]; omega
noncomputable def chT : En → SR :=
  (sSeq (sIf (dOp oEq (dVar 2) (dC (.int 1))) (sRet (dOp oAdd (dOp oAdd (dSl oSl (dVar 1) (fun _ => none) (fun e => some ((dVar 5) e))) (dVar 4)) (dSl oSl (dVar 1) (fun e => some ((dVar 5) e)) (fun _ => none)))) sSkip)
  (sSeq (sIf (dOp oEq (dVar 2) (dC (.int 2))) (sRet (dOp oAdd (dSl oSl (dVar 1) (fun _ => none) (fun e => some ((dVar 5) e))) (dSl oSl (dVar 1) (fun e => some ((dOp oAdd (dVar 5) (dC (.int 1))) e)) (fun _ => none)))) sSkip)
  (sSeq (sIf (dOp oEq (dVar 2) (dC (.int 3))) (sRet (dOp oAdd (dOp oAdd (dSl oSl (dVar 1) (fun _ => none) (fun e => some ((dVar 5) e))) (dVar 4)) (dSl oSl (dVar 1) (fun e => some ((dOp oAdd (dVar 5) (dC (.int 1))) e)) (fun _ => none)))) sSkip)
  (sSeq (sIf (dOp oEq (dVar 2) (dC (.int 4))) (sMt mPopAt 6 (aCons (dVar 7) aNil)) sSkip)
  (sSeq (sIf (dOp oEq (dVar 2) (dC (.int 5))) (sMt mInsert 6 (aCons (dVar 7) (aCons (dOp oIx (dVar 6) (dVar 8)) aNil))) sSkip)
  (sSeq (sIf (dOp oEq (dVar 2) (dC (.int 6))) (sSeq (sSetF 12 (dOp oIx (dVar 6) (dVar 7)))
  (sSeq (sSetI 6 (dOp oIx (dVar 6) (dVar 8)) (dVar 7))
  (sSetI 6 (dVar 12) (dVar 8)))) sSkip)
  (sSeq (sIf (dOp oEq (dVar 2) (dC (.int 7))) (sSeq (sAsg (tgT 3 (tgsCons (tgN 13) (tgsCons (tgN 14) (tgsCons (tgN 15) tgsNil)))) (dMs msPartition (dOp oIx (dVar 6) (dVar 7)) (aCons (dC (.str "-")) aNil)))
  (sSetI 6 (dOp oIx (dLst (aCons (dOp oAdd (dOp oAdd (dVar 11) (dC (.str "-"))) (dVar 15)) (aCons (dOp oAdd (dOp oAdd (dVar 13) (dC (.str "-"))) (dVar 11)) aNil))) (dCall F_law_take (aCons (dVar 0) (aCons (dC (.int 2)) aNil)))) (dVar 7))) sSkip)
  (sSeq (sIf (dOp oEq (dVar 2) (dC (.int 8))) (sRet (dOp oIx (dLst (aCons (dC (.str "none")) (aCons (dC (.str "")) (aCons (dC (.str "none none")) (aCons (dC (.str "None")) (aCons (dC (.str " none")) (aCons (dC (.str "0-1")) aNil))))))) (dCall F_law_take (aCons (dVar 0) (aCons (dC (.int 6)) aNil))))) sSkip)
  (sFrz 6 (sRet (dMs msJoin (dC (.str " ")) (aCons (dVar 6) aNil))))))))))))
noncomputable def chE : En → SR :=
  (sSeq (sSetF 9 (dOp oAdd (dC (.str "1")) (dOp oMulS (dC (.str "0")) (dOp oAdd (dC (.int 38)) (dCall F_law_take (aCons (dVar 0) (aCons (dC (.int 3)) aNil)))))))
  (sSeq (sSetF 10 (dLst (aCons (dC (.str "2/2")) (aCons (dC (.str "2/4")) (aCons (dC (.str "3/2")) (aCons (dC (.str "-1/2")) (aCons (dC (.str "01")) (aCons (dOp oAdd (dC (.str "1/")) (dVar 9)) (aCons (dC (.str "0/1")) (aCons (dC (.str "1/1")) (aCons (dOp oAdd (dOp oAdd (dSl oSl (dVar 9) (fun e => some ((dC (.int 1)) e)) (fun _ => none)) (dC (.str "/"))) (dVar 9)) (aCons (dC (.str "1")) (aCons (dC (.str "0")) (aCons (dC (.str "")) aNil))))))))))))))
  (sSeq (sSetF 11 (dOp oIx (dVar 10) (dCall F_law_take (aCons (dVar 0) (aCons (dCB oLen (aCons (dVar 10) aNil)) aNil)))))
  chT)))
theorem twelve {P : Int → Prop} (h : ∀ k : Nat, k < 12 → P k) (a : Int) (h0 : 0 ≤ a) (h1 : a < 12) : P a := by
  have := h a.toNat (by omega)
  rwa [Int.toNat_of_nonneg h0] at this
theorem chE_run {p q N : Nat} {st : Sto} (B : Box p q N st) (hN : N ≤ 1000) {e1 e2 e3 e4 e5 e6 e7 e8 : SL} :
    ∃ e9 e10 o st', chE ⟨[.val (.ptr p), e1, e2, e3, e4, e5, e6, e7, e8, .emp, .emp, .emp, .emp, .emp, .emp, .emp], st⟩ = chT ⟨[.val (.ptr p), e1, e2, e3, e4, e5, e6, e7, e8, e9, e10, .val (.str o), .emp, .emp, .emp, .emp], st'⟩ ∧ o.length ≤ 83 ∧ Box p q (N + 2) st' ∧ Rest p q st st' := by
  obtain ⟨r, st1, t1, r0, r1, B1, R1⟩ := take_ok B (n := 3) (by decide) (by decide) (by omega)
  obtain ⟨k, st2, t2, k0, k1, B2, R2⟩ := take_ok B1 (n := 12) (by decide) (by decide) (by omega)
  have go : ∀ (n : Int) (g gs : Str), Txt.mul (Str.ofString "0") n = gs → n = 38 + r → Str.ofString "1" ++ gs = g → (Str.ofString "1").length + gs.length ≤ 1000000 → g.length ≤ 41 → 0 ≤ n → n ≤ 1000 → ∃ e9 e10 o st', chE ⟨[.val (.ptr p), e1, e2, e3, e4, e5, e6, e7, e8, .emp, .emp, .emp, .emp, .emp, .emp, .emp], st⟩ = chT ⟨[.val (.ptr p), e1, e2, e3, e4, e5, e6, e7, e8, e9, e10, .val (.str o), .emp, .emp, .emp, .emp], st'⟩ ∧ o.length ≤ 83 ∧ Box p q (N + 2) st' ∧ Rest p q st st' := by
    intro n g gs h1 hn h2 h3 hg n0 n1
    have l1 : (Str.ofString "0").length ≤ 1000 := by decide
    have l2 : (Str.ofString "1/").length = 2 := rfl
    have l3 : (Str.ofString "/").length = 1 := rfl
    have c1 := cutS_len g (some 1) none
    have a1 : (Str.ofString "1/").length + g.length ≤ 1000000 := by rw [l2]; omega
    have a2 : (cutS g (some 1) none).length + (Str.ofString "/").length ≤ 1000000 := by rw [l3]; omega
    have a4 : (cutS g (some 1) none ++ Str.ofString "/").length = (cutS g (some 1) none).length + 1 := by rw [Str.length_append, l3]
    have a3 : (cutS g (some 1) none ++ Str.ofString "/").length + g.length ≤ 1000000 := by rw [a4]; omega
    have g6 : g.length ≤ 1000000 := by omega
    have x1 : (Str.ofString "1/" ++ g).length ≤ 83 := by rw [Str.length_append, l2]; omega
    have x2 : (cutS g (some 1) none ++ Str.ofString "/" ++ g).length ≤ 83 := by rw [Str.length_append, a4]; omega
    have hat : ∃ o : Str, atI [D.str (Str.ofString "2/2"), .str (Str.ofString "2/4"), .str (Str.ofString "3/2"), .str (Str.ofString "-1/2"), .str (Str.ofString "01"), .str (Str.ofString "1/" ++ g), .str (Str.ofString "0/1"), .str (Str.ofString "1/1"), .str (cutS g (some 1) none ++ Str.ofString "/" ++ g), .str (Str.ofString "1"), .str (Str.ofString "0"), .str (Str.ofString "")] k = some (.str o) ∧ o.length ≤ 83 := by
      refine twelve (P := fun k => ∃ o : Str, atI [D.str (Str.ofString "2/2"), .str (Str.ofString "2/4"), .str (Str.ofString "3/2"), .str (Str.ofString "-1/2"), .str (Str.ofString "01"), .str (Str.ofString "1/" ++ g), .str (Str.ofString "0/1"), .str (Str.ofString "1/1"), .str (cutS g (some 1) none ++ Str.ofString "/" ++ g), .str (Str.ofString "1"), .str (Str.ofString "0"), .str (Str.ofString "")] k = some (.str o) ∧ o.length ≤ 83) (fun k hk => ?_) k k0 k1
      have : k = 0 ∨ k = 1 ∨ k = 2 ∨ k = 3 ∨ k = 4 ∨ k = 5 ∨ k = 6 ∨ k = 7 ∨ k = 8 ∨ k = 9 ∨ k = 10 ∨ k = 11 := by omega
      rcases this with rfl | rfl | rfl | rfl | rfl | rfl | rfl | rfl | rfl | rfl | rfl | rfl
      · exact ⟨_, rfl, by decide⟩
      · exact ⟨_, rfl, by decide⟩
      · exact ⟨_, rfl, by decide⟩
      · exact ⟨_, rfl, by decide⟩
      · exact ⟨_, rfl, by decide⟩
      · exact ⟨_, rfl, x1⟩
      · exact ⟨_, rfl, by decide⟩
      · exact ⟨_, rfl, by decide⟩
      · exact ⟨_, rfl, x2⟩
      · exact ⟨_, rfl, by decide⟩
      · exact ⟨_, rfl, by decide⟩
      · exact ⟨_, rfl, by decide⟩
    obtain ⟨o, ho, hol⟩ := hat
    generalize hcg : cutS g (some 1) none = cg at *
    generalize hz1 : Str.ofString "1/" ++ g = z1 at *
    generalize hz2 : cg ++ Str.ofString "/" ++ g = z2 at *
    refine ⟨.val (.str g), .val (.lst [D.str (Str.ofString "2/2"), .str (Str.ofString "2/4"), .str (Str.ofString "3/2"), .str (Str.ofString "-1/2"), .str (Str.ofString "01"), .str z1, .str (Str.ofString "0/1"), .str (Str.ofString "1/1"), .str z2, .str (Str.ofString "1"), .str (Str.ofString "0"), .str (Str.ofString "")]), o, st2, ?_, hol, B2, R1.trans R2⟩
    unfold chE
    generalize chT = K at *
    have hn' : 38 + r = n := hn.symm
    simp -implicitDefEqProofs [t1, hn', n0, n1, l1, h1, h3, h2, g6, hcg, a1, a2, a3, hz1, hz2, t2, ho]
  have : r = 0 ∨ r = 1 ∨ r = 2 := by omega
  rcases this with rfl | rfl | rfl
  · exact go 38 _ _ rfl rfl rfl (by decide +kernel) (by decide +kernel) (by decide) (by decide)
  · exact go 39 _ _ rfl rfl rfl (by decide +kernel) (by decide +kernel) (by decide) (by decide)
  · exact go 40 _ _ rfl rfl rfl (by decide +kernel) (by decide +kernel) (by decide) (by decide)
open TL (tl numL)
theorem chT_end {FS : List Str} {FD : List D} {e0 e1 e2 e3 e4 e5 e7 e8 e9 e10 e11 e12 e13 e14 e15 : SL} {st : Sto} (hs : strsOf FD = some FS) (hl : wsum FS + FS.length ≤ 1000000) : sFrz 6 (sRet (dMs msJoin (dC (.str " ")) (aCons (dVar 6) aNil))) ⟨[e0, e1, e2, e3, e4, e5, .own FD, e7, e8, e9, e10, e11, e12, e13, e14, e15], st⟩ = .rt .P (.str (Txt.join " " FS)) st := by
  have h1 : (FS.map (·.length)).sum + FS.length * (Str.ofString " ").length ≤ 1000000 := by
    have : (Str.ofString " ").length = 1 := rfl
    rw [this]; unfold wsum at hl; omega
  have hj : seqStrs (.lst FD) st = some FS := by rw [← hs]; rfl
  have e : Txt.join " " FS = Txt.join (Str.ofString " ") FS := rfl
  rw [e]
  generalize Str.ofString " " = sp at *
  simp -implicitDefEqProofs [hj, h1]
theorem w9 {w : Int} (h0 : 0 ≤ w) (h1 : w < 9) : w = 0 ∨ w = 1 ∨ w = 2 ∨ w = 3 ∨ w = 4 ∨ w = 5 ∨ w = 6 ∨ w = 7 ∨ w = 8 := by omega
theorem chT_run {p q N : Nat} {st : Sto} (B : Box p q N st) (hN : N ≤ 1000) {X c o : Str} {ws : List Str} {w at_ a b : Int} {e3 e9 e10 : SL} (hX : X.length ≤ 2000) (w0 : 0 ≤ w) (w1 : w < 9) (hc : c.length = 1) (p0 : 0 ≤ at_) (a0 : 0 ≤ a) (a1 : a < ws.length) (b0 : 0 ≤ b) (b1 : b < ws.length) (hw : wsum ws + ws.length = X.length + 1) (ho : o.length ≤ 83) :
    ∃ Y st', (chT ⟨[.val (.ptr p), .val (.str X), .val (.int w), e3, .val (.str c), .val (.int at_), .own (ws.map .str), .val (.int a), .val (.int b), e9, e10, .val (.str o), .emp, .emp, .emp, .emp], st⟩).ret = .val .P (.str Y) st' ∧ Y.length ≤ 2 * X.length + 90 ∧ Box p q (N + 1) st' ∧ Rest p q st st' := by
  obtain ⟨x, hx, mx⟩ := at_ex (ws := ws) a0 a1
  obtain ⟨y, hy, my⟩ := at_ex (ws := ws) b0 b1
  have lx := wsum_mem mx
  have ly := wsum_mem my
  have hl : (ws.map D.str).length = ws.length := List.length_map _
  have hia := ixN_nat (n := (ws.map D.str).length) a0 (by omega)
  have hib := ixN_nat (n := (ws.map D.str).length) b0 (by omega)
  have jl := fun FS : List Str => join_len FS
  have h1 : X.length ≤ 1000000 := by omega
  have k1 := cutS_len X none (some at_)
  have k2 := cutS_len X (some (at_ + 1)) none
  have k3 := cutS_len X (some at_) none
  have q1 : (cutS X none (some at_)).length + c.length ≤ 1000000 := by omega
  have q2 : (cutS X none (some at_) ++ c).length = (cutS X none (some at_)).length + 1 := by rw [Str.length_append, hc]
  have q3 : (cutS X none (some at_) ++ c).length + (cutS X (some at_) none).length ≤ 1000000 := by omega
  have q4 : (cutS X none (some at_)).length + (cutS X (some (at_ + 1)) none).length ≤ 1000000 := by omega
  have q5 : (cutS X none (some at_) ++ c).length + (cutS X (some (at_ + 1)) none).length ≤ 1000000 := by omega
  have done : ∀ (FS : List Str) {r : ER}, r = .val .P (.str (Txt.join " " FS)) st → wsum FS + FS.length ≤ 2 * X.length + 90 → ∃ Y st', r = .val .P (.str Y) st' ∧ Y.length ≤ 2 * X.length + 90 ∧ Box p q (N + 1) st' ∧ Rest p q st st' := fun FS r hr hF => ⟨_, _, hr, by have := jl FS; omega, B.up (by omega), Rest.refl⟩
  have sm := strs_map ws
  rcases w9 w0 w1 with rfl | rfl | rfl | rfl | rfl | rfl | rfl | rfl | rfl
  · refine done ws ?_ (by omega)
    have r := fun e0 e1 e2 e3 e4 e5 e7 e8 e9 e10 e11 e12 e13 e14 e15 => chT_end (e0 := e0) (e1 := e1) (e2 := e2) (e3 := e3) (e4 := e4) (e5 := e5) (e7 := e7) (e8 := e8) (e9 := e9) (e10 := e10) (e11 := e11) (e12 := e12) (e13 := e13) (e14 := e14) (e15 := e15) (st := st) sm (by omega)
    unfold chT
    generalize ws.map D.str = WD at *
    generalize sFrz 6 (sRet (dMs msJoin (dC (.str " ")) (aCons (dVar 6) aNil))) = K at *
    simp -implicitDefEqProofs [r]
  · refine ⟨cutS X none (some at_) ++ c ++ cutS X (some at_) none, st, ?_, by rw [Str.length_append, q2]; omega, B.up (by omega), Rest.refl⟩
    unfold chT
    generalize ws.map D.str = WD at *
    simp -implicitDefEqProofs [h1, q1, q3]
  · refine ⟨cutS X none (some at_) ++ cutS X (some (at_ + 1)) none, st, ?_, by rw [Str.length_append]; omega, B.up (by omega), Rest.refl⟩
    unfold chT
    generalize ws.map D.str = WD at *
    simp -implicitDefEqProofs [h1, q4]
  · refine ⟨cutS X none (some at_) ++ c ++ cutS X (some (at_ + 1)) none, st, ?_, by rw [Str.length_append, q2]; omega, B.up (by omega), Rest.refl⟩
    unfold chT
    generalize ws.map D.str = WD at *
    simp -implicitDefEqProofs [h1, q1, q5]
  · have hp := popAt_ok (l := ws.map D.str) (i := a) (k := a.toNat) (d := .str x) a0 (by omega) (sq_nat a0 (by omega)) (by
      have := hx
      unfold atI at this
      rw [hia] at this
      exact this)
    have e := strs_map (ws.eraseIdx a.toNat)
    rw [← map_eraseIdx] at e
    have we := wsum_erase ws a.toNat
    have wl := List.length_eraseIdx_le ws a.toNat
    refine done (ws.eraseIdx a.toNat) ?_ (by omega)
    have r := fun e0 e1 e2 e3 e4 e5 e7 e8 e9 e10 e11 e12 e13 e14 e15 => chT_end (e0 := e0) (e1 := e1) (e2 := e2) (e3 := e3) (e4 := e4) (e5 := e5) (e7 := e7) (e8 := e8) (e9 := e9) (e10 := e10) (e11 := e11) (e12 := e12) (e13 := e13) (e14 := e14) (e15 := e15) (st := st) e (by omega)
    unfold chT
    generalize (ws.map D.str).eraseIdx a.toNat = WE at *
    generalize ws.map D.str = WD at *
    generalize sFrz 6 (sRet (dMs msJoin (dC (.str " ")) (aCons (dVar 6) aNil))) = K at *
    simp -implicitDefEqProofs [hp, r, -e_mPopAt]
  · have hp := ins_ok (l := ws.map D.str) (i := a) (d := .str y) a0 (by omega) (by omega)
    have e := strs_map (ws.take a.toNat ++ [y] ++ ws.drop a.toNat)
    have em : (ws.take a.toNat ++ [y] ++ ws.drop a.toNat).map D.str = (ws.map D.str).take a.toNat ++ [.str y] ++ (ws.map D.str).drop a.toNat := by simp
    rw [em] at e
    have we : wsum (ws.take a.toNat ++ [y] ++ ws.drop a.toNat) = wsum ws + y.length := by
      have h3 : wsum (ws.take a.toNat) + wsum (ws.drop a.toNat) = wsum ws := by rw [← wsum_app, List.take_append_drop]
      rw [wsum_app, wsum_app]
      have : wsum [y] = y.length := by simp [wsum]
      omega
    have wl : (ws.take a.toNat ++ [y] ++ ws.drop a.toNat).length = ws.length + 1 := by simp; omega
    refine done (ws.take a.toNat ++ [y] ++ ws.drop a.toNat) ?_ (by omega)
    have r := fun e0 e1 e2 e3 e4 e5 e7 e8 e9 e10 e11 e12 e13 e14 e15 => chT_end (e0 := e0) (e1 := e1) (e2 := e2) (e3 := e3) (e4 := e4) (e5 := e5) (e7 := e7) (e8 := e8) (e9 := e9) (e10 := e10) (e11 := e11) (e12 := e12) (e13 := e13) (e14 := e14) (e15 := e15) (st := st) e (by omega)
    unfold chT
    generalize (ws.map D.str).take a.toNat ++ [.str y] ++ (ws.map D.str).drop a.toNat = WE at *
    generalize ws.map D.str = WD at *
    generalize sFrz 6 (sRet (dMs msJoin (dC (.str " ")) (aCons (dVar 6) aNil))) = K at *
    simp -implicitDefEqProofs [hp, hy, r, -e_mInsert]
  · have e := strs_map ((ws.set a.toNat y).set b.toNat x)
    have em : ((ws.set a.toNat y).set b.toNat x).map D.str = ((ws.map D.str).set a.toNat (.str y)).set b.toNat (.str x) := by rw [List.map_set, List.map_set]
    rw [em] at e
    have s1 := wsum_set ws a.toNat y
    have s0 : ws[a.toNat]? = some x := by
      have := hx
      unfold atI at this
      rw [hia] at this
      have : (ws.map D.str)[a.toNat]? = some (.str x) := this
      rw [List.getElem?_map] at this
      cases z : ws[a.toNat]? with
      | none => rw [z] at this; simp at this
      | some v => rw [z] at this; simp at this; rw [this]
    have s2 := wsum_set2 ws a.toNat y x s0
    have s3 := wsum_set (ws.set a.toNat y) b.toNat x
    have wl : ((ws.set a.toNat y).set b.toNat x).length = ws.length := by simp
    refine done ((ws.set a.toNat y).set b.toNat x) ?_ (by omega)
    have r := fun e0 e1 e2 e3 e4 e5 e7 e8 e9 e10 e11 e12 e13 e14 e15 => chT_end (e0 := e0) (e1 := e1) (e2 := e2) (e3 := e3) (e4 := e4) (e5 := e5) (e7 := e7) (e8 := e8) (e9 := e9) (e10 := e10) (e11 := e11) (e12 := e12) (e13 := e13) (e14 := e14) (e15 := e15) (st := st) e (by omega)
    unfold chT
    have hib2 : ixN ((ws.map D.str).set a.toNat (.str y)).length b = some b.toNat := by rw [List.length_set]; exact hib
    generalize hWE : ((ws.map D.str).set a.toNat (.str y)) = WE at *
    generalize hWF : WE.set b.toNat (.str x) = WF at *
    generalize ws.map D.str = WD at *
    generalize sFrz 6 (sRet (dMs msJoin (dC (.str " ")) (aCons (dVar 6) aNil))) = K at *
    simp -implicitDefEqProofs [hx, hy, hia, hWE, hib2, hWF, r]
  · obtain ⟨d, st1, t1, d0, d1, B1, R1⟩ := take_ok B (n := 2) (by decide) (by decide) (by omega)
    have hpart : ∃ h s t : Str, Txt.partition x (Str.ofString "-") = (h, s, t) ∧ h.length ≤ x.length ∧ t.length ≤ x.length := by
      have ex : x = S x.cps.toList := S_of x
      have el : x.cps.toList.length = x.length := by simp [Str.length]
      by_cases c : 45 ∈ x.cps.toList
      · obtain ⟨A, R, e, hA⟩ := first_sign c
        have hp := part_S (y := Str.ofString "-") (s := 45) tl_dash (A := A) (R := R) hA
        rw [← e, ← ex] at hp
        have := congrArg List.length e
        simp only [List.length_append, List.length_cons] at this
        exact ⟨_, _, _, hp, by rw [S_len]; omega, by rw [S_len]; omega⟩
      · have hp := part_none (y := Str.ofString "-") (s := 45) tl_dash (A := x.cps.toList) c
        rw [← ex] at hp
        exact ⟨_, _, _, hp, Nat.le_refl _, by show (Str.empty).length ≤ _; exact Nat.zero_le _⟩
    obtain ⟨h, s, t, hp, hh, ht⟩ := hpart
    have l1 : (Str.ofString "-").length = 1 := rfl
    have b9 : ((Str.ofString "-").length == 0) = false := rfl
    have q6 : (o ++ Str.ofString "-").length = o.length + 1 := by rw [Str.length_append, l1]
    have q7 : (h ++ Str.ofString "-").length = h.length + 1 := by rw [Str.length_append, l1]
    have m1 : o.length + (Str.ofString "-").length ≤ 1000000 := by omega
    have m2 : (o ++ Str.ofString "-").length + t.length ≤ 1000000 := by omega
    have m3 : h.length + (Str.ofString "-").length ≤ 1000000 := by omega
    have m4 : (h ++ Str.ofString "-").length + o.length ≤ 1000000 := by omega
    have m5 : x.length ≤ 1000000 := by omega
    have hz : ∃ z : Str, atI [D.str (o ++ Str.ofString "-" ++ t), .str (h ++ Str.ofString "-" ++ o)] d = some (.str z) ∧ z.length ≤ 84 + x.length := by
      have : d = 0 ∨ d = 1 := by omega
      rcases this with rfl | rfl
      · exact ⟨_, rfl, by rw [Str.length_append, q6]; omega⟩
      · exact ⟨_, rfl, by rw [Str.length_append, q7]; omega⟩
    obtain ⟨z, hz, lz⟩ := hz
    have e := strs_map (ws.set a.toNat z)
    rw [List.map_set] at e
    have s1 := wsum_set ws a.toNat z
    have s0 : ws[a.toNat]? = some x := by
      have := hx
      unfold atI at this
      rw [hia] at this
      have : (ws.map D.str)[a.toNat]? = some (.str x) := this
      rw [List.getElem?_map] at this
      cases z : ws[a.toNat]? with
      | none => rw [z] at this; simp at this
      | some v => rw [z] at this; simp at this; rw [this]
    have s2 := wsum_set2 ws a.toNat z x s0
    have wl : (ws.set a.toNat z).length = ws.length := by simp
    have hF : wsum (ws.set a.toNat z) + (ws.set a.toNat z).length ≤ 2 * X.length + 90 := by omega
    refine ⟨Txt.join " " (ws.set a.toNat z), st1, ?_, by have := jl (ws.set a.toNat z); omega, B1, R1⟩
    have r := fun e0 e1 e2 e3 e4 e5 e7 e8 e9 e10 e11 e12 e13 e14 e15 => chT_end (e0 := e0) (e1 := e1) (e2 := e2) (e3 := e3) (e4 := e4) (e5 := e5) (e7 := e7) (e8 := e8) (e9 := e9) (e10 := e10) (e11 := e11) (e12 := e12) (e13 := e13) (e14 := e14) (e15 := e15) (st := st1) e (by omega)
    unfold chT
    generalize hWE : ((ws.map D.str).set a.toNat (.str z)) = WE at *
    generalize ws.map D.str = WD at *
    generalize hz1 : o ++ Str.ofString "-" ++ t = z1 at *
    generalize hz2 : h ++ Str.ofString "-" ++ o = z2 at *
    generalize sFrz 6 (sRet (dMs msJoin (dC (.str " ")) (aCons (dVar 6) aNil))) = K at *
    simp -implicitDefEqProofs [hx, m5, b9, hp, m1, m2, m3, m4, hz1, hz2, t1, hz, hia, hWE, r]
  · obtain ⟨d, st1, t1, d0, d1, B1, R1⟩ := take_ok B (n := 6) (by decide) (by decide) (by omega)
    have hat : ∃ o : Str, atI [D.str (Str.ofString "none"), .str (Str.ofString ""), .str (Str.ofString "none none"), .str (Str.ofString "None"), .str (Str.ofString " none"), .str (Str.ofString "0-1")] d = some (.str o) ∧ o.length ≤ 9 := by
      have : d = 0 ∨ d = 1 ∨ d = 2 ∨ d = 3 ∨ d = 4 ∨ d = 5 := by omega
      rcases this with rfl | rfl | rfl | rfl | rfl | rfl <;> exact ⟨_, rfl, by decide⟩
    obtain ⟨z, hz, lz⟩ := hat
    refine ⟨z, st1, ?_, by omega, B1, R1⟩
    unfold chT
    generalize ws.map D.str = WD at *
    simp -implicitDefEqProofs [t1, hz]
open TL (tl numL)
theorem changed_ok {p q N : Nat} {st : Sto} (B : Box p q N st) (hN : N ≤ 900) {X : Str} (hX : X.length ≤ 2000) : ∃ (Y : Str) (st' : Sto), F_law_changed [.ptr p, .str X] st = .val .P (.str Y) st' ∧ Y.length ≤ 2 * X.length + 90 ∧ Box p q (N + 10) st' ∧ Rest p q st st' := by
  have sk : (Str.ofString " ").cps.all (· < 256) = true := by decide +kernel
  have hsp := split_S (y := Str.ofString " ") (s := 32) tl_blank sk X.cps.toList
  rw [← S_of] at hsp
  have hXl : X.cps.toList.length = X.length := by simp [Str.length]
  have hsum := wsum_sp 32 X.cps.toList
  have hne : (sp 32 X.cps.toList).length ≠ 0 := fun z => sp_ne 32 _ (List.length_eq_zero_iff.mp z)
  have hwl : ((sp 32 X.cps.toList).map S).length = (sp 32 X.cps.toList).length := List.length_map _
  rw [← hwl, hXl] at hsum
  rw [← hwl] at hne
  generalize (sp 32 X.cps.toList).map S = ws at *
  have hl : (ws.map D.str).length = ws.length := List.length_map _
  obtain ⟨w, st1, t1, w0, w1, B1, R1⟩ := take_ok B (n := 9) (by decide) (by decide) (by omega)
  have hsl : (Str.ofString " !\"#$&'()*+,-./0123456789:;<=>?@ABCDEFGHIJKLMNOPQRSTUVWXYZ[\\]^_`abcdefghijklmnopqrstuvwxyz{|}~").length = 94 := by decide +kernel
  obtain ⟨k, st2, t2, k0, k1, B2, R2⟩ := take_ok B1 (n := 94) (by decide) (by decide) (by omega)
  obtain ⟨at_, st3, t3, p0, p1, B3, R3⟩ := take_ok B2 (n := (X.length : Int) + 1) (by omega) (Int.lt_of_lt_of_le (show (X.length : Int) + 1 < 3000 by omega) (by decide)) (by omega)
  obtain ⟨a, st4, t4, a0, a1, B4, R4⟩ := take_ok B3 (n := (ws.length : Int)) (by omega) (Int.lt_of_lt_of_le (show (ws.length : Int) < 3000 by omega) (by decide)) (by omega)
  obtain ⟨b, st5, t5, b0, b1, B5, R5⟩ := take_ok B4 (n := (ws.length : Int)) (by omega) (Int.lt_of_lt_of_le (show (ws.length : Int) < 3000 by omega) (by decide)) (by omega)
  have hzl : (Str.ofString " !\"#$&'()*+,-./0123456789:;<=>?@ABCDEFGHIJKLMNOPQRSTUVWXYZ[\\]^_`abcdefghijklmnopqrstuvwxyz{|}~").cps.toList.length = 94 := by rw [← hsl]; simp [Str.length]
  obtain ⟨cc, hcc⟩ := atI_ok (l := (Str.ofString " !\"#$&'()*+,-./0123456789:;<=>?@ABCDEFGHIJKLMNOPQRSTUVWXYZ[\\]^_`abcdefghijklmnopqrstuvwxyz{|}~").cps.toList) k0 (by omega)
  have hix : ∀ st, oIx (.str (Str.ofString " !\"#$&'()*+,-./0123456789:;<=>?@ABCDEFGHIJKLMNOPQRSTUVWXYZ[\\]^_`abcdefghijklmnopqrstuvwxyz{|}~")) (.int k) st = .val .P (.str ⟨#[cc]⟩) st := fun st => by
    rw [e_oIx_4, hsl, if_pos (by decide), hcc]; rfl
  obtain ⟨e9, e10, o, st6, r6, lo, B6, R6⟩ := chE_run B5 (by omega) (e1 := .val (.str X)) (e2 := .val (.int w)) (e3 := .val (.str " !\"#$&'()*+,-./0123456789:;<=>?@ABCDEFGHIJKLMNOPQRSTUVWXYZ[\\]^_`abcdefghijklmnopqrstuvwxyz{|}~")) (e4 := .val (.str ⟨#[cc]⟩)) (e5 := .val (.int at_)) (e6 := .own (ws.map .str)) (e7 := .val (.int a)) (e8 := .val (.int b))
  obtain ⟨Y, st7, r7, lY, B7, R7⟩ := chT_run B6 (by omega) (X := X) (c := ⟨#[cc]⟩) (o := o) (ws := ws) (w := w) (at_ := at_) (a := a) (b := b) (e3 := .val (.str " !\"#$&'()*+,-./0123456789:;<=>?@ABCDEFGHIJKLMNOPQRSTUVWXYZ[\\]^_`abcdefghijklmnopqrstuvwxyz{|}~")) (e9 := e9) (e10 := e10) hX w0 w1 rfl p0 a0 a1 b0 b1 hsum lo
  have hg : g_law_changed = (sSeq (sSetF 2 (dCall F_law_take (aCons (dVar 0) (aCons (dC (.int 9)) aNil))))
  (sSeq (sSetF 3 (dC (.str " !\"#$&'()*+,-./0123456789:;<=>?@ABCDEFGHIJKLMNOPQRSTUVWXYZ[\\]^_`abcdefghijklmnopqrstuvwxyz{|}~")))
  (sSeq (sSetF 4 (dOp oIx (dVar 3) (dCall F_law_take (aCons (dVar 0) (aCons (dCB oLen (aCons (dVar 3) aNil)) aNil)))))
  (sSeq (sSetF 5 (dCall F_law_take (aCons (dVar 0) (aCons (dOp oAdd (dCB oLen (aCons (dVar 1) aNil)) (dC (.int 1))) aNil))))
  (sSeq (sSet 6 (dMs msSplit (dVar 1) (aCons (dC (.str " ")) aNil)))
  (sSeq (sSetF 7 (dCall F_law_take (aCons (dVar 0) (aCons (dCB oLen (aCons (dVar 6) aNil)) aNil))))
  (sSeq (sSetF 8 (dCall F_law_take (aCons (dVar 0) (aCons (dCB oLen (aCons (dVar 6) aNil)) aNil))))
  chE))))))) := rfl
  refine ⟨Y, st7, ?_, lY, B7.up (by omega), ((((((R1.trans R2).trans R3).trans R4).trans R5).trans R6).trans R7)⟩
  rw [← r7, ← r6]
  have b1' : ((Str.ofString " ").length == 0) = false := rfl
  have h2 : X.length + 2 ≤ 1000000 := by omega
  have h3 : X.length ≤ 1000000 := by omega
  unfold F_law_changed
  rw [hg]
  generalize chE = K at *
  generalize hm : ws.map D.str = WD at *
  have h4 : ws.length ≤ 1000000 := by omega
  rw [← hl] at t4 t5 h4
  have b94 : 94 ≤ 1000000 := by decide
  generalize Str.ofString " !\"#$&'()*+,-./0123456789:;<=>?@ABCDEFGHIJKLMNOPQRSTUVWXYZ[\\]^_`abcdefghijklmnopqrstuvwxyz{|}~" = ZZ at *
  simp -implicitDefEqProofs [t1, hsl, t2, hix, h3, t3, h2, b1', hsp, hm, h4, t4, t5, -e_oIx_4]
open TL (tl numL)
theorem share0 {st : Sto} (T : TbOk st) : F_Share___init__ [.ptr st.length, .lst []] (st ++ [.ins 5 []]) = .val .P .non (st ++ [shr []]) := by
  have h := share_init (s := 600) (L := []) (by decide) (fun p m => by simp at m) (by simp) T
  exact h
theorem turn_yes {z : Str} (hz : z.length ≤ 1100) {L : List (Rat × Rat)} (hG : Good L) (e : z = shTxt L) {d0 d1 d2 d3 d7 : D} {e5 e8 e9 : SL} (h5 : e5 = .emp ∨ ∃ d, e5 = .val d) {st : Sto} (T : TbOk st) :
    ∃ e8' e9' st', fb_law_2 ⟨[.val d0, .val d1, .val d2, .val d3, .val (.str z), e5, .val (.lst (L.map dPair)), .val d7, e8, e9, .emp], st⟩ = .nx ⟨[.val d0, .val d1, .val d2, .val d3, .val (.str z), e5, .val (.lst (L.map dPair)), .val d7, e8', e9', .emp], st'⟩ ∧ TbOk st' := by
  have i0 := share0 T
  have T1 := T.app [shr []]
  generalize hs1 : st ++ [shr []] = s1 at *
  have ez : z = S z.cps.toList := S_of z
  have hl : z.cps.toList.length ≤ 1100 := by have : z.cps.toList.length = z.length := by simp [Str.length]
                                             omega
  rcases read_share_any hl T1 with ⟨M, hM, eM, _, r⟩ | ⟨nM, _⟩
  · rw [← ez] at r eM
    have : M = L := shTxt_inj hM.1.pos hG.1.pos (eM.symm.trans e)
    subst this
    have a1 := app_new (st := s1) (y := shr M)
    have sp := spans_eq a1
    have T2 := T1.app [shr M]
    have ne0 : ∀ st, oNe (.lst []) (.lst []) st = .val .P (.bl false) st := fun st => eq_pairs0 (l := [])
    have nd : isNon (.lst (M.map dPair)) = false := rfl
    have ne : ∀ st, oNe (.lst (M.map dPair)) (.lst (M.map dPair)) st = .val .P (.bl false) st := fun st => eq_pairs0
    generalize s1 ++ [shr M] = s2 at *
    unfold shr at a1
    refine ⟨.val (.lst []), .val (.ptr s1.length), s2, ?_, T2⟩
    generalize M.map dPair = DL at *
    rcases h5 with rfl | ⟨d5, rfl⟩ <;> simp -implicitDefEqProofs [q_fb_law_2, i0, r, nd, a1, sp, ne, ne0]
  · exact absurd (ez.symm.trans e) (nM L hG)
theorem turn_no {z : Str} (hz : z.length ≤ 1100) (hN : ∀ L, Good L → z ≠ shTxt L) {d0 d1 d2 d3 d7 : D} {e5 e8 e9 : SL} (h5 : e5 = .emp ∨ ∃ d, e5 = .val d) {st : Sto} (T : TbOk st) :
    ∃ e8' e9' st', fb_law_2 ⟨[.val d0, .val d1, .val d2, .val d3, .val (.str z), e5, .val .non, .val d7, e8, e9, .emp], st⟩ = .nx ⟨[.val d0, .val d1, .val d2, .val d3, .val (.str z), e5, .val .non, .val d7, e8', e9', .emp], st'⟩ ∧ TbOk st' := by
  have i0 := share0 T
  have T1 := T.app [shr []]
  generalize hs1 : st ++ [shr []] = s1 at *
  have ez : z = S z.cps.toList := S_of z
  have hl : z.cps.toList.length ≤ 1100 := by have : z.cps.toList.length = z.length := by simp [Str.length]
                                             omega
  rcases read_share_any hl T1 with ⟨M, hM, eM, _, r⟩ | ⟨_, o, r⟩
  · exact absurd (ez.trans eM) (hN M hM)
  · rw [← ez] at r
    have T2 := T1.app o
    generalize s1 ++ o = s2 at *
    refine ⟨.val (.lst [.bl true, .bl false, .bl false, .bl false]), .val (.ptr st.length), s2, ?_, T2⟩
    have ne : ∀ st, oNe (.lst [.bl true, .bl false, .bl false, .bl false]) (.lst [.bl true, .bl false, .bl false, .bl false]) st = .val .P (.bl false) st := fun st => ne_of_eq (eq_bls [true, false, false, false] [true, false, false, false] st)
    rcases h5 with rfl | ⟨d5, rfl⟩ <;> simp -implicitDefEqProofs [q_fb_law_2, i0, r, nilOnly, sub_CrumbError, sub_NoText, sub_NoSpan, sub_NoTable, sub_NoFraction, ne]
theorem end14 {z : Str} (hz : z.length ≤ 1100) {d0 d1 d2 d3 : D} {e5 : SL} (h5 : e5 = .emp ∨ ∃ d, e5 = .val d) {st : Sto} (T : TbOk st) : Yes ((k_law_5 ⟨[.val d0, .val d1, .val d2, .val d3, .val (.str z), e5, .emp, .emp, .emp, .emp, .emp], st⟩).ret) := by
  have ez : z = S z.cps.toList := S_of z
  have hl : z.cps.toList.length ≤ 1100 := by have : z.cps.toList.length = z.length := by simp [Str.length]
                                             omega
  have yes : ∀ L, Good L → z = shTxt L → Yes ((k_law_6 ⟨[.val d0, .val d1, .val d2, .val d3, .val (.str z), e5, .val (.lst (L.map dPair)), .emp, .emp, .emp, .emp], st⟩).ret) := fun L hG e => by
    obtain ⟨a8, a9, s1, r1, T1⟩ := turn_yes hz hG e h5 T (d0 := d0) (d1 := d1) (d2 := d2) (d3 := d3) (d7 := .int 0) (e8 := .emp) (e9 := .emp)
    obtain ⟨b8, b9, s2, r2, T2⟩ := turn_yes hz hG e h5 T1 (d0 := d0) (d1 := d1) (d2 := d2) (d3 := d3) (d7 := .int 1) (e8 := a8) (e9 := a9)
    unfold Yes
    generalize L.map dPair = DL at *
    have rg : rangeD 0 2 = [.int 0, .int 1] := rfl
    simp -implicitDefEqProofs [q_k_law_6, rg, e_forC, r1, r2, q_k_law_7]
  rcases law_read_any hl st with ⟨L, hG, e, r⟩ | ⟨L, hG, e, r⟩ | ⟨hN, r⟩
  · rw [← ez] at e r
    have := yes L hG e
    generalize L.map dPair = DL at *
    simpa -implicitDefEqProofs [q_k_law_5, r] using this
  · rw [← ez] at e r
    have := yes L hG e
    generalize L.map dPair = DL at *
    simpa -implicitDefEqProofs [q_k_law_5, r] using this
  · rw [← ez] at hN r
    obtain ⟨a8, a9, s1, r1, T1⟩ := turn_no hz hN h5 T (d0 := d0) (d1 := d1) (d2 := d2) (d3 := d3) (d7 := .int 0) (e8 := .emp) (e9 := .emp)
    obtain ⟨b8, b9, s2, r2, T2⟩ := turn_no hz hN h5 T1 (d0 := d0) (d1 := d1) (d2 := d2) (d3 := d3) (d7 := .int 1) (e8 := a8) (e9 := a9)
    unfold Yes
    have rg : rangeD 0 2 = [.int 0, .int 1] := rfl
    simp -implicitDefEqProofs [q_k_law_5, r, q_k_law_6, rg, e_forC, r1, r2, q_k_law_7]
open TL (tl numL)
theorem joinL_le {k : Nat} : ∀ ps : List (List Nat), (∀ p ∈ ps, p.length ≤ k) → (TL.joinL [32] ps).length ≤ ps.length * (k + 1)
  | [], _ => by simp [TL.joinL]
  | [p], h => by have := h p (by simp); simp [TL.joinL]; omega
  | p :: q :: r, h => by
    have ih := joinL_le (q :: r) fun x m => h x (by simp at m ⊢; right; exact m)
    have := h p (by simp)
    simp only [TL.joinL, List.length_append, List.length_cons, List.length_nil, Nat.add_mul] at ih ⊢
    omega
theorem shTxt_small {L : List (Rat × Rat)} (hp : Pos2 L) (hs : SzL 33 L) (hn : L.length ≤ 4) : (shTxt L).length ≤ 192 := by
  by_cases c : L = []
  · subst c; exact Nat.le_trans (show (shTxt []).length ≤ 4 by decide +kernel) (by decide)
  · unfold shTxt
    rw [if_neg c, TL.len_tl, TL.join_eq, TL.tl_join, tl_blank]
    have h := joinL_le (k := 47) ((L.map spTxt).map tl) (fun p m => by
      rw [List.map_map] at m
      obtain ⟨q, hq, rfl⟩ := List.mem_map.mp m
      have := spTxt_len (k := 10) (hp q hq) (hs q hq).1 (hs q hq).2
      rw [TL.len_tl] at this
      exact this)
    simp only [List.length_map] at h
    omega
theorem cut4 {α : Type} (l : List α) : cutG l none (some 4) = l.take 4 := by
  unfold cutG
  have e1 : HT.sIx l.length 0 none = 0 := rfl
  have e2 : HT.sIx l.length l.length (some 4) = min 4 l.length := by
    have := HT.sIx_nat l.length l.length 4
    exact this
  rw [e1, e2, List.drop_zero, Nat.sub_zero, ← List.take_take, List.take_length]
theorem chg14 {p q N : Nat} {z : Str} (hz : z.length ≤ 2000) {d0 d2 d3 : D} {e5 : SL} {st : Sto} (B : Box p q N st) (hN : N ≤ 900) : ∃ Y st', fb_law_1 ⟨[.val d0, .val (.ptr p), .val d2, .val d3, .val (.str z), e5, .emp, .emp, .emp, .emp, .emp], st⟩ = .nx ⟨[.val d0, .val (.ptr p), .val d2, .val d3, .val (.str Y), e5, .emp, .emp, .emp, .emp, .emp], st'⟩ ∧ Y.length ≤ 2 * z.length + 90 ∧ Box p q (N + 10) st' ∧ Rest p q st st' := by
  obtain ⟨Y, st', r, l, B', R'⟩ := changed_ok B hN hz
  exact ⟨Y, st', by simp -implicitDefEqProofs [q_fb_law_1, r], l, B', R'⟩
theorem mid14 {N : Nat} {z : Str} (hz : z.length ≤ 192) {d0 d3 : D} {w : Int} (w0 : 0 ≤ w) (w1 : w < 4) {st : Sto} (T : TbOk st) (B : Box 2 1 N st) (hN : N ≤ 300) : Yes ((k_law_4 ⟨[.val d0, .val (.ptr 2), .val (.int w), .val d3, .val (.str z), .emp, .emp, .emp, .emp, .emp, .emp], st⟩).ret) := by
  have hw : w = 0 ∨ w = 1 ∨ w = 2 ∨ w = 3 := by omega
  have zero : ∀ w : Int, w.fmod 3 = 0 → Yes ((k_law_4 ⟨[.val d0, .val (.ptr 2), .val (.int w), .val d3, .val (.str z), .emp, .emp, .emp, .emp, .emp, .emp], st⟩).ret) := fun w h => by
    have := end14 (z := z) (by omega) (d0 := d0) (d1 := .ptr 2) (d2 := .int w) (d3 := d3) (e5 := .emp) (.inl rfl) T
    have rg : rangeD 0 0 = [] := rfl
    simpa -implicitDefEqProofs [q_k_law_4, h, rg] using this
  obtain ⟨Y1, s1, r1, l1, B1, R1⟩ := chg14 (z := z) (by omega) (d0 := d0) (d2 := .int w) (d3 := d3) (e5 := .val (.int 0)) B (by omega)
  have T1 := T.rest R1 (by decide) (by decide)
  rcases hw with rfl | rfl | rfl | rfl
  · exact zero 0 (by decide)
  · have := end14 (z := Y1) (by omega) (d0 := d0) (d1 := .ptr 2) (d2 := .int 1) (d3 := d3) (e5 := .val (.int 0)) (.inr ⟨_, rfl⟩) T1
    have rg : rangeD 0 1 = [.int 0] := rfl
    have h : (1 : Int).fmod 3 = 1 := by decide
    simpa -implicitDefEqProofs [q_k_law_4, h, rg, e_forC, r1] using this
  · obtain ⟨Y2, s2, r2, l2, B2, R2⟩ := chg14 (z := Y1) (by omega) (d0 := d0) (d2 := .int 2) (d3 := d3) (e5 := .val (.int 1)) B1 (by omega)
    have T2 := T1.rest R2 (by decide) (by decide)
    have := end14 (z := Y2) (by omega) (d0 := d0) (d1 := .ptr 2) (d2 := .int 2) (d3 := d3) (e5 := .val (.int 1)) (.inr ⟨_, rfl⟩) T2
    have rg : rangeD 0 2 = [.int 0, .int 1] := rfl
    have h : (2 : Int).fmod 3 = 2 := by decide
    simpa -implicitDefEqProofs [q_k_law_4, h, rg, e_forC, r1, r2] using this
  · exact zero 3 (by decide)
theorem few_of {q : Rat} (h : 0 ≤ q) (hs : Sz 130 q) : Few q := by
  have e : (2 : Nat) ^ 130 < 10 ^ 40 := by decide
  have h1 : q.num.toNat < 2 ^ 130 := by have := hs.1; omega
  have h2 := hs.2
  exact ⟨h, TL.numL_len (by decide) (Nat.lt_trans h1 e), TL.numL_len (by decide) (Nat.lt_trans h2 e), hs.up (by decide)⟩
theorem law_number_eq {q : Rat} (h : 0 ≤ q) (hs : Sz 600 q) (st : Sto) : F_law_number [dF q] st = .val .P (.str (ftxt q)) st := by
  have l1 : q.num.natAbs.log2 < 1920 := bit_log hs.1 (by decide)
  have l2 : q.den.log2 < 1920 := by have := bit_log hs.den (show 600 < 1920 by decide); simpa using this
  have hn : 0 ≤ q.num := Rat.num_nonneg.mpr h
  have e : q.num.toNat = q.num.natAbs := by omega
  have n1 := TL.numL_len2' (n := q.num.toNat) (k := 199) (by rw [e]; exact hs.1)
  have n2 := TL.numL_len2' (n := q.den) (k := 199) hs.2
  by_cases c : q.den = 1
  · have c' : (q.den : Int) = 1 := by omega
    simp -implicitDefEqProofs [F_law_number, g_law_number, c, l1, ftxt]
  · have c' : ¬ (q.den : Int) = 1 := by omega
    have d1 : (Str.ofString "/").length = 1 := rfl
    have a1 : (itxt q.num).length + (Str.ofString "/").length ≤ 1000000 := by rw [d1, TL.len_tl, itxt_pos hn]; omega
    have a2 : (itxt q.num ++ Str.ofString "/").length + (itxt (q.den : Int)).length ≤ 1000000 := by
      rw [TL.len_tl, TL.len_tl, TL.tl_append, itxt_pos hn, tl_slash, itxt_nat]; simp; omega
    simp -implicitDefEqProofs [F_law_number, g_law_number, c, c', l1, l2, a1, a2, ftxt]
theorem law_text_eq {L : List (Rat × Rat)} (hp : Pos2 L) (hs : SzL 600 L) (hn : L.length ≤ 300) (st : Sto) : F_law_text [.lst (L.map dPair)] st = .val .P (.str (shTxt L)) st := by
  by_cases c : L = []
  · subst c
    simp -implicitDefEqProofs [F_law_text, g_law_text, shTxt]
  · have c' : ¬ L.length = 0 := fun z => c (List.length_eq_zero_iff.mp z)
    have c2 : ¬ (L.length : Int) = 0 := by omega
    have hl : L.length ≤ 1000000 := by omega
    have hk : lcGo (lcStep (tgT 2 (tgsCons (tgN 1) (tgsCons (tgN 2) tgsNil))) (fun E => .val .P (.bl true) E.st) ce_law_text_1 [.val (.lst (L.map dPair)), .emp, .emp]) (L.map dPair) st = some (L.map (fun p => D.str (spTxt p)), st) :=
      lc_map fun p m => by
        have z := hs p m
        have w := hp p m
        have f1 := law_number_eq w.1 z.1 st
        have f2 := law_number_eq w.2 z.2 st
        have g1 := ftxt_len (k := 199) w.1 z.1
        have g2 := ftxt_len (k := 199) w.2 z.2
        have d1 : (Str.ofString "-").length = 1 := rfl
        have a1 : (ftxt p.1).length + (Str.ofString "-").length ≤ 1000000 := by rw [d1]; omega
        have a2 : (ftxt p.1 ++ Str.ofString "-").length + (ftxt p.2).length ≤ 1000000 := by
          have : (ftxt p.1 ++ Str.ofString "-").length = (ftxt p.1).length + 1 := by rw [TL.len_tl, TL.tl_append, List.length_append, ← TL.len_tl]; rfl
          omega
        simp -implicitDefEqProofs [q_ce_law_text_1, f1, f2, a1, a2, spTxt]
    have sm : ((L.map spTxt).map (·.length)).sum + (L.map spTxt).length * (Str.ofString " ").length ≤ 1000000 := by
      have d1 : (Str.ofString " ").length = 1 := rfl
      have : ∀ M : List (Rat × Rat), (∀ p ∈ M, p ∈ L) → ((M.map spTxt).map (·.length)).sum ≤ M.length * 2500 := by
        intro M
        induction M with
        | nil => intro _; simp
        | cons p M ih =>
          intro hm
          have z := hs p (hm p (List.mem_cons_self ..))
          have g3 := spTxt_len (k := 199) (hp p (hm p (List.mem_cons_self ..))) z.1 z.2
          have := ih fun q m => hm q (List.mem_cons_of_mem _ m)
          simp only [List.map_cons, List.sum_cons, List.length_cons]
          omega
      have := this L fun p m => m
      rw [d1, List.length_map]
      omega
    have j : seqStrs (.lst (L.map fun p => D.str (spTxt p))) st = some (L.map spTxt) := by simp
    generalize hX : (L.map fun p => D.str (spTxt p)) = X at *
    generalize hY : L.map spTxt = Y at *
    generalize hZ : L.map dPair = Z at *
    have lz : Z.length = L.length := by rw [← hZ]; simp
    have c3 : ¬ Z.length = 0 := by omega
    have c3' : Z ≠ [] := fun z => by rw [z] at lz; simp at lz; omega
    have lz2 : Z.length ≤ 1000000 := by omega
    simp -implicitDefEqProofs [F_law_text, g_law_text, c, c3, c3', lz2, hk, j, sm, shTxt, hY, -e_seqL]
theorem told_few {g : Int} (hg : 0 < g) (hg2 : g < 2 ^ 130) {ps : List (Int × Int)} (hp : ∀ r ∈ ps, PairOk g r) : FewL (ps.map (f2 (qf g))) := fun p m => by
  have h := told_pos hg hp p m
  obtain ⟨r, hr, rfl⟩ := List.mem_map.mp m
  obtain ⟨a, b, c⟩ := hp r hr
  exact ⟨few_of h.1 (qf_sz (by omega) (by omega) (by omega)), few_of h.2 (qf_sz (by omega) (by omega) (by omega))⟩
theorem told_sz6 {g : Int} (hg : 0 < g) (hg2 : g < 2 ^ 130) {ps : List (Int × Int)} (hp : ∀ r ∈ ps, PairOk g r) : SzL 600 (ps.map (f2 (qf g))) := fun p m => ⟨(told_few hg hg2 hp p m).1.2.2.2, (told_few hg hg2 hp p m).2.2.2.2⟩
theorem law_true (ns : List Int) (hl : ns.length ≤ 63) (_ : ∀ z ∈ ns, Builtin.Int.intBits z ≤ 1048576) : Yes (F_law [.scr ns] tbls) := by
  obtain ⟨st, h1, B, hlen, hk⟩ := box_okG ns hl tbls
  have T : TbOk st := fun i x e => by rw [hk i (List.getElem?_eq_some_iff.mp e).1]; exact e
  have e1 : tbls.length + 1 = 2 := rfl
  have e2 : tbls.length = 1 := rfl
  rw [e1] at h1 B
  rw [e2] at B
  obtain ⟨w, st0, t0, w0, w1, B0, R0⟩ := take_ok B (n := 4) (by decide) (by decide) (by omega)
  obtain ⟨a, st1, t1, a0, a1, B1, R1⟩ := take_ok B0 (n := 3) (by decide) (by decide) (by omega)
  have hm : ∃ n : Int, atI [D.int 12, .int 60, .int 1000000000] a = some (.int n) ∧ 1 ≤ n ∧ n ≤ 1000000000 := by
    have : a = 0 ∨ a = 1 ∨ a = 2 := by omega
    rcases this with rfl | rfl | rfl <;> exact ⟨_, rfl, by decide, by decide⟩
  obtain ⟨m, em, m0, m1⟩ := hm
  obtain ⟨g, st2, t2, g0, g1, B2, R2⟩ := take_ok B1 (n := m) m0 (by omega) (by omega)
  obtain ⟨ps, st3, t3, hp, pl, B3, R3⟩ := pairs_ok (g := 1 + g) B2 (by omega) (by omega) (by omega)
  have t3' : F_law_pairs [.ptr 2, .int (1 + g)] st2 = _ := t3
  have R := ((R0.trans R1).trans R2).trans R3
  have T3 := T.rest R (by decide) (by decide)
  have hp4 : ∀ r ∈ ps.take 4, PairOk (1 + g) r := fun r m => hp r (List.mem_of_mem_take m)
  have l4 : (ps.take 4).length ≤ 4 := by simp; omega
  have c4 : cutG (ps.map dRow) none (some 4) = (ps.take 4).map dRow := by rw [cut4, List.map_take]
  generalize ps.take 4 = P4 at *
  have j1 := joined_eq (ps := P4) (by omega) st3
  have cA := jnd_can (by omega) hp4
  have lA := jnd_len P4
  have ta := told_eq (g := 1 + g) (ps := jnd P4) (by omega) (by omega) (by omega) st3
  have hpos := told_pos (g := 1 + g) (by omega) cA.2
  have h6 := told_sz6 (g := 1 + g) (by omega) (by omega) cA.2
  have h33 : SzL 33 ((jnd P4).map (f2 (qf (1 + g)))) := fun p m => by
    obtain ⟨r, hr, rfl⟩ := List.mem_map.mp m
    have := cA.2 r hr
    unfold PairOk at this
    have e33 : (2 : Nat) ^ 33 = 8589934592 := by decide
    exact ⟨qf_sz (by omega) (by omega) (by omega), qf_sz (by omega) (by omega) (by omega)⟩
  have hl4 : ((jnd P4).map (f2 (qf (1 + g)))).length ≤ 4 := by simp; omega
  have tx := law_text_eq hpos h6 (by omega) st3
  have sm := shTxt_small hpos h33 hl4
  have mid := mid14 sm (d0 := .scr ns) (d3 := .int (1 + g)) w0 (by omega) T3 B3 (by omega)
  generalize shTxt ((jnd P4).map (f2 (qf (1 + g)))) = z at *
  generalize ((jnd P4).map (f2 (qf (1 + g)))).map dPair = Q at *
  generalize (jnd P4).map dRow = JD at *
  generalize P4.map dRow = PD at *
  generalize ps.map dRow = PS at *
  unfold Yes at mid ⊢
  simpa -implicitDefEqProofs [F_law, g_law, h1, q_k_law_1, t0, q_k_law_2, t1, em, t2, q_k_law_3, t3', c4, j1, ta, tx] using mid
end Dn
namespace Dn
open PySem PySem.Spec PyProof.Rows L2
def top (i : Nat) : Stmt := PySem.Challenge.pw_halfcrumb_k14_share_texts_spoilt.main.body.getD i (.Pass ⟨0, 0, 0, 0⟩)
def clsStmts : Stmt → List Stmt
  | .ClassDef _ _ _ b _ _ _ _ _ _ _ => b
  | _ => []
def mth (i j : Nat) : Stmt := (clsStmts (top i)).getD j (.Pass ⟨0, 0, 0, 0⟩)
structure Adr where
  f_divisor : Addr
  d_divisor : FuncData
  f_is_less : Addr
  d_is_less : FuncData
  f_fraction_text : Addr
  d_fraction_text : FuncData
  f_is_figures : Addr
  d_is_figures : FuncData
  f_spans_where : Addr
  d_spans_where : FuncData
  f_Share_spans : Addr
  d_Share_spans : FuncData
  f_law_box : Addr
  d_law_box : FuncData
  f_law_mixed : Addr
  d_law_mixed : FuncData
  f_law_low : Addr
  d_law_low : FuncData
  f_law_less : Addr
  d_law_less : FuncData
  f_law_joined : Addr
  d_law_joined : FuncData
  f_law_number : Addr
  d_law_number : FuncData
  f_law_figures : Addr
  d_law_figures : FuncData
  f_fraction_of : Addr
  d_fraction_of : FuncData
  f_ask_span : Addr
  d_ask_span : FuncData
  f_rising_places : Addr
  d_rising_places : FuncData
  f_covers : Addr
  d_covers : FuncData
  f_Share___str__ : Addr
  d_Share___str__ : FuncData
  f_law_take : Addr
  d_law_take : FuncData
  f_law_told : Addr
  d_law_told : FuncData
  f_law_text : Addr
  d_law_text : FuncData
  f_law_read_place : Addr
  d_law_read_place : FuncData
  f_read_fraction : Addr
  d_read_fraction : FuncData
  f_law_pairs : Addr
  d_law_pairs : FuncData
  f_law_changed : Addr
  d_law_changed : FuncData
  f_law_read : Addr
  d_law_read : FuncData
  f_read_span : Addr
  d_read_span : FuncData
  f_Share___init__ : Addr
  d_Share___init__ : FuncData
  q_Share___init__ : Addr
  p_Share___init__ : Addr
  f_read_share : Addr
  d_read_share : FuncData
  f_law : Addr
  d_law : FuncData
  c_CrumbError : Addr
  c_NoFraction : Addr
  c_NoText : Addr
  c_NoTable : Addr
  c_NoSpan : Addr
  c_Share : Addr
  a_BEGIN : Addr
  a_END : Addr
  t_MOST_FIGURES : Tok
def caOf (A : Adr) : Nat → Addr
  | 0 => A.c_CrumbError
  | 1 => A.c_NoFraction
  | 2 => A.c_NoText
  | 3 => A.c_NoTable
  | 4 => A.c_NoSpan
  | 5 => A.c_Share
  | _ => 0
def fnOf : Nat → List Str
  | 5 => ["parts"]
  | _ => []
theorem nf_Share_spans : ("spans" : Str) ∉ fnOf 5 := by decide +kernel
theorem nd_Share : (fnOf 5).Nodup := by decide +kernel
theorem nl_Share : (fnOf 5).length < 1000 := by decide +kernel
def GG (K : PySem.W.Frag) (A : Adr) : Gm := { K := K, ca := caOf A, fn := fnOf, ea := 0, tb := [A.p_Share___init__] }
abbrev s_divisor : Stmt := top 9
abbrev n_divisor : List Str := ["one", "other"]
abbrev p_divisor : List Str := ["one", "other"]
theorem sc_divisor : FnScope n_divisor p_divisor (defScope s_divisor) := ⟨rfl, rfl, rfl, by decide +kernel, rfl, by decide +kernel, by decide +kernel⟩
abbrev s_is_less : Stmt := top 11
abbrev n_is_less : List Str := ["one", "other"]
abbrev p_is_less : List Str := ["one", "other"]
theorem sc_is_less : FnScope n_is_less p_is_less (defScope s_is_less) := ⟨rfl, rfl, rfl, by decide +kernel, rfl, by decide +kernel, by decide +kernel⟩
abbrev s_fraction_text : Stmt := top 12
abbrev n_fraction_text : List Str := ["fraction"]
abbrev p_fraction_text : List Str := ["fraction"]
theorem sc_fraction_text : FnScope n_fraction_text p_fraction_text (defScope s_fraction_text) := ⟨rfl, rfl, rfl, by decide +kernel, rfl, by decide +kernel, by decide +kernel⟩
abbrev s_is_figures : Stmt := top 13
abbrev n_is_figures : List Str := ["word", "sign"]
abbrev p_is_figures : List Str := ["word"]
theorem sc_is_figures : FnScope n_is_figures p_is_figures (defScope s_is_figures) := ⟨rfl, rfl, rfl, by decide +kernel, rfl, by decide +kernel, by decide +kernel⟩
abbrev s_spans_where : Stmt := top 21
abbrev n_spans_where : List Str := ["places", "is_held", "found", "here", "there"]
abbrev p_spans_where : List Str := ["places", "is_held"]
theorem sc_spans_where : FnScope n_spans_where p_spans_where (defScope s_spans_where) := ⟨rfl, rfl, rfl, by decide +kernel, rfl, by decide +kernel, by decide +kernel⟩
abbrev s_Share_spans : Stmt := mth 22 1
abbrev n_Share_spans : List Str := ["self"]
abbrev p_Share_spans : List Str := ["self"]
theorem sc_Share_spans : FnScope n_Share_spans p_Share_spans (defScope s_Share_spans) := ⟨rfl, rfl, rfl, by decide +kernel, rfl, by decide +kernel, by decide +kernel⟩
abbrev s_law_box : Stmt := top 27
abbrev n_law_box : List Str := ["_law_script", "_law_great", "_law_cell"]
abbrev p_law_box : List Str := ["_law_script"]
theorem sc_law_box : FnScope n_law_box p_law_box (defScope s_law_box) := ⟨rfl, rfl, rfl, by decide +kernel, rfl, by decide +kernel, by decide +kernel⟩
abbrev s_law_mixed : Stmt := top 28
abbrev n_law_mixed : List Str := ["_law_cell", "_law_k", "_law_whole"]
abbrev p_law_mixed : List Str := ["_law_cell", "_law_k"]
theorem sc_law_mixed : FnScope n_law_mixed p_law_mixed (defScope s_law_mixed) := ⟨rfl, rfl, rfl, by decide +kernel, rfl, by decide +kernel, by decide +kernel⟩
abbrev s_law_low : Stmt := top 30
abbrev n_law_low : List Str := ["_law_top", "_law_bottom", "_law_one", "_law_two"]
abbrev p_law_low : List Str := ["_law_top", "_law_bottom"]
theorem sc_law_low : FnScope n_law_low p_law_low (defScope s_law_low) := ⟨rfl, rfl, rfl, by decide +kernel, rfl, by decide +kernel, by decide +kernel⟩
abbrev s_law_less : Stmt := top 31
abbrev n_law_less : List Str := ["_law_one", "_law_two"]
abbrev p_law_less : List Str := ["_law_one", "_law_two"]
theorem sc_law_less : FnScope n_law_less p_law_less (defScope s_law_less) := ⟨rfl, rfl, rfl, by decide +kernel, rfl, by decide +kernel, by decide +kernel⟩
abbrev s_law_joined : Stmt := top 33
abbrev n_law_joined : List Str := ["_law_pairs_here", "_law_found", "_law_low_here", "_law_high", "_law_pair"]
abbrev p_law_joined : List Str := ["_law_pairs_here"]
theorem sc_law_joined : FnScope n_law_joined p_law_joined (defScope s_law_joined) := ⟨rfl, rfl, rfl, by decide +kernel, rfl, by decide +kernel, by decide +kernel⟩
abbrev s_law_number : Stmt := top 35
abbrev n_law_number : List Str := ["_law_place"]
abbrev p_law_number : List Str := ["_law_place"]
theorem sc_law_number : FnScope n_law_number p_law_number (defScope s_law_number) := ⟨rfl, rfl, rfl, by decide +kernel, rfl, by decide +kernel, by decide +kernel⟩
abbrev s_law_figures : Stmt := top 38
abbrev n_law_figures : List Str := ["_law_word", "_law_sign"]
abbrev p_law_figures : List Str := ["_law_word"]
theorem sc_law_figures : FnScope n_law_figures p_law_figures (defScope s_law_figures) := ⟨rfl, rfl, rfl, by decide +kernel, rfl, by decide +kernel, by decide +kernel⟩
abbrev s_fraction_of : Stmt := top 10
abbrev n_fraction_of : List Str := ["top", "bottom", "size"]
abbrev p_fraction_of : List Str := ["top", "bottom"]
theorem sc_fraction_of : FnScope n_fraction_of p_fraction_of (defScope s_fraction_of) := ⟨rfl, rfl, rfl, by decide +kernel, rfl, by decide +kernel, by decide +kernel⟩
abbrev s_ask_span : Stmt := top 18
abbrev n_ask_span : List Str := ["here", "there"]
abbrev p_ask_span : List Str := ["here", "there"]
theorem sc_ask_span : FnScope n_ask_span p_ask_span (defScope s_ask_span) := ⟨rfl, rfl, rfl, by decide +kernel, rfl, by decide +kernel, by decide +kernel⟩
abbrev s_rising_places : Stmt := top 19
abbrev n_rising_places : List Str := ["spans", "found", "span", "place", "at"]
abbrev p_rising_places : List Str := ["spans"]
theorem sc_rising_places : FnScope n_rising_places p_rising_places (defScope s_rising_places) := ⟨rfl, rfl, rfl, by decide +kernel, rfl, by decide +kernel, by decide +kernel⟩
abbrev s_covers : Stmt := top 20
abbrev n_covers : List Str := ["spans", "here", "there", "low", "high"]
abbrev p_covers : List Str := ["spans", "here", "there"]
theorem sc_covers : FnScope n_covers p_covers (defScope s_covers) := ⟨rfl, rfl, rfl, by decide +kernel, rfl, by decide +kernel, by decide +kernel⟩
abbrev s_Share___str__ : Stmt := mth 22 10
abbrev n_Share___str__ : List Str := ["self", "here", "there"]
abbrev p_Share___str__ : List Str := ["self"]
theorem sc_Share___str__ : FnScope n_Share___str__ p_Share___str__ (defScope s_Share___str__) := ⟨rfl, rfl, rfl, by decide +kernel, rfl, by decide +kernel, by decide +kernel⟩
abbrev s_law_take : Stmt := top 29
abbrev n_law_take : List Str := ["_law_box_here", "_law_size", "_law_cell", "_law_found", "_law_reach"]
abbrev p_law_take : List Str := ["_law_box_here", "_law_size"]
theorem sc_law_take : FnScope n_law_take p_law_take (defScope s_law_take) := ⟨rfl, rfl, rfl, by decide +kernel, rfl, by decide +kernel, by decide +kernel⟩
abbrev s_law_told : Stmt := top 34
abbrev n_law_told : List Str := ["_law_pairs_here", "_law_grid", "_law_low_here", "_law_high"]
abbrev p_law_told : List Str := ["_law_pairs_here", "_law_grid"]
theorem sc_law_told : FnScope n_law_told p_law_told (defScope s_law_told) := ⟨rfl, rfl, rfl, by decide +kernel, rfl, by decide +kernel, by decide +kernel⟩
abbrev s_law_text : Stmt := top 36
abbrev n_law_text : List Str := ["_law_rows", "_law_here", "_law_there"]
abbrev p_law_text : List Str := ["_law_rows"]
theorem sc_law_text : FnScope n_law_text p_law_text (defScope s_law_text) := ⟨rfl, rfl, rfl, by decide +kernel, rfl, by decide +kernel, by decide +kernel⟩
abbrev s_law_read_place : Stmt := top 39
abbrev n_law_read_place : List Str := ["_law_word", "_law_top", "_law_stroke", "_law_bottom"]
abbrev p_law_read_place : List Str := ["_law_word"]
theorem sc_law_read_place : FnScope n_law_read_place p_law_read_place (defScope s_law_read_place) := ⟨rfl, rfl, rfl, by decide +kernel, rfl, by decide +kernel, by decide +kernel⟩
abbrev s_read_fraction : Stmt := top 14
abbrev n_read_fraction : List Str := ["text", "word", "found", "top", "stroke", "bottom"]
abbrev p_read_fraction : List Str := ["text"]
theorem sc_read_fraction : FnScope n_read_fraction p_read_fraction (defScope s_read_fraction) := ⟨rfl, rfl, rfl, by decide +kernel, rfl, by decide +kernel, by decide +kernel⟩
abbrev s_law_pairs : Stmt := top 32
abbrev n_law_pairs : List Str := ["_law_box_here", "_law_grid", "_law_pairs_here", "_law_k", "_law_way", "_law_low_here", "_law_high"]
abbrev p_law_pairs : List Str := ["_law_box_here", "_law_grid"]
theorem sc_law_pairs : FnScope n_law_pairs p_law_pairs (defScope s_law_pairs) := ⟨rfl, rfl, rfl, by decide +kernel, rfl, by decide +kernel, by decide +kernel⟩
abbrev s_law_changed : Stmt := top 37
abbrev n_law_changed : List Str := ["_law_box_here", "_law_text_here", "_law_way", "_law_signs", "_law_sign", "_law_at", "_law_words", "_law_one", "_law_two", "_law_great", "_law_ends", "_law_end", "_law_kept", "_law_here", "_law_stroke", "_law_there"]
abbrev p_law_changed : List Str := ["_law_box_here", "_law_text_here"]
theorem sc_law_changed : FnScope n_law_changed p_law_changed (defScope s_law_changed) := ⟨rfl, rfl, rfl, by decide +kernel, rfl, by decide +kernel, by decide +kernel⟩
abbrev s_law_read : Stmt := top 40
abbrev n_law_read : List Str := ["_law_text_here", "_law_rows", "_law_word", "_law_parts", "_law_here", "_law_there"]
abbrev p_law_read : List Str := ["_law_text_here"]
theorem sc_law_read : FnScope n_law_read p_law_read (defScope s_law_read) := ⟨rfl, rfl, rfl, by decide +kernel, rfl, by decide +kernel, by decide +kernel⟩
abbrev s_read_span : Stmt := top 24
abbrev n_read_span : List Str := ["word", "ends"]
abbrev p_read_span : List Str := ["word"]
theorem sc_read_span : FnScope n_read_span p_read_span (defScope s_read_span) := ⟨rfl, rfl, rfl, by decide +kernel, rfl, by decide +kernel, by decide +kernel⟩
abbrev s_Share___init__ : Stmt := mth 22 0
abbrev n_Share___init__ : List Str := ["self", "spans", "here", "there"]
abbrev p_Share___init__ : List Str := ["self", "spans"]
theorem sc_Share___init__ : FnScope n_Share___init__ p_Share___init__ (defScope s_Share___init__) := ⟨rfl, rfl, rfl, by decide +kernel, rfl, by decide +kernel, by decide +kernel⟩
abbrev s_read_share : Stmt := top 25
abbrev n_read_share : List Str := ["text", "spans", "found", "word"]
abbrev p_read_share : List Str := ["text"]
theorem sc_read_share : FnScope n_read_share p_read_share (defScope s_read_share) := ⟨rfl, rfl, rfl, by decide +kernel, rfl, by decide +kernel, by decide +kernel⟩
abbrev s_law : Stmt := top 41
abbrev n_law : List Str := ["_law_script", "_law_box_here", "_law_many", "_law_grid", "_law_text_here", "_law_k", "_law_due", "_law_again", "_law_word", "_law_share", "e"]
abbrev p_law : List Str := ["_law_script"]
theorem sc_law : FnScope n_law p_law (defScope s_law) := ⟨rfl, rfl, rfl, by decide +kernel, rfl, by decide +kernel, by decide +kernel⟩
structure Txt (K : PySem.W.Frag) (mg : Str → Option Value) (base : Heap) (A : Adr) : Prop where
  F_divisor : Fun K "divisor" "divisor" s_divisor A.f_divisor A.d_divisor
  b_divisor : Binds K A.d_divisor p_divisor []
  F_is_less : Fun K "is_less" "is_less" s_is_less A.f_is_less A.d_is_less
  b_is_less : Binds K A.d_is_less p_is_less []
  F_fraction_text : Fun K "fraction_text" "fraction_text" s_fraction_text A.f_fraction_text A.d_fraction_text
  b_fraction_text : Binds K A.d_fraction_text p_fraction_text []
  F_is_figures : Fun K "is_figures" "is_figures" s_is_figures A.f_is_figures A.d_is_figures
  b_is_figures : Binds K A.d_is_figures p_is_figures []
  F_spans_where : Fun K "spans_where" "spans_where" s_spans_where A.f_spans_where A.d_spans_where
  b_spans_where : Binds K A.d_spans_where p_spans_where []
  F_Share_spans : Fun K "spans" "Share.spans" s_Share_spans A.f_Share_spans A.d_Share_spans
  b_Share_spans : Binds K A.d_Share_spans p_Share_spans []
  F_law_box : Fun K "_law_box" "_law_box" s_law_box A.f_law_box A.d_law_box
  b_law_box : Binds K A.d_law_box p_law_box []
  F_law_mixed : Fun K "_law_mixed" "_law_mixed" s_law_mixed A.f_law_mixed A.d_law_mixed
  b_law_mixed : Binds K A.d_law_mixed p_law_mixed []
  F_law_low : Fun K "_law_low" "_law_low" s_law_low A.f_law_low A.d_law_low
  b_law_low : Binds K A.d_law_low p_law_low []
  F_law_less : Fun K "_law_less" "_law_less" s_law_less A.f_law_less A.d_law_less
  b_law_less : Binds K A.d_law_less p_law_less []
  F_law_joined : Fun K "_law_joined" "_law_joined" s_law_joined A.f_law_joined A.d_law_joined
  b_law_joined : Binds K A.d_law_joined p_law_joined []
  F_law_number : Fun K "_law_number" "_law_number" s_law_number A.f_law_number A.d_law_number
  b_law_number : Binds K A.d_law_number p_law_number []
  F_law_figures : Fun K "_law_figures" "_law_figures" s_law_figures A.f_law_figures A.d_law_figures
  b_law_figures : Binds K A.d_law_figures p_law_figures []
  F_fraction_of : FunD K "fraction_of" "fraction_of" (defArgs s_fraction_of) (defBody s_fraction_of) (defScope s_fraction_of) (([(.int 1)] : List D).map toV) [] A.f_fraction_of A.d_fraction_of
  F_ask_span : Fun K "ask_span" "ask_span" s_ask_span A.f_ask_span A.d_ask_span
  b_ask_span : Binds K A.d_ask_span p_ask_span []
  F_rising_places : Fun K "rising_places" "rising_places" s_rising_places A.f_rising_places A.d_rising_places
  b_rising_places : Binds K A.d_rising_places p_rising_places []
  F_covers : Fun K "covers" "covers" s_covers A.f_covers A.d_covers
  b_covers : Binds K A.d_covers p_covers []
  F_Share___str__ : Fun K "__str__" "Share.__str__" s_Share___str__ A.f_Share___str__ A.d_Share___str__
  b_Share___str__ : Binds K A.d_Share___str__ p_Share___str__ []
  F_law_take : Fun K "_law_take" "_law_take" s_law_take A.f_law_take A.d_law_take
  b_law_take : Binds K A.d_law_take p_law_take []
  F_law_told : Fun K "_law_told" "_law_told" s_law_told A.f_law_told A.d_law_told
  b_law_told : Binds K A.d_law_told p_law_told []
  F_law_text : Fun K "_law_text" "_law_text" s_law_text A.f_law_text A.d_law_text
  b_law_text : Binds K A.d_law_text p_law_text []
  F_law_read_place : Fun K "_law_read_place" "_law_read_place" s_law_read_place A.f_law_read_place A.d_law_read_place
  b_law_read_place : Binds K A.d_law_read_place p_law_read_place []
  F_read_fraction : Fun K "read_fraction" "read_fraction" s_read_fraction A.f_read_fraction A.d_read_fraction
  b_read_fraction : Binds K A.d_read_fraction p_read_fraction []
  F_law_pairs : Fun K "_law_pairs" "_law_pairs" s_law_pairs A.f_law_pairs A.d_law_pairs
  b_law_pairs : Binds K A.d_law_pairs p_law_pairs []
  F_law_changed : Fun K "_law_changed" "_law_changed" s_law_changed A.f_law_changed A.d_law_changed
  b_law_changed : Binds K A.d_law_changed p_law_changed []
  F_law_read : Fun K "_law_read" "_law_read" s_law_read A.f_law_read A.d_law_read
  b_law_read : Binds K A.d_law_read p_law_read []
  F_read_span : Fun K "read_span" "read_span" s_read_span A.f_read_span A.d_read_span
  b_read_span : Binds K A.d_read_span p_read_span []
  F_Share___init__ : FunC K "__init__" "Share.__init__" s_Share___init__ A.f_Share___init__ A.d_Share___init__ A.q_Share___init__
  tb_Share___init__ : LamX.TabB base mg A.q_Share___init__ A.p_Share___init__
  b_Share___init__ : Binds K A.d_Share___init__ p_Share___init__ []
  F_read_share : Fun K "read_share" "read_share" s_read_share A.f_read_share A.d_read_share
  b_read_share : Binds K A.d_read_share p_read_share []
  F_law : Fun K "law" "law" s_law A.f_law A.d_law
  b_law : Binds K A.d_law p_law []
  g_law_box : mg "_law_box" = some (.ref A.f_law_box)
  g_law_changed : mg "_law_changed" = some (.ref A.f_law_changed)
  g_law_figures : mg "_law_figures" = some (.ref A.f_law_figures)
  g_law_joined : mg "_law_joined" = some (.ref A.f_law_joined)
  g_law_less : mg "_law_less" = some (.ref A.f_law_less)
  g_law_low : mg "_law_low" = some (.ref A.f_law_low)
  g_law_mixed : mg "_law_mixed" = some (.ref A.f_law_mixed)
  g_law_number : mg "_law_number" = some (.ref A.f_law_number)
  g_law_pairs : mg "_law_pairs" = some (.ref A.f_law_pairs)
  g_law_read : mg "_law_read" = some (.ref A.f_law_read)
  g_law_read_place : mg "_law_read_place" = some (.ref A.f_law_read_place)
  g_law_take : mg "_law_take" = some (.ref A.f_law_take)
  g_law_text : mg "_law_text" = some (.ref A.f_law_text)
  g_law_told : mg "_law_told" = some (.ref A.f_law_told)
  g_ask_span : mg "ask_span" = some (.ref A.f_ask_span)
  g_covers : mg "covers" = some (.ref A.f_covers)
  g_divisor : mg "divisor" = some (.ref A.f_divisor)
  g_fraction_of : mg "fraction_of" = some (.ref A.f_fraction_of)
  g_fraction_text : mg "fraction_text" = some (.ref A.f_fraction_text)
  g_is_figures : mg "is_figures" = some (.ref A.f_is_figures)
  g_is_less : mg "is_less" = some (.ref A.f_is_less)
  g_law : mg "law" = some (.ref A.f_law)
  g_read_fraction : mg "read_fraction" = some (.ref A.f_read_fraction)
  g_read_share : mg "read_share" = some (.ref A.f_read_share)
  g_read_span : mg "read_span" = some (.ref A.f_read_span)
  g_rising_places : mg "rising_places" = some (.ref A.f_rising_places)
  g_spans_where : mg "spans_where" = some (.ref A.f_spans_where)
  cl_Share : Cls K A.c_Share
  mk_Share : Mk K A.c_Share A.f_Share___init__
  mt_Share___str__ : Meth K A.c_Share "__str__" A.f_Share___str__
  mt_Share_spans : Meth K A.c_Share "spans" A.f_Share_spans
  fo_parts : FldOk (GG K A) "parts" ix_parts
  B_Share___init___2_ : CallB K A.d_Share___init__ p_Share___init__ 2 [] [0, 1] (([] : List D).map toV)
  B_Share_spans_1_ : CallB K A.d_Share_spans p_Share_spans 1 [] [0] (([] : List D).map toV)
  B_fraction_of_2_ : CallB K A.d_fraction_of p_fraction_of 2 [] [0, 1] (([(.int 1)] : List D).map toV)
  z_abs : mg "abs" = none
  z_all : mg "all" = none
  z_int : mg "int" = none
  z_isinstance : mg "isinstance" = none
  z_len : mg "len" = none
  z_list : mg "list" = none
  z_max : mg "max" = none
  z_min : mg "min" = none
  z_range : mg "range" = none
  z_sorted : mg "sorted" = none
  z_str : mg "str" = none
  z_zip : mg "zip" = none
  m_BEGIN : mg "BEGIN" = some (.ref A.a_BEGIN)
  i_BEGIN : ∀ as H, Is (GG K A) as H (.ref A.a_BEGIN) (.tup [(.int 0), (.int 1)])
  m_END : mg "END" = some (.ref A.a_END)
  i_END : ∀ as H, Is (GG K A) as H (.ref A.a_END) (.tup [(.int 1), (.int 1)])
  m_MOST_FIGURES : mg "MOST_FIGURES" = some (.int 40 A.t_MOST_FIGURES)
  g_CrumbError : mg "CrumbError" = some (.ref A.c_CrumbError)
  g_NoFraction : mg "NoFraction" = some (.ref A.c_NoFraction)
  g_NoText : mg "NoText" = some (.ref A.c_NoText)
  g_NoTable : mg "NoTable" = some (.ref A.c_NoTable)
  g_NoSpan : mg "NoSpan" = some (.ref A.c_NoSpan)
  g_Share : mg "Share" = some (.ref A.c_Share)
  x_NoFraction : PySem.W.excIn K A.c_NoFraction [.type "ValueError", .type "Exception", .type "BaseException", .type "object"] "ValueError.__new__" = true
  k_NoFraction : PySem.W.keepIn K (.ref A.c_NoFraction) = true
  sb_NoFraction : PySem.W.subIn K (.ref A.c_NoFraction) (.type "BaseException") = some true
  t_NoFraction : PySem.W.typeIn K (.ref A.c_NoFraction) = some (.type "type")
  x_NoSpan : PySem.W.excIn K A.c_NoSpan [.type "ValueError", .type "Exception", .type "BaseException", .type "object"] "ValueError.__new__" = true
  k_NoSpan : PySem.W.keepIn K (.ref A.c_NoSpan) = true
  sb_NoSpan : PySem.W.subIn K (.ref A.c_NoSpan) (.type "BaseException") = some true
  t_NoSpan : PySem.W.typeIn K (.ref A.c_NoSpan) = some (.type "type")
  x_NoText : PySem.W.excIn K A.c_NoText [.type "ValueError", .type "Exception", .type "BaseException", .type "object"] "ValueError.__new__" = true
  k_NoText : PySem.W.keepIn K (.ref A.c_NoText) = true
  sb_NoText : PySem.W.subIn K (.ref A.c_NoText) (.type "BaseException") = some true
  t_NoText : PySem.W.typeIn K (.ref A.c_NoText) = some (.type "type")
  ex_CrumbError : ∀ c b, sub_CrumbError c = some b → PySem.W.exmOne K (.ref ((GG K A).ca c)) (.ref A.c_CrumbError) = some b
  ec_CrumbError : ∀ c, sub_CrumbError c = some true → ExcC K ((GG K A).ca c)
  ex_NoSpan : ∀ c b, sub_NoSpan c = some b → PySem.W.exmOne K (.ref ((GG K A).ca c)) (.ref A.c_NoSpan) = some b
  ec_NoSpan : ∀ c, sub_NoSpan c = some true → ExcC K ((GG K A).ca c)
  ki_NoFraction : ∀ c b, sub_NoFraction c = some b → PySem.W.kitOne K (.ref ((GG K A).ca c)) (.ref A.c_NoFraction) = some b
  ki_NoSpan : ∀ c b, sub_NoSpan c = some b → PySem.W.kitOne K (.ref ((GG K A).ca c)) (.ref A.c_NoSpan) = some b
  ki_NoTable : ∀ c b, sub_NoTable c = some b → PySem.W.kitOne K (.ref ((GG K A).ca c)) (.ref A.c_NoTable) = some b
  ki_NoText : ∀ c b, sub_NoText c = some b → PySem.W.kitOne K (.ref ((GG K A).ca c)) (.ref A.c_NoText) = some b
section
variable {P : Program} {w : World} {K : PySem.W.Frag} {mg : Str → Option Value} {base : Heap} {A : Adr}
theorem ok_divisor (T : Txt K mg base A) : FnOk P w K mg base (L2.CX P w) 1 A.f_divisor A.d_divisor p_divisor (spF (GG K A) F_divisor) :=
  fn_ok (k := 0) rfl rfl T.F_divisor sc_divisor fun cdv Ar outer s H E hr => ⟨_,
    (pss_cons (ps_set (i := 0) sc_divisor.nd rfl (by first | exact Or.inl rfl | exact Or.inr rfl) (pe_callB call_abs (by rfl) T.z_abs (by decide +kernel) (pa_cons (pv 0) pa_nil)))
    (pss_cons (ps_set (i := 1) sc_divisor.nd rfl (by first | exact Or.inl rfl | exact Or.inr rfl) (pe_callB call_abs (by rfl) T.z_abs (by decide +kernel) (pa_cons (pv 1) pa_nil)))
    (pss_cons (ps_while (passes_of rfl) (pt_cmpR op_gt (pv 1) pe_int (nomark _)) (pss_one (ps_par rfl sc_divisor.nd rfl rfl (by decide) rfl rfl (pa_cons (pv 1) (pa_cons (pe_op op_modN (pv 0) (pv 1)) pa_nil)) rfl)))
    (pss_one (ps_ret (pv 0)))))),
    (s_seq (s_setF (v_cb c_abs (a_cons v_var a_nil)))
    (s_seq (s_setF (v_cb c_abs (a_cons v_var a_nil)))
    (s_seq (s_while (t_test (v_op d_gt v_var v_int)) (s_par (a_cons v_var (a_cons (v_op d_mod v_var v_var) a_nil))))
    s_retV)))⟩
theorem ok_is_less (T : Txt K mg base A) : FnOk P w K mg base (L2.CX P w) 1 A.f_is_less A.d_is_less p_is_less (spF (GG K A) F_is_less) :=
  fn_ok (k := 0) rfl rfl T.F_is_less sc_is_less fun cdv Ar outer s H E hr => ⟨_,
    (pss_one (ps_ret (pe_cmpR op_lt (pe_op or_mul (pe_ix ix_seq (pv 0) pe_int (fun _ _ => rfl)) (pe_ix ix_seq (pv 1) pe_int (fun _ _ => rfl))) (pe_op or_mul (pe_ix ix_seq (pv 1) pe_int (fun _ _ => rfl)) (pe_ix ix_seq (pv 0) pe_int (fun _ _ => rfl))) (nomark _)))),
    (s_ret (v_op d_lt (v_op d_mul (v_op d_ix v_var v_int) (v_op d_ix v_var v_int)) (v_op d_mul (v_op d_ix v_var v_int) (v_op d_ix v_var v_int))))⟩
theorem okN_is_less (T : Txt K mg base A) : FnOk P w K mg base (L2N.CX P w) 1 A.f_is_less A.d_is_less p_is_less (spF (GG K A) F_is_less) :=
  fn_okN (k := 0) rfl rfl T.F_is_less sc_is_less fun cdv Ar outer s H E hr => ⟨_,
    (pss_one (ps_ret (pe_cmpR op_lt (pe_op or_mul (pe_ix ix_seq (pv 0) pe_int (fun _ _ => rfl)) (pe_ix ix_seq (pv 1) pe_int (fun _ _ => rfl))) (pe_op or_mul (pe_ix ix_seq (pv 1) pe_int (fun _ _ => rfl)) (pe_ix ix_seq (pv 0) pe_int (fun _ _ => rfl))) (nomark _)))),
    (s_ret (v_op d_lt (v_op d_mul (v_op d_ix v_var v_int) (v_op d_ix v_var v_int)) (v_op d_mul (v_op d_ix v_var v_int) (v_op d_ix v_var v_int))))⟩
theorem ok_fraction_text (T : Txt K mg base A) : FnOk P w K mg base (L2.CX P w) 1 A.f_fraction_text A.d_fraction_text p_fraction_text (spF (GG K A) F_fraction_text) :=
  fn_ok (k := 0) rfl rfl T.F_fraction_text sc_fraction_text fun cdv Ar outer s H E hr => ⟨_,
    (pss_cons (ps_if (pt_cmpR (or_eq hr.units) (pe_ix ix_seq (pv 0) pe_int (fun _ _ => rfl)) pe_int (nomark _)) (pss_one (ps_ret (pe_callTy call_strA (by rfl) T.z_str (by decide +kernel) (pa_cons (pe_ix ix_seq (pv 0) pe_int (fun _ _ => rfl)) pa_nil)))) pss_nil)
    (pss_one (ps_ret (pe_joined (.cons (pe_fmt (pe_ix ix_seq (pv 0) pe_int (fun _ _ => rfl))) (.cons pe_str (.cons (pe_fmt (pe_ix ix_seq (pv 0) pe_int (fun _ _ => rfl))) .nil))))))),
    (s_seq (s_if (t_test (v_op d_eq (v_op d_ix v_var v_int) v_int)) (s_ret (v_cb c_str (a_cons (v_op d_ix v_var v_int) a_nil))) s_skip)
    (s_ret (v_js (.cons (v_fmt (v_op d_ix v_var v_int)) (.cons v_str (.cons (v_fmt (v_op d_ix v_var v_int)) .nil))))))⟩
theorem ok_is_figures (T : Txt K mg base A) : FnOk P w K mg base (L2.CX P w) 1 A.f_is_figures A.d_is_figures p_is_figures (spF (GG K A) F_is_figures) :=
  fn_ok (k := 0) rfl rfl T.F_is_figures sc_is_figures fun cdv Ar outer s H E hr => ⟨_,
    (pss_cons (ps_if (PW.pt (pw_or (pt_cmpR (or_eq hr.units) (pe_callB call_len (by rfl) T.z_len (by decide +kernel) (pa_cons (pv 0) pa_nil)) pe_int (nomark _)) (pw_or1 (pt_cmpR op_gt (pe_callB call_len (by rfl) T.z_len (by decide +kernel) (pa_cons (pv 0) pa_nil)) (pe_glob (v := .int 40) rfl T.m_MOST_FIGURES ⟨_, rfl⟩) (nomark _))))) (pss_one (ps_ret pe_bl)) pss_nil)
    (pss_cons (ps_for (passes_of rfl) rfl (pi_any (pv 0)) (pg_name (i := 1) sc_is_figures.nd rfl (by first | exact Or.inl rfl | exact Or.inr rfl)) (pss_one (ps_if (pt_cmpR (or_notin (unit65 hr)) (pv 1) pe_str (by with_unfolding_all rfl)) (pss_one (ps_ret pe_bl)) pss_nil)))
    (pss_one (ps_ret (pe_or (pe_cmpR (or_eq hr.units) (pv 0) pe_str (nomark _)) (pe_one (pe_cmpR (or_ne hr.units) (pe_ix ix_seq (pv 0) pe_int (fun _ _ => rfl)) pe_str (nomark _)))))))),
    (s_seq (s_if (t_or (t_test (v_op d_eq (v_cb c_len (a_cons v_var a_nil)) v_int)) (t_test (v_op d_gt (v_cb c_len (a_cons v_var a_nil)) v_int))) (s_ret v_bl) s_skip)
    (s_seq (s_for (i_any v_var) g_name (s_if (t_test (v_op d_notin v_var v_str)) (s_ret v_bl) s_skip))
    (s_ret (v_or (v_op d_eq v_var v_str) (v_op d_ne (v_op d_ix v_var v_int) v_str)))))⟩
theorem ok_Share_spans (T : Txt K mg base A) : FnOk P w K mg base (L2.CX P w) 1 A.f_Share_spans A.d_Share_spans p_Share_spans (spF (GG K A) F_Share_spans) :=
  fn_ok (k := 0) rfl rfl T.F_Share_spans sc_Share_spans fun cdv Ar outer s H E hr => ⟨_,
    (pss_one (ps_ret (pe_callTy call_list_of (by rfl) T.z_list (by decide +kernel) (pa_cons (pe_fld (pv 0) rfl) pa_nil)))),
    (s_ret (v_cb c_list (a_cons (v_fld T.fo_parts v_var) a_nil)))⟩
theorem ok_law_box (T : Txt K mg base A) : FnOk P w K mg base (L2.CX P w) 1 A.f_law_box A.d_law_box p_law_box (spF (GG K A) F_law_box) :=
  fn_ok (k := 0) rfl rfl T.F_law_box sc_law_box fun cdv Ar outer s H E hr => ⟨_,
    (pss_cons (ps_setLc (i := 1) (own := [("_law_cell", 2)]) rfl sc_law_box.nd rfl rfl (sw_true rfl rfl rfl (by decide +kernel)) (pi_any (pv 0)) (blkOk_by (N := n_law_box) (sc := defScope (s_law_box)) (by decide +kernel)) (fun _ _ _ _ _ => (pg_name (i := 2) sc_law_box.nd rfl (by first | exact Or.inl rfl | exact Or.inr rfl))) (fun _ _ _ _ _ => (pts_one (pt_cmpR op_ge (pv 2) (pe_op op_pow pe_int pe_int) (nomark _)))) (fun _ _ _ _ _ => (pv 2)))
    (pss_one (ps_ret (pe_lst (pa_cons (pv 1) (pa_cons pe_int (pa_cons (pe_lc (own := [("_law_cell", 2)]) rfl sc_law_box.nd (pi_any (pv 0)) (blkOk_by (N := n_law_box) (sc := defScope (s_law_box)) (by decide +kernel)) (fun _ _ _ _ _ => (pg_name (i := 2) sc_law_box.nd rfl (by first | exact Or.inl rfl | exact Or.inr rfl))) (fun _ _ _ _ _ => (pts_one (pt_cmpR op_lt (pv 2) (pe_op op_pow pe_int pe_int) (nomark _)))) (fun _ _ _ _ _ => (pv 2))) (pa_cons pe_int pa_nil)))))))),
    (s_seq (s_setF (v_put (v_lc (vs := [2]) (js := [2]) (i_any v_var) g_name (by decide) (t_test (v_op d_ge v_var (v_op d_pow v_int v_int))) v_var)))
    (s_ret (v_put (v_lst (a_cons v_var (a_cons v_int (a_cons (v_lc (vs := [2]) (js := [2]) (i_any v_var) g_name (by decide) (t_test (v_op d_lt v_var (v_op d_pow v_int v_int))) v_var) (a_cons v_int a_nil))))))))⟩
theorem ok_law_mixed (T : Txt K mg base A) : FnOk P w K mg base (L2.CX P w) 1 A.f_law_mixed A.d_law_mixed p_law_mixed (spF (GG K A) F_law_mixed) :=
  fn_ok (k := 0) rfl rfl T.F_law_mixed sc_law_mixed fun cdv Ar outer s H E hr => ⟨_,
    (pss_cons (ps_set (i := 2) sc_law_mixed.nd rfl (by first | exact Or.inl rfl | exact Or.inr rfl) (pe_op op_modN (pe_op op_pow (pe_op or_add (pe_op or_add (pe_op or_add (pe_op op_modN (pv 0) pe_int) (pe_op or_mul (pe_op or_mul pe_int (pv 1)) (pv 1))) (pe_op or_mul pe_int (pv 1))) pe_int) pe_int) pe_int))
    (pss_one (ps_ret (pe_op op_modN (pe_op or_add (pe_op or_mul (pv 2) pe_int) (pe_op or_mul pe_int (pv 1))) pe_int)))),
    (s_seq (s_setF (v_op d_mod (v_op d_pow (v_op d_add (v_op d_add (v_op d_add (v_op d_mod v_var v_int) (v_op d_mul (v_op d_mul v_int v_var) v_var)) (v_op d_mul v_int v_var)) v_int) v_int) v_int))
    (s_ret (v_op d_mod (v_op d_add (v_op d_mul v_var v_int) (v_op d_mul v_int v_var)) v_int)))⟩
theorem ok_law_low (T : Txt K mg base A) : FnOk P w K mg base (L2.CX P w) 1 A.f_law_low A.d_law_low p_law_low (spF (GG K A) F_law_low) :=
  fn_ok (k := 0) rfl rfl T.F_law_low sc_law_low fun cdv Ar outer s H E hr => ⟨_,
    (pss_cons (ps_set (i := 2) sc_law_low.nd rfl (by first | exact Or.inl rfl | exact Or.inr rfl) (pe_callB call_abs (by rfl) T.z_abs (by decide +kernel) (pa_cons (pv 0) pa_nil)))
    (pss_cons (ps_set (i := 3) sc_law_low.nd rfl (by first | exact Or.inl rfl | exact Or.inr rfl) (pe_callB call_abs (by rfl) T.z_abs (by decide +kernel) (pa_cons (pv 1) pa_nil)))
    (pss_cons (ps_while (passes_of rfl) (pt_cmpR op_gt (pv 3) pe_int (nomark _)) (pss_one (ps_par rfl sc_law_low.nd rfl rfl (by decide) rfl rfl (pa_cons (pv 3) (pa_cons (pe_op op_modN (pv 2) (pv 3)) pa_nil)) rfl)))
    (pss_cons (ps_if (pt_cmpR op_lt (pv 1) pe_int (nomark _)) (pss_one (ps_set (i := 2) sc_law_low.nd rfl (by first | exact Or.inl rfl | exact Or.inr rfl) (pe_un un_neg (pv 2)))) pss_nil)
    (pss_one (ps_ret (pe_tup (pa_cons (pe_op or_div (pv 0) (pv 2)) (pa_cons (pe_op or_div (pv 1) (pv 2)) pa_nil))))))))),
    (s_seq (s_setF (v_cb c_abs (a_cons v_var a_nil)))
    (s_seq (s_setF (v_cb c_abs (a_cons v_var a_nil)))
    (s_seq (s_while (t_test (v_op d_gt v_var v_int)) (s_par (a_cons v_var (a_cons (v_op d_mod v_var v_var) a_nil))))
    (s_seq (s_if (t_test (v_op d_lt v_var v_int)) (s_setF (v_un d_neg v_var)) s_skip)
    (s_ret (v_tup (a_cons (v_op d_div v_var v_var) (a_cons (v_op d_div v_var v_var) a_nil))))))))⟩
theorem ok_law_less (T : Txt K mg base A) : FnOk P w K mg base (L2.CX P w) 1 A.f_law_less A.d_law_less p_law_less (spF (GG K A) F_law_less) :=
  fn_ok (k := 0) rfl rfl T.F_law_less sc_law_less fun cdv Ar outer s H E hr => ⟨_,
    (pss_one (ps_ret (pe_cmpR op_lt (pe_op or_mul (pe_ix ix_seq (pv 0) pe_int (fun _ _ => rfl)) (pe_ix ix_seq (pv 1) pe_int (fun _ _ => rfl))) (pe_op or_mul (pe_ix ix_seq (pv 1) pe_int (fun _ _ => rfl)) (pe_ix ix_seq (pv 0) pe_int (fun _ _ => rfl))) (nomark _)))),
    (s_ret (v_op d_lt (v_op d_mul (v_op d_ix v_var v_int) (v_op d_ix v_var v_int)) (v_op d_mul (v_op d_ix v_var v_int) (v_op d_ix v_var v_int))))⟩
theorem ok_law_joined (T : Txt K mg base A) : FnOk P w K mg base (L2.CX P w) 1 A.f_law_joined A.d_law_joined p_law_joined (spF (GG K A) F_law_joined) :=
  fn_ok (k := 0) rfl rfl T.F_law_joined sc_law_joined fun cdv Ar outer s H E hr => ⟨_,
    (pss_cons (ps_set (i := 1) sc_law_joined.nd rfl (by first | exact Or.inl rfl | exact Or.inr rfl) (pe_lst pa_nil))
    (pss_cons (ps_for (passes_of rfl) rfl (pi_any (pe_callB (CallR.or cr_sorted cr_sortedQ) (by rfl) T.z_sorted (by decide +kernel) (pa_cons (pe_lc (own := [("_law_pair", 4)]) rfl sc_law_joined.nd (pi_any (pv 0)) (blkOk_by (N := n_law_joined) (sc := defScope (s_law_joined)) (by decide +kernel)) (fun _ _ _ _ _ => (pg_name (i := 4) sc_law_joined.nd rfl (by first | exact Or.inl rfl | exact Or.inr rfl))) (fun _ _ _ _ _ => (pts_one (pt_cmpR op_lt (pe_ix ix_seq (pv 4) pe_int (fun _ _ => rfl)) (pe_ix ix_seq (pv 4) pe_int (fun _ _ => rfl)) (nomark _)))) (fun _ _ _ _ _ => (pv 4))) pa_nil))) (pg_tl rfl (pgs_cons (pg_name (i := 2) sc_law_joined.nd rfl (by first | exact Or.inl rfl | exact Or.inr rfl)) (pgs_cons (pg_name (i := 3) sc_law_joined.nd rfl (by first | exact Or.inl rfl | exact Or.inr rfl)) pgs_nil))) (pss_one (ps_if (PW.pt (pw_and (pt_cmpR op_gt (pe_callB call_len (by rfl) T.z_len (by decide +kernel) (pa_cons (pv 1) pa_nil)) pe_int (nomark _)) (pw_and1 (pt_cmpR op_le (pv 2) (pe_ix ix_seq (pe_ix ix_seq (pv 1) (pe_un un_neg pe_int) (fun _ _ => rfl)) pe_int (fun _ _ => rfl)) (nomark _))))) (pss_one (ps_asg (pe_tup (pa_cons (pe_ix ix_seq (pe_ix ix_seq (pv 1) (pe_un un_neg pe_int) (fun _ _ => rfl)) pe_int (fun _ _ => rfl)) (pa_cons (pe_callB (call_max2 rfl) (by rfl) T.z_max (by decide +kernel) (pa_cons (pv 3) (pa_cons (pe_ix ix_seq (pe_ix ix_seq (pv 1) (pe_un un_neg pe_int) (fun _ _ => rfl)) pe_int (fun _ _ => rfl)) pa_nil))) pa_nil))) (pg_sub (pv 1) (pe_un un_neg pe_int) set_list))) (pss_one (ps_expr (pe_bm PySem.F.plainAttrs_list PySem.F.slot_list_append PySem.F.type_list_append mt_append (pv 1) (pa_cons (pe_tup (pa_cons (pv 2) (pa_cons (pv 3) pa_nil))) pa_nil)))))))
    (pss_one (ps_ret (pv 1))))),
    (s_seq (s_set (v_lst a_nil))
    (s_seq (s_for (i_any (v_cb c_sortedX (a_cons (v_lc (vs := [4]) (js := [4]) (i_any v_var) g_name (by decide) (t_test (v_op d_lt (v_op d_ix v_var v_int) (v_op d_ix v_var v_int))) v_var) a_nil))) (g_tl (gs_cons g_name (gs_cons g_name gs_nil))) (s_if (t_and (t_test (v_op d_gt (v_cb c_len (a_cons v_var a_nil)) v_int)) (t_test (v_op d_le v_var (v_op d_ix (v_op d_ix v_var (v_un d_neg v_int)) v_int)))) (s_setI (v_tup (a_cons (v_op d_ix (v_op d_ix v_var (v_un d_neg v_int)) v_int) (a_cons (v_cb c_max2 (a_cons v_var (a_cons (v_op d_ix (v_op d_ix v_var (v_un d_neg v_int)) v_int) a_nil))) a_nil))) (v_un d_neg v_int)) (s_mt m_append (a_cons (v_tup (a_cons v_var (a_cons v_var a_nil))) a_nil))))
    s_retV))⟩
theorem ok_law_number (T : Txt K mg base A) : FnOk P w K mg base (L2.CX P w) 1 A.f_law_number A.d_law_number p_law_number (spF (GG K A) F_law_number) :=
  fn_ok (k := 0) rfl rfl T.F_law_number sc_law_number fun cdv Ar outer s H E hr => ⟨_,
    (pss_cons (ps_if (pt_cmpR (or_eq hr.units) (pe_ix ix_seq (pv 0) pe_int (fun _ _ => rfl)) pe_int (nomark _)) (pss_one (ps_ret (pe_callTy call_strA (by rfl) T.z_str (by decide +kernel) (pa_cons (pe_ix ix_seq (pv 0) pe_int (fun _ _ => rfl)) pa_nil)))) pss_nil)
    (pss_one (ps_ret (pe_op or_add (pe_op or_add (pe_callTy call_strA (by rfl) T.z_str (by decide +kernel) (pa_cons (pe_ix ix_seq (pv 0) pe_int (fun _ _ => rfl)) pa_nil)) pe_str) (pe_callTy call_strA (by rfl) T.z_str (by decide +kernel) (pa_cons (pe_ix ix_seq (pv 0) pe_int (fun _ _ => rfl)) pa_nil)))))),
    (s_seq (s_if (t_test (v_op d_eq (v_op d_ix v_var v_int) v_int)) (s_ret (v_cb c_str (a_cons (v_op d_ix v_var v_int) a_nil))) s_skip)
    (s_ret (v_op d_add (v_op d_add (v_cb c_str (a_cons (v_op d_ix v_var v_int) a_nil)) v_str) (v_cb c_str (a_cons (v_op d_ix v_var v_int) a_nil)))))⟩
theorem ok_law_figures (T : Txt K mg base A) : FnOk P w K mg base (L2.CX P w) 1 A.f_law_figures A.d_law_figures p_law_figures (spF (GG K A) F_law_figures) :=
  fn_ok (k := 0) rfl rfl T.F_law_figures sc_law_figures fun cdv Ar outer s H E hr => ⟨_,
    (pss_cons (ps_if (PW.pt (pw_or (pt_cmpR (or_eq hr.units) (pe_callB call_len (by rfl) T.z_len (by decide +kernel) (pa_cons (pv 0) pa_nil)) pe_int (nomark _)) (pw_or (pt_cmpR op_gt (pe_callB call_len (by rfl) T.z_len (by decide +kernel) (pa_cons (pv 0) pa_nil)) pe_int (nomark _)) (pw_or1 (pt_not (pt_val (pe_callB (cr_all rfl) (by rfl) T.z_all (by decide +kernel) (pa_cons (pe_lc (own := [("_law_sign", 1)]) rfl sc_law_figures.nd (pi_any (pv 0)) (blkOk_by (N := n_law_figures) (sc := defScope (s_law_figures)) (by decide +kernel)) (fun _ _ _ _ _ => (pg_name (i := 1) sc_law_figures.nd rfl (by first | exact Or.inl rfl | exact Or.inr rfl))) (fun _ _ _ _ _ => pts_nil) (fun _ _ _ _ _ => (pe_cmpR (or_in (unit65 hr)) (pv 1) pe_str (by with_unfolding_all rfl)))) pa_nil)))))))) (pss_one (ps_ret pe_bl)) pss_nil)
    (pss_one (ps_ret (pe_or (pe_cmpR (or_eq hr.units) (pv 0) pe_str (nomark _)) (pe_one (pe_cmpR (or_ne hr.units) (pe_ix ix_seq (pv 0) pe_int (fun _ _ => rfl)) pe_str (nomark _))))))),
    (s_seq (s_if (t_or (t_test (v_op d_eq (v_cb c_len (a_cons v_var a_nil)) v_int)) (t_or (t_test (v_op d_gt (v_cb c_len (a_cons v_var a_nil)) v_int)) (t_not (t_val (v_cb c_all (a_cons (v_lc (vs := [1]) (js := [1]) (i_any v_var) g_name (by decide) t_yes (v_op d_in v_var v_str)) a_nil)))))) (s_ret v_bl) s_skip)
    (s_ret (v_or (v_op d_eq v_var v_str) (v_op d_ne (v_op d_ix v_var v_int) v_str))))⟩
theorem ok_fraction_of (T : Txt K mg base A) : FnOk P w K mg base (L2.CX P w) 2 A.f_fraction_of A.d_fraction_of p_fraction_of (spF (GG K A) F_fraction_of) :=
  fn_okD (k := 1) rfl rfl T.F_fraction_of sc_fraction_of fun cdv Ar outer s H E hr => ⟨_,
    (pss_cons (ps_if (pt_cmpR (or_eq hr.units) (pv 1) pe_int (nomark _)) (pss_one (ps_raise rfl (takes_of rfl rfl rfl rfl) (pmk_own PySem.F.excBase_ValueError T.x_NoFraction T.g_NoFraction T.k_NoFraction (raises_own T.sb_NoFraction T.t_NoFraction) rfl))) pss_nil)
    (pss_cons (ps_set (i := 2) sc_fraction_of.nd rfl (by first | exact Or.inl rfl | exact Or.inr rfl) (pe_callS (ok_divisor T) hr rfl T.g_divisor T.F_divisor.kp T.b_divisor (fun σ => passAt (takes_of rfl rfl rfl rfl) σ) (by exact (pa_cons (pv 0) (pa_cons (pv 1) pa_nil)))))
    (pss_cons (ps_if (pt_cmpR op_lt (pv 1) pe_int (nomark _)) (pss_one (ps_set (i := 2) sc_fraction_of.nd rfl (by first | exact Or.inl rfl | exact Or.inr rfl) (pe_un un_neg (pv 2)))) pss_nil)
    (pss_one (ps_ret (pe_tup (pa_cons (pe_op or_div (pv 0) (pv 2)) (pa_cons (pe_op or_div (pv 1) (pv 2)) pa_nil)))))))),
    (s_seq (s_if (t_test (v_op d_eq v_var v_int)) (s_raise rfl) s_skip)
    (s_seq (s_setF (v_call (a_cons v_var (a_cons v_var a_nil))))
    (s_seq (s_if (t_test (v_op d_lt v_var v_int)) (s_setF (v_un d_neg v_var)) s_skip)
    (s_ret (v_tup (a_cons (v_op d_div v_var v_var) (a_cons (v_op d_div v_var v_var) a_nil)))))))⟩
theorem ok_ask_span (T : Txt K mg base A) : FnOk P w K mg base (L2.CX P w) 2 A.f_ask_span A.d_ask_span p_ask_span (spF (GG K A) F_ask_span) :=
  fn_ok (k := 1) rfl rfl T.F_ask_span sc_ask_span fun cdv Ar outer s H E hr => ⟨_,
    (pss_one (ps_if (PW.pt (pw_or (pt_val (pe_callS (ok_is_less T) hr rfl T.g_is_less T.F_is_less.kp T.b_is_less (fun σ => passAt (takes_of rfl rfl rfl rfl) σ) (by exact (pa_cons (pv 0) (pa_cons (pe_glob (v := .ref A.a_BEGIN) rfl T.m_BEGIN rfl) pa_nil))))) (pw_or (pt_val (pe_callS (ok_is_less T) hr rfl T.g_is_less T.F_is_less.kp T.b_is_less (fun σ => passAt (takes_of rfl rfl rfl rfl) σ) (by exact (pa_cons (pe_glob (v := .ref A.a_END) rfl T.m_END rfl) (pa_cons (pv 1) pa_nil))))) (pw_or1 (pt_val (pe_callS (ok_is_less T) hr rfl T.g_is_less T.F_is_less.kp T.b_is_less (fun σ => passAt (takes_of rfl rfl rfl rfl) σ) (by exact (pa_cons (pv 1) (pa_cons (pv 0) pa_nil))))))))) (pss_one (ps_raise rfl (takes_of rfl rfl rfl rfl) (pmk_own PySem.F.excBase_ValueError T.x_NoSpan T.g_NoSpan T.k_NoSpan (raises_own T.sb_NoSpan T.t_NoSpan) rfl))) pss_nil)),
    (s_if (t_or (t_val (v_call (a_cons v_var (a_cons (v_const T.i_BEGIN) a_nil)))) (t_or (t_val (v_call (a_cons (v_const T.i_END) (a_cons v_var a_nil)))) (t_val (v_call (a_cons v_var (a_cons v_var a_nil)))))) (s_raise rfl) s_skip)⟩
theorem okN_ask_span (T : Txt K mg base A) : FnOk P w K mg base (L2N.CX P w) 2 A.f_ask_span A.d_ask_span p_ask_span (spF (GG K A) F_ask_span) :=
  fn_okN (k := 1) rfl rfl T.F_ask_span sc_ask_span fun cdv Ar outer s H E hr => ⟨_,
    (pss_one (ps_if (PW.pt (pw_or (pt_val (pe_callS (okN_is_less T) hr rfl T.g_is_less T.F_is_less.kp T.b_is_less (fun σ => L2N.passAt (L2N.takes_of rfl rfl rfl rfl) σ) (by exact (pa_cons (pv 0) (pa_cons (pe_glob (v := .ref A.a_BEGIN) rfl T.m_BEGIN rfl) pa_nil))))) (pw_or (pt_val (pe_callS (okN_is_less T) hr rfl T.g_is_less T.F_is_less.kp T.b_is_less (fun σ => L2N.passAt (L2N.takes_of rfl rfl rfl rfl) σ) (by exact (pa_cons (pe_glob (v := .ref A.a_END) rfl T.m_END rfl) (pa_cons (pv 1) pa_nil))))) (pw_or1 (pt_val (pe_callS (okN_is_less T) hr rfl T.g_is_less T.F_is_less.kp T.b_is_less (fun σ => L2N.passAt (L2N.takes_of rfl rfl rfl rfl) σ) (by exact (pa_cons (pv 1) (pa_cons (pv 0) pa_nil))))))))) (pss_one (L2N.ps_raise rfl (L2N.takes_of rfl rfl rfl rfl) (L2N.pmk_own PySem.F.excBase_ValueError T.x_NoSpan T.g_NoSpan T.k_NoSpan (raises_own T.sb_NoSpan T.t_NoSpan) rfl))) pss_nil)),
    (s_if (t_or (t_val (v_call (a_cons v_var (a_cons (v_const T.i_BEGIN) a_nil)))) (t_or (t_val (v_call (a_cons (v_const T.i_END) (a_cons v_var a_nil)))) (t_val (v_call (a_cons v_var (a_cons v_var a_nil)))))) (s_raise rfl) s_skip)⟩
theorem ok_rising_places (T : Txt K mg base A) : FnOk P w K mg base (L2.CX P w) 2 A.f_rising_places A.d_rising_places p_rising_places (spF (GG K A) F_rising_places) :=
  fn_ok (k := 1) rfl rfl T.F_rising_places sc_rising_places fun cdv Ar outer s H E hr => ⟨_,
    (pss_cons (ps_set (i := 1) sc_rising_places.nd rfl (by first | exact Or.inl rfl | exact Or.inr rfl) (pe_lst pa_nil))
    (pss_cons (ps_for (passes_of rfl) rfl (pi_any (pv 0)) (pg_name (i := 2) sc_rising_places.nd rfl (by first | exact Or.inl rfl | exact Or.inr rfl)) (pss_one (ps_for (passes_of rfl) rfl (pi_any (pv 2)) (pg_name (i := 3) sc_rising_places.nd rfl (by first | exact Or.inl rfl | exact Or.inr rfl)) (pss_cons (ps_set (i := 4) sc_rising_places.nd rfl (by first | exact Or.inl rfl | exact Or.inr rfl) (pe_callB call_len (by rfl) T.z_len (by decide +kernel) (pa_cons (pv 1) pa_nil)))
    (pss_cons (ps_while (passes_of rfl) (PW.pt (pw_and (pt_cmpR op_gt (pv 4) pe_int (nomark _)) (pw_and1 (pt_val (pe_callS (ok_is_less T) hr rfl T.g_is_less T.F_is_less.kp T.b_is_less (fun σ => passAt (takes_of rfl rfl rfl rfl) σ) (by exact (pa_cons (pv 3) (pa_cons (pe_ix ix_seq (pv 1) (pe_op op_sub (pv 4) pe_int) (fun _ _ => rfl)) pa_nil)))))))) (pss_one (ps_set (i := 4) sc_rising_places.nd rfl (by first | exact Or.inl rfl | exact Or.inr rfl) (pe_op op_sub (pv 4) pe_int))))
    (pss_one (ps_if (PW.pt (pw_or (pt_cmpR (or_eq hr.units) (pv 4) pe_int (nomark _)) (pw_or1 (pt_cmpR (or_ne hr.units) (pe_ix ix_seq (pv 1) (pe_op op_sub (pv 4) pe_int) (fun _ _ => rfl)) (pv 3) (nomark _))))) (pss_one (ps_expr (pe_bm PySem.F.plainAttrs_list PySem.F.slot_list_insert PySem.F.type_list_insert mt_insert (pv 1) (pa_cons (pv 4) (pa_cons (pv 3) pa_nil))))) pss_nil)))))))
    (pss_one (ps_ret (pv 1))))),
    (s_seq (s_set (v_lst a_nil))
    (s_seq (s_for (i_any v_var) g_name (s_for (i_any v_var) g_name (s_seq (s_setF (v_cb c_len (a_cons v_var a_nil)))
    (s_seq (s_while (t_and (t_test (v_op d_gt v_var v_int)) (t_val (v_call (a_cons v_var (a_cons (v_op d_ix v_var (v_op d_sub v_var v_int)) a_nil))))) (s_setF (v_op d_sub v_var v_int)))
    (s_if (t_or (t_test (v_op d_eq v_var v_int)) (t_test (v_op d_ne (v_op d_ix v_var (v_op d_sub v_var v_int)) v_var))) (s_mt m_insert (a_cons v_var (a_cons v_var a_nil))) s_skip)))))
    s_retV))⟩
theorem okN_rising_places (T : Txt K mg base A) : FnOk P w K mg base (L2N.CX P w) 2 A.f_rising_places A.d_rising_places p_rising_places (spF (GG K A) F_rising_places) :=
  fn_okN (k := 1) rfl rfl T.F_rising_places sc_rising_places fun cdv Ar outer s H E hr => ⟨_,
    (pss_cons (ps_set (i := 1) sc_rising_places.nd rfl (by first | exact Or.inl rfl | exact Or.inr rfl) (pe_lst pa_nil))
    (pss_cons (ps_for (passes_of rfl) rfl (pi_any (pv 0)) (pg_name (i := 2) sc_rising_places.nd rfl (by first | exact Or.inl rfl | exact Or.inr rfl)) (pss_one (ps_for (passes_of rfl) rfl (pi_any (pv 2)) (pg_name (i := 3) sc_rising_places.nd rfl (by first | exact Or.inl rfl | exact Or.inr rfl)) (pss_cons (ps_set (i := 4) sc_rising_places.nd rfl (by first | exact Or.inl rfl | exact Or.inr rfl) (pe_callB call_len (by rfl) T.z_len (by decide +kernel) (pa_cons (pv 1) pa_nil)))
    (pss_cons (ps_while (passes_of rfl) (PW.pt (pw_and (pt_cmpR op_gt (pv 4) pe_int (nomark _)) (pw_and1 (pt_val (pe_callS (okN_is_less T) hr rfl T.g_is_less T.F_is_less.kp T.b_is_less (fun σ => L2N.passAt (L2N.takes_of rfl rfl rfl rfl) σ) (by exact (pa_cons (pv 3) (pa_cons (pe_ix ix_seq (pv 1) (pe_op op_sub (pv 4) pe_int) (fun _ _ => rfl)) pa_nil)))))))) (pss_one (ps_set (i := 4) sc_rising_places.nd rfl (by first | exact Or.inl rfl | exact Or.inr rfl) (pe_op op_sub (pv 4) pe_int))))
    (pss_one (ps_if (PW.pt (pw_or (pt_cmpR (or_eq hr.units) (pv 4) pe_int (nomark _)) (pw_or1 (pt_cmpR (or_ne hr.units) (pe_ix ix_seq (pv 1) (pe_op op_sub (pv 4) pe_int) (fun _ _ => rfl)) (pv 3) (nomark _))))) (pss_one (ps_expr (pe_bm PySem.F.plainAttrs_list PySem.F.slot_list_insert PySem.F.type_list_insert mt_insert (pv 1) (pa_cons (pv 4) (pa_cons (pv 3) pa_nil))))) pss_nil)))))))
    (pss_one (ps_ret (pv 1))))),
    (s_seq (s_set (v_lst a_nil))
    (s_seq (s_for (i_any v_var) g_name (s_for (i_any v_var) g_name (s_seq (s_setF (v_cb c_len (a_cons v_var a_nil)))
    (s_seq (s_while (t_and (t_test (v_op d_gt v_var v_int)) (t_val (v_call (a_cons v_var (a_cons (v_op d_ix v_var (v_op d_sub v_var v_int)) a_nil))))) (s_setF (v_op d_sub v_var v_int)))
    (s_if (t_or (t_test (v_op d_eq v_var v_int)) (t_test (v_op d_ne (v_op d_ix v_var (v_op d_sub v_var v_int)) v_var))) (s_mt m_insert (a_cons v_var (a_cons v_var a_nil))) s_skip)))))
    s_retV))⟩
theorem ok_covers (T : Txt K mg base A) : FnOk P w K mg base (L2.CX P w) 2 A.f_covers A.d_covers p_covers (spF (GG K A) F_covers) :=
  fn_ok (k := 1) rfl rfl T.F_covers sc_covers fun cdv Ar outer s H E hr => ⟨_,
    (pss_cons (ps_for (passes_of rfl) rfl (pi_any (pv 0)) (pg_tl rfl (pgs_cons (pg_name (i := 3) sc_covers.nd rfl (by first | exact Or.inl rfl | exact Or.inr rfl)) (pgs_cons (pg_name (i := 4) sc_covers.nd rfl (by first | exact Or.inl rfl | exact Or.inr rfl)) pgs_nil))) (pss_one (ps_if (PW.pt (pw_and (pt_not (pt_val (pe_callS (ok_is_less T) hr rfl T.g_is_less T.F_is_less.kp T.b_is_less (fun σ => passAt (takes_of rfl rfl rfl rfl) σ) (by exact (pa_cons (pv 1) (pa_cons (pv 3) pa_nil)))))) (pw_and1 (pt_not (pt_val (pe_callS (ok_is_less T) hr rfl T.g_is_less T.F_is_less.kp T.b_is_less (fun σ => passAt (takes_of rfl rfl rfl rfl) σ) (by exact (pa_cons (pv 4) (pa_cons (pv 2) pa_nil))))))))) (pss_one (ps_ret pe_bl)) pss_nil)))
    (pss_one (ps_ret pe_bl))),
    (s_seq (s_for (i_any v_var) (g_tl (gs_cons g_name (gs_cons g_name gs_nil))) (s_if (t_and (t_not (t_val (v_call (a_cons v_var (a_cons v_var a_nil))))) (t_not (t_val (v_call (a_cons v_var (a_cons v_var a_nil)))))) (s_ret v_bl) s_skip))
    (s_ret v_bl))⟩
theorem ok_Share___str__ (T : Txt K mg base A) : FnOk P w K mg base (L2.CX P w) 2 A.f_Share___str__ A.d_Share___str__ p_Share___str__ (spF (GG K A) F_Share___str__) :=
  fn_ok (k := 1) rfl rfl T.F_Share___str__ sc_Share___str__ fun cdv Ar outer s H E hr => ⟨_,
    (pss_cons (ps_if (pt_cmpR (or_eq hr.units) (pe_callB call_len (by rfl) T.z_len (by decide +kernel) (pa_cons (pe_fld (pv 0) rfl) pa_nil)) pe_int (nomark _)) (pss_one (ps_ret pe_str)) pss_nil)
    (pss_one (ps_ret (pe_bm PySem.F.plainAttrs_str PySem.F.slot_str_join PySem.F.type_str_join mt_join pe_str (pa_cons (pe_lc (own := [("here", 1), ("there", 2)]) rfl sc_Share___str__.nd (pi_any (pe_fld (pv 0) rfl)) (blkOk_by (N := n_Share___str__) (sc := defScope (s_Share___str__)) (by decide +kernel)) (fun _ _ _ _ _ => (pg_tl rfl (pgs_cons (pg_name (i := 1) sc_Share___str__.nd rfl (by first | exact Or.inl rfl | exact Or.inr rfl)) (pgs_cons (pg_name (i := 2) sc_Share___str__.nd rfl (by first | exact Or.inl rfl | exact Or.inr rfl)) pgs_nil)))) (fun _ _ _ _ _ => pts_nil) (fun _ _ _ _ _ => (pe_op or_add (pe_op or_add (pe_callS (ok_fraction_text T) hr rfl T.g_fraction_text T.F_fraction_text.kp T.b_fraction_text (fun σ => passAt takes0 σ) (by exact (pa_cons (pv 1) pa_nil))) pe_str) (pe_callS (ok_fraction_text T) hr rfl T.g_fraction_text T.F_fraction_text.kp T.b_fraction_text (fun σ => passAt takes0 σ) (by exact (pa_cons (pv 2) pa_nil)))))) pa_nil))))),
    (s_seq (s_if (t_test (v_op d_eq (v_cb c_len (a_cons (v_fld T.fo_parts v_var) a_nil)) v_int)) (s_ret v_str) s_skip)
    (s_ret (v_ms ms_join v_str (a_cons (v_lc (vs := [1, 2]) (i_any (v_fld T.fo_parts v_var)) (g_tl (gs_cons g_name (gs_cons g_name gs_nil))) (by decide) t_yes (v_op d_add (v_op d_add (v_call (a_cons v_var a_nil)) v_str) (v_call (a_cons v_var a_nil)))) a_nil))))⟩
theorem ok_law_take (T : Txt K mg base A) : FnOk P w K mg base (L2.CX P w) 2 A.f_law_take A.d_law_take p_law_take (spF (GG K A) F_law_take) :=
  fn_ok (k := 1) rfl rfl T.F_law_take sc_law_take fun cdv Ar outer s H E hr => ⟨_,
    (pss_cons (ps_asg (pe_op or_add (pe_ix ix_seq (pv 0) pe_int (fun _ _ => rfl)) pe_int) (pg_sub (pv 0) pe_int set_list))
    (pss_cons (ps_if (PW.pt (pw_and (pt_cmpR (or_eq hr.units) (pe_ix ix_seq (pv 0) pe_int (fun _ _ => rfl)) pe_int (nomark _)) (pw_and1 (pt_cmpR op_gt (pe_callB call_len (by rfl) T.z_len (by decide +kernel) (pa_cons (pe_ix ix_seq (pv 0) pe_int (fun _ _ => rfl)) pa_nil)) pe_int (nomark _))))) (pss_one (ps_asg (pe_bm PySem.F.plainAttrs_list PySem.F.slot_list_pop PySem.F.type_list_pop mt_popAt (pe_ix ix_seq (pv 0) pe_int (fun _ _ => rfl)) (pa_cons pe_int pa_nil)) (pg_sub (pv 0) pe_int set_list))) pss_nil)
    (pss_cons (ps_if (pt_cmpR op_gt (pe_ix ix_seq (pv 0) pe_int (fun _ _ => rfl)) pe_int (nomark _)) (pss_cons (ps_set (i := 3) sc_law_take.nd rfl (by first | exact Or.inl rfl | exact Or.inr rfl) (pe_op op_modN (pe_ix ix_seq (pv 0) pe_int (fun _ _ => rfl)) (pv 1)))
    (pss_cons (ps_asg (pe_op or_div (pe_ix ix_seq (pv 0) pe_int (fun _ _ => rfl)) (pv 1)) (pg_sub (pv 0) pe_int set_list))
    (pss_one (ps_ret (pv 3))))) pss_nil)
    (pss_cons (ps_set (i := 2) sc_law_take.nd rfl (by first | exact Or.inl rfl | exact Or.inr rfl) (pe_op or_mul pe_int (pe_ix ix_seq (pv 0) pe_int (fun _ _ => rfl))))
    (pss_cons (ps_if (pt_cmpR op_gt (pe_callB call_len (by rfl) T.z_len (by decide +kernel) (pa_cons (pe_ix ix_seq (pv 0) pe_int (fun _ _ => rfl)) pa_nil)) pe_int (nomark _)) (pss_one (ps_set (i := 2) sc_law_take.nd rfl (by first | exact Or.inl rfl | exact Or.inr rfl) (pe_ix ix_seq (pe_ix ix_seq (pv 0) pe_int (fun _ _ => rfl)) (pe_op op_modN (pe_ix ix_seq (pv 0) pe_int (fun _ _ => rfl)) (pe_callB call_len (by rfl) T.z_len (by decide +kernel) (pa_cons (pe_ix ix_seq (pv 0) pe_int (fun _ _ => rfl)) pa_nil))) (fun _ _ => rfl)))) pss_nil)
    (pss_cons (ps_set (i := 3) sc_law_take.nd rfl (by first | exact Or.inl rfl | exact Or.inr rfl) pe_int)
    (pss_cons (ps_set (i := 4) sc_law_take.nd rfl (by first | exact Or.inl rfl | exact Or.inr rfl) pe_int)
    (pss_cons (ps_while (passes_of rfl) (pt_cmpR op_lt (pv 4) (pv 1) (nomark _)) (pss_cons (ps_set (i := 3) sc_law_take.nd rfl (by first | exact Or.inl rfl | exact Or.inr rfl) (pe_op or_add (pe_op or_mul (pv 3) pe_int) (pe_callS (ok_law_mixed T) hr rfl T.g_law_mixed T.F_law_mixed.kp T.b_law_mixed (fun σ => passAt (takes_of rfl rfl rfl rfl) σ) (by exact (pa_cons (pv 2) (pa_cons (pe_op or_add (pe_ix ix_seq (pv 0) pe_int (fun _ _ => rfl)) (pe_op or_mul pe_int (pe_op op_modN (pv 3) pe_int))) pa_nil))))))
    (pss_one (ps_set (i := 4) sc_law_take.nd rfl (by first | exact Or.inl rfl | exact Or.inr rfl) (pe_op or_mul (pv 4) pe_int)))))
    (pss_one (ps_ret (pe_op op_modN (pv 3) (pv 1)))))))))))),
    (s_seq (s_setI (v_op d_add (v_op d_ix v_var v_int) v_int) v_int)
    (s_seq (s_if (t_and (t_test (v_op d_eq (v_op d_ix v_var v_int) v_int)) (t_test (v_op d_gt (v_cb c_len (a_cons (v_op d_ix v_var v_int) a_nil)) v_int))) (s_setI (v_mtX m_popAt (v_op d_ix v_var v_int) (a_cons v_int a_nil)) v_int) s_skip)
    (s_seq (s_if (t_test (v_op d_gt (v_op d_ix v_var v_int) v_int)) (s_seq (s_setF (v_op d_mod (v_op d_ix v_var v_int) v_var))
    (s_seq (s_setI (v_op d_div (v_op d_ix v_var v_int) v_var) v_int)
    s_retV)) s_skip)
    (s_seq (s_setF (v_op d_mul v_int (v_op d_ix v_var v_int)))
    (s_seq (s_if (t_test (v_op d_gt (v_cb c_len (a_cons (v_op d_ix v_var v_int) a_nil)) v_int)) (s_setF (v_op d_ix (v_op d_ix v_var v_int) (v_op d_mod (v_op d_ix v_var v_int) (v_cb c_len (a_cons (v_op d_ix v_var v_int) a_nil))))) s_skip)
    (s_seq (s_setF v_int)
    (s_seq (s_setF v_int)
    (s_seq (s_while (t_test (v_op d_lt v_var v_var)) (s_seq (s_setF (v_op d_add (v_op d_mul v_var v_int) (v_call (a_cons v_var (a_cons (v_op d_add (v_op d_ix v_var v_int) (v_op d_mul v_int (v_op d_mod v_var v_int))) a_nil)))))
    (s_setF (v_op d_mul v_var v_int))))
    (s_ret (v_op d_mod v_var v_var))))))))))⟩
theorem ok_law_told (T : Txt K mg base A) : FnOk P w K mg base (L2.CX P w) 2 A.f_law_told A.d_law_told p_law_told (spF (GG K A) F_law_told) :=
  fn_ok (k := 1) rfl rfl T.F_law_told sc_law_told fun cdv Ar outer s H E hr => ⟨_,
    (pss_one (ps_ret (pe_lc (own := [("_law_low_here", 2), ("_law_high", 3)]) rfl sc_law_told.nd (pi_any (pv 0)) (blkOk_by (N := n_law_told) (sc := defScope (s_law_told)) (by decide +kernel)) (fun _ _ _ _ _ => (pg_tl rfl (pgs_cons (pg_name (i := 2) sc_law_told.nd rfl (by first | exact Or.inl rfl | exact Or.inr rfl)) (pgs_cons (pg_name (i := 3) sc_law_told.nd rfl (by first | exact Or.inl rfl | exact Or.inr rfl)) pgs_nil)))) (fun _ _ _ _ _ => pts_nil) (fun _ _ _ _ _ => (pe_tup (pa_cons (pe_callS (ok_law_low T) hr rfl T.g_law_low T.F_law_low.kp T.b_law_low (fun σ => passAt takes0 σ) (by exact (pa_cons (pv 2) (pa_cons (pv 1) pa_nil)))) (pa_cons (pe_callS (ok_law_low T) hr rfl T.g_law_low T.F_law_low.kp T.b_law_low (fun σ => passAt takes0 σ) (by exact (pa_cons (pv 3) (pa_cons (pv 1) pa_nil)))) pa_nil))))))),
    (s_ret (v_lc (vs := [2, 3]) (i_any v_var) (g_tl (gs_cons g_name (gs_cons g_name gs_nil))) (by decide) t_yes (v_tup (a_cons (v_call (a_cons v_var (a_cons v_var a_nil))) (a_cons (v_call (a_cons v_var (a_cons v_var a_nil))) a_nil)))))⟩
theorem ok_law_text (T : Txt K mg base A) : FnOk P w K mg base (L2.CX P w) 2 A.f_law_text A.d_law_text p_law_text (spF (GG K A) F_law_text) :=
  fn_ok (k := 1) rfl rfl T.F_law_text sc_law_text fun cdv Ar outer s H E hr => ⟨_,
    (pss_cons (ps_if (pt_cmpR (or_eq hr.units) (pe_callB call_len (by rfl) T.z_len (by decide +kernel) (pa_cons (pv 0) pa_nil)) pe_int (nomark _)) (pss_one (ps_ret pe_str)) pss_nil)
    (pss_one (ps_ret (pe_bm PySem.F.plainAttrs_str PySem.F.slot_str_join PySem.F.type_str_join mt_join pe_str (pa_cons (pe_lc (own := [("_law_here", 1), ("_law_there", 2)]) rfl sc_law_text.nd (pi_any (pv 0)) (blkOk_by (N := n_law_text) (sc := defScope (s_law_text)) (by decide +kernel)) (fun _ _ _ _ _ => (pg_tl rfl (pgs_cons (pg_name (i := 1) sc_law_text.nd rfl (by first | exact Or.inl rfl | exact Or.inr rfl)) (pgs_cons (pg_name (i := 2) sc_law_text.nd rfl (by first | exact Or.inl rfl | exact Or.inr rfl)) pgs_nil)))) (fun _ _ _ _ _ => pts_nil) (fun _ _ _ _ _ => (pe_op or_add (pe_op or_add (pe_callS (ok_law_number T) hr rfl T.g_law_number T.F_law_number.kp T.b_law_number (fun σ => passAt takes0 σ) (by exact (pa_cons (pv 1) pa_nil))) pe_str) (pe_callS (ok_law_number T) hr rfl T.g_law_number T.F_law_number.kp T.b_law_number (fun σ => passAt takes0 σ) (by exact (pa_cons (pv 2) pa_nil)))))) pa_nil))))),
    (s_seq (s_if (t_test (v_op d_eq (v_cb c_len (a_cons v_var a_nil)) v_int)) (s_ret v_str) s_skip)
    (s_ret (v_ms ms_join v_str (a_cons (v_lc (vs := [1, 2]) (i_any v_var) (g_tl (gs_cons g_name (gs_cons g_name gs_nil))) (by decide) t_yes (v_op d_add (v_op d_add (v_call (a_cons v_var a_nil)) v_str) (v_call (a_cons v_var a_nil)))) a_nil))))⟩
theorem ok_law_read_place (T : Txt K mg base A) : FnOk P w K mg base (L2.CX P w) 2 A.f_law_read_place A.d_law_read_place p_law_read_place (spF (GG K A) F_law_read_place) :=
  fn_ok (k := 1) rfl rfl T.F_law_read_place sc_law_read_place fun cdv Ar outer s H E hr => ⟨_,
    (pss_cons (ps_asg (pe_bm PySem.F.plainAttrs_str PySem.F.slot_str_partition PySem.F.type_str_partition mt_partition (pv 0) (pa_cons pe_str pa_nil)) (pg_tl rfl (pgs_cons (pg_name (i := 1) sc_law_read_place.nd rfl (by first | exact Or.inl rfl | exact Or.inr rfl)) (pgs_cons (pg_name (i := 2) sc_law_read_place.nd rfl (by first | exact Or.inl rfl | exact Or.inr rfl)) (pgs_cons (pg_name (i := 3) sc_law_read_place.nd rfl (by first | exact Or.inl rfl | exact Or.inr rfl)) pgs_nil)))))
    (pss_cons (ps_if (pt_not (pt_val (pe_callS (ok_law_figures T) hr rfl T.g_law_figures T.F_law_figures.kp T.b_law_figures (fun σ => passAt (takes_of rfl rfl rfl rfl) σ) (by exact (pa_cons (pv 1) pa_nil))))) (pss_one (ps_ret pe_non)) pss_nil)
    (pss_cons (ps_if (pt_cmpR (or_eq hr.units) (pv 2) pe_str (nomark _)) (pss_one (ps_ret (pe_tup (pa_cons (pe_callTy call_intA (by rfl) T.z_int (by decide +kernel) (pa_cons (pv 1) pa_nil)) (pa_cons pe_int pa_nil))))) pss_nil)
    (pss_cons (ps_if (PW.pt (pw_or (pt_not (pt_val (pe_callS (ok_law_figures T) hr rfl T.g_law_figures T.F_law_figures.kp T.b_law_figures (fun σ => passAt (takes_of rfl rfl rfl rfl) σ) (by exact (pa_cons (pv 3) pa_nil))))) (pw_or (pt_cmpR op_lt (pe_callTy call_intA (by rfl) T.z_int (by decide +kernel) (pa_cons (pv 3) pa_nil)) pe_int (nomark _)) (pw_or1 (pt_cmpR (or_ne hr.units) (pe_callS (ok_law_low T) hr rfl T.g_law_low T.F_law_low.kp T.b_law_low (fun σ => passAt (takes_of rfl rfl rfl rfl) σ) (by exact (pa_cons (pe_callTy call_intA (by rfl) T.z_int (by decide +kernel) (pa_cons (pv 1) pa_nil)) (pa_cons (pe_callTy call_intA (by rfl) T.z_int (by decide +kernel) (pa_cons (pv 3) pa_nil)) pa_nil)))) (pe_tup (pa_cons (pe_callTy call_intA (by rfl) T.z_int (by decide +kernel) (pa_cons (pv 1) pa_nil)) (pa_cons (pe_callTy call_intA (by rfl) T.z_int (by decide +kernel) (pa_cons (pv 3) pa_nil)) pa_nil))) (nomark _)))))) (pss_one (ps_ret pe_non)) pss_nil)
    (pss_one (ps_ret (pe_tup (pa_cons (pe_callTy call_intA (by rfl) T.z_int (by decide +kernel) (pa_cons (pv 1) pa_nil)) (pa_cons (pe_callTy call_intA (by rfl) T.z_int (by decide +kernel) (pa_cons (pv 3) pa_nil)) pa_nil))))))))),
    (s_seq (s_asg (v_ms ms_partition v_var (a_cons v_str a_nil)) (g_tl (gs_cons g_name (gs_cons g_name (gs_cons g_name gs_nil)))))
    (s_seq (s_if (t_not (t_val (v_call (a_cons v_var a_nil)))) (s_ret v_non) s_skip)
    (s_seq (s_if (t_test (v_op d_eq v_var v_str)) (s_ret (v_tup (a_cons (v_cb c_int (a_cons v_var a_nil)) (a_cons v_int a_nil)))) s_skip)
    (s_seq (s_if (t_or (t_not (t_val (v_call (a_cons v_var a_nil)))) (t_or (t_test (v_op d_lt (v_cb c_int (a_cons v_var a_nil)) v_int)) (t_test (v_op d_ne (v_call (a_cons (v_cb c_int (a_cons v_var a_nil)) (a_cons (v_cb c_int (a_cons v_var a_nil)) a_nil))) (v_tup (a_cons (v_cb c_int (a_cons v_var a_nil)) (a_cons (v_cb c_int (a_cons v_var a_nil)) a_nil))))))) (s_ret v_non) s_skip)
    (s_ret (v_tup (a_cons (v_cb c_int (a_cons v_var a_nil)) (a_cons (v_cb c_int (a_cons v_var a_nil)) a_nil))))))))⟩
theorem ok_read_fraction (T : Txt K mg base A) : FnOk P w K mg base (L2.CX P w) 3 A.f_read_fraction A.d_read_fraction p_read_fraction (spF (GG K A) F_read_fraction) :=
  fn_ok (k := 2) rfl rfl T.F_read_fraction sc_read_fraction fun cdv Ar outer s H E hr => ⟨_,
    (pss_cons (ps_set (i := 1) sc_read_fraction.nd rfl (by first | exact Or.inl rfl | exact Or.inr rfl) (pv 0))
    (pss_cons (ps_if (pt_cmpR (or_eq hr.units) (pe_slice sl_any (pv 0) po_none (po_some pe_int)) pe_str (nomark _)) (pss_one (ps_set (i := 1) sc_read_fraction.nd rfl (by first | exact Or.inl rfl | exact Or.inr rfl) (pe_slice sl_any (pv 0) (po_some pe_int) po_none))) pss_nil)
    (pss_cons (ps_asg (pe_bm PySem.F.plainAttrs_str PySem.F.slot_str_partition PySem.F.type_str_partition mt_partition (pv 1) (pa_cons pe_str pa_nil)) (pg_tl rfl (pgs_cons (pg_name (i := 3) sc_read_fraction.nd rfl (by first | exact Or.inl rfl | exact Or.inr rfl)) (pgs_cons (pg_name (i := 4) sc_read_fraction.nd rfl (by first | exact Or.inl rfl | exact Or.inr rfl)) (pgs_cons (pg_name (i := 5) sc_read_fraction.nd rfl (by first | exact Or.inl rfl | exact Or.inr rfl)) pgs_nil)))))
    (pss_cons (ps_if (pt_cmpR (or_eq hr.units) (pv 4) pe_str (nomark _)) (pss_one (ps_set (i := 5) sc_read_fraction.nd rfl (by first | exact Or.inl rfl | exact Or.inr rfl) pe_str)) pss_nil)
    (pss_cons (ps_if (PW.pt (pw_or (pt_not (pt_val (pe_callS (ok_is_figures T) (hr.mono (by decide)) rfl T.g_is_figures T.F_is_figures.kp T.b_is_figures (fun σ => passAt (takes_of rfl rfl rfl rfl) σ) (by exact (pa_cons (pv 3) pa_nil))))) (pw_or (pt_not (pt_val (pe_callS (ok_is_figures T) (hr.mono (by decide)) rfl T.g_is_figures T.F_is_figures.kp T.b_is_figures (fun σ => passAt (takes_of rfl rfl rfl rfl) σ) (by exact (pa_cons (pv 5) pa_nil))))) (pw_or1 (pt_cmpR (or_eq hr.units) (pv 5) pe_str (nomark _)))))) (pss_one (ps_raise rfl (takes_of rfl rfl rfl rfl) (pmk_own PySem.F.excBase_ValueError T.x_NoText T.g_NoText T.k_NoText (raises_own T.sb_NoText T.t_NoText) rfl))) pss_nil)
    (pss_cons (ps_set (i := 2) sc_read_fraction.nd rfl (by first | exact Or.inl rfl | exact Or.inr rfl) (by exact (pe_gN (ok_fraction_of T) hr rfl T.g_fraction_of T.F_fraction_of.kp T.B_fraction_of_2_ (fun σ => passAt (takes_of rfl rfl rfl rfl) σ) (by exact (pa_cons (pe_callTy call_intA (by rfl) T.z_int (by decide +kernel) (pa_cons (pv 3) pa_nil)) (pa_cons (pe_callTy call_intA (by rfl) T.z_int (by decide +kernel) (pa_cons (pv 5) pa_nil)) pa_nil))))))
    (pss_cons (ps_if (pt_cmpR (or_ne hr.units) (pv 1) (pv 0) (nomark _)) (pss_one (ps_set (i := 2) sc_read_fraction.nd rfl (by first | exact Or.inl rfl | exact Or.inr rfl) (pe_tup (pa_cons (pe_un un_neg (pe_ix ix_seq (pv 2) pe_int (fun _ _ => rfl))) (pa_cons (pe_ix ix_seq (pv 2) pe_int (fun _ _ => rfl)) pa_nil))))) pss_nil)
    (pss_cons (ps_if (pt_cmpR (or_ne hr.units) (pe_callS (ok_fraction_text T) (hr.mono (by decide)) rfl T.g_fraction_text T.F_fraction_text.kp T.b_fraction_text (fun σ => passAt (takes_of rfl rfl rfl rfl) σ) (by exact (pa_cons (pv 2) pa_nil))) (pv 0) (nomark _)) (pss_one (ps_raise rfl (takes_of rfl rfl rfl rfl) (pmk_own PySem.F.excBase_ValueError T.x_NoText T.g_NoText T.k_NoText (raises_own T.sb_NoText T.t_NoText) rfl))) pss_nil)
    (pss_one (ps_ret (pv 2))))))))))),
    (s_seq (s_setF v_var)
    (s_seq (s_if (t_test (v_op d_eq (v_sl d_sl v_var o_none (o_some v_int)) v_str)) (s_setF (v_sl d_sl v_var (o_some v_int) o_none)) s_skip)
    (s_seq (s_asg (v_ms ms_partition v_var (a_cons v_str a_nil)) (g_tl (gs_cons g_name (gs_cons g_name (gs_cons g_name gs_nil)))))
    (s_seq (s_if (t_test (v_op d_eq v_var v_str)) (s_setF v_str) s_skip)
    (s_seq (s_if (t_or (t_not (t_val (v_call (a_cons v_var a_nil)))) (t_or (t_not (t_val (v_call (a_cons v_var a_nil)))) (t_test (v_op d_eq v_var v_str)))) (s_raise rfl) s_skip)
    (s_seq (s_setF (v_callG (dd := [(.int 1)]) rfl (a_cons (v_cb c_int (a_cons v_var a_nil)) (a_cons (v_cb c_int (a_cons v_var a_nil)) a_nil)) a_nil))
    (s_seq (s_if (t_test (v_op d_ne v_var v_var)) (s_setF (v_tup (a_cons (v_un d_neg (v_op d_ix v_var v_int)) (a_cons (v_op d_ix v_var v_int) a_nil)))) s_skip)
    (s_seq (s_if (t_test (v_op d_ne (v_call (a_cons v_var a_nil)) v_var)) (s_raise rfl) s_skip)
    s_retV))))))))⟩
theorem ok_law_pairs (T : Txt K mg base A) : FnOk P w K mg base (L2.CX P w) 3 A.f_law_pairs A.d_law_pairs p_law_pairs (spF (GG K A) F_law_pairs) :=
  fn_ok (k := 2) rfl rfl T.F_law_pairs sc_law_pairs fun cdv Ar outer s H E hr => ⟨_,
    (pss_cons (ps_set (i := 2) sc_law_pairs.nd rfl (by first | exact Or.inl rfl | exact Or.inr rfl) (pe_lst pa_nil))
    (pss_cons (ps_for (passes_of rfl) rfl (pi_range1 (by rfl) T.z_range (pa_cons (pe_callS (ok_law_take T) hr rfl T.g_law_take T.F_law_take.kp T.b_law_take (fun σ => passAt (takes_of rfl rfl rfl rfl) σ) (by exact (pa_cons (pv 0) (pa_cons pe_int pa_nil)))) pa_nil)) (pg_name (i := 3) sc_law_pairs.nd rfl (by first | exact Or.inl rfl | exact Or.inr rfl)) (pss_cons (ps_set (i := 4) sc_law_pairs.nd rfl (by first | exact Or.inl rfl | exact Or.inr rfl) (pe_callS (ok_law_take T) hr rfl T.g_law_take T.F_law_take.kp T.b_law_take (fun σ => passAt (takes_of rfl rfl rfl rfl) σ) (by exact (pa_cons (pv 0) (pa_cons pe_int pa_nil)))))
    (pss_cons (ps_set (i := 5) sc_law_pairs.nd rfl (by first | exact Or.inl rfl | exact Or.inr rfl) (pe_callS (ok_law_take T) hr rfl T.g_law_take T.F_law_take.kp T.b_law_take (fun σ => passAt (takes_of rfl rfl rfl rfl) σ) (by exact (pa_cons (pv 0) (pa_cons (pe_op or_add (pv 1) pe_int) pa_nil)))))
    (pss_cons (ps_set (i := 6) sc_law_pairs.nd rfl (by first | exact Or.inl rfl | exact Or.inr rfl) (pe_op or_add (pv 5) (pe_callS (ok_law_take T) hr rfl T.g_law_take T.F_law_take.kp T.b_law_take (fun σ => passAt (takes_of rfl rfl rfl rfl) σ) (by exact (pa_cons (pv 0) (pa_cons (pe_op op_sub (pe_op or_add (pv 1) pe_int) (pv 5)) pa_nil))))))
    (pss_cons (ps_if (PW.pt (pw_and (pt_cmpR (or_eq hr.units) (pv 4) pe_int (nomark _)) (pw_and1 (pt_cmpR op_gt (pe_callB call_len (by rfl) T.z_len (by decide +kernel) (pa_cons (pv 2) pa_nil)) pe_int (nomark _))))) (pss_cons (ps_set (i := 5) sc_law_pairs.nd rfl (by first | exact Or.inl rfl | exact Or.inr rfl) (pe_ix ix_seq (pe_ix ix_seq (pv 2) (pe_callS (ok_law_take T) hr rfl T.g_law_take T.F_law_take.kp T.b_law_take (fun σ => passAt (takes_of rfl rfl rfl rfl) σ) (by exact (pa_cons (pv 0) (pa_cons (pe_callB call_len (by rfl) T.z_len (by decide +kernel) (pa_cons (pv 2) pa_nil)) pa_nil)))) (fun _ _ => rfl)) pe_int (fun _ _ => rfl)))
    (pss_one (ps_set (i := 6) sc_law_pairs.nd rfl (by first | exact Or.inl rfl | exact Or.inr rfl) (pe_callB (call_max2 rfl) (by rfl) T.z_max (by decide +kernel) (pa_cons (pv 5) (pa_cons (pv 6) pa_nil)))))) pss_nil)
    (pss_cons (ps_if (pt_cmpR (or_eq hr.units) (pv 4) pe_int (nomark _)) (pss_one (ps_set (i := 6) sc_law_pairs.nd rfl (by first | exact Or.inl rfl | exact Or.inr rfl) (pe_callB (call_min2 rfl) (by rfl) T.z_min (by decide +kernel) (pa_cons (pv 1) (pa_cons (pe_op or_add (pv 5) (pe_callS (ok_law_take T) hr rfl T.g_law_take T.F_law_take.kp T.b_law_take (fun σ => passAt (takes_of rfl rfl rfl rfl) σ) (by exact (pa_cons (pv 0) (pa_cons pe_int pa_nil))))) pa_nil))))) pss_nil)
    (pss_one (ps_expr (pe_bm PySem.F.plainAttrs_list PySem.F.slot_list_append PySem.F.type_list_append mt_append (pv 2) (pa_cons (pe_tup (pa_cons (pv 5) (pa_cons (pv 6) pa_nil))) pa_nil))))))))))
    (pss_one (ps_ret (pv 2))))),
    (s_seq (s_set (v_lst a_nil))
    (s_seq (s_for (i_range1 (a_cons (v_call (a_cons v_var (a_cons v_int a_nil))) a_nil)) g_name (s_seq (s_setF (v_call (a_cons v_var (a_cons v_int a_nil))))
    (s_seq (s_setF (v_call (a_cons v_var (a_cons (v_op d_add v_var v_int) a_nil))))
    (s_seq (s_setF (v_op d_add v_var (v_call (a_cons v_var (a_cons (v_op d_sub (v_op d_add v_var v_int) v_var) a_nil)))))
    (s_seq (s_if (t_and (t_test (v_op d_eq v_var v_int)) (t_test (v_op d_gt (v_cb c_len (a_cons v_var a_nil)) v_int))) (s_seq (s_setF (v_op d_ix (v_op d_ix v_var (v_call (a_cons v_var (a_cons (v_cb c_len (a_cons v_var a_nil)) a_nil)))) v_int))
    (s_setF (v_cb c_max2 (a_cons v_var (a_cons v_var a_nil))))) s_skip)
    (s_seq (s_if (t_test (v_op d_eq v_var v_int)) (s_setF (v_cb c_min2 (a_cons v_var (a_cons (v_op d_add v_var (v_call (a_cons v_var (a_cons v_int a_nil)))) a_nil)))) s_skip)
    (s_mt m_append (a_cons (v_tup (a_cons v_var (a_cons v_var a_nil))) a_nil))))))))
    s_retV))⟩
theorem ok_law_changed (T : Txt K mg base A) : FnOk P w K mg base (L2.CX P w) 3 A.f_law_changed A.d_law_changed p_law_changed (spF (GG K A) F_law_changed) :=
  fn_ok (k := 2) rfl rfl T.F_law_changed sc_law_changed fun cdv Ar outer s H E hr => ⟨_,
    (pss_cons (ps_set (i := 2) sc_law_changed.nd rfl (by first | exact Or.inl rfl | exact Or.inr rfl) (pe_callS (ok_law_take T) hr rfl T.g_law_take T.F_law_take.kp T.b_law_take (fun σ => passAt (takes_of rfl rfl rfl rfl) σ) (by exact (pa_cons (pv 0) (pa_cons pe_int pa_nil)))))
    (pss_cons (ps_set (i := 3) sc_law_changed.nd rfl (by first | exact Or.inl rfl | exact Or.inr rfl) pe_str)
    (pss_cons (ps_set (i := 4) sc_law_changed.nd rfl (by first | exact Or.inl rfl | exact Or.inr rfl) (pe_ix ix_seq (pv 3) (pe_callS (ok_law_take T) hr rfl T.g_law_take T.F_law_take.kp T.b_law_take (fun σ => passAt (takes_of rfl rfl rfl rfl) σ) (by exact (pa_cons (pv 0) (pa_cons (pe_callB call_len (by rfl) T.z_len (by decide +kernel) (pa_cons (pv 3) pa_nil)) pa_nil)))) (fun _ _ => rfl)))
    (pss_cons (ps_set (i := 5) sc_law_changed.nd rfl (by first | exact Or.inl rfl | exact Or.inr rfl) (pe_callS (ok_law_take T) hr rfl T.g_law_take T.F_law_take.kp T.b_law_take (fun σ => passAt (takes_of rfl rfl rfl rfl) σ) (by exact (pa_cons (pv 0) (pa_cons (pe_op or_add (pe_callB call_len (by rfl) T.z_len (by decide +kernel) (pa_cons (pv 1) pa_nil)) pe_int) pa_nil)))))
    (pss_cons (ps_set (i := 6) sc_law_changed.nd rfl (by first | exact Or.inl rfl | exact Or.inr rfl) (pe_bm PySem.F.plainAttrs_str PySem.F.slot_str_split PySem.F.type_str_split mt_split (pv 1) (pa_cons pe_str pa_nil)))
    (pss_cons (ps_set (i := 7) sc_law_changed.nd rfl (by first | exact Or.inl rfl | exact Or.inr rfl) (pe_callS (ok_law_take T) hr rfl T.g_law_take T.F_law_take.kp T.b_law_take (fun σ => passAt (takes_of rfl rfl rfl rfl) σ) (by exact (pa_cons (pv 0) (pa_cons (pe_callB call_len (by rfl) T.z_len (by decide +kernel) (pa_cons (pv 6) pa_nil)) pa_nil)))))
    (pss_cons (ps_set (i := 8) sc_law_changed.nd rfl (by first | exact Or.inl rfl | exact Or.inr rfl) (pe_callS (ok_law_take T) hr rfl T.g_law_take T.F_law_take.kp T.b_law_take (fun σ => passAt (takes_of rfl rfl rfl rfl) σ) (by exact (pa_cons (pv 0) (pa_cons (pe_callB call_len (by rfl) T.z_len (by decide +kernel) (pa_cons (pv 6) pa_nil)) pa_nil)))))
    (pss_cons (ps_set (i := 9) sc_law_changed.nd rfl (by first | exact Or.inl rfl | exact Or.inr rfl) (pe_op or_add pe_str (pe_op op_mulS pe_str (pe_op or_add pe_int (pe_callS (ok_law_take T) hr rfl T.g_law_take T.F_law_take.kp T.b_law_take (fun σ => passAt (takes_of rfl rfl rfl rfl) σ) (by exact (pa_cons (pv 0) (pa_cons pe_int pa_nil))))))))
    (pss_cons (ps_set (i := 10) sc_law_changed.nd rfl (by first | exact Or.inl rfl | exact Or.inr rfl) (pe_lst (pa_cons pe_str (pa_cons pe_str (pa_cons pe_str (pa_cons pe_str (pa_cons pe_str (pa_cons (pe_op or_add pe_str (pv 9)) (pa_cons pe_str (pa_cons pe_str (pa_cons (pe_op or_add (pe_op or_add (pe_slice sl_any (pv 9) (po_some pe_int) po_none) pe_str) (pv 9)) (pa_cons pe_str (pa_cons pe_str (pa_cons pe_str pa_nil))))))))))))))
    (pss_cons (ps_set (i := 11) sc_law_changed.nd rfl (by first | exact Or.inl rfl | exact Or.inr rfl) (pe_ix ix_seq (pv 10) (pe_callS (ok_law_take T) hr rfl T.g_law_take T.F_law_take.kp T.b_law_take (fun σ => passAt (takes_of rfl rfl rfl rfl) σ) (by exact (pa_cons (pv 0) (pa_cons (pe_callB call_len (by rfl) T.z_len (by decide +kernel) (pa_cons (pv 10) pa_nil)) pa_nil)))) (fun _ _ => rfl)))
    (pss_cons (ps_if (pt_cmpR (or_eq hr.units) (pv 2) pe_int (nomark _)) (pss_one (ps_ret (pe_op or_add (pe_op or_add (pe_slice sl_any (pv 1) po_none (po_some (pv 5))) (pv 4)) (pe_slice sl_any (pv 1) (po_some (pv 5)) po_none)))) pss_nil)
    (pss_cons (ps_if (pt_cmpR (or_eq hr.units) (pv 2) pe_int (nomark _)) (pss_one (ps_ret (pe_op or_add (pe_slice sl_any (pv 1) po_none (po_some (pv 5))) (pe_slice sl_any (pv 1) (po_some (pe_op or_add (pv 5) pe_int)) po_none)))) pss_nil)
    (pss_cons (ps_if (pt_cmpR (or_eq hr.units) (pv 2) pe_int (nomark _)) (pss_one (ps_ret (pe_op or_add (pe_op or_add (pe_slice sl_any (pv 1) po_none (po_some (pv 5))) (pv 4)) (pe_slice sl_any (pv 1) (po_some (pe_op or_add (pv 5) pe_int)) po_none)))) pss_nil)
    (pss_cons (ps_if (pt_cmpR (or_eq hr.units) (pv 2) pe_int (nomark _)) (pss_one (ps_expr (pe_bm PySem.F.plainAttrs_list PySem.F.slot_list_pop PySem.F.type_list_pop mt_popAt (pv 6) (pa_cons (pv 7) pa_nil)))) pss_nil)
    (pss_cons (ps_if (pt_cmpR (or_eq hr.units) (pv 2) pe_int (nomark _)) (pss_one (ps_expr (pe_bm PySem.F.plainAttrs_list PySem.F.slot_list_insert PySem.F.type_list_insert mt_insert (pv 6) (pa_cons (pv 7) (pa_cons (pe_ix ix_seq (pv 6) (pv 8) (fun _ _ => rfl)) pa_nil))))) pss_nil)
    (pss_cons (ps_if (pt_cmpR (or_eq hr.units) (pv 2) pe_int (nomark _)) (pss_cons (ps_set (i := 12) sc_law_changed.nd rfl (by first | exact Or.inl rfl | exact Or.inr rfl) (pe_ix ix_seq (pv 6) (pv 7) (fun _ _ => rfl)))
    (pss_cons (ps_asg (pe_ix ix_seq (pv 6) (pv 8) (fun _ _ => rfl)) (pg_sub (pv 6) (pv 7) set_list))
    (pss_one (ps_asg (pv 12) (pg_sub (pv 6) (pv 8) set_list))))) pss_nil)
    (pss_cons (ps_if (pt_cmpR (or_eq hr.units) (pv 2) pe_int (nomark _)) (pss_cons (ps_asg (pe_bm PySem.F.plainAttrs_str PySem.F.slot_str_partition PySem.F.type_str_partition mt_partition (pe_ix ix_seq (pv 6) (pv 7) (fun _ _ => rfl)) (pa_cons pe_str pa_nil)) (pg_tl rfl (pgs_cons (pg_name (i := 13) sc_law_changed.nd rfl (by first | exact Or.inl rfl | exact Or.inr rfl)) (pgs_cons (pg_name (i := 14) sc_law_changed.nd rfl (by first | exact Or.inl rfl | exact Or.inr rfl)) (pgs_cons (pg_name (i := 15) sc_law_changed.nd rfl (by first | exact Or.inl rfl | exact Or.inr rfl)) pgs_nil)))))
    (pss_one (ps_asg (pe_ix ix_seq (pe_lst (pa_cons (pe_op or_add (pe_op or_add (pv 11) pe_str) (pv 15)) (pa_cons (pe_op or_add (pe_op or_add (pv 13) pe_str) (pv 11)) pa_nil))) (pe_callS (ok_law_take T) hr rfl T.g_law_take T.F_law_take.kp T.b_law_take (fun σ => passAt (takes_of rfl rfl rfl rfl) σ) (by exact (pa_cons (pv 0) (pa_cons pe_int pa_nil)))) (fun _ _ => rfl)) (pg_sub (pv 6) (pv 7) set_list)))) pss_nil)
    (pss_cons (ps_if (pt_cmpR (or_eq hr.units) (pv 2) pe_int (nomark _)) (pss_one (ps_ret (pe_ix ix_seq (pe_lst (pa_cons pe_str (pa_cons pe_str (pa_cons pe_str (pa_cons pe_str (pa_cons pe_str (pa_cons pe_str pa_nil))))))) (pe_callS (ok_law_take T) hr rfl T.g_law_take T.F_law_take.kp T.b_law_take (fun σ => passAt (takes_of rfl rfl rfl rfl) σ) (by exact (pa_cons (pv 0) (pa_cons pe_int pa_nil)))) (fun _ _ => rfl)))) pss_nil)
    (pss_one (ps_ret (pe_bm PySem.F.plainAttrs_str PySem.F.slot_str_join PySem.F.type_str_join mt_join pe_str (pa_cons (pv 6) pa_nil)))))))))))))))))))))),
    (s_seq (s_setF (v_call (a_cons v_var (a_cons v_int a_nil))))
    (s_seq (s_setF v_str)
    (s_seq (s_setF (v_op d_ix v_var (v_call (a_cons v_var (a_cons (v_cb c_len (a_cons v_var a_nil)) a_nil)))))
    (s_seq (s_setF (v_call (a_cons v_var (a_cons (v_op d_add (v_cb c_len (a_cons v_var a_nil)) v_int) a_nil))))
    (s_seq (s_set (v_ms ms_split v_var (a_cons v_str a_nil)))
    (s_seq (s_setF (v_call (a_cons v_var (a_cons (v_cb c_len (a_cons v_var a_nil)) a_nil))))
    (s_seq (s_setF (v_call (a_cons v_var (a_cons (v_cb c_len (a_cons v_var a_nil)) a_nil))))
    (s_seq (s_setF (v_op d_add v_str (v_op d_mulS v_str (v_op d_add v_int (v_call (a_cons v_var (a_cons v_int a_nil)))))))
    (s_seq (s_setF (v_lst (a_cons v_str (a_cons v_str (a_cons v_str (a_cons v_str (a_cons v_str (a_cons (v_op d_add v_str v_var) (a_cons v_str (a_cons v_str (a_cons (v_op d_add (v_op d_add (v_sl d_sl v_var (o_some v_int) o_none) v_str) v_var) (a_cons v_str (a_cons v_str (a_cons v_str a_nil))))))))))))))
    (s_seq (s_setF (v_op d_ix v_var (v_call (a_cons v_var (a_cons (v_cb c_len (a_cons v_var a_nil)) a_nil)))))
    (s_seq (s_if (t_test (v_op d_eq v_var v_int)) (s_ret (v_op d_add (v_op d_add (v_sl d_sl v_var o_none (o_some v_var)) v_var) (v_sl d_sl v_var (o_some v_var) o_none))) s_skip)
    (s_seq (s_if (t_test (v_op d_eq v_var v_int)) (s_ret (v_op d_add (v_sl d_sl v_var o_none (o_some v_var)) (v_sl d_sl v_var (o_some (v_op d_add v_var v_int)) o_none))) s_skip)
    (s_seq (s_if (t_test (v_op d_eq v_var v_int)) (s_ret (v_op d_add (v_op d_add (v_sl d_sl v_var o_none (o_some v_var)) v_var) (v_sl d_sl v_var (o_some (v_op d_add v_var v_int)) o_none))) s_skip)
    (s_seq (s_if (t_test (v_op d_eq v_var v_int)) (s_mt m_popAt (a_cons v_var a_nil)) s_skip)
    (s_seq (s_if (t_test (v_op d_eq v_var v_int)) (s_mt m_insert (a_cons v_var (a_cons (v_op d_ix v_var v_var) a_nil))) s_skip)
    (s_seq (s_if (t_test (v_op d_eq v_var v_int)) (s_seq (s_setF (v_op d_ix v_var v_var))
    (s_seq (s_setI (v_op d_ix v_var v_var) v_var)
    (s_setI v_var v_var))) s_skip)
    (s_seq (s_if (t_test (v_op d_eq v_var v_int)) (s_seq (s_asg (v_ms ms_partition (v_op d_ix v_var v_var) (a_cons v_str a_nil)) (g_tl (gs_cons g_name (gs_cons g_name (gs_cons g_name gs_nil)))))
    (s_setI (v_op d_ix (v_lst (a_cons (v_op d_add (v_op d_add v_var v_str) v_var) (a_cons (v_op d_add (v_op d_add v_var v_str) v_var) a_nil))) (v_call (a_cons v_var (a_cons v_int a_nil)))) v_var)) s_skip)
    (s_seq (s_if (t_test (v_op d_eq v_var v_int)) (s_ret (v_op d_ix (v_lst (a_cons v_str (a_cons v_str (a_cons v_str (a_cons v_str (a_cons v_str (a_cons v_str a_nil))))))) (v_call (a_cons v_var (a_cons v_int a_nil))))) s_skip)
    (s_frz (s_ret (v_ms ms_join v_str (a_cons v_var a_nil))))))))))))))))))))))⟩
theorem ok_law_read (T : Txt K mg base A) : FnOk P w K mg base (L2.CX P w) 3 A.f_law_read A.d_law_read p_law_read (spF (GG K A) F_law_read) :=
  fn_ok (k := 2) rfl rfl T.F_law_read sc_law_read fun cdv Ar outer s H E hr => ⟨_,
    (pss_cons (ps_if (pt_cmpR (or_eq hr.units) (pv 0) pe_str (nomark _)) (pss_one (ps_ret (pe_lst pa_nil))) pss_nil)
    (pss_cons (ps_set (i := 1) sc_law_read.nd rfl (by first | exact Or.inl rfl | exact Or.inr rfl) (pe_lst pa_nil))
    (pss_cons (ps_for (passes_of rfl) rfl (pi_any (pe_bm PySem.F.plainAttrs_str PySem.F.slot_str_split PySem.F.type_str_split mt_split (pv 0) (pa_cons pe_str pa_nil))) (pg_name (i := 2) sc_law_read.nd rfl (by first | exact Or.inl rfl | exact Or.inr rfl)) (pss_cons (ps_set (i := 3) sc_law_read.nd rfl (by first | exact Or.inl rfl | exact Or.inr rfl) (pe_bm PySem.F.plainAttrs_str PySem.F.slot_str_split PySem.F.type_str_split mt_split (pv 2) (pa_cons pe_str pa_nil)))
    (pss_cons (ps_if (pt_cmpR (or_ne hr.units) (pe_callB call_len (by rfl) T.z_len (by decide +kernel) (pa_cons (pv 3) pa_nil)) pe_int (nomark _)) (pss_one (ps_ret pe_non)) pss_nil)
    (pss_cons (ps_set (i := 4) sc_law_read.nd rfl (by first | exact Or.inl rfl | exact Or.inr rfl) (pe_callS (ok_law_read_place T) hr rfl T.g_law_read_place T.F_law_read_place.kp T.b_law_read_place (fun σ => passAt (takes_of rfl rfl rfl rfl) σ) (by exact (pa_cons (pe_ix ix_seq (pv 3) pe_int (fun _ _ => rfl)) pa_nil))))
    (pss_cons (ps_set (i := 5) sc_law_read.nd rfl (by first | exact Or.inl rfl | exact Or.inr rfl) (pe_callS (ok_law_read_place T) hr rfl T.g_law_read_place T.F_law_read_place.kp T.b_law_read_place (fun σ => passAt (takes_of rfl rfl rfl rfl) σ) (by exact (pa_cons (pe_ix ix_seq (pv 3) pe_int (fun _ _ => rfl)) pa_nil))))
    (pss_cons (ps_if (PW.pt (pw_or (pt_cmpR op_isN (pv 4) pe_non (nomark _)) (pw_or (pt_cmpR op_isN (pv 5) pe_non (nomark _)) (pw_or (pt_cmpR op_gt (pe_ix ix_seq (pv 5) pe_int (fun _ _ => rfl)) (pe_ix ix_seq (pv 5) pe_int (fun _ _ => rfl)) (nomark _)) (pw_or1 (pt_not (pt_val (pe_callS (ok_law_less T) (hr.mono (by decide)) rfl T.g_law_less T.F_law_less.kp T.b_law_less (fun σ => passAt (takes_of rfl rfl rfl rfl) σ) (by exact (pa_cons (pv 4) (pa_cons (pv 5) pa_nil))))))))))) (pss_one (ps_ret pe_non)) pss_nil)
    (pss_cons (ps_if (PW.pt (pw_and (pt_cmpR op_gt (pe_callB call_len (by rfl) T.z_len (by decide +kernel) (pa_cons (pv 1) pa_nil)) pe_int (nomark _)) (pw_and1 (pt_not (pt_val (pe_callS (ok_law_less T) (hr.mono (by decide)) rfl T.g_law_less T.F_law_less.kp T.b_law_less (fun σ => passAt (takes_of rfl rfl rfl rfl) σ) (by exact (pa_cons (pe_ix ix_seq (pe_ix ix_seq (pv 1) (pe_un un_neg pe_int) (fun _ _ => rfl)) pe_int (fun _ _ => rfl)) (pa_cons (pv 4) pa_nil))))))))) (pss_one (ps_ret pe_non)) pss_nil)
    (pss_one (ps_expr (pe_bm PySem.F.plainAttrs_list PySem.F.slot_list_append PySem.F.type_list_append mt_append (pv 1) (pa_cons (pe_tup (pa_cons (pv 4) (pa_cons (pv 5) pa_nil))) pa_nil)))))))))))
    (pss_one (ps_ret (pv 1)))))),
    (s_seq (s_if (t_test (v_op d_eq v_var v_str)) (s_ret (v_lst a_nil)) s_skip)
    (s_seq (s_set (v_lst a_nil))
    (s_seq (s_for (i_any (v_ms ms_split v_var (a_cons v_str a_nil))) g_name (s_seq (s_setF (v_ms ms_split v_var (a_cons v_str a_nil)))
    (s_seq (s_if (t_test (v_op d_ne (v_cb c_len (a_cons v_var a_nil)) v_int)) (s_ret v_non) s_skip)
    (s_seq (s_setF (v_call (a_cons (v_op d_ix v_var v_int) a_nil)))
    (s_seq (s_setF (v_call (a_cons (v_op d_ix v_var v_int) a_nil)))
    (s_seq (s_if (t_or (t_test (v_op d_isN v_var v_non)) (t_or (t_test (v_op d_isN v_var v_non)) (t_or (t_test (v_op d_gt (v_op d_ix v_var v_int) (v_op d_ix v_var v_int))) (t_not (t_val (v_call (a_cons v_var (a_cons v_var a_nil)))))))) (s_ret v_non) s_skip)
    (s_seq (s_if (t_and (t_test (v_op d_gt (v_cb c_len (a_cons v_var a_nil)) v_int)) (t_not (t_val (v_call (a_cons (v_op d_ix (v_op d_ix v_var (v_un d_neg v_int)) v_int) (a_cons v_var a_nil)))))) (s_ret v_non) s_skip)
    (s_mt m_append (a_cons (v_tup (a_cons v_var (a_cons v_var a_nil))) a_nil)))))))))
    s_retV)))⟩
theorem ok_read_span (T : Txt K mg base A) : FnOk P w K mg base (L2.CX P w) 4 A.f_read_span A.d_read_span p_read_span (spF (GG K A) F_read_span) :=
  fn_ok (k := 3) rfl rfl T.F_read_span sc_read_span fun cdv Ar outer s H E hr => ⟨_,
    (pss_cons (ps_set (i := 1) sc_read_span.nd rfl (by first | exact Or.inl rfl | exact Or.inr rfl) (pe_bm PySem.F.plainAttrs_str PySem.F.slot_str_split PySem.F.type_str_split mt_split (pv 0) (pa_cons pe_str pa_nil)))
    (pss_cons (ps_if (pt_cmpR (or_ne hr.units) (pe_callB call_len (by rfl) T.z_len (by decide +kernel) (pa_cons (pv 1) pa_nil)) pe_int (nomark _)) (pss_one (ps_raise rfl (takes_of rfl rfl rfl rfl) (pmk_own PySem.F.excBase_ValueError T.x_NoText T.g_NoText T.k_NoText (raises_own T.sb_NoText T.t_NoText) rfl))) pss_nil)
    (pss_one (ps_ret (pe_tup (pa_cons (pe_callS (ok_read_fraction T) hr rfl T.g_read_fraction T.F_read_fraction.kp T.b_read_fraction (fun σ => passAt (takes_of rfl rfl rfl rfl) σ) (by exact (pa_cons (pe_ix ix_seq (pv 1) pe_int (fun _ _ => rfl)) pa_nil))) (pa_cons (pe_callS (ok_read_fraction T) hr rfl T.g_read_fraction T.F_read_fraction.kp T.b_read_fraction (fun σ => passAt (takes_of rfl rfl rfl rfl) σ) (by exact (pa_cons (pe_ix ix_seq (pv 1) pe_int (fun _ _ => rfl)) pa_nil))) pa_nil))))))),
    (s_seq (s_setF (v_ms ms_split v_var (a_cons v_str a_nil)))
    (s_seq (s_if (t_test (v_op d_ne (v_cb c_len (a_cons v_var a_nil)) v_int)) (s_raise rfl) s_skip)
    (s_ret (v_tup (a_cons (v_call (a_cons (v_op d_ix v_var v_int) a_nil)) (a_cons (v_call (a_cons (v_op d_ix v_var v_int) a_nil)) a_nil))))))⟩
theorem ok_Share___init__ (T : Txt K mg base A) : FnOk P w K mg base (L2.CX P w) 5 A.f_Share___init__ A.d_Share___init__ p_Share___init__ (spF (GG K A) F_Share___init__) :=
  fn_okC (k := 4) rfl rfl T.F_Share___init__ sc_Share___init__ fun Ar outer s H E hr => ⟨_,
    (pss_cons (ps_for (passes_of rfl) rfl (pi_any (pv 1)) (pg_tl rfl (pgs_cons (pg_name (i := 2) sc_Share___init__.nd rfl (by first | exact Or.inl rfl | exact Or.inr rfl)) (pgs_cons (pg_name (i := 3) sc_Share___init__.nd rfl (by first | exact Or.inl rfl | exact Or.inr rfl)) pgs_nil))) (pss_one (ps_expr (pe_callS (ok_ask_span T) (hr.mono (by decide)) rfl T.g_ask_span T.F_ask_span.kp T.b_ask_span (fun σ => passAt (takes_of rfl rfl rfl rfl) σ) (by exact (pa_cons (pv 2) (pa_cons (pv 3) pa_nil)))))))
    (pss_one (ps_fld (pv 0) (lamcallF (k := 2) (Ng := n_spans_where) (a := "here") (b := "there") (TT := TTd (GG K A) ("Share.__init__" ++ ".<locals>." ++ "<lambda>") 5 (g_spans_where (fun ds x y st => lb_Share___init___2 ⟨cloE ds 2 3 x y, st⟩))) rfl T.g_spans_where T.F_spans_where T.b_spans_where sc_spans_where (pe_callS (ok_rising_places T) (hr.mono (by decide)) rfl T.g_rising_places T.F_rising_places.kp T.b_rising_places (fun σ => passAt (takes_of rfl rfl rfl rfl) σ) (by exact (pa_cons (pv 1) pa_nil))) T.tb_Share___init__ rfl hr (LamP.lamN_by (sc := defScope s_Share___init__) (by decide +kernel)) rfl (fun cdg pins s' σ H1 f c' pm ctv v1 Q I hf hfn hfr hr tt => ⟨_, (pss_cons (ps_set (i := 2) sc_spans_where.nd rfl (by first | exact Or.inl rfl | exact Or.inr rfl) (pe_lst pa_nil))
    (pss_cons (ps_for (passes_of rfl) rfl (pi_zip (by rfl) T.z_zip (pa_cons (pv 0) (pa_cons (pe_slice sl_any (pv 0) (po_some pe_int) po_none) pa_nil))) (pg_tl rfl (pgs_cons (pg_name (i := 3) sc_spans_where.nd rfl (by first | exact Or.inl rfl | exact Or.inr rfl)) (pgs_cons (pg_name (i := 4) sc_spans_where.nd rfl (by first | exact Or.inl rfl | exact Or.inr rfl)) pgs_nil))) (pss_one (ps_if (pt_val (LamP.act3 (a := "here") (b := "there") (ja := 2) (jb := 3) (k := 2) (i := 1) (CXg := L2.CX P w) (Eg := fun _ _ _ => False) (pn := []) (E := fun _ _ _ => False) I (LamP.lamN_by (sc := defScope s_Share___init__) (by decide +kernel)) sc_Share___init__.nd rfl rfl hf hfn hfr (fun _ _ => rfl) takes0 (fun _ _ _ _ z => z) hr (fun A' o' s2 H2 hr => (pe_callS (ok_covers T) hr rfl T.g_covers T.F_covers.kp T.b_covers (fun σ => passAt takes0 σ) (by exact (pa_cons (pv 1) (pa_cons (pv 2) (pa_cons (pv 3) pa_nil)))))) (pa_cons (pv 3) (pa_cons (pv 4) pa_nil)) rfl (by first | exact Or.inl rfl | exact Or.inr (Or.inl rfl)))) (pss_one (ps_if (PW.pt (pw_and (pt_cmpR op_gt (pe_callB call_len (by rfl) T.z_len (by decide +kernel) (pa_cons (pv 2) pa_nil)) pe_int (nomark _)) (pw_and1 (pt_cmpR (or_eq hr.units) (pe_ix ix_seq (pe_ix ix_seq (pv 2) (pe_un un_neg pe_int) (fun _ _ => rfl)) pe_int (fun _ _ => rfl)) (pv 3) (nomark _))))) (pss_one (ps_asg (pe_tup (pa_cons (pe_ix ix_seq (pe_ix ix_seq (pv 2) (pe_un un_neg pe_int) (fun _ _ => rfl)) pe_int (fun _ _ => rfl)) (pa_cons (pv 4) pa_nil))) (pg_sub (pv 2) (pe_un un_neg pe_int) set_list))) (pss_one (ps_expr (pe_bm PySem.F.plainAttrs_list PySem.F.slot_list_append PySem.F.type_list_append mt_append (pv 2) (pa_cons (pe_tup (pa_cons (pv 3) (pa_cons (pv 4) pa_nil))) pa_nil)))))) pss_nil)))
    (pss_one (ps_ret (pv 2))))), lam_body (by decide) (s_seq (s_set (v_lst a_nil))
    (s_seq (s_for (i_zip (a_cons v_var (a_cons (v_sl d_sl v_var (o_some v_int) o_none) a_nil))) (g_tl (gs_cons g_name (gs_cons g_name gs_nil))) (s_if (t_val (v_held (ja := 2) (jb := 3) (a_cons v_var (a_cons v_var a_nil)) (v_call (a_cons v_var (a_cons v_var (a_cons v_var a_nil)))))) (s_if (t_and (t_test (v_op d_gt (v_cb c_len (a_cons v_var a_nil)) v_int)) (t_test (v_op d_eq (v_op d_ix (v_op d_ix v_var (v_un d_neg v_int)) v_int) v_var))) (s_setI (v_tup (a_cons (v_op d_ix (v_op d_ix v_var (v_un d_neg v_int)) v_int) (a_cons v_var a_nil))) (v_un d_neg v_int)) (s_mt m_append (a_cons (v_tup (a_cons v_var (a_cons v_var a_nil))) a_nil))) s_skip))
    s_retV)) rfl rfl tt⟩)) (by first | rfl | exact sw_any rfl)))),
    (s_seq (s_for (i_any v_var) (g_tl (gs_cons g_name (gs_cons g_name gs_nil))) (s_drop (v_call (a_cons v_var (a_cons v_var a_nil)))))
    (s_fldS T.fo_parts v_var (v_lamC (np := np_Share___init__) rfl (v_call (a_cons v_var a_nil)))))⟩
theorem okN_Share___init__ (T : Txt K mg base A) : FnOk P w K mg base (L2N.CX P w) 5 A.f_Share___init__ A.d_Share___init__ p_Share___init__ (spF (GG K A) F_Share___init__) :=
  fn_okCN (k := 4) rfl rfl T.F_Share___init__ sc_Share___init__ fun Ar outer s H E hr => ⟨_,
    (pss_cons (ps_for (passes_of rfl) rfl (pi_any (pv 1)) (pg_tl rfl (pgs_cons (pg_name (i := 2) sc_Share___init__.nd rfl (by first | exact Or.inl rfl | exact Or.inr rfl)) (pgs_cons (pg_name (i := 3) sc_Share___init__.nd rfl (by first | exact Or.inl rfl | exact Or.inr rfl)) pgs_nil))) (pss_one (ps_expr (pe_callS (okN_ask_span T) (hr.mono (by decide)) rfl T.g_ask_span T.F_ask_span.kp T.b_ask_span (fun σ => L2N.passAt (L2N.takes_of rfl rfl rfl rfl) σ) (by exact (pa_cons (pv 2) (pa_cons (pv 3) pa_nil)))))))
    (pss_one (ps_fld (pv 0) (lamcallF (k := 2) (Ng := n_spans_where) (a := "here") (b := "there") (TT := TTd (GG K A) ("Share.__init__" ++ ".<locals>." ++ "<lambda>") 5 (g_spans_where (fun ds x y st => lb_Share___init___2 ⟨cloE ds 2 3 x y, st⟩))) rfl T.g_spans_where T.F_spans_where T.b_spans_where sc_spans_where (pe_callS (okN_rising_places T) (hr.mono (by decide)) rfl T.g_rising_places T.F_rising_places.kp T.b_rising_places (fun σ => L2N.passAt (L2N.takes_of rfl rfl rfl rfl) σ) (by exact (pa_cons (pv 1) pa_nil))) T.tb_Share___init__ rfl hr (LamP.lamN_by (sc := defScope s_Share___init__) (by decide +kernel)) rfl (fun cdg pins s' σ H1 f c' pm ctv v1 Q I hf hfn hfr hr tt => ⟨_, (pss_cons (ps_set (i := 2) sc_spans_where.nd rfl (by first | exact Or.inl rfl | exact Or.inr rfl) (pe_lst pa_nil))
    (pss_cons (ps_for (passes_of rfl) rfl (pi_zip (by rfl) T.z_zip (pa_cons (pv 0) (pa_cons (pe_slice sl_any (pv 0) (po_some pe_int) po_none) pa_nil))) (pg_tl rfl (pgs_cons (pg_name (i := 3) sc_spans_where.nd rfl (by first | exact Or.inl rfl | exact Or.inr rfl)) (pgs_cons (pg_name (i := 4) sc_spans_where.nd rfl (by first | exact Or.inl rfl | exact Or.inr rfl)) pgs_nil))) (pss_one (ps_if (pt_val (LamP.act3 (a := "here") (b := "there") (ja := 2) (jb := 3) (k := 2) (i := 1) (CXg := L2.CX P w) (Eg := fun _ _ _ => False) (pn := []) (E := fun _ _ _ => False) I (LamP.lamN_by (sc := defScope s_Share___init__) (by decide +kernel)) sc_Share___init__.nd rfl rfl hf hfn hfr (fun _ _ => rfl) takes0 (fun _ _ _ _ z => z) hr (fun A' o' s2 H2 hr => (pe_callS (ok_covers T) hr rfl T.g_covers T.F_covers.kp T.b_covers (fun σ => passAt takes0 σ) (by exact (pa_cons (pv 1) (pa_cons (pv 2) (pa_cons (pv 3) pa_nil)))))) (pa_cons (pv 3) (pa_cons (pv 4) pa_nil)) rfl (by first | exact Or.inl rfl | exact Or.inr (Or.inl rfl)))) (pss_one (ps_if (PW.pt (pw_and (pt_cmpR op_gt (pe_callB call_len (by rfl) T.z_len (by decide +kernel) (pa_cons (pv 2) pa_nil)) pe_int (nomark _)) (pw_and1 (pt_cmpR (or_eq hr.units) (pe_ix ix_seq (pe_ix ix_seq (pv 2) (pe_un un_neg pe_int) (fun _ _ => rfl)) pe_int (fun _ _ => rfl)) (pv 3) (nomark _))))) (pss_one (ps_asg (pe_tup (pa_cons (pe_ix ix_seq (pe_ix ix_seq (pv 2) (pe_un un_neg pe_int) (fun _ _ => rfl)) pe_int (fun _ _ => rfl)) (pa_cons (pv 4) pa_nil))) (pg_sub (pv 2) (pe_un un_neg pe_int) set_list))) (pss_one (ps_expr (pe_bm PySem.F.plainAttrs_list PySem.F.slot_list_append PySem.F.type_list_append mt_append (pv 2) (pa_cons (pe_tup (pa_cons (pv 3) (pa_cons (pv 4) pa_nil))) pa_nil)))))) pss_nil)))
    (pss_one (ps_ret (pv 2))))), lam_body (by decide) (s_seq (s_set (v_lst a_nil))
    (s_seq (s_for (i_zip (a_cons v_var (a_cons (v_sl d_sl v_var (o_some v_int) o_none) a_nil))) (g_tl (gs_cons g_name (gs_cons g_name gs_nil))) (s_if (t_val (v_held (ja := 2) (jb := 3) (a_cons v_var (a_cons v_var a_nil)) (v_call (a_cons v_var (a_cons v_var (a_cons v_var a_nil)))))) (s_if (t_and (t_test (v_op d_gt (v_cb c_len (a_cons v_var a_nil)) v_int)) (t_test (v_op d_eq (v_op d_ix (v_op d_ix v_var (v_un d_neg v_int)) v_int) v_var))) (s_setI (v_tup (a_cons (v_op d_ix (v_op d_ix v_var (v_un d_neg v_int)) v_int) (a_cons v_var a_nil))) (v_un d_neg v_int)) (s_mt m_append (a_cons (v_tup (a_cons v_var (a_cons v_var a_nil))) a_nil))) s_skip))
    s_retV)) rfl rfl tt⟩)) (by first | rfl | exact sw_any rfl)))),
    (s_seq (s_for (i_any v_var) (g_tl (gs_cons g_name (gs_cons g_name gs_nil))) (s_drop (v_call (a_cons v_var (a_cons v_var a_nil)))))
    (s_fldS T.fo_parts v_var (v_lamC (np := np_Share___init__) rfl (v_call (a_cons v_var a_nil)))))⟩
theorem ok_read_share (T : Txt K mg base A) : FnOk P w K mg base (L2.CX P w) 7 A.f_read_share A.d_read_share p_read_share (spF (GG K A) F_read_share) :=
  fn_ok (k := 6) rfl rfl T.F_read_share sc_read_share fun cdv Ar outer s H E hr => ⟨_,
    (pss_cons (ps_set (i := 1) sc_read_share.nd rfl (by first | exact Or.inl rfl | exact Or.inr rfl) (pe_lst pa_nil))
    (pss_cons (ps_if (pt_cmpR (or_ne hr.units) (pv 0) pe_str (nomark _)) (pss_one (ps_setLcE (i := 1) (own := [("word", 3)]) rfl rfl (takes_of rfl rfl rfl rfl) rfl sc_read_share.nd rfl rfl (sw_true rfl rfl rfl (by decide +kernel)) (pi_any (pe_bm PySem.F.plainAttrs_str PySem.F.slot_str_split PySem.F.type_str_split mt_split (pv 0) (pa_cons pe_str pa_nil))) (blkOk_by (N := n_read_share) (sc := defScope (s_read_share)) (by decide +kernel)) (fun _ _ _ _ _ => (pg_name (i := 3) sc_read_share.nd rfl (by first | exact Or.inl rfl | exact Or.inr rfl))) (fun _ _ _ _ _ => pts_nil) (fun W' xe _ _ _ _ _ tk => (pe_callS (ok_read_span T) (hr.mono (by decide)) rfl T.g_read_span T.F_read_span.kp T.b_read_span (fun σ => passAt tk σ) (by exact (pa_cons (pv 3) pa_nil)))))) pss_nil)
    (pss_cons (L2H.ps_try_onlyX rfl rfl ⟨rfl, by decide, Or.inl T.g_NoSpan⟩ (L2H.passesAt_of rfl) (takes_of rfl rfl rfl rfl) (fun W pn xe tkN tkP po => (pss_one (ps_set (i := 2) sc_read_share.nd rfl (by first | exact Or.inl rfl | exact Or.inr rfl) (by exact (pe_kN T.mk_Share (okN_Share___init__ T) hr rfl T.g_Share T.B_Share___init___2_ (fun σ => L2N.passAt tkN σ) (by exact (pa_cons (pv 1) pa_nil))))))) (fun a oe cls d pn hz hf tk hot => (pss_one (L2H.ps_raiseHN hot tk (pmk_own5 PySem.F.excBase_ValueError T.x_NoText T.g_NoText T.k_NoText (raises_own T.sb_NoText T.t_NoText) rfl)))))
    (pss_cons (ps_if (pt_cmpR (or_ne hr.units) (pe_callTy (CallR.or call_strA (call_strO (G := GG K A) (k := 2) (Os := [(5, F_Share___str__)]) (List.forall_mem_cons.mpr ⟨⟨⟨_, _, _, T.mt_Share___str__, (ok_Share___str__ T).mono (by decide), T.b_Share___str__, rfl⟩⟩, (fun _ h => nomatch h)⟩) (hr.mono (by decide)))) (by rfl) T.z_str (by decide +kernel) (pa_cons (pv 2) pa_nil)) (pv 0) (nomark _)) (pss_one (ps_raise rfl (takes_of rfl rfl rfl rfl) (pmk_own PySem.F.excBase_ValueError T.x_NoText T.g_NoText T.k_NoText (raises_own T.sb_NoText T.t_NoText) rfl))) pss_nil)
    (pss_one (ps_ret (pv 2))))))),
    (s_seq (s_setF (v_lst a_nil))
    (s_seq (s_if (t_test (v_op d_ne v_var v_str)) (s_setF (v_lcG (vs := [3]) (js := [3]) (i_any (v_ms ms_split v_var (a_cons v_str a_nil))) g_name (by decide) t_yes (fun W' => (v_call (a_cons v_var a_nil))))) s_skip)
    (s_seq (s_tryR (G := GG K A) (fun W => (s_setF (v_make (c := 5) (dd := []) rfl (a_cons v_var a_nil) a_nil))) T.ex_NoSpan (fun a cls d => (s_raise rfl)) :)
    (s_seq (s_if (t_test (v_op d_ne (v_strX v_var) v_var)) (s_raise rfl) s_skip)
    s_retV))))⟩
theorem ok_law (T : Txt K mg base A) : FnOk P w K mg base (L2.CX P w) 8 A.f_law A.d_law p_law (spF (GG K A) F_law) :=
  fn_ok (k := 7) rfl rfl T.F_law sc_law fun cdv Ar outer s H E hr => ⟨_,
    (pss_cons (ps_set (i := 1) sc_law.nd rfl (by first | exact Or.inl rfl | exact Or.inr rfl) (pe_callS (ok_law_box T) (hr.mono (by decide)) rfl T.g_law_box T.F_law_box.kp T.b_law_box (fun σ => passAt (takes_of rfl rfl rfl rfl) σ) (by exact (pa_cons (pv 0) pa_nil))))
    (pss_cons (ps_set (i := 2) sc_law.nd rfl (by first | exact Or.inl rfl | exact Or.inr rfl) (pe_callS (ok_law_take T) (hr.mono (by decide)) rfl T.g_law_take T.F_law_take.kp T.b_law_take (fun σ => passAt (takes_of rfl rfl rfl rfl) σ) (by exact (pa_cons (pv 1) (pa_cons pe_int pa_nil)))))
    (pss_cons (ps_set (i := 3) sc_law.nd rfl (by first | exact Or.inl rfl | exact Or.inr rfl) (pe_op or_add pe_int (pe_callS (ok_law_take T) (hr.mono (by decide)) rfl T.g_law_take T.F_law_take.kp T.b_law_take (fun σ => passAt (takes_of rfl rfl rfl rfl) σ) (by exact (pa_cons (pv 1) (pa_cons (pe_ix ix_seq (pe_lst (pa_cons pe_int (pa_cons pe_int (pa_cons (pe_op op_pow pe_int pe_int) pa_nil)))) (pe_callS (ok_law_take T) (hr.mono (by decide)) rfl T.g_law_take T.F_law_take.kp T.b_law_take (fun σ => passAt (takes_of rfl rfl rfl rfl) σ) (by exact (pa_cons (pv 1) (pa_cons pe_int pa_nil)))) (fun _ _ => rfl)) pa_nil))))))
    (pss_cons (ps_set (i := 4) sc_law.nd rfl (by first | exact Or.inl rfl | exact Or.inr rfl) (pe_callS (ok_law_text T) (hr.mono (by decide)) rfl T.g_law_text T.F_law_text.kp T.b_law_text (fun σ => passAt (takes_of rfl rfl rfl rfl) σ) (by exact (pa_cons (pe_callS (ok_law_told T) (hr.mono (by decide)) rfl T.g_law_told T.F_law_told.kp T.b_law_told (fun σ => passAt (takes_of rfl rfl rfl rfl) σ) (by exact (pa_cons (pe_callS (ok_law_joined T) (hr.mono (by decide)) rfl T.g_law_joined T.F_law_joined.kp T.b_law_joined (fun σ => passAt (takes_of rfl rfl rfl rfl) σ) (by exact (pa_cons (pe_slice sl_any (pe_callS (ok_law_pairs T) (hr.mono (by decide)) rfl T.g_law_pairs T.F_law_pairs.kp T.b_law_pairs (fun σ => passAt (takes_of rfl rfl rfl rfl) σ) (by exact (pa_cons (pv 1) (pa_cons (pv 3) pa_nil)))) po_none (po_some pe_int)) pa_nil))) (pa_cons (pv 3) pa_nil)))) pa_nil))))
    (pss_cons (ps_for (passes_of rfl) rfl (pi_range1 (by rfl) T.z_range (pa_cons (pe_op op_modN (pv 2) pe_int) pa_nil)) (pg_name (i := 5) sc_law.nd rfl (by first | exact Or.inl rfl | exact Or.inr rfl)) (pss_one (ps_set (i := 4) sc_law.nd rfl (by first | exact Or.inl rfl | exact Or.inr rfl) (pe_callS (ok_law_changed T) (hr.mono (by decide)) rfl T.g_law_changed T.F_law_changed.kp T.b_law_changed (fun σ => passAt (takes_of rfl rfl rfl rfl) σ) (by exact (pa_cons (pv 1) (pa_cons (pv 4) pa_nil)))))))
    (pss_cons (ps_set (i := 6) sc_law.nd rfl (by first | exact Or.inl rfl | exact Or.inr rfl) (pe_callS (ok_law_read T) (hr.mono (by decide)) rfl T.g_law_read T.F_law_read.kp T.b_law_read (fun σ => passAt (takes_of rfl rfl rfl rfl) σ) (by exact (pa_cons (pv 4) pa_nil))))
    (pss_cons (ps_for (passes_of rfl) rfl (pi_range1 (by rfl) T.z_range (pa_cons pe_int pa_nil)) (pg_name (i := 7) sc_law.nd rfl (by first | exact Or.inl rfl | exact Or.inr rfl)) (pss_cons (ps_set (i := 8) sc_law.nd rfl (by first | exact Or.inl rfl | exact Or.inr rfl) (pe_lst pa_nil))
    (pss_cons (ps_set (i := 9) sc_law.nd rfl (by first | exact Or.inl rfl | exact Or.inr rfl) (by exact (pe_kN T.mk_Share (ok_Share___init__ T) (hr.mono (by decide)) rfl T.g_Share T.B_Share___init___2_ (fun σ => passAt (takes_of rfl rfl rfl rfl) σ) (by exact (pa_cons (pe_lst pa_nil) pa_nil)))))
    (pss_cons (ps_try_as (i := 10) rfl rfl sc_law.nd rfl rfl ⟨rfl, by decide, Or.inl T.g_CrumbError⟩ (takes_of rfl rfl rfl rfl) (fun W pn xe tk po => (pss_one (ps_set (i := 9) sc_law.nd rfl (by first | exact Or.inl rfl | exact Or.inr rfl) (pe_callS (ok_read_share T) hr rfl T.g_read_share T.F_read_share.kp T.b_read_share (fun σ => passAt tk σ) (by exact (pa_cons (pv 4) pa_nil)))))) (fun a oe cls d pn hz hf => (pss_one (ps_set (i := 8) sc_law.nd rfl (by first | exact Or.inl rfl | exact Or.inr rfl) (pe_lst (pa_cons (pe_callB (call_isEx hz hf) (by rfl) T.z_isinstance (by decide +kernel) (pa_cons (pv 10) (pa_cons (pe_glob (v := .ref A.c_NoText) rfl T.g_NoText rfl) pa_nil))) (pa_cons (pe_callB (call_isEx hz hf) (by rfl) T.z_isinstance (by decide +kernel) (pa_cons (pv 10) (pa_cons (pe_glob (v := .ref A.c_NoSpan) rfl T.g_NoSpan rfl) pa_nil))) (pa_cons (pe_callB (call_isEx hz hf) (by rfl) T.z_isinstance (by decide +kernel) (pa_cons (pv 10) (pa_cons (pe_glob (v := .ref A.c_NoTable) rfl T.g_NoTable rfl) pa_nil))) (pa_cons (pe_callB (call_isEx hz hf) (by rfl) T.z_isinstance (by decide +kernel) (pa_cons (pv 10) (pa_cons (pe_glob (v := .ref A.c_NoFraction) rfl T.g_NoFraction rfl) pa_nil))) pa_nil)))))))))
    (pss_cons (ps_if (PW.pt (pw_and (pt_cmpR op_isN (pv 6) pe_non (nomark _)) (pw_and1 (pt_cmpR (or_ne hr.units) (pv 8) (pe_lst (pa_cons pe_bl (pa_cons pe_bl (pa_cons pe_bl (pa_cons pe_bl pa_nil))))) (nomark _))))) (pss_one (ps_ret pe_bl)) pss_nil)
    (pss_one (ps_if (PW.pt (pw_and (pt_cmpR op_notN (pv 6) pe_non (nomark _)) (pw_and1 (PW.pt (pw_or (pt_cmpR (or_ne hr.units) (pv 8) (pe_lst pa_nil) (nomark _)) (pw_or1 (pt_cmpR (or_ne hr.units) (by exact (pe_m0 (pv 9) T.cl_Share T.mt_Share_spans (ok_Share_spans T) (hr.mono (by decide)) T.B_Share_spans_1_ (fun σ => passAt (takes_of rfl rfl rfl rfl) σ))) (pv 6) (nomark _)))))))) (pss_one (ps_ret pe_bl)) pss_nil)))))))
    (pss_one (ps_ret pe_bl))))))))),
    (s_seq (s_setF (v_call (a_cons v_var a_nil)))
    (s_seq (s_setF (v_call (a_cons v_var (a_cons v_int a_nil))))
    (s_seq (s_setF (v_op d_add v_int (v_call (a_cons v_var (a_cons (v_op d_ix (v_lst (a_cons v_int (a_cons v_int (a_cons (v_op d_pow v_int v_int) a_nil)))) (v_call (a_cons v_var (a_cons v_int a_nil)))) a_nil)))))
    (s_seq (s_setF (v_call (a_cons (v_call (a_cons (v_call (a_cons (v_sl d_sl (v_call (a_cons v_var (a_cons v_var a_nil))) o_none (o_some v_int)) a_nil)) (a_cons v_var a_nil))) a_nil)))
    (s_seq (s_for (i_range1 (a_cons (v_op d_mod v_var v_int) a_nil)) g_name (s_setF (v_call (a_cons v_var (a_cons v_var a_nil)))))
    (s_seq (s_setF (v_call (a_cons v_var a_nil)))
    (s_seq (s_for (i_range1 (a_cons v_int a_nil)) g_name (s_seq (s_setF (v_lst a_nil))
    (s_seq (s_setF (v_make (c := 5) (dd := []) rfl (a_cons (v_lst a_nil) a_nil) a_nil))
    (s_seq (s_tryN (G := GG K A) (h := fun c => (sSetF 8 (dLst (aCons (dIsE 10 (sub_NoText c)) (aCons (dIsE 10 (sub_NoSpan c)) (aCons (dIsE 10 (sub_NoTable c)) (aCons (dIsE 10 (sub_NoFraction c)) aNil))))))) (fun W => (s_setF (v_call (a_cons v_var a_nil)))) T.ex_CrumbError (fun c a hc cls d hcls hdd => (s_setF (v_lst (a_cons (v_isE (C := .ref A.c_NoText) (cv := .ref A.c_NoText) hcls hdd (T.ec_CrumbError c hc) (fun _ h => h) (T.ki_NoText c)) (a_cons (v_isE (C := .ref A.c_NoSpan) (cv := .ref A.c_NoSpan) hcls hdd (T.ec_CrumbError c hc) (fun _ h => h) (T.ki_NoSpan c)) (a_cons (v_isE (C := .ref A.c_NoTable) (cv := .ref A.c_NoTable) hcls hdd (T.ec_CrumbError c hc) (fun _ h => h) (T.ki_NoTable c)) (a_cons (v_isE (C := .ref A.c_NoFraction) (cv := .ref A.c_NoFraction) hcls hdd (T.ec_CrumbError c hc) (fun _ h => h) (T.ki_NoFraction c)) a_nil))))))) :)
    (s_seq (s_if (t_and (t_test (v_op d_isN v_var v_non)) (t_test (v_op d_ne v_var (v_lst (a_cons v_bl (a_cons v_bl (a_cons v_bl (a_cons v_bl a_nil)))))))) (s_ret v_bl) s_skip)
    (s_if (t_and (t_test (v_op d_notN v_var v_non)) (t_or (t_test (v_op d_ne v_var (v_lst a_nil))) (t_test (v_op d_ne (v_meth (c := 5) (m := "spans") (dd := []) nf_Share_spans rfl v_var a_nil a_nil) v_var)))) (s_ret v_bl) s_skip))))))
    (s_ret v_bl))))))))⟩
end
end Dn
namespace Dn
open PySem PySem.Spec PyProof.Rows L2
theorem all_mk {l : PySem.W.OpenLaw} {w : World} {K : PySem.W.Frag} {h : Heap} {mg : Str → Option Value} {fa : Addr} (X : K.In h) (G : h.Ns mainGlobals mg) (hfa : mg "law" = some (.ref fa))
    {c_CrumbError : Addr}
    {c_NoFraction : Addr}
    {c_NoText : Addr}
    {c_NoTable : Addr}
    {c_NoSpan : Addr}
    {c_Share : Addr}
    {f0 : Addr} {od0 an0 : Option Addr} {sl0 : Array (Option Value)} {oc0 kV0 dc0 pm0 ct0 : Value}
    {cd0 : Value}
    {f1 : Addr} {od1 an1 : Option Addr} {sl1 : Array (Option Value)} {oc1 kV1 dc1 pm1 ct1 : Value}
    {cd1 : Value}
    {f2 : Addr} {od2 an2 : Option Addr} {sl2 : Array (Option Value)} {oc2 kV2 dc2 pm2 ct2 : Value}
    {cd2 : Value}
    {f3 : Addr} {od3 an3 : Option Addr} {sl3 : Array (Option Value)} {oc3 kV3 dc3 pm3 ct3 : Value}
    {cd3 : Value}
    {f4 : Addr} {od4 an4 : Option Addr} {sl4 : Array (Option Value)} {oc4 kV4 dc4 pm4 ct4 : Value}
    {cd4 : Value}
    {f5 : Addr} {od5 an5 : Option Addr} {sl5 : Array (Option Value)} {oc5 kV5 dc5 pm5 ct5 : Value}
    {cd5 : Value}
    {f6 : Addr} {od6 an6 : Option Addr} {sl6 : Array (Option Value)} {oc6 kV6 dc6 pm6 ct6 : Value}
    {cd6 : Value}
    {f7 : Addr} {od7 an7 : Option Addr} {sl7 : Array (Option Value)} {oc7 kV7 dc7 pm7 ct7 : Value}
    {cd7 : Value}
    {f8 : Addr} {od8 an8 : Option Addr} {sl8 : Array (Option Value)} {oc8 kV8 dc8 pm8 ct8 : Value}
    {cd8 : Value}
    {f9 : Addr} {od9 an9 : Option Addr} {sl9 : Array (Option Value)} {oc9 kV9 dc9 pm9 ct9 : Value}
    {cd9 : Value}
    {f10 : Addr} {od10 an10 : Option Addr} {sl10 : Array (Option Value)} {oc10 kV10 dc10 pm10 ct10 : Value}
    {cd10 : Value}
    {f11 : Addr} {od11 an11 : Option Addr} {sl11 : Array (Option Value)} {oc11 kV11 dc11 pm11 ct11 : Value}
    {cd11 : Value}
    {f12 : Addr} {od12 an12 : Option Addr} {sl12 : Array (Option Value)} {oc12 kV12 dc12 pm12 ct12 : Value}
    {cd12 : Value}
    {f13 : Addr} {od13 an13 : Option Addr} {sl13 : Array (Option Value)} {oc13 kV13 dc13 pm13 ct13 : Value}
    {cd13 : Value}
    {T13 : Addr} {q13 : Value} {qd13 : Option Addr} {qn13 : Nat} {qs13 : Array (Option Value)}
    {tt13_0 : Tok}
    {f14 : Addr} {od14 an14 : Option Addr} {sl14 : Array (Option Value)} {oc14 kV14 dc14 pm14 ct14 : Value}
    {cd14 : Value}
    {f15 : Addr} {od15 an15 : Option Addr} {sl15 : Array (Option Value)} {oc15 kV15 dc15 pm15 ct15 : Value}
    {cd15 : Value}
    {f16 : Addr} {od16 an16 : Option Addr} {sl16 : Array (Option Value)} {oc16 kV16 dc16 pm16 ct16 : Value}
    {cd16 : Value}
    {f17 : Addr} {od17 an17 : Option Addr} {sl17 : Array (Option Value)} {oc17 kV17 dc17 pm17 ct17 : Value}
    {cd17 : Value}
    {f18 : Addr} {od18 an18 : Option Addr} {sl18 : Array (Option Value)} {oc18 kV18 dc18 pm18 ct18 : Value}
    {cd18 : Value}
    {f19 : Addr} {od19 an19 : Option Addr} {sl19 : Array (Option Value)} {oc19 kV19 dc19 pm19 ct19 : Value}
    {cd19 : Value}
    {f20 : Addr} {od20 an20 : Option Addr} {sl20 : Array (Option Value)} {oc20 kV20 dc20 pm20 ct20 : Value}
    {cd20 : Value}
    {f21 : Addr} {od21 an21 : Option Addr} {sl21 : Array (Option Value)} {oc21 kV21 dc21 pm21 ct21 : Value}
    {cd21 : Value}
    {f22 : Addr} {od22 an22 : Option Addr} {sl22 : Array (Option Value)} {oc22 kV22 dc22 pm22 ct22 : Value}
    {cd22 : Value}
    {f23 : Addr} {od23 an23 : Option Addr} {sl23 : Array (Option Value)} {oc23 kV23 dc23 pm23 ct23 : Value}
    {cd23 : Value}
    {f24 : Addr} {od24 an24 : Option Addr} {sl24 : Array (Option Value)} {oc24 kV24 dc24 pm24 ct24 : Value}
    {cd24 : Value}
    {f25 : Addr} {od25 an25 : Option Addr} {sl25 : Array (Option Value)} {oc25 kV25 dc25 pm25 ct25 : Value}
    {cd25 : Value}
    {f26 : Addr} {od26 an26 : Option Addr} {sl26 : Array (Option Value)} {oc26 kV26 dc26 pm26 ct26 : Value}
    {cd26 : Value}
    {f27 : Addr} {od27 an27 : Option Addr} {sl27 : Array (Option Value)} {oc27 kV27 dc27 pm27 ct27 : Value}
    {zq_Share___init__ zp_Share___init__ : Addr} {qo_Share___init__ : Option Addr} {qv_Share___init__ : Array Value} {qs_Share___init__ : Array (Option Value)}
    {f28 : Addr} {od28 an28 : Option Addr} {sl28 : Array (Option Value)} {oc28 kV28 dc28 pm28 ct28 : Value}
    {cd28 : Value}
    {f29 : Addr} {od29 an29 : Option Addr} {sl29 : Array (Option Value)} {oc29 kV29 dc29 pm29 ct29 : Value}
    {cd29 : Value}
    {a_BEGIN_0 : Addr} {a_BEGIN_0d : Option Addr} {a_BEGIN_0n : Nat} {a_BEGIN_0s : Array (Option Value)}
    {a_BEGIN_0t0 : Tok}
    {a_BEGIN_0t1 : Tok}
    {a_END_0 : Addr} {a_END_0d : Option Addr} {a_END_0n : Nat} {a_END_0s : Array (Option Value)}
    {a_END_0t0 : Tok}
    {a_END_0t1 : Tok}
    {t_MOST_FIGURES : Tok}
    (g_CrumbError : PySem.W.nsIn K mainGlobals "CrumbError" = some (some (.ref c_CrumbError)))
    (g_NoFraction : PySem.W.nsIn K mainGlobals "NoFraction" = some (some (.ref c_NoFraction)))
    (g_NoText : PySem.W.nsIn K mainGlobals "NoText" = some (some (.ref c_NoText)))
    (g_NoTable : PySem.W.nsIn K mainGlobals "NoTable" = some (some (.ref c_NoTable)))
    (g_NoSpan : PySem.W.nsIn K mainGlobals "NoSpan" = some (some (.ref c_NoSpan)))
    (g_Share : PySem.W.nsIn K mainGlobals "Share" = some (some (.ref c_Share)))
    (a0 : PySem.W.nsIn K mainGlobals "divisor" = some (some (.ref f0)))
    (l0 : K.lookup f0 = some ⟨oc0, od0, .func (PySem.W.fnOf "divisor" "divisor" (defArgs s_divisor) (defBody s_divisor) (defScope s_divisor) .none kV0 dc0 pm0 an0 cd0 ct0), sl0⟩)
    (c0 : PySem.W.codeIn K cd0 "divisor" = true)
    (k0 : PySem.W.keepIn K (.ref f0) = true)
    (a1 : PySem.W.nsIn K mainGlobals "is_less" = some (some (.ref f1)))
    (l1 : K.lookup f1 = some ⟨oc1, od1, .func (PySem.W.fnOf "is_less" "is_less" (defArgs s_is_less) (defBody s_is_less) (defScope s_is_less) .none kV1 dc1 pm1 an1 cd1 ct1), sl1⟩)
    (c1 : PySem.W.codeIn K cd1 "is_less" = true)
    (k1 : PySem.W.keepIn K (.ref f1) = true)
    (a2 : PySem.W.nsIn K mainGlobals "fraction_text" = some (some (.ref f2)))
    (l2 : K.lookup f2 = some ⟨oc2, od2, .func (PySem.W.fnOf "fraction_text" "fraction_text" (defArgs s_fraction_text) (defBody s_fraction_text) (defScope s_fraction_text) .none kV2 dc2 pm2 an2 cd2 ct2), sl2⟩)
    (c2 : PySem.W.codeIn K cd2 "fraction_text" = true)
    (k2 : PySem.W.keepIn K (.ref f2) = true)
    (a3 : PySem.W.nsIn K mainGlobals "is_figures" = some (some (.ref f3)))
    (l3 : K.lookup f3 = some ⟨oc3, od3, .func (PySem.W.fnOf "is_figures" "is_figures" (defArgs s_is_figures) (defBody s_is_figures) (defScope s_is_figures) .none kV3 dc3 pm3 an3 cd3 ct3), sl3⟩)
    (c3 : PySem.W.codeIn K cd3 "is_figures" = true)
    (k3 : PySem.W.keepIn K (.ref f3) = true)
    (a4 : PySem.W.nsIn K mainGlobals "spans_where" = some (some (.ref f4)))
    (l4 : K.lookup f4 = some ⟨oc4, od4, .func (PySem.W.fnOf "spans_where" "spans_where" (defArgs s_spans_where) (defBody s_spans_where) (defScope s_spans_where) .none kV4 dc4 pm4 an4 cd4 ct4), sl4⟩)
    (c4 : PySem.W.codeIn K cd4 "spans_where" = true)
    (k4 : PySem.W.keepIn K (.ref f4) = true)
    (a5 : PySem.W.findIn K (.ref c_Share) "spans" = some (some (.ref f5)))
    (l5 : K.lookup f5 = some ⟨oc5, od5, .func (PySem.W.fnOf "spans" "Share.spans" (defArgs s_Share_spans) (defBody s_Share_spans) (defScope s_Share_spans) .none kV5 dc5 pm5 an5 cd5 ct5), sl5⟩)
    (c5 : PySem.W.codeIn K cd5 "Share.spans" = true)
    (k5 : PySem.W.keepIn K (.ref f5) = true)
    (a6 : PySem.W.nsIn K mainGlobals "_law_box" = some (some (.ref f6)))
    (l6 : K.lookup f6 = some ⟨oc6, od6, .func (PySem.W.fnOf "_law_box" "_law_box" (defArgs s_law_box) (defBody s_law_box) (defScope s_law_box) .none kV6 dc6 pm6 an6 cd6 ct6), sl6⟩)
    (c6 : PySem.W.codeIn K cd6 "_law_box" = true)
    (k6 : PySem.W.keepIn K (.ref f6) = true)
    (a7 : PySem.W.nsIn K mainGlobals "_law_mixed" = some (some (.ref f7)))
    (l7 : K.lookup f7 = some ⟨oc7, od7, .func (PySem.W.fnOf "_law_mixed" "_law_mixed" (defArgs s_law_mixed) (defBody s_law_mixed) (defScope s_law_mixed) .none kV7 dc7 pm7 an7 cd7 ct7), sl7⟩)
    (c7 : PySem.W.codeIn K cd7 "_law_mixed" = true)
    (k7 : PySem.W.keepIn K (.ref f7) = true)
    (a8 : PySem.W.nsIn K mainGlobals "_law_low" = some (some (.ref f8)))
    (l8 : K.lookup f8 = some ⟨oc8, od8, .func (PySem.W.fnOf "_law_low" "_law_low" (defArgs s_law_low) (defBody s_law_low) (defScope s_law_low) .none kV8 dc8 pm8 an8 cd8 ct8), sl8⟩)
    (c8 : PySem.W.codeIn K cd8 "_law_low" = true)
    (k8 : PySem.W.keepIn K (.ref f8) = true)
    (a9 : PySem.W.nsIn K mainGlobals "_law_less" = some (some (.ref f9)))
    (l9 : K.lookup f9 = some ⟨oc9, od9, .func (PySem.W.fnOf "_law_less" "_law_less" (defArgs s_law_less) (defBody s_law_less) (defScope s_law_less) .none kV9 dc9 pm9 an9 cd9 ct9), sl9⟩)
    (c9 : PySem.W.codeIn K cd9 "_law_less" = true)
    (k9 : PySem.W.keepIn K (.ref f9) = true)
    (a10 : PySem.W.nsIn K mainGlobals "_law_joined" = some (some (.ref f10)))
    (l10 : K.lookup f10 = some ⟨oc10, od10, .func (PySem.W.fnOf "_law_joined" "_law_joined" (defArgs s_law_joined) (defBody s_law_joined) (defScope s_law_joined) .none kV10 dc10 pm10 an10 cd10 ct10), sl10⟩)
    (c10 : PySem.W.codeIn K cd10 "_law_joined" = true)
    (k10 : PySem.W.keepIn K (.ref f10) = true)
    (a11 : PySem.W.nsIn K mainGlobals "_law_number" = some (some (.ref f11)))
    (l11 : K.lookup f11 = some ⟨oc11, od11, .func (PySem.W.fnOf "_law_number" "_law_number" (defArgs s_law_number) (defBody s_law_number) (defScope s_law_number) .none kV11 dc11 pm11 an11 cd11 ct11), sl11⟩)
    (c11 : PySem.W.codeIn K cd11 "_law_number" = true)
    (k11 : PySem.W.keepIn K (.ref f11) = true)
    (a12 : PySem.W.nsIn K mainGlobals "_law_figures" = some (some (.ref f12)))
    (l12 : K.lookup f12 = some ⟨oc12, od12, .func (PySem.W.fnOf "_law_figures" "_law_figures" (defArgs s_law_figures) (defBody s_law_figures) (defScope s_law_figures) .none kV12 dc12 pm12 an12 cd12 ct12), sl12⟩)
    (c12 : PySem.W.codeIn K cd12 "_law_figures" = true)
    (k12 : PySem.W.keepIn K (.ref f12) = true)
    (a13 : PySem.W.nsIn K mainGlobals "fraction_of" = some (some (.ref f13)))
    (l13 : K.lookup f13 = some ⟨oc13, od13, .func (PySem.W.fnOf "fraction_of" "fraction_of" (defArgs s_fraction_of) (defBody s_fraction_of) (defScope s_fraction_of) (.ref T13) kV13 dc13 pm13 an13 cd13 ct13), sl13⟩)
    (c13 : PySem.W.codeIn K cd13 "fraction_of" = true)
    (k13 : PySem.W.keepIn K (.ref f13) = true)
    (lT13 : K.lookup T13 = some ⟨q13, qd13, .seq ([(.int 1 tt13_0)] : List Value).toArray qn13, qs13⟩)
    (a14 : PySem.W.nsIn K mainGlobals "ask_span" = some (some (.ref f14)))
    (l14 : K.lookup f14 = some ⟨oc14, od14, .func (PySem.W.fnOf "ask_span" "ask_span" (defArgs s_ask_span) (defBody s_ask_span) (defScope s_ask_span) .none kV14 dc14 pm14 an14 cd14 ct14), sl14⟩)
    (c14 : PySem.W.codeIn K cd14 "ask_span" = true)
    (k14 : PySem.W.keepIn K (.ref f14) = true)
    (a15 : PySem.W.nsIn K mainGlobals "rising_places" = some (some (.ref f15)))
    (l15 : K.lookup f15 = some ⟨oc15, od15, .func (PySem.W.fnOf "rising_places" "rising_places" (defArgs s_rising_places) (defBody s_rising_places) (defScope s_rising_places) .none kV15 dc15 pm15 an15 cd15 ct15), sl15⟩)
    (c15 : PySem.W.codeIn K cd15 "rising_places" = true)
    (k15 : PySem.W.keepIn K (.ref f15) = true)
    (a16 : PySem.W.nsIn K mainGlobals "covers" = some (some (.ref f16)))
    (l16 : K.lookup f16 = some ⟨oc16, od16, .func (PySem.W.fnOf "covers" "covers" (defArgs s_covers) (defBody s_covers) (defScope s_covers) .none kV16 dc16 pm16 an16 cd16 ct16), sl16⟩)
    (c16 : PySem.W.codeIn K cd16 "covers" = true)
    (k16 : PySem.W.keepIn K (.ref f16) = true)
    (a17 : PySem.W.findIn K (.ref c_Share) "__str__" = some (some (.ref f17)))
    (l17 : K.lookup f17 = some ⟨oc17, od17, .func (PySem.W.fnOf "__str__" "Share.__str__" (defArgs s_Share___str__) (defBody s_Share___str__) (defScope s_Share___str__) .none kV17 dc17 pm17 an17 cd17 ct17), sl17⟩)
    (c17 : PySem.W.codeIn K cd17 "Share.__str__" = true)
    (k17 : PySem.W.keepIn K (.ref f17) = true)
    (a18 : PySem.W.nsIn K mainGlobals "_law_take" = some (some (.ref f18)))
    (l18 : K.lookup f18 = some ⟨oc18, od18, .func (PySem.W.fnOf "_law_take" "_law_take" (defArgs s_law_take) (defBody s_law_take) (defScope s_law_take) .none kV18 dc18 pm18 an18 cd18 ct18), sl18⟩)
    (c18 : PySem.W.codeIn K cd18 "_law_take" = true)
    (k18 : PySem.W.keepIn K (.ref f18) = true)
    (a19 : PySem.W.nsIn K mainGlobals "_law_told" = some (some (.ref f19)))
    (l19 : K.lookup f19 = some ⟨oc19, od19, .func (PySem.W.fnOf "_law_told" "_law_told" (defArgs s_law_told) (defBody s_law_told) (defScope s_law_told) .none kV19 dc19 pm19 an19 cd19 ct19), sl19⟩)
    (c19 : PySem.W.codeIn K cd19 "_law_told" = true)
    (k19 : PySem.W.keepIn K (.ref f19) = true)
    (a20 : PySem.W.nsIn K mainGlobals "_law_text" = some (some (.ref f20)))
    (l20 : K.lookup f20 = some ⟨oc20, od20, .func (PySem.W.fnOf "_law_text" "_law_text" (defArgs s_law_text) (defBody s_law_text) (defScope s_law_text) .none kV20 dc20 pm20 an20 cd20 ct20), sl20⟩)
    (c20 : PySem.W.codeIn K cd20 "_law_text" = true)
    (k20 : PySem.W.keepIn K (.ref f20) = true)
    (a21 : PySem.W.nsIn K mainGlobals "_law_read_place" = some (some (.ref f21)))
    (l21 : K.lookup f21 = some ⟨oc21, od21, .func (PySem.W.fnOf "_law_read_place" "_law_read_place" (defArgs s_law_read_place) (defBody s_law_read_place) (defScope s_law_read_place) .none kV21 dc21 pm21 an21 cd21 ct21), sl21⟩)
    (c21 : PySem.W.codeIn K cd21 "_law_read_place" = true)
    (k21 : PySem.W.keepIn K (.ref f21) = true)
    (a22 : PySem.W.nsIn K mainGlobals "read_fraction" = some (some (.ref f22)))
    (l22 : K.lookup f22 = some ⟨oc22, od22, .func (PySem.W.fnOf "read_fraction" "read_fraction" (defArgs s_read_fraction) (defBody s_read_fraction) (defScope s_read_fraction) .none kV22 dc22 pm22 an22 cd22 ct22), sl22⟩)
    (c22 : PySem.W.codeIn K cd22 "read_fraction" = true)
    (k22 : PySem.W.keepIn K (.ref f22) = true)
    (a23 : PySem.W.nsIn K mainGlobals "_law_pairs" = some (some (.ref f23)))
    (l23 : K.lookup f23 = some ⟨oc23, od23, .func (PySem.W.fnOf "_law_pairs" "_law_pairs" (defArgs s_law_pairs) (defBody s_law_pairs) (defScope s_law_pairs) .none kV23 dc23 pm23 an23 cd23 ct23), sl23⟩)
    (c23 : PySem.W.codeIn K cd23 "_law_pairs" = true)
    (k23 : PySem.W.keepIn K (.ref f23) = true)
    (a24 : PySem.W.nsIn K mainGlobals "_law_changed" = some (some (.ref f24)))
    (l24 : K.lookup f24 = some ⟨oc24, od24, .func (PySem.W.fnOf "_law_changed" "_law_changed" (defArgs s_law_changed) (defBody s_law_changed) (defScope s_law_changed) .none kV24 dc24 pm24 an24 cd24 ct24), sl24⟩)
    (c24 : PySem.W.codeIn K cd24 "_law_changed" = true)
    (k24 : PySem.W.keepIn K (.ref f24) = true)
    (a25 : PySem.W.nsIn K mainGlobals "_law_read" = some (some (.ref f25)))
    (l25 : K.lookup f25 = some ⟨oc25, od25, .func (PySem.W.fnOf "_law_read" "_law_read" (defArgs s_law_read) (defBody s_law_read) (defScope s_law_read) .none kV25 dc25 pm25 an25 cd25 ct25), sl25⟩)
    (c25 : PySem.W.codeIn K cd25 "_law_read" = true)
    (k25 : PySem.W.keepIn K (.ref f25) = true)
    (a26 : PySem.W.nsIn K mainGlobals "read_span" = some (some (.ref f26)))
    (l26 : K.lookup f26 = some ⟨oc26, od26, .func (PySem.W.fnOf "read_span" "read_span" (defArgs s_read_span) (defBody s_read_span) (defScope s_read_span) .none kV26 dc26 pm26 an26 cd26 ct26), sl26⟩)
    (c26 : PySem.W.codeIn K cd26 "read_span" = true)
    (k26 : PySem.W.keepIn K (.ref f26) = true)
    (a27 : PySem.W.findIn K (.ref c_Share) "__init__" = some (some (.ref f27)))
    (l27 : K.lookup f27 = some ⟨oc27, od27, .func (PySem.W.fnOf "__init__" "Share.__init__" (defArgs s_Share___init__) (defBody s_Share___init__) (defScope s_Share___init__) .none kV27 dc27 pm27 an27 (.ref zq_Share___init__) ct27), sl27⟩)
    (c27 : PySem.W.codeIn K (.ref zq_Share___init__) "Share.__init__" = true)
    (lq27 : K.lookup zq_Share___init__ = some ⟨.type "code", qo_Share___init__, .fields qv_Share___init__, qs_Share___init__⟩)
    (lp27 : qv_Share___init__[11]? = some (.ref zp_Share___init__))
    (lh27 : PySem.W.codeHdIn K zq_Share___init__ zp_Share___init__ = true)
    (ln27 : K.lookup zp_Share___init__ = none)
    (lt27 : h.get? zp_Share___init__ = some { cls := .none, data := .fields #[] })
    (k27 : PySem.W.keepIn K (.ref f27) = true)
    (a28 : PySem.W.nsIn K mainGlobals "read_share" = some (some (.ref f28)))
    (l28 : K.lookup f28 = some ⟨oc28, od28, .func (PySem.W.fnOf "read_share" "read_share" (defArgs s_read_share) (defBody s_read_share) (defScope s_read_share) .none kV28 dc28 pm28 an28 cd28 ct28), sl28⟩)
    (c28 : PySem.W.codeIn K cd28 "read_share" = true)
    (k28 : PySem.W.keepIn K (.ref f28) = true)
    (a29 : PySem.W.nsIn K mainGlobals "law" = some (some (.ref f29)))
    (l29 : K.lookup f29 = some ⟨oc29, od29, .func (PySem.W.fnOf "law" "law" (defArgs s_law) (defBody s_law) (defScope s_law) .none kV29 dc29 pm29 an29 cd29 ct29), sl29⟩)
    (c29 : PySem.W.codeIn K cd29 "law" = true)
    (k29 : PySem.W.keepIn K (.ref f29) = true)
    (pg_Share : PySem.W.plainGet K c_Share Str.empty = true)
    (hD_Share : PySem.W.hasDictIn K c_Share = true)
    (po_Share : PySem.W.plainOver K c_Share = true)
    (sa_Share : PySem.W.findIn K (.ref c_Share) "__setattr__" = some (some (.builtin "object.__setattr__")))
    (mm_Share : PySem.W.makesIn K c_Share = true)
    (mi_Share : PySem.W.findIn K (.ref c_Share) "__init__" = some (some (.ref f27)))
    (mf_Share : PySem.W.isFn K (.ref f27) = true)
    (mp_Share : PySem.W.keepIn K (.ref c_Share) = true)
    (ta_Share___str__ : PySem.W.findIn K (.ref c_Share) "__str__" = some (some (.ref f17)))
    (tf_Share___str__ : PySem.W.isFn K (.ref f17) = true)
    (ta_Share_spans : PySem.W.findIn K (.ref c_Share) "spans" = some (some (.ref f5)))
    (tf_Share_spans : PySem.W.isFn K (.ref f5) = true)
    (na_Share_parts : PySem.W.findIn K (.ref c_Share) "parts" = some none)
    (z_abs : PySem.W.nsIn K mainGlobals "abs" = some none)
    (z_all : PySem.W.nsIn K mainGlobals "all" = some none)
    (z_int : PySem.W.nsIn K mainGlobals "int" = some none)
    (z_isinstance : PySem.W.nsIn K mainGlobals "isinstance" = some none)
    (z_len : PySem.W.nsIn K mainGlobals "len" = some none)
    (z_list : PySem.W.nsIn K mainGlobals "list" = some none)
    (z_max : PySem.W.nsIn K mainGlobals "max" = some none)
    (z_min : PySem.W.nsIn K mainGlobals "min" = some none)
    (z_range : PySem.W.nsIn K mainGlobals "range" = some none)
    (z_sorted : PySem.W.nsIn K mainGlobals "sorted" = some none)
    (z_str : PySem.W.nsIn K mainGlobals "str" = some none)
    (z_zip : PySem.W.nsIn K mainGlobals "zip" = some none)
    (m_BEGIN : PySem.W.nsIn K mainGlobals "BEGIN" = some (some (.ref a_BEGIN_0)))
    (l_a_BEGIN_0 : K.lookup a_BEGIN_0 = some ⟨.type "tuple", a_BEGIN_0d, .seq ([(.int 0 a_BEGIN_0t0), (.int 1 a_BEGIN_0t1)] : List Value).toArray a_BEGIN_0n, a_BEGIN_0s⟩)
    (m_END : PySem.W.nsIn K mainGlobals "END" = some (some (.ref a_END_0)))
    (l_a_END_0 : K.lookup a_END_0 = some ⟨.type "tuple", a_END_0d, .seq ([(.int 1 a_END_0t0), (.int 1 a_END_0t1)] : List Value).toArray a_END_0n, a_END_0s⟩)
    (m_MOST_FIGURES : PySem.W.nsIn K mainGlobals "MOST_FIGURES" = some (some (.int 40 t_MOST_FIGURES)))
    (x_NoFraction : PySem.W.excIn K c_NoFraction [.type "ValueError", .type "Exception", .type "BaseException", .type "object"] "ValueError.__new__" = true)
    (k_NoFraction : PySem.W.keepIn K (.ref c_NoFraction) = true)
    (x_NoSpan : PySem.W.excIn K c_NoSpan [.type "ValueError", .type "Exception", .type "BaseException", .type "object"] "ValueError.__new__" = true)
    (k_NoSpan : PySem.W.keepIn K (.ref c_NoSpan) = true)
    (x_NoText : PySem.W.excIn K c_NoText [.type "ValueError", .type "Exception", .type "BaseException", .type "object"] "ValueError.__new__" = true)
    (k_NoText : PySem.W.keepIn K (.ref c_NoText) = true)
    (sb_CrumbError : PySem.W.subIn K (.ref c_CrumbError) (.type "BaseException") = some true)
    (t_CrumbError : PySem.W.typeIn K (.ref c_CrumbError) = some (.type "type"))
    (sb_NoFraction : PySem.W.subIn K (.ref c_NoFraction) (.type "BaseException") = some true)
    (t_NoFraction : PySem.W.typeIn K (.ref c_NoFraction) = some (.type "type"))
    (sb_NoText : PySem.W.subIn K (.ref c_NoText) (.type "BaseException") = some true)
    (t_NoText : PySem.W.typeIn K (.ref c_NoText) = some (.type "type"))
    (sb_NoSpan : PySem.W.subIn K (.ref c_NoSpan) (.type "BaseException") = some true)
    (t_NoSpan : PySem.W.typeIn K (.ref c_NoSpan) = some (.type "type"))
    (hd_CrumbError : PySem.W.hasDictIn K c_CrumbError = true)
    (su_CrumbError_CrumbError : PySem.W.subIn K (.ref c_CrumbError) (.ref c_CrumbError) = some true)
    (su_NoFraction_CrumbError : PySem.W.subIn K (.ref c_NoFraction) (.ref c_CrumbError) = some true)
    (su_NoText_CrumbError : PySem.W.subIn K (.ref c_NoText) (.ref c_CrumbError) = some true)
    (su_NoTable_CrumbError : PySem.W.subIn K (.ref c_NoTable) (.ref c_CrumbError) = some true)
    (su_NoSpan_CrumbError : PySem.W.subIn K (.ref c_NoSpan) (.ref c_CrumbError) = some true)
    (hd_NoSpan : PySem.W.hasDictIn K c_NoSpan = true)
    (su_CrumbError_NoSpan : PySem.W.subIn K (.ref c_CrumbError) (.ref c_NoSpan) = some false)
    (su_NoFraction_NoSpan : PySem.W.subIn K (.ref c_NoFraction) (.ref c_NoSpan) = some false)
    (su_NoText_NoSpan : PySem.W.subIn K (.ref c_NoText) (.ref c_NoSpan) = some false)
    (su_NoTable_NoSpan : PySem.W.subIn K (.ref c_NoTable) (.ref c_NoSpan) = some false)
    (su_NoSpan_NoSpan : PySem.W.subIn K (.ref c_NoSpan) (.ref c_NoSpan) = some true)
    (hg_CrumbError : PySem.W.findIn K (.ref c_CrumbError) "__getattribute__" = some (some (.builtin "BaseException.__getattribute__")))
    (hk_CrumbError : PySem.W.findIn K (.ref c_CrumbError) "__getattr__" = some none)
    (hs_CrumbError : PySem.W.subIn K (.ref c_CrumbError) (.type "BaseException") = some true)
    (hh_CrumbError : PySem.W.hasDictIn K c_CrumbError = true)
    (ha_CrumbError : PySem.W.findIn K (.ref c_CrumbError) "__class__" = some (some (.builtin "object.__class__")))
    (hn_CrumbError : PySem.W.specialIn K (.builtin "object.__class__") "__get__" = some (some (.builtin "getset_descriptor.__get__")))
    (ht_CrumbError : PySem.W.takesIn K (.builtin "object.__class__") = some true)
    (hm_CrumbError : PySem.W.mroIn K c_CrumbError (.type "object") = some true)
    (hg_NoFraction : PySem.W.findIn K (.ref c_NoFraction) "__getattribute__" = some (some (.builtin "BaseException.__getattribute__")))
    (hk_NoFraction : PySem.W.findIn K (.ref c_NoFraction) "__getattr__" = some none)
    (hs_NoFraction : PySem.W.subIn K (.ref c_NoFraction) (.type "BaseException") = some true)
    (hh_NoFraction : PySem.W.hasDictIn K c_NoFraction = true)
    (ha_NoFraction : PySem.W.findIn K (.ref c_NoFraction) "__class__" = some (some (.builtin "object.__class__")))
    (hn_NoFraction : PySem.W.specialIn K (.builtin "object.__class__") "__get__" = some (some (.builtin "getset_descriptor.__get__")))
    (ht_NoFraction : PySem.W.takesIn K (.builtin "object.__class__") = some true)
    (hm_NoFraction : PySem.W.mroIn K c_NoFraction (.type "object") = some true)
    (hg_NoText : PySem.W.findIn K (.ref c_NoText) "__getattribute__" = some (some (.builtin "BaseException.__getattribute__")))
    (hk_NoText : PySem.W.findIn K (.ref c_NoText) "__getattr__" = some none)
    (hs_NoText : PySem.W.subIn K (.ref c_NoText) (.type "BaseException") = some true)
    (hh_NoText : PySem.W.hasDictIn K c_NoText = true)
    (ha_NoText : PySem.W.findIn K (.ref c_NoText) "__class__" = some (some (.builtin "object.__class__")))
    (hn_NoText : PySem.W.specialIn K (.builtin "object.__class__") "__get__" = some (some (.builtin "getset_descriptor.__get__")))
    (ht_NoText : PySem.W.takesIn K (.builtin "object.__class__") = some true)
    (hm_NoText : PySem.W.mroIn K c_NoText (.type "object") = some true)
    (hg_NoTable : PySem.W.findIn K (.ref c_NoTable) "__getattribute__" = some (some (.builtin "BaseException.__getattribute__")))
    (hk_NoTable : PySem.W.findIn K (.ref c_NoTable) "__getattr__" = some none)
    (hs_NoTable : PySem.W.subIn K (.ref c_NoTable) (.type "BaseException") = some true)
    (hh_NoTable : PySem.W.hasDictIn K c_NoTable = true)
    (ha_NoTable : PySem.W.findIn K (.ref c_NoTable) "__class__" = some (some (.builtin "object.__class__")))
    (hn_NoTable : PySem.W.specialIn K (.builtin "object.__class__") "__get__" = some (some (.builtin "getset_descriptor.__get__")))
    (ht_NoTable : PySem.W.takesIn K (.builtin "object.__class__") = some true)
    (hm_NoTable : PySem.W.mroIn K c_NoTable (.type "object") = some true)
    (hg_NoSpan : PySem.W.findIn K (.ref c_NoSpan) "__getattribute__" = some (some (.builtin "BaseException.__getattribute__")))
    (hk_NoSpan : PySem.W.findIn K (.ref c_NoSpan) "__getattr__" = some none)
    (hs_NoSpan : PySem.W.subIn K (.ref c_NoSpan) (.type "BaseException") = some true)
    (hh_NoSpan : PySem.W.hasDictIn K c_NoSpan = true)
    (ha_NoSpan : PySem.W.findIn K (.ref c_NoSpan) "__class__" = some (some (.builtin "object.__class__")))
    (hn_NoSpan : PySem.W.specialIn K (.builtin "object.__class__") "__get__" = some (some (.builtin "getset_descriptor.__get__")))
    (ht_NoSpan : PySem.W.takesIn K (.builtin "object.__class__") = some true)
    (hm_NoSpan : PySem.W.mroIn K c_NoSpan (.type "object") = some true)
    (ki_CrumbError_NoFraction : PySem.W.kitOne K (.ref c_CrumbError) (.ref c_NoFraction) = some false)
    (ki_NoFraction_NoFraction : PySem.W.kitOne K (.ref c_NoFraction) (.ref c_NoFraction) = some true)
    (ki_NoText_NoFraction : PySem.W.kitOne K (.ref c_NoText) (.ref c_NoFraction) = some false)
    (ki_NoTable_NoFraction : PySem.W.kitOne K (.ref c_NoTable) (.ref c_NoFraction) = some false)
    (ki_NoSpan_NoFraction : PySem.W.kitOne K (.ref c_NoSpan) (.ref c_NoFraction) = some false)
    (ki_CrumbError_NoSpan : PySem.W.kitOne K (.ref c_CrumbError) (.ref c_NoSpan) = some false)
    (ki_NoFraction_NoSpan : PySem.W.kitOne K (.ref c_NoFraction) (.ref c_NoSpan) = some false)
    (ki_NoText_NoSpan : PySem.W.kitOne K (.ref c_NoText) (.ref c_NoSpan) = some false)
    (ki_NoTable_NoSpan : PySem.W.kitOne K (.ref c_NoTable) (.ref c_NoSpan) = some false)
    (ki_NoSpan_NoSpan : PySem.W.kitOne K (.ref c_NoSpan) (.ref c_NoSpan) = some true)
    (ki_CrumbError_NoTable : PySem.W.kitOne K (.ref c_CrumbError) (.ref c_NoTable) = some false)
    (ki_NoFraction_NoTable : PySem.W.kitOne K (.ref c_NoFraction) (.ref c_NoTable) = some false)
    (ki_NoText_NoTable : PySem.W.kitOne K (.ref c_NoText) (.ref c_NoTable) = some false)
    (ki_NoTable_NoTable : PySem.W.kitOne K (.ref c_NoTable) (.ref c_NoTable) = some true)
    (ki_NoSpan_NoTable : PySem.W.kitOne K (.ref c_NoSpan) (.ref c_NoTable) = some false)
    (ki_CrumbError_NoText : PySem.W.kitOne K (.ref c_CrumbError) (.ref c_NoText) = some false)
    (ki_NoFraction_NoText : PySem.W.kitOne K (.ref c_NoFraction) (.ref c_NoText) = some false)
    (ki_NoText_NoText : PySem.W.kitOne K (.ref c_NoText) (.ref c_NoText) = some true)
    (ki_NoTable_NoText : PySem.W.kitOne K (.ref c_NoTable) (.ref c_NoText) = some false)
    (ki_NoSpan_NoText : PySem.W.kitOne K (.ref c_NoSpan) (.ref c_NoText) = some false)
    (nd : ([(zq_Share___init__, zp_Share___init__)] : List (Addr × Addr)).map (·.2) |>.Nodup) :
    ∃ (fd : FuncData) (cs : List (Addr × Addr)), (∀ p ∈ cs, h.get? p.2 = some { cls := .none, data := .fields #[] }) ∧ (∀ p ∈ cs, K.lookup p.2 = none) ∧ (∀ p ∈ cs, PySem.W.CodeHd h p.1 p.2) ∧ (∀ (s : Shared) (v : Value), BindsTo s fd ⟨[v], []⟩ [("_law_script", v)]) ∧ ∀ base : Heap, K.In base → base.Ns mainGlobals mg → (∀ p ∈ cs, LamX.TabB base mg p.1 p.2) → FnOk l.prog w K mg base (L2.CX l.prog w) 8 fa fd ["_law_script"] (spLawT K (cs.map (·.2))) := by
  have e := hfa.symm.trans (PySem.W.mg_of X G a29)
  cases e
  have ecCrumbError : ExcC K c_CrumbError := ⟨hg_CrumbError, hk_CrumbError, hs_CrumbError, hh_CrumbError, ha_CrumbError, hn_CrumbError, ht_CrumbError, hm_CrumbError⟩
  have ecNoFraction : ExcC K c_NoFraction := ⟨hg_NoFraction, hk_NoFraction, hs_NoFraction, hh_NoFraction, ha_NoFraction, hn_NoFraction, ht_NoFraction, hm_NoFraction⟩
  have ecNoText : ExcC K c_NoText := ⟨hg_NoText, hk_NoText, hs_NoText, hh_NoText, ha_NoText, hn_NoText, ht_NoText, hm_NoText⟩
  have ecNoTable : ExcC K c_NoTable := ⟨hg_NoTable, hk_NoTable, hs_NoTable, hh_NoTable, ha_NoTable, hn_NoTable, ht_NoTable, hm_NoTable⟩
  have ecNoSpan : ExcC K c_NoSpan := ⟨hg_NoSpan, hk_NoSpan, hs_NoSpan, hh_NoSpan, ha_NoSpan, hn_NoSpan, ht_NoSpan, hm_NoSpan⟩
  let A : Adr := { c_CrumbError := c_CrumbError, c_NoFraction := c_NoFraction, c_NoText := c_NoText, c_NoTable := c_NoTable, c_NoSpan := c_NoSpan, c_Share := c_Share, f_divisor := f0, d_divisor := (PySem.W.fnOf "divisor" "divisor" (defArgs s_divisor) (defBody s_divisor) (defScope s_divisor) .none kV0 dc0 pm0 an0 cd0 ct0), f_is_less := f1, d_is_less := (PySem.W.fnOf "is_less" "is_less" (defArgs s_is_less) (defBody s_is_less) (defScope s_is_less) .none kV1 dc1 pm1 an1 cd1 ct1), f_fraction_text := f2, d_fraction_text := (PySem.W.fnOf "fraction_text" "fraction_text" (defArgs s_fraction_text) (defBody s_fraction_text) (defScope s_fraction_text) .none kV2 dc2 pm2 an2 cd2 ct2), f_is_figures := f3, d_is_figures := (PySem.W.fnOf "is_figures" "is_figures" (defArgs s_is_figures) (defBody s_is_figures) (defScope s_is_figures) .none kV3 dc3 pm3 an3 cd3 ct3), f_spans_where := f4, d_spans_where := (PySem.W.fnOf "spans_where" "spans_where" (defArgs s_spans_where) (defBody s_spans_where) (defScope s_spans_where) .none kV4 dc4 pm4 an4 cd4 ct4), f_Share_spans := f5, d_Share_spans := (PySem.W.fnOf "spans" "Share.spans" (defArgs s_Share_spans) (defBody s_Share_spans) (defScope s_Share_spans) .none kV5 dc5 pm5 an5 cd5 ct5), f_law_box := f6, d_law_box := (PySem.W.fnOf "_law_box" "_law_box" (defArgs s_law_box) (defBody s_law_box) (defScope s_law_box) .none kV6 dc6 pm6 an6 cd6 ct6), f_law_mixed := f7, d_law_mixed := (PySem.W.fnOf "_law_mixed" "_law_mixed" (defArgs s_law_mixed) (defBody s_law_mixed) (defScope s_law_mixed) .none kV7 dc7 pm7 an7 cd7 ct7), f_law_low := f8, d_law_low := (PySem.W.fnOf "_law_low" "_law_low" (defArgs s_law_low) (defBody s_law_low) (defScope s_law_low) .none kV8 dc8 pm8 an8 cd8 ct8), f_law_less := f9, d_law_less := (PySem.W.fnOf "_law_less" "_law_less" (defArgs s_law_less) (defBody s_law_less) (defScope s_law_less) .none kV9 dc9 pm9 an9 cd9 ct9), f_law_joined := f10, d_law_joined := (PySem.W.fnOf "_law_joined" "_law_joined" (defArgs s_law_joined) (defBody s_law_joined) (defScope s_law_joined) .none kV10 dc10 pm10 an10 cd10 ct10), f_law_number := f11, d_law_number := (PySem.W.fnOf "_law_number" "_law_number" (defArgs s_law_number) (defBody s_law_number) (defScope s_law_number) .none kV11 dc11 pm11 an11 cd11 ct11), f_law_figures := f12, d_law_figures := (PySem.W.fnOf "_law_figures" "_law_figures" (defArgs s_law_figures) (defBody s_law_figures) (defScope s_law_figures) .none kV12 dc12 pm12 an12 cd12 ct12), f_fraction_of := f13, d_fraction_of := (PySem.W.fnOf "fraction_of" "fraction_of" (defArgs s_fraction_of) (defBody s_fraction_of) (defScope s_fraction_of) (.ref T13) kV13 dc13 pm13 an13 cd13 ct13), f_ask_span := f14, d_ask_span := (PySem.W.fnOf "ask_span" "ask_span" (defArgs s_ask_span) (defBody s_ask_span) (defScope s_ask_span) .none kV14 dc14 pm14 an14 cd14 ct14), f_rising_places := f15, d_rising_places := (PySem.W.fnOf "rising_places" "rising_places" (defArgs s_rising_places) (defBody s_rising_places) (defScope s_rising_places) .none kV15 dc15 pm15 an15 cd15 ct15), f_covers := f16, d_covers := (PySem.W.fnOf "covers" "covers" (defArgs s_covers) (defBody s_covers) (defScope s_covers) .none kV16 dc16 pm16 an16 cd16 ct16), f_Share___str__ := f17, d_Share___str__ := (PySem.W.fnOf "__str__" "Share.__str__" (defArgs s_Share___str__) (defBody s_Share___str__) (defScope s_Share___str__) .none kV17 dc17 pm17 an17 cd17 ct17), f_law_take := f18, d_law_take := (PySem.W.fnOf "_law_take" "_law_take" (defArgs s_law_take) (defBody s_law_take) (defScope s_law_take) .none kV18 dc18 pm18 an18 cd18 ct18), f_law_told := f19, d_law_told := (PySem.W.fnOf "_law_told" "_law_told" (defArgs s_law_told) (defBody s_law_told) (defScope s_law_told) .none kV19 dc19 pm19 an19 cd19 ct19), f_law_text := f20, d_law_text := (PySem.W.fnOf "_law_text" "_law_text" (defArgs s_law_text) (defBody s_law_text) (defScope s_law_text) .none kV20 dc20 pm20 an20 cd20 ct20), f_law_read_place := f21, d_law_read_place := (PySem.W.fnOf "_law_read_place" "_law_read_place" (defArgs s_law_read_place) (defBody s_law_read_place) (defScope s_law_read_place) .none kV21 dc21 pm21 an21 cd21 ct21), f_read_fraction := f22, d_read_fraction := (PySem.W.fnOf "read_fraction" "read_fraction" (defArgs s_read_fraction) (defBody s_read_fraction) (defScope s_read_fraction) .none kV22 dc22 pm22 an22 cd22 ct22), f_law_pairs := f23, d_law_pairs := (PySem.W.fnOf "_law_pairs" "_law_pairs" (defArgs s_law_pairs) (defBody s_law_pairs) (defScope s_law_pairs) .none kV23 dc23 pm23 an23 cd23 ct23), f_law_changed := f24, d_law_changed := (PySem.W.fnOf "_law_changed" "_law_changed" (defArgs s_law_changed) (defBody s_law_changed) (defScope s_law_changed) .none kV24 dc24 pm24 an24 cd24 ct24), f_law_read := f25, d_law_read := (PySem.W.fnOf "_law_read" "_law_read" (defArgs s_law_read) (defBody s_law_read) (defScope s_law_read) .none kV25 dc25 pm25 an25 cd25 ct25), f_read_span := f26, d_read_span := (PySem.W.fnOf "read_span" "read_span" (defArgs s_read_span) (defBody s_read_span) (defScope s_read_span) .none kV26 dc26 pm26 an26 cd26 ct26), q_Share___init__ := zq_Share___init__, p_Share___init__ := zp_Share___init__, f_Share___init__ := f27, d_Share___init__ := (PySem.W.fnOf "__init__" "Share.__init__" (defArgs s_Share___init__) (defBody s_Share___init__) (defScope s_Share___init__) .none kV27 dc27 pm27 an27 (.ref zq_Share___init__) ct27), f_read_share := f28, d_read_share := (PySem.W.fnOf "read_share" "read_share" (defArgs s_read_share) (defBody s_read_share) (defScope s_read_share) .none kV28 dc28 pm28 an28 cd28 ct28), f_law := fa, d_law := (PySem.W.fnOf "law" "law" (defArgs s_law) (defBody s_law) (defScope s_law) .none kV29 dc29 pm29 an29 cd29 ct29), a_BEGIN := a_BEGIN_0, a_END := a_END_0, t_MOST_FIGURES := t_MOST_FIGURES }
  have T : ∀ base : Heap, (∀ p ∈ ([(zq_Share___init__, zp_Share___init__)] : List (Addr × Addr)), LamX.TabB base mg p.1 p.2) → Txt K mg base A := fun base hT => {
    g_CrumbError := PySem.W.mg_of X G g_CrumbError
    g_NoFraction := PySem.W.mg_of X G g_NoFraction
    g_NoText := PySem.W.mg_of X G g_NoText
    g_NoTable := PySem.W.mg_of X G g_NoTable
    g_NoSpan := PySem.W.mg_of X G g_NoSpan
    g_Share := PySem.W.mg_of X G g_Share
    g_divisor := PySem.W.mg_of X G a0
    F_divisor := fun_mk (st := s_divisor) l0 c0 k0
    b_divisor := (fun_mk (st := s_divisor) l0 c0 k0).binds (ps := p_divisor) fun _ _ _ _ _ _ us hl => match us, hl with | [_, _], _ => rfl
    g_is_less := PySem.W.mg_of X G a1
    F_is_less := fun_mk (st := s_is_less) l1 c1 k1
    b_is_less := (fun_mk (st := s_is_less) l1 c1 k1).binds (ps := p_is_less) fun _ _ _ _ _ _ us hl => match us, hl with | [_, _], _ => rfl
    g_fraction_text := PySem.W.mg_of X G a2
    F_fraction_text := fun_mk (st := s_fraction_text) l2 c2 k2
    b_fraction_text := (fun_mk (st := s_fraction_text) l2 c2 k2).binds (ps := p_fraction_text) fun _ _ _ _ _ _ us hl => match us, hl with | [_], _ => rfl
    g_is_figures := PySem.W.mg_of X G a3
    F_is_figures := fun_mk (st := s_is_figures) l3 c3 k3
    b_is_figures := (fun_mk (st := s_is_figures) l3 c3 k3).binds (ps := p_is_figures) fun _ _ _ _ _ _ us hl => match us, hl with | [_], _ => rfl
    g_spans_where := PySem.W.mg_of X G a4
    F_spans_where := fun_mk (st := s_spans_where) l4 c4 k4
    b_spans_where := (fun_mk (st := s_spans_where) l4 c4 k4).binds (ps := p_spans_where) fun _ _ _ _ _ _ us hl => match us, hl with | [_, _], _ => rfl
    F_Share_spans := fun_mk (st := s_Share_spans) l5 c5 k5
    b_Share_spans := (fun_mk (st := s_Share_spans) l5 c5 k5).binds (ps := p_Share_spans) fun _ _ _ _ _ _ us hl => match us, hl with | [_], _ => rfl
    g_law_box := PySem.W.mg_of X G a6
    F_law_box := fun_mk (st := s_law_box) l6 c6 k6
    b_law_box := (fun_mk (st := s_law_box) l6 c6 k6).binds (ps := p_law_box) fun _ _ _ _ _ _ us hl => match us, hl with | [_], _ => rfl
    g_law_mixed := PySem.W.mg_of X G a7
    F_law_mixed := fun_mk (st := s_law_mixed) l7 c7 k7
    b_law_mixed := (fun_mk (st := s_law_mixed) l7 c7 k7).binds (ps := p_law_mixed) fun _ _ _ _ _ _ us hl => match us, hl with | [_, _], _ => rfl
    g_law_low := PySem.W.mg_of X G a8
    F_law_low := fun_mk (st := s_law_low) l8 c8 k8
    b_law_low := (fun_mk (st := s_law_low) l8 c8 k8).binds (ps := p_law_low) fun _ _ _ _ _ _ us hl => match us, hl with | [_, _], _ => rfl
    g_law_less := PySem.W.mg_of X G a9
    F_law_less := fun_mk (st := s_law_less) l9 c9 k9
    b_law_less := (fun_mk (st := s_law_less) l9 c9 k9).binds (ps := p_law_less) fun _ _ _ _ _ _ us hl => match us, hl with | [_, _], _ => rfl
    g_law_joined := PySem.W.mg_of X G a10
    F_law_joined := fun_mk (st := s_law_joined) l10 c10 k10
    b_law_joined := (fun_mk (st := s_law_joined) l10 c10 k10).binds (ps := p_law_joined) fun _ _ _ _ _ _ us hl => match us, hl with | [_], _ => rfl
    g_law_number := PySem.W.mg_of X G a11
    F_law_number := fun_mk (st := s_law_number) l11 c11 k11
    b_law_number := (fun_mk (st := s_law_number) l11 c11 k11).binds (ps := p_law_number) fun _ _ _ _ _ _ us hl => match us, hl with | [_], _ => rfl
    g_law_figures := PySem.W.mg_of X G a12
    F_law_figures := fun_mk (st := s_law_figures) l12 c12 k12
    b_law_figures := (fun_mk (st := s_law_figures) l12 c12 k12).binds (ps := p_law_figures) fun _ _ _ _ _ _ us hl => match us, hl with | [_], _ => rfl
    g_fraction_of := PySem.W.mg_of X G a13
    F_fraction_of := ⟨⟨_, _, _, _, _, _, _, _, _, _, rfl, l13, c13, .inr ⟨by simp, _, _, _, _, rfl, lT13, rfl, (.cons ⟨_, rfl⟩ .nil)⟩, .inl rfl⟩, k13⟩
    g_ask_span := PySem.W.mg_of X G a14
    F_ask_span := fun_mk (st := s_ask_span) l14 c14 k14
    b_ask_span := (fun_mk (st := s_ask_span) l14 c14 k14).binds (ps := p_ask_span) fun _ _ _ _ _ _ us hl => match us, hl with | [_, _], _ => rfl
    g_rising_places := PySem.W.mg_of X G a15
    F_rising_places := fun_mk (st := s_rising_places) l15 c15 k15
    b_rising_places := (fun_mk (st := s_rising_places) l15 c15 k15).binds (ps := p_rising_places) fun _ _ _ _ _ _ us hl => match us, hl with | [_], _ => rfl
    g_covers := PySem.W.mg_of X G a16
    F_covers := fun_mk (st := s_covers) l16 c16 k16
    b_covers := (fun_mk (st := s_covers) l16 c16 k16).binds (ps := p_covers) fun _ _ _ _ _ _ us hl => match us, hl with | [_, _, _], _ => rfl
    F_Share___str__ := fun_mk (st := s_Share___str__) l17 c17 k17
    b_Share___str__ := (fun_mk (st := s_Share___str__) l17 c17 k17).binds (ps := p_Share___str__) fun _ _ _ _ _ _ us hl => match us, hl with | [_], _ => rfl
    g_law_take := PySem.W.mg_of X G a18
    F_law_take := fun_mk (st := s_law_take) l18 c18 k18
    b_law_take := (fun_mk (st := s_law_take) l18 c18 k18).binds (ps := p_law_take) fun _ _ _ _ _ _ us hl => match us, hl with | [_, _], _ => rfl
    g_law_told := PySem.W.mg_of X G a19
    F_law_told := fun_mk (st := s_law_told) l19 c19 k19
    b_law_told := (fun_mk (st := s_law_told) l19 c19 k19).binds (ps := p_law_told) fun _ _ _ _ _ _ us hl => match us, hl with | [_, _], _ => rfl
    g_law_text := PySem.W.mg_of X G a20
    F_law_text := fun_mk (st := s_law_text) l20 c20 k20
    b_law_text := (fun_mk (st := s_law_text) l20 c20 k20).binds (ps := p_law_text) fun _ _ _ _ _ _ us hl => match us, hl with | [_], _ => rfl
    g_law_read_place := PySem.W.mg_of X G a21
    F_law_read_place := fun_mk (st := s_law_read_place) l21 c21 k21
    b_law_read_place := (fun_mk (st := s_law_read_place) l21 c21 k21).binds (ps := p_law_read_place) fun _ _ _ _ _ _ us hl => match us, hl with | [_], _ => rfl
    g_read_fraction := PySem.W.mg_of X G a22
    F_read_fraction := fun_mk (st := s_read_fraction) l22 c22 k22
    b_read_fraction := (fun_mk (st := s_read_fraction) l22 c22 k22).binds (ps := p_read_fraction) fun _ _ _ _ _ _ us hl => match us, hl with | [_], _ => rfl
    g_law_pairs := PySem.W.mg_of X G a23
    F_law_pairs := fun_mk (st := s_law_pairs) l23 c23 k23
    b_law_pairs := (fun_mk (st := s_law_pairs) l23 c23 k23).binds (ps := p_law_pairs) fun _ _ _ _ _ _ us hl => match us, hl with | [_, _], _ => rfl
    g_law_changed := PySem.W.mg_of X G a24
    F_law_changed := fun_mk (st := s_law_changed) l24 c24 k24
    b_law_changed := (fun_mk (st := s_law_changed) l24 c24 k24).binds (ps := p_law_changed) fun _ _ _ _ _ _ us hl => match us, hl with | [_, _], _ => rfl
    g_law_read := PySem.W.mg_of X G a25
    F_law_read := fun_mk (st := s_law_read) l25 c25 k25
    b_law_read := (fun_mk (st := s_law_read) l25 c25 k25).binds (ps := p_law_read) fun _ _ _ _ _ _ us hl => match us, hl with | [_], _ => rfl
    g_read_span := PySem.W.mg_of X G a26
    F_read_span := fun_mk (st := s_read_span) l26 c26 k26
    b_read_span := (fun_mk (st := s_read_span) l26 c26 k26).binds (ps := p_read_span) fun _ _ _ _ _ _ us hl => match us, hl with | [_], _ => rfl
    tb_Share___init__ := hT (zq_Share___init__, zp_Share___init__) (by simp)
    F_Share___init__ := ⟨⟨_, _, _, _, _, _, _, _, rfl, l27, c27⟩, k27⟩
    b_Share___init__ := (fun_mk (st := s_Share___init__) l27 c27 k27).binds (ps := p_Share___init__) fun _ _ _ _ _ _ us hl => match us, hl with | [_, _], _ => rfl
    g_read_share := PySem.W.mg_of X G a28
    F_read_share := fun_mk (st := s_read_share) l28 c28 k28
    b_read_share := (fun_mk (st := s_read_share) l28 c28 k28).binds (ps := p_read_share) fun _ _ _ _ _ _ us hl => match us, hl with | [_], _ => rfl
    g_law := PySem.W.mg_of X G a29
    F_law := fun_mk (st := s_law) l29 c29 k29
    b_law := (fun_mk (st := s_law) l29 c29 k29).binds (ps := p_law) fun _ _ _ _ _ _ us hl => match us, hl with | [_], _ => rfl
    cl_Share := ⟨pg_Share, hD_Share, po_Share, sa_Share⟩
    mk_Share := ⟨mm_Share, mi_Share, mf_Share, mp_Share⟩
    mt_Share___str__ := ⟨ta_Share___str__, tf_Share___str__, k17⟩
    mt_Share_spans := ⟨ta_Share_spans, tf_Share_spans, k5⟩
    fo_parts := ⟨fun c i h => match c, h with
      | 5, h => by cases h; exact ⟨rfl, nd_Share, nl_Share, ⟨pg_Share, hD_Share, po_Share, sa_Share⟩, na_Share_parts⟩⟩
    B_Share___init___2_ := callB_n fun us ws h1 h2 => match us, h1, ws, h2 with | [_, _], _, [], _ => rfl
    B_Share_spans_1_ := callB_n fun us ws h1 h2 => match us, h1, ws, h2 with | [_], _, [], _ => rfl
    B_fraction_of_2_ := callB_d lT13 rfl (.cons ⟨_, rfl⟩ .nil) fun us ws h1 h2 => match us, h1, ws, h2 with | [_, _], _, [], _ => ⟨_, rfl, rfl⟩
    z_abs := PySem.W.mg_none_of X G z_abs
    z_all := PySem.W.mg_none_of X G z_all
    z_int := PySem.W.mg_none_of X G z_int
    z_isinstance := PySem.W.mg_none_of X G z_isinstance
    z_len := PySem.W.mg_none_of X G z_len
    z_list := PySem.W.mg_none_of X G z_list
    z_max := PySem.W.mg_none_of X G z_max
    z_min := PySem.W.mg_none_of X G z_min
    z_range := PySem.W.mg_none_of X G z_range
    z_sorted := PySem.W.mg_none_of X G z_sorted
    z_str := PySem.W.mg_none_of X G z_str
    z_zip := PySem.W.mg_none_of X G z_zip
    m_BEGIN := PySem.W.mg_of X G m_BEGIN
    i_BEGIN := fun as H => (.tup (xs := [(.int 0), (.int 1)]) (.inr ⟨_, _, _, l_a_BEGIN_0, rfl, rfl, show 2 ≤ sizeLine by decide, (.cons ⟨_, rfl⟩ (.cons ⟨_, rfl⟩ .nil))⟩) (.cons (.int _) (.cons (.int _) .nil)))
    m_END := PySem.W.mg_of X G m_END
    i_END := fun as H => (.tup (xs := [(.int 1), (.int 1)]) (.inr ⟨_, _, _, l_a_END_0, rfl, rfl, show 2 ≤ sizeLine by decide, (.cons ⟨_, rfl⟩ (.cons ⟨_, rfl⟩ .nil))⟩) (.cons (.int _) (.cons (.int _) .nil)))
    m_MOST_FIGURES := PySem.W.mg_of X G m_MOST_FIGURES
    x_NoFraction := x_NoFraction
    k_NoFraction := k_NoFraction
    x_NoSpan := x_NoSpan
    k_NoSpan := k_NoSpan
    x_NoText := x_NoText
    k_NoText := k_NoText
    sb_NoFraction := sb_NoFraction
    t_NoFraction := t_NoFraction
    sb_NoText := sb_NoText
    t_NoText := t_NoText
    sb_NoSpan := sb_NoSpan
    t_NoSpan := t_NoSpan
    ex_CrumbError := fun c b h => match c, h with
      | 0, h => by cases h; exact PySem.W.exm_ref sb_CrumbError hd_CrumbError t_CrumbError su_CrumbError_CrumbError
      | 1, h => by cases h; exact PySem.W.exm_ref sb_CrumbError hd_CrumbError t_CrumbError su_NoFraction_CrumbError
      | 2, h => by cases h; exact PySem.W.exm_ref sb_CrumbError hd_CrumbError t_CrumbError su_NoText_CrumbError
      | 3, h => by cases h; exact PySem.W.exm_ref sb_CrumbError hd_CrumbError t_CrumbError su_NoTable_CrumbError
      | 4, h => by cases h; exact PySem.W.exm_ref sb_CrumbError hd_CrumbError t_CrumbError su_NoSpan_CrumbError
    ec_CrumbError := fun c h => match c, h with
      | 0, h => ecCrumbError
      | 1, h => ecNoFraction
      | 2, h => ecNoText
      | 3, h => ecNoTable
      | 4, h => ecNoSpan
    ex_NoSpan := fun c b h => match c, h with
      | 0, h => by cases h; exact PySem.W.exm_ref sb_NoSpan hd_NoSpan t_NoSpan su_CrumbError_NoSpan
      | 1, h => by cases h; exact PySem.W.exm_ref sb_NoSpan hd_NoSpan t_NoSpan su_NoFraction_NoSpan
      | 2, h => by cases h; exact PySem.W.exm_ref sb_NoSpan hd_NoSpan t_NoSpan su_NoText_NoSpan
      | 3, h => by cases h; exact PySem.W.exm_ref sb_NoSpan hd_NoSpan t_NoSpan su_NoTable_NoSpan
      | 4, h => by cases h; exact PySem.W.exm_ref sb_NoSpan hd_NoSpan t_NoSpan su_NoSpan_NoSpan
    ec_NoSpan := fun c h => match c, h with
      | 0, h => by cases h
      | 1, h => by cases h
      | 2, h => by cases h
      | 3, h => by cases h
      | 4, h => ecNoSpan
    ki_NoFraction := fun c b h => match c, h with
      | 0, h => by cases h; exact ki_CrumbError_NoFraction
      | 1, h => by cases h; exact ki_NoFraction_NoFraction
      | 2, h => by cases h; exact ki_NoText_NoFraction
      | 3, h => by cases h; exact ki_NoTable_NoFraction
      | 4, h => by cases h; exact ki_NoSpan_NoFraction
    ki_NoSpan := fun c b h => match c, h with
      | 0, h => by cases h; exact ki_CrumbError_NoSpan
      | 1, h => by cases h; exact ki_NoFraction_NoSpan
      | 2, h => by cases h; exact ki_NoText_NoSpan
      | 3, h => by cases h; exact ki_NoTable_NoSpan
      | 4, h => by cases h; exact ki_NoSpan_NoSpan
    ki_NoTable := fun c b h => match c, h with
      | 0, h => by cases h; exact ki_CrumbError_NoTable
      | 1, h => by cases h; exact ki_NoFraction_NoTable
      | 2, h => by cases h; exact ki_NoText_NoTable
      | 3, h => by cases h; exact ki_NoTable_NoTable
      | 4, h => by cases h; exact ki_NoSpan_NoTable
    ki_NoText := fun c b h => match c, h with
      | 0, h => by cases h; exact ki_CrumbError_NoText
      | 1, h => by cases h; exact ki_NoFraction_NoText
      | 2, h => by cases h; exact ki_NoText_NoText
      | 3, h => by cases h; exact ki_NoTable_NoText
      | 4, h => by cases h; exact ki_NoSpan_NoText }
  refine ⟨A.d_law, [(zq_Share___init__, zp_Share___init__)], (List.forall_mem_cons.mpr ⟨lt27, (fun _ h => nomatch h)⟩), (List.forall_mem_cons.mpr ⟨ln27, (fun _ h => nomatch h)⟩), (List.forall_mem_cons.mpr ⟨PySem.W.codeHd_of_K X lh27, (fun _ h => nomatch h)⟩), fun s v => .of_eq rfl, fun base _ _ hT => (ok_law (T base hT)).imp fun vs H Q E q => law_impT (G := GG K A) ["Share.__init__" ++ ".<locals>." ++ "<lambda>"] rfl nd law_true vs H Q E q⟩
end Dn
open PySem PySem.W PyProof.Rows
set_option maxRecDepth 100000 in
set_option maxHeartbeats 0 in
theorem PySem.Challenge.cw_halfcrumb_k14_share_texts_spoilt_holds : PySem.Challenge.rw_halfcrumb_k14_share_texts_spoilt.Holds := by
  w_on; o_law; k_head; (case hw => w_witness2)
  k_fill
  refine Dn.walkT (k := 8) (x := "_law_script") ⟨rfl, by decide, by decide⟩ (l := PySem.Challenge.rw_halfcrumb_k14_share_texts_spoilt) rfl rfl (fun w h Y => PySem.W.km_in_of Y) ?F
  case F =>
    intro w mg fa h Y KX G hmg
    refine' Dn.all_mk KX G hmg ?g_CrumbError ?g_NoFraction ?g_NoText ?g_NoTable ?g_NoSpan ?g_Share ?a0 ?l0 ?c0 ?k0 ?a1 ?l1 ?c1 ?k1 ?a2 ?l2 ?c2 ?k2 ?a3 ?l3 ?c3 ?k3 ?a4 ?l4 ?c4 ?k4 ?a5 ?l5 ?c5 ?k5 ?a6 ?l6 ?c6 ?k6 ?a7 ?l7 ?c7 ?k7 ?a8 ?l8 ?c8 ?k8 ?a9 ?l9 ?c9 ?k9 ?a10 ?l10 ?c10 ?k10 ?a11 ?l11 ?c11 ?k11 ?a12 ?l12 ?c12 ?k12 ?a13 ?l13 ?c13 ?k13 ?lT13 ?a14 ?l14 ?c14 ?k14 ?a15 ?l15 ?c15 ?k15 ?a16 ?l16 ?c16 ?k16 ?a17 ?l17 ?c17 ?k17 ?a18 ?l18 ?c18 ?k18 ?a19 ?l19 ?c19 ?k19 ?a20 ?l20 ?c20 ?k20 ?a21 ?l21 ?c21 ?k21 ?a22 ?l22 ?c22 ?k22 ?a23 ?l23 ?c23 ?k23 ?a24 ?l24 ?c24 ?k24 ?a25 ?l25 ?c25 ?k25 ?a26 ?l26 ?c26 ?k26 ?a27 ?l27 ?c27 ?lq27 ?lp27 ?lh27 ?ln27 ?lt27 ?k27 ?a28 ?l28 ?c28 ?k28 ?a29 ?l29 ?c29 ?k29 ?pg_Share ?hD_Share ?po_Share ?sa_Share ?mm_Share ?mi_Share ?mf_Share ?mp_Share ?ta_Share___str__ ?tf_Share___str__ ?ta_Share_spans ?tf_Share_spans ?na_Share_parts ?z_abs ?z_all ?z_int ?z_isinstance ?z_len ?z_list ?z_max ?z_min ?z_range ?z_sorted ?z_str ?z_zip ?m_BEGIN ?l_a_BEGIN_0 ?m_END ?l_a_END_0 ?m_MOST_FIGURES ?x_NoFraction ?k_NoFraction ?x_NoSpan ?k_NoSpan ?x_NoText ?k_NoText ?sb_CrumbError ?t_CrumbError ?sb_NoFraction ?t_NoFraction ?sb_NoText ?t_NoText ?sb_NoSpan ?t_NoSpan ?hd_CrumbError ?su_CrumbError_CrumbError ?su_NoFraction_CrumbError ?su_NoText_CrumbError ?su_NoTable_CrumbError ?su_NoSpan_CrumbError ?hd_NoSpan ?su_CrumbError_NoSpan ?su_NoFraction_NoSpan ?su_NoText_NoSpan ?su_NoTable_NoSpan ?su_NoSpan_NoSpan ?hg_CrumbError ?hk_CrumbError ?hs_CrumbError ?hh_CrumbError ?ha_CrumbError ?hn_CrumbError ?ht_CrumbError ?hm_CrumbError ?hg_NoFraction ?hk_NoFraction ?hs_NoFraction ?hh_NoFraction ?ha_NoFraction ?hn_NoFraction ?ht_NoFraction ?hm_NoFraction ?hg_NoText ?hk_NoText ?hs_NoText ?hh_NoText ?ha_NoText ?hn_NoText ?ht_NoText ?hm_NoText ?hg_NoTable ?hk_NoTable ?hs_NoTable ?hh_NoTable ?ha_NoTable ?hn_NoTable ?ht_NoTable ?hm_NoTable ?hg_NoSpan ?hk_NoSpan ?hs_NoSpan ?hh_NoSpan ?ha_NoSpan ?hn_NoSpan ?ht_NoSpan ?hm_NoSpan ?ki_CrumbError_NoFraction ?ki_NoFraction_NoFraction ?ki_NoText_NoFraction ?ki_NoTable_NoFraction ?ki_NoSpan_NoFraction ?ki_CrumbError_NoSpan ?ki_NoFraction_NoSpan ?ki_NoText_NoSpan ?ki_NoTable_NoSpan ?ki_NoSpan_NoSpan ?ki_CrumbError_NoTable ?ki_NoFraction_NoTable ?ki_NoText_NoTable ?ki_NoTable_NoTable ?ki_NoSpan_NoTable ?ki_CrumbError_NoText ?ki_NoFraction_NoText ?ki_NoText_NoText ?ki_NoTable_NoText ?ki_NoSpan_NoText ?nd
    (case g_CrumbError => k_is)
    (case g_NoFraction => k_is)
    (case g_NoText => k_is)
    (case g_NoTable => k_is)
    (case g_NoSpan => k_is)
    (case g_Share => k_is)
    (case a0 => k_is)
    (case l0 => k_is)
    (case c0 => k_is)
    (case k0 => k_is)
    (case a1 => k_is)
    (case l1 => k_is)
    (case c1 => k_is)
    (case k1 => k_is)
    (case a2 => k_is)
    (case l2 => k_is)
    (case c2 => k_is)
    (case k2 => k_is)
    (case a3 => k_is)
    (case l3 => k_is)
    (case c3 => k_is)
    (case k3 => k_is)
    (case a4 => k_is)
    (case l4 => k_is)
    (case c4 => k_is)
    (case k4 => k_is)
    (case a5 => k_is)
    (case l5 => k_is)
    (case c5 => k_is)
    (case k5 => k_is)
    (case a6 => k_is)
    (case l6 => k_is)
    (case c6 => k_is)
    (case k6 => k_is)
    (case a7 => k_is)
    (case l7 => k_is)
    (case c7 => k_is)
    (case k7 => k_is)
    (case a8 => k_is)
    (case l8 => k_is)
    (case c8 => k_is)
    (case k8 => k_is)
    (case a9 => k_is)
    (case l9 => k_is)
    (case c9 => k_is)
    (case k9 => k_is)
    (case a10 => k_is)
    (case l10 => k_is)
    (case c10 => k_is)
    (case k10 => k_is)
    (case a11 => k_is)
    (case l11 => k_is)
    (case c11 => k_is)
    (case k11 => k_is)
    (case a12 => k_is)
    (case l12 => k_is)
    (case c12 => k_is)
    (case k12 => k_is)
    (case a13 => k_is)
    (case l13 => k_is)
    (case c13 => k_is)
    (case k13 => k_is)
    (case lT13 => k_is)
    (case a14 => k_is)
    (case l14 => k_is)
    (case c14 => k_is)
    (case k14 => k_is)
    (case a15 => k_is)
    (case l15 => k_is)
    (case c15 => k_is)
    (case k15 => k_is)
    (case a16 => k_is)
    (case l16 => k_is)
    (case c16 => k_is)
    (case k16 => k_is)
    (case a17 => k_is)
    (case l17 => k_is)
    (case c17 => k_is)
    (case k17 => k_is)
    (case a18 => k_is)
    (case l18 => k_is)
    (case c18 => k_is)
    (case k18 => k_is)
    (case a19 => k_is)
    (case l19 => k_is)
    (case c19 => k_is)
    (case k19 => k_is)
    (case a20 => k_is)
    (case l20 => k_is)
    (case c20 => k_is)
    (case k20 => k_is)
    (case a21 => k_is)
    (case l21 => k_is)
    (case c21 => k_is)
    (case k21 => k_is)
    (case a22 => k_is)
    (case l22 => k_is)
    (case c22 => k_is)
    (case k22 => k_is)
    (case a23 => k_is)
    (case l23 => k_is)
    (case c23 => k_is)
    (case k23 => k_is)
    (case a24 => k_is)
    (case l24 => k_is)
    (case c24 => k_is)
    (case k24 => k_is)
    (case a25 => k_is)
    (case l25 => k_is)
    (case c25 => k_is)
    (case k25 => k_is)
    (case a26 => k_is)
    (case l26 => k_is)
    (case c26 => k_is)
    (case k26 => k_is)
    (case a27 => k_is)
    (case l27 => k_is)
    (case c27 => k_is)
    (case lq27 => k_is)
    (case lp27 => rfl)
    (case lh27 => kernel_rfl)
    (case ln27 => kernel_rfl)
    (case lt27 => exact PySem.W.km_tabs_of Y _ (by k_mem))
    (case k27 => k_is)
    (case a28 => k_is)
    (case l28 => k_is)
    (case c28 => k_is)
    (case k28 => k_is)
    (case a29 => k_is)
    (case l29 => k_is)
    (case c29 => k_is)
    (case k29 => k_is)
    (case pg_Share => k_is)
    (case hD_Share => k_is)
    (case po_Share => k_is)
    (case sa_Share => k_is)
    (case mm_Share => k_is)
    (case mi_Share => k_is)
    (case mf_Share => k_is)
    (case mp_Share => k_is)
    (case ta_Share___str__ => k_is)
    (case tf_Share___str__ => k_is)
    (case ta_Share_spans => k_is)
    (case tf_Share_spans => k_is)
    (case na_Share_parts => k_is)
    (case z_abs => k_is)
    (case z_all => k_is)
    (case z_int => k_is)
    (case z_isinstance => k_is)
    (case z_len => k_is)
    (case z_list => k_is)
    (case z_max => k_is)
    (case z_min => k_is)
    (case z_range => k_is)
    (case z_sorted => k_is)
    (case z_str => k_is)
    (case z_zip => k_is)
    (case m_BEGIN => k_is)
    (case l_a_BEGIN_0 => k_is)
    (case m_END => k_is)
    (case l_a_END_0 => k_is)
    (case m_MOST_FIGURES => k_is)
    (case x_NoFraction => k_exc)
    (case k_NoFraction => k_is)
    (case x_NoSpan => k_exc)
    (case k_NoSpan => k_is)
    (case x_NoText => k_exc)
    (case k_NoText => k_is)
    (case sb_CrumbError => k_is)
    (case t_CrumbError => k_is)
    (case sb_NoFraction => k_is)
    (case t_NoFraction => k_is)
    (case sb_NoText => k_is)
    (case t_NoText => k_is)
    (case sb_NoSpan => k_is)
    (case t_NoSpan => k_is)
    (case hd_CrumbError => k_is)
    (case su_CrumbError_CrumbError => first | rfl | k_is)
    (case su_NoFraction_CrumbError => first | rfl | k_is)
    (case su_NoText_CrumbError => first | rfl | k_is)
    (case su_NoTable_CrumbError => first | rfl | k_is)
    (case su_NoSpan_CrumbError => first | rfl | k_is)
    (case hd_NoSpan => k_is)
    (case su_CrumbError_NoSpan => first | rfl | k_is)
    (case su_NoFraction_NoSpan => first | rfl | k_is)
    (case su_NoText_NoSpan => first | rfl | k_is)
    (case su_NoTable_NoSpan => first | rfl | k_is)
    (case su_NoSpan_NoSpan => first | rfl | k_is)
    (case hg_CrumbError => first | rfl | k_is)
    (case hk_CrumbError => first | rfl | k_is)
    (case hs_CrumbError => first | rfl | k_is)
    (case hh_CrumbError => first | rfl | k_is)
    (case ha_CrumbError => first | rfl | k_is)
    (case hn_CrumbError => first | rfl | k_is)
    (case ht_CrumbError => first | rfl | k_is)
    (case hm_CrumbError => first | rfl | k_is)
    (case hg_NoFraction => first | rfl | k_is)
    (case hk_NoFraction => first | rfl | k_is)
    (case hs_NoFraction => first | rfl | k_is)
    (case hh_NoFraction => first | rfl | k_is)
    (case ha_NoFraction => first | rfl | k_is)
    (case hn_NoFraction => first | rfl | k_is)
    (case ht_NoFraction => first | rfl | k_is)
    (case hm_NoFraction => first | rfl | k_is)
    (case hg_NoText => first | rfl | k_is)
    (case hk_NoText => first | rfl | k_is)
    (case hs_NoText => first | rfl | k_is)
    (case hh_NoText => first | rfl | k_is)
    (case ha_NoText => first | rfl | k_is)
    (case hn_NoText => first | rfl | k_is)
    (case ht_NoText => first | rfl | k_is)
    (case hm_NoText => first | rfl | k_is)
    (case hg_NoTable => first | rfl | k_is)
    (case hk_NoTable => first | rfl | k_is)
    (case hs_NoTable => first | rfl | k_is)
    (case hh_NoTable => first | rfl | k_is)
    (case ha_NoTable => first | rfl | k_is)
    (case hn_NoTable => first | rfl | k_is)
    (case ht_NoTable => first | rfl | k_is)
    (case hm_NoTable => first | rfl | k_is)
    (case hg_NoSpan => first | rfl | k_is)
    (case hk_NoSpan => first | rfl | k_is)
    (case hs_NoSpan => first | rfl | k_is)
    (case hh_NoSpan => first | rfl | k_is)
    (case ha_NoSpan => first | rfl | k_is)
    (case hn_NoSpan => first | rfl | k_is)
    (case ht_NoSpan => first | rfl | k_is)
    (case hm_NoSpan => first | rfl | k_is)
    (case ki_CrumbError_NoFraction => first | rfl | k_is)
    (case ki_NoFraction_NoFraction => first | rfl | k_is)
    (case ki_NoText_NoFraction => first | rfl | k_is)
    (case ki_NoTable_NoFraction => first | rfl | k_is)
    (case ki_NoSpan_NoFraction => first | rfl | k_is)
    (case ki_CrumbError_NoSpan => first | rfl | k_is)
    (case ki_NoFraction_NoSpan => first | rfl | k_is)
    (case ki_NoText_NoSpan => first | rfl | k_is)
    (case ki_NoTable_NoSpan => first | rfl | k_is)
    (case ki_NoSpan_NoSpan => first | rfl | k_is)
    (case ki_CrumbError_NoTable => first | rfl | k_is)
    (case ki_NoFraction_NoTable => first | rfl | k_is)
    (case ki_NoText_NoTable => first | rfl | k_is)
    (case ki_NoTable_NoTable => first | rfl | k_is)
    (case ki_NoSpan_NoTable => first | rfl | k_is)
    (case ki_CrumbError_NoText => first | rfl | k_is)
    (case ki_NoFraction_NoText => first | rfl | k_is)
    (case ki_NoText_NoText => first | rfl | k_is)
    (case ki_NoTable_NoText => first | rfl | k_is)
    (case ki_NoSpan_NoText => first | rfl | k_is)
    (case nd => decide)
