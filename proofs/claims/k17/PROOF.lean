import PyProof.Rows.All
import Wide.All
import OpenK.AllK
import Wide.FinOn
import HandS.Lambda
import HandS.EndTab
import HandS.ForMost
import HandS.ForExc
import HandS.TryMany
import HandS.Wide
import HandS.IsInst
import HandS.Defaults
import HandS.FStr
import HandS.StrMore
import HandS.TupAny
import HandS.ExcIs
import HandS.EndBits
import HandS.Style
import HandS.Deep
import HandS.Steps
import HandS.Conv
import HandS.More
import KE.KFmtOwn
import HandS.RaiseMore
import HandS.SortRule
import HandS.SortInts
import HandS.TryOnly
import HandS.ExcInit
import HandS.ExcField
import HandS.ClsMeth
import HandS.GenList
import HandS.Keys
import KE.KDictZip
import PyProof.Rows.StrDigitsNeg
import PyProof.Rows.ReprOcc
import PySem.Challenge.RW_halfcrumb_k17_onecuts
set_option Elab.async false
set_option linter.all false
set_option maxRecDepth 100000
set_option exponentiation.threshold 5000
set_option maxHeartbeats 4000000
/-! A lambda of two parameters, handed to a def: after HandS.Lambda. -/
namespace LamP
open PySem PySem.Spec PyProof.Rows L2 LamX
section
variable {X : Cx} {pins : List (Addr × Obj)} {σ : L2.St} {H : Hp} {s : Shared}
/-- the lambda is made; just what changed in the heap -/
theorem make3 {c P : Addr} {ps : Array Value} {params : Arguments} {body : Expr} {scope : Scope} {pos : Pos} {E : Value → Shared → Prop} {Q : Value → Shared → Prop} (I : Inv X pins σ H s) (TB : TabB X.base X.mg c P) (hcode : X.env.code = .ref c)
    (hP : H P = some (.tbl ps)) (ht : TriplesOk ps.toList) (ha : ∀ (pos : Pos) (cv : Value), codeAmong pos ps.toList = some cv → ∃ c, cv = .ref c ∧ H c = some (CodeO c (X.env.qual ++ "<lambda>"))) (hdef : defaultsOf params X.env = ([], [])) (hfree : ∀ y ∈ scope.names, y.2 = .free → ∃ c, X.env.cells.lookup y.1 = some c)
    (h : ∀ (f c' : Addr) (pm ctv : Value) (H1 : Hp) (s' : Shared), Inv X pins σ H1 s' →
      ((∃ ps' : Array Value, H1 = upd (upd H P (.tbl ps')) c' (CodeO c' (X.env.qual ++ "<lambda>")) ∧ H c' = none ∧ c' ≠ P ∧ TriplesOk ps'.toList ∧ ∀ (pos : Pos) (cv : Value), codeAmong pos ps'.toList = some cv → codeAmong pos ps.toList = some cv ∨ cv = .ref c') ∨
        (H1 = H ∧ ∃ pos, codeAmong pos ps.toList = some (.ref c'))) →
      s'.heap.get? f = some (PySem.W.kla_obj "<lambda>" (X.env.qual ++ "<lambda>") params body scope (cloFrom X.env.cells scope.names []) pm c' ctv) → H1 f = none → f ∉ frs X.stack → Q (.ref f) s') :
    wpAny (model X.prog X.w) X.A (eval (.Lambda params body scope pos) X.env) Q E s := by
  refine PySem.W.kla_eval hdef ?_
  have bP : s.heap.BuiltinsAt X.mg P := TB.bm.keeps I.bk
  have hP' : s.heap.get? P = some { cls := .none, data := .fields ps } := I.hok P _ hP
  have nofr : ∀ f, s.heap.objs.size ≤ f → f ∉ frs X.stack := fun f hf z => by
    rcases List.mem_cons.mp (I.stkSub _ z) with e | e
    · have h1 := I.lt
      rw [← e] at h1
      exact Nat.lt_irrefl _ (Nat.lt_of_lt_of_le h1 hf)
    · exact I.nofs hf e
  cases hc : codeAmong pos ps.toList with
  | none =>
    refine PySem.W.kla_makeFunction (mg := X.mg) (c := c) (P := P) (ps := ps) (closure_ok hfree) I.ok.glob (I.mod.glob.keeps I.bk) hcode (TB.code.keeps I.bk) hP' ht hc TB.gP bP fun c' ctv h' tk hx hge hlt hrec htb => ?_
    obtain ⟨c2, oc, vs, t, e2, hoc, hd, hv⟩ := hrec
    cases e2
    have hsz : s.heap.objs.size ≤ h'.objs.size := Nat.le_trans hge (Nat.le_of_lt hlt)
    have nC : H c' = none := I.hok.fresh hge
    have I1 := inv_table (t' := tk) (more := #[rawInt pos.line, rawInt pos.col, .ref c']) (h' := h'.push (PySem.W.kla_obj "<lambda>" (X.env.qual ++ "<lambda>") params body scope (cloFrom X.env.cells scope.names []) ((X.mg "__name__").getD .none) c' ctv)) I hP
      (fun b o hb e => Heap.get?_push_of_some _ (hx b o hb e)) (Heap.get?_push_of_some _ htb) hge ⟨oc, vs, t, Heap.get?_push_of_some _ hoc, hd, hv⟩
    have eL : (ps ++ #[rawInt pos.line, rawInt pos.col, .ref c']).toList = ps.toList ++ [rawInt pos.line, rawInt pos.col, .ref c'] := by simp
    refine h h'.objs.size c' ((X.mg "__name__").getD .none) ctv _ _ I1 (.inl ⟨_, rfl, nC, (fun z => by rw [z, hP] at nC; cases nC), (by rw [eL]; exact PySem.TriplesOk_snoc _ _ _ _ ht), fun p' cv hcv => ?_⟩) (Heap.get?_push_size _ rfl) ?_ (nofr _ hsz)
    · rw [eL] at hcv
      exact among_app _ ht hcv
    · have n1 : h'.objs.size ≠ c' := Nat.ne_of_gt hlt
      have n2 : h'.objs.size ≠ P := Nat.ne_of_gt (Nat.lt_of_lt_of_le (Heap.lt_size hP') hsz)
      rw [upd_ne n1, upd_ne n2]
      exact I.hok.fresh hsz
  | some cv =>
    obtain ⟨c', e, hco⟩ := ha pos cv hc
    subst e
    refine PySem.W.kla_makeFunctionHit (mg := X.mg) (c := c) (P := P) (ps := ps) (closure_ok hfree) I.ok.glob (I.mod.glob.keeps I.bk) hcode (TB.code.keeps I.bk) hP' ht hc bP fun ctv h' tk hx hsz => ?_
    have I1 : Inv X pins σ H { s with heap := h'.push (PySem.W.kla_obj "<lambda>" (X.env.qual ++ "<lambda>") params body scope (cloFrom X.env.cells scope.names []) ((X.mg "__name__").getD .none) c' ctv), toks := tk } := I.kept fun b o e => Heap.get?_push_of_some _ (hx b o e)
    exact h h'.objs.size c' ((X.mg "__name__").getD .none) ctv H _ I1 (.inr ⟨rfl, pos, hc⟩) (Heap.get?_push_size _ rfl) (I.hok.fresh hsz) (nofr _ hsz)
end
/-! ### the lambda's names: two parameters, captured ones, globals -/
structure LamN (sc scope : Scope) (a b : Str) : Prop where
  kind : scope.kind = .function
  co : scope.isCoroutine = false
  gen : scope.isGenerator = false
  own : ∀ y ∈ scope.names, y.2 ≠ .cell ∧ (y.2 = .local → y.1 = a ∨ y.1 = b)
  pa : scope.names.lookup a = some .local
  pb : scope.names.lookup b = some .local
  ne : a ≠ b
  free : ∀ y ∈ scope.names, y.2 = .free → sc.names.lookup y.1 = some .cell ∨ sc.names.lookup y.1 = some .free
def lamNB (sc scope : Scope) (a b : Str) : Bool :=
  decide (scope.kind = .function) && !scope.isCoroutine && !scope.isGenerator && decide (scope.names.lookup a = some .local) && decide (scope.names.lookup b = some .local) && !decide (a = b) &&
    scope.names.all fun y => !decide (y.2 = .cell) && (!decide (y.2 = .local) || decide (y.1 = a) || decide (y.1 = b)) && (!decide (y.2 = .free) || decide (sc.names.lookup y.1 = some .cell) || decide (sc.names.lookup y.1 = some .free))
theorem lamN_by {sc scope : Scope} {a b : Str} (h : lamNB sc scope a b = true) : LamN sc scope a b := by
  unfold lamNB at h
  simp only [Bool.and_eq_true, Bool.or_eq_true, Bool.not_eq_true', decide_eq_true_eq, decide_eq_false_iff_not, List.all_eq_true] at h
  obtain ⟨⟨⟨⟨⟨⟨h1, h2⟩, h3⟩, h4⟩, h5⟩, h6⟩, h7⟩ := h
  refine ⟨h1, h2, h3, fun y hy => ⟨(h7 y hy).1.1, fun e => ?_⟩, h4, h5, h6, fun y hy e => ?_⟩
  · rcases (h7 y hy).1.2 with (z | z) | z
    · exact absurd e z
    · exact .inl z
    · exact .inr z
  · rcases (h7 y hy).2 with (z | z) | z
    · exact absurd e z
    · exact .inl z
    · exact .inr z
theorem LamN.has {X : Cx} {scope : Scope} {a b : Str} (L : LamN X.env.scope scope a b) (ok : X.Ok) : ∀ y ∈ scope.names, y.2 = .free → ∃ c, X.env.cells.lookup y.1 = some c := fun y hy e => by
  rcases L.free y hy e with k | k
  · exact ok.has _ (.inl k)
  · exact ok.has _ (.inr k)
theorem nd_ix {N : List Str} (h : N.Nodup) {i j : Nat} {y : Str} (hi : N[i]? = some y) (hj : N[j]? = some y) : i = j := by
  have hil := (List.getElem?_eq_some_iff.mp hi).1
  have e := hi.trans hj.symm
  exact (List.getElem?_inj hil h).mp e
section
variable {X : Cx} {pins : List (Addr × Obj)} {σ : L2.St} {H HZ : Hp} {s s1 : Shared}
theorem start3 {A : Around} {outer : List Env} {E : XK} {scope : Scope} {f c' : Addr} {h₁ : Heap} {tk : Nat} {a b : Str} {ja jb : Nat} {va vb : V} {ua ub : Value} (I : Inv X pins σ H s) (L : LamN X.env.scope scope a b) (hN : X.N.Nodup) (hja : X.N[ja]? = some a) (hjb : X.N[jb]? = some b) (ra : RelV va ua) (rb : RelV vb ub)
    (e0 : Env0 X.prog X.w X.K X.mg X.base A outer s1 HZ) (hd : A.handled = none)
    (un : Un (frs X.stack) [] H HZ s.heap s1.heap) (hns : h₁.Ns s1.heap.objs.size fun y => ([(a, ua), (b, ub)] : List (Str × Value)).reverse.lookup y) (kp : ∀ b o, s1.heap.get? b = some o → h₁.get? b = some o) :
    Inv (lamCx X A outer s1 HZ E scope f c') [] ((σ.set ja (some va)).set jb (some vb)) HZ { s1 with heap := h₁, toks := tk } := by
  have hfree := L.has I.ok
  have cm : ∀ {y c}, (cloFrom X.env.cells scope.names []).lookup y = some c → X.env.cells.lookup y = some c := fun {y c} e => by
    rcases cloFrom_mem (PySem.mem_of_lookup e) with hm | ⟨h1, h2⟩
    · cases hm
    · obtain ⟨c1, hc⟩ := hfree _ h1 rfl
      have hc : X.env.cells.lookup y = some c1 := hc
      have e2 : c = c1 := by
        rw [h2, hc] <;> rfl
      rw [e2]
      exact hc
  have look : ∀ {y}, scope.names.lookup y = some .free → ∃ c, (cloFrom X.env.cells scope.names []).lookup y = some c := fun {y} hl => by
    have hy : (y, NameKind.free) ∈ scope.names := PySem.mem_of_lookup hl
    exact mem_lookup (cloFrom_has (cells := X.env.cells) (acc := []) hy)
  have cellK : ∀ {c : Addr} {v : Option Value}, H c = none → s.heap.IsCell c v → h₁.IsCell c v := fun {c v} n ⟨o, ho, hd⟩ => by
    obtain ⟨sl, q⟩ := un.any ho n (by simp)
    exact ⟨_, kp _ _ q, hd⟩
  have noA : ∀ b : Addr, b ∉ (lamCx X A outer s1 HZ E scope f c').ex := fun b z => absurd (show b ∈ ([] : List Addr) from z) (by simp)
  have hla : ja < σ.length := by rw [I.len]; exact (List.getElem?_eq_some_iff.mp hja).1
  have hlb : jb < σ.length := by rw [I.len]; exact (List.getElem?_eq_some_iff.mp hjb).1
  have jne : ja ≠ jb := fun z => by
    rw [z, hjb] at hja
    exact L.ne (Option.some.inj hja).symm
  have sa : ((σ.set ja (some va)).set jb (some vb))[ja]? = some (some va) := by
    rw [List.getElem?_set_ne (Ne.symm jne), List.getElem?_set_self hla]
  have sb : ((σ.set ja (some va)).set jb (some vb))[jb]? = some (some vb) := List.getElem?_set_self (by simpa using hlb)
  refine ⟨⟨e0.mod, L.kind, rfl, rfl, Nat.le_refl _, fun y z c e1 e2 => I.ok.inj y z c (cm e1) (cm e2), fun y hy => ?_, fun y c z _ => ?_, fun _ => hd, Around.frames_deeper e0.frames, .inr ⟨rfl, rfl⟩, fun b z => absurd z (noA b), e0.bs, e0.bsz, fun b _ _ => noA b,
      fun b z => absurd z (noA b), e0.funs, e0.frf⟩,
    rfl, e0.bare, Un.kept kp, ⟨_, hns, fun i y v e1 e2 e3 => ?_⟩, fun y c e => ?_, e0.hok.fresh (Nat.le_refl _), fun y c e => ?_, fun q hq => absurd (show q ∈ ([] : List (Addr × Obj)) ++ [] from hq) (by simp), e0.hok.kept kp, ?_⟩
  · have hy : scope.names.lookup y = some .cell ∨ scope.names.lookup y = some .free := hy
    rcases hy with hy | hy
    · exact absurd rfl (L.own _ (PySem.mem_of_lookup hy)).1
    · exact look hy
  · have z : false = true := z
    cases z
  · have e3 : Vis scope y := e3
    have e1 : X.N[i]? = some y := e1
    rcases e3 with k | k | k
    · rcases (L.own _ (PySem.mem_of_lookup k)).2 rfl with rfl | rfl
      · have := nd_ix hN e1 hja
        subst this
        rw [sa] at e2
        cases e2
        refine ⟨ua, ra, .inl ⟨k, ?_⟩⟩
        have : (y == b) = false := by simpa using L.ne
        simp [List.lookup, this]
      · have := nd_ix hN e1 hjb
        subst this
        rw [sb] at e2
        cases e2
        refine ⟨ub, rb, .inl ⟨k, ?_⟩⟩
        simp [List.lookup]
    · exact absurd rfl (L.own _ (PySem.mem_of_lookup k)).1
    · have na : i ≠ ja := fun z => by
        rw [z, hja] at e1
        cases e1
        rw [show scope.names.lookup a = some .local from L.pa] at k
        cases k
      have nb : i ≠ jb := fun z => by
        rw [z, hjb] at e1
        cases e1
        rw [show scope.names.lookup b = some .local from L.pb] at k
        cases k
      rw [List.getElem?_set_ne (Ne.symm nb), List.getElem?_set_ne (Ne.symm na)] at e2
      obtain ⟨m, hn, hl⟩ := I.loc
      have hvis : Vis X.env.scope y := (L.free _ (PySem.mem_of_lookup k) rfl).elim (fun k => .inr (.inl k)) (fun k => .inr (.inr k))
      obtain ⟨w', r, q⟩ := hl i y v e1 e2 hvis
      obtain ⟨c2, h2⟩ := look k
      refine ⟨w', r, .inr ⟨.inr k, c2, h2, ?_⟩⟩
      have c1 := cm h2
      rcases q with ⟨k', _⟩ | ⟨_, c3, e', z⟩
      · have k' : X.env.scope.names.lookup y = some .local := k'
        rcases L.free _ (PySem.mem_of_lookup k) rfl with k2 | k2 <;> rw [show X.env.scope.names.lookup y = _ from k2] at k' <;> cases k'
      · rw [c1] at e'
        cases e'
        exact cellK (I.freeC y _ c1) z
  · obtain ⟨w', z⟩ := I.cell y c (cm e)
    exact ⟨w', cellK (I.freeC y c (cm e)) z⟩
  · obtain ⟨v, o, ho, hd⟩ := I.cell y c (cm e)
    exact un.free c o ho (I.freeC y c (cm e)) (by simp)
  · show ((σ.set ja (some va)).set jb (some vb)).length = X.N.length
    simpa using I.len
/-- x(e, e'), in the def that got the lambda: Z is that def's context, entered at s -/
theorem act3 {CXg : CXT} {Eg : XK} {Ng : List Str} {qg : Str} {sg : Scope} {g f c' : Addr} {cdg pm ctv : Value} {params : Arguments} {body : Expr} {scope : Scope} {k i : Nat} {x a b : Str} {ja jb : Nat} {pn : List (Addr × Obj)} {xe : Value → Shared → Prop} {W : WX} {E : XK} {tb : TE} {p1 p2 : Pos} {e : Expr} {es : List Expr} {ta : TA}
    (I : Inv X pins σ H s) (L : LamN X.env.scope scope a b) (hNd : X.N.Nodup) (hja : X.N[ja]? = some a) (hjb : X.N[jb]? = some b) (hf : s.heap.get? f = some (PySem.W.kla_obj "<lambda>" (X.env.qual ++ "<lambda>") params body scope (cloFrom X.env.cells scope.names []) pm c' ctv)) (hfn : H f = none) (hfr : f ∉ frs X.stack)
    (hbind : ∀ u v : Value, bindArgs (PySem.W.kla_fn "<lambda>" (X.env.qual ++ "<lambda>") params body scope (cloFrom X.env.cells scope.names []) pm (.ref c') ctv) ⟨[u, v], []⟩ = pure [(a, u), (b, v)])
    (tk : Takes ((cxOf CXg X.prog X.w X.K X.mg X.base Ng qg sg g cdg X.A X.stack s H Eg).tr pn xe) W) (hW : ∀ cls d σ' H', E cls d H' → W cls d σ' H') (hr : Room (k + 1) (X.A.deeper (envOfC qg sg s.heap.objs.size g cdg)))
    (hbody : ∀ (A : Around) (outer : List Env) (s : Shared) (H : Hp), Room k (A.deeper (lamEnv X scope s.heap.objs.size f c')) → PE (lamCx X A outer s H E scope f c') body tb)
    (ha : PA ((cxOf CXg X.prog X.w X.K X.mg X.base Ng qg sg g cdg X.A X.stack s H Eg).tr pn xe) (e :: es) ta)
    (hN : Ng[i]? = some x) (hv : Vis sg x) (hd : (x == ("__debug__" : Str)) = false := by decide) (hcd : (x == ("__classdict__" : Str)) = false := by decide)
    (he : starEach (e :: es) ((cxOf CXg X.prog X.w X.K X.mg X.base Ng qg sg g cdg X.A X.stack s H Eg).tr pn xe).env = (false, eval e ((cxOf CXg X.prog X.w X.K X.mg X.base Ng qg sg g cdg X.A X.stack s H Eg).tr pn xe).env) :: starEach es ((cxOf CXg X.prog X.w X.K X.mg X.base Ng qg sg g cdg X.A X.stack s H Eg).tr pn xe).env := by rfl)
    (hpl : (backTo p2 (starEach es ((cxOf CXg X.prog X.w X.K X.mg X.base Ng qg sg g cdg X.A X.stack s H Eg).tr pn xe).env)).any (·.1) = false := by rfl) :
    PE ((cxOf CXg X.prog X.w X.K X.mg X.base Ng qg sg g cdg X.A X.stack s H Eg).tr pn xe) (.Call (.Name x p1) (e :: es) [] p2)
      (fun σZ HZ Q => σZ[i]? = some (some (.ref f)) ∧ ta σZ HZ fun vs HZ1 => ∃ va vb, vs = [va, vb] ∧ HZ1 c' = some (CodeO c' (X.env.qual ++ "<lambda>")) ∧ tb ((σ.set ja (some va)).set jb (some vb)) HZ1 Q) := by
  refine ⟨fun pinsZ sZ σZ HZ0 Q IZ h => ?_⟩
  obtain ⟨hs, ht⟩ := h
  refine wpAny_Call_Name_kw (thn ((pe_var (pos := p1) (i := i) hN hv hd hcd).run pinsZ sZ σZ HZ0 (fun v H1 => v = .ref f ∧ H1 = HZ0) IZ ⟨.ref f, hs, rfl, rfl⟩) fun u s1 ⟨v, H1, I1, r1, q1⟩ => ?_)
  obtain ⟨ev, eH⟩ := q1
  subst ev
  rw [eH] at I1
  obtain rfl : u = Value.ref f := r1
  have ofAt : ∀ {sy : Shared} {Hy : Hp}, Inv ((cxOf CXg X.prog X.w X.K X.mg X.base Ng qg sg g cdg X.A X.stack s H Eg).tr pn xe) pinsZ σZ Hy sy → sy.heap.get? f = some (PySem.W.kla_obj "<lambda>" (X.env.qual ++ "<lambda>") params body scope (cloFrom X.env.cells scope.names []) pm c' ctv) := fun J => J.base.keep f _ hf hfn hfr (fun z => nomatch (show f ∈ ([] : List Addr) from z))
  refine PySem.W.callWith_F ⟨_, _, _, _, ofAt I1⟩ (thn (ha.run p2 pinsZ s1 σZ HZ0 _ I1 ht) fun us s2 ⟨vs, HZ, I2, r, va, vb, evs, hc, htb⟩ => ⟨⟨_, _, _, _, ofAt I2⟩, ?_⟩) he hpl
  subst evs
  obtain ⟨ua, ub, rfl, ra, rb⟩ : ∃ ua ub, us = [ua, ub] ∧ RelV va ua ∧ RelV vb ub := by
    cases r with
    | cons r1 r2 => cases r2 with | cons r2 r3 => cases r3; exact ⟨_, _, rfl, r1, r2⟩
  have of1 := ofAt I2
  have un : Un (frs X.stack) [] H HZ s.heap s2.heap := I2.base
  obtain ⟨⟨oc, vs, t, hoc, hdc, hvc⟩, _, _⟩ := I2.hok c' _ hc
  have rc : codeAny (model X.prog X.w) (X.A.deeper (envOfC qg sg s.heap.objs.size g cdg)) (.call (.ref f) ⟨[ua, ub], []⟩) (CR (L2.CX X.prog X.w) (envOfC qg sg s.heap.objs.size g cdg :: X.stack) X.prog X.w HZ s2 Q E) s2 := by
    refine PySem.W.kla_callFunE hr.depth of1 rfl L.co L.gen rfl ⟨c', oc, vs, t, rfl, hoc, hdc, hvc⟩ ?_
    rw [hbind]
    refine wpAny_pure (wpAny_newFunctionEnv (fun y hy => (L.own y hy).1) (fun y hy => ?_) (fun h₁ hns hsb => ⟨I2.nolimit.fresh _ hsb, ?_⟩) L.kind)
    · rcases List.mem_cons.mp hy with rfl | hy
      · exact L.pa
      · rcases List.mem_cons.mp hy with rfl | hy
        · exact L.pb
        · cases hy
    show codeAny _ _ (.expr body (lamEnv X scope s2.heap.objs.size f c')) _ _
    have kp : ∀ b o, s2.heap.get? b = some o → h₁.get? b = some o := fun b o e => hsb.extBut b o (Nat.ne_of_lt (Heap.lt_size e)) (Heap.get?_push_of_some _ e)
    have J : Inv (lamCx X (X.A.deeper (envOfC qg sg s.heap.objs.size g cdg)) (envOfC qg sg s.heap.objs.size g cdg :: X.stack) s2 HZ E scope f c') [] ((σ.set ja (some va)).set jb (some vb)) HZ { s2 with heap := h₁, toks := s2.toks + ([(a, ua), (b, ub)] : List (Str × Value)).length } :=
      start3 I L hNd hja hjb ra rb I2.env0 hr.hd un hns kp
    refine PySem.W.kla_codeExpr (wpAny_mono ((hbody _ _ s2 HZ (hr.deeper _)).run [] _ _ HZ Q J htb) (fun v s' hq => ?_) fun e s' hq => hq)
    obtain ⟨w', H', J', rv, q⟩ := hq
    exact ⟨w', H', J'.os, J'.bare, J'.base, J'.hok, rv, q⟩
  have hx : Passes (L2.CX X.prog X.w) ((cxOf CXg X.prog X.w X.K X.mg X.base Ng qg sg g cdg X.A X.stack s H Eg).tr pn xe) E := passes_call tk hW
  refine wpAny_call (codeAny_mono rc fun r s' hq => ?_)
  cases r with
  | error e => exact hx pinsZ σZ HZ s2 e s' I2 hq
  | ok fl =>
    cases fl with
    | ret u => exact I2.after hq
    | next => exact False.elim hq
    | brk => exact False.elim hq
    | cont => exact False.elim hq
end
/-! ### x(e, lambda a, b: ..) -/
/-- what the making changes: the table at P, and a new code object; or nothing -/
def Made (q : Str) (P : Addr) (ps : Array Value) (H H1 : Hp) (c' : Addr) : Prop :=
  (∃ ps' : Array Value, H1 = upd (upd H P (.tbl ps')) c' (CodeO c' q) ∧ H c' = none ∧ c' ≠ P ∧ TriplesOk ps'.toList ∧ ∀ (pos : Pos) (cv : Value), codeAmong pos ps'.toList = some cv → codeAmong pos ps.toList = some cv ∨ cv = .ref c') ∨
    (H1 = H ∧ ∃ pos, codeAmong pos ps.toList = some (.ref c'))
def tLam3 (q : Str) (P : Addr) (t1 : TE) (TT : Addr → Addr → L2.St → V → Hp → VK → Prop) : TE := fun σ H Q => t1 σ H fun v1 H0 => ∃ ps : Array Value, H0 P = some (.tbl ps) ∧ TriplesOk ps.toList ∧ (∀ (pos : Pos) (cv : Value), codeAmong pos ps.toList = some cv → ∃ c, cv = .ref c ∧ H0 c = some (CodeO c q)) ∧
  ∀ f c' H1, Made q P ps H0 H1 c' → H1 f = none → TT f c' σ v1 H1 Q
section
variable {X : Cx}
theorem lamcall3 {x : Str} {g c P : Addr} {k : Nat} {pg : Arguments} {bg : List Stmt} {sg : Scope} {dV kV doc pm cdv ct oc : Value} {an od : Option Addr} {osl : Array (Option Value)} {Ng : List Str} {pa pb a b : Str} {e1 : Expr} {t1 : TE} {TT : Addr → Addr → L2.St → V → Hp → VK → Prop}
    {params : Arguments} {body : Expr} {scope : Scope} {p lpos pos : Pos} (hg : Gl X x) (hm : X.mg x = some (.ref g)) (hk : PySem.W.keepIn X.K (.ref g) = true)
    (lk : X.K.lookup g = some ⟨oc, od, .func (PySem.W.fnOf x x pg bg sg dV kV doc pm an cdv ct), osl⟩) (hcg : PySem.W.codeIn X.K cdv x = true) (hb : L2.Binds X.K (PySem.W.fnOf x x pg bg sg dV kV doc pm an cdv ct) [pa, pb] []) (Sg : FnScope Ng [pa, pb] sg)
    (he1 : PE X e1 t1) (TB : TabB X.base X.mg c P) (hcode : X.env.code = .ref c) (hr : Room (k + 2) X.A) (L : LamN X.env.scope scope a b) (hdef : defaultsOf params X.env = ([], []))
    (hG : ∀ (pins : List (Addr × Obj)) (s' : Shared) (σ : L2.St) (H1 : Hp) (f c' : Addr) (pm ctv : Value) (v1 : V) (Q : VK), Inv X pins σ H1 s' → s'.heap.get? f = some (PySem.W.kla_obj "<lambda>" (X.env.qual ++ "<lambda>") params body scope (cloFrom X.env.cells scope.names []) pm c' ctv) → H1 f = none → f ∉ frs X.stack →
      Room (k + 1) (X.A.deeper (envOfC x sg s'.heap.objs.size g cdv)) → TT f c' σ v1 H1 Q →
      ∃ t, PSs (cxOf (L2.CX X.prog X.w) X.prog X.w X.K X.mg X.base Ng x sg g cdv X.A X.stack s' H1 (fun _ _ _ => False)) bg t ∧ t { nx := fun _ H' => Q .non H', rt := Q } (L2.start Ng [v1, .ref f]) H1)
    (hdb : (x == ("__debug__" : Str)) = false := by decide) (hs1 : starEach [e1, .Lambda params body scope lpos] X.env = (false, eval e1 X.env) :: starEach [.Lambda params body scope lpos] X.env := by rfl) :
    PE X (.Call (.Name x p) [e1, .Lambda params body scope lpos] [] pos) (tLam3 (X.env.qual ++ "<lambda>") P t1 TT) := by
  refine ⟨fun pins s σ H Q I h => ?_⟩
  refine wpAny_Call_Name_kw (ld_glob I hg hm ?_ hdb)
  refine PySem.W.callWith_K (h₀ := X.base) I.ok.mod.kin hk ?_ hs1 (by rfl)
  rw [hs1]
  show wpAny _ _ (spliced ((false, eval e1 X.env) :: backTo pos (starEach [.Lambda params body scope lpos] X.env))) _ _ s
  refine Calls.spliced_cons (thn (he1.run pins s σ H _ I h) fun u1 s1 ⟨v1, H0, I0, r1, ps, hP, ht, ha, hT⟩ => ?_)
  show wpAny _ _ (spliced ((false, eval (.Lambda params body scope lpos) X.env) :: backTo pos (starEach [] X.env))) _ _ s1
  refine Calls.spliced_cons (make3 I0 TB hcode hP ht ha hdef (L.has I0.ok) fun f c' pm' ctv H1 s' I1 hmade hf hfn hfr => ?_)
  refine Calls.spliced_nil ⟨I1.kIn, ?_⟩
  have rc : codeAny (model X.prog X.w) X.A (.call (.ref g) ⟨[u1, .ref f], []⟩) (CR (L2.CX X.prog X.w) X.stack X.prog X.w H1 s' Q (fun _ _ _ => False)) s' :=
    run_ofS (N := Ng) (ps := [pa, pb]) (us := [u1, .ref f]) (vs := [v1, .ref f]) lk hcg Sg hr I1.env0 (hb s' [u1, .ref f] I1.kIn rfl) (.cons r1 (.cons rfl .nil)) rfl fun hr' => hG pins s' σ H1 f c' pm' ctv v1 Q I1 hf hfn hfr hr' (hT f c' H1 hmade hfn)
  refine wpAny_call (codeAny_mono rc fun r s2 hq => ?_)
  cases r with
  | error e =>
    obtain ⟨_, _, _, _, _, _, _, _, _, _, _, _, z⟩ := hq
    exact z.elim
  | ok fl =>
    cases fl with
    | ret u => exact I1.after hq
    | next => exact False.elim hq
    | brk => exact False.elim hq
    | cont => exact False.elim hq
end
end LamP
/-! A layer of our own over HandS: what a def computes, as a plain Lean function over data (D) and a store of the objects that change: each construct of the text has a rule that says which function it is. Lists that a def changes by itself alone are its own (SL.own); objects that are handed about and changed lie in the store (Ob), told by their number (D.ptr); all else is frozen data. -/
namespace Dn
open PySem PySem.Spec PyProof.Rows L2
/-- data -/
inductive D where
  | non | bl (b : Bool) | int (i : Int) | str (x : Str) | tup (l : List D) | lst (l : List D) | obj (c : Nat) (l : List D) | scr (l : List Int) | ptr (n : Nat)
/-- an object of the store -/
inductive Ob where | lst (l : List D) | ins (c : Nat) (l : List D) | tbl (q : Str)
abbrev Sto := List Ob
/-- the written part, the classes' addresses and their fields' names, the error that an except suite holds -/
structure Gm where
  K : PySem.W.Frag
  ca : Nat → Addr
  fn : Nat → List Str
  ea : Addr
  cl : List (Option V) := []
  cc : Addr := 0
  cq : Str := Str.empty
  tb : List Addr := []
  ed : Option Addr := none
  en : List Str := []
  el : List D := []
/-- the store's addresses, the frozen part, the heap -/
structure Hs where
  as : List Addr
  f : Hp
  h : Hp
mutual
inductive Is (G : Gm) (as : List Addr) (H : Hp) : V → D → Prop
  | non : Is G as H .non .non
  | bl (b : Bool) : Is G as H (.bl b) (.bl b)
  | int (i : Int) : Is G as H (.int i) (.int i)
  | str (x : Str) : Is G as H (.str x) (.str x)
  | tup {a : Addr} {xs : List V} {ds : List D} : SqT G.K H a xs → IsL G as H xs ds → Is G as H (.ref a) (.tup ds)
  | lst {a : Addr} {xs : List V} {ds : List D} : H a = some (.lst xs) → IsL G as H xs ds → Is G as H (.ref a) (.lst ds)
  | obj {a dx : Addr} {c : Nat} {xs : List V} {ds : List D} : H a = some (.ins (G.ca c) dx ((G.fn c).zip xs)) → (G.fn c).length = xs.length → IsL G as H xs ds → Is G as H (.ref a) (.obj c ds)
  | scr {a : Addr} {l : List Int} : SqL G.K H a (l.map V.int) → Is G as H (.ref a) (.scr l)
  | ptr {a : Addr} {n : Nat} : as[n]? = some a → Is G as H (.ref a) (.ptr n)
inductive IsL (G : Gm) (as : List Addr) (H : Hp) : List V → List D → Prop
  | nil : IsL G as H [] []
  | cons {v : V} {vs : List V} {d : D} {ds : List D} : Is G as H v d → IsL G as H vs ds → IsL G as H (v :: vs) (d :: ds)
end
def Ext (as bs : List Addr) : Prop := ∀ (n : Nat) (a : Addr), as[n]? = some a → bs[n]? = some a
theorem Ext.refl (as : List Addr) : Ext as as := fun _ _ h => h
theorem Ext.trans {as bs cs : List Addr} (x : Ext as bs) (y : Ext bs cs) : Ext as cs := fun n a h => y n a (x n a h)
theorem Ext.mem {as bs : List Addr} (x : Ext as bs) {a : Addr} (h : a ∈ as) : a ∈ bs := by
  obtain ⟨n, hn⟩ := List.mem_iff_getElem?.mp h
  exact List.mem_iff_getElem?.mpr ⟨n, x n a hn⟩
theorem Ext.app (as bs : List Addr) : Ext as (as ++ bs) := fun n a h => by
  rw [List.getElem?_append_left (List.getElem?_eq_some_iff.mp h).1]; exact h
theorem same_t {K : PySem.W.Frag} {H H' : Hp} {a : Addr} {xs : List V} (e : Same H H') (h : SqT K H a xs) : SqT K H' a xs := by
  rcases h with (h | ⟨o, h⟩) | h
  · exact .inl (.inl (e _ _ h))
  · exact .inl (.inr ⟨o, e _ _ h⟩)
  · exact .inr h
mutual
theorem Is.mono {G : Gm} {as bs : List Addr} {H H' : Hp} (x : Ext as bs) (e : Same H H') : ∀ (d : D) {v : V}, Is G as H v d → Is G bs H' v d
  | .non, _, h => by cases h; exact .non
  | .bl _, _, h => by cases h; exact .bl _
  | .int _, _, h => by cases h; exact .int _
  | .str _, _, h => by cases h; exact .str _
  | .tup ds, _, h => by cases h with | tup a b => exact .tup (same_t e a) (IsL.mono x e ds b)
  | .lst ds, _, h => by cases h with | lst a b => exact .lst (e _ _ a) (IsL.mono x e ds b)
  | .scr l, _, h => by cases h with | scr a => exact .scr (e.seq a)
  | .ptr n, _, h => by cases h with | ptr a => exact .ptr (x _ _ a)
  | .obj c ds, _, h => by cases h with | obj a l b => exact .obj (e _ _ a) l (IsL.mono x e ds b)
theorem IsL.mono {G : Gm} {as bs : List Addr} {H H' : Hp} (x : Ext as bs) (e : Same H H') : ∀ (ds : List D) {vs : List V}, IsL G as H vs ds → IsL G bs H' vs ds
  | [], _, h => by cases h; exact .nil
  | d :: ds, _, h => by cases h with | cons a b => exact .cons (Is.mono x e d a) (IsL.mono x e ds b)
end
def Gm.at_ (G : Gm) (a : Addr) : Gm := { G with ea := a }
mutual
theorem Is.ea {G : Gm} {as : List Addr} {H : Hp} (x : Addr) : ∀ (d : D) {v : V}, Is G as H v d → Is (G.at_ x) as H v d
  | .non, _, h => by cases h; exact .non
  | .bl _, _, h => by cases h; exact .bl _
  | .int _, _, h => by cases h; exact .int _
  | .str _, _, h => by cases h; exact .str _
  | .tup ds, _, h => by cases h with | tup a b => exact .tup a (IsL.ea x ds b)
  | .lst ds, _, h => by cases h with | lst a b => exact .lst a (IsL.ea x ds b)
  | .scr l, _, h => by cases h with | scr a => exact .scr a
  | .ptr n, _, h => by cases h with | ptr a => exact .ptr a
  | .obj c ds, _, h => by cases h with | obj a l b => exact .obj a l (IsL.ea x ds b)
theorem IsL.ea {G : Gm} {as : List Addr} {H : Hp} (x : Addr) : ∀ (ds : List D) {vs : List V}, IsL G as H vs ds → IsL (G.at_ x) as H vs ds
  | [], _, h => by cases h; exact .nil
  | d :: ds, _, h => by cases h with | cons a b => exact .cons (Is.ea x d a) (IsL.ea x ds b)
end
section
variable {G : Gm} {as bs : List Addr} {H H' : Hp}
theorem Is.up {v : V} {d : D} (h : Is G as H v d) (x : Ext as bs) (e : Same H H') : Is G bs H' v d := Is.mono x e d h
theorem IsL.up {v : List V} {d : List D} (h : IsL G as H v d) (x : Ext as bs) (e : Same H H') : IsL G bs H' v d := IsL.mono x e d h
theorem IsL.len : ∀ {ds : List D} {vs : List V}, IsL G as H vs ds → vs.length = ds.length
  | [], _, h => by cases h; rfl
  | d :: ds, _, h => by cases h with | cons a b => exact congrArg Nat.succ b.len
theorem IsL.get : ∀ {ds : List D} {vs : List V} {i : Nat} {d : D}, IsL G as H vs ds → ds[i]? = some d → ∃ v, vs[i]? = some v ∧ Is G as H v d
  | [], _, _, _, _, e => by simp at e
  | d :: ds, _, 0, _, h, e => by cases h with | cons a b => simp at e; subst e; exact ⟨_, rfl, a⟩
  | d :: ds, _, i + 1, _, h, e => by
    cases h with
    | cons a b =>
      obtain ⟨v, h1, h2⟩ := IsL.get (i := i) b (by simpa using e)
      exact ⟨v, by simpa using h1, h2⟩
theorem IsL.getV {ds : List D} {vs : List V} {i : Nat} {v : V} (h : IsL G as H vs ds) (e : vs[i]? = some v) : ∃ d, ds[i]? = some d ∧ Is G as H v d := by
  have hl := h.len
  have hi : i < vs.length := (List.getElem?_eq_some_iff.mp e).1
  have : ds[i]? = some (ds[i]'(by omega)) := List.getElem?_eq_getElem (by omega)
  obtain ⟨w, h1, h2⟩ := h.get this
  rw [e] at h1
  cases h1
  exact ⟨_, this, h2⟩
theorem IsL.append : ∀ {ds es : List D} {vs ws : List V}, IsL G as H vs ds → IsL G as H ws es → IsL G as H (vs ++ ws) (ds ++ es)
  | [], _, _, _, h, k => by cases h; exact k
  | d :: ds, _, _, _, h, k => by cases h with | cons a b => exact .cons a (IsL.append b k)
theorem IsL.one {v : V} {d : D} (h : Is G as H v d) : IsL G as H [v] [d] := .cons h .nil
theorem IsL.take : ∀ (n : Nat) {ds : List D} {vs : List V}, IsL G as H vs ds → IsL G as H (vs.take n) (ds.take n)
  | 0, _, _, _ => .nil
  | n + 1, [], _, h => by cases h; exact .nil
  | n + 1, d :: ds, _, h => by cases h with | cons a b => exact .cons a (IsL.take n b)
theorem IsL.drop : ∀ (n : Nat) {ds : List D} {vs : List V}, IsL G as H vs ds → IsL G as H (vs.drop n) (ds.drop n)
  | 0, _, _, h => h
  | n + 1, [], _, h => by cases h; exact .nil
  | n + 1, d :: ds, _, h => by cases h with | cons a b => exact IsL.drop n b
theorem IsL.set {v : V} {d : D} (q : Is G as H v d) : ∀ (n : Nat) {ds : List D} {vs : List V}, IsL G as H vs ds → IsL G as H (vs.set n v) (ds.set n d)
  | _, [], _, h => by cases h; exact .nil
  | 0, _ :: ds, _, h => by cases h with | cons a b => exact .cons q b
  | n + 1, _ :: ds, _, h => by cases h with | cons a b => exact .cons a (IsL.set q n b)
theorem IsL.eraseIdx : ∀ (n : Nat) {ds : List D} {vs : List V}, IsL G as H vs ds → IsL G as H (vs.eraseIdx n) (ds.eraseIdx n)
  | _, [], _, h => by cases h; exact .nil
  | 0, _ :: ds, _, h => by cases h with | cons a b => exact b
  | n + 1, _ :: ds, _, h => by cases h with | cons a b => exact .cons a (IsL.eraseIdx n b)
theorem IsL.reverse : ∀ {ds : List D} {vs : List V}, IsL G as H vs ds → IsL G as H vs.reverse ds.reverse
  | [], _, h => by cases h; exact .nil
  | d :: ds, _, h => by
    cases h with
    | cons a b =>
      rw [List.reverse_cons, List.reverse_cons]
      exact (IsL.reverse b).append (.one a)
/-- data without an address -/
def flat : D → Bool
  | .non | .bl _ | .int _ | .str _ => true
  | _ => false
theorem Is.flat (bs : List Addr) (H' : Hp) {v : V} {d : D} (h : Is G as H v d) (f : flat d = true) : Is G bs H' v d := by
  cases h <;> first | exact .non | exact .bl _ | exact .int _ | exact .str _ | cases f
end
/-! ### the heap grows -/
theorem same_new {H : Hp} {p : Addr} {o : HO} (h : H p = none) : Same H (upd H p o) := fun a u e => by
  rw [upd_ne (ne_of_none e h)]
  exact e
/-- the frozen part and the store's addresses grow; outside the store all stands; what was not frozen is not frozen now; what is new in the store is new -/
structure Gro (s t : Hs) : Prop where
  a : Ext s.as t.as
  f : Same s.f t.f
  h : ∀ p o, s.h p = some o → p ∉ s.as → t.h p = some o
  sf : Same t.f t.h
  n : ∀ p o, s.h p = some o → s.f p = none → t.f p = none
  w : ∀ x, x ∈ t.as → x ∈ s.as ∨ s.h x = none
  z : ∀ x, x ∈ t.as → t.f x = none
theorem Gro.trans {s t u : Hs} (x : Gro s t) (y : Gro t u) : Gro s u where
  a := x.a.trans y.a
  f := x.f.trans y.f
  h := fun p o e q => y.h p o (x.h p o e q) fun m => (x.w p m).elim q fun z => by rw [e] at z; cases z
  sf := y.sf
  n := fun p o e q => by
    by_cases m : p ∈ s.as
    · exact y.z p (y.a.mem (x.a.mem m))
    · exact y.n p o (x.h p o e m) (x.n p o e q)
  w := fun p m => (y.w p m).elim (fun m => x.w p m) fun z => by
    by_cases m : p ∈ s.as
    · exact .inl m
    · cases e : s.h p with
      | none => exact .inr rfl
      | some o => rw [x.h p o e m] at z; cases z
  z := y.z
/-! ### the store -/
def ObOk (G : Gm) (s : Hs) (a : Addr) : Ob → Prop
  | .lst ds => ∃ vs, s.h a = some (.lst vs) ∧ IsL G s.as s.f vs ds
  | .ins c ds => ∃ dx vs, s.h a = some (.ins (G.ca c) dx ((G.fn c).zip vs)) ∧ vs.length ≤ (G.fn c).length ∧ IsL G s.as s.f vs ds
  | .tbl q => ∃ ps : Array Value, s.h a = some (.tbl ps) ∧ TriplesOk ps.toList ∧ ∀ (pos : Pos) (cv : Value), codeAmong pos ps.toList = some cv → ∃ c, cv = .ref c ∧ s.f c = some (LamX.CodeO c q)
/-- the fields of the error that an except suite holds -/
def ExF (G : Gm) (s : Hs) : Prop := ∀ da, G.ed = some da → ∃ xs, s.f da = some (.xd (G.en.zip xs)) ∧ G.en.length = xs.length ∧ IsL G s.as s.f xs G.el
theorem ExF.up {G : Gm} {s t : Hs} (k : ExF G s) (a : Ext s.as t.as) (f : Same s.f t.f) : ExF G t := fun da h => by
  obtain ⟨xs, h1, h2, h3⟩ := k da h
  exact ⟨xs, f _ _ h1, h2, h3.up a f⟩
structure StOk (G : Gm) (s : Hs) (st : Sto) : Prop where
  sf : Same s.f s.h
  len : s.as.length = st.length
  nd : s.as.Nodup
  ob : ∀ (n : Nat) (a : Addr) (o : Ob), s.as[n]? = some a → st[n]? = some o → ObOk G s a o
  nf : ∀ x, x ∈ s.as → s.f x = none
  tb : ∀ (n : Nat) (P : Addr), G.tb[n]? = some P → s.as[n]? = some P
  ex : ExF G s
theorem Gro.refl {G : Gm} {s : Hs} {st : Sto} (o : StOk G s st) : Gro s s := ⟨Ext.refl _, Same.refl _, fun _ _ e _ => e, o.sf, fun _ _ _ q => q, fun _ m => .inl m, o.nf⟩
theorem StOk.in_ {G : Gm} {s : Hs} {st : Sto} (o : StOk G s st) {x : Addr} (m : x ∈ s.as) : ∃ u, s.h x = some u := by
  obtain ⟨n, hn⟩ := List.mem_iff_getElem?.mp m
  have hl : n < st.length := by rw [← o.len]; exact (List.getElem?_eq_some_iff.mp hn).1
  have q := o.ob n x st[n] hn (List.getElem?_eq_getElem hl)
  cases e : st[n] with
  | lst ds => rw [e] at q; obtain ⟨vs, h, _⟩ := q; exact ⟨_, h⟩
  | ins c ds => rw [e] at q; obtain ⟨dx, vs, h, _⟩ := q; exact ⟨_, h⟩
  | tbl w => rw [e] at q; obtain ⟨ps, h, _⟩ := q; exact ⟨_, h⟩
theorem StOk.new {G : Gm} {s : Hs} {st : Sto} (o : StOk G s st) {p : Addr} (h : s.h p = none) : p ∉ s.as := fun m => by
  obtain ⟨u, e⟩ := o.in_ m
  rw [h] at e; cases e
theorem ObOk.keep {G : Gm} {s t : Hs} {a : Addr} {o : Ob} (q : ObOk G s a o) (x : Ext s.as t.as) (f : Same s.f t.f) (h : ∀ u, s.h a = some u → t.h a = some u) : ObOk G t a o := by
  cases o with
  | lst ds => obtain ⟨vs, h1, h2⟩ := q; exact ⟨vs, h _ h1, h2.up x f⟩
  | ins c ds => obtain ⟨dx, vs, h1, hl, h2⟩ := q; exact ⟨dx, vs, h _ h1, hl, h2.up x f⟩
  | tbl w =>
    obtain ⟨ps, h1, h2, h3⟩ := q
    refine ⟨ps, h _ h1, h2, fun pos cv hc => ?_⟩
    obtain ⟨c, e1, e2⟩ := h3 pos cv hc
    exact ⟨c, e1, f _ _ e2⟩
/-- something new, frozen at once -/
theorem Gro.new {G : Gm} {s : Hs} {st : Sto} {p : Addr} {o : HO} (k : StOk G s st) (h : s.h p = none) : Gro s ⟨s.as, upd s.f p o, upd s.h p o⟩ := by
  refine ⟨Ext.refl _, same_new (k.sf.free h), fun a u e _ => ?_, fun a u e => ?_, fun a u e q => ?_, fun _ m => .inl m, fun x m => ?_⟩
  · show upd s.h p o a = some u
    rw [upd_ne (ne_of_none e h)]; exact e
  · have e' : upd s.f p o a = some u := e
    show upd s.h p o a = some u
    by_cases z : a = p
    · subst z; rw [upd_same] at e' ⊢; exact e'
    · rw [upd_ne z] at e' ⊢; exact k.sf _ _ e'
  · show upd s.f p o a = none
    rw [upd_ne (ne_of_none e h)]; exact q
  · show upd s.f p o x = none
    have : x ≠ p := fun z => by subst z; exact k.new h m
    rw [upd_ne this]; exact k.nf x m
/-- something new that is not frozen -/
theorem Gro.loose {G : Gm} {s : Hs} {st : Sto} {p : Addr} {o : HO} (k : StOk G s st) (h : s.h p = none) : Gro s ⟨s.as, s.f, upd s.h p o⟩ :=
  ⟨Ext.refl _, Same.refl _, fun a u e _ => by show upd s.h p o a = some u; rw [upd_ne (ne_of_none e h)]; exact e, k.sf.trans (same_new h), fun _ _ _ q => q, fun _ m => .inl m, k.nf⟩
theorem StOk.grow {G : Gm} {s : Hs} {st : Sto} {p : Addr} {o : HO} (k : StOk G s st) (h : s.h p = none) : StOk G ⟨s.as, upd s.f p o, upd s.h p o⟩ st := by
  have g := Gro.new (o := o) k h
  refine ⟨g.sf, k.len, k.nd, fun n a b e1 e2 => (k.ob n a b e1 e2).keep g.a g.f fun u e => ?_, g.z, k.tb, k.ex.up g.a g.f⟩
  show upd s.h p o a = some u
  rw [upd_ne (ne_of_none e h)]; exact e
theorem StOk.loose {G : Gm} {s : Hs} {st : Sto} {p : Addr} {o : HO} (k : StOk G s st) (h : s.h p = none) : StOk G ⟨s.as, s.f, upd s.h p o⟩ st := by
  have g := Gro.loose (o := o) k h
  refine ⟨g.sf, k.len, k.nd, fun n a b e1 e2 => (k.ob n a b e1 e2).keep g.a g.f fun u e => ?_, g.z, k.tb, k.ex.up g.a g.f⟩
  show upd s.h p o a = some u
  rw [upd_ne (ne_of_none e h)]; exact e
/-- a loose object (no part of the store, not frozen) is frozen -/
theorem Gro.ice {G : Gm} {s t : Hs} {st : Sto} {p : Addr} {o : HO} (g : Gro s t) (k : StOk G t st) (hp : t.h p = some o) (hs : s.h p = none) (hf : t.f p = none) (ha : p ∉ t.as) : Gro s ⟨t.as, upd t.f p o, t.h⟩ := by
  refine ⟨g.a, g.f.trans (same_new hf), g.h, fun a u e => ?_, fun a u e q => ?_, g.w, fun x m => ?_⟩
  · have e' : upd t.f p o a = some u := e
    show t.h a = some u
    by_cases z : a = p
    · subst z; rw [upd_same] at e'; rw [← e']; exact hp
    · rw [upd_ne z] at e'; exact g.sf _ _ e'
  · show upd t.f p o a = none
    rw [upd_ne (ne_of_none e hs)]; exact g.n _ _ e q
  · show upd t.f p o x = none
    have : x ≠ p := fun z => by subst z; exact ha m
    rw [upd_ne this]; exact g.z x m
theorem StOk.ice {G : Gm} {t : Hs} {st : Sto} {p : Addr} {o : HO} (k : StOk G t st) (hp : t.h p = some o) (hf : t.f p = none) (ha : p ∉ t.as) : StOk G ⟨t.as, upd t.f p o, t.h⟩ st := by
  refine ⟨fun a u e => ?_, k.len, k.nd, fun n a b e1 e2 => (k.ob n a b e1 e2).keep (Ext.refl _) (same_new hf) fun u e => e, fun x m => ?_, k.tb, k.ex.up (Ext.refl _) (same_new hf)⟩
  · have e' : upd t.f p o a = some u := e
    show t.h a = some u
    by_cases z : a = p
    · subst z; rw [upd_same] at e'; rw [← e']; exact hp
    · rw [upd_ne z] at e'; exact k.sf _ _ e'
  · show upd t.f p o x = none
    have : x ≠ p := fun z => by subst z; exact ha m
    rw [upd_ne this]; exact k.nf x m
/-- a loose object changes -/
theorem Gro.chg {s t : Hs} {p : Addr} {o : HO} (g : Gro s t) (h : s.h p = none) (hf : t.f p = none) : Gro s ⟨t.as, t.f, upd t.h p o⟩ :=
  ⟨g.a, g.f, fun a u e q => by show upd t.h p o a = some u; rw [upd_ne (ne_of_none e h)]; exact g.h _ _ e q, fun a u e => by show upd t.h p o a = some u; rw [upd_ne (ne_of_none e hf)]; exact g.sf _ _ e, g.n, g.w, g.z⟩
theorem StOk.chg {G : Gm} {t : Hs} {st : Sto} {p : Addr} {o : HO} (k : StOk G t st) (hf : t.f p = none) (ha : p ∉ t.as) : StOk G ⟨t.as, t.f, upd t.h p o⟩ st := by
  refine ⟨fun a u e => by show upd t.h p o a = some u; rw [upd_ne (ne_of_none e hf)]; exact k.sf _ _ e, k.len, k.nd, fun n a b e1 e2 => (k.ob n a b e1 e2).keep (Ext.refl _) (Same.refl _) fun u e => ?_, k.nf, k.tb, k.ex.up (Ext.refl _) (Same.refl _)⟩
  show upd t.h p o a = some u
  have : a ≠ p := fun z => by subst z; exact ha (List.mem_iff_getElem?.mpr ⟨n, e1⟩)
  rw [upd_ne this]; exact e
/-- a loose object goes into the store -/
theorem Gro.put {G : Gm} {s t : Hs} {st : Sto} {p : Addr} (g : Gro s t) (k : StOk G t st) (hs : s.h p = none) (hf : t.f p = none) : Gro s ⟨t.as ++ [p], t.f, t.h⟩ := by
  refine ⟨g.a.trans (Ext.app _ _), g.f, g.h, g.sf, g.n, fun x m => ?_, fun x m => ?_⟩
  · rcases List.mem_append.mp m with m | m
    · exact g.w x m
    · have : x = p := by simpa using m
      subst this; exact .inr hs
  · rcases List.mem_append.mp m with m | m
    · exact g.z x m
    · have : x = p := by simpa using m
      subst this; exact hf
theorem StOk.put {G : Gm} {t : Hs} {st : Sto} {p : Addr} {o : Ob} (k : StOk G t st) (hf : t.f p = none) (ha : p ∉ t.as) (ho : ObOk G ⟨t.as ++ [p], t.f, t.h⟩ p o) : StOk G ⟨t.as ++ [p], t.f, t.h⟩ (st ++ [o]) := by
  refine ⟨k.sf, by simp [k.len], ?_, fun n a b e1 e2 => ?_, fun x m => ?_, fun n P h => Ext.app _ _ n P (k.tb n P h), k.ex.up (Ext.app _ _) (Same.refl _)⟩
  · show (t.as ++ [p]).Nodup
    rw [List.nodup_append]
    refine ⟨k.nd, by simp, fun a h1 b h2 z => ?_⟩
    have : b = p := by simpa using h2
    subst this; subst z; exact ha h1
  · have e1' : (t.as ++ [p])[n]? = some a := e1
    by_cases hn : n < t.as.length
    · rw [List.getElem?_append_left hn] at e1'
      rw [List.getElem?_append_left (by rw [← k.len]; exact hn)] at e2
      exact (k.ob n a b e1' e2).keep (Ext.app _ _) (Same.refl _) fun u e => e
    · have hn' : n = t.as.length := by
        have := (List.getElem?_eq_some_iff.mp e1').1
        simp at this; omega
      subst hn'
      rw [List.getElem?_append_right (Nat.le_refl _)] at e1'
      rw [k.len, List.getElem?_append_right (Nat.le_refl _)] at e2
      simp at e1' e2
      subst e1'; subst e2
      exact ho
  · rcases List.mem_append.mp m with m | m
    · exact k.nf x m
    · have : x = p := by simpa using m
      subst this; exact hf
/-- an object of the store changes -/
theorem Gro.mod {G : Gm} {s t : Hs} {st : Sto} {n : Nat} {a : Addr} {o : HO} (g : Gro s t) (k : StOk G t st) (ha : t.as[n]? = some a) : Gro s ⟨t.as, t.f, upd t.h a o⟩ := by
  have m : a ∈ t.as := List.mem_iff_getElem?.mpr ⟨n, ha⟩
  refine ⟨g.a, g.f, fun p u e q => ?_, fun p u e => ?_, g.n, g.w, g.z⟩
  · show upd t.h a o p = some u
    have : p ≠ a := fun z => by
      subst z
      exact (g.w p m).elim q fun z => by rw [e] at z; cases z
    rw [upd_ne this]; exact g.h _ _ e q
  · show upd t.h a o p = some u
    have : p ≠ a := fun z => by
      subst z
      have := k.nf p m
      rw [show t.f p = some u from e] at this; cases this
    rw [upd_ne this]; exact k.sf _ _ e
theorem StOk.mod {G : Gm} {t : Hs} {st : Sto} {n : Nat} {a : Addr} {o : HO} {b : Ob} (k : StOk G t st) (ha : t.as[n]? = some a) (ho : ObOk G ⟨t.as, t.f, upd t.h a o⟩ a b) : StOk G ⟨t.as, t.f, upd t.h a o⟩ (st.set n b) := by
  have m : a ∈ t.as := List.mem_iff_getElem?.mpr ⟨n, ha⟩
  refine ⟨fun p u e => ?_, by simp [k.len], k.nd, fun j x c e1 e2 => ?_, k.nf, k.tb, k.ex.up (Ext.refl _) (Same.refl _)⟩
  · show upd t.h a o p = some u
    have : p ≠ a := fun z => by
      subst z
      have := k.nf p m
      rw [show t.f p = some u from e] at this; cases this
    rw [upd_ne this]; exact k.sf _ _ e
  · by_cases z : n = j
    · subst z
      rw [List.getElem?_set_self (by rw [← k.len]; exact (List.getElem?_eq_some_iff.mp ha).1)] at e2
      cases e2
      have e1' : t.as[n]? = some x := e1
      rw [ha] at e1'; cases e1'
      exact ho
    · rw [List.getElem?_set_ne z] at e2
      refine (k.ob j x c e1 e2).keep (Ext.refl _) (Same.refl _) fun u e => ?_
      show upd t.h a o x = some u
      have : x ≠ a := fun y => by
        subst y
        have e1' : t.as[j]? = some x := e1
        exact z (nd_ix k.nd ha e1')
      rw [upd_ne this]; exact e
/-! ### values as they come: P frozen, B a list of the def's own, N a new list -/
inductive Md where | P | B | N
  deriving DecidableEq
def VOk (G : Gm) (s t : Hs) : Md → V → D → Prop
  | .P, v, d => Is G t.as t.f v d
  | .B, v, d => ∃ p vs l, v = .ref p ∧ d = .lst l ∧ t.h p = some (.lst vs) ∧ IsL G t.as t.f vs l ∧ p ∉ t.as
  | .N, v, d => ∃ p vs l, v = .ref p ∧ d = .lst l ∧ t.h p = some (.lst vs) ∧ IsL G t.as t.f vs l ∧ p ∉ t.as ∧ s.h p = none ∧ t.f p = none
/-- what every value is good for, at once -/
def U (G : Gm) (t : Hs) (v : V) (d : D) : Prop := Is G t.as t.f v d ∨ ∃ p vs l, v = .ref p ∧ d = .lst l ∧ t.h p = some (.lst vs) ∧ IsL G t.as t.f vs l ∧ p ∉ t.as
section
variable {G : Gm} {s t t' : Hs} {v : V} {d : D} {m : Md}
theorem VOk.u (h : VOk G s t m v d) : U G t v d := by
  cases m with
  | P => exact .inl h
  | B => exact .inr h
  | N => obtain ⟨p, vs, l, a, b, c, e, f, _⟩ := h; exact .inr ⟨p, vs, l, a, b, c, e, f⟩
theorem U.up (h : U G t v d) (g : Gro t t') : U G t' v d := by
  rcases h with h | ⟨p, vs, l, a, b, c, e, f⟩
  · exact .inl (h.up g.a g.f)
  · exact .inr ⟨p, vs, l, a, b, g.h _ _ c f, e.up g.a g.f, fun m => (g.w p m).elim f fun z => by rw [c] at z; cases z⟩
theorem U.lst {l : List D} (h : U G t v (.lst l)) (s : Same t.f t.h) : ∃ p vs, v = .ref p ∧ t.h p = some (.lst vs) ∧ IsL G t.as t.f vs l := by
  rcases h with h | ⟨p, vs, l', rfl, e, c, q, _⟩
  · cases h with | lst a b => exact ⟨_, _, rfl, s _ _ a, b⟩
  · cases e; exact ⟨p, vs, rfl, c, q⟩
theorem U.scr {l : List Int} (h : U G t v (.scr l)) (s : Same t.f t.h) : ∃ p, v = .ref p ∧ SqL G.K t.h p (l.map V.int) := by
  rcases h with h | ⟨p, vs, l', rfl, e, c, q, _⟩
  · cases h with | scr a => exact ⟨_, rfl, s.seq a⟩
  · cases e
theorem U.tup {l : List D} (h : U G t v (.tup l)) (s : Same t.f t.h) : ∃ p vs, v = .ref p ∧ SqT G.K t.h p vs ∧ IsL G t.as t.f vs l := by
  rcases h with h | ⟨p, vs, l', rfl, e, c, q, _⟩
  · cases h with | tup a b => exact ⟨_, _, rfl, same_t s a, b⟩
  · cases e
theorem U.tupI {l : List D} (h : U G t v (.tup l)) : Is G t.as t.f v (.tup l) := by
  rcases h with h | ⟨p, vs, l', a, b, _⟩
  · exact h
  · cases b
theorem U.ptr {n : Nat} (h : U G t v (.ptr n)) : ∃ p, v = .ref p ∧ t.as[n]? = some p := by
  rcases h with h | ⟨p, vs, l', rfl, e, c, q, _⟩
  · cases h with | ptr a => exact ⟨_, rfl, a⟩
  · cases e
theorem U.obj {c : Nat} {l : List D} (h : U G t v (.obj c l)) (s : Same t.f t.h) : ∃ p dx vs, v = .ref p ∧ t.h p = some (.ins (G.ca c) dx ((G.fn c).zip vs)) ∧ (G.fn c).length = vs.length ∧ IsL G t.as t.f vs l := by
  rcases h with h | ⟨p, vs, l', rfl, e, c, q, _⟩
  · cases h with | obj a l b => exact ⟨_, _, _, rfl, s _ _ a, l, b⟩
  · cases e
theorem U.int {i : Int} (h : U G t v (.int i)) : v = .int i := by
  rcases h with h | ⟨p, vs, l', rfl, e, _⟩
  · cases h; rfl
  · cases e
theorem U.bl {i : Bool} (h : U G t v (.bl i)) : v = .bl i := by
  rcases h with h | ⟨p, vs, l', rfl, e, _⟩
  · cases h; rfl
  · cases e
theorem U.str {i : Str} (h : U G t v (.str i)) : v = .str i := by
  rcases h with h | ⟨p, vs, l', rfl, e, _⟩
  · cases h; rfl
  · cases e
theorem U.non (h : U G t v .non) : v = .non := by
  rcases h with h | ⟨p, vs, l', rfl, e, _⟩
  · cases h; rfl
  · cases e
theorem VOk.up (h : VOk G s t m v d) (g : Gro t t') : VOk G s t' m v d := by
  have na : ∀ {p : Addr} {o : HO}, t.h p = some o → p ∉ t.as → p ∉ t'.as := fun {p o} c f m => (g.w p m).elim f fun z => by rw [c] at z; cases z
  cases m with
  | P => exact Is.up h g.a g.f
  | B => obtain ⟨p, vs, l, a, b, c, e, f⟩ := h; exact ⟨p, vs, l, a, b, g.h _ _ c f, e.up g.a g.f, na c f⟩
  | N => obtain ⟨p, vs, l, a, b, c, e, f, n, z⟩ := h; exact ⟨p, vs, l, a, b, g.h _ _ c f, e.up g.a g.f, na c f, n, g.n _ _ c z⟩
/-- new since s is new since earlier -/
theorem VOk.back {r : Hs} {st : Sto} (h : VOk G s t m v d) (g : Gro r s) (k : StOk G s st) : VOk G r t m v d := by
  cases m with
  | P => exact h
  | B => exact h
  | N =>
    obtain ⟨p, vs, l, a, b, c, e, f, n, z⟩ := h
    refine ⟨p, vs, l, a, b, c, e, f, ?_, z⟩
    cases q : r.h p with
    | none => rfl
    | some o =>
      by_cases i : p ∈ r.as
      · exact absurd (g.a.mem i) (k.new n)
      · rw [g.h p o q i] at n; cases n
/-- what is new is frozen -/
theorem VOk.freeze {st : Sto} (h : VOk G s t m v d) (g : Gro s t) (k : StOk G t st) (hm : m ≠ .B) : ∃ f, Gro s ⟨t.as, f, t.h⟩ ∧ StOk G ⟨t.as, f, t.h⟩ st ∧ Same t.f f ∧ Is G t.as f v d := by
  cases m with
  | P => exact ⟨t.f, g, k, Same.refl _, h⟩
  | B => exact absurd rfl hm
  | N =>
    obtain ⟨p, vs, l, rfl, rfl, c, e, f, n, z⟩ := h
    exact ⟨upd t.f p (.lst vs), g.ice k c n z f, k.ice c z f, same_new z, .lst upd_same (e.up (Ext.refl _) (same_new z))⟩
end
/-! ### slots -/
inductive SL where | emp | val (d : D) | own (l : List D) | exn | clo (ds : List (Option D))
abbrev DE := List SL
/-- the slots and the store -/
structure En where
  e : DE
  st : Sto
def SlotOk (G : Gm) (s t : Hs) : Option V → SL → Prop
  | _, .emp => True
  | o, .exn => o = some (.ref G.ea)
  | o, .clo ds => o = some (.ref G.ea) ∧ G.cl.length = ds.length ∧ t.f G.cc = some (LamX.CodeO G.cc G.cq) ∧ ∀ (i : Nat) (d : D), ds[i]? = some (some d) → ∃ v, G.cl[i]? = some (some v) ∧ Is G t.as t.f v d
  | o, .val d => ∃ v, o = some v ∧ Is G t.as t.f v d
  | o, .own l => ∃ p vs, o = some (.ref p) ∧ s.h p = none ∧ t.f p = none ∧ t.h p = some (.lst vs) ∧ IsL G t.as t.f vs l ∧ p ∉ t.as
/-- s: as it stood at the def's entry, t: as it stands -/
structure EnvOk (G : Gm) (s t : Hs) (σ : L2.St) (e : DE) : Prop where
  gr : Gro s t
  len : σ.length = e.length
  at_ : ∀ (i : Nat) (o : Option V) (x : SL), σ[i]? = some o → e[i]? = some x → SlotOk G s t o x
  dis : ∀ (i j : Nat) (p : Addr) (l m : List D), i ≠ j → σ[i]? = some (some (.ref p)) → e[i]? = some (.own l) → σ[j]? = some (some (.ref p)) → e[j]? = some (.own m) → False
section
variable {G : Gm} {s t t' : Hs} {σ : L2.St} {e : DE} {st : Sto}
theorem SlotOk.up {o : Option V} {x : SL} (h : SlotOk G s t o x) (g : Gro t t') : SlotOk G s t' o x := by
  cases x with
  | emp => trivial
  | exn => exact h
  | clo ds =>
    obtain ⟨h1, h2, h3, h4⟩ := h
    refine ⟨h1, h2, g.f _ _ h3, fun i d hd => ?_⟩
    obtain ⟨v, a, b⟩ := h4 i d hd
    exact ⟨v, a, b.up g.a g.f⟩
  | val d => obtain ⟨v, a, b⟩ := h; exact ⟨v, a, b.up g.a g.f⟩
  | own l => obtain ⟨p, vs, a, b, c, d, e, f⟩ := h; exact ⟨p, vs, a, b, g.n _ _ d c, g.h _ _ d f, e.up g.a g.f, fun m => (g.w p m).elim f fun z => by rw [d] at z; cases z⟩
theorem EnvOk.up (h : EnvOk G s t σ e) (g : Gro t t') : EnvOk G s t' σ e :=
  ⟨h.gr.trans g, h.len, fun i o s a b => (h.at_ i o s a b).up g, h.dis⟩
theorem EnvOk.slot {i : Nat} {x : SL} (h : EnvOk G s t σ e) (hs : e[i]? = some x) : ∃ o, σ[i]? = some o ∧ SlotOk G s t o x := by
  have hi : i < e.length := (List.getElem?_eq_some_iff.mp hs).1
  have e1 : σ[i]? = some (σ[i]'(by have := h.len; omega)) := List.getElem?_eq_getElem _
  exact ⟨_, e1, h.at_ i _ x e1 hs⟩
/-- a slot takes a frozen value, or none that is known -/
theorem EnvOk.set {i : Nat} {o : Option V} {x : SL} (h : EnvOk G s t σ e) (hs : SlotOk G s t o x) (hn : ∀ l, x ≠ .own l) : EnvOk G s t (σ.set i o) (e.set i x) := by
  refine ⟨h.gr, by simp [h.len], fun j o' s' a b => ?_, fun j k p l m hjk a b c d => ?_⟩
  · by_cases z : i = j
    · subst z
      have hi : i < σ.length := by
        have := (List.getElem?_eq_some_iff.mp a).1
        simpa using this
      rw [List.getElem?_set_self hi] at a
      rw [List.getElem?_set_self (by rw [← h.len]; exact hi)] at b
      cases a; cases b; exact hs
    · rw [List.getElem?_set_ne z] at a b
      exact h.at_ j o' s' a b
  · by_cases z : i = j
    · subst z
      have hi : i < e.length := by
        have := (List.getElem?_eq_some_iff.mp b).1
        simpa using this
      rw [List.getElem?_set_self hi] at b
      cases b
      exact absurd rfl (hn l)
    · by_cases z2 : i = k
      · subst z2
        have hi : i < e.length := by
          have := (List.getElem?_eq_some_iff.mp d).1
          simpa using this
        rw [List.getElem?_set_self hi] at d
        cases d
        exact absurd rfl (hn m)
      · rw [List.getElem?_set_ne z] at a b
        rw [List.getElem?_set_ne z2] at c d
        exact h.dis j k p l m hjk a b c d
/-- a slot takes a list of the def's own, whose address no other slot has -/
theorem EnvOk.setOwn {i : Nat} {p : Addr} {vs : List V} {l : List D} (h : EnvOk G s t σ e) (h0 : s.h p = none) (hf : t.f p = none) (hp : t.h p = some (.lst vs)) (hl : IsL G t.as t.f vs l) (ha : p ∉ t.as)
    (hne : ∀ (j : Nat) (m : List D), j ≠ i → σ[j]? = some (some (.ref p)) → e[j]? = some (.own m) → False) : EnvOk G s t (σ.set i (some (.ref p))) (e.set i (.own l)) := by
  refine ⟨h.gr, by simp [h.len], fun j o' s' a b => ?_, fun j k q l1 m hjk a b c d => ?_⟩
  · by_cases z : i = j
    · subst z
      have hi : i < σ.length := by
        have := (List.getElem?_eq_some_iff.mp a).1
        simpa using this
      rw [List.getElem?_set_self hi] at a
      rw [List.getElem?_set_self (by rw [← h.len]; exact hi)] at b
      cases a; cases b; exact ⟨p, vs, rfl, h0, hf, hp, hl, ha⟩
    · rw [List.getElem?_set_ne z] at a b
      exact h.at_ j o' s' a b
  · by_cases z : i = j
    · subst z
      have hi : i < σ.length := by
        have := (List.getElem?_eq_some_iff.mp a).1
        simpa using this
      rw [List.getElem?_set_self hi] at a
      rw [List.getElem?_set_ne hjk] at c d
      cases a
      exact hne k m (fun z => hjk z.symm) c d
    · by_cases z2 : i = k
      · subst z2
        have hi : i < σ.length := by
          have := (List.getElem?_eq_some_iff.mp c).1
          simpa using this
        rw [List.getElem?_set_self hi] at c
        rw [List.getElem?_set_ne z] at a b
        cases c
        exact hne j l1 hjk a b
      · rw [List.getElem?_set_ne z] at a b
        rw [List.getElem?_set_ne z2] at c d
        exact h.dis j k q l1 m hjk a b c d
/-- an own list changes -/
theorem EnvOk.chg {i : Nat} {p : Addr} {vs : List V} {l l' : List D} (h : EnvOk G s t σ e) (hσ : σ[i]? = some (some (.ref p))) (he : e[i]? = some (.own l')) (h0 : s.h p = none) (hf : t.f p = none) (hl : IsL G t.as t.f vs l) (ha : p ∉ t.as) :
    EnvOk G s ⟨t.as, t.f, upd t.h p (.lst vs)⟩ σ (e.set i (.own l)) := by
  refine ⟨h.gr.chg h0 hf, by simp [h.len], fun j o' s' a b => ?_, fun j k q l1 m hjk a b c d => ?_⟩
  · by_cases z : i = j
    · subst z
      have hi : i < e.length := (List.getElem?_eq_some_iff.mp he).1
      rw [List.getElem?_set_self hi] at b
      rw [hσ] at a
      cases a; cases b; exact ⟨p, vs, rfl, h0, hf, upd_same, hl, ha⟩
    · rw [List.getElem?_set_ne z] at b
      have q := h.at_ j o' s' a b
      cases s' with
      | emp => trivial
      | exn => exact q
      | clo ds => exact q
      | val d => exact q
      | own m =>
        obtain ⟨p', vs', rfl, b1, b2, b3, b4, b5⟩ := q
        have : p' ≠ p := fun zz => by subst zz; exact h.dis i j p' l' m z hσ he a b
        exact ⟨p', vs', rfl, b1, b2, by show upd t.h p (.lst vs) p' = _; rw [upd_ne this]; exact b3, b4, b5⟩
  · have own_of : ∀ (j : Nat) (l1 : List D), (e.set i (.own l))[j]? = some (.own l1) → ∃ l2, e[j]? = some (.own l2) := fun j l1 b => by
      by_cases z : i = j
      · subst z; exact ⟨l', he⟩
      · rw [List.getElem?_set_ne z] at b; exact ⟨l1, b⟩
    obtain ⟨l2, b'⟩ := own_of j l1 b
    obtain ⟨l3, d'⟩ := own_of k m d
    exact h.dis j k q l2 l3 hjk a b' c d'
/-- something else changes that is loose -/
theorem EnvOk.other {p : Addr} {o : HO} (E : EnvOk G s t σ e) (h0 : s.h p = none) (hf : t.f p = none)
    (hne : ∀ (j : Nat) (m : List D), σ[j]? = some (some (.ref p)) → e[j]? = some (.own m) → False) : EnvOk G s ⟨t.as, t.f, upd t.h p o⟩ σ e := by
  refine ⟨E.gr.chg h0 hf, E.len, fun i x y a b => ?_, E.dis⟩
  have ok := E.at_ i x y a b
  cases y with
  | emp => trivial
  | exn => exact ok
  | clo ds => exact ok
  | val d => exact ok
  | own l =>
    obtain ⟨q, vs, rfl, a1, a2, a3, a4, a5⟩ := ok
    have : q ≠ p := fun z => by subst z; exact hne i l a b
    exact ⟨q, vs, rfl, a1, a2, by show upd t.h p o q = _; rw [upd_ne this]; exact a3, a4, a5⟩
end
/-! ### results -/
inductive ER where | val (m : Md) (d : D) (st : Sto) | exc (c : Nat) (l : List D) (st : Sto) | bad
/-- an exception of the class c with the fields l: its own dict, frozen -/
def ExcOk (G : Gm) (s : Hs) (c : Nat) (l : List D) (x : Option Addr) : Prop :=
  (l = [] ∧ x = none) ∨ ∃ da xs, x = some da ∧ l ≠ [] ∧ s.f da = some (.xd ((G.fn c).zip xs)) ∧ (G.fn c).length = xs.length ∧ IsL G s.as s.f xs l
theorem ExcOk.up {G : Gm} {s t : Hs} {c : Nat} {l : List D} {x : Option Addr} (h : ExcOk G s c l x) (g : Gro s t) : ExcOk G t c l x := by
  rcases h with h | ⟨da, xs, a, b, c, d, e⟩
  · exact .inl h
  · exact .inr ⟨da, xs, a, b, g.f _ _ c, d, e.up g.a g.f⟩
def RPost (G : Gm) (W : WX) (s : Hs) (σ : L2.St) (Q : VK) : ER → Prop
  | .val m d st => ∀ t v, Gro s t → StOk G t st → VOk G s t m v d → Q v t.h
  | .exc c l st => ∀ t x, Gro s t → StOk G t st → ExcOk G t c l x → W (.ref (G.ca c)) x σ t.h
  | .bad => False
section
variable {G : Gm} {W : WX} {s t : Hs} {σ : L2.St} {Q Q' : VK} {st : Sto}
theorem RPost.step {r : ER} (g : Gro s t) (k : StOk G t st) (h : RPost G W s σ Q r) : RPost G W t σ Q r := by
  cases r with
  | val m d st' => exact fun u v g' o' o => h u v (g.trans g') o' (o.back g k)
  | exc c l st' => exact fun u x g' o' o => h u x (g.trans g') o' o
  | bad => exact h
def ER.bind (r : ER) (k : D → Sto → ER) : ER := match r with
  | .val _ d st => k d st
  | .exc c l st => .exc c l st
  | .bad => .bad
@[simp] theorem ER.bind_val (m : Md) (d : D) (st : Sto) (k : D → Sto → ER) : (ER.val m d st).bind k = k d st := rfl
@[simp] theorem ER.bind_exc (c : Nat) (l : List D) (st : Sto) (k : D → Sto → ER) : (ER.exc c l st).bind k = .exc c l st := rfl
@[simp] theorem ER.bind_bad (k : D → Sto → ER) : ER.bad.bind k = .bad := rfl
/-- the expression's reading te is the function f of the slots and the store -/
def DEv (G : Gm) (W : WX) (te : TE) (f : En → ER) : Prop :=
  ∀ s t σ e st, EnvOk G s t σ e → StOk G t st → ∀ Q : VK, RPost G W t σ Q (f ⟨e, st⟩) → te σ t.h Q
/-- two results, one behind the other -/
theorem RPost.bind {r : ER} {k : D → Sto → ER} (h : RPost G W s σ Q (r.bind k))
    (hk : ∀ m d st t v, Gro s t → StOk G t st → VOk G s t m v d → RPost G W t σ Q (k d st) → Q' v t.h) : RPost G W s σ Q' r := by
  cases r with
  | val m d st => exact fun t v g o' o => hk m d st t v g o' o (RPost.step g o' h)
  | exc c l st => exact h
  | bad => exact h
end
end Dn
namespace Dn
open PySem PySem.Spec PyProof.Rows L2
/-! ### operators by values -/
def rOr (r r' : R2) : R2 := fun x y H Q => r x y H Q ∨ r' x y H Q
theorem opOr {X : Cx} {f : Value → Value → Sem Value} {r r' : R2} (h : OpR X f r) (h' : OpR X f r') : OpR X f (rOr r r') := by
  intro pins s σ H x y v u Q I rx ry q
  rcases q with q | q
  · exact h pins s σ H x y v u Q I rx ry q
  · exact h' pins s σ H x y v u Q I rx ry q
/-- the operator's reading r is the function o of data -/
def DOp (G : Gm) (r : R2) (o : D → D → Sto → ER) : Prop :=
  ∀ (W : WX) (σ : L2.St) (s : Hs) (st : Sto) (v w : V) (d d' : D), StOk G s st → U G s v d → U G s w d' → ∀ Q : VK, RPost G W s σ Q (o d d' st) → r v w s.h Q
section
variable {G : Gm} {W : WX} {s : Hs} {σ : L2.St} {Q : VK} {st : Sto}
theorem RPost.now {v : V} {d : D} (k : StOk G s st) (h : RPost G W s σ Q (.val .P d st)) (hv : Is G s.as s.f v d) : Q v s.h := h s v (Gro.refl k) k hv
theorem RPost.newL {vs : List V} {l : List D} (k : StOk G s st) (h : RPost G W s σ Q (.val .N (.lst l) st)) (hv : IsL G s.as s.f vs l) {p : Addr} (hp : s.h p = none) : Q (.ref p) (upd s.h p (.lst vs)) :=
  h ⟨s.as, s.f, upd s.h p (.lst vs)⟩ _ (Gro.loose k hp) (k.loose hp) ⟨p, vs, l, rfl, rfl, upd_same, hv, k.new hp, hp, k.sf.free hp⟩
theorem RPost.newT {vs : List V} {l : List D} (k : StOk G s st) (h : RPost G W s σ Q (.val .P (.tup l) st)) (hv : IsL G s.as s.f vs l) {p : Addr} (hp : s.h p = none) : Q (.ref p) (upd s.h p (.tup vs)) :=
  h ⟨s.as, upd s.f p (.tup vs), upd s.h p (.tup vs)⟩ _ (Gro.new k hp) (k.grow hp) (.tup (SqT.of upd_same) (hv.up (Ext.refl _) (same_new (k.sf.free hp))))
theorem RPost.cond (c : Prop) [Decidable c] (r : ER) (h : RPost G W s σ Q (if c then r else .bad)) : c ∧ RPost G W s σ Q r := by
  by_cases q : c
  · rw [if_pos q] at h; exact ⟨q, h⟩
  · rw [if_neg q] at h; exact h.elim
def ofOpt {α : Type} (o : Option α) (k : α → ER) : ER := match o with
  | some d => k d
  | none => .bad
@[simp] theorem ofOpt_some {α : Type} (a : α) (k : α → ER) : ofOpt (some a) k = k a := rfl
@[simp] theorem ofOpt_none {α : Type} (k : α → ER) : ofOpt none k = .bad := rfl
theorem RPost.opt {α : Type} (o : Option α) (k : α → ER) (h : RPost G W s σ Q (ofOpt o k)) : ∃ d, o = some d ∧ RPost G W s σ Q (k d) := by
  cases o with
  | none => exact h.elim
  | some d => exact ⟨d, rfl, h⟩
end
theorem sz {n : Nat} (h : n ≤ 1000000) : n ≤ sizeLine := Nat.le_trans h (by decide)
theorem szlt {n : Nat} (h : n < 1000000) : n < sizeLine := Nat.lt_of_lt_of_le h (by decide)
section
variable {G : Gm}
/-! + -/
def oAdd : D → D → Sto → ER
  | .int i, .int j, st => .val .P (.int (i + j)) st
  | .str a, .str b, st => if a.length + b.length ≤ 1000000 then .val .P (.str (a ++ b)) st else .bad
  | .lst a, .lst b, st => if a.length + b.length ≤ 1000000 then .val .N (.lst (a ++ b)) st else .bad
  | .tup a, .tup b, st => if a.length + b.length ≤ 1000000 then .val .P (.tup (a ++ b)) st else .bad
  | _, _, _ => .bad
abbrev rAddS : R2 := fun x y H Q => ∃ i j, x = .str i ∧ y = .str j ∧ i.length + j.length ≤ sizeLine ∧ Q (.str (i ++ j)) H
abbrev rAddA (K : PySem.W.Frag) : R2 := rOr (rI0 fun i j => .int (i + j)) (rOr rAddS (rOr rCat (L2.rCatA K)))
theorem or_add {X : Cx} : OpR X (binaryOp .Add) (rAddA X.K) := opOr op_add (opOr op_add_str (opOr op_cat L2.op_catA))
theorem d_add : DOp G (rAddA G.K) oAdd := by
  intro W σ s st v w d d' k hv hw Q post
  cases d <;> cases d' <;> try exact post.elim
  case int.int i j =>
    obtain rfl := hv.int; obtain rfl := hw.int
    exact .inl ⟨i, j, rfl, rfl, post.now k (.int _)⟩
  case str.str a b =>
    obtain rfl := hv.str; obtain rfl := hw.str
    obtain ⟨h, post⟩ := RPost.cond (a.length + b.length ≤ 1000000) (.val .P (.str (a ++ b)) st) post
    exact .inr (.inl ⟨a, b, rfl, rfl, sz h, post.now k (.str _)⟩)
  case lst.lst a b =>
    obtain ⟨p, vs, rfl, hp, hl⟩ := hv.lst k.sf
    obtain ⟨q, ws, rfl, hq, hm⟩ := hw.lst k.sf
    obtain ⟨h, post⟩ := RPost.cond (a.length + b.length ≤ 1000000) (.val .N (.lst (a ++ b)) st) post
    exact .inr (.inr (.inl ⟨p, q, vs, ws, rfl, rfl, hp, hq, by rw [hl.len, hm.len]; exact sz h, fun r hr => post.newL k (hl.append hm) hr⟩))
  case tup.tup a b =>
    obtain ⟨p, vs, rfl, hp, hl⟩ := hv.tup k.sf
    obtain ⟨q, ws, rfl, hq, hm⟩ := hw.tup k.sf
    obtain ⟨h, post⟩ := RPost.cond (a.length + b.length ≤ 1000000) (.val .P (.tup (a ++ b)) st) post
    refine .inr (.inr (.inr ⟨p, q, vs, ws, rfl, rfl, hp, hq, by rw [hl.len, hm.len]; exact sz h, fun z => ?_, fun _ z => ?_, fun _ _ r hr => post.newT k (hl.append hm) hr⟩))
    · have : a = [] := by have := hl.len; subst z; exact List.length_eq_zero_iff.mp this.symm
      subst this; exact post.now k hw.tupI
    · have : b = [] := by have := hm.len; subst z; exact List.length_eq_zero_iff.mp this.symm
      subst this; rw [List.append_nil] at post; exact post.now k hv.tupI
/-! - -/
def oSub : D → D → Sto → ER
  | .int i, .int j, st => .val .P (.int (i - j)) st
  | _, _, _ => .bad
theorem d_sub : DOp G (rI0 fun i j => .int (i - j)) oSub := by
  intro W σ s st v w d d' k hv hw Q post
  cases d <;> cases d' <;> try exact post.elim
  obtain rfl := hv.int; obtain rfl := hw.int
  exact ⟨_, _, rfl, rfl, post.now k (.int _)⟩
/-! * -/
theorem IsL.rep {as : List Addr} {H : Hp} {vs : List V} {l : List D} (h : IsL G as H vs l) : ∀ n : Nat, IsL G as H (List.replicate n vs).flatten (List.replicate n l).flatten
  | 0 => .nil
  | n + 1 => by
    rw [List.replicate_succ, List.replicate_succ, List.flatten_cons, List.flatten_cons]
    exact h.append (IsL.rep h n)
def oMul : D → D → Sto → ER
  | .int i, .int j, st => if i.natAbs.log2 + j.natAbs.log2 < 1000000 then .val .P (.int (i * j)) st else .bad
  | .lst a, .int k, st => if -(2 ^ 63) ≤ k ∧ k < 2 ^ 63 ∧ a.length * k.toNat ≤ 1000000 then .val .N (.lst (List.replicate k.toNat a).flatten) st else .bad
  | _, _, _ => .bad
abbrev rMulA : R2 := rOr (rI CMulW fun i j => .int (i * j)) rRep
theorem or_mul {X : Cx} : OpR X (binaryOp .Mult) rMulA := opOr op_mulW op_rep
theorem d_mul : DOp G rMulA oMul := by
  intro W σ s st v w d d' k hv hw Q post
  cases d <;> cases d' <;> try exact post.elim
  case int.int i j =>
    obtain rfl := hv.int; obtain rfl := hw.int
    obtain ⟨h, post⟩ := RPost.cond (i.natAbs.log2 + j.natAbs.log2 < 1000000) (.val .P (.int (i * j)) st) post
    exact .inl ⟨_, _, rfl, rfl, h, post.now k (.int _)⟩
  case lst.int a n =>
    obtain ⟨p, vs, rfl, hp, hl⟩ := hv.lst k.sf
    obtain rfl := hw.int
    obtain ⟨h, post⟩ := RPost.cond (-(2 ^ 63) ≤ n ∧ n < 2 ^ 63 ∧ a.length * n.toNat ≤ 1000000) (.val .N (.lst (List.replicate n.toNat a).flatten) st) post
    exact .inr ⟨p, n, vs, rfl, rfl, hp, h.1, h.2.1, by rw [hl.len]; exact sz h.2.2, fun r hr => post.newL k (hl.rep _) hr⟩
/-! // -/
def oDiv : D → D → Sto → ER
  | .int i, .int j, st => if j ≠ 0 ∧ j.natAbs.log2 < 9000 then .val .P (.int (i.fdiv j)) st else .bad
  | _, _, _ => .bad
theorem or_div {X : Cx} : OpR X (binaryOp .FloorDiv) (rI (fun _ j => j ≠ 0 ∧ j.natAbs.log2 < 9000) fun i j => .int (i.fdiv j)) := opI fun i j _ _ _ _ _ hc q => floordiv_int hc.1 q (.inl (PyProof.noPylong_of_log2 hc.2))
theorem d_div : DOp G (rI (fun _ j => j ≠ 0 ∧ j.natAbs.log2 < 9000) fun i j => .int (i.fdiv j)) oDiv := by
  intro W σ s st v w d d' k hv hw Q post
  cases d <;> cases d' <;> try exact post.elim
  rename_i i j
  obtain rfl := hv.int; obtain rfl := hw.int
  obtain ⟨h, post⟩ := RPost.cond (j ≠ 0 ∧ j.natAbs.log2 < 9000) (.val .P (.int (i.fdiv j)) st) post
  exact ⟨_, _, rfl, rfl, h, post.now k (.int _)⟩
/-! % -/
def oMod : D → D → Sto → ER
  | .int i, .int j, st => if j ≠ 0 then .val .P (.int (i.fmod j)) st else .bad
  | _, _, _ => .bad
theorem d_mod : DOp G (rI (fun _ j => j ≠ 0) fun i j => .int (i.fmod j)) oMod := by
  intro W σ s st v w d d' k hv hw Q post
  cases d <;> cases d' <;> try exact post.elim
  rename_i i j
  obtain rfl := hv.int; obtain rfl := hw.int
  obtain ⟨h, post⟩ := RPost.cond (j ≠ 0) (.val .P (.int (i.fmod j)) st) post
  exact ⟨_, _, rfl, rfl, h, post.now k (.int _)⟩
/-! ** -/
def oPow : D → D → Sto → ER
  | .int i, .int j, st => if 0 ≤ j ∧ j ≤ 1000000 ∧ i.natAbs < 2 ^ 64 then .val .P (.int (i ^ j.toNat)) st else .bad
  | _, _, _ => .bad
theorem d_pow : DOp G (rI CPow fun i j => .int (i ^ j.toNat)) oPow := by
  intro W σ s st v w d d' k hv hw Q post
  cases d <;> cases d' <;> try exact post.elim
  rename_i i j
  obtain rfl := hv.int; obtain rfl := hw.int
  obtain ⟨h, post⟩ := RPost.cond (0 ≤ j ∧ j ≤ 1000000 ∧ i.natAbs < 2 ^ 64) (.val .P (.int (i ^ j.toNat)) st) post
  exact ⟨_, _, rfl, rfl, h, post.now k (.int _)⟩
/-! order -/
def oCmp (p : Int → Int → Bool) : D → D → Sto → ER
  | .int i, .int j, st => .val .P (.bl (p i j)) st
  | _, _, _ => .bad
theorem d_cmp {p : Int → Int → Bool} : DOp G (rI0 fun i j => .bl (p i j)) (oCmp p) := by
  intro W σ s st v w d d' k hv hw Q post
  cases d <;> cases d' <;> try exact post.elim
  obtain rfl := hv.int; obtain rfl := hw.int
  exact ⟨_, _, rfl, rfl, post.now k (.bl _)⟩
abbrev oLt := oCmp fun i j => decide (i < j)
abbrev oLe := oCmp fun i j => decide (i ≤ j)
abbrev oGt := oCmp fun i j => decide (j < i)
abbrev oGe := oCmp fun i j => decide (j ≤ i)
theorem d_lt : DOp G (rI0 fun i j => .bl (decide (i < j))) oLt := d_cmp
theorem d_le : DOp G (rI0 fun i j => .bl (decide (i ≤ j))) oLe := d_cmp
theorem d_gt : DOp G (rI0 fun i j => .bl (decide (j < i))) oGt := d_cmp
theorem d_ge : DOp G (rI0 fun i j => .bl (decide (j ≤ i))) oGe := d_cmp
/-! is None -/
def isNon : D → Bool
  | .non => true
  | _ => false
def oIsN (a b : D) (st : Sto) : ER := match b with
  | .non => .val .P (.bl (isNon a)) st
  | _ => .bad
def oNotN (a b : D) (st : Sto) : ER := match b with
  | .non => .val .P (.bl (!isNon a)) st
  | _ => .bad
theorem isN_of {s : Hs} {v : V} {d : D} (h : U G s v d) : decide (v = .non) = isNon d := by
  rcases h with h | ⟨p, vs, l', rfl, rfl, _⟩
  · cases h <;> simp [isNon]
  · simp [isNon]
theorem d_isN : DOp G (fun x y H Q => y = .non ∧ Q (.bl (decide (x = .non))) H) oIsN := by
  intro W σ s st v w d d' k hv hw Q post
  cases d' <;> try exact post.elim
  obtain rfl := hw.non
  exact ⟨rfl, by rw [isN_of hv]; exact RPost.now k post (.bl _)⟩
theorem d_notN : DOp G (fun x y H Q => y = .non ∧ Q (.bl (!decide (x = .non))) H) oNotN := by
  intro W σ s st v w d d' k hv hw Q post
  cases d' <;> try exact post.elim
  obtain rfl := hw.non
  refine ⟨rfl, ?_⟩
  rw [isN_of hv]
  exact RPost.now k post (.bl _)
/-! ### ==, != -/
mutual
def py : D → PyData
  | .non => .none
  | .bl b => .bool b
  | .int i => .int i
  | .str x => .str x
  | .tup l => .tuple (pyL l)
  | .lst l => .list (pyL l)
  | .obj _ _ => .none
  | .scr _ => .none
  | .ptr _ => .none
def pyL : List D → List PyData
  | [] => []
  | d :: l => py d :: pyL l
end
mutual
def isPy : D → Bool
  | .non | .bl _ | .int _ | .str _ => true
  | .tup l => isPyL l
  | .lst l => isPyL l
  | .obj _ _ => false
  | .scr _ => false
  | .ptr _ => false
def isPyL : List D → Bool
  | [] => true
  | d :: l => isPy d && isPyL l
end
mutual
theorem dp_of {as : List Addr} {f H : Hp} (s : Same f H) : ∀ (d : D) {v : V}, isPy d = true → Is G as f v d → Dp G.K H v (py d)
  | .non, _, _, h => by cases h; exact .non
  | .bl _, _, _, h => by cases h; exact .bl _
  | .int _, _, _, h => by cases h; exact .int _
  | .str _, _, _, h => by cases h; exact .str _
  | .tup l, _, q, h => by cases h with | tup a b => exact .tup (same_t s a) (dpL_of s l (by simpa [isPy] using q) b)
  | .lst l, _, q, h => by cases h with | lst a b => exact .lst (SqL.of (s _ _ a)) (dpL_of s l (by simpa [isPy] using q) b)
  | .obj _ _, _, q, _ => by simp [isPy] at q
  | .scr _, _, q, _ => by simp [isPy] at q
  | .ptr _, _, q, _ => by simp [isPy] at q
theorem dpL_of {as : List Addr} {f H : Hp} (s : Same f H) : ∀ (l : List D) {vs : List V}, isPyL l = true → IsL G as f vs l → DpAll G.K H vs (pyL l)
  | [], _, _, h => by cases h; exact .nil
  | d :: l, _, q, h => by
    cases h with
    | cons a b =>
      have q' : isPy d = true ∧ isPyL l = true := by simpa [isPyL] using q
      exact .cons (dp_of s d q'.1 a) (dpL_of s l q'.2 b)
end
theorem dp_u {s : Hs} {v : V} {d : D} (sm : Same s.f s.h) (q : isPy d = true) (h : U G s v d) : Dp G.K s.h v (py d) := by
  rcases h with h | ⟨p, vs, l, rfl, rfl, c, e, _⟩
  · exact dp_of sm d q h
  · exact .lst (SqL.of c) (dpL_of sm l (by simpa [isPy] using q) e)
/-- the flat data that == tells apart as data -/
def scalD : D → D → Bool
  | .non, .non | .non, .int _ | .int _, .non | .non, .bl _ | .bl _, .non | .non, .str _ | .str _, .non => true
  | .int _, .int _ | .bl _, .bl _ | .str _, .str _ | .int _, .str _ | .str _, .int _ | .bl _, .str _ | .str _, .bl _ => true
  | _, _ => false
def eqF : D → D → Bool
  | .non, .non => true
  | .int i, .int j => decide (i = j)
  | .bl i, .bl j => decide (i = j)
  | .str i, .str j => decide (i = j)
  | _, _ => false
def eqAny (a b : D) : Option Bool :=
  if scalD a b = true then some (eqF a b)
  else if isPy a = true ∧ isPy b = true ∧ SeqAt.shaped (py a) = true ∧ SeqAt.shaped (py b) = true then some (PyData.eqv (py a) (py b))
  else none
def oEq (a b : D) (st : Sto) : ER := match eqAny a b with | some r => .val .P (.bl r) st | none => .bad
def oNe (a b : D) (st : Sto) : ER := match eqAny a b with | some r => .val .P (.bl (!r)) st | none => .bad
abbrev rEqA (K : PySem.W.Frag) : R2 := rOr rEq (rEqD K)
abbrev rNeA (K : PySem.W.Frag) : R2 := rOr rNe (rNeD K)
theorem or_eq {X : Cx} (hu : X.A.units + 64 < cLine) : OpR X (compareOp .Eq) (rEqA X.K) := opOr op_eq (op_eqD hu)
theorem or_ne {X : Cx} (hu : X.A.units + 64 < cLine) : OpR X (compareOp .NotEq) (rNeA X.K) := opOr op_ne (op_neD hu)
theorem scal_of {s : Hs} {v w : V} {a b : D} (h : scalD a b = true) (hv : U G s v a) (hw : U G s w b) : scal v w = true ∧ decide (v = w) = eqF a b := by
  cases a <;> cases b <;> simp only [scalD] at h <;> first
    | (exact absurd h Bool.false_ne_true)
    | skip
  all_goals (first | obtain rfl := hv.int | obtain rfl := hv.str | obtain rfl := hv.bl | obtain rfl := hv.non)
  all_goals (first | obtain rfl := hw.int | obtain rfl := hw.str | obtain rfl := hw.bl | obtain rfl := hw.non)
  all_goals (refine ⟨rfl, ?_⟩; simp [eqF])
theorem d_eq : DOp G (rEqA G.K) oEq := by
  intro W σ s st v w d d' k hv hw Q post
  unfold oEq eqAny at post
  by_cases h : scalD d d' = true
  · obtain ⟨h1, h2⟩ := scal_of h hv hw
    rw [if_pos h] at post
    exact .inl ⟨h1, by rw [h2]; exact RPost.now k post (.bl _)⟩
  · rw [if_neg h] at post
    split at post
    · rename_i r hr
      split at hr
      · rename_i q
        cases hr
        exact .inr ⟨py d, py d', dp_u k.sf q.1 hv, dp_u k.sf q.2.1 hw, q.2.2.1, q.2.2.2, post.now k (.bl _)⟩
      · cases hr
    · exact post.elim
theorem d_ne : DOp G (rNeA G.K) oNe := by
  intro W σ s st v w d d' k hv hw Q post
  unfold oNe eqAny at post
  by_cases h : scalD d d' = true
  · obtain ⟨h1, h2⟩ := scal_of h hv hw
    rw [if_pos h] at post
    exact .inl ⟨h1, by rw [h2]; exact RPost.now k post (.bl _)⟩
  · rw [if_neg h] at post
    split at post
    · rename_i r hr
      split at hr
      · rename_i q
        cases hr
        exact .inr ⟨py d, py d', dp_u k.sf q.1 hv, dp_u k.sf q.2.1 hw, q.2.2.1, q.2.2.2, post.now k (.bl _)⟩
      · cases hr
    · exact post.elim
/-! ### a[i] -/
/-- the list that stands in the store at n -/
def stLst (st : Sto) (n : Nat) : Option (List D) := match st[n]? with
  | some (.lst l) => some l
  | _ => none
theorem StOk.lst {s : Hs} {st : Sto} {n : Nat} {l : List D} {p : Addr} (k : StOk G s st) (ha : s.as[n]? = some p) (h : stLst st n = some l) : ∃ vs, s.h p = some (.lst vs) ∧ IsL G s.as s.f vs l := by
  unfold stLst at h
  split at h
  · rename_i l' q
    cases h
    exact k.ob n p _ ha q
  · cases h
def oIx : D → D → Sto → ER
  | .lst l, .int i, st => ofOpt (atI l i) fun d => .val .P d st
  | .tup l, .int i, st => ofOpt (atI l i) fun d => .val .P d st
  | .scr l, .int i, st => ofOpt (atI l i) fun d => .val .P (.int d) st
  | .str z, .int i, st => if z.length ≤ 1000000 then ofOpt (atI z.cps.toList i) (fun c => .val .P (.str ⟨#[c]⟩) st) else .bad
  | .ptr n, .int i, st => ofOpt (stLst st n) fun l => ofOpt (atI l i) fun d => .val .P d st
  | _, _, _ => .bad
theorem atI_L {as : List Addr} {H : Hp} {vs : List V} {l : List D} {i : Int} {d : D} (h : IsL G as H vs l) (e : atI l i = some d) : ∃ v, atI vs i = some v ∧ Is G as H v d := by
  unfold atI at e ⊢
  rw [h.len]
  cases q : ixN l.length i with
  | none => rw [q] at e; cases e
  | some j =>
    rw [q] at e
    exact h.get e
theorem atI_map {l : List Int} {i : Int} {d : Int} (e : atI l i = some d) : atI (l.map V.int) i = some (V.int d) := by
  unfold atI at e ⊢
  rw [List.length_map]
  cases q : ixN l.length i with
  | none => rw [q] at e; cases e
  | some j =>
    rw [q] at e
    have e' : l[j]? = some d := e
    show (l.map V.int)[j]? = some (V.int d)
    rw [List.getElem?_map, e']
    rfl
theorem d_ix : DOp G (rIx G.K) oIx := by
  intro W σ s st v w d d' k hv hw Q post
  cases d <;> cases d' <;> try exact post.elim
  case lst.int l i =>
    obtain ⟨p, vs, rfl, hp, hl⟩ := hv.lst k.sf
    obtain rfl := hw.int
    obtain ⟨y, q, post⟩ := RPost.opt (atI l i) (fun d => .val .P d st) post
    obtain ⟨x, h1, h2⟩ := atI_L hl q
    exact .inl ⟨p, vs, i, x, rfl, rfl, SqL.of hp, h1, post.now k h2⟩
  case ptr.int n i =>
    obtain ⟨p, rfl, hp⟩ := hv.ptr
    obtain rfl := hw.int
    obtain ⟨l, ql, post⟩ := RPost.opt (stLst st n) (fun l => ofOpt (atI l i) fun d => .val .P d st) post
    obtain ⟨y, q, post⟩ := RPost.opt (atI l i) (fun d => .val .P d st) post
    obtain ⟨vs, hh, hl⟩ := k.lst hp ql
    obtain ⟨x, h1, h2⟩ := atI_L hl q
    exact .inl ⟨p, vs, i, x, rfl, rfl, SqL.of hh, h1, post.now k h2⟩
  case tup.int l i =>
    obtain ⟨p, vs, rfl, hp, hl⟩ := hv.tup k.sf
    obtain rfl := hw.int
    obtain ⟨y, q, post⟩ := RPost.opt (atI l i) (fun d => .val .P d st) post
    obtain ⟨x, h1, h2⟩ := atI_L hl q
    exact .inr (.inl ⟨p, vs, i, x, rfl, rfl, hp, h1, post.now k h2⟩)
  case scr.int l i =>
    obtain ⟨p, rfl, hp⟩ := hv.scr k.sf
    obtain rfl := hw.int
    obtain ⟨y, q, post⟩ := RPost.opt (atI l i) (fun d => .val .P (.int d) st) post
    exact .inl ⟨p, _, i, _, rfl, rfl, hp, atI_map q, post.now k (.int _)⟩
  case str.int z i =>
    obtain rfl := hv.str; obtain rfl := hw.int
    obtain ⟨h, post⟩ := RPost.cond (z.length ≤ 1000000) (ofOpt (atI z.cps.toList i) (fun c => .val .P (.str ⟨#[c]⟩) st)) post
    obtain ⟨c, q, post⟩ := RPost.opt (atI z.cps.toList i) (fun c => .val .P (.str ⟨#[c]⟩) st) post
    exact .inr (.inr ⟨z, i, c, rfl, rfl, sz h, q, post.now k (.str _)⟩)
end
/-! ### expressions -/
section
variable {G : Gm} {W : WX}
def dVar (i : Nat) : En → ER := fun E => match E.e[i]? with
  | some (.val d) => .val .P d E.st
  | some (.own l) => .val .B (.lst l) E.st
  | _ => .bad
theorem v_var {i : Nat} : DEv G W (tVar i) (dVar i) := by
  intro s t σ e st E k Q post
  unfold dVar at post
  split at post
  · rename_i d q
    obtain ⟨o, h1, v, rfl, h2⟩ := E.slot q
    exact ⟨v, h1, post.now k h2⟩
  · rename_i l q
    obtain ⟨o, h1, p, vs, rfl, a, b, c, d, f⟩ := E.slot q
    exact ⟨_, h1, post t _ (Gro.refl k) k ⟨p, vs, l, rfl, rfl, c, d, f⟩⟩
  · exact post.elim
def dC (d : D) : En → ER := fun E => .val .P d E.st
theorem v_int {n : Int} : DEv G W (tC (.int n)) (dC (.int n)) := fun _ _ _ _ _ _ k _ post => RPost.now k post (.int _)
theorem v_str {n : Str} : DEv G W (tC (.str n)) (dC (.str n)) := fun _ _ _ _ _ _ k _ post => RPost.now k post (.str _)
theorem v_bl {n : Bool} : DEv G W (tC (.bl n)) (dC (.bl n)) := fun _ _ _ _ _ _ k _ post => RPost.now k post (.bl _)
theorem v_non : DEv G W (tC .non) (dC .non) := fun _ _ _ _ _ _ k _ post => RPost.now k post .non
/-- a constant that stands in the written part -/
theorem v_const {v : V} {d : D} (h : ∀ as H, Is G as H v d) : DEv G W (tC v) (dC d) := fun _ _ _ _ _ _ k _ post => RPost.now k post (h _ _)
def dOp (o : D → D → Sto → ER) (f g : En → ER) : En → ER := fun E => (f E).bind fun x st => (g ⟨E.e, st⟩).bind fun y st => o x y st
theorem v_op {r : R2} {o : D → D → Sto → ER} {ta tb : TE} {f g : En → ER} (hr : DOp G r o) (ha : DEv G W ta f) (hb : DEv G W tb g) : DEv G W (tOp r ta tb) (dOp o f g) := by
  intro s t σ e st E k Q post
  refine ha s t σ e st E k _ (RPost.bind post fun m d st1 t1 v g1 k1 o1 p1 => ?_)
  refine hb s t1 σ e st1 (E.up g1) k1 _ (RPost.bind p1 fun m2 d2 st2 t2 w g2 k2 o2 p2 => ?_)
  exact hr W σ t2 st2 v w d d2 k2 ((o1.up g2).u) o2.u Q p2
/-- one-place operations by values -/
def DUn (G : Gm) (r : V → Hp → VK → Prop) (o : D → Sto → ER) : Prop :=
  ∀ (W : WX) (σ : L2.St) (s : Hs) (st : Sto) (v : V) (d : D), StOk G s st → U G s v d → ∀ Q : VK, RPost G W s σ Q (o d st) → r v s.h Q
def dUn (o : D → Sto → ER) (f : En → ER) : En → ER := fun E => (f E).bind o
theorem v_un {r : V → Hp → VK → Prop} {o : D → Sto → ER} {ta : TE} {f : En → ER} (hr : DUn G r o) (ha : DEv G W ta f) : DEv G W (tUn r ta) (dUn o f) := by
  intro s t σ e st E k Q post
  refine ha s t σ e st E k _ (RPost.bind post fun m d st1 t1 v g1 k1 o1 p1 => ?_)
  exact hr W σ t1 st1 v d k1 o1.u Q p1
def oNeg : D → Sto → ER
  | .int i, st => .val .P (.int (-i)) st
  | _, _ => .bad
theorem d_neg : DUn G (rU fun i => .int (-i)) oNeg := by
  intro W σ s st v d k hv Q post
  cases d <;> try exact post.elim
  obtain rfl := hv.int
  exact ⟨_, rfl, post.now k (.int _)⟩
/-! tests -/
def TPost (G : Gm) (W : WX) (s : Hs) (σ : L2.St) (Q : Bool → Hp → Prop) : ER → Prop
  | .val _ (.bl b) st => ∀ t, Gro s t → StOk G t st → Q b t.h
  | .exc c l st => ∀ t x, Gro s t → StOk G t st → ExcOk G t c l x → W (.ref (G.ca c)) x σ t.h
  | _ => False
def DTt (G : Gm) (W : WX) (tt : TT) (f : En → ER) : Prop :=
  ∀ s t σ e st, EnvOk G s t σ e → StOk G t st → ∀ Q : Bool → Hp → Prop, TPost G W t σ Q (f ⟨e, st⟩) → tt σ t.h Q
theorem TPost.step {s t : Hs} {σ : L2.St} {Q : Bool → Hp → Prop} {r : ER} (g : Gro s t) (h : TPost G W s σ Q r) : TPost G W t σ Q r := by
  cases r with
  | val m d st =>
    cases d <;> first | exact h.elim | skip
    exact fun u g' => h u (g.trans g')
  | exc c l st => exact fun u x g' => h u x (g.trans g')
  | bad => exact h
def ER.bindB (r : ER) (k : Bool → Sto → ER) : ER := match r with
  | .val _ (.bl b) st => k b st
  | .exc c l st => .exc c l st
  | _ => .bad
@[simp] theorem ER.bindB_val (m : Md) (b : Bool) (st : Sto) (k : Bool → Sto → ER) : (ER.val m (.bl b) st).bindB k = k b st := rfl
@[simp] theorem ER.bindB_exc (c : Nat) (l : List D) (st : Sto) (k : Bool → Sto → ER) : (ER.exc c l st).bindB k = .exc c l st := rfl
@[simp] theorem ER.bindB_bad (k : Bool → Sto → ER) : ER.bad.bindB k = .bad := rfl
theorem t_val {te : TE} {f : En → ER} (h : DEv G W te f) : DTt G W (tB te) f := by
  intro s t σ e st E k Q post
  refine h s t σ e st E k _ ?_
  cases q : f ⟨e, st⟩ with
  | val m d st' =>
    rw [q] at post
    intro t' v g k' o
    cases d <;> first | exact post.elim | skip
    obtain rfl := o.u.bl
    exact ⟨_, rfl, post t' g k'⟩
  | exc c l st' => rw [q] at post; exact post
  | bad => rw [q] at post; exact post
theorem t_test {te : TE} {f : En → ER} (h : DEv G W te f) : DTt G W (tTest te) f := t_val h
theorem TPost.bindB {s : Hs} {σ : L2.St} {Q Q' : Bool → Hp → Prop} {r : ER} {k : Bool → Sto → ER} (h : TPost G W s σ Q (r.bindB k)) (hk : ∀ b st t, Gro s t → StOk G t st → TPost G W t σ Q (k b st) → Q' b t.h) : TPost G W s σ Q' r := by
  cases r with
  | val m d st =>
    cases d <;> first | exact h.elim | skip
    exact fun t g k' => hk _ st t g k' (TPost.step g h)
  | exc c l st => exact h
  | bad => exact h
def dAnd (f g : En → ER) : En → ER := fun E => (f E).bindB fun b st => if b = true then g ⟨E.e, st⟩ else .val .P (.bl false) st
def dOr (f g : En → ER) : En → ER := fun E => (f E).bindB fun b st => if b = true then .val .P (.bl true) st else g ⟨E.e, st⟩
def dNot (f : En → ER) : En → ER := fun E => (f E).bindB fun b st => .val .P (.bl (!b)) st
theorem TPost.of {s : Hs} {st : Sto} {σ : L2.St} {Q : Bool → Hp → Prop} {b : Bool} (k : StOk G s st) (h : TPost G W s σ Q (.val .P (.bl b) st)) : Q b s.h := h s (Gro.refl k) k
theorem t_and {t u : TT} {f g : En → ER} (ht : DTt G W t f) (hu : DTt G W u g) : DTt G W (tAnd t u) (dAnd f g) := by
  intro s t σ e st E k Q post
  refine ht s t σ e st E k _ (TPost.bindB post fun b st1 t1 g1 k1 p1 => ?_)
  cases b with
  | true => exact iteT (hu s t1 σ e st1 (E.up g1) k1 Q p1)
  | false => exact iteF (TPost.of k1 p1)
theorem t_or {t u : TT} {f g : En → ER} (ht : DTt G W t f) (hu : DTt G W u g) : DTt G W (tOr t u) (dOr f g) := by
  intro s t σ e st E k Q post
  refine ht s t σ e st E k _ (TPost.bindB post fun b st1 t1 g1 k1 p1 => ?_)
  cases b with
  | false => exact iteF (hu s t1 σ e st1 (E.up g1) k1 Q p1)
  | true => exact iteT (TPost.of k1 p1)
theorem t_not {t : TT} {f : En → ER} (ht : DTt G W t f) : DTt G W (tNot t) (dNot f) := by
  intro s t σ e st E k Q post
  exact ht s t σ e st E k _ (TPost.bindB post fun b st1 t1 g1 k1 p1 => TPost.of k1 p1)
/-! bools as values -/
theorem RPost.bindB {s : Hs} {σ : L2.St} {Q Q' : VK} {r : ER} {k : Bool → Sto → ER} (h : RPost G W s σ Q (r.bindB k))
    (hk : ∀ b st t, Gro s t → StOk G t st → RPost G W t σ Q (k b st) → Q' (.bl b) t.h) : RPost G W s σ Q' r := by
  cases r with
  | val m d st =>
    cases d <;> first | exact h.elim | skip
    intro t v g k' o
    obtain rfl := o.u.bl
    exact hk _ st t g k' (RPost.step g k' h)
  | exc c l st => exact h
  | bad => exact h
theorem v_and {ta tb : TE} {f g : En → ER} (ha : DEv G W ta f) (hb : DEv G W tb g) : DEv G W (tAndV ta tb) (dAnd f g) := by
  intro s t σ e st E k Q post
  refine ha s t σ e st E k _ (RPost.bindB post fun b st1 t1 g1 k1 p1 => ?_)
  cases b with
  | true => exact ⟨true, rfl, iteT (hb s t1 σ e st1 (E.up g1) k1 Q p1)⟩
  | false => exact ⟨false, rfl, iteF (RPost.now k1 p1 (.bl _))⟩
theorem v_or {ta tb : TE} {f g : En → ER} (ha : DEv G W ta f) (hb : DEv G W tb g) : DEv G W (tOrV ta tb) (dOr f g) := by
  intro s t σ e st E k Q post
  refine ha s t σ e st E k _ (RPost.bindB post fun b st1 t1 g1 k1 p1 => ?_)
  cases b with
  | false => exact ⟨false, rfl, iteF (hb s t1 σ e st1 (E.up g1) k1 Q p1)⟩
  | true => exact ⟨true, rfl, iteT (RPost.now k1 p1 (.bl _))⟩
theorem v_not {ta : TE} {f : En → ER} (ha : DEv G W ta f) : DEv G W (tNotV ta) (dNot f) := by
  intro s t σ e st E k Q post
  exact ha s t σ e st E k _ (RPost.bindB post fun b st1 t1 g1 k1 p1 => ⟨b, rfl, RPost.now k1 p1 (.bl _)⟩)
/-! a if t else b -/
def dIf (c f g : En → ER) : En → ER := fun E => (c E).bindB fun b st => if b = true then f ⟨E.e, st⟩ else g ⟨E.e, st⟩
/-- a test ahead of an expression -/
theorem TPost.thenR {s : Hs} {σ : L2.St} {Q : VK} {Q' : Bool → Hp → Prop} {r : ER} {k : Bool → Sto → ER} (h : RPost G W s σ Q (r.bindB k)) (hk : ∀ b st t, Gro s t → StOk G t st → RPost G W t σ Q (k b st) → Q' b t.h) : TPost G W s σ Q' r := by
  cases r with
  | val m d st =>
    cases d <;> first | exact h.elim | skip
    exact fun t g k' => hk _ st t g k' (RPost.step g k' h)
  | exc c l st => exact h
  | bad => exact h
theorem v_if {t : TT} {ta tb : TE} {c f g : En → ER} (ht : DTt G W t c) (ha : DEv G W ta f) (hb : DEv G W tb g) : DEv G W (tIf t ta tb) (dIf c f g) := by
  intro s t σ e st E k Q post
  refine ht s t σ e st E k _ (TPost.thenR post fun b st1 t1 g1 k1 p1 => ?_)
  cases b with
  | true => exact iteT (ha s t1 σ e st1 (E.up g1) k1 Q p1)
  | false => exact iteF (hb s t1 σ e st1 (E.up g1) k1 Q p1)
/-! a op b op' c -/
def dChain (o o' : D → D → Sto → ER) (f g h : En → ER) : En → ER := fun E => (f E).bind fun x st => (g ⟨E.e, st⟩).bind fun y st => (o x y st).bindB fun b st => if b = true then (h ⟨E.e, st⟩).bind fun z st => o' y z st else .val .P (.bl false) st
theorem v_chain {r r' : R2} {o o' : D → D → Sto → ER} {ta tb tc : TE} {f g h : En → ER} (hr : DOp G r o) (hr' : DOp G r' o') (ha : DEv G W ta f) (hb : DEv G W tb g) (hc : DEv G W tc h) : DEv G W (tChain r r' ta tb tc) (dChain o o' f g h) := by
  intro s t σ e st E k Q post
  refine ha s t σ e st E k _ (RPost.bind post fun m d st1 t1 v g1 k1 o1 p1 => ?_)
  refine hb s t1 σ e st1 (E.up g1) k1 _ (RPost.bind p1 fun m2 d2 st2 t2 w g2 k2 o2 p2 => ?_)
  refine hr W σ t2 st2 v w d d2 k2 ((o1.up g2).u) o2.u _ (RPost.bindB p2 fun b st3 t3 g3 k3 p3 => ?_)
  cases b with
  | false => exact ⟨false, rfl, iteF (RPost.now k3 p3 (.bl _))⟩
  | true =>
    refine ⟨true, rfl, iteT ?_⟩
    refine hc s t3 σ e st3 (((E.up g1).up g2).up g3) k3 _ (RPost.bind p3 fun m4 d4 st4 t4 u g4 k4 o4 p4 => ?_)
    exact hr' W σ t4 st4 w u d2 d4 k4 (((o2.up g3).up g4).u) o4.u Q p4
end
end Dn
namespace Dn
open PySem PySem.Spec PyProof.Rows L2
/-! ### arguments -/
inductive UL (G : Gm) (s : Hs) : List V → List D → Prop
  | nil : UL G s [] []
  | cons {v : V} {vs : List V} {d : D} {ds : List D} : U G s v d → UL G s vs ds → UL G s (v :: vs) (d :: ds)
theorem IsL.ul {G : Gm} {s : Hs} : ∀ {ds : List D} {vs : List V}, IsL G s.as s.f vs ds → UL G s vs ds
  | [], _, h => by cases h; exact .nil
  | d :: ds, _, h => by cases h with | cons a b => exact .cons (.inl a) b.ul
theorem UL.len {G : Gm} {s : Hs} : ∀ {ds : List D} {vs : List V}, UL G s vs ds → vs.length = ds.length
  | [], _, h => by cases h; rfl
  | d :: ds, _, h => by cases h with | cons a b => exact congrArg Nat.succ b.len
theorem UL.up {G : Gm} {s t : Hs} (g : Gro s t) : ∀ {ds : List D} {vs : List V}, UL G s vs ds → UL G t vs ds
  | [], _, h => by cases h; exact .nil
  | d :: ds, _, h => by cases h with | cons a b => exact .cons (a.up g) (UL.up g b)
/-- p: all are frozen -/
inductive AR where | ok (p : Bool) (l : List D) (st : Sto) | exc (c : Nat) (l : List D) (st : Sto) | bad
def APost (G : Gm) (W : WX) (s : Hs) (σ : L2.St) (Q : List V → Hp → Prop) : AR → Prop
  | .ok p l st => ∀ t vs, Gro s t → StOk G t st → (p = true → IsL G t.as t.f vs l) → UL G t vs l → Q vs t.h
  | .exc c l st => ∀ t x, Gro s t → StOk G t st → ExcOk G t c l x → W (.ref (G.ca c)) x σ t.h
  | .bad => False
theorem APost.step {G : Gm} {W : WX} {s t : Hs} {σ : L2.St} {Q : List V → Hp → Prop} {r : AR} (g : Gro s t) (h : APost G W s σ Q r) : APost G W t σ Q r := by
  cases r with
  | ok p l st => exact fun u v g' => h u v (g.trans g')
  | exc c l st => exact fun u x g' => h u x (g.trans g')
  | bad => exact h
def AR.cons (p : Bool) (d : D) : AR → AR
  | .ok q l st => .ok (p && q) (d :: l) st
  | .exc c l st => .exc c l st
  | .bad => .bad
def ER.cons (r : ER) (a : Sto → AR) : AR := match r with
  | .val .B d st => (a st).cons false d
  | .val .P d st => (a st).cons true d
  | .val .N d st => (a st).cons true d
  | .exc c l st => .exc c l st
  | .bad => .bad
def DAr (G : Gm) (W : WX) (ta : TA) (f : En → AR) : Prop :=
  ∀ s t σ e st, EnvOk G s t σ e → StOk G t st → ∀ Q : List V → Hp → Prop, APost G W t σ Q (f ⟨e, st⟩) → ta σ t.h Q
section
variable {G : Gm} {W : WX}
def aNil : En → AR := fun E => .ok true [] E.st
theorem a_nil : DAr G W tNil aNil := fun _ t _ _ _ _ k _ post => post t [] (Gro.refl k) k (fun _ => .nil) .nil
def aCons (f : En → ER) (g : En → AR) : En → AR := fun E => (f E).cons fun st => g ⟨E.e, st⟩
theorem APost.consP {s : Hs} {σ : L2.St} {Q : List V → Hp → Prop} {d : D} {v : V} {a : AR} (h : APost G W s σ Q (a.cons true d)) (hv : Is G s.as s.f v d) : APost G W s σ (fun xs H2 => Q (v :: xs) H2) a := by
  cases a with
  | ok p l st => exact fun t vs g k q u => h t (v :: vs) g k (fun z => .cons (hv.up g.a g.f) (q (by simpa using z))) (.cons (.inl (hv.up g.a g.f)) u)
  | exc c l st => exact h
  | bad => exact h
theorem APost.consB {s : Hs} {σ : L2.St} {Q : List V → Hp → Prop} {d : D} {v : V} {a : AR} (h : APost G W s σ Q (a.cons false d)) (hv : U G s v d) : APost G W s σ (fun xs H2 => Q (v :: xs) H2) a := by
  cases a with
  | ok p l st => exact fun t vs g k q u => h t (v :: vs) g k (fun z => by simp at z) (.cons (hv.up g) u)
  | exc c l st => exact h
  | bad => exact h
theorem a_cons {te : TE} {tr : TA} {f : En → ER} {g : En → AR} (ha : DEv G W te f) (hr : DAr G W tr g) : DAr G W (tCons te tr) (aCons f g) := by
  intro s t σ e st E k Q post
  refine ha s t σ e st E k _ ?_
  unfold aCons at post
  cases q : f ⟨e, st⟩ with
  | val m d st1 =>
    rw [q] at post
    intro t1 v g1 k1 o1
    cases m with
    | P => exact hr s t1 σ e st1 (E.up g1) k1 _ (APost.consP (APost.step g1 post) o1)
    | B => exact hr s t1 σ e st1 (E.up g1) k1 _ (APost.consB (APost.step g1 post) o1.u)
    | N =>
      obtain ⟨f2, g2, k2, _, i2⟩ := o1.freeze g1 k1 (by decide)
      exact hr s ⟨t1.as, f2, t1.h⟩ σ e st1 (E.up g2) k2 _ (APost.consP (APost.step g2 post) i2)
  | exc c l st1 => rw [q] at post; exact post
  | bad => rw [q] at post; exact post
/-! displays -/
def dTup (f : En → AR) : En → ER := fun E => match f E with
  | .ok true l st => if l.length ≤ 1000000 then .val .P (.tup l) st else .bad
  | .exc c l st => .exc c l st
  | _ => .bad
theorem v_tup {ta : TA} {f : En → AR} (h : DAr G W ta f) : DEv G W (tTup ta) (dTup f) := by
  intro s t σ e st E k Q post
  refine h s t σ e st E k _ ?_
  unfold dTup at post
  cases q : f ⟨e, st⟩ with
  | ok p l st1 =>
    rw [q] at post
    cases p with
    | false => exact post.elim
    | true =>
      obtain ⟨c, post⟩ := RPost.cond _ _ post
      exact fun t1 vs g1 k1 i1 u1 => ⟨by rw [u1.len]; exact sz c, fun p hp => (RPost.step g1 k1 post).newT k1 (i1 rfl) hp⟩
  | exc c l st1 => rw [q] at post; exact post
  | bad => rw [q] at post; exact post
def dLst (f : En → AR) : En → ER := fun E => match f E with
  | .ok true l st => if l.length ≤ 1000000 then .val .N (.lst l) st else .bad
  | .exc c l st => .exc c l st
  | _ => .bad
theorem v_lst {ta : TA} {f : En → AR} (h : DAr G W ta f) : DEv G W (tLst ta) (dLst f) := by
  intro s t σ e st E k Q post
  refine h s t σ e st E k _ ?_
  unfold dLst at post
  cases q : f ⟨e, st⟩ with
  | ok p l st1 =>
    rw [q] at post
    cases p with
    | false => exact post.elim
    | true =>
      obtain ⟨c, post⟩ := RPost.cond _ _ post
      exact fun t1 vs g1 k1 i1 u1 => ⟨by rw [u1.len]; exact sz c, fun p hp => (RPost.step g1 k1 post).newL k1 (i1 rfl) hp⟩
  | exc c l st1 => rw [q] at post; exact post
  | bad => rw [q] at post; exact post
/-- a new list goes into the store -/
def dPut (f : En → ER) : En → ER := fun E => match f E with
  | .val .N (.lst l) st => .val .P (.ptr st.length) (st ++ [.lst l])
  | .exc c l st => .exc c l st
  | _ => .bad
theorem v_put {te : TE} {f : En → ER} (h : DEv G W te f) : DEv G W te (dPut f) := by
  intro s t σ e st E k Q post
  refine h s t σ e st E k _ ?_
  unfold dPut at post
  cases q : f ⟨e, st⟩ with
  | val m d st1 =>
    rw [q] at post
    cases m with
    | P => cases d <;> exact post.elim
    | B => cases d <;> exact post.elim
    | N =>
      intro t1 v g1 k1 o1
      obtain ⟨p, vs, l, rfl, rfl, a, b, c, n, z⟩ := o1
      have k2 : StOk G ⟨t1.as ++ [p], t1.f, t1.h⟩ (st1 ++ [.lst l]) := k1.put z c ⟨vs, a, b.up (Ext.app _ _) (Same.refl _)⟩
      refine post ⟨t1.as ++ [p], t1.f, t1.h⟩ _ (g1.put k1 n z) k2 (.ptr ?_)
      show (t1.as ++ [p])[st1.length]? = some p
      rw [← k1.len, List.getElem?_append_right (Nat.le_refl _)]
      simp
  | exc c l st1 => rw [q] at post; exact post
  | bad => rw [q] at post; exact post
/-! ### calls of defs -/
/-- the promise of a def: it is the function F of data and the store -/
def spF (G : Gm) (F : List D → Sto → ER) : Sp := fun vs H Q E => ∃ (s : Hs) (ds : List D) (st : Sto), s.h = H ∧ StOk G s st ∧ IsL G s.as s.f vs ds ∧ RPost G (fun c x _ H' => E c x H') s [] Q (F ds st)
def dCall (F : List D → Sto → ER) (f : En → AR) : En → ER := fun E => match f E with
  | .ok true l st => F l st
  | .exc c l st => .exc c l st
  | _ => .bad
theorem RPost.w {W' : WX} {s : Hs} {σ σ' : L2.St} {Q : VK} {r : ER} (h : RPost G W s σ Q r) (hw : ∀ c x H', W c x σ H' → W' c x σ' H') : RPost G W' s σ' Q r := by
  cases r with
  | val m d st => exact h
  | exc c l st => exact fun t x g k o => hw _ _ _ (h t x g k o)
  | bad => exact h
theorem v_call {F : List D → Sto → ER} {ta : TA} {f : En → AR} (ha : DAr G W ta f) : DEv G W (tCallS (spF G F) (WE W) ta) (dCall F f) := by
  intro s t σ e st E k Q post
  refine ha s t σ e st E k _ ?_
  unfold dCall at post
  cases q : f ⟨e, st⟩ with
  | ok p l st1 =>
    rw [q] at post
    cases p with
    | true => exact fun t1 vs g1 k1 i1 u1 => ⟨t1, l, st1, rfl, k1, i1 rfl, (RPost.step g1 k1 post).w (fun c x H' h => h)⟩
    | false => exact post.elim
  | exc c l st1 => rw [q] at post; exact post
  | bad => rw [q] at post; exact post
/-! ### calls of built-ins by values -/
def DCal (G : Gm) (r : List V → Hp → VK → Prop) (o : List D → Sto → ER) : Prop :=
  ∀ (W : WX) (σ : L2.St) (s : Hs) (st : Sto) (vs : List V) (ds : List D), StOk G s st → UL G s vs ds → ∀ Q : VK, RPost G W s σ Q (o ds st) → r vs s.h Q
def dCB (o : List D → Sto → ER) (f : En → AR) : En → ER := fun E => match f E with
  | .ok _ l st => o l st
  | .exc c l st => .exc c l st
  | .bad => .bad
theorem v_cb {r : List V → Hp → VK → Prop} {o : List D → Sto → ER} {ta : TA} {f : En → AR} (hr : DCal G r o) (ha : DAr G W ta f) : DEv G W (tCB r ta) (dCB o f) := by
  intro s t σ e st E k Q post
  refine ha s t σ e st E k _ ?_
  unfold dCB at post
  cases q : f ⟨e, st⟩ with
  | ok p l st1 => rw [q] at post; exact fun t1 vs g1 k1 i1 u1 => hr W σ t1 st1 vs l k1 u1 Q (RPost.step g1 k1 post)
  | exc c l st1 => rw [q] at post; exact post
  | bad => rw [q] at post; exact post
theorem UL.one {s : Hs} {vs : List V} {d : D} (h : UL G s vs [d]) : ∃ v, vs = [v] ∧ U G s v d := by
  cases h with | cons a b => cases b; exact ⟨_, rfl, a⟩
theorem UL.two {s : Hs} {vs : List V} {d e : D} (h : UL G s vs [d, e]) : ∃ v w, vs = [v, w] ∧ U G s v d ∧ U G s w e := by
  cases h with | cons a b => cases b with | cons c d => cases d; exact ⟨_, _, rfl, a, c⟩
/-- reduces a call by values to its one argument -/
theorem DCal.one1 {r : List V → Hp → VK → Prop} {o : List D → Sto → ER} (h0 : ∀ st, o [] st = .bad) (h2 : ∀ a b l st, o (a :: b :: l) st = .bad)
    (h : ∀ (W : WX) (σ : L2.St) (s : Hs) (st : Sto) (v : V) (d : D), StOk G s st → U G s v d → ∀ Q : VK, RPost G W s σ Q (o [d] st) → r [v] s.h Q) : DCal G r o := by
  intro W σ s st vs ds k hv Q post
  match ds, hv, post with
  | [], _, post => rw [h0] at post; exact post.elim
  | [d], hv, post => obtain ⟨v, rfl, hv1⟩ := hv.one; exact h W σ s st v d k hv1 Q post
  | a :: b :: l, _, post => rw [h2] at post; exact post.elim
def oAbs : List D → Sto → ER
  | [.int i], st => .val .P (.int (if i < 0 then -i else i)) st
  | _, _ => .bad
theorem c_abs : DCal G (fun xs H Q => ∃ i, xs = [.int i] ∧ Q (.int (if i < 0 then -i else i)) H) oAbs := by
  refine DCal.one1 (fun _ => rfl) (fun a b l _ => by cases a <;> rfl) fun W σ s st v d k hv Q post => ?_
  cases d <;> try exact post.elim
  obtain rfl := hv.int
  exact ⟨_, rfl, post.now k (.int _)⟩
def oLen : List D → Sto → ER
  | [.lst l], st => .val .P (.int l.length) st
  | [.tup l], st => .val .P (.int l.length) st
  | [.scr l], st => .val .P (.int l.length) st
  | [.ptr n], st => ofOpt (stLst st n) fun l => .val .P (.int l.length) st
  | [.str z], st => if z.length ≤ 1000000 then .val .P (.int z.length) st else .bad
  | _, _ => .bad
theorem c_len : DCal G (fun xs H Q => ∃ x n, xs = [x] ∧ LenV G.K x H n ∧ Q (.int n) H) oLen := by
  refine DCal.one1 (fun _ => rfl) (fun a b l _ => by cases a <;> rfl) fun W σ s st v d k hv Q post => ?_
  cases d <;> try exact post.elim
  case lst l =>
    obtain ⟨p, vs, rfl, hp, hl⟩ := hv.lst k.sf
    exact ⟨_, l.length, rfl, .inl ⟨vs, SqL.of hp, hl.len.symm⟩, post.now k (.int _)⟩
  case tup l =>
    obtain ⟨p, vs, rfl, hp, hl⟩ := hv.tup k.sf
    exact ⟨_, l.length, rfl, .inr ⟨vs, hp, hl.len.symm⟩, post.now k (.int _)⟩
  case scr l =>
    obtain ⟨p, rfl, hp⟩ := hv.scr k.sf
    exact ⟨_, l.length, rfl, .inl ⟨_, hp, by rw [List.length_map]⟩, post.now k (.int _)⟩
  case ptr n =>
    obtain ⟨p, rfl, hp⟩ := hv.ptr
    obtain ⟨l, ql, post⟩ := RPost.opt (stLst st n) (fun l => .val .P (.int l.length) st) post
    obtain ⟨vs, hh, hl⟩ := k.lst hp ql
    exact ⟨_, l.length, rfl, .inl ⟨vs, SqL.of hh, hl.len.symm⟩, post.now k (.int _)⟩
  case str z =>
    obtain rfl := hv.str
    obtain ⟨c, post⟩ := RPost.cond (z.length ≤ 1000000) (.val .P (.int z.length) st) post
    exact ⟨_, z.length, rfl, ⟨sz c, rfl⟩, post.now k (.int _)⟩
/-! max, min of two whole numbers -/
def oMax2 : List D → Sto → ER
  | [.int i, .int j], st => .val .P (.int (if j > i then j else i)) st
  | _, _ => .bad
def oMin2 : List D → Sto → ER
  | [.int i, .int j], st => .val .P (.int (if j < i then j else i)) st
  | _, _ => .bad
theorem DCal.two2 {r : List V → Hp → VK → Prop} {o : List D → Sto → ER} (h0 : ∀ st, o [] st = .bad) (h1 : ∀ a st, o [a] st = .bad) (h3 : ∀ a b c l st, o (a :: b :: c :: l) st = .bad)
    (h : ∀ (W : WX) (σ : L2.St) (s : Hs) (st : Sto) (v w : V) (d d' : D), StOk G s st → U G s v d → U G s w d' → ∀ Q : VK, RPost G W s σ Q (o [d, d'] st) → r [v, w] s.h Q) : DCal G r o := by
  intro W σ s st vs ds k hv Q post
  match ds, hv, post with
  | [], _, post => rw [h0] at post; exact post.elim
  | [a], _, post => rw [h1] at post; exact post.elim
  | [d, d'], hv, post => obtain ⟨v, w, rfl, hv1, hv2⟩ := hv.two; exact h W σ s st v w d d' k hv1 hv2 Q post
  | a :: b :: c :: l, _, post => rw [h3] at post; exact post.elim
theorem c_max2 : DCal G (fun xs H Q => ∃ i j, xs = [.int i, .int j] ∧ Q (.int (if j > i then j else i)) H) oMax2 := by
  refine DCal.two2 (fun _ => rfl) (fun a _ => by cases a <;> rfl) (fun a b c l _ => by cases a <;> first | rfl | (cases b <;> rfl)) fun W σ s st v w d d' k hv hw Q post => ?_
  cases d <;> cases d' <;> try exact post.elim
  obtain rfl := hv.int; obtain rfl := hw.int
  exact ⟨_, _, rfl, post.now k (.int _)⟩
theorem c_min2 : DCal G (fun xs H Q => ∃ i j, xs = [.int i, .int j] ∧ Q (.int (if j < i then j else i)) H) oMin2 := by
  refine DCal.two2 (fun _ => rfl) (fun a _ => by cases a <;> rfl) (fun a b c l _ => by cases a <;> first | rfl | (cases b <;> rfl)) fun W σ s st v w d d' k hv hw Q post => ?_
  cases d <;> cases d' <;> try exact post.elim
  obtain rfl := hv.int; obtain rfl := hw.int
  exact ⟨_, _, rfl, post.now k (.int _)⟩
/-! sum of whole numbers -/
def intsOf : List D → Option (List Int)
  | [] => some []
  | .int i :: l => (intsOf l).map (i :: ·)
  | _ => none
theorem intsOf_V {as : List Addr} {H : Hp} : ∀ {l : List D} {vs : List V} {ns : List Int}, intsOf l = some ns → IsL G as H vs l → vs = ns.map V.int
  | [], _, _, h, i => by cases i; cases h; rfl
  | d :: l, _, ns, h, i => by
    cases i with
    | cons a b =>
      cases d <;> first | (cases h; done) | skip
      rename_i i
      have h' : (intsOf l).map (i :: ·) = some ns := h
      cases q : intsOf l with
      | none => rw [q] at h'; cases h'
      | some ms =>
        rw [q] at h'; cases h'
        cases a
        rw [intsOf_V q b]; rfl
def oSum : List D → Sto → ER
  | [.lst l], st => ofOpt (intsOf l) fun ns => .val .P (.int ns.sum) st
  | _, _ => .bad
theorem c_sum : DCal G (rSum G.K) oSum := by
  refine DCal.one1 (fun _ => rfl) (fun a b l _ => by cases a <;> rfl) fun W σ s st v d k hv Q post => ?_
  cases d <;> try exact post.elim
  rename_i l
  obtain ⟨p, vs, rfl, hp, hl⟩ := hv.lst k.sf
  obtain ⟨ns, h, post⟩ := RPost.opt (intsOf l) (fun ns => .val .P (.int ns.sum) st) post
  have := intsOf_V h hl
  subst this
  exact ⟨p, ns, rfl, SqL.of hp, post.now k (.int _)⟩
/-! list(x), tuple(x) -/
theorem IsL.ints {as : List Addr} {H : Hp} : ∀ (l : List Int), IsL G as H (l.map V.int) (l.map D.int)
  | [] => .nil
  | i :: l => .cons (.int i) (IsL.ints l)
def oList : List D → Sto → ER
  | [.lst l], st => .val .N (.lst l) st
  | [.tup l], st => .val .N (.lst l) st
  | [.scr l], st => .val .N (.lst (l.map .int)) st
  | [.ptr n], st => ofOpt (stLst st n) fun l => .val .N (.lst l) st
  | _, _ => .bad
theorem c_list : DCal G (fun xs H Q => ∃ p ys, xs = [.ref p] ∧ (SqL G.K H p ys ∨ SqT G.K H p ys) ∧ ∀ l, H l = none → Q (.ref l) (upd H l (.lst ys))) oList := by
  refine DCal.one1 (fun _ => rfl) (fun a b l _ => by cases a <;> rfl) fun W σ s st v d k hv Q post => ?_
  cases d <;> try exact post.elim
  case lst l =>
    obtain ⟨p, vs, rfl, hp, hl⟩ := hv.lst k.sf
    exact ⟨p, vs, rfl, .inl (SqL.of hp), fun r hr => RPost.newL k post hl hr⟩
  case tup l =>
    obtain ⟨p, vs, rfl, hp, hl⟩ := hv.tup k.sf
    exact ⟨p, vs, rfl, .inr hp, fun r hr => RPost.newL k post hl hr⟩
  case scr l =>
    obtain ⟨p, rfl, hp⟩ := hv.scr k.sf
    exact ⟨p, _, rfl, .inl hp, fun r hr => RPost.newL k post (IsL.ints _) hr⟩
  case ptr n =>
    obtain ⟨p, rfl, hp⟩ := hv.ptr
    obtain ⟨l, ql, post⟩ := RPost.opt (stLst st n) (fun l => .val .N (.lst l) st) post
    obtain ⟨vs, hh, hl⟩ := k.lst hp ql
    exact ⟨p, vs, rfl, .inl (SqL.of hh), fun r hr => RPost.newL k post hl hr⟩
def oTuple : List D → Sto → ER
  | [.lst l], st => .val .P (.tup l) st
  | [.tup l], st => .val .P (.tup l) st
  | _, _ => .bad
theorem c_tuple : DCal G (fun xs H Q => ∃ p ys, xs = [.ref p] ∧ ((SqL G.K H p ys ∧ ∀ l, H l = none → Q (.ref l) (upd H l (.tup ys))) ∨ (SqT G.K H p ys ∧ Q (.ref p) H))) oTuple := by
  refine DCal.one1 (fun _ => rfl) (fun a b l _ => by cases a <;> rfl) fun W σ s st v d k hv Q post => ?_
  cases d <;> try exact post.elim
  case lst l =>
    obtain ⟨p, vs, rfl, hp, hl⟩ := hv.lst k.sf
    exact ⟨p, vs, rfl, .inl ⟨SqL.of hp, fun r hr => RPost.newT k post hl hr⟩⟩
  case tup l =>
    rcases hv with hv | ⟨p, vs, l', rfl, e, _⟩
    · cases hv with
      | tup a b => exact ⟨_, _, rfl, .inr ⟨same_t k.sf a, RPost.now k post (.tup a b)⟩⟩
    · cases e
/-! ### slices -/
def cutG {α : Type} (xs : List α) (lo hi : Option Int) : List α := (xs.drop (HT.sIx xs.length 0 lo)).take (HT.sIx xs.length xs.length hi - HT.sIx xs.length 0 lo)
theorem cut_L {as : List Addr} {f : Hp} {vs : List V} {l : List D} (h : IsL G as f vs l) (lo hi : Option Int) : IsL G as f (cutV vs lo hi) (cutG l lo hi) := by
  unfold cutV cutG
  rw [h.len]
  exact (h.drop _).take _
/-- a slice's part: left out, or a whole number -/
def DTo (G : Gm) (W : WX) (to : TO) (f : En → Option ER) : Prop :=
  ∀ s t σ e st, EnvOk G s t σ e → StOk G t st → ∀ (Q : Option Int → Hp → Prop) (o : Option Int) (st' : Sto),
    (match f ⟨e, st⟩ with
      | none => o = none ∧ st' = st
      | some (.val _ (.int i) st1) => o = some i ∧ st' = st1
      | _ => False) → (∀ t', Gro t t' → StOk G t' st' → Q o t'.h) → to σ t.h Q
theorem o_none : DTo G W tNoPart (fun _ => none) := fun _ t _ _ _ _ k _ _ _ ⟨h1, h2⟩ post => by
  subst h1; subst h2; exact post t (Gro.refl k) k
theorem o_some {te : TE} {f : En → ER} (h : DEv G W te f) : DTo G W (tPart te) (fun E => some (f E)) := by
  intro s t σ e st E k Q o st' c post
  refine h s t σ e st E k _ ?_
  cases q : f ⟨e, st⟩ with
  | val m d st1 =>
    simp only [q] at c
    cases d <;> first | exact c.elim | skip
    obtain ⟨rfl, rfl⟩ := c
    intro t' v g k' o
    obtain rfl := o.u.int
    exact ⟨_, rfl, post t' g k'⟩
  | exc c' l st1 => simp only [q] at c
  | bad => simp only [q] at c
def partI (o : Option ER) (st : Sto) : Option (Option Int × Sto) := match o with
  | none => some (none, st)
  | some (.val _ (.int i) st1) => some (some i, st1)
  | _ => none
def DSl (G : Gm) (r : V → Option Int → Option Int → Hp → VK → Prop) (o : D → Option Int → Option Int → Sto → ER) : Prop :=
  ∀ (W : WX) (σ : L2.St) (s : Hs) (st : Sto) (v : V) (d : D) (lo hi : Option Int), StOk G s st → U G s v d → ∀ Q : VK, RPost G W s σ Q (o d lo hi st) → r v lo hi s.h Q
def dSl (o : D → Option Int → Option Int → Sto → ER) (f : En → ER) (lo hi : En → Option ER) : En → ER := fun E => (f E).bind fun x st => ofOpt (partI (lo ⟨E.e, st⟩) st) fun l => ofOpt (partI (hi ⟨E.e, l.2⟩) l.2) fun u => o x l.1 u.1 u.2
theorem part_post {tl : TO} {lo : En → Option ER} (hl : DTo G W tl lo) {s t : Hs} {σ : L2.St} {e : DE} {st : Sto} (E : EnvOk G s t σ e) (k : StOk G t st) {l : Option Int × Sto} (hp : partI (lo ⟨e, st⟩) st = some l) {Q : Option Int → Hp → Prop} (post : ∀ t', Gro t t' → StOk G t' l.2 → Q l.1 t'.h) : tl σ t.h Q := by
  refine hl s t σ e st E k Q l.1 l.2 ?_ post
  cases q : lo ⟨e, st⟩ with
  | none => rw [q] at hp; cases hp; exact ⟨rfl, rfl⟩
  | some r =>
    rw [q] at hp
    cases r with
    | val m d st1 =>
      cases d <;> first | (cases hp; done) | skip
      cases hp
      exact ⟨rfl, rfl⟩
    | exc c l st1 => cases hp
    | bad => cases hp
theorem v_sl {r : V → Option Int → Option Int → Hp → VK → Prop} {o : D → Option Int → Option Int → Sto → ER} {te : TE} {tl th : TO} {f : En → ER} {lo hi : En → Option ER} (hr : DSl G r o) (he : DEv G W te f) (hl : DTo G W tl lo) (hh : DTo G W th hi) : DEv G W (tSl r te tl th) (dSl o f lo hi) := by
  intro s t σ e st E k Q post
  refine he s t σ e st E k _ (RPost.bind post fun m d st1 t1 v g1 k1 o1 p1 => ?_)
  obtain ⟨l, h1, p1⟩ := RPost.opt _ _ p1
  obtain ⟨u, h2, p1⟩ := RPost.opt _ _ p1
  refine part_post hl (E.up g1) k1 h1 fun t2 g2 k2 => part_post hh ((E.up g1).up g2) k2 h2 fun t3 g3 k3 => ?_
  exact hr W σ t3 u.2 v d l.1 u.1 k3 (((o1.up g2).up g3).u) Q (RPost.step (g2.trans g3) k3 p1)
abbrev rSlA (K : PySem.W.Frag) : V → Option Int → Option Int → Hp → VK → Prop := fun x lo hi H Q => rSlL K x lo hi H Q ∨ (fun x lo hi H Q => L2.rSlA K x lo hi H Q ∨ rSlS x lo hi H Q) x lo hi H Q
theorem sl_any {X : Cx} : SlR X (rSlA X.K) := sl_list.or (L2.sl_tupA.or sl_str)
def oSl (d : D) (lo hi : Option Int) (st : Sto) : ER := match d with
  | .lst l => .val .N (.lst (cutG l lo hi)) st
  | .scr l => .val .N (.lst ((cutG l lo hi).map .int)) st
  | .tup l => .val .P (.tup (cutG l lo hi)) st
  | .str z => if z.length ≤ 1000000 then .val .P (.str (cutS z lo hi)) st else .bad
  | _ => .bad
theorem cut_map (l : List Int) (lo hi : Option Int) : cutV (l.map V.int) lo hi = (cutG l lo hi).map V.int := by
  unfold cutV cutG
  rw [List.length_map, List.map_take, List.map_drop]
theorem d_sl : DSl G (rSlA G.K) oSl := by
  intro W σ s st v d lo hi k hv Q post
  cases d <;> try exact post.elim
  case lst l =>
    obtain ⟨p, vs, rfl, hp, hl⟩ := hv.lst k.sf
    exact .inl ⟨p, vs, rfl, SqL.of hp, fun r hr => RPost.newL k post (cut_L hl lo hi) hr⟩
  case scr l =>
    obtain ⟨p, rfl, hp⟩ := hv.scr k.sf
    exact .inl ⟨p, _, rfl, hp, fun r hr => by rw [cut_map]; exact RPost.newL k post (IsL.ints _) hr⟩
  case tup l =>
    obtain ⟨p, vs, rfl, hp, hl⟩ := hv.tup k.sf
    refine .inr (.inl ⟨p, vs, rfl, hp, fun c => ?_, fun _ r hr => RPost.newT k post (cut_L hl lo hi) hr⟩)
    rw [hl.len] at c
    have e : cutG l lo hi = l := by
      unfold cutG
      rw [c.1, c.2]; simp
    rw [show oSl (.tup l) lo hi st = .val .P (.tup (cutG l lo hi)) st from rfl, e] at post
    exact RPost.now k post hv.tupI
  case str z =>
    obtain rfl := hv.str
    obtain ⟨c, post⟩ := RPost.cond (z.length ≤ 1000000) (.val .P (.str (cutS z lo hi)) st) post
    exact .inr (.inr ⟨z, rfl, sz c, post.now k (.str _)⟩)
end
end Dn
namespace Dn
open PySem PySem.Spec PyProof.Rows L2
/-- what is frozen stays, the store's addresses stay -/
structure Up (s t : Hs) : Prop where
  a : Ext s.as t.as
  f : Same s.f t.f
theorem Up.refl (s : Hs) : Up s s := ⟨Ext.refl _, Same.refl _⟩
theorem Up.trans {s t u : Hs} (x : Up s t) (y : Up t u) : Up s u := ⟨x.a.trans y.a, x.f.trans y.f⟩
theorem Gro.up {s t : Hs} (g : Gro s t) : Up s t := ⟨g.a, g.f⟩
/-! ### targets -/
/-- the target takes the frozen datum d: the slots behind it; js: the slots it writes -/
def DTg (G : Gm) (g : TG) (js : List Nat) (h : D → DE → Option DE) : Prop :=
  ∀ s t σ e st v d, EnvOk G s t σ e → StOk G t st → Is G t.as t.f v d → ∀ Q : L2.St → Hp → Prop, ∀ e', h d e = some e' →
    (∀ σ', EnvOk G s t σ' e' → σ'.length = σ.length → (∀ i, i ∉ js → σ'[i]? = σ[i]?) → Q σ' t.h) → g v σ t.h Q
def DTgs (G : Gm) (g : TGs) (js : List Nat) (h : List D → DE → Option DE) : Prop :=
  ∀ s t σ e st vs ds, EnvOk G s t σ e → StOk G t st → IsL G t.as t.f vs ds → ∀ Q : L2.St → Hp → Prop, ∀ e', h ds e = some e' →
    (∀ σ', EnvOk G s t σ' e' → σ'.length = σ.length → (∀ i, i ∉ js → σ'[i]? = σ[i]?) → Q σ' t.h) → g vs σ t.h Q
section
variable {G : Gm} {W : WX}
def tgN (i : Nat) : D → DE → Option DE := fun d e => some (e.set i (.val d))
theorem g_name {i : Nat} : DTg G (gName i) [i] (tgN i) := by
  intro s t σ e st v d E k hv Q e' he post
  cases he
  refine post _ (E.set ⟨v, rfl, hv⟩ (fun l z => nomatch z)) (by simp) fun j hj => ?_
  have : i ≠ j := fun z => hj (by simp [z])
  rw [List.getElem?_set_ne this]
def tgsNil : List D → DE → Option DE := fun l e => match l with | [] => some e | _ => none
theorem gs_nil : DTgs G gNil [] tgsNil := by
  intro s t σ e st vs ds E k hv Q e' he post
  cases ds with
  | nil => cases hv; cases he; exact ⟨rfl, post σ E rfl fun _ _ => rfl⟩
  | cons d l => cases he
def tgsCons (t : D → DE → Option DE) (u : List D → DE → Option DE) : List D → DE → Option DE := fun l e => match l with
  | [] => none
  | d :: l => (t d e).bind (u l)
theorem gs_cons {g : TG} {gs : TGs} {js ks : List Nat} {t : D → DE → Option DE} {u : List D → DE → Option DE} (h1 : DTg G g js t) (h2 : DTgs G gs ks u) : DTgs G (gCons g gs) (js ++ ks) (tgsCons t u) := by
  intro s t0 σ e st vs ds E k hv Q e' he post
  cases ds with
  | nil => cases he
  | cons d l =>
    cases hv with
    | cons a b =>
      have he' : (t d e).bind (u l) = some e' := he
      cases q : t d e with
      | none => rw [q] at he'; cases he'
      | some e1 =>
        rw [q] at he'
        refine ⟨_, _, rfl, h1 s t0 σ e st _ d E k a _ e1 q fun σ1 E1 l1 w1 => ?_⟩
        refine h2 s t0 σ1 e1 st _ l E1 k b _ e' he' fun σ2 E2 l2 w2 => ?_
        refine post σ2 E2 (l2.trans l1) fun i hi => ?_
        rw [w2 i (fun z => hi (List.mem_append_right _ z)), w1 i (fun z => hi (List.mem_append_left _ z))]
def tgT (n : Nat) (u : List D → DE → Option DE) : D → DE → Option DE := fun d e => match d with
  | .tup l => if l.length = n then u l e else none
  | .lst l => if l.length = n then u l e else none
  | _ => none
abbrev gTL (K : PySem.W.Frag) (n : Nat) (t : TGs) : TG := fun v σ H Q => gTup K n t v σ H Q ∨ gLst K n t v σ H Q
theorem pg_tl {X : Cx} {pos : Pos} {es : List Expr} {k : Nat} {t : TGs} {n : Nat} (hc : X.calm = true) (h : PGs X es t)
    (hn : (assignEach es X.env).length = n := by rfl) (hst : (assignEach es X.env).findIdx? (·.1) = none := by rfl) : PG X (.Tuple es k pos) (gTL X.K n t) :=
  ⟨fun pins s σ H v u Q I r hw => hw.elim (fun z => (pg_tup hc h hn hst).run pins s σ H v u Q I r z) (fun z => (pg_lst hc h hn hst).run pins s σ H v u Q I r z)⟩
theorem g_tl {n : Nat} {t : TGs} {js : List Nat} {u : List D → DE → Option DE} (h : DTgs G t js u) : DTg G (gTL G.K n t) js (tgT n u) := by
  intro s t0 σ e st v d E k hv Q e' he post
  cases d <;> try (cases he; done)
  case tup l =>
    have he' : (if l.length = n then u l e else none) = some e' := he
    split at he'
    · rename_i hn
      cases hv with
      | tup a b => exact .inl ⟨_, _, rfl, same_t k.sf a, b.len.trans hn, h s t0 σ e st _ l E k b Q e' he' post⟩
    · cases he'
  case lst l =>
    have he' : (if l.length = n then u l e else none) = some e' := he
    split at he'
    · rename_i hn
      cases hv with
      | lst a b => exact .inr ⟨_, _, rfl, SqL.of (k.sf _ _ a), b.len.trans hn, h s t0 σ e st _ l E k b Q e' he' post⟩
    · cases he'
end
/-! ### statements -/
inductive SR where | nx (E : En) | rt (m : Md) (d : D) (st : Sto) | bk (E : En) | ct (E : En) | exc (c : Nat) (l : List D) (E : En) | bad
def SPost (G : Gm) (W : WX) (s t : Hs) (N : Ends) : SR → Prop
  | .nx E => ∀ t' σ', Up t t' → EnvOk G s t' σ' E.e → StOk G t' E.st → N.nx σ' t'.h
  | .rt m d st => ∀ t' v, Up t t' → Gro s t' → StOk G t' st → VOk G s t' m v d → N.rt v t'.h
  | .bk E => ∀ t' σ', Up t t' → EnvOk G s t' σ' E.e → StOk G t' E.st → N.bk σ' t'.h
  | .ct E => ∀ t' σ', Up t t' → EnvOk G s t' σ' E.e → StOk G t' E.st → N.ct σ' t'.h
  | .exc c l E => ∀ t' σ' x, Up t t' → EnvOk G s t' σ' E.e → StOk G t' E.st → ExcOk G t' c l x → W (.ref (G.ca c)) x σ' t'.h
  | .bad => False
theorem SPost.mono {G : Gm} {W : WX} {s t t1 : Hs} {N : Ends} {r : SR} (u : Up t t1) (h : SPost G W s t N r) : SPost G W s t1 N r := by
  cases r with
  | nx E => exact fun t' σ' q => h t' σ' (u.trans q)
  | rt m d st => exact fun t' v q => h t' v (u.trans q)
  | bk E => exact fun t' σ' q => h t' σ' (u.trans q)
  | ct E => exact fun t' σ' q => h t' σ' (u.trans q)
  | exc c l E => exact fun t' σ' x q => h t' σ' x (u.trans q)
  | bad => exact h
def DSt (G : Gm) (W : WX) (ts : TS) (g : En → SR) : Prop :=
  ∀ s t σ e st, EnvOk G s t σ e → StOk G t st → ∀ N : Ends, SPost G W s t N (g ⟨e, st⟩) → ts N σ t.h
def SR.bind (r : SR) (k : En → SR) : SR := match r with
  | .nx E => k E
  | r => r
@[simp] theorem SR.bind_nx (E : En) (k : En → SR) : (SR.nx E).bind k = k E := rfl
@[simp] theorem SR.bind_rt (m : Md) (d : D) (st : Sto) (k : En → SR) : (SR.rt m d st).bind k = .rt m d st := rfl
@[simp] theorem SR.bind_bk (E : En) (k : En → SR) : (SR.bk E).bind k = .bk E := rfl
@[simp] theorem SR.bind_ct (E : En) (k : En → SR) : (SR.ct E).bind k = .ct E := rfl
@[simp] theorem SR.bind_exc (c : Nat) (l : List D) (E : En) (k : En → SR) : (SR.exc c l E).bind k = .exc c l E := rfl
@[simp] theorem SR.bind_bad (k : En → SR) : SR.bad.bind k = .bad := rfl
section
variable {G : Gm} {W : WX}
def sSeq (f g : En → SR) : En → SR := fun E => (f E).bind g
theorem s_seq {t u : TS} {f g : En → SR} (h1 : DSt G W t f) (h2 : DSt G W u g) : DSt G W (tSeq t u) (sSeq f g) := by
  intro s t0 σ e st E k N post
  refine h1 s t0 σ e st E k _ ?_
  unfold sSeq at post
  cases q : f ⟨e, st⟩ with
  | nx E1 => rw [q] at post; exact fun t' σ' u E' k' => h2 s t' σ' E1.e E1.st E' k' N (SPost.mono u post)
  | rt m d st => rw [q] at post; exact post
  | bk e => rw [q] at post; exact post
  | ct e => rw [q] at post; exact post
  | exc c l e => rw [q] at post; exact post
  | bad => rw [q] at post; exact post
def sSkip : En → SR := .nx
theorem s_skip : DSt G W tNext sSkip := fun s t σ e st E k N post => post t σ (Up.refl _) E k
def sBreak : En → SR := .bk
theorem s_break : DSt G W tBreak sBreak := fun s t σ e st E k N post => post t σ (Up.refl _) E k
def sCont : En → SR := .ct
theorem s_cont : DSt G W tCont sCont := fun s t σ e st E k N post => post t σ (Up.refl _) E k
/-- an expression's results lead on -/
theorem ev_st {te : TE} {f : En → ER} (h : DEv G W te f) {s t : Hs} {σ : L2.St} {e : DE} {st : Sto} (E : EnvOk G s t σ e) (k : StOk G t st) {N : Ends} {Q : VK} (hx : ∀ c l st1, f ⟨e, st⟩ = .exc c l st1 → SPost G W s t N (.exc c l ⟨e, st1⟩)) (hb : f ⟨e, st⟩ ≠ .bad)
    (hv : ∀ m d st1, f ⟨e, st⟩ = .val m d st1 → ∀ t' v, Gro t t' → StOk G t' st1 → VOk G t t' m v d → Q v t'.h) : te σ t.h Q := by
  refine h s t σ e st E k _ ?_
  cases q : f ⟨e, st⟩ with
  | val m d st1 => exact hv m d st1 q
  | exc c l st1 => exact fun t' x g k' o => hx c l st1 q t' σ x g.up (E.up g) k' o
  | bad => exact absurd q hb
/-- x = e; a new list is the def's own -/
def sSet (i : Nat) (f : En → ER) : En → SR := fun E => match f E with
  | .val .P d st => .nx ⟨E.e.set i (.val d), st⟩
  | .val .N (.lst l) st => .nx ⟨E.e.set i (.own l), st⟩
  | .exc c l st => .exc c l ⟨E.e, st⟩
  | _ => .bad
theorem s_set {i : Nat} {te : TE} {f : En → ER} (h : DEv G W te f) : DSt G W (tAsg te (gName i)) (sSet i f) := by
  intro s t σ e st E k N post
  unfold sSet at post
  refine ev_st (N := N) h E k (fun c l st1 q => by rw [q] at post; exact post) (fun q => by rw [q] at post; exact post) fun m d st1 q t' v g k' o => ?_
  rw [q] at post
  cases m with
  | P => exact post t' _ g.up ((E.up g).set ⟨v, rfl, o⟩ (fun l z => nomatch z)) k'
  | B => cases d <;> exact post.elim
  | N =>
    obtain ⟨p, vs, l, rfl, rfl, a, b, c, n, z⟩ := o
    have n0 : s.h p = none := by
      cases q : s.h p with
      | none => rfl
      | some o =>
        by_cases i : p ∈ s.as
        · exact absurd (E.gr.a.mem i) (k.new n)
        · rw [E.gr.h p o q i] at n; cases n
    refine post t' _ g.up ((E.up g).setOwn n0 z a b c fun j m hj s1 s2 => ?_) k'
    obtain ⟨o, h1, p', vs', h2, _, _, h3, _⟩ := E.slot s2
    rw [s1] at h1; cases h1
    cases h2
    rw [n] at h3; cases h3
/-- x = e; a new list is frozen -/
def sSetF (i : Nat) (f : En → ER) : En → SR := fun E => match f E with
  | .val .P d st => .nx ⟨E.e.set i (.val d), st⟩
  | .val .N d st => .nx ⟨E.e.set i (.val d), st⟩
  | .exc c l st => .exc c l ⟨E.e, st⟩
  | _ => .bad
theorem s_setF {i : Nat} {te : TE} {f : En → ER} (h : DEv G W te f) : DSt G W (tAsg te (gName i)) (sSetF i f) := by
  intro s t σ e st E k N post
  unfold sSetF at post
  refine ev_st (N := N) h E k (fun c l st1 q => by rw [q] at post; exact post) (fun q => by rw [q] at post; exact post) fun m d st1 q t' v g k' o => ?_
  rw [q] at post
  cases m with
  | P => exact post t' _ g.up ((E.up g).set ⟨v, rfl, o⟩ (fun l z => nomatch z)) k'
  | B => exact post.elim
  | N =>
    obtain ⟨f2, g2, k2, _, i2⟩ := o.freeze g k' (by decide)
    exact post ⟨t'.as, f2, t'.h⟩ _ g2.up ((E.up g2).set ⟨v, rfl, i2⟩ (fun l z => nomatch z)) k2
/-- target = e, the target of any form -/
def sAsg (t : D → DE → Option DE) (f : En → ER) : En → SR := fun E => match f E with
  | .val .B _ _ => .bad
  | .val _ d st => (match t d E.e with | some e' => .nx ⟨e', st⟩ | none => .bad)
  | .exc c l st => .exc c l ⟨E.e, st⟩
  | _ => .bad
theorem s_asg {te : TE} {g : TG} {js : List Nat} {f : En → ER} {tg : D → DE → Option DE} (h : DEv G W te f) (hg : DTg G g js tg) : DSt G W (tAsg te g) (sAsg tg f) := by
  intro s t σ e st E k N post
  unfold sAsg at post
  refine ev_st (N := N) h E k (fun c l st1 q => by rw [q] at post; exact post) (fun q => by rw [q] at post; exact post) fun m d st1 q t' v g1 k' o => ?_
  rw [q] at post
  have fin : ∀ f2, Gro t ⟨t'.as, f2, t'.h⟩ → StOk G ⟨t'.as, f2, t'.h⟩ st1 → Is G t'.as f2 v d → SPost G W s t N (match tg d e with | some e' => .nx ⟨e', st1⟩ | none => .bad) → g v σ t'.h N.nx := fun f2 g2 k2 i2 p => by
    cases q2 : tg d e with
    | none => rw [q2] at p; exact p.elim
    | some e' =>
      rw [q2] at p
      exact hg s ⟨t'.as, f2, t'.h⟩ σ e st1 v d (E.up g2) k2 i2 _ e' q2 fun σ3 E3 _ _ => p _ σ3 g2.up E3 k2
  cases m with
  | P => exact fin t'.f g1 k' o post
  | B => exact post.elim
  | N =>
    obtain ⟨f2, g2, k2, _, i2⟩ := o.freeze g1 k' (by decide)
    exact fin f2 g2 k2 i2 post
/-- x, y = a, b -/
def sPar (i j : Nat) (f : En → AR) : En → SR := fun E => match f E with
  | .ok true [a, b] st => .nx ⟨(E.e.set i (.val a)).set j (.val b), st⟩
  | .exc c l st => .exc c l ⟨E.e, st⟩
  | _ => .bad
theorem s_par {i j : Nat} {ta : TA} {f : En → AR} (h : DAr G W ta f) : DSt G W (tPar i j ta) (sPar i j f) := by
  intro s t σ e st E k N post
  unfold sPar at post
  refine h s t σ e st E k _ ?_
  cases q : f ⟨e, st⟩ with
  | ok p l st1 =>
    rw [q] at post
    cases p with
    | false => exact post.elim
    | true =>
      match l, post with
      | [], post => exact post.elim
      | [a], post => exact post.elim
      | [a, b], post =>
        intro t' vs g k' i2 _
        have i2 := i2 rfl
        cases i2 with
        | cons ia ib =>
          cases ib with
          | cons ib ic =>
            cases ic
            exact ⟨_, _, rfl, post t' _ g.up (((E.up g).set (x := .val a) ⟨_, rfl, ia⟩ (fun l z => nomatch z)).set (x := .val b) ⟨_, rfl, ib⟩ (fun l z => nomatch z)) k'⟩
      | a :: b :: c :: l, post => exact post.elim
  | exc c l st1 => rw [q] at post; exact fun t' x g k' o => post t' σ x g.up (E.up g) k' o
  | bad => rw [q] at post; exact post
/-- an expression alone -/
def sDrop (f : En → ER) : En → SR := fun E => match f E with
  | .val _ _ st => .nx ⟨E.e, st⟩
  | .exc c l st => .exc c l ⟨E.e, st⟩
  | .bad => .bad
theorem s_drop {te : TE} {f : En → ER} (h : DEv G W te f) : DSt G W (tDrop te) (sDrop f) := by
  intro s t σ e st E k N post
  unfold sDrop at post
  refine ev_st (N := N) h E k (fun c l st1 q => by rw [q] at post; exact post) (fun q => by rw [q] at post; exact post) fun m d st1 q t' v g k' o => ?_
  rw [q] at post
  exact post t' σ g.up (E.up g) k'
def sRet (f : En → ER) : En → SR := fun E => match f E with
  | .val .P d st => .rt .P d st
  | .val .N d st => .rt .N d st
  | .exc c l st => .exc c l ⟨E.e, st⟩
  | _ => .bad
theorem s_ret {te : TE} {f : En → ER} (h : DEv G W te f) : DSt G W (tRet te) (sRet f) := by
  intro s t σ e st E k N post
  unfold sRet at post
  refine ev_st (N := N) h E k (fun c l st1 q => by rw [q] at post; exact post) (fun q => by rw [q] at post; exact post) fun m d st1 q t' v g k' o => ?_
  rw [q] at post
  cases m with
  | P => exact post t' v g.up (E.gr.trans g) k' o
  | B => exact post.elim
  | N => exact post t' v g.up (E.gr.trans g) k' (o.back E.gr k)
def sRetV (i : Nat) : En → SR := fun E => match E.e[i]? with
  | some (.val d) => .rt .P d E.st
  | some (.own l) => .rt .N (.lst l) E.st
  | _ => .bad
theorem s_retV {i : Nat} : DSt G W (tRet (tVar i)) (sRetV i) := by
  intro s t σ e st E k N post
  unfold sRetV at post
  split at post
  · rename_i d q
    obtain ⟨o, h1, v, rfl, h2⟩ := E.slot q
    exact ⟨v, h1, post t v (Up.refl _) E.gr k h2⟩
  · rename_i l q
    obtain ⟨o, h1, p, vs, rfl, a, b, c, d, f⟩ := E.slot q
    exact ⟨_, h1, post t _ (Up.refl _) E.gr k ⟨p, vs, l, rfl, rfl, c, d, f, a, b⟩⟩
  · exact post.elim
def sRetN : En → SR := fun E => .rt .P .non E.st
theorem s_retN : DSt G W tRetN sRetN := fun s t σ e st E k N post => post t .non (Up.refl _) E.gr k .non
def sIf (c : En → ER) (f g : En → SR) : En → SR := fun E => match c E with
  | .val _ (.bl b) st => if b = true then f ⟨E.e, st⟩ else g ⟨E.e, st⟩
  | .exc c l st => .exc c l ⟨E.e, st⟩
  | _ => .bad
theorem tst_st {tt : TT} {f : En → ER} (h : DTt G W tt f) {s t : Hs} {σ : L2.St} {e : DE} {st : Sto} (E : EnvOk G s t σ e) (k : StOk G t st) {N : Ends} {Q : Bool → Hp → Prop} (hx : ∀ c l st1, f ⟨e, st⟩ = .exc c l st1 → SPost G W s t N (.exc c l ⟨e, st1⟩)) (hb : ∃ m b st1, f ⟨e, st⟩ = .val m (.bl b) st1 ∨ ∃ c l, f ⟨e, st⟩ = .exc c l st1)
    (hv : ∀ m b st1, f ⟨e, st⟩ = .val m (.bl b) st1 → ∀ t', Gro t t' → StOk G t' st1 → Q b t'.h) : tt σ t.h Q := by
  refine h s t σ e st E k _ ?_
  obtain ⟨m, b, st1, q | ⟨c, l, q⟩⟩ := hb
  · rw [q]; exact hv m b st1 q
  · rw [q]; exact fun t' x g k' o => hx c l st1 q t' σ x g.up (E.up g) k' o
theorem s_if {tc : TT} {t u : TS} {c : En → ER} {f g : En → SR} (hc : DTt G W tc c) (ht : DSt G W t f) (hu : DSt G W u g) : DSt G W (tIfS tc t u) (sIf c f g) := by
  intro s t0 σ e st E k N post
  unfold sIf at post
  refine tst_st (N := N) hc E k (fun c l st1 q => by rw [q] at post; exact post) ?_ fun m b st1 q t' g1 k' => ?_
  · cases q : c ⟨e, st⟩ with
    | val m d st1 =>
      rw [q] at post
      cases d <;> first | exact post.elim | exact ⟨m, _, st1, .inl rfl⟩
    | exc k l st1 => exact ⟨.P, true, st1, .inr ⟨k, l, rfl⟩⟩
    | bad => rw [q] at post; exact post.elim
  · rw [q] at post
    have post' : SPost G W s t0 N (if b = true then f ⟨e, st1⟩ else g ⟨e, st1⟩) := post
    cases b with
    | true => exact iteT (ht s t' σ e st1 (E.up g1) k' N (SPost.mono g1.up post'))
    | false => exact iteF (hu s t' σ e st1 (E.up g1) k' N (SPost.mono g1.up post'))
/-- own lists are frozen -/
def frz (i : Nat) (e : DE) : DE := match e[i]? with
  | some (.own l) => e.set i (.val (.lst l))
  | _ => e
theorem EnvOk.frz {s t : Hs} {σ : L2.St} {e : DE} {st : Sto} (i : Nat) (E : EnvOk G s t σ e) (k : StOk G t st) : ∃ f, Same t.f f ∧ EnvOk G s ⟨t.as, f, t.h⟩ σ (frz i e) ∧ StOk G ⟨t.as, f, t.h⟩ st := by
  unfold Dn.frz
  split
  · rename_i l q
    obtain ⟨o, h1, p, vs, rfl, a, b, c, d, f⟩ := E.slot q
    have s1 : Same t.f (upd t.f p (.lst vs)) := same_new b
    refine ⟨upd t.f p (.lst vs), s1, ⟨E.gr.ice k c a b f, by simp [E.len], fun j o x y z => ?_, fun j m x l1 l2 hjk y z w u => ?_⟩, k.ice c b f⟩
    · by_cases zz : i = j
      · subst zz
        rw [List.getElem?_set_self (List.getElem?_eq_some_iff.mp q).1] at z
        rw [h1] at y; cases y; cases z
        exact ⟨_, rfl, .lst upd_same (d.up (Ext.refl _) s1)⟩
      · rw [List.getElem?_set_ne zz] at z
        have ok := E.at_ j o x y z
        cases x with
        | emp => trivial
        | exn => exact ok
        | clo ds =>
          obtain ⟨h1, h2, h3, h4⟩ := ok
          refine ⟨h1, h2, s1 _ _ h3, fun i d hd => ?_⟩
          obtain ⟨v, a, b⟩ := h4 i d hd
          exact ⟨v, a, b.up (Ext.refl _) s1⟩
        | val d => obtain ⟨v, a1, a2⟩ := ok; exact ⟨v, a1, a2.up (Ext.refl _) s1⟩
        | own m =>
          obtain ⟨p', vs', rfl, b1, b2, b3, b4, b5⟩ := ok
          have : p' ≠ p := fun zzz => by subst zzz; exact E.dis i j p' l m zz h1 q y z
          exact ⟨p', vs', rfl, b1, by show upd t.f p (.lst vs) p' = none; rw [upd_ne this]; exact b2, b3, b4.up (Ext.refl _) s1, b5⟩
    · have own_of : ∀ (j : Nat) (l1 : List D), (e.set i (.val (.lst l)))[j]? = some (.own l1) → e[j]? = some (.own l1) := fun j l1 z => by
        by_cases zz : i = j
        · subst zz
          rw [List.getElem?_set_self (List.getElem?_eq_some_iff.mp q).1] at z
          cases z
        · rw [List.getElem?_set_ne zz] at z; exact z
      exact E.dis j m x l1 l2 hjk y (own_of j l1 z) w (own_of m l2 u)
  · exact ⟨t.f, Same.refl _, E, k⟩
def sFrz (i : Nat) (g : En → SR) : En → SR := fun E => g ⟨frz i E.e, E.st⟩
theorem s_frz {i : Nat} {t : TS} {g : En → SR} (h : DSt G W t g) : DSt G W t (sFrz i g) := by
  intro s t0 σ e st E k N post
  obtain ⟨f, sm, E', k'⟩ := E.frz i k
  exact h s ⟨t0.as, f, t0.h⟩ σ _ st E' k' N (SPost.mono (t := t0) (t1 := ⟨t0.as, f, t0.h⟩) ⟨Ext.refl _, sm⟩ post)
theorem SPost.cond {s t : Hs} {N : Ends} (c : Prop) [Decidable c] (r : SR) (h : SPost G W s t N (if c then r else .bad)) : c ∧ SPost G W s t N r := by
  by_cases q : c
  · rw [if_pos q] at h; exact ⟨q, h⟩
  · rw [if_neg q] at h; exact h.elim
/-- x.append(e), x an own list, or one of the store -/
def sApp (i : Nat) (f : En → ER) : En → SR := fun E => match E.e[i]? with
  | some (.own l) => (match f E with
    | .val .B _ _ => .bad
    | .val _ d st => if l.length < 1000000 then .nx ⟨E.e.set i (.own (l ++ [d])), st⟩ else .bad
    | .exc c l st => .exc c l ⟨E.e, st⟩
    | .bad => .bad)
  | _ => .bad
theorem s_app {i : Nat} {te : TE} {f : En → ER} (h : DEv G W te f) : DSt G W (tDrop (tBM G.K "list" rAppend (tVar i) (tCons te tNil))) (sApp i f) := by
  intro s t σ e st E k N post
  unfold sApp at post
  split at post
  · rename_i l q
    obtain ⟨o, h1, p, vs, rfl, a, b, c, d, f'⟩ := E.slot q
    refine ⟨_, h1, .inl ⟨rfl, _, SqL.of c⟩, ?_⟩
    refine ev_st (N := N) h E k (fun c l st1 q => by rw [q] at post; exact post) (fun q => by rw [q] at post; exact post) fun m d2 st1 q2 t' v g k' o => ?_
    rw [q2] at post
    have fin : ∀ f2, Gro t ⟨t'.as, f2, t'.h⟩ → StOk G ⟨t'.as, f2, t'.h⟩ st1 → Is G t'.as f2 v d2 → SPost G W s t N (if l.length < 1000000 then .nx ⟨e.set i (.own (l ++ [d2])), st1⟩ else .bad) → rAppend (.ref p) [v] t'.h fun _ H1 => N.nx σ H1 := fun f2 g2 k2 i2 post => by
      obtain ⟨c2, post⟩ := SPost.cond _ _ post
      have cl := d.len
      have hp' : t'.h p = some (.lst vs) := g2.h _ _ c f'
      have hf' : f2 p = none := g2.n _ _ c b
      have ha' : p ∉ t'.as := fun m => (g2.w p m).elim f' fun z => by rw [c] at z; cases z
      refine ⟨p, vs, v, rfl, rfl, hp', by rw [cl]; exact szlt c2, ?_⟩
      exact post ⟨t'.as, f2, upd t'.h p (.lst (vs ++ [v]))⟩ σ ⟨g2.a, g2.f⟩ ((E.up g2).chg h1 q a hf' ((d.up g2.a g2.f).append (.one i2)) ha') (k2.chg hf' ha')
    cases m with
    | P => exact fin t'.f g k' o post
    | B => exact post.elim
    | N =>
      obtain ⟨f2, g2, k2, _, i2⟩ := o.freeze g k' (by decide)
      exact fin f2 g2 k2 i2 post
  · exact post.elim
/-! ### x[i] = e -/
theorem EnvOk.modS {s t : Hs} {σ : L2.St} {e : DE} {st : Sto} {n : Nat} {a : Addr} {o : HO} (E : EnvOk G s t σ e) (k : StOk G t st) (ha : t.as[n]? = some a) : EnvOk G s ⟨t.as, t.f, upd t.h a o⟩ σ e := by
  have m : a ∈ t.as := List.mem_iff_getElem?.mpr ⟨n, ha⟩
  refine ⟨E.gr.mod k ha, E.len, fun i x y p q => ?_, E.dis⟩
  have ok := E.at_ i x y p q
  cases y with
  | emp => trivial
  | exn => exact ok
  | clo ds => exact ok
  | val d => exact ok
  | own l =>
    obtain ⟨p', vs, rfl, a1, a2, a3, a4, a5⟩ := ok
    have : p' ≠ a := fun z => by subst z; exact a5 m
    exact ⟨p', vs, rfl, a1, a2, by show upd t.h a o p' = _; rw [upd_ne this]; exact a3, a4, a5⟩
/-- x an own list -/
def sSetO (x : Nat) (f fi : En → ER) : En → SR := fun E => match E.e[x]? with
  | some (.own l) => (match f E with
    | .val .B _ _ => .bad
    | .val _ d st => (match fi ⟨E.e, st⟩ with
      | .val _ (.int i) st1 => (match ixN l.length i with | some j => .nx ⟨E.e.set x (.own (l.set j d)), st1⟩ | none => .bad)
      | .exc c l st => .exc c l ⟨E.e, st⟩
      | _ => .bad)
    | .exc c l st => .exc c l ⟨E.e, st⟩
    | .bad => .bad)
  | _ => .bad
theorem s_setO {x : Nat} {te ti : TE} {f fi : En → ER} (h : DEv G W te f) (hi : DEv G W ti fi) : DSt G W (tAsg te (gSub (tVar x) ti rSetL)) (sSetO x f fi) := by
  intro s t σ e st E k N post
  unfold sSetO at post
  split at post
  · rename_i l hx
    have hx : e[x]? = some (.own l) := hx
    obtain ⟨o, hσ, p, vs, rfl, p0, pf, ph, pl, pa⟩ := E.slot hx
    refine ev_st (N := N) h E k (fun c l st1 q => by rw [q] at post; exact post) (fun q => by rw [q] at post; exact post) fun m d st1 q t1 v g1 k1 o1 => ?_
    rw [q] at post
    have fin : ∀ f2, Gro t ⟨t1.as, f2, t1.h⟩ → StOk G ⟨t1.as, f2, t1.h⟩ st1 → Is G t1.as f2 v d → SPost G W s t N (match fi ⟨e, st1⟩ with
      | .val _ (.int i) st1 => (match ixN l.length i with | some j => .nx ⟨e.set x (.own (l.set j d)), st1⟩ | none => .bad)
      | .exc c l st => .exc c l ⟨e, st⟩
      | _ => .bad) → gSub (tVar x) ti rSetL v σ t1.h N.nx := fun f2 g2 k2 i2 post => by
      refine ⟨_, hσ, ?_⟩
      refine ev_st (N := N) hi (E.up g2) k2 (fun c l st3 q3 => ?_) (fun q3 => ?_) fun mi di st3 q3 t3 w g3 k3 o3 => ?_
      · rw [q3] at post; exact SPost.mono g2.up post
      · rw [q3] at post; exact post
      · rw [q3] at post
        cases di <;> try exact post.elim
        rename_i i
        obtain rfl := o3.u.int
        have g23 := g2.trans g3
        cases hj : ixN l.length i with
        | none => simp only [hj] at post; exact post.elim
        | some j =>
          simp only [hj] at post
          have hp' : t3.h p = some (.lst vs) := g23.h _ _ ph pa
          have hf' : t3.f p = none := g23.n _ _ ph pf
          have ha' : p ∉ t3.as := fun m => (g23.w p m).elim pa fun z => by rw [ph] at z; cases z
          refine ⟨p, vs, i, j, rfl, rfl, hp', by rw [pl.len]; exact hj, ?_⟩
          have pl' := (pl.up g23.a g23.f).set (i2.up g3.a g3.f) j
          exact post ⟨t3.as, t3.f, upd t3.h p (.lst (vs.set j v))⟩ σ ⟨g23.a, g23.f⟩ ((E.up g23).chg hσ hx p0 hf' pl' ha') (k3.chg hf' ha')
    cases m with
    | P => exact fin t1.f g1 k1 o1 post
    | B => exact post.elim
    | N =>
      obtain ⟨f2, g2, k2, _, i2⟩ := o1.freeze g1 k1 (by decide)
      exact fin f2 g2 k2 i2 post
  · exact post.elim
/-- b a list of the store -/
def sSetP (fb f fi : En → ER) : En → SR := fun E => match f E with
  | .val .B _ _ => .bad
  | .val _ d st => (match fb ⟨E.e, st⟩ with
    | .val _ (.ptr n) st1 => (match fi ⟨E.e, st1⟩ with
      | .val _ (.int i) st2 => (match stLst st2 n with
        | some l => (match ixN l.length i with | some j => .nx ⟨E.e, st2.set n (.lst (l.set j d))⟩ | none => .bad)
        | none => .bad)
      | .exc c l st => .exc c l ⟨E.e, st⟩
      | _ => .bad)
    | .exc c l st => .exc c l ⟨E.e, st⟩
    | _ => .bad)
  | .exc c l st => .exc c l ⟨E.e, st⟩
  | .bad => .bad
theorem s_setP {tb te ti : TE} {fb f fi : En → ER} (hb : DEv G W tb fb) (h : DEv G W te f) (hi : DEv G W ti fi) : DSt G W (tAsg te (gSub tb ti rSetL)) (sSetP fb f fi) := by
  intro s t σ e st E k N post
  unfold sSetP at post
  refine ev_st (N := N) h E k (fun c l st1 q => by rw [q] at post; exact post) (fun q => by rw [q] at post; exact post) fun m d st1 q t1 v g1 k1 o1 => ?_
  rw [q] at post
  have fin : ∀ f2, Gro t ⟨t1.as, f2, t1.h⟩ → StOk G ⟨t1.as, f2, t1.h⟩ st1 → Is G t1.as f2 v d → SPost G W s t N (match fb ⟨e, st1⟩ with
    | .val _ (.ptr n) st1 => (match fi ⟨e, st1⟩ with
      | .val _ (.int i) st2 => (match stLst st2 n with
        | some l => (match ixN l.length i with | some j => .nx ⟨e, st2.set n (.lst (l.set j d))⟩ | none => .bad)
        | none => .bad)
      | .exc c l st => .exc c l ⟨e, st⟩
      | _ => .bad)
    | .exc c l st => .exc c l ⟨e, st⟩
    | _ => .bad) → gSub tb ti rSetL v σ t1.h N.nx := fun f2 g2 k2 i2 post => by
    refine ev_st (N := N) hb (E.up g2) k2 (fun c l st3 q3 => ?_) (fun q3 => ?_) fun mb db st3 q3 t3 b g3 k3 o3 => ?_
    · rw [q3] at post; exact SPost.mono g2.up post
    · rw [q3] at post; exact post
    · rw [q3] at post
      cases db <;> try exact post.elim
      rename_i n
      obtain ⟨p, rfl, hp⟩ := o3.u.ptr
      have g23 := g2.trans g3
      have post : SPost G W s t N (match fi ⟨e, st3⟩ with
        | .val _ (.int i) st2 => (match stLst st2 n with
          | some l => (match ixN l.length i with | some j => .nx ⟨e, st2.set n (.lst (l.set j d))⟩ | none => .bad)
          | none => .bad)
        | .exc c l st => .exc c l ⟨e, st⟩
        | _ => .bad) := post
      refine ev_st (N := N) hi (E.up g23) k3 (fun c l st4 q4 => ?_) (fun q4 => ?_) fun mi di st4 q4 t4 w g4 k4 o4 => ?_
      · rw [q4] at post; exact SPost.mono g23.up post
      · rw [q4] at post; exact post
      · rw [q4] at post
        cases di <;> try exact post.elim
        rename_i i
        obtain rfl := o4.u.int
        have g24 := g23.trans g4
        have hp4 := g4.a n p hp
        have post : SPost G W s t N (match stLst st4 n with
          | some l => (match ixN l.length i with | some j => .nx ⟨e, st4.set n (.lst (l.set j d))⟩ | none => .bad)
          | none => .bad) := post
        cases hl : stLst st4 n with
        | none => simp only [hl] at post; exact post.elim
        | some l =>
          simp only [hl] at post
          cases hj : ixN l.length i with
          | none => simp only [hj] at post; exact post.elim
          | some j =>
            simp only [hj] at post
            obtain ⟨vs, hh, il⟩ := k4.lst hp4 hl
            refine ⟨p, vs, i, j, rfl, rfl, hh, by rw [il.len]; exact hj, ?_⟩
            have il' := il.set (i2.up (g3.trans g4).a (g3.trans g4).f) j
            exact post ⟨t4.as, t4.f, upd t4.h p (.lst (vs.set j v))⟩ σ ⟨g24.a, g24.f⟩ ((E.up g24).modS k4 hp4) (k4.mod hp4 ⟨_, upd_same, il'⟩)
  cases m with
  | P => exact fin t1.f g1 k1 o1 post
  | B => exact post.elim
  | N =>
    obtain ⟨f2, g2, k2, _, i2⟩ := o1.freeze g1 k1 (by decide)
    exact fin f2 g2 k2 i2 post
def sSetI (x : Nat) (f fi : En → ER) : En → SR := fun E => match E.e[x]? with
  | some (.own _) => sSetO x f fi E
  | _ => sSetP (dVar x) f fi E
theorem s_setI {x : Nat} {te ti : TE} {f fi : En → ER} (h : DEv G W te f) (hi : DEv G W ti fi) : DSt G W (tAsg te (gSub (tVar x) ti rSetL)) (sSetI x f fi) := by
  intro s t σ e st E k N post
  unfold sSetI at post
  split at post
  · exact s_setO h hi s t σ e st E k N post
  · exact s_setP v_var h hi s t σ e st E k N post
end
end Dn
namespace Dn
open PySem PySem.Spec PyProof.Rows L2
/-! ### what is walked -/
def ItOk (G : Gm) (t1 : Hs) (J : It) (l : List D) : Prop := ∀ (i : Nat) (t : Hs) (st : Sto), Up t1 t → StOk G t st → (l.length ≤ i → J.stop i t.h) ∧
  ∀ d, l[i]? = some d → J.go i t.h ∧ ∀ x H', J.yld i t.h x H' → ∃ t', t'.h = H' ∧ Gro t t' ∧ StOk G t' st ∧ Is G t'.as t'.f x d
def IPost (G : Gm) (W : WX) (t : Hs) (σ : L2.St) (R : It → Hp → Prop) : AR → Prop
  | .ok _ l st => ∀ t' J, Gro t t' → StOk G t' st → ItOk G t' J l → R J t'.h
  | .exc c l st => ∀ t' x, Gro t t' → StOk G t' st → ExcOk G t' c l x → W (.ref (G.ca c)) x σ t'.h
  | .bad => False
def DIt (G : Gm) (W : WX) (wi : TI) (f : En → AR) : Prop := ∀ s t σ e st, EnvOk G s t σ e → StOk G t st → ∀ R : It → Hp → Prop, IPost G W t σ R (f ⟨e, st⟩) → wi σ t.h R
section
variable {G : Gm} {W : WX}
/-- of a list, a tuple, the script, a text -/
def iAny (K : PySem.W.Frag) (te : TE) : TI := fun σ H R => iList K te σ H R ∨ iTup K te σ H R ∨ iStr te σ H R
theorem pi_any {X : Cx} {tg e : Expr} {te : TE} (he : PE X e te) : PI X tg e (iAny X.K te) :=
  ⟨fun pins s σ H R I h => h.elim (fun z => (pi_list he).run pins s σ H R I z) fun z => z.elim (fun z => (pi_tup he).run pins s σ H R I z) (fun z => (pi_str he).run pins s σ H R I z)⟩
def itemsOf : D → Option (List D)
  | .lst l => some l
  | .tup l => some l
  | .scr l => some (l.map .int)
  | .str z => some (z.cps.toList.map fun c => .str ⟨#[c]⟩)
  | _ => none
def dIter (f : En → ER) : En → AR := fun E => match f E with
  | .val .B _ _ => .bad
  | .val _ d st => (match itemsOf d with | some l => .ok true l st | none => .bad)
  | .exc c l st => .exc c l st
  | .bad => .bad
theorem it_list {t1 : Hs} {a : Addr} {vs : List V} {l : List D} (h : ∀ t, Up t1 t → Same t.f t.h → SqL G.K t.h a vs ∧ IsL G t.as t.f vs l) : ItOk G t1 (Itl G.K a) l := by
  intro i t st u k
  obtain ⟨q, il⟩ := h t u k.sf
  refine ⟨fun hi => ⟨vs, q, by rw [il.len]; exact hi⟩, fun d hd => ?_⟩
  obtain ⟨v, h1, h2⟩ := il.get hd
  refine ⟨⟨vs, v, q, h1⟩, fun x H' y => ?_⟩
  obtain ⟨rfl, y⟩ := y
  have := y vs q
  rw [h1] at this; cases this
  exact ⟨t, rfl, Gro.refl k, k, h2⟩
theorem it_tup {t1 : Hs} {a : Addr} {vs : List V} {l : List D} (h : ∀ t, Up t1 t → Same t.f t.h → SqT G.K t.h a vs ∧ IsL G t.as t.f vs l) : ItOk G t1 (Itt G.K a) l := by
  intro i t st u k
  obtain ⟨q, il⟩ := h t u k.sf
  refine ⟨fun hi => ⟨vs, q, by rw [il.len]; exact hi⟩, fun d hd => ?_⟩
  obtain ⟨v, h1, h2⟩ := il.get hd
  refine ⟨⟨vs, v, q, h1⟩, fun x H' y => ?_⟩
  obtain ⟨rfl, y⟩ := y
  have := y vs q
  rw [h1] at this; cases this
  exact ⟨t, rfl, Gro.refl k, k, h2⟩
theorem it_str {t1 : Hs} (z : Str) : ItOk G t1 (Its z) (z.cps.toList.map fun c => .str ⟨#[c]⟩) := by
  intro i t st u k
  refine ⟨fun hi => by (show z.cps.size ≤ i); simpa using hi, fun d hd => ?_⟩
  rw [List.getElem?_map] at hd
  cases q : z.cps.toList[i]? with
  | none => rw [q] at hd; cases hd
  | some c =>
    rw [q] at hd
    cases hd
    have hi : i < z.cps.size := by
      have := (List.getElem?_eq_some_iff.mp q).1
      simpa using this
    refine ⟨hi, fun x H' y => ?_⟩
    obtain ⟨rfl, c', h1, rfl⟩ := y
    have : z.cps[i]? = some c := by rw [← Array.getElem?_toList]; exact q
    rw [this] at h1; cases h1
    exact ⟨t, rfl, Gro.refl k, k, .str _⟩
theorem i_any {te : TE} {f : En → ER} (h : DEv G W te f) : DIt G W (iAny G.K te) (dIter f) := by
  intro s t σ e st E k0 R post
  have hx : ∀ {Q : VK}, (∀ m d st1, f ⟨e, st⟩ = .val m d st1 → m ≠ .B → ∀ l, itemsOf d = some l → ∀ t' v, Gro t t' → StOk G t' st1 → Is G t'.as t'.f v d → Q v t'.h) → te σ t.h Q := fun {Q} k => by
    refine h s t σ e st E k0 _ ?_
    cases q : f ⟨e, st⟩ with
    | val m d st1 =>
      simp only [dIter, q] at post
      intro t' v g k' o
      have nb : m ≠ .B := fun z => by subst z; exact post.elim
      have : ∃ l, itemsOf d = some l := by
        cases m <;> first | exact absurd rfl nb | (cases q2 : itemsOf d <;> first | (simp only [q2] at post; exact post.elim) | exact ⟨_, rfl⟩)
      obtain ⟨l, hl⟩ := this
      obtain ⟨f2, g2, k2, _, i2⟩ := o.freeze g k' nb
      exact k m d st1 q nb l hl ⟨t'.as, f2, t'.h⟩ v g2 k2 i2
    | exc c l st1 => simp only [dIter, q] at post; exact post
    | bad => simp only [dIter, q] at post; exact post
  have hp : ∀ m d l st1, f ⟨e, st⟩ = .val m d st1 → m ≠ .B → itemsOf d = some l → ∀ t' J, Gro t t' → StOk G t' st1 → ItOk G t' J l → R J t'.h := fun m d l st1 q nb hl => by
    simp only [dIter, q] at post
    cases m <;> first | exact absurd rfl nb | (simp only [hl] at post; exact post)
  cases q : f ⟨e, st⟩ with
  | val m d st1 =>
    cases d with
    | tup l0 =>
      refine .inr (.inl (hx fun m' d' st' q' nb l hl t' v g k' i2 => ?_))
      rw [q] at q'; cases q'; cases hl
      cases i2 with
      | tup a b => exact ⟨_, rfl, ⟨_, same_t k'.sf a⟩, hp m (.tup l0) l0 st1 q nb rfl t' _ g k' (it_tup fun t2 u s2 => ⟨same_t (u.f.trans s2) a, b.up u.a u.f⟩)⟩
    | str z =>
      refine .inr (.inr (hx fun m' d' st' q' nb l hl t' v g k' i2 => ?_))
      rw [q] at q'; cases q'; cases hl
      cases i2 with
      | str => exact ⟨z, rfl, hp m (.str z) _ st1 q nb rfl t' _ g k' (it_str z)⟩
    | lst l0 =>
      refine .inl (hx fun m' d' st' q' nb l hl t' v g k' i2 => ?_)
      rw [q] at q'; cases q'; cases hl
      cases i2 with
      | lst a b => exact ⟨_, rfl, ⟨_, SqL.of (k'.sf _ _ a)⟩, hp m (.lst l0) l0 st1 q nb rfl t' _ g k' (it_list fun t2 u s2 => ⟨SqL.of (s2 _ _ (u.f _ _ a)), b.up u.a u.f⟩)⟩
    | scr l0 =>
      refine .inl (hx fun m' d' st' q' nb l hl t' v g k' i2 => ?_)
      rw [q] at q'; cases q'; cases hl
      cases i2 with
      | scr a => exact ⟨_, rfl, ⟨_, k'.sf.seq a⟩, hp m (.scr l0) _ st1 q nb rfl t' _ g k' (it_list fun t2 u s2 => ⟨(u.f.trans s2).seq a, IsL.ints _⟩)⟩
    | _ => refine .inl (hx fun m' d' st' q' nb l hl t' v g k' i2 => ?_); rw [q] at q'; cases q'; cases hl
  | exc c l st1 => refine .inl (hx fun m' d' st' q' => ?_); rw [q] at q'; cases q'
  | bad => refine .inl (hx fun m' d' st' q' => ?_); rw [q] at q'; cases q'
/-! range -/
def rangeD (lo : Int) (n : Nat) : List D := (List.range n).map fun (k : Nat) => .int (lo + (k : Int))
theorem rangeD_get {lo : Int} {n i : Nat} {d : D} (h : (rangeD lo n)[i]? = some d) : i < n ∧ d = .int (lo + (i : Int)) := by
  unfold rangeD at h
  rw [List.getElem?_map] at h
  by_cases hi : i < n
  · rw [List.getElem?_range hi] at h; cases h; exact ⟨hi, rfl⟩
  · rw [List.getElem?_eq_none (by simpa using hi)] at h; cases h
theorem it_range {t1 : Hs} (lo : Int) (n : Nat) : ItOk G t1 (Itr lo n) (rangeD lo n) := by
  intro i t st u k
  refine ⟨fun hi => by (show n ≤ i); simpa [rangeD] using hi, fun d hd => ?_⟩
  obtain ⟨hi, rfl⟩ := rangeD_get hd
  refine ⟨hi, fun x H' y => ?_⟩
  obtain ⟨rfl, rfl⟩ := y
  exact ⟨t, rfl, Gro.refl k, k, .int _⟩
def rng1 : List D → Option (Int × Nat)
  | [.int j] => if -(2 ^ 62) ≤ j ∧ j < 2 ^ 62 then some (0, j.toNat) else none
  | _ => none
def rng2 : List D → Option (Int × Nat)
  | [.int i, .int j] => if -(2 ^ 62) ≤ i ∧ i < 2 ^ 62 ∧ -(2 ^ 62) ≤ j ∧ j < 2 ^ 62 then some (i, (j - i).toNat) else none
  | _ => none
def dRng (r : List D → Option (Int × Nat)) (f : En → AR) : En → AR := fun E => match f E with
  | .ok _ l st => (match r l with | some r => .ok true (rangeD r.1 r.2) st | none => .bad)
  | .exc c l st => .exc c l st
  | _ => .bad
theorem i_rng {ta : TA} {f : En → AR} {ro : List D → Option (Int × Nat)} {r : List V → Hp → (It → Hp → Prop) → Prop} (h : DAr G W ta f) (hr : ∀ t vs l p R, UL G t vs l → ro l = some p → R (Itr p.1 p.2) t.h → r vs t.h R) : DIt G W (fun σ H R => ta σ H fun vs H1 => r vs H1 R) (dRng ro f) := by
  intro s t σ e st E k R post
  refine h s t σ e st E k _ ?_
  unfold dRng at post
  cases q : f ⟨e, st⟩ with
  | ok p l st1 =>
    rw [q] at post
    intro t1 vs g1 k1 _ u1
    cases hl : ro l with
    | none => simp only [hl] at post; exact post.elim
    | some p =>
      simp only [hl] at post
      exact hr t1 vs l p R u1 hl (post t1 _ g1 k1 (it_range _ _))
  | exc c l st1 => rw [q] at post; exact post
  | bad => rw [q] at post; exact post
theorem i_range1 {ta : TA} {f : En → AR} (h : DAr G W ta f) : DIt G W (iRng1 ta) (dRng rng1 f) :=
  i_rng (r := fun vs H1 R => ∃ j : Int, vs = [.int j] ∧ -(2 ^ 62) ≤ j ∧ j < 2 ^ 62 ∧ R (Itr 0 j.toNat) H1) h fun t vs l p R u hl hR => by
    unfold rng1 at hl
    split at hl
    · rename_i j
      split at hl
      · rename_i c
        cases hl
        obtain ⟨v, rfl, hv⟩ := u.one
        obtain rfl := hv.int
        exact ⟨j, rfl, c.1, c.2, hR⟩
      · cases hl
    · cases hl
theorem i_range2 {ta : TA} {f : En → AR} (h : DAr G W ta f) : DIt G W (iRng2 ta) (dRng rng2 f) :=
  i_rng (r := fun vs H1 R => ∃ i j : Int, vs = [.int i, .int j] ∧ (-(2 ^ 62) ≤ i ∧ i < 2 ^ 62 ∧ -(2 ^ 62) ≤ j ∧ j < 2 ^ 62) ∧ R (Itr i (j - i).toNat) H1) h fun t vs l p R u hl hR => by
    unfold rng2 at hl
    split at hl
    · rename_i i j
      split at hl
      · rename_i c
        cases hl
        obtain ⟨v, w, rfl, hv, hw⟩ := u.two
        obtain rfl := hv.int
        obtain rfl := hw.int
        exact ⟨i, j, rfl, c, hR⟩
      · cases hl
    · cases hl
/-! ### enumerate, zip -/
def enumD : Nat → List D → List D
  | _, [] => []
  | k, d :: l => .tup [.int (k : Int), d] :: enumD (k + 1) l
theorem enumD_get : ∀ {l : List D} {k i : Nat} {d : D}, (enumD k l)[i]? = some d → ∃ x, l[i]? = some x ∧ d = .tup [.int ((k + i : Nat) : Int), x]
  | [], _, _, _, h => by simp [enumD] at h
  | x :: l, k, 0, d, h => by simp [enumD] at h; subst h; exact ⟨x, rfl, rfl⟩
  | x :: l, k, i + 1, d, h => by
    obtain ⟨y, h1, h2⟩ := enumD_get (l := l) (k := k + 1) (i := i) (d := d) (by simpa [enumD] using h)
    refine ⟨y, by simpa using h1, ?_⟩
    rw [h2]
    have : k + 1 + i = k + (i + 1) := by omega
    rw [this]
theorem enumD_len : ∀ (l : List D) (k : Nat), (enumD k l).length = l.length
  | [], _ => rfl
  | x :: l, k => by simp [enumD, enumD_len l]
theorem it_enum {t1 : Hs} {a : Addr} {vs : List V} {l : List D} (h : ∀ t, Up t1 t → Same t.f t.h → SqL G.K t.h a vs ∧ IsL G t.as t.f vs l) : ItOk G t1 (Ite G.K a) (enumD 0 l) := by
  intro i t st u k
  obtain ⟨q, il⟩ := h t u k.sf
  refine ⟨fun hi => ⟨vs, q, by rw [il.len]; rw [enumD_len] at hi; exact hi⟩, fun d hd => ?_⟩
  obtain ⟨x, h1, rfl⟩ := enumD_get hd
  obtain ⟨v, h2, h3⟩ := il.get h1
  refine ⟨⟨vs, v, q, h2⟩, fun y H' z => ?_⟩
  obtain ⟨T, v', rfl, hT, rfl, z⟩ := z
  have := z vs q
  rw [h2] at this; cases this
  refine ⟨⟨t.as, upd t.f T _, upd t.h T _⟩, rfl, Gro.new k hT, k.grow hT, .tup (SqT.of upd_same) (.cons ?_ (.cons (h3.up (Ext.refl _) (same_new (k.sf.free hT))) .nil))⟩
  rw [Nat.zero_add]
  exact .int _
def dEnum (f : En → AR) : En → AR := fun E => match f E with
  | .ok true [.lst l] st => .ok true (enumD 0 l) st
  | .exc c l st => .exc c l st
  | _ => .bad
theorem i_enum {ta : TA} {f : En → AR} (h : DAr G W ta f) : DIt G W (iEnum G.K ta) (dEnum f) := by
  intro s t σ e st E k R post
  refine h s t σ e st E k _ ?_
  unfold dEnum at post
  cases q : f ⟨e, st⟩ with
  | ok p l st1 =>
    rw [q] at post
    cases p with
    | false => exact post.elim
    | true =>
      match l, post with
      | [], post => exact post.elim
      | [d], post =>
        cases d <;> first | exact post.elim | skip
        intro t' vs g k' i0 _
        have i := i0 rfl
        clear i0
        cases i with
        | cons i j =>
          cases j
          cases i with
          | lst a b => exact ⟨_, _, rfl, SqL.of (k'.sf _ _ a), post t' _ g k' (it_enum fun t2 u s2 => ⟨SqL.of (s2 _ _ (u.f _ _ a)), b.up u.a u.f⟩)⟩
      | a :: b :: l, post => cases a <;> exact post.elim
  | exc c l st1 => rw [q] at post; exact post
  | bad => rw [q] at post; exact post
def zipD : List D → List D → List D
  | a :: l, b :: m => .tup [a, b] :: zipD l m
  | _, _ => []
theorem zipD_get : ∀ {l m : List D} {i : Nat} {d : D}, (zipD l m)[i]? = some d → ∃ x y, l[i]? = some x ∧ m[i]? = some y ∧ d = .tup [x, y]
  | [], _, _, _, h => by simp [zipD] at h
  | _ :: _, [], _, _, h => by simp [zipD] at h
  | a :: l, b :: m, 0, d, h => by simp [zipD] at h; subst h; exact ⟨a, b, rfl, rfl, rfl⟩
  | a :: l, b :: m, i + 1, d, h => by
    obtain ⟨x, y, h1, h2, h3⟩ := zipD_get (l := l) (m := m) (i := i) (d := d) (by simpa [zipD] using h)
    exact ⟨x, y, by simpa using h1, by simpa using h2, h3⟩
theorem zipD_len : ∀ (l m : List D), (zipD l m).length = min l.length m.length
  | [], _ => by simp [zipD]
  | _ :: _, [] => by simp [zipD]
  | a :: l, b :: m => by simp [zipD, zipD_len l m]
theorem it_zip {t1 : Hs} {a b : Addr} {vs ws : List V} {l m : List D} (h : ∀ t, Up t1 t → Same t.f t.h → SqL G.K t.h a vs ∧ IsL G t.as t.f vs l) (h' : ∀ t, Up t1 t → Same t.f t.h → SqL G.K t.h b ws ∧ IsL G t.as t.f ws m) : ItOk G t1 (Itz G.K a b) (zipD l m) := by
  intro i t st u k
  obtain ⟨q, il⟩ := h t u k.sf
  obtain ⟨q', im⟩ := h' t u k.sf
  refine ⟨fun hi => ⟨vs, ws, q, q', by rw [il.len, im.len]; rw [zipD_len] at hi; omega⟩, fun d hd => ?_⟩
  obtain ⟨x, y, h1, h2, rfl⟩ := zipD_get hd
  obtain ⟨v, h3, h4⟩ := il.get h1
  obtain ⟨w, h5, h6⟩ := im.get h2
  refine ⟨⟨vs, ws, v, w, q, q', h3, h5⟩, fun y H' z => ?_⟩
  obtain ⟨T, v', w', rfl, hT, rfl, z, z'⟩ := z
  have := z vs q
  rw [h3] at this; cases this
  have := z' ws q'
  rw [h5] at this; cases this
  have sn := same_new (o := .tup [v, w]) (k.sf.free hT)
  exact ⟨⟨t.as, upd t.f T _, upd t.h T _⟩, rfl, Gro.new k hT, k.grow hT, .tup (SqT.of upd_same) (.cons (h4.up (Ext.refl _) sn) (.cons (h6.up (Ext.refl _) sn) .nil))⟩
def dZip (f : En → AR) : En → AR := fun E => match f E with
  | .ok true [.lst l, .lst m] st => .ok true (zipD l m) st
  | .exc c l st => .exc c l st
  | _ => .bad
theorem i_zip {ta : TA} {f : En → AR} (h : DAr G W ta f) : DIt G W (iZip G.K ta) (dZip f) := by
  intro s t σ e st E k R post
  refine h s t σ e st E k _ ?_
  unfold dZip at post
  cases q : f ⟨e, st⟩ with
  | ok p l st1 =>
    rw [q] at post
    cases p with
    | false => exact post.elim
    | true =>
      match l, post with
      | [], post => exact post.elim
      | [d], post => cases d <;> exact post.elim
      | [d, d'], post =>
        cases d <;> first | exact post.elim | skip
        cases d' <;> first | exact post.elim | skip
        intro t' vs g k' i0 _
        have i := i0 rfl
        clear i0
        cases i with
        | cons i j =>
          cases j with
          | cons j k =>
            cases k
            cases i with
            | lst a b =>
              cases j with
              | lst a' b' => exact ⟨_, _, _, _, rfl, SqL.of (k'.sf _ _ a), SqL.of (k'.sf _ _ a'), post t' _ g k' (it_zip (fun t2 u s2 => ⟨SqL.of (s2 _ _ (u.f _ _ a)), b.up u.a u.f⟩) (fun t2 u s2 => ⟨SqL.of (s2 _ _ (u.f _ _ a')), b'.up u.a u.f⟩))⟩
      | a :: b :: c :: l, post => cases a <;> first | exact post.elim | (cases b <;> exact post.elim)
  | exc c l st1 => rw [q] at post; exact post
  | bad => rw [q] at post; exact post
/-! ### for -/
def forD (b : D → En → SR) : List D → En → SR
  | [], e => .nx e
  | x :: xs, e => match b x e with
    | .nx e' => forD b xs e'
    | .ct e' => forD b xs e'
    | .bk e' => .nx e'
    | r => r
def tgB (t : D → DE → Option DE) (b : En → SR) : D → En → SR := fun d E => match t d E.e with
  | some e' => b ⟨e', E.st⟩
  | none => .bad
def sFor (src : En → AR) (t : D → DE → Option DE) (b : En → SR) : En → SR := fun E => match src E with
  | .ok _ l st => forD (tgB t b) l ⟨E.e, st⟩
  | .exc c l st => .exc c l ⟨E.e, st⟩
  | .bad => .bad
theorem s_for {wi : TI} {g : TG} {tb : TS} {src : En → AR} {js : List Nat} {t : D → DE → Option DE} {b : En → SR} (hi : DIt G W wi src) (hg : DTg G g js t) (hb : DSt G W tb b) : DSt G W (tFor wi g tb) (sFor src t b) := by
  intro s t0 σ e st E k0 N post
  refine hi s t0 σ e st E k0 _ ?_
  unfold sFor at post
  cases q : src ⟨e, st⟩ with
  | ok p l st1 =>
    rw [q] at post
    have post : SPost G W s t0 N (forD (tgB t b) l ⟨e, st1⟩) := post
    intro t1 J g1 k1 it
    refine ⟨fun i m σ H => m = l.length - i ∧ i ≤ l.length ∧ ∃ t2 E2, t2.h = H ∧ Up t1 t2 ∧ EnvOk G s t2 σ E2.e ∧ StOk G t2 E2.st ∧ SPost G W s t2 N (forD (tgB t b) (l.drop i) E2),
      ⟨l.length, by simp, Nat.zero_le _, t1, ⟨e, st1⟩, rfl, Up.refl _, E.up g1, k1, SPost.mono g1.up post⟩, ?_⟩
    rintro i m σ2 H2 ⟨rfl, hi, t2, F2, rfl, s2, E2, k2, p2⟩
    obtain ⟨i1, i2⟩ := it i t2 F2.st s2 k2
    by_cases hlt : i < l.length
    · right
      have hd : l[i]? = some l[i] := List.getElem?_eq_getElem hlt
      obtain ⟨go, y⟩ := i2 _ hd
      rw [List.drop_eq_getElem_cons hlt] at p2
      refine ⟨go, fun σ' H' => i + 1 ≤ l.length ∧ ∃ t2 E2, t2.h = H' ∧ Up t1 t2 ∧ EnvOk G s t2 σ' E2.e ∧ StOk G t2 E2.st ∧ SPost G W s t2 N (forD (tgB t b) (l.drop (i + 1)) E2), fun σ' H' h => ⟨l.length - (i + 1), by omega, rfl, h⟩, fun x H' hy => ?_⟩
      obtain ⟨t3, rfl, g3, k3, i3⟩ := y x H' hy
      cases q3 : t l[i] F2.e with
      | none =>
        have : forD (tgB t b) (l[i] :: l.drop (i + 1)) F2 = .bad := by
          unfold forD tgB; rw [q3]
        rw [this] at p2
        exact p2.elim
      | some e3 =>
        have tgb : tgB t b l[i] F2 = b ⟨e3, F2.st⟩ := by unfold tgB; rw [q3]
        refine hg s t3 σ2 F2.e F2.st x l[i] (E2.up g3) k3 i3 _ e3 q3 fun σ4 E4 _ _ => ?_
        refine hb s t3 σ4 e3 F2.st E4 k3 _ ?_
        have p4 := SPost.mono g3.up p2
        unfold forD at p4
        rw [tgb] at p4
        have s3 := s2.trans g3.up
        cases q5 : b ⟨e3, F2.st⟩ with
        | nx e5 => rw [q5] at p4; exact fun t6 σ6 s6 E6 k6 => ⟨hlt, t6, e5, rfl, s3.trans s6, E6, k6, SPost.mono s6 p4⟩
        | ct e5 => rw [q5] at p4; exact fun t6 σ6 s6 E6 k6 => ⟨hlt, t6, e5, rfl, s3.trans s6, E6, k6, SPost.mono s6 p4⟩
        | bk e5 => rw [q5] at p4; exact p4
        | rt m d st => rw [q5] at p4; exact p4
        | exc c l e => rw [q5] at p4; exact p4
        | bad => rw [q5] at p4; exact p4
    · left
      have : i = l.length := by omega
      subst this
      refine ⟨i1 (Nat.le_refl _), ?_⟩
      rw [List.drop_length] at p2
      exact p2 t2 σ2 (Up.refl _) E2 k2
  | exc c l st1 => rw [q] at post; exact fun t' x g k' o => post t' σ x g.up (E.up g) k' o
  | bad => rw [q] at post; exact post
/-! ### while -/
def whN (c : En → ER) (b : En → SR) : Nat → En → Option SR
  | 0, _ => none
  | n + 1, E => match c E with
    | .val _ (.bl true) st => (match b ⟨E.e, st⟩ with
      | .nx e' => whN c b n e'
      | .ct e' => whN c b n e'
      | .bk e' => some (.nx e')
      | r => some r)
    | .val _ (.bl false) st => some (.nx ⟨E.e, st⟩)
    | .exc k l st => some (.exc k l ⟨E.e, st⟩)
    | _ => some .bad
theorem whN_mono {c : En → ER} {b : En → SR} : ∀ {n m : Nat} {e : En} {r : SR}, whN c b n e = some r → n ≤ m → whN c b m e = some r
  | 0, _, _, _, h, _ => by cases h
  | n + 1, 0, _, _, _, hm => by omega
  | n + 1, m + 1, e, r, h, hm => by
    unfold whN at h ⊢
    split at h
    · split at h
      · rename_i q; exact whN_mono h (by omega)
      · rename_i q; exact whN_mono h (by omega)
      · exact h
      · exact h
    · exact h
    · exact h
    · exact h
open Classical in
noncomputable def sWhile (c : En → ER) (b : En → SR) : En → SR := fun e => if h : ∃ n r, whN c b n e = some r then Classical.choose (Classical.choose_spec h) else .bad
theorem sWhile_eq {c : En → ER} {b : En → SR} {n : Nat} {e : En} {r : SR} (h : whN c b n e = some r) : sWhile c b e = r := by
  have hx : ∃ n r, whN c b n e = some r := ⟨n, r, h⟩
  unfold sWhile
  rw [dif_pos hx]
  have h2 := Classical.choose_spec (Classical.choose_spec hx)
  have h3 := whN_mono h (Nat.le_max_left n (Classical.choose hx))
  have h4 := whN_mono h2 (Nat.le_max_right n (Classical.choose hx))
  rw [h3] at h4
  exact (Option.some.inj h4).symm
theorem s_while {tc : TT} {tb : TS} {c : En → ER} {b : En → SR} (hc : DTt G W tc c) (hb : DSt G W tb b) : DSt G W (tWhile tc tb) (sWhile c b) := by
  intro s t σ e st E k N post
  unfold sWhile at post
  split at post
  · rename_i hx
    have h2 := Classical.choose_spec (Classical.choose_spec hx)
    generalize Classical.choose (Classical.choose_spec hx) = r at post h2
    generalize Classical.choose hx = n at h2
    refine ⟨fun m σ H => ∃ t2 F2, t2.h = H ∧ Up t t2 ∧ EnvOk G s t2 σ F2.e ∧ StOk G t2 F2.st ∧ whN c b m F2 = some r, ⟨n, t, ⟨e, st⟩, rfl, Up.refl _, E, k, h2⟩, ?_⟩
    rintro m σ2 H2 ⟨t2, F2, rfl, s2, E2, k2, w2⟩
    cases m with
    | zero => cases w2
    | succ m =>
      unfold whN at w2
      refine tst_st (N := N) hc E2 k2 (fun k l st1 q => ?_) ?_ fun k bb st1 q t3 g3 k3 => ?_
      · have q : c F2 = .exc k l st1 := q
        rw [q] at w2
        cases w2
        exact SPost.mono s2 post
      · show ∃ m b st1, c F2 = .val m (.bl b) st1 ∨ ∃ k l, c F2 = .exc k l st1
        cases q : c F2 with
        | val k d st1 =>
          rw [q] at w2
          cases d with
          | bl x => exact ⟨k, x, st1, .inl rfl⟩
          | _ => cases w2; exact post.elim
        | exc k l st1 => exact ⟨.P, true, st1, .inr ⟨k, l, rfl⟩⟩
        | bad => rw [q] at w2; cases w2; exact post.elim
      · have q : c F2 = .val k (.bl bb) st1 := q
        rw [q] at w2
        cases bb with
        | false =>
          cases w2
          exact iteF (post t3 σ2 (s2.trans g3.up) (E2.up g3) k3)
        | true =>
          refine iteT ⟨fun σ H => ∃ t4 F4, t4.h = H ∧ Up t t4 ∧ EnvOk G s t4 σ F4.e ∧ StOk G t4 F4.st ∧ whN c b m F4 = some r, fun σ' H' h => ⟨m, Nat.lt_succ_self _, h⟩, ?_⟩
          refine hb s t3 σ2 F2.e st1 (E2.up g3) k3 _ ?_
          have s3 := s2.trans g3.up
          have w3 : (match b ⟨F2.e, st1⟩ with | .nx e' => whN c b m e' | .ct e' => whN c b m e' | .bk e' => some (.nx e') | r => some r) = some r := w2
          cases q5 : b ⟨F2.e, st1⟩ with
          | nx e5 => rw [q5] at w3; exact fun t6 σ6 s6 E6 k6 => ⟨t6, e5, rfl, s3.trans s6, E6, k6, w3⟩
          | ct e5 => rw [q5] at w3; exact fun t6 σ6 s6 E6 k6 => ⟨t6, e5, rfl, s3.trans s6, E6, k6, w3⟩
          | bk e5 => rw [q5] at w3; cases w3; exact SPost.mono s3 post
          | rt k d st => rw [q5] at w3; cases w3; exact SPost.mono s3 post
          | exc k l e => rw [q5] at w3; cases w3; exact SPost.mono s3 post
          | bad => rw [q5] at w3; cases w3; exact post.elim
  · exact post.elim
end
end Dn
namespace Dn
open PySem PySem.Spec PyProof.Rows L2
section
variable {G : Gm} {W : WX}
abbrev W0 : WX := fun _ _ _ _ => False
/-! ### list comprehensions -/
def wipeE (e : DE) : List Nat → DE
  | [] => e
  | v :: vs => (wipeE e vs).set v .emp
theorem EnvOk.wipe {s t : Hs} {σ : L2.St} {e : DE} (E : EnvOk G s t σ e) : ∀ vs : List Nat, EnvOk G s t (L2.wipe σ vs) (wipeE e vs)
  | [] => E
  | v :: vs => (E.wipe vs).set (x := .emp) trivial (fun l z => nomatch z)
theorem wipe_agree {σ τ : L2.St} {vs js : List Nat} (hl : τ.length = σ.length) (hj : ∀ j ∈ js, j ∈ vs) (h : ∀ i, i ∉ js → τ[i]? = (L2.wipe σ vs)[i]?) (hl2 : τ.length = (L2.wipe σ vs).length) : L2.wipe τ vs = L2.wipe σ vs := by
  have key : ∀ (σ : L2.St) (us : List Nat) (i : Nat), i ∈ us → i < σ.length → (L2.wipe σ us)[i]? = some none := by
    intro σ us
    induction us with
    | nil => intro i h; cases h
    | cons v us ih =>
      intro i h hi
      unfold L2.wipe
      by_cases z : v = i
      · subst z
        rw [List.getElem?_set_self (by rw [L2.wipe_length]; exact hi)]
      · rw [List.getElem?_set_ne z]
        rcases List.mem_cons.mp h with rfl | h
        · exact absurd rfl z
        · exact ih i h hi
  apply List.ext_getElem?
  intro i
  by_cases hi : i ∈ vs
  · by_cases hlt : i < σ.length
    · rw [key τ vs i hi (by omega), key σ vs i hi hlt]
    · rw [List.getElem?_eq_none (by rw [L2.wipe_length]; omega), List.getElem?_eq_none (by rw [L2.wipe_length]; omega)]
  · rw [L2.wipe_out hi, h i (fun z => hi (hj i z))]
def lcStep (t : D → DE → Option DE) (c f : En → ER) (e : DE) (d : D) (st : Sto) : Option (Option D × Sto) := match t d e with
  | none => none
  | some e2 => (match c ⟨e2, st⟩ with
    | .val _ (.bl b) st1 => if b = true then (match f ⟨e2, st1⟩ with | .val .P y st2 => some (some y, st2) | .val .N y st2 => some (some y, st2) | _ => none) else some (none, st1)
    | _ => none)
def lcGo (k : D → Sto → Option (Option D × Sto)) : List D → Sto → Option (List D × Sto)
  | [], st => some ([], st)
  | d :: l, st => (k d st).bind fun o => (lcGo k l o.2).bind fun r => some (o.1.toList ++ r.1, r.2)
def dLc (src : En → AR) (t : D → DE → Option DE) (c f : En → ER) (vs : List Nat) : En → ER := fun E => match src E with
  | .ok _ l st => if l.length ≤ 1000000 then ofOpt (lcGo (lcStep t c f (wipeE E.e vs)) l st) fun r => .val .N (.lst r.1) r.2 else .bad
  | .exc k l st => .exc k l st
  | .bad => .bad
theorem t_yes : DTt G W tYes (fun E => .val .P (.bl true) E.st) := fun s t σ e st E k Q post => post t (Gro.refl k) k
theorem v_lc {wi : TI} {g : TG} {tt : TT} {te : TE} {vs js : List Nat} {src : En → AR} {t : D → DE → Option DE} {c f : En → ER} (hi : DIt G W wi src) (hg : DTg G g js t) (hj : ∀ j ∈ js, j ∈ vs) (ht : DTt G W0 tt c) (he : DEv G W0 te f) : DEv G W (tLc wi g tt te vs) (dLc src t c f vs) := by
  intro s t0 σ e st E k0 Q post
  refine hi s t0 σ e st E k0 _ ?_
  unfold dLc at post
  cases q : src ⟨e, st⟩ with
  | ok p l st1 =>
    rw [q] at post
    obtain ⟨hlen, post⟩ := RPost.cond _ _ post
    obtain ⟨out, hout, post⟩ := RPost.opt _ _ post
    intro t1 J g1 k1 it Dl hD
    have hDH : t0.h Dl = none := by
      cases q : t0.h Dl with
      | none => rfl
      | some o =>
        by_cases i : Dl ∈ t0.as
        · exact absurd (g1.a.mem i) (k1.new hD)
        · rw [g1.h Dl o q i] at hD; cases hD
    have hD0 : s.h Dl = none := by
      cases q : s.h Dl with
      | none => rfl
      | some o =>
        by_cases i : Dl ∈ s.as
        · exact absurd (E.gr.a.mem i) (k0.new hDH)
        · rw [E.gr.h Dl o q i] at hDH; cases hDH
    have hDf : t1.f Dl = none := k1.sf.free hD
    have hDa : Dl ∉ t1.as := k1.new hD
    have Ew := (E.up g1).wipe vs
    have hne : ∀ (j : Nat) (m : List D), (L2.wipe σ vs)[j]? = some (some (.ref Dl)) → (wipeE e vs)[j]? = some (.own m) → False := fun j m a b => by
      obtain ⟨o, h1, p', vs', h2, _, _, h3, _⟩ := Ew.slot b
      rw [a] at h1; cases h1
      cases h2
      rw [hD] at h3; cases h3
    have gd := g1.chg (o := .lst []) hDH hDf
    refine ⟨fun i m H' => m = l.length - i ∧ i ≤ l.length ∧ ∃ t2 st2 acc vacc rest, t2.h = H' ∧ Up t1 t2 ∧ Gro t0 t2 ∧ StOk G t2 st2 ∧ EnvOk G s t2 (L2.wipe σ vs) (wipeE e vs) ∧ t2.h Dl = some (.lst vacc) ∧ IsL G t2.as t2.f vacc acc ∧ t2.f Dl = none ∧ Dl ∉ t2.as ∧ acc.length ≤ i ∧
      lcGo (lcStep t c f (wipeE e vs)) (l.drop i) st2 = some (rest, out.2) ∧ acc ++ rest = out.1, ⟨l.length, by simp, Nat.zero_le _, ⟨t1.as, t1.f, upd t1.h Dl (.lst [])⟩, st1, [], [], out.1, rfl, ⟨Ext.refl _, Same.refl _⟩, gd, k1.chg hDf hDa, Ew.other hD0 hDf hne, upd_same, .nil, hDf, hDa, Nat.zero_le _, hout, rfl⟩, ?_⟩
    rintro i m H2 ⟨rfl, hi, t2, st2, acc, vacc, rest, rfl, s2, g2, k2, E2, d2, a2, n2, na2, l2, r2, o2⟩
    obtain ⟨i1, i2⟩ := it i t2 st2 s2 k2
    by_cases hlt : i < l.length
    · right
      have hd : l[i]? = some l[i] := List.getElem?_eq_getElem hlt
      obtain ⟨go, y⟩ := i2 _ hd
      rw [List.drop_eq_getElem_cons hlt] at r2
      refine ⟨go, fun H' => i + 1 ≤ l.length ∧ ∃ t2 st2 acc vacc rest, t2.h = H' ∧ Up t1 t2 ∧ Gro t0 t2 ∧ StOk G t2 st2 ∧ EnvOk G s t2 (L2.wipe σ vs) (wipeE e vs) ∧ t2.h Dl = some (.lst vacc) ∧ IsL G t2.as t2.f vacc acc ∧ t2.f Dl = none ∧ Dl ∉ t2.as ∧ acc.length ≤ i + 1 ∧
        lcGo (lcStep t c f (wipeE e vs)) (l.drop (i + 1)) st2 = some (rest, out.2) ∧ acc ++ rest = out.1, fun H' h => ⟨l.length - (i + 1), by omega, rfl, h⟩, fun x H' hy => ?_⟩
      obtain ⟨t3, rfl, g3, k3, i3⟩ := y x H' hy
      unfold lcGo at r2
      cases sk : lcStep t c f (wipeE e vs) l[i] st2 with
      | none => rw [sk] at r2; cases r2
      | some o =>
        rw [sk] at r2
        have r2 : ((lcGo (lcStep t c f (wipeE e vs)) (l.drop (i + 1)) o.2).bind fun r => some (o.1.toList ++ r.1, r.2)) = some (rest, out.2) := r2
        cases lg : lcGo (lcStep t c f (wipeE e vs)) (l.drop (i + 1)) o.2 with
        | none => rw [lg] at r2; cases r2
        | some rest' =>
          rw [lg] at r2
          have r3 : (o.1.toList ++ rest'.1, rest'.2) = (rest, out.2) := Option.some.inj r2
          have r4 : o.1.toList ++ rest'.1 = rest := (Prod.mk.inj r3).1
          have r5 : rest'.2 = out.2 := (Prod.mk.inj r3).2
          have lg' : lcGo (lcStep t c f (wipeE e vs)) (l.drop (i + 1)) o.2 = some (rest'.1, out.2) := by rw [lg, ← r5]
          unfold lcStep at sk
          cases q3 : t l[i] (wipeE e vs) with
          | none => rw [q3] at sk; cases sk
          | some e3 =>
            rw [q3] at sk
            refine hg s t3 (L2.wipe σ vs) (wipeE e vs) st2 x l[i] (E2.up g3) k3 i3 _ e3 q3 fun σ4 E4 l4 w4 => ?_
            refine ⟨wipe_agree (by rw [l4, L2.wipe_length]) hj w4 l4, ?_⟩
            refine ht s t3 σ4 e3 st2 E4 k3 _ ?_
            have sk' : (match c ⟨e3, st2⟩ with
              | .val _ (.bl b) st1 => if b = true then (match f ⟨e3, st1⟩ with | .val .P y st2 => some (some y, st2) | .val .N y st2 => some (some y, st2) | _ => none) else some (none, st1)
              | _ => none) = some o := sk
            cases q4 : c ⟨e3, st2⟩ with
            | exc k l st => rw [q4] at sk'; cases sk'
            | bad => rw [q4] at sk'; cases sk'
            | val mm d st4 =>
              rw [q4] at sk'
              cases d with
              | bl b =>
                intro t5 g5 k5
                have gg := g3.trans g5
                cases b with
                | false =>
                  cases sk'
                  refine iteF ⟨hlt, t5, st4, acc, vacc, rest'.1, rfl, s2.trans gg.up, g2.trans gg, k5, E2.up gg, gg.h _ _ d2 na2, a2.up gg.a gg.f, gg.n _ _ d2 n2, (fun m => (gg.w Dl m).elim na2 fun z => by rw [d2] at z; cases z), by omega, lg', ?_⟩
                  rw [← o2, ← r4]; rfl
                | true =>
                  refine iteT (he s t5 σ4 e3 st4 (E4.up g5) k5 _ ?_)
                  have fin : ∀ y st6 t6 v, Gro t5 t6 → StOk G t6 st6 → Is G t6.as t6.f v y → o = (some y, st6) → ∃ acc, t6.h Dl = some (.lst acc) ∧ acc.length < sizeLine ∧ (i + 1 ≤ l.length ∧ ∃ t2 st2 acc_1 vacc rest, t2.h = upd t6.h Dl (.lst (acc ++ [v])) ∧ Up t1 t2 ∧ Gro t0 t2 ∧ StOk G t2 st2 ∧ EnvOk G s t2 (L2.wipe σ vs) (wipeE e vs) ∧
                      t2.h Dl = some (.lst vacc) ∧ IsL G t2.as t2.f vacc acc_1 ∧ t2.f Dl = none ∧ Dl ∉ t2.as ∧ acc_1.length ≤ i + 1 ∧ lcGo (lcStep t c f (wipeE e vs)) (l.drop (i + 1)) st2 = some (rest, out.2) ∧ acc_1 ++ rest = out.1) := fun y st6 t6 v g6 k6 i6 ho => by
                    subst ho
                    have gh := gg.trans g6
                    have nn := gh.n _ _ d2 n2
                    have na : Dl ∉ t6.as := fun m => (gh.w Dl m).elim na2 fun z => by rw [d2] at z; cases z
                    have cl := a2.len
                    refine ⟨vacc, gh.h _ _ d2 na2, by rw [cl]; exact szlt (by omega), hlt, ⟨t6.as, t6.f, upd t6.h Dl (.lst (vacc ++ [v]))⟩, st6, acc ++ [y], vacc ++ [v], rest'.1, rfl, ?_, (g2.trans gh).chg hDH nn, k6.chg nn na, (E2.up gh).other hD0 nn hne, upd_same, (a2.up gh.a gh.f).append (.one i6), nn, na, by simp; omega, lg', ?_⟩
                    · exact ⟨s2.a.trans gh.a, s2.f.trans gh.f⟩
                    · rw [← o2, ← r4]
                      simp
                  have sk2 : (match f ⟨e3, st4⟩ with | .val .P y st2 => some (some y, st2) | .val .N y st2 => some (some y, st2) | _ => none) = some o := sk'
                  cases q6 : f ⟨e3, st4⟩ with
                  | val m6 y st6 =>
                    rw [q6] at sk2
                    intro t6 v g6 k6 o6
                    cases m6 with
                    | P => exact fin y st6 t6 v g6 k6 o6 (Option.some.inj sk2).symm
                    | B => cases sk2
                    | N =>
                      obtain ⟨f7, g7, k7, _, i7⟩ := o6.freeze g6 k6 (by decide)
                      exact fin y st6 ⟨t6.as, f7, t6.h⟩ v g7 k7 i7 (Option.some.inj sk2).symm
                  | exc k l st => rw [q6] at sk2; cases sk2
                  | bad => rw [q6] at sk2; cases sk2
              | _ => cases sk'
    · left
      have : i = l.length := by omega
      subst this
      refine ⟨i1 (Nat.le_refl _), ?_⟩
      rw [List.drop_length] at r2
      have r3 : (([] : List D), st2) = (rest, out.2) := Option.some.inj r2
      have r4 : [] = rest := (Prod.mk.inj r3).1
      have r5 : st2 = out.2 := (Prod.mk.inj r3).2
      subst r4
      rw [List.append_nil] at o2
      rw [← o2, ← r5] at post
      exact post t2 _ g2 k2 ⟨Dl, vacc, acc, rfl, rfl, d2, a2, na2, hDH, n2⟩
  | exc c l st1 => rw [q] at post; exact post
  | bad => rw [q] at post; exact post
/-! ### raise -/
def sRaise (c : Nat) : En → SR := fun E => .exc c [] E
theorem s_raise {c : Nat} {C : Addr} (hc : G.ca c = C) : DSt G W (fun _ σ H => (fun (_ : L2.St) (H : Hp) (Q : XK) => Q (.ref C) none H) σ H fun cls d H' => W cls d σ H') (sRaise c) := by
  intro s t σ e st E k N post
  subst hc
  exact post t σ none (Up.refl _) E k (.inl ⟨rfl, rfl⟩)
/-! ### a def -/
def SR.ret : SR → ER
  | .nx E => .val .P .non E.st
  | .rt m d st => .val m d st
  | .exc c l E => .exc c l E.st
  | _ => .bad
def startE (n : Nat) (ds : List D) : DE := ds.map .val ++ List.replicate (n - ds.length) .emp
/-- n parameters, N slots, the body g -/
def fnD (n N : Nat) (g : En → SR) : List D → Sto → ER := fun ds st => if ds.length = n then (g ⟨startE N ds, st⟩).ret else .bad
theorem start_ok {N : List Str} {t : Hs} {st : Sto} {vs : List V} {ds : List D} (k : StOk G t st) (h : IsL G t.as t.f vs ds) : EnvOk G t t (L2.start N vs) (startE N.length ds) := by
  have hl := h.len
  have noown : ∀ (j : Nat) (m : List D), (startE N.length ds)[j]? ≠ some (.own m) := fun j m z => by
    unfold startE at z
    rw [List.getElem?_append] at z
    split at z
    · rw [List.getElem?_map] at z
      cases q : ds[j]? <;> rw [q] at z <;> cases z
    · rw [List.getElem?_replicate] at z
      split at z <;> cases z
  refine ⟨Gro.refl k, by simp [L2.start, startE, hl], fun i o sl a b => ?_, fun i j p l m hij a b => absurd b (noown i l)⟩
  unfold L2.start at a
  unfold startE at b
  rw [List.getElem?_append] at a b
  rw [List.length_map] at a b
  split at a
  · rename_i hi
    rw [if_pos (by omega)] at b
    rw [List.getElem?_map] at a b
    cases q : vs[i]? with
    | none => rw [q] at a; cases a
    | some v =>
      obtain ⟨d, h1, h2⟩ := h.getV q
      rw [q] at a; rw [h1] at b
      cases a; cases b
      exact ⟨v, rfl, h2⟩
  · rename_i hi
    rw [if_neg (by omega)] at b
    rw [List.getElem?_replicate] at b
    split at b
    · cases b; trivial
    · cases b
/-- the body's end -/
theorem body_ok {N : List Str} {vs : List V} {H : Hp} {Q : VK} {E : XK} {ts : TS} {g : En → SR} {n : Nat} {D0 : Ends} (h2 : DSt G (fun c x _ H => E c x H) ts g) (hnx : D0.nx = fun _ H => Q .non H) (hrt : D0.rt = Q)
    (h : spF G (fnD n N.length g) vs H Q E) : ts D0 (L2.start N vs) H := by
  obtain ⟨t, ds, st, rfl, k, i, p⟩ := h
  obtain ⟨hl, p⟩ := RPost.cond _ _ p
  refine h2 t t _ _ st (start_ok k i) k _ ?_
  cases q : g ⟨startE N.length ds, st⟩ with
  | nx e => rw [q] at p; exact fun t' σ' s' E' k' => by rw [hnx]; exact p t' .non E'.gr k' .non
  | rt m d st1 => rw [q] at p; exact fun t' v s' g' k' o => by rw [hrt]; exact p t' v g' k' o
  | bk e => rw [q] at p; exact p.elim
  | ct e => rw [q] at p; exact p.elim
  | exc c l e => rw [q] at p; exact fun t' σ' x s' E' k' o => p t' x E'.gr k' o
  | bad => rw [q] at p; exact p.elim
theorem sp_len {n N : Nat} {g : En → SR} {vs : List V} {H : Hp} {Q : VK} {E : XK} (h : spF G (fnD n N g) vs H Q E) : vs.length = n := by
  obtain ⟨t, ds, st, rfl, k, i, p⟩ := h
  unfold fnD at p
  split at p
  · rename_i hl; rw [i.len]; exact hl
  · exact p.elim
theorem fn_ok {P : Program} {w : World} {K : PySem.W.Frag} {mg : Str → Option Value} {base : Heap} {x qual : Str} {st : Stmt} {f : Addr} {fd : FuncData} {N ps : List Str} {k : Nat} {g : En → SR} {n : Nat} (hn : ps.length = n) {m : Nat} (hm : N.length = m)
    (F : Fun K x qual st f fd) (S : FnScope N ps (defScope st))
    (hbody : ∀ (cdv : Value) (A : Around) (outer : List Env) (s : Shared) (H : Hp) (E : XK), Room k (A.deeper (envOfC qual (defScope st) s.heap.objs.size f cdv)) →
      ∃ t, PSs (cxOf (L2.CX P w) P w K mg base N qual (defScope st) f cdv A outer s H E) (defBody st) t ∧ DSt G (fun c x _ H => E c x H) t g) : FnOk P w K mg base (L2.CX P w) (k + 1) f fd ps (spF G (fnD n m g)) := by
  subst hn hm
  refine F.okX S (fun vs H Q E h => sp_len h) fun cdv A outer s H vs Q E hr h => ?_
  obtain ⟨t, h1, h2⟩ := hbody cdv A outer s H E hr
  exact ⟨t, h1, body_ok h2 rfl rfl h⟩
end
end Dn
namespace Dn
open PySem PySem.Spec PyProof.Rows L2
/-! ### calls with keywords and defaults -/
def pickL {α : Type} (idx : List Nat) (l : List α) : List α := idx.filterMap fun k => l[k]?
/-- how a call of n values and the keywords ks binds: the parameters by their places in values, keywords' values, defaults -/
structure CallB (K : PySem.W.Frag) (fd : FuncData) (ps : List Str) (n : Nat) (ks : List Str) (idx : List Nat) (dvs : List V) : Prop where
  ex : ∃ its : List Value, Vals dvs its ∧ ∀ (s : Shared) (us ws : List Value), K.In s.heap → us.length = n → ws.length = ks.length → BindsTo s fd ⟨us, ks.zip ws⟩ (ps.zip (pickL idx (us ++ ws ++ its)))
theorem vals_pick {vs : List V} {us : List Value} (h : Vals vs us) : ∀ idx : List Nat, Vals (pickL idx vs) (pickL idx us)
  | [] => .nil
  | k :: idx => by
    have ih := vals_pick h idx
    unfold pickL at ih ⊢
    rw [List.filterMap_cons, List.filterMap_cons]
    cases q : vs[k]? with
    | none => rw [h.none_of q]; exact ih
    | some v => obtain ⟨u, h1, h2⟩ := h.get q; rw [h1]; exact .cons h2 ih
theorem isL_pick {G : Gm} {as : List Addr} {H : Hp} {vs : List V} {ds : List D} (h : IsL G as H vs ds) : ∀ idx : List Nat, IsL G as H (pickL idx vs) (pickL idx ds)
  | [] => .nil
  | k :: idx => by
    have ih := isL_pick h idx
    unfold pickL at ih ⊢
    rw [List.filterMap_cons, List.filterMap_cons]
    cases q : ds[k]? with
    | none =>
      have : vs[k]? = none := by
        rw [List.getElem?_eq_none_iff] at q ⊢
        rw [h.len]; exact q
      rw [this]; exact ih
    | some d => obtain ⟨u, h1, h2⟩ := h.get q; rw [h1]; exact .cons h2 ih
def toV : D → V
  | .bl b => .bl b
  | .int i => .int i
  | .str x => .str x
  | _ => .non
theorem is_toV {G : Gm} {as : List Addr} {H : Hp} {d : D} (h : flat d = true) : Is G as H (toV d) d := by
  cases d <;> first | exact .non | exact .bl _ | exact .int _ | exact .str _ | cases h
theorem isL_toV {G : Gm} {as : List Addr} {H : Hp} : ∀ {ds : List D}, ds.all flat = true → IsL G as H (ds.map toV) ds
  | [], _ => .nil
  | d :: ds, h => by
    have h' : flat d = true ∧ ds.all flat = true := by simpa using h
    exact .cons (is_toV h'.1) (isL_toV h'.2)
def tCallG (n m : Nat) (idx : List Nat) (dvs : List V) (sp : Sp) (E : L2.St → XK) (t tk : TA) : TE := fun σ H Q => t σ H fun vs H1 => tk σ H1 fun zs H2 => vs.length = n ∧ zs.length = m ∧ sp (pickL idx (vs ++ zs ++ dvs)) H2 Q (E σ)
section
variable {X : Cx} {CX : CXT} {k n : Nat} {f : Addr} {fd : FuncData} {ps ks : List Str} {idx : List Nat} {dvs : List V} {sp : Sp} {E : L2.St → XK} {x : Str} {p pos : Pos} {e : Expr} {es : List Expr} {kws : List Keyword} {t tk : TA}
theorem run_fnG {pins : List (Addr × Obj)} {σ : L2.St} {H : Hp} {s : Shared} {Q : VK} {us ws : List Value} {vs zs : List V} (F : FnOk X.prog X.w X.K X.mg X.base CX k f fd ps sp) (hr : Room k X.A) (hb : CallB X.K fd ps n ks idx dvs) (hx : PassesAt CX X σ (E σ))
    (I : Inv X pins σ H s) (r : Vals vs us) (rz : Vals zs ws) (l1 : vs.length = n) (l2 : zs.length = ks.length) (h : sp (pickL idx (vs ++ zs ++ dvs)) H Q (E σ)) : wpAny (model X.prog X.w) X.A (call (.ref f) us (ks.zip ws)) (EP X pins σ Q) X.xe s := by
  obtain ⟨its, rd, hb⟩ := hb.ex
  refine wpAny_call (codeAny_mono (F.run X.A X.stack s H ⟨us, ks.zip ws⟩ (pickL idx (us ++ ws ++ its)) (pickL idx (vs ++ zs ++ dvs)) Q (E σ) hr I.env0 (hb s us ws I.kIn (r.length.symm.trans l1) (rz.length.symm.trans l2)) (vals_pick ((r.append rz).append rd) idx) h) fun r s' hq => ?_)
  cases r with
  | error e => exact hx pins H s e s' I hq
  | ok fl =>
    cases fl with
    | ret u => exact I.after hq
    | next => exact False.elim hq
    | brk => exact False.elim hq
    | cont => exact False.elim hq
theorem pe_gN (F : FnOk X.prog X.w X.K X.mg X.base CX k f fd ps sp) (hr : Room k X.A) (hg : Gl X x) (hm : X.mg x = some (.ref f)) (hk : PySem.W.keepIn X.K (.ref f) = true) (hb : CallB X.K fd ps n [] idx dvs) (hx : ∀ σ, PassesAt CX X σ (E σ))
    (ha : PA X (e :: es) t) (hdb : (x == ("__debug__" : Str)) = false := by decide) (he : starEach (e :: es) X.env = (false, eval e X.env) :: starEach es X.env := by rfl) (hpl : (backTo pos (starEach es X.env)).any (·.1) = false := by rfl) :
    PE X (.Call (.Name x p) (e :: es) [] pos) (tCallG n 0 idx dvs sp E t tNil) := by
  refine ⟨fun pins s σ H Q I h => ?_⟩
  refine wpAny_Call_Name_kw (ld_glob I hg hm ?_ hdb)
  refine PySem.W.callWith_K (h₀ := X.base) I.ok.mod.kin hk (thn (ha.run pos pins s σ H _ I h) fun us s1 ⟨vs, H1, I1, r, l1, l2, q⟩ => ⟨I1.kIn, ?_⟩) he hpl
  exact run_fnG (ks := []) (ws := []) (zs := []) F hr hb (hx σ) I1 r .nil l1 rfl q
theorem pe_gK {m : Nat} (F : FnOk X.prog X.w X.K X.mg X.base CX k f fd ps sp) (hr : Room k X.A) (hg : Gl X x) (hm : X.mg x = some (.ref f)) (hk : PySem.W.keepIn X.K (.ref f) = true) (hb : CallB X.K fd ps n ks idx dvs) (hx : ∀ σ, PassesAt CX X σ (E σ))
    (ha : PA X (e :: es) t) (hkw : PK X kws tk) (hall : (backToKw pos (keywordEach kws X.env)).all (·.1.isSome) = true := by rfl) (hks : (backToKw pos (keywordEach kws X.env)).filterMap (·.1) = ks := by rfl)
    (hdb : (x == ("__debug__" : Str)) = false := by decide) (he : starEach (e :: es) X.env = (false, eval e X.env) :: starEach es X.env := by rfl)
    (hpl : ((backTo pos (starEach (e :: es) X.env)).any (·.1) || (backToKw pos (keywordEach kws X.env)).any (·.1.isNone)) = false := by rfl) (hm2 : ks.length = m := by rfl) :
    PE X (.Call (.Name x p) (e :: es) kws pos) (tCallG n m idx dvs sp E t tk) := by
  subst hm2
  refine ⟨fun pins s σ H Q I h => ?_⟩
  refine wpAny_Call_Name_kw (ld_glob I hg hm ?_ hdb)
  refine PySem.W.callWith_KW (h₀ := X.base) I.ok.mod.kin hk hall (thn (ha.run pos pins s σ H _ I h) fun us s1 ⟨vs, H1, I1, r, q⟩ => ?_) hpl he
  refine thn (hkw.run pos pins s1 σ H1 _ I1 q) fun ws s2 ⟨zs, H2, I2, rz, l1, l2, q2⟩ => ⟨I2.kIn, ?_⟩
  rw [hks]
  exact run_fnG F hr hb (hx σ) I2 r rz l1 l2 q2
end
end Dn
namespace Dn
open PySem PySem.Spec PyProof.Rows L2
section
variable {X : Cx} {CX : CXT} {k n : Nat} {f : Addr} {fd : FuncData} {ps ks : List Str} {idx : List Nat} {dvs : List V} {sp : Sp} {E : L2.St → XK} {x : Str} {p pos : Pos} {e : Expr} {es : List Expr} {kws : List Keyword} {t tk : TA}
theorem pe_gK0 {m : Nat} (F : FnOk X.prog X.w X.K X.mg X.base CX k f fd ps sp) (hr : Room k X.A) (hg : Gl X x) (hm : X.mg x = some (.ref f)) (hk : PySem.W.keepIn X.K (.ref f) = true) (hb : CallB X.K fd ps 0 ks idx dvs) (hx : ∀ σ, PassesAt CX X σ (E σ))
    (hkw : PK X kws tk) (hall : (backToKw pos (keywordEach kws X.env)).all (·.1.isSome) = true := by rfl) (hks : (backToKw pos (keywordEach kws X.env)).filterMap (·.1) = ks := by rfl)
    (hdb : (x == ("__debug__" : Str)) = false := by decide)
    (hpl : ((backTo pos (starEach [] X.env)).any (·.1) || (backToKw pos (keywordEach kws X.env)).any (·.1.isNone)) = false := by rfl) (hm2 : ks.length = m := by rfl) :
    PE X (.Call (.Name x p) [] kws pos) (tCallG 0 m idx dvs sp E tNil tk) := by
  subst hm2
  refine ⟨fun pins s σ H Q I h => ?_⟩
  refine wpAny_Call_Name_kw (ld_glob I hg hm ?_ hdb)
  refine PySem.W.callWith_KW0 (h₀ := X.base) I.ok.mod.kin hk hall (thn (hkw.run pos pins s σ H _ I h) fun ws s2 ⟨zs, H2, I2, rz, l1, l2, q2⟩ => ⟨I2.kIn, ?_⟩) hpl
  rw [hks]
  exact run_fnG (us := []) (vs := []) F hr hb (hx σ) I2 .nil rz rfl l2 q2
theorem pe_g0 (F : FnOk X.prog X.w X.K X.mg X.base CX k f fd ps sp) (hr : Room k X.A) (hg : Gl X x) (hm : X.mg x = some (.ref f)) (hk : PySem.W.keepIn X.K (.ref f) = true) (hb : CallB X.K fd ps 0 [] idx dvs) (hx : ∀ σ, PassesAt CX X σ (E σ))
    (hdb : (x == ("__debug__" : Str)) = false := by decide) : PE X (.Call (.Name x p) [] [] pos) (tCallG 0 0 idx dvs sp E tNil tNil) := by
  refine ⟨fun pins s σ H Q I h => ?_⟩
  refine wpAny_Call_Name_kw (ld_glob I hg hm ?_ hdb)
  obtain ⟨l1, l2, q⟩ := h
  exact PySem.W.callWith_K0 I.kIn hk (run_fnG (ks := []) (us := []) (vs := []) (ws := []) (zs := []) F hr hb (hx σ) I .nil .nil rfl rfl q)
end
section
variable {G : Gm} {W : WX}
def dCallG (F : List D → Sto → ER) (n m : Nat) (idx : List Nat) (dd : List D) (f g : En → AR) : En → ER := fun E => match f E with
  | .ok true l st => (match g ⟨E.e, st⟩ with
    | .ok true z st1 => if l.length = n ∧ z.length = m then F (pickL idx (l ++ z ++ dd)) st1 else .bad
    | .exc c l st => .exc c l st
    | _ => .bad)
  | .exc c l st => .exc c l st
  | _ => .bad
theorem v_callG {F : List D → Sto → ER} {n m : Nat} {idx : List Nat} {dd : List D} {ta tk : TA} {f g : En → AR} (hd : dd.all flat = true) (ha : DAr G W ta f) (hk : DAr G W tk g) : DEv G W (tCallG n m idx (dd.map toV) (spF G F) (WE W) ta tk) (dCallG F n m idx dd f g) := by
  intro s t σ e st E k Q post
  refine ha s t σ e st E k _ ?_
  unfold dCallG at post
  cases q : f ⟨e, st⟩ with
  | ok p l st1 =>
    rw [q] at post
    cases p with
    | false => exact post.elim
    | true =>
      have post : RPost G W t σ Q (match g ⟨e, st1⟩ with
        | .ok true z st1 => if l.length = n ∧ z.length = m then F (pickL idx (l ++ z ++ dd)) st1 else .bad
        | .exc c l st => .exc c l st
        | _ => .bad) := post
      intro t1 vs g1 k1 i1 u1
      have i1 := i1 rfl
      refine hk s t1 σ e st1 (E.up g1) k1 _ ?_
      cases q2 : g ⟨e, st1⟩ with
      | ok p2 z st2 =>
        rw [q2] at post
        cases p2 with
        | false => exact post.elim
        | true =>
          obtain ⟨c, post⟩ := RPost.cond (l.length = n ∧ z.length = m) (F (pickL idx (l ++ z ++ dd)) st2) post
          intro t2 zs g2 k2 i2 u2
          have i2 := i2 rfl
          refine ⟨by rw [u1.len]; exact c.1, by rw [u2.len]; exact c.2, t2, _, st2, rfl, k2, isL_pick (((i1.up g2.a g2.f).append i2).append (isL_toV hd)) idx, (RPost.step (g1.trans g2) k2 post).w (fun c x H' h => h)⟩
      | exc c l st2 => rw [q2] at post; exact fun t' x g' => post t' x (g1.trans g')
      | bad => rw [q2] at post; exact post
  | exc c l st1 => rw [q] at post; exact post
  | bad => rw [q] at post; exact post
/-! ### isinstance -/
def tyN : D → String
  | .non => "NoneType"
  | .bl _ => "bool"
  | .int _ => "int"
  | .str _ => "str"
  | .tup _ => "tuple"
  | .lst _ => "list"
  | .scr _ => "list"
  | .obj _ _ => "object"
  | .ptr _ => "object"
def isT (T : String) : D → Sto → ER
  | .obj _ _, _ => .bad
  | .scr _, _ => .bad
  | .ptr _, _ => .bad
  | d, st => ofOpt (kitB (tyN d) T) fun b => .val .P (.bl b) st
def plainT : D → Prop
  | .obj _ _ => False
  | .scr _ => False
  | .ptr _ => False
  | _ => True
theorem tyX_of {t : Hs} {v : V} {d : D} (s : Same t.f t.h) (h : U G t v d) (hd : plainT d) : TyX G.K t.h v (.type (tyN d)) := by
  cases d with
  | non => obtain rfl := h.non; exact .base .non
  | bl b => obtain rfl := h.bl; exact .base (.bl b)
  | int i => obtain rfl := h.int; exact .base (.int i)
  | str x => obtain rfl := h.str; exact .base (.str x)
  | tup l =>
    obtain ⟨p, vs, rfl, a, b⟩ := h.tup s
    rcases a with (a | ⟨o, a⟩) | ⟨o, its, n, hk, hc, _⟩
    · exact .base (.tup a)
    · exact .fTuple a
    · exact .kTuple hk hc
  | lst l => obtain ⟨p, vs, rfl, a, b⟩ := h.lst s; exact .base (.lst a)
  | obj c l => exact hd.elim
  | scr a => exact hd.elim
  | ptr n => exact hd.elim
def dIsi (T : String) (f : En → ER) : En → ER := fun E => (f E).bind (isT T)
theorem v_isi {T : String} {te : TE} {f : En → ER} (h : DEv G W te f) : DEv G W (tCB (rIsi G.K) (tCons te (tCons (tC (.ty T)) tNil))) (dIsi T f) := by
  intro s t σ e st E k Q post
  refine h s t σ e st E k _ (RPost.bind post fun m d st1 t1 v g1 k1 o1 p1 => ?_)
  have key : ∀ (hd : plainT d) (p1 : RPost G W t1 σ Q (ofOpt (kitB (tyN d) T) fun b => .val .P (.bl b) st1)), rIsi G.K [v, .ty T] t1.h Q := fun hd p1 => by
    obtain ⟨b, hb, p1⟩ := RPost.opt _ _ p1
    exact ⟨v, .ty T, _, _, b, rfl, .ty T, tyX_of k1.sf o1.u hd, kit_ty hb, p1.now k1 (.bl _)⟩
  cases d <;> first | exact key trivial p1 | exact p1.elim
/-! ### try .. except X as n -/
def clr (e : DE) : DE := e.map fun s => match s with | .exn => .emp | .clo _ => .emp | s => s
theorem SlotOk.ea {s t : Hs} {o : Option V} {sl : SL} (x : Addr) (h : SlotOk G s t o sl) (hs : sl ≠ .exn ∧ ∀ ds, sl ≠ .clo ds) : SlotOk (G.at_ x) s t o sl := by
  cases sl with
  | emp => trivial
  | exn => exact absurd rfl hs.1
  | clo ds => exact absurd rfl (hs.2 ds)
  | val d => obtain ⟨v, a, b⟩ := h; exact ⟨v, a, b.ea x⟩
  | own l => obtain ⟨p, vs, a, b, c, d, e, f⟩ := h; exact ⟨p, vs, a, b, c, d, e.ea x, f⟩
theorem clr_get {e : DE} {i : Nat} {s : SL} (h : (clr e)[i]? = some s) : (s ≠ .exn ∧ ∀ ds, s ≠ .clo ds) ∧ (s = .emp ∨ e[i]? = some s) := by
  unfold clr at h
  rw [List.getElem?_map] at h
  cases q : e[i]? with
  | none => rw [q] at h; cases h
  | some s' =>
    rw [q] at h
    cases s' <;> cases h <;> first | exact ⟨⟨(fun z => nomatch z), fun _ z => nomatch z⟩, .inl rfl⟩ | exact ⟨⟨(fun z => nomatch z), fun _ z => nomatch z⟩, .inr rfl⟩
/-- into an except suite, and out of it -/
theorem EnvOk.ea {s t : Hs} {σ : L2.St} {e : DE} (x : Addr) (E : EnvOk G s t σ e) : EnvOk (G.at_ x) s t σ (clr e) := by
  refine ⟨E.gr, by rw [E.len]; simp [clr], fun i o s a b => ?_, fun i j p l m hij a b c d => ?_⟩
  · obtain ⟨h1, h2 | h2⟩ := clr_get b
    · subst h2; trivial
    · exact (E.at_ i o s a h2).ea x h1
  · obtain ⟨_, h2 | h2⟩ := clr_get b
    · cases h2
    · obtain ⟨_, h3 | h3⟩ := clr_get d
      · cases h3
      · exact E.dis i j p l m hij a h2 c h3
theorem ObOk.ea {s : Hs} {a : Addr} {o : Ob} (x : Addr) (h : ObOk G s a o) : ObOk (G.at_ x) s a o := by
  cases o with
  | lst l => obtain ⟨vs, h1, h2⟩ := h; exact ⟨vs, h1, h2.ea x⟩
  | ins c l => obtain ⟨dx, vs, h1, h2, h3⟩ := h; exact ⟨dx, vs, h1, h2, h3.ea x⟩
  | tbl q => exact h
theorem StOk.ea {s : Hs} {st : Sto} (x : Addr) (k : StOk G s st) : StOk (G.at_ x) s st := ⟨k.sf, k.len, k.nd, fun n a o h1 h2 => (k.ob n a o h1 h2).ea x, k.nf, k.tb, fun da h => by
  obtain ⟨xs, h1, h2, h3⟩ := k.ex da h
  exact ⟨xs, h1, h2, h3.ea x⟩⟩
theorem at_at (a : Addr) : (G.at_ a).at_ G.ea = G := rfl
/-- h c l: the suite, where it holds an error of the class c with the fields l -/
def sTryAs (i : Nat) (catch? : Nat → Option Bool) (g : En → SR) (h : Nat → List D → En → SR) : En → SR := fun E => match g E with
  | .exc c l E1 => (match catch? c with
    | some true => (match h c l ⟨(clr E1.e).set i .exn, E1.st⟩ with
      | .nx E2 => .nx ⟨(clr E2.e).set i .emp, E2.st⟩
      | .bk E2 => .bk ⟨(clr E2.e).set i .emp, E2.st⟩
      | .ct E2 => .ct ⟨(clr E2.e).set i .emp, E2.st⟩
      | .rt m d st => .rt m d st
      | _ => .bad)
    | some false => .exc c l E1
    | none => .bad)
  | r => r
theorem VOk.ea {s t : Hs} {m : Md} {v : V} {d : D} (x : Addr) (h : VOk G s t m v d) : VOk (G.at_ x) s t m v d := by
  cases m with
  | P => exact Is.ea x _ h
  | B => obtain ⟨p, vs, l, a, b, c, e, f⟩ := h; exact ⟨p, vs, l, a, b, c, e.ea x, f⟩
  | N => obtain ⟨p, vs, l, a, b, c, e, f, n, z⟩ := h; exact ⟨p, vs, l, a, b, c, e.ea x, f, n, z⟩
theorem s_tryAs {i : Nat} {C : Value} {tb : WX → TS} {ts : Addr → Value → Option Addr → TS} {catch? : Nat → Option Bool} {g : En → SR} {h : Nat → List D → En → SR} (hb : ∀ W, DSt G W (tb W) g)
    (hc : ∀ c b, catch? c = some b → PySem.W.exmOne G.K (.ref (G.ca c)) C = some b)
    (hs : ∀ c l a x t, catch? c = some true → ExcOk G t c l x → ∀ s σ e st, EnvOk (G.at_ a) s t σ e → StOk (G.at_ a) t st → ∀ N : Ends, SPost (G.at_ a) W0 s t N (h c l ⟨e, st⟩) → ts a (.ref (G.ca c)) x N σ t.h) :
    DSt G W (fun N σ H => tb (wAs G.K C i ts W N) N σ H) (sTryAs i catch? g h) := by
  intro s t σ e st E k N post
  refine hb _ s t σ e st E k N ?_
  unfold sTryAs at post
  cases q : g ⟨e, st⟩ with
  | nx e1 => rw [q] at post; exact post
  | rt m d st => rw [q] at post; exact post
  | bk e1 => rw [q] at post; exact post
  | ct e1 => rw [q] at post; exact post
  | bad => rw [q] at post; exact post
  | exc c l F1 =>
    simp only [q] at post
    intro t1 σ1 x s1 E1 k1 ox
    cases q2 : catch? c with
    | none => simp only [q2] at post; exact post.elim
    | some b =>
      refine ⟨b, hc c b q2, fun hbt a ha => ?_, fun hbf => ?_⟩
      · subst hbt
        simp only [q2] at post
        have E2 := (E1.ea a).set (i := i) (o := some (.ref a)) (x := .exn) rfl (fun l z => nomatch z)
        refine hs c l a x t1 q2 ox s _ _ F1.st E2 (k1.ea a) _ ?_
        have back : ∀ {t' : Hs} {σ' : L2.St} {e2 : DE}, EnvOk (G.at_ a) s t' σ' e2 → EnvOk G s t' (σ'.set i none) ((clr e2).set i .emp) := fun E' =>
          EnvOk.set (G := G) (x := .emp) (E'.ea G.ea) trivial (fun l z => nomatch z)
        cases q3 : h c l ⟨(clr F1.e).set i .exn, F1.st⟩ with
        | nx e2 => rw [q3] at post; exact fun t' σ' s' E' k' => post t' _ (s1.trans s') (back E') (k'.ea G.ea)
        | bk e2 => rw [q3] at post; exact fun t' σ' s' E' k' => post t' _ (s1.trans s') (back E') (k'.ea G.ea)
        | ct e2 => rw [q3] at post; exact fun t' σ' s' E' k' => post t' _ (s1.trans s') (back E') (k'.ea G.ea)
        | rt m d st => rw [q3] at post; exact fun t' v s' g' k' o => post t' v (s1.trans s') g' (k'.ea G.ea) (o.ea G.ea)
        | exc c2 l2 e2 => rw [q3] at post; exact post.elim
        | bad => rw [q3] at post; exact post.elim
      · subst hbf
        simp only [q2] at post
        exact post t1 σ1 x s1 E1 k1 ox
/-- isinstance(e, C) in the suite, of an error without fields -/
def rIsEx (K : PySem.W.Frag) (a : Addr) (cls : Value) (d : Option Addr) : List V → Hp → VK → Prop := fun xs H Q => ∃ D, cls = .ref D ∧ d = none ∧ ExcC K D ∧ rIsE K D a xs H Q
theorem call_isEx {X : Cx} {a : Addr} {cls : Value} {d : Option Addr} {oe : Obj} {pn : List (Addr × Obj)} (hz : Zc cls d oe) (hf : ∃ vs, oe.data = .fields vs) : CallR (X.suite a ((a, oe) :: pn)) (.builtin "isinstance") (rIsEx X.K a cls d) := by
  intro pins s σ H xs us Q I r h
  obtain ⟨D, rfl, rfl, C, h⟩ := h
  exact call_isE C hz hf pins s σ H xs us Q I r h
/-- the answer by a table -/
def dIsE (i : Nat) (b : Option Bool) : En → ER := fun E => match E.e[i]? with
  | some .exn => ofOpt b fun b => .val .P (.bl b) E.st
  | _ => .bad
theorem v_isE {i : Nat} {b : Option Bool} {c : Nat} {a : Addr} {C : V} {cv cls : Value} {dd : Option Addr} (hcls : cls = .ref (G.ca c)) (hdd : dd = none) (T : ExcC G.K (G.ca c)) (hC : ∀ u, RelV C u → u = cv) (hb : ∀ r, b = some r → PySem.W.kitOne G.K (.ref (G.ca c)) cv = some r) :
    DEv (G.at_ a) W (tCB (rIsEx G.K a cls dd) (tCons (tVar i) (tCons (tC C) tNil))) (dIsE i b) := by
  subst hcls
  subst hdd
  intro s t σ e st E k Q post
  unfold dIsE at post
  split at post
  · rename_i q
    obtain ⟨o, h1, h2⟩ := E.slot q
    have h2 : o = some (.ref a) := h2
    subst h2
    obtain ⟨r, hr, post⟩ := RPost.opt _ _ post
    exact ⟨_, h1, G.ca c, rfl, rfl, T, C, cv, r, rfl, hC, hb r hr, post.now k (.bl _)⟩
  · exact post.elim
end
/-! ### a def with defaults -/
theorem fn_okD {G : Gm} {P : Program} {w : World} {K : PySem.W.Frag} {mg : Str → Option Value} {base : Heap} {x qual : Str} {params : Arguments} {body : List Stmt} {scope : Scope} {dvs : List V} {f : Addr} {fd : FuncData} {N ps : List Str} {k : Nat} {g : En → SR} {n : Nat} (hn : ps.length = n) {m : Nat} (hm : N.length = m)
    (F : FunD K x qual params body scope dvs [] f fd) (S : FnScope N ps scope)
    (hbody : ∀ (cdv : Value) (A : Around) (outer : List Env) (s : Shared) (H : Hp) (E : XK), Room k (A.deeper (envOfC qual scope s.heap.objs.size f cdv)) →
      ∃ t, PSs (cxOf (L2.CX P w) P w K mg base N qual scope f cdv A outer s H E) body t ∧ DSt G (fun c x _ H => E c x H) t g) : FnOk P w K mg base (L2.CX P w) (k + 1) f fd ps (spF G (fnD n m g)) := by
  subst hn hm
  refine F.ok S (fun vs H Q E h => sp_len h) fun cdv A outer s H vs Q E hr h => ?_
  obtain ⟨t, h1, h2⟩ := hbody cdv A outer s H E hr
  exact ⟨t, h1, body_ok h2 rfl rfl h⟩
/-- how such a def binds -/
theorem callB_d {K : PySem.W.Frag} {x qual : Str} {params : Arguments} {body : List Stmt} {scope : Scope} {T : Addr} {kV doc pm : Value} {an : Option Addr} {cdv ct : Value} {o : Obj} {its : List Value} {m : Nat} {dvs : List V} {ps ks : List Str} {n : Nat} {idx : List Nat} (lT : K.lookup T = some o) (oT : o.data = .seq its.toArray m) (rd : Vals dvs its)
    (h : ∀ (us ws : List Value), us.length = n → ws.length = ks.length → ∃ k, bindArgs (PySem.W.fnOf x qual params body scope (.ref T) kV doc pm an cdv ct) ⟨us, ks.zip ws⟩ = seqItems? (.ref T) >>= k ∧ k (some its.toArray) = pure (ps.zip (pickL idx (us ++ ws ++ its)))) :
    CallB K (PySem.W.fnOf x qual params body scope (.ref T) kV doc pm an cdv ct) ps n ks idx dvs :=
  ⟨its, rd, fun s us ws X l1 l2 => BindsTo.of_looks fun M => by
    obtain ⟨k, e1, e2⟩ := h us ws l1 l2
    rw [e1]
    exact looks_items X lT oT (.of_pure e2)⟩
theorem callB_n {K : PySem.W.Frag} {fd : FuncData} {ps ks : List Str} {n : Nat} {idx : List Nat} (h : ∀ (us ws : List Value), us.length = n → ws.length = ks.length → bindArgs fd ⟨us, ks.zip ws⟩ = pure (ps.zip (pickL idx (us ++ ws ++ [])))) : CallB K fd ps n ks idx [] :=
  ⟨[], .nil, fun s us ws X l1 l2 => .of_eq (h us ws l1 l2)⟩
/-! ### the end -/
def nilOnly (l : List D) (g : En → SR) : En → SR := fun e => match l with
  | [] => g e
  | _ => .bad
theorem suite_of {G : Gm} {catch? : Nat → Option Bool} {ts : Addr → Value → Option Addr → TS} {h : Nat → En → SR} (k : ∀ c a, catch? c = some true → DSt (G.at_ a) W0 (ts a (.ref (G.ca c)) none) (h c)) :
    ∀ (c : Nat) (l : List D) (a : Addr) (x : Option Addr) (t : Hs), catch? c = some true → ExcOk G t c l x → ∀ (s : Hs) (σ : L2.St) (e : DE) (st : Sto), EnvOk (G.at_ a) s t σ e → StOk (G.at_ a) t st → ∀ N : Ends, SPost (G.at_ a) W0 s t N (nilOnly l (h c) ⟨e, st⟩) → ts a (.ref (G.ca c)) x N σ t.h := by
  intro c l a x t hc ox s σ e st E ks N post
  rcases ox with ⟨rfl, rfl⟩ | ⟨da, xs, rfl, hl, _⟩
  · exact k c a hc s t σ e st E ks N post
  · cases l with
    | nil => exact absurd rfl hl
    | cons d l => exact post.elim
theorem s_tryN {G : Gm} {W : WX} {i : Nat} {C : Value} {tb : WX → TS} {ts : Addr → Value → Option Addr → TS} {catch? : Nat → Option Bool} {g : En → SR} {h : Nat → En → SR} (hb : ∀ W, DSt G W (tb W) g)
    (hc : ∀ c b, catch? c = some b → PySem.W.exmOne G.K (.ref (G.ca c)) C = some b)
    (k : ∀ c a, catch? c = some true → ∀ cls d, cls = .ref (G.ca c) → d = none → DSt (G.at_ a) W0 (ts a cls d) (h c)) :
    DSt G W (fun N σ H => tb (wAs G.K C i ts W N) N σ H) (sTryAs i catch? g (fun c l => nilOnly l (h c))) := s_tryAs hb hc (suite_of fun c a hc => k c a hc _ _ rfl rfl)
def spLaw (K : PySem.W.Frag) : Sp := fun vs H Q _ => ∃ (a : Addr) (ns : List Int), vs = [.ref a] ∧ SqL K H a (ns.map V.int) ∧ ns.length ≤ 63 ∧ (∀ z ∈ ns, Builtin.Int.intBits z ≤ 1048576) ∧ ∀ H', Q (.bl true) H'
/-- what a law is to give: True, whatever the store holds then -/
def Yes (r : ER) : Prop := ∃ st, r = .val .P (.bl true) st
theorem law_imp {G : Gm} {F : List D → Sto → ER} (hG : G.tb = []) (hF : ∀ ns : List Int, ns.length ≤ 63 → (∀ z ∈ ns, Builtin.Int.intBits z ≤ 1048576) → Yes (F [.scr ns] [])) (vs : List V) (H : Hp) (Q : VK) (E : XK) (h : spLaw G.K vs H Q E) (hE : G.ed = none := by rfl) : spF G F vs H Q E := by
  obtain ⟨a, ns, rfl, hS, h1, h2, k⟩ := h
  obtain ⟨st, hF⟩ := hF ns h1 h2
  refine ⟨⟨[], H, H⟩, [.scr ns], [], rfl, ⟨Same.refl _, rfl, List.nodup_nil, fun n a o h => by simp at h, fun x m => by simp at m, fun n P h => by rw [hG] at h; simp at h, fun da h => by rw [hE] at h; cases h⟩, .cons (.scr hS) .nil, ?_⟩
  rw [hF]
  intro t v g k' o
  cases o
  exact k t.h
theorem walkL {k : Nat} (hk : Room k callerA) {l : PySem.W.OpenLaw} {q : Program} {loose : List Str} {XP : (Str → Option Value) → Heap → Prop} {YP : World → Heap → Prop} {d : DefRec} {K : Params → PySem.W.Frag} {x : Str} (hn : l.most = some 63) (hdf : d.params.defaults = [])
    (hY : ∀ (w : World) (h : Heap), YP w h → (K w.params).In h)
    (F : ∀ (w : World) (mg : Str → Option Value) (fa : Addr) (h : Heap), (K w.params).In h → h.Ns mainGlobals mg → mg d.name = some (.ref fa) →
      ∃ fd : FuncData, (∀ (s : Shared) (u : Value), BindsTo s fd ⟨[u], []⟩ [(x, u)]) ∧ ∀ base : Heap, (K w.params).In base → base.Ns mainGlobals mg → FnOk l.prog w (K w.params) mg base (L2.CX l.prog w) k fa fd [x] (spLaw (K w.params))) :
    PySem.W.WalkO q loose XP YP l.row.toRowW d [] (fun f vs => PySem.call f vs) :=
  L2.walk_ofB (n := 63) (k := k) (x := x) (CX := fun w => L2.CX l.prog w) (sp := fun w => spLaw (K w.params)) hn (by decide) hdf hk hY F (fun _ _ a ns hl hb _ hS => ⟨a, ns, rfl, hS, hl, hb, fun _ => rfl⟩) fun w H s e s' h => by
    obtain ⟨_, _, _, _, _, _, _, _, _, _, _, _, z⟩ := h
    exact z.elim
end Dn
namespace Dn
open PySem PySem.Spec PyProof.Rows L2
section
variable {G : Gm} {W : WX}
/-! ### methods that change a list -/
def DMt (G : Gm) (r : V → List V → Hp → VK → Prop) (op : List D → List D → Option (D × List D)) : Prop :=
  ∀ (s : Hs) (p : Addr) (vs : List V) (l : List D) (xs : List V) (ds : List D) (o : D × List D), s.h p = some (.lst vs) → IsL G s.as s.f vs l → IsL G s.as s.f xs ds → op l ds = some o →
    ∃ v vs', Is G s.as s.f v o.1 ∧ IsL G s.as s.f vs' o.2 ∧ ∀ Q : VK, Q v (upd s.h p (.lst vs')) → r (.ref p) xs s.h Q
def mAppend (l ds : List D) : Option (D × List D) := match ds with
  | [d] => if l.length < 1000000 then some (.non, l ++ [d]) else none
  | _ => none
def mInsert (l ds : List D) : Option (D × List D) := match ds with
  | [.int i, d] => if l.length < 1000000 ∧ 0 ≤ i ∧ i < 2 ^ 63 then some (.non, l.take i.toNat ++ [d] ++ l.drop i.toNat) else none
  | _ => none
def mPop (l ds : List D) : Option (D × List D) := match ds with
  | [] => (match l[l.length - 1]? with | some d => some (d, l.dropLast) | none => none)
  | _ => none
def mPopAt (l ds : List D) : Option (D × List D) := match ds with
  | [.int i] => if -(2 ^ 63) ≤ i ∧ i < 2 ^ 63 then (match seqIndex? i l.length with
    | some k => (match l[k]? with | some d => some (d, l.eraseIdx k) | none => none)
    | none => none) else none
  | _ => none
def mReverse (l ds : List D) : Option (D × List D) := match ds with
  | [] => some (.non, l.reverse)
  | _ => none
theorem m_append : DMt G rAppend mAppend := by
  intro s p vs l xs ds o hp il ix ho
  unfold mAppend at ho
  split at ho
  · rename_i d
    split at ho
    · rename_i hl
      cases ho
      cases ix with
      | cons a b => cases b; exact ⟨.non, _, .non, il.append (.one a), fun Q q => ⟨p, vs, _, rfl, rfl, hp, by rw [il.len]; exact szlt hl, q⟩⟩
    · cases ho
  · cases ho
abbrev rInsert : V → List V → Hp → VK → Prop := fun x vs H Q => ∃ (l : Addr) (xs : List V) (i : Int) (y : V), x = .ref l ∧ vs = [.int i, y] ∧ H l = some (.lst xs) ∧ xs.length < sizeLine ∧ 0 ≤ i ∧ i < 2 ^ 63 ∧
    Q .non (upd H l (.lst (xs.take i.toNat ++ [y] ++ xs.drop i.toNat)))
theorem m_insert : DMt G rInsert mInsert := by
  intro s p vs l xs ds o hp il ix ho
  unfold mInsert at ho
  split at ho
  · rename_i i d
    split at ho
    · rename_i hl
      cases ho
      cases ix with
      | cons a b =>
        cases b with
        | cons b c =>
          cases c
          cases a
          exact ⟨.non, _, .non, ((il.take _).append (.one b)).append (il.drop _), fun Q q => ⟨p, vs, i, _, rfl, rfl, hp, by rw [il.len]; exact szlt hl.1, hl.2.1, hl.2.2, q⟩⟩
    · cases ho
  · cases ho
theorem IsL.dropLast {as : List Addr} {H : Hp} {ds : List D} {vs : List V} (h : IsL G as H vs ds) : IsL G as H vs.dropLast ds.dropLast := by
  rw [List.dropLast_eq_take, List.dropLast_eq_take, h.len]
  exact h.take _
theorem m_pop : DMt G rPop mPop := by
  intro s p vs l xs ds o hp il ix ho
  unfold mPop at ho
  split at ho
  · split at ho
    · rename_i d hd
      cases ho
      cases ix
      obtain ⟨v, h1, h2⟩ := il.get hd
      exact ⟨v, _, h2, il.dropLast, fun Q q => ⟨p, vs, v, rfl, rfl, hp, by rw [il.len]; exact h1, q⟩⟩
    · cases ho
  · cases ho
theorem m_popAt : DMt G rPopAt mPopAt := by
  intro s p vs l xs ds o hp il ix ho
  unfold mPopAt at ho
  split at ho
  · rename_i i
    split at ho
    · rename_i hi
      split at ho
      · rename_i k hk
        split at ho
        · rename_i d hd
          cases ho
          cases ix with
          | cons a b =>
            cases b
            cases a
            obtain ⟨v, h1, h2⟩ := il.get hd
            exact ⟨v, _, h2, il.eraseIdx k, fun Q q => ⟨p, vs, i, k, v, rfl, rfl, hp, hi.1, hi.2, by rw [il.len]; exact hk, h1, q⟩⟩
        · cases ho
      · cases ho
    · cases ho
  · cases ho
theorem m_reverse : DMt G rReverse mReverse := by
  intro s p vs l xs ds o hp il ix ho
  unfold mReverse at ho
  split at ho
  · cases ho
    cases ix
    exact ⟨.non, _, .non, il.reverse, fun Q q => ⟨p, vs, rfl, rfl, hp, q⟩⟩
  · cases ho
/-- of a list of the store -/
def dMtP (op : List D → List D → Option (D × List D)) (fb : En → ER) (fa : En → AR) : En → ER := fun E => match fb E with
  | .val _ (.ptr n) st => (match stLst st n with
    | some _ => (match fa ⟨E.e, st⟩ with
      | .ok true ds st1 => (match stLst st1 n with
        | some l => (match op l ds with | some o => .val .P o.1 (st1.set n (.lst o.2)) | none => .bad)
        | none => .bad)
      | .exc c l st => .exc c l st
      | _ => .bad)
    | none => .bad)
  | .exc c l st => .exc c l st
  | _ => .bad
theorem mt_end {r : V → List V → Hp → VK → Prop} {op : List D → List D → Option (D × List D)} (hm : DMt G r op) {t : Hs} {st : Sto} {n : Nat} {p : Addr} {xs : List V} {ds l : List D} {o : D × List D} (k : StOk G t st) (hp : t.as[n]? = some p) (hl : stLst st n = some l) (ix : IsL G t.as t.f xs ds) (ho : op l ds = some o) {σ : L2.St} {Q : VK}
    (post : RPost G W t σ Q (.val .P o.1 (st.set n (.lst o.2)))) : r (.ref p) xs t.h Q := by
  obtain ⟨vs, hh, il⟩ := k.lst hp hl
  obtain ⟨v, vs', h1, h2, h3⟩ := hm t p vs l xs ds o hh il ix ho
  exact h3 Q (post ⟨t.as, t.f, upd t.h p (.lst vs')⟩ v (Gro.mod (Gro.refl k) k hp) (k.mod hp ⟨vs', upd_same, h2⟩) h1)
theorem v_mtP {r : V → List V → Hp → VK → Prop} {op : List D → List D → Option (D × List D)} {tb : TE} {ta : TA} {fb : En → ER} {fa : En → AR} (hm : DMt G r op) (hb : DEv G W tb fb) (ha : DAr G W ta fa) : DEv G W (tBM G.K "list" r tb ta) (dMtP op fb fa) := by
  intro s t σ e st E k Q post
  unfold dMtP at post
  refine hb s t σ e st E k _ ?_
  cases q : fb ⟨e, st⟩ with
  | val m d st1 =>
    rw [q] at post
    cases d <;> first | exact post.elim | skip
    rename_i n
    cases hl : stLst st1 n with
    | none => simp only [hl] at post; exact post.elim
    | some l0 =>
      simp only [hl] at post
      intro t1 v g1 k1 o1
      obtain ⟨p, rfl, hp⟩ := o1.u.ptr
      obtain ⟨vs, hh, _⟩ := k1.lst hp hl
      refine ⟨.inl ⟨rfl, vs, SqL.of hh⟩, ha s t1 σ e st1 (E.up g1) k1 _ ?_⟩
      cases q2 : fa ⟨e, st1⟩ with
      | ok b ds st2 =>
        rw [q2] at post
        cases b with
        | false => exact post.elim
        | true =>
          intro t2 xs g2 k2 i2 _
          cases hl2 : stLst st2 n with
          | none => simp only [hl2] at post; exact post.elim
          | some l =>
            simp only [hl2] at post
            cases ho : op l ds with
            | none => simp only [ho] at post; exact post.elim
            | some o =>
              simp only [ho] at post
              exact mt_end hm k2 (g2.a n p hp) hl2 (i2 rfl) ho (RPost.step (g1.trans g2) k2 post)
      | exc c l st2 => rw [q2] at post; exact fun t' x g' => post t' x (g1.trans g')
      | bad => rw [q2] at post; exact post
  | exc c l st1 => rw [q] at post; exact post
  | bad => rw [q] at post; exact post
theorem v_mtP0 {r : V → List V → Hp → VK → Prop} {op : List D → List D → Option (D × List D)} {tb : TE} {fb : En → ER} (hm : DMt G r op) (hb : DEv G W tb fb) : DEv G W (tBM0 G.K "list" r tb) (dMtP op fb aNil) := by
  intro s t σ e st E k Q post
  have h := v_mtP hm hb (a_nil (G := G) (W := W)) s t σ e st E k Q post
  exact h
/-- of an own list, a statement; the value goes to the slot j, or nowhere -/
def putAt (j : Option Nat) (d : D) (e : DE) : DE := match j with
  | some j => e.set j (.val d)
  | none => e
def sMtO (j : Option Nat) (op : List D → List D → Option (D × List D)) (i : Nat) (fa : En → AR) : En → SR := fun E => match E.e[i]? with
  | some (.own l) => (match fa E with
    | .ok true ds st1 => (match op l ds with | some o => .nx ⟨putAt j o.1 (E.e.set i (.own o.2)), st1⟩ | none => .bad)
    | .exc c l st => .exc c l ⟨E.e, st⟩
    | _ => .bad)
  | _ => .bad
theorem mtO_run {r : V → List V → Hp → VK → Prop} {op : List D → List D → Option (D × List D)} {ta : TA} {fa : En → AR} {i : Nat} (hm : DMt G r op) (ha : DAr G W ta fa) {s t : Hs} {σ : L2.St} {e : DE} {st : Sto} {l : List D} (E : EnvOk G s t σ e) (k : StOk G t st) (hx : e[i]? = some (.own l)) {N : Ends} {Q : VK} {j : Option Nat}
    (post : SPost G W s t N (match fa ⟨e, st⟩ with
      | .ok true ds st1 => (match op l ds with | some o => .nx ⟨putAt j o.1 (e.set i (.own o.2)), st1⟩ | none => .bad)
      | .exc c l st => .exc c l ⟨e, st⟩
      | _ => .bad))
    (fin : ∀ t' v d st1 l', Up t t' → EnvOk G s t' σ (e.set i (.own l')) → StOk G t' st1 → Is G t'.as t'.f v d → SPost G W s t N (.nx ⟨putAt j d (e.set i (.own l')), st1⟩) → Q v t'.h) : tBM G.K "list" r (tVar i) ta σ t.h Q := by
  obtain ⟨o, hσ, p, vs, rfl, p0, pf, ph, pl, pa⟩ := E.slot hx
  refine ⟨_, hσ, .inl ⟨rfl, vs, SqL.of ph⟩, ha s t σ e st E k _ ?_⟩
  cases q2 : fa ⟨e, st⟩ with
  | ok b ds st2 =>
    rw [q2] at post
    cases b with
    | false => exact post.elim
    | true =>
      intro t2 xs g2 k2 i2 _
      cases ho : op l ds with
      | none => simp only [ho] at post; exact post.elim
      | some o =>
        simp only [ho] at post
        have hp' : t2.h p = some (.lst vs) := g2.h _ _ ph pa
        have hf' : t2.f p = none := g2.n _ _ ph pf
        have ha' : p ∉ t2.as := fun m => (g2.w p m).elim pa fun z => by rw [ph] at z; cases z
        obtain ⟨v, vs', h1, h2, h3⟩ := hm t2 p vs l xs ds o hp' (pl.up g2.a g2.f) (i2 rfl) ho
        exact h3 _ (fin ⟨t2.as, t2.f, upd t2.h p (.lst vs')⟩ v o.1 st2 o.2 ⟨g2.a, g2.f⟩ ((E.up g2).chg hσ hx p0 hf' h2 ha') (k2.chg hf' ha') h1 post)
  | exc c l st2 => rw [q2] at post; exact fun t' x g' k' o => post t' σ x g'.up (E.up g') k' o
  | bad => rw [q2] at post; exact post
theorem s_mtO {r : V → List V → Hp → VK → Prop} {op : List D → List D → Option (D × List D)} {ta : TA} {fa : En → AR} {i : Nat} (hm : DMt G r op) (ha : DAr G W ta fa) : DSt G W (tDrop (tBM G.K "list" r (tVar i) ta)) (sMtO none op i fa) := by
  intro s t σ e st E k N post
  unfold sMtO at post
  split at post
  · rename_i l hx
    exact mtO_run hm ha E k hx post fun t' v d st1 l' u E' k' _ p => p t' σ u E' k'
  · exact post.elim
theorem s_mtOA {r : V → List V → Hp → VK → Prop} {op : List D → List D → Option (D × List D)} {ta : TA} {fa : En → AR} {i j : Nat} (hm : DMt G r op) (ha : DAr G W ta fa) : DSt G W (tAsg (tBM G.K "list" r (tVar i) ta) (gName j)) (sMtO (some j) op i fa) := by
  intro s t σ e st E k N post
  unfold sMtO at post
  split at post
  · rename_i l hx
    exact mtO_run hm ha E k hx post fun t' v d st1 l' u E' k' iv p => p t' _ u (E'.set (x := .val d) ⟨v, rfl, iv⟩ (fun l z => nomatch z)) k'
  · exact post.elim
/-- as a statement, of whichever list -/
def sMt (op : List D → List D → Option (D × List D)) (i : Nat) (fa : En → AR) : En → SR := fun E => match E.e[i]? with
  | some (.own _) => sMtO none op i fa E
  | _ => sDrop (dMtP op (dVar i) fa) E
theorem s_mt {r : V → List V → Hp → VK → Prop} {op : List D → List D → Option (D × List D)} {ta : TA} {fa : En → AR} {i : Nat} (hm : DMt G r op) (ha : DAr G W ta fa) : DSt G W (tDrop (tBM G.K "list" r (tVar i) ta)) (sMt op i fa) := by
  intro s t σ e st E k N post
  unfold sMt at post
  split at post
  · exact s_mtO hm ha s t σ e st E k N post
  · exact s_drop (v_mtP hm v_var ha) s t σ e st E k N post
theorem s_mt0 {r : V → List V → Hp → VK → Prop} {op : List D → List D → Option (D × List D)} {i : Nat} (hm : DMt G r op) : DSt G W (tDrop (tBM0 G.K "list" r (tVar i))) (sMt op i aNil) := by
  intro s t σ e st E k N post
  exact s_mt hm a_nil s t σ e st E k N post
def sMtA (j : Nat) (op : List D → List D → Option (D × List D)) (i : Nat) (fa : En → AR) : En → SR := fun E => match E.e[i]? with
  | some (.own _) => sMtO (some j) op i fa E
  | _ => sSetF j (dMtP op (dVar i) fa) E
theorem s_mtA {r : V → List V → Hp → VK → Prop} {op : List D → List D → Option (D × List D)} {ta : TA} {fa : En → AR} {i j : Nat} (hm : DMt G r op) (ha : DAr G W ta fa) : DSt G W (tAsg (tBM G.K "list" r (tVar i) ta) (gName j)) (sMtA j op i fa) := by
  intro s t σ e st E k N post
  unfold sMtA at post
  split at post
  · exact s_mtOA hm ha s t σ e st E k N post
  · exact s_setF (v_mtP hm v_var ha) s t σ e st E k N post
theorem s_mtA0 {r : V → List V → Hp → VK → Prop} {op : List D → List D → Option (D × List D)} {i j : Nat} (hm : DMt G r op) : DSt G W (tAsg (tBM0 G.K "list" r (tVar i)) (gName j)) (sMtA j op i aNil) := by
  intro s t σ e st E k N post
  exact s_mtA hm a_nil s t σ e st E k N post
end
end Dn
namespace Dn
open PySem PySem.Spec PyProof.Rows L2
/-! ### instances: they lie in the store -/
def stIns (st : Sto) (n : Nat) : Option (Nat × List D) := match st[n]? with
  | some (.ins c l) => some (c, l)
  | _ => none
section
variable {G : Gm} {W : WX}
theorem StOk.ins {s : Hs} {st : Sto} {n c : Nat} {l : List D} {p : Addr} (k : StOk G s st) (ha : s.as[n]? = some p) (h : stIns st n = some (c, l)) : ∃ dx vs, s.h p = some (.ins (G.ca c) dx ((G.fn c).zip vs)) ∧ vs.length ≤ (G.fn c).length ∧ IsL G s.as s.f vs l := by
  unfold stIns at h
  split at h
  · rename_i c' l' q
    cases h
    exact k.ob n p _ ha q
  · cases h
/-- a field's name and place in the classes -/
structure FldOk (G : Gm) (f : Str) (ix : Nat → Option Nat) : Prop where
  ok : ∀ c i, ix c = some i → (G.fn c)[i]? = some f ∧ (G.fn c).Nodup ∧ (G.fn c).length < 1000 ∧ Cls G.K (G.ca c) ∧ NoAttr G.K (G.ca c) f
theorem zip_lookup {f : Str} : ∀ {ns : List Str} {vs : List V} {i : Nat} {v : V}, ns.Nodup → ns[i]? = some f → vs[i]? = some v → (ns.zip vs).lookup f = some v
  | [], _, _, _, _, h, _ => by simp at h
  | n :: ns, [], _, _, _, _, h => by simp at h
  | n :: ns, w :: vs, 0, v, _, h1, h2 => by
    simp at h1 h2
    subst h1; subst h2
    simp [List.zip_cons_cons, List.lookup]
  | n :: ns, w :: vs, i + 1, v, hn, h1, h2 => by
    have hn' := List.nodup_cons.mp hn
    have h1' : ns[i]? = some f := by simpa using h1
    have h2' : vs[i]? = some v := by simpa using h2
    have ne : f ≠ n := fun z => hn'.1 (z ▸ List.mem_of_getElem? h1')
    have : (f == n) = false := by simpa using ne
    simp only [List.zip_cons_cons, List.lookup, this]
    exact zip_lookup hn'.2 h1' h2'
theorem zip_no {f : Str} : ∀ {ns : List Str} (vs : List V), f ∉ ns → (ns.zip vs).lookup f = none
  | [], _, _ => rfl
  | n :: ns, [], _ => rfl
  | n :: ns, w :: vs, h => by
    have h' : f ≠ n ∧ f ∉ ns := by simpa using h
    have : (f == n) = false := by simpa using h'.1
    simp only [List.zip_cons_cons, List.lookup, this]
    exact zip_no vs h'.2
/-- how a field is put -/
def putI (i : Nat) (d : D) (l : List D) : Option (List D) := if i < l.length then some (l.set i d) else if i = l.length then some (l ++ [d]) else none
theorem zip_put {f : Str} {z : V} : ∀ {ns : List Str} {vs : List V} {i : Nat}, ns.Nodup → ns[i]? = some f → i ≤ vs.length → putF f z (ns.zip vs) = ns.zip (if i < vs.length then vs.set i z else vs ++ [z])
  | [], _, _, _, h, _ => by simp at h
  | n :: ns, [], i, _, h1, h2 => by
    have : i = 0 := by simpa using h2
    subst this
    simp at h1
    subst h1
    simp [putF]
  | n :: ns, w :: vs, 0, _, h1, _ => by
    simp at h1
    subst h1
    simp [putF, List.zip_cons_cons]
  | n :: ns, w :: vs, i + 1, hn, h1, h2 => by
    have hn' := List.nodup_cons.mp hn
    have h1' : ns[i]? = some f := by simpa using h1
    have ne : n ≠ f := fun z => hn'.1 (z ▸ List.mem_of_getElem? h1')
    have ih := zip_put (z := z) hn'.2 h1' (vs := vs) (by simpa using h2)
    simp only [List.zip_cons_cons, putF, if_neg ne, ih]
    by_cases c : i < vs.length
    · simp [c]
    · simp [c]
/-- e.f -/
def dFld (ix : Nat → Option Nat) (fe : En → ER) : En → ER := fun E => (fe E).bind fun x st => match x with
  | .ptr n => (match stIns st n with
    | some (c, l) => (match ix c with
      | some i => ofOpt l[i]? fun d => .val .P d st
      | none => .bad)
    | none => .bad)
  | _ => .bad
theorem v_fld {f : Str} {ix : Nat → Option Nat} {te : TE} {fe : En → ER} (hf : FldOk G f ix) (he : DEv G W te fe) : DEv G W (tFld G.K te f) (dFld ix fe) := by
  intro s t σ e st E k Q post
  refine he s t σ e st E k _ (RPost.bind post fun m d st1 t1 v g1 k1 o1 p1 => ?_)
  cases d <;> first | exact p1.elim | skip
  rename_i n
  obtain ⟨p, rfl, hp⟩ := o1.u.ptr
  cases hi : stIns st1 n with
  | none => simp only [hi] at p1; exact p1.elim
  | some cl =>
    obtain ⟨c, l⟩ := cl
    simp only [hi] at p1
    cases hx : ix c with
    | none => simp only [hx] at p1; exact p1.elim
    | some i =>
      simp only [hx] at p1
      obtain ⟨d, hd, p1⟩ := RPost.opt _ _ p1
      obtain ⟨dx, vs, hh, hl, il⟩ := k1.ins hp hi
      obtain ⟨v, h1, h2⟩ := il.get hd
      obtain ⟨fi, fnd, _, fc, fa⟩ := hf.ok c i hx
      exact ⟨p, _, dx, _, v, rfl, hh, fc, fa, zip_lookup fnd fi h1, p1.now k1 h2⟩
/-- o.f = e -/
def sFldS (ix : Nat → Option Nat) (fo fe : En → ER) : En → SR := fun E => match fe E with
  | .val .B _ _ => .bad
  | .val _ d st => (match fo ⟨E.e, st⟩ with
    | .val _ (.ptr n) st1 => (match stIns st1 n with
      | some (c, l) => (match ix c with
        | some i => (match putI i d l with
          | some l' => .nx ⟨E.e, st1.set n (.ins c l')⟩
          | none => .bad)
        | none => .bad)
      | none => .bad)
    | .exc c l st => .exc c l ⟨E.e, st⟩
    | _ => .bad)
  | .exc c l st => .exc c l ⟨E.e, st⟩
  | .bad => .bad
theorem s_fldS {f : Str} {ix : Nat → Option Nat} {to te : TE} {fo fe : En → ER} (hf : FldOk G f ix) (ho : DEv G W to fo) (he : DEv G W te fe) : DSt G W (sFld G.K to te f) (sFldS ix fo fe) := by
  intro s t σ e st E k N post
  unfold sFldS at post
  refine ev_st (N := N) he E k (fun c l st1 q => by rw [q] at post; exact post) (fun q => by rw [q] at post; exact post) fun m d st1 q t1 v g1 k1 o1 => ?_
  rw [q] at post
  have fin : ∀ f2, Gro t ⟨t1.as, f2, t1.h⟩ → StOk G ⟨t1.as, f2, t1.h⟩ st1 → Is G t1.as f2 v d → SPost G W s t N (match fo ⟨e, st1⟩ with
    | .val _ (.ptr n) st1 => (match stIns st1 n with
      | some (c, l) => (match ix c with
        | some i => (match putI i d l with
          | some l' => .nx ⟨e, st1.set n (.ins c l')⟩
          | none => .bad)
        | none => .bad)
      | none => .bad)
    | .exc c l st => .exc c l ⟨e, st⟩
    | _ => .bad) → to σ t1.h fun x H2 => ∃ a C dx fs, x = .ref a ∧ H2 a = some (.ins C dx fs) ∧ Cls G.K C ∧ NoAttr G.K C f ∧ fs.length < 1000 ∧ N.nx σ (upd H2 a (.ins C dx (putF f v fs))) := fun f2 g2 k2 i2 post => by
    refine ev_st (N := N) ho (E.up g2) k2 (fun c l st3 q3 => ?_) (fun q3 => ?_) fun mb db st3 q3 t3 b g3 k3 o3 => ?_
    · rw [q3] at post; exact SPost.mono g2.up post
    · rw [q3] at post; exact post
    · rw [q3] at post
      cases db <;> try exact post.elim
      rename_i n
      obtain ⟨p, rfl, hp⟩ := o3.u.ptr
      have g23 := g2.trans g3
      cases hi : stIns st3 n with
      | none => simp only [hi] at post; exact post.elim
      | some cl =>
        obtain ⟨c, l⟩ := cl
        simp only [hi] at post
        cases hx : ix c with
        | none => simp only [hx] at post; exact post.elim
        | some i =>
          simp only [hx] at post
          cases hu : putI i d l with
          | none => simp only [hu] at post; exact post.elim
          | some l' =>
            simp only [hu] at post
            obtain ⟨dx, vs, hh, hl, il⟩ := k3.ins hp hi
            obtain ⟨fi, fnd, flen, fc, fa⟩ := hf.ok c i hx
            have ile := il.len
            have hik : i ≤ vs.length := by
              rw [ile]
              unfold putI at hu
              split at hu
              · omega
              · split at hu
                · omega
                · cases hu
            refine ⟨p, _, dx, _, rfl, hh, fc, fa, by rw [List.length_zip]; omega, ?_⟩
            rw [zip_put fnd fi hik]
            have iv := i2.up g3.a g3.f
            have il' : IsL G t3.as t3.f (if i < vs.length then vs.set i v else vs ++ [v]) l' := by
              unfold putI at hu
              rw [ile]
              split at hu
              · rename_i c1
                cases hu
                rw [if_pos c1]; exact il.set iv i
              · rename_i c1
                split at hu
                · cases hu; rw [if_neg c1]; exact il.append (.one iv)
                · cases hu
            have hlen : (if i < vs.length then vs.set i v else vs ++ [v]).length ≤ (G.fn c).length := by
              have : i < (G.fn c).length := (List.getElem?_eq_some_iff.mp fi).1
              split
              · simpa using hl
              · simp; omega
            exact post ⟨t3.as, t3.f, upd t3.h p (.ins (G.ca c) dx ((G.fn c).zip _))⟩ σ ⟨g23.a, g23.f⟩ ((E.up g23).modS k3 hp) (k3.mod hp ⟨dx, _, upd_same, hlen, il'⟩)
  cases m with
  | P => exact fin t1.f g1 k1 o1 post
  | B => exact post.elim
  | N =>
    obtain ⟨f2, g2, k2, _, i2⟩ := o1.freeze g1 k1 (by decide)
    exact fin f2 g2 k2 i2 post
end
/-! ### methods -/
def tMethG (C : Addr) (m : Str) (n r : Nat) (idx : List Nat) (dvs : List V) (sp : Sp) (E : L2.St → XK) (ta : TE) (t tk : TA) : TE := fun σ H Q => ta σ H fun x H1 => ∃ a dx fs, x = .ref a ∧ H1 a = some (.ins C dx fs) ∧ fs.lookup m = none ∧
  t σ H1 fun vs H2 => tk σ H2 fun zs H3 => (x :: vs).length = n ∧ zs.length = r ∧ sp (pickL idx ((x :: vs) ++ zs ++ dvs)) H3 Q (E σ)
section
variable {X : Cx} {CX : CXT} {k n : Nat} {f C : Addr} {fd : FuncData} {ps ks : List Str} {idx : List Nat} {dvs : List V} {sp : Sp} {E : L2.St → XK} {x m : Str} {p pos apos : Pos} {o e : Expr} {es : List Expr} {kws : List Keyword} {ta : TE} {t tk : TA}
/-- o.m(e, ..) -/
theorem pe_mN {pl : Sem Bool} (he : PE X o ta) (c : Cls X.K C) (hm : Meth X.K C m f) (F : FnOk X.prog X.w X.K X.mg X.base CX k f fd ps sp) (hr : Room k X.A) (hb : CallB X.K fd ps n [] idx dvs) (hx : ∀ σ, PassesAt CX X σ (E σ)) (ha : PA X (e :: es) t)
    (hst : starEach (e :: es) X.env = (false, eval e X.env) :: starEach es X.env := by rfl) (hpl : (backTo pos (starEach es X.env)).any (·.1) = false := by rfl)
    (ht : eval (.Call (.Attribute o m apos) (e :: es) [] pos) X.env = (do
      let ov ← eval o X.env
      standAt apos.atName
      let (f, first) ← holding [ov] (getMethod ov m pl)
      callWith pos f first (backTo pos (starEach (e :: es) X.env)) (backToKw pos (keywordEach [] X.env))) := by rfl) :
    PE X (.Call (.Attribute o m apos) (e :: es) [] pos) (tMethG C m n 0 idx dvs sp E ta t tNil) := by
  refine ⟨fun pins s σ H Q I h => ?_⟩
  refine PySem.W.methodCall_KW (pl := pl) (thn (he.run pins s σ H _ I h) fun u s1 ⟨x, H1, I1, rx, a, dx, fs, ex, ea, l, q⟩ => ?_) ht
  subst ex
  obtain rfl : u = Value.ref a := rx
  refine getmeth_ok I1 ea c hm l ?_
  refine PySem.W.callWith_K (first := [.ref a]) (h₀ := X.base) I.ok.mod.kin hm.kp (thn (ha.run pos pins s1 σ H1 _ I1 q) fun us s2 ⟨vs, H2, I2, r, l1, l2, q2⟩ => ⟨I2.kIn, ?_⟩) hst hpl
  exact run_fnG (us := .ref a :: us) (vs := .ref a :: vs) (ks := []) (ws := []) (zs := []) F hr hb (hx σ) I2 (.cons rfl r) .nil l1 rfl q2
/-- o.m() -/
theorem pe_m0 {pl : Sem Bool} (he : PE X o ta) (c : Cls X.K C) (hm : Meth X.K C m f) (F : FnOk X.prog X.w X.K X.mg X.base CX k f fd ps sp) (hr : Room k X.A) (hb : CallB X.K fd ps n [] idx dvs) (hx : ∀ σ, PassesAt CX X σ (E σ))
    (ht : eval (.Call (.Attribute o m apos) [] [] pos) X.env = (do
      let ov ← eval o X.env
      standAt apos.atName
      let (f, first) ← holding [ov] (getMethod ov m pl)
      callWith pos f first (backTo pos (starEach [] X.env)) (backToKw pos (keywordEach [] X.env))) := by rfl) :
    PE X (.Call (.Attribute o m apos) [] [] pos) (tMethG C m n 0 idx dvs sp E ta tNil tNil) := by
  refine ⟨fun pins s σ H Q I h => ?_⟩
  refine PySem.W.methodCall_KW (pl := pl) (thn (he.run pins s σ H _ I h) fun u s1 ⟨x, H1, I1, rx, a, dx, fs, ex, ea, l, q⟩ => ?_) ht
  subst ex
  obtain rfl : u = Value.ref a := rx
  refine getmeth_ok I1 ea c hm l ?_
  obtain ⟨l1, l2, q⟩ := q
  exact PySem.W.callWith_K0 (first := [.ref a]) I1.kIn hm.kp (run_fnG (us := [.ref a]) (vs := [.ref a]) (ks := []) (ws := []) (zs := []) F hr hb (hx σ) I1 (.cons rfl .nil) .nil l1 rfl q)
/-- o.m(e, .., k = v) -/
theorem pe_mK {pl : Sem Bool} {r : Nat} (he : PE X o ta) (c : Cls X.K C) (hm : Meth X.K C m f) (F : FnOk X.prog X.w X.K X.mg X.base CX k f fd ps sp) (hr : Room k X.A) (hb : CallB X.K fd ps n ks idx dvs) (hx : ∀ σ, PassesAt CX X σ (E σ)) (ha : PA X (e :: es) t) (hkw : PK X kws tk)
    (hall : (backToKw pos (keywordEach kws X.env)).all (·.1.isSome) = true := by rfl) (hks : (backToKw pos (keywordEach kws X.env)).filterMap (·.1) = ks := by rfl)
    (hst : starEach (e :: es) X.env = (false, eval e X.env) :: starEach es X.env := by rfl) (hpl : ((backTo pos (starEach (e :: es) X.env)).any (·.1) || (backToKw pos (keywordEach kws X.env)).any (·.1.isNone)) = false := by rfl)
    (ht : eval (.Call (.Attribute o m apos) (e :: es) kws pos) X.env = (do
      let ov ← eval o X.env
      standAt apos.atName
      let (f, first) ← holding [ov] (getMethod ov m pl)
      callWith pos f first (backTo pos (starEach (e :: es) X.env)) (backToKw pos (keywordEach kws X.env))) := by rfl) (hm2 : ks.length = r := by rfl) :
    PE X (.Call (.Attribute o m apos) (e :: es) kws pos) (tMethG C m n r idx dvs sp E ta t tk) := by
  subst hm2
  refine ⟨fun pins s σ H Q I h => ?_⟩
  refine PySem.W.methodCall_KW (pl := pl) (thn (he.run pins s σ H _ I h) fun u s1 ⟨x, H1, I1, rx, a, dx, fs, ex, ea, l, q⟩ => ?_) ht
  subst ex
  obtain rfl : u = Value.ref a := rx
  refine getmeth_ok I1 ea c hm l ?_
  refine PySem.W.callWith_KW (first := [.ref a]) (h₀ := X.base) I.ok.mod.kin hm.kp hall (thn (ha.run pos pins s1 σ H1 _ I1 q) fun us s2 ⟨vs, H2, I2, r, q2⟩ => ?_) hpl hst
  refine thn (hkw.run pos pins s2 σ H2 _ I2 q2) fun ws s3 ⟨zs, H3, I3, rz, l1, l2, q3⟩ => ⟨I3.kIn, ?_⟩
  rw [hks]
  exact run_fnG (us := .ref a :: us) (vs := .ref a :: vs) F hr hb (hx σ) I3 (.cons rfl r) rz l1 l2 q3
theorem pe_mK0 {pl : Sem Bool} {r : Nat} (he : PE X o ta) (c : Cls X.K C) (hm : Meth X.K C m f) (F : FnOk X.prog X.w X.K X.mg X.base CX k f fd ps sp) (hr : Room k X.A) (hb : CallB X.K fd ps n ks idx dvs) (hx : ∀ σ, PassesAt CX X σ (E σ)) (hkw : PK X kws tk)
    (hall : (backToKw pos (keywordEach kws X.env)).all (·.1.isSome) = true := by rfl) (hks : (backToKw pos (keywordEach kws X.env)).filterMap (·.1) = ks := by rfl)
    (hpl : ((backTo pos (starEach [] X.env)).any (·.1) || (backToKw pos (keywordEach kws X.env)).any (·.1.isNone)) = false := by rfl)
    (ht : eval (.Call (.Attribute o m apos) [] kws pos) X.env = (do
      let ov ← eval o X.env
      standAt apos.atName
      let (f, first) ← holding [ov] (getMethod ov m pl)
      callWith pos f first (backTo pos (starEach [] X.env)) (backToKw pos (keywordEach kws X.env))) := by rfl) (hm2 : ks.length = r := by rfl) :
    PE X (.Call (.Attribute o m apos) [] kws pos) (tMethG C m n r idx dvs sp E ta tNil tk) := by
  subst hm2
  refine ⟨fun pins s σ H Q I h => ?_⟩
  refine PySem.W.methodCall_KW (pl := pl) (thn (he.run pins s σ H _ I h) fun u s1 ⟨x, H1, I1, rx, a, dx, fs, ex, ea, l, q⟩ => ?_) ht
  subst ex
  obtain rfl : u = Value.ref a := rx
  refine getmeth_ok I1 ea c hm l ?_
  refine PySem.W.callWith_KW0 (first := [.ref a]) (h₀ := X.base) I.ok.mod.kin hm.kp hall (thn (hkw.run pos pins s1 σ H1 _ I1 q) fun ws s3 ⟨zs, H3, I3, rz, l1, l2, q3⟩ => ⟨I3.kIn, ?_⟩) hpl
  rw [hks]
  exact run_fnG (us := [.ref a]) (vs := [.ref a]) F hr hb (hx σ) I3 (.cons rfl .nil) rz l1 l2 q3
/-! ### C(..) -/
def tMakeG (C : Addr) (n r : Nat) (idx : List Nat) (dvs : List V) (sp : Sp) (E : L2.St → XK) (t tk : TA) : TE := fun σ H Q => t σ H fun vs H1 => tk σ H1 fun zs H2 => vs.length + 1 = n ∧ zs.length = r ∧ ∀ x dx, H2 x = none → H2 dx = none → dx ≠ x →
  sp (pickL idx ((.ref x :: vs) ++ zs ++ dvs)) (upd (upd H2 dx (.own x)) x (.ins C dx [])) (fun v H3 => v = .non ∧ Q (.ref x) H3) (E σ)
theorem run_makeG {pins : List (Addr × Obj)} {σ : L2.St} {H : Hp} {s : Shared} {Q : VK} {us ws : List Value} {vs zs : List V} (M : Mk X.K C f) (F : FnOk X.prog X.w X.K X.mg X.base CX k f fd ps sp) (hr : Room (k + 1) X.A) (hb : CallB X.K fd ps n ks idx dvs)
    (hx : PassesAt CX X σ (E σ)) (I : Inv X pins σ H s) (r : Vals vs us) (rz : Vals zs ws) (l1 : vs.length + 1 = n) (l2 : zs.length = ks.length)
    (h : ∀ x dx, H x = none → H dx = none → dx ≠ x → sp (pickL idx ((.ref x :: vs) ++ zs ++ dvs)) (upd (upd H dx (.own x)) x (.ins C dx [])) (fun v H2 => v = .non ∧ Q (.ref x) H2) (E σ)) :
    wpAny (model X.prog X.w) X.A (call (.ref C) us (ks.zip ws)) (EP X pins σ Q) X.xe s := by
  have hq := h (s.heap.objs.size + 1) s.heap.objs.size (I.hok.fresh (Nat.le_succ _)) (I.hok.fresh (Nat.le_refl _)) (Nat.ne_of_lt (Nat.lt_succ_self _))
  have I2 := Inv.made (C := C) I
  obtain ⟨its, rd, hb⟩ := hb.ex
  have r1 : Vals (V.ref (s.heap.objs.size + 1) :: vs) (Value.ref (s.heap.objs.size + 1) :: us) := .cons rfl r
  have l3 : (Value.ref (s.heap.objs.size + 1) :: us).length = n := by rw [← r1.length]; exact l1
  refine wpAny_call (make_map (f := f) I.kIn M.makes M.init (beq_iff_eq.mp M.fn) (codeAny_mono (F.run _ X.stack _ _ ⟨Value.ref (s.heap.objs.size + 1) :: us, ks.zip ws⟩ (pickL idx ((Value.ref (s.heap.objs.size + 1) :: us) ++ ws ++ its)) _ _ (E σ) (hr.make C us (ks.zip ws))
    (I2.env0.make C us (ks.zip ws)) (hb _ (Value.ref (s.heap.objs.size + 1) :: us) ws I2.kIn l3 (rz.length.symm.trans l2)) (vals_pick ((r1.append rz).append rd) idx) hq) fun r s' hq' => ?_))
  cases r with
  | error e => exact hx pins _ _ e s' I2 hq'
  | ok fl =>
    cases fl with
    | ret u =>
      obtain ⟨v, H', I3, rv, ev, q3⟩ := I2.after hq'
      subst ev
      exact ⟨rv, ⟨V.ref (s.heap.objs.size + 1), H', I3, rfl, q3⟩⟩
    | next => exact False.elim hq'
    | brk => exact False.elim hq'
    | cont => exact False.elim hq'
theorem pe_kN (M : Mk X.K C f) (F : FnOk X.prog X.w X.K X.mg X.base CX k f fd ps sp) (hr : Room (k + 1) X.A) (hg : Gl X x) (hm : X.mg x = some (.ref C)) (hb : CallB X.K fd ps n [] idx dvs) (hx : ∀ σ, PassesAt CX X σ (E σ))
    (ha : PA X (e :: es) t) (hdb : (x == ("__debug__" : Str)) = false := by decide) (he : starEach (e :: es) X.env = (false, eval e X.env) :: starEach es X.env := by rfl) (hpl : (backTo pos (starEach es X.env)).any (·.1) = false := by rfl) :
    PE X (.Call (.Name x p) (e :: es) [] pos) (tMakeG C n 0 idx dvs sp E t tNil) := by
  refine ⟨fun pins s σ H Q I h => ?_⟩
  refine wpAny_Call_Name_kw (ld_glob I hg hm ?_ hdb)
  refine PySem.W.callWith_K (h₀ := X.base) I.ok.mod.kin M.kp (thn (ha.run pos pins s σ H _ I h) fun us s1 ⟨vs, H1, I1, r, l1, l2, q⟩ => ⟨I1.kIn, ?_⟩) he hpl
  exact run_makeG (ks := []) (ws := []) (zs := []) M F hr hb (hx σ) I1 r .nil l1 rfl q
theorem pe_k0 (M : Mk X.K C f) (F : FnOk X.prog X.w X.K X.mg X.base CX k f fd ps sp) (hr : Room (k + 1) X.A) (hg : Gl X x) (hm : X.mg x = some (.ref C)) (hb : CallB X.K fd ps n [] idx dvs) (hx : ∀ σ, PassesAt CX X σ (E σ))
    (hdb : (x == ("__debug__" : Str)) = false := by decide) : PE X (.Call (.Name x p) [] [] pos) (tMakeG C n 0 idx dvs sp E tNil tNil) := by
  refine ⟨fun pins s σ H Q I h => ?_⟩
  refine wpAny_Call_Name_kw (ld_glob I hg hm ?_ hdb)
  obtain ⟨l1, l2, q⟩ := h
  exact PySem.W.callWith_K0 I.kIn M.kp (run_makeG (ks := []) (us := []) (vs := []) (ws := []) (zs := []) M F hr hb (hx σ) I .nil .nil l1 rfl q)
theorem pe_kK {r : Nat} (M : Mk X.K C f) (F : FnOk X.prog X.w X.K X.mg X.base CX k f fd ps sp) (hr : Room (k + 1) X.A) (hg : Gl X x) (hm : X.mg x = some (.ref C)) (hb : CallB X.K fd ps n ks idx dvs) (hx : ∀ σ, PassesAt CX X σ (E σ))
    (ha : PA X (e :: es) t) (hkw : PK X kws tk) (hall : (backToKw pos (keywordEach kws X.env)).all (·.1.isSome) = true := by rfl) (hks : (backToKw pos (keywordEach kws X.env)).filterMap (·.1) = ks := by rfl)
    (hdb : (x == ("__debug__" : Str)) = false := by decide) (he : starEach (e :: es) X.env = (false, eval e X.env) :: starEach es X.env := by rfl)
    (hpl : ((backTo pos (starEach (e :: es) X.env)).any (·.1) || (backToKw pos (keywordEach kws X.env)).any (·.1.isNone)) = false := by rfl) (hm2 : ks.length = r := by rfl) :
    PE X (.Call (.Name x p) (e :: es) kws pos) (tMakeG C n r idx dvs sp E t tk) := by
  subst hm2
  refine ⟨fun pins s σ H Q I h => ?_⟩
  refine wpAny_Call_Name_kw (ld_glob I hg hm ?_ hdb)
  refine PySem.W.callWith_KW (h₀ := X.base) I.ok.mod.kin M.kp hall (thn (ha.run pos pins s σ H _ I h) fun us s1 ⟨vs, H1, I1, r, q⟩ => ?_) hpl he
  refine thn (hkw.run pos pins s1 σ H1 _ I1 q) fun ws s2 ⟨zs, H2, I2, rz, l1, l2, q2⟩ => ⟨I2.kIn, ?_⟩
  rw [hks]
  exact run_makeG M F hr hb (hx σ) I2 r rz l1 l2 q2
theorem pe_kK0 {r : Nat} (M : Mk X.K C f) (F : FnOk X.prog X.w X.K X.mg X.base CX k f fd ps sp) (hr : Room (k + 1) X.A) (hg : Gl X x) (hm : X.mg x = some (.ref C)) (hb : CallB X.K fd ps n ks idx dvs) (hx : ∀ σ, PassesAt CX X σ (E σ))
    (hkw : PK X kws tk) (hall : (backToKw pos (keywordEach kws X.env)).all (·.1.isSome) = true := by rfl) (hks : (backToKw pos (keywordEach kws X.env)).filterMap (·.1) = ks := by rfl)
    (hdb : (x == ("__debug__" : Str)) = false := by decide)
    (hpl : ((backTo pos (starEach [] X.env)).any (·.1) || (backToKw pos (keywordEach kws X.env)).any (·.1.isNone)) = false := by rfl) (hm2 : ks.length = r := by rfl) :
    PE X (.Call (.Name x p) [] kws pos) (tMakeG C n r idx dvs sp E tNil tk) := by
  subst hm2
  refine ⟨fun pins s σ H Q I h => ?_⟩
  refine wpAny_Call_Name_kw (ld_glob I hg hm ?_ hdb)
  refine PySem.W.callWith_KW0 (h₀ := X.base) I.ok.mod.kin M.kp hall (thn (hkw.run pos pins s σ H _ I h) fun ws s2 ⟨zs, H2, I2, rz, l1, l2, q2⟩ => ⟨I2.kIn, ?_⟩) hpl
  rw [hks]
  exact run_makeG (us := []) (vs := []) M F hr hb (hx σ) I2 .nil rz l1 l2 q2
theorem PE.or {X : Cx} {e : Expr} {t u : TE} (h : PE X e t) (h' : PE X e u) : PE X e (fun σ H Q => t σ H Q ∨ u σ H Q) :=
  ⟨fun pins s σ H Q I z => z.elim (fun z => h.run pins s σ H Q I z) (fun z => h'.run pins s σ H Q I z)⟩
end
section
variable {G : Gm} {W : WX}
/-- o.m(..): the object of the class c -/
def dMeth (c : Nat) (F : List D → Sto → ER) (n r : Nat) (idx : List Nat) (dd : List D) (fo : En → ER) (fa fk : En → AR) : En → ER := fun E => (fo E).bind fun x st => match x with
  | .ptr p => (match stIns st p with
    | some (c', _) => if c' = c then (match fa ⟨E.e, st⟩ with
      | .ok true l st1 => (match fk ⟨E.e, st1⟩ with
        | .ok true z st2 => if l.length + 1 = n ∧ z.length = r then F (pickL idx ((.ptr p :: l) ++ z ++ dd)) st2 else .bad
        | .exc c l st => .exc c l st
        | _ => .bad)
      | .exc c l st => .exc c l st
      | _ => .bad) else .bad
    | none => .bad)
  | _ => .bad
theorem v_meth {c n r : Nat} {m : Str} {F : List D → Sto → ER} {idx : List Nat} {dd : List D} {to : TE} {ta tk : TA} {fo : En → ER} {fa fk : En → AR} (hm : m ∉ G.fn c) (hd : dd.all flat = true) (ho : DEv G W to fo) (ha : DAr G W ta fa) (hk : DAr G W tk fk) : DEv G W (tMethG (G.ca c) m n r idx (dd.map toV) (spF G F) (WE W) to ta tk) (dMeth c F n r idx dd fo fa fk) := by
  intro s t σ e st E k Q post
  refine ho s t σ e st E k _ (RPost.bind post fun mo d st1 t1 v g1 k1 o1 p1 => ?_)
  cases d <;> first | exact p1.elim | skip
  rename_i p
  obtain ⟨a, rfl, hp⟩ := o1.u.ptr
  cases hi : stIns st1 p with
  | none => simp only [hi] at p1; exact p1.elim
  | some cl =>
    obtain ⟨c', l0⟩ := cl
    simp only [hi] at p1
    obtain ⟨hc, p2⟩ := RPost.cond _ _ p1
    clear p1
    have p1 := p2
    clear p2
    subst hc
    obtain ⟨dx, fs, hh, hl, il⟩ := k1.ins hp hi
    refine ⟨a, dx, _, rfl, hh, zip_no fs hm, ha s t1 σ e st1 (E.up g1) k1 _ ?_⟩
    cases q : fa ⟨e, st1⟩ with
    | ok b l st2 =>
      rw [q] at p1
      cases b with
      | false => exact p1.elim
      | true =>
        have p1 : RPost G W t1 σ Q (match fk ⟨e, st2⟩ with
          | .ok true z st2 => if l.length + 1 = n ∧ z.length = r then F (pickL idx ((.ptr p :: l) ++ z ++ dd)) st2 else .bad
          | .exc c l st => .exc c l st
          | _ => .bad) := p1
        intro t2 vs g2 k2 i2 u2
        have i2 := i2 rfl
        refine hk s t2 σ e st2 ((E.up g1).up g2) k2 _ ?_
        cases q2 : fk ⟨e, st2⟩ with
        | ok b2 z st3 =>
          rw [q2] at p1
          cases b2 with
          | false => exact p1.elim
          | true =>
            obtain ⟨hc, p1⟩ := RPost.cond (l.length + 1 = n ∧ z.length = r) (F (pickL idx ((.ptr p :: l) ++ z ++ dd)) st3) p1
            intro t3 zs g3 k3 i3 u3
            have i3 := i3 rfl
            have ip : IsL G t3.as t3.f (.ref a :: vs) (.ptr p :: l) := .cons (.ptr (g3.a _ _ (g2.a _ _ hp))) (i2.up g3.a g3.f)
            exact ⟨by rw [← hc.1]; simp [u2.len], by rw [u3.len]; exact hc.2, t3, _, st3, rfl, k3, isL_pick ((ip.append i3).append (isL_toV hd)) idx, (RPost.step (g2.trans g3) k3 p1).w (fun c x H' h => h)⟩
        | exc c l st3 => rw [q2] at p1; exact fun t' x g' => p1 t' x (g2.trans g')
        | bad => rw [q2] at p1; exact p1
    | exc c l st2 => rw [q] at p1; exact p1
    | bad => rw [q] at p1; exact p1
/-- by the object's class -/
def isC (c : Nat) (fo : En → ER) (E : En) : Bool := match fo E with
  | .val _ (.ptr n) st => (match stIns st n with | some (c', _) => c' == c | none => false)
  | _ => false
def dAlt (p : En → Bool) (f g : En → ER) : En → ER := fun E => if p E = true then f E else g E
theorem v_alt {p : En → Bool} {t u : TE} {f g : En → ER} (hf : DEv G W t f) (hg : DEv G W u g) : DEv G W (fun σ H Q => t σ H Q ∨ u σ H Q) (dAlt p f g) := by
  intro s t0 σ e st E k Q post
  unfold dAlt at post
  by_cases c : p ⟨e, st⟩ = true
  · rw [if_pos c] at post; exact .inl (hf s t0 σ e st E k Q post)
  · rw [if_neg c] at post; exact .inr (hg s t0 σ e st E k Q post)
/-- C(..): F is __init__ -/
def dMake (c : Nat) (F : List D → Sto → ER) (n r : Nat) (idx : List Nat) (dd : List D) (fa fk : En → AR) : En → ER := fun E => match fa E with
  | .ok true l st => (match fk ⟨E.e, st⟩ with
    | .ok true z st1 => if l.length + 1 = n ∧ z.length = r then (match F (pickL idx ((.ptr st1.length :: l) ++ z ++ dd)) (st1 ++ [.ins c []]) with
      | .val _ .non st2 => .val .P (.ptr st1.length) st2
      | .exc c l st => .exc c l st
      | _ => .bad) else .bad
    | .exc c l st => .exc c l st
    | _ => .bad)
  | .exc c l st => .exc c l st
  | _ => .bad
theorem v_make {c n r : Nat} {F : List D → Sto → ER} {idx : List Nat} {dd : List D} {ta tk : TA} {fa fk : En → AR} (hd : dd.all flat = true) (ha : DAr G W ta fa) (hk : DAr G W tk fk) : DEv G W (tMakeG (G.ca c) n r idx (dd.map toV) (spF G F) (WE W) ta tk) (dMake c F n r idx dd fa fk) := by
  intro s t σ e st E k Q post
  unfold dMake at post
  refine ha s t σ e st E k _ ?_
  cases q : fa ⟨e, st⟩ with
  | ok b l st2 =>
    rw [q] at post
    cases b with
    | false => exact post.elim
    | true =>
      have post : RPost G W t σ Q (match fk ⟨e, st2⟩ with
        | .ok true z st1 => if l.length + 1 = n ∧ z.length = r then (match F (pickL idx ((.ptr st1.length :: l) ++ z ++ dd)) (st1 ++ [.ins c []]) with
          | .val _ .non st2 => .val .P (.ptr st1.length) st2
          | .exc c l st => .exc c l st
          | _ => .bad) else .bad
        | .exc c l st => .exc c l st
        | _ => .bad) := post
      intro t2 vs g2 k2 i2 u2
      have i2 := i2 rfl
      refine hk s t2 σ e st2 (E.up g2) k2 _ ?_
      cases q2 : fk ⟨e, st2⟩ with
      | ok b2 z st3 =>
        rw [q2] at post
        cases b2 with
        | false => exact post.elim
        | true =>
          obtain ⟨hc, post⟩ := RPost.cond (l.length + 1 = n ∧ z.length = r) _ post
          intro t3 zs g3 k3 i3 u3
          have i3 := i3 rfl
          refine ⟨by rw [u2.len]; exact hc.1, by rw [u3.len]; exact hc.2, fun x dx hx hdx hne => ?_⟩
          -- the new instance and its dict
          have g4 := Gro.loose (o := .own x) k3 hdx
          have k4 := k3.loose (o := .own x) hdx
          have hx4 : upd t3.h dx (.own x) x = none := by rw [upd_ne (fun z => hne z.symm)]; exact hx
          have g5 := Gro.loose (o := .ins (G.ca c) dx []) k4 hx4
          have k5 := k4.loose (o := .ins (G.ca c) dx []) hx4
          have hf5 : t3.f x = none := k3.sf.free hx
          have hx0 : t.h x = none := by
            cases qx : t.h x with
            | none => rfl
            | some o =>
              by_cases i : x ∈ t.as
              · exact absurd ((g2.trans g3).a.mem i) (k3.new hx)
              · rw [(g2.trans g3).h x o qx i] at hx; cases hx
          have g6 := ((g2.trans g3).trans (g4.trans g5)).put k5 hx0 hf5
          have k6 : StOk G ⟨t3.as ++ [x], t3.f, upd (upd t3.h dx (.own x)) x (.ins (G.ca c) dx [])⟩ (st3 ++ [.ins c []]) :=
            k5.put (o := .ins c []) hf5 (k3.new hx) ⟨dx, [], by show upd _ x _ x = _; rw [upd_same, List.zip_nil_right], Nat.zero_le _, .nil⟩
          have hpx : (t3.as ++ [x])[st3.length]? = some x := by
            rw [← k3.len, List.getElem?_append_right (Nat.le_refl _)]; simp
          have ip : IsL G (t3.as ++ [x]) t3.f (.ref x :: vs) (.ptr st3.length :: l) := .cons (.ptr hpx) ((i2.up g3.a g3.f).up (Ext.app _ _) (Same.refl _))
          refine ⟨⟨t3.as ++ [x], t3.f, upd (upd t3.h dx (.own x)) x (.ins (G.ca c) dx [])⟩, _, st3 ++ [.ins c []], rfl, k6, isL_pick ((ip.append (i3.up (Ext.app _ _) (Same.refl _))).append (isL_toV hd)) idx, ?_⟩
          cases q3 : F (pickL idx ((.ptr st3.length :: l) ++ z ++ dd)) (st3 ++ [.ins c []]) with
          | val m d st4 =>
            rw [q3] at post
            cases d <;> first | exact post.elim | skip
            intro t7 v g7 k7 o7
            obtain rfl := o7.u.non
            exact ⟨rfl, post t7 _ (g6.trans g7) k7 (.ptr (g7.a _ _ hpx))⟩
          | exc c l st4 =>
            rw [q3] at post
            exact fun t7 x7 g7 k7 o7 => post t7 x7 (g6.trans g7) k7 o7
          | bad => rw [q3] at post; exact post.elim
      | exc c l st3 => rw [q2] at post; exact fun t' x g' => post t' x (g2.trans g')
      | bad => rw [q2] at post; exact post
  | exc c l st1 => rw [q] at post; exact post
  | bad => rw [q] at post; exact post
end
end Dn
namespace Dn
open PySem PySem.Spec PyProof.Rows L2
section
variable {G : Gm} {W : WX}
/-! ### comprehensions over a list of the def's own -/
def ItOkE (G : Gm) (s : Hs) (σ : L2.St) (e : DE) (vs : List Nat) (t1 : Hs) (J : It) (l : List D) : Prop := ∀ (i : Nat) (t : Hs) (st : Sto), Up t1 t → EnvOk G s t (L2.wipe σ vs) (wipeE e vs) → StOk G t st → (l.length ≤ i → J.stop i t.h) ∧
  ∀ d, l[i]? = some d → J.go i t.h ∧ ∀ x H', J.yld i t.h x H' → ∃ t', t'.h = H' ∧ Gro t t' ∧ StOk G t' st ∧ Is G t'.as t'.f x d
def IPostE (G : Gm) (W : WX) (s : Hs) (e : DE) (vs : List Nat) (t : Hs) (σ : L2.St) (R : It → Hp → Prop) : AR → Prop
  | .ok _ l st => ∀ t' J, Gro t t' → StOk G t' st → ItOkE G s σ e vs t' J l → R J t'.h
  | .exc c l st => ∀ t' x, Gro t t' → StOk G t' st → ExcOk G t' c l x → W (.ref (G.ca c)) x σ t'.h
  | .bad => False
def DItE (G : Gm) (W : WX) (vs : List Nat) (wi : TI) (f : En → AR) : Prop := ∀ s t σ e st, EnvOk G s t σ e → StOk G t st → ∀ R : It → Hp → Prop, IPostE G W s e vs t σ R (f ⟨e, st⟩) → wi σ t.h R
theorem DIt.e {vs : List Nat} {wi : TI} {f : En → AR} (h : DIt G W wi f) : DItE G W vs wi f := by
  intro s t σ e st E k R post
  refine h s t σ e st E k R ?_
  cases q : f ⟨e, st⟩ with
  | ok p l st1 => rw [q] at post; exact fun t' J g k' it => post t' J g k' fun i t2 st2 u _ k2 => it i t2 st2 u k2
  | exc c l st1 => rw [q] at post; exact post
  | bad => rw [q] at post; exact post
def dIterV (i : Nat) : En → AR := fun E => match E.e[i]? with
  | some (.own l) => .ok false l E.st
  | _ => dIter (dVar i) E
theorem wipe_get {σ : L2.St} {e : DE} {i : Nat} : ∀ {vs : List Nat}, i ∉ vs → (L2.wipe σ vs)[i]? = σ[i]? ∧ (wipeE e vs)[i]? = e[i]?
  | [], _ => ⟨rfl, rfl⟩
  | v :: vs, h => by
    have h' : i ≠ v ∧ i ∉ vs := by simpa using h
    obtain ⟨a, b⟩ := wipe_get (σ := σ) (e := e) h'.2
    refine ⟨L2.wipe_out h, ?_⟩
    unfold wipeE
    rw [List.getElem?_set_ne (Ne.symm h'.1)]
    exact b
theorem i_own {i : Nat} {vs : List Nat} (hi : i ∉ vs) : DItE G W vs (iAny G.K (tVar i)) (dIterV i) := by
  intro s t σ e st E k R post
  unfold dIterV at post
  split at post
  · rename_i l q
    obtain ⟨o, h1, p, ws, rfl, a, b, c, d, f⟩ := E.slot q
    refine .inl ⟨_, h1, p, rfl, ⟨_, SqL.of c⟩, post t _ (Gro.refl k) k ?_⟩
    intro j t2 st2 u E2 k2
    obtain ⟨w1, w2⟩ := wipe_get (σ := σ) (e := e) hi
    obtain ⟨o2, g1, p2, vs2, g2, a2, b2, c2, d2, f2⟩ := E2.slot (w2.trans q)
    have w1' := w1.trans h1
    rw [g1] at w1'
    cases w1'
    cases g2
    refine ⟨fun hj => ⟨vs2, SqL.of c2, by rw [d2.len]; exact hj⟩, fun x hx => ?_⟩
    obtain ⟨v, v1, v2⟩ := d2.get hx
    refine ⟨⟨vs2, v, SqL.of c2, v1⟩, fun y H' z => ?_⟩
    obtain ⟨rfl, z⟩ := z
    have := z vs2 (SqL.of c2)
    rw [v1] at this; cases this
    exact ⟨t2, rfl, Gro.refl k2, k2, v2⟩
  · exact (DIt.e (vs := vs) (i_any v_var)) s t σ e st E k R post
theorem v_lcE {wi : TI} {g : TG} {tt : TT} {te : TE} {vs js : List Nat} {src : En → AR} {t : D → DE → Option DE} {c f : En → ER} (hi : DItE G W vs wi src) (hg : DTg G g js t) (hj : ∀ j ∈ js, j ∈ vs) (ht : DTt G W0 tt c) (he : DEv G W0 te f) : DEv G W (tLc wi g tt te vs) (dLc src t c f vs) := by
  intro s t0 σ e st E k0 Q post
  refine hi s t0 σ e st E k0 _ ?_
  unfold dLc at post
  cases q : src ⟨e, st⟩ with
  | ok p l st1 =>
    rw [q] at post
    obtain ⟨hlen, post⟩ := RPost.cond _ _ post
    obtain ⟨out, hout, post⟩ := RPost.opt _ _ post
    intro t1 J g1 k1 it Dl hD
    have hDH : t0.h Dl = none := by
      cases q : t0.h Dl with
      | none => rfl
      | some o =>
        by_cases i : Dl ∈ t0.as
        · exact absurd (g1.a.mem i) (k1.new hD)
        · rw [g1.h Dl o q i] at hD; cases hD
    have hD0 : s.h Dl = none := by
      cases q : s.h Dl with
      | none => rfl
      | some o =>
        by_cases i : Dl ∈ s.as
        · exact absurd (E.gr.a.mem i) (k0.new hDH)
        · rw [E.gr.h Dl o q i] at hDH; cases hDH
    have hDf : t1.f Dl = none := k1.sf.free hD
    have hDa : Dl ∉ t1.as := k1.new hD
    have Ew := (E.up g1).wipe vs
    have hne : ∀ (j : Nat) (m : List D), (L2.wipe σ vs)[j]? = some (some (.ref Dl)) → (wipeE e vs)[j]? = some (.own m) → False := fun j m a b => by
      obtain ⟨o, h1, p', vs', h2, _, _, h3, _⟩ := Ew.slot b
      rw [a] at h1; cases h1
      cases h2
      rw [hD] at h3; cases h3
    have gd := g1.chg (o := .lst []) hDH hDf
    refine ⟨fun i m H' => m = l.length - i ∧ i ≤ l.length ∧ ∃ t2 st2 acc vacc rest, t2.h = H' ∧ Up t1 t2 ∧ Gro t0 t2 ∧ StOk G t2 st2 ∧ EnvOk G s t2 (L2.wipe σ vs) (wipeE e vs) ∧ t2.h Dl = some (.lst vacc) ∧ IsL G t2.as t2.f vacc acc ∧ t2.f Dl = none ∧ Dl ∉ t2.as ∧ acc.length ≤ i ∧
      lcGo (lcStep t c f (wipeE e vs)) (l.drop i) st2 = some (rest, out.2) ∧ acc ++ rest = out.1, ⟨l.length, by simp, Nat.zero_le _, ⟨t1.as, t1.f, upd t1.h Dl (.lst [])⟩, st1, [], [], out.1, rfl, ⟨Ext.refl _, Same.refl _⟩, gd, k1.chg hDf hDa, Ew.other hD0 hDf hne, upd_same, .nil, hDf, hDa, Nat.zero_le _, hout, rfl⟩, ?_⟩
    rintro i m H2 ⟨rfl, hi, t2, st2, acc, vacc, rest, rfl, s2, g2, k2, E2, d2, a2, n2, na2, l2, r2, o2⟩
    obtain ⟨i1, i2⟩ := it i t2 st2 s2 E2 k2
    by_cases hlt : i < l.length
    · right
      have hd : l[i]? = some l[i] := List.getElem?_eq_getElem hlt
      obtain ⟨go, y⟩ := i2 _ hd
      rw [List.drop_eq_getElem_cons hlt] at r2
      refine ⟨go, fun H' => i + 1 ≤ l.length ∧ ∃ t2 st2 acc vacc rest, t2.h = H' ∧ Up t1 t2 ∧ Gro t0 t2 ∧ StOk G t2 st2 ∧ EnvOk G s t2 (L2.wipe σ vs) (wipeE e vs) ∧ t2.h Dl = some (.lst vacc) ∧ IsL G t2.as t2.f vacc acc ∧ t2.f Dl = none ∧ Dl ∉ t2.as ∧ acc.length ≤ i + 1 ∧
        lcGo (lcStep t c f (wipeE e vs)) (l.drop (i + 1)) st2 = some (rest, out.2) ∧ acc ++ rest = out.1, fun H' h => ⟨l.length - (i + 1), by omega, rfl, h⟩, fun x H' hy => ?_⟩
      obtain ⟨t3, rfl, g3, k3, i3⟩ := y x H' hy
      unfold lcGo at r2
      cases sk : lcStep t c f (wipeE e vs) l[i] st2 with
      | none => rw [sk] at r2; cases r2
      | some o =>
        rw [sk] at r2
        have r2 : ((lcGo (lcStep t c f (wipeE e vs)) (l.drop (i + 1)) o.2).bind fun r => some (o.1.toList ++ r.1, r.2)) = some (rest, out.2) := r2
        cases lg : lcGo (lcStep t c f (wipeE e vs)) (l.drop (i + 1)) o.2 with
        | none => rw [lg] at r2; cases r2
        | some rest' =>
          rw [lg] at r2
          have r3 : (o.1.toList ++ rest'.1, rest'.2) = (rest, out.2) := Option.some.inj r2
          have r4 : o.1.toList ++ rest'.1 = rest := (Prod.mk.inj r3).1
          have r5 : rest'.2 = out.2 := (Prod.mk.inj r3).2
          have lg' : lcGo (lcStep t c f (wipeE e vs)) (l.drop (i + 1)) o.2 = some (rest'.1, out.2) := by rw [lg, ← r5]
          unfold lcStep at sk
          cases q3 : t l[i] (wipeE e vs) with
          | none => rw [q3] at sk; cases sk
          | some e3 =>
            rw [q3] at sk
            refine hg s t3 (L2.wipe σ vs) (wipeE e vs) st2 x l[i] (E2.up g3) k3 i3 _ e3 q3 fun σ4 E4 l4 w4 => ?_
            refine ⟨wipe_agree (by rw [l4, L2.wipe_length]) hj w4 l4, ?_⟩
            refine ht s t3 σ4 e3 st2 E4 k3 _ ?_
            have sk' : (match c ⟨e3, st2⟩ with
              | .val _ (.bl b) st1 => if b = true then (match f ⟨e3, st1⟩ with | .val .P y st2 => some (some y, st2) | .val .N y st2 => some (some y, st2) | _ => none) else some (none, st1)
              | _ => none) = some o := sk
            cases q4 : c ⟨e3, st2⟩ with
            | exc k l st => rw [q4] at sk'; cases sk'
            | bad => rw [q4] at sk'; cases sk'
            | val mm d st4 =>
              rw [q4] at sk'
              cases d with
              | bl b =>
                intro t5 g5 k5
                have gg := g3.trans g5
                cases b with
                | false =>
                  cases sk'
                  refine iteF ⟨hlt, t5, st4, acc, vacc, rest'.1, rfl, s2.trans gg.up, g2.trans gg, k5, E2.up gg, gg.h _ _ d2 na2, a2.up gg.a gg.f, gg.n _ _ d2 n2, (fun m => (gg.w Dl m).elim na2 fun z => by rw [d2] at z; cases z), by omega, lg', ?_⟩
                  rw [← o2, ← r4]; rfl
                | true =>
                  refine iteT (he s t5 σ4 e3 st4 (E4.up g5) k5 _ ?_)
                  have fin : ∀ y st6 t6 v, Gro t5 t6 → StOk G t6 st6 → Is G t6.as t6.f v y → o = (some y, st6) → ∃ acc, t6.h Dl = some (.lst acc) ∧ acc.length < sizeLine ∧ (i + 1 ≤ l.length ∧ ∃ t2 st2 acc_1 vacc rest, t2.h = upd t6.h Dl (.lst (acc ++ [v])) ∧ Up t1 t2 ∧ Gro t0 t2 ∧ StOk G t2 st2 ∧ EnvOk G s t2 (L2.wipe σ vs) (wipeE e vs) ∧
                      t2.h Dl = some (.lst vacc) ∧ IsL G t2.as t2.f vacc acc_1 ∧ t2.f Dl = none ∧ Dl ∉ t2.as ∧ acc_1.length ≤ i + 1 ∧ lcGo (lcStep t c f (wipeE e vs)) (l.drop (i + 1)) st2 = some (rest, out.2) ∧ acc_1 ++ rest = out.1) := fun y st6 t6 v g6 k6 i6 ho => by
                    subst ho
                    have gh := gg.trans g6
                    have nn := gh.n _ _ d2 n2
                    have na : Dl ∉ t6.as := fun m => (gh.w Dl m).elim na2 fun z => by rw [d2] at z; cases z
                    have cl := a2.len
                    refine ⟨vacc, gh.h _ _ d2 na2, by rw [cl]; exact szlt (by omega), hlt, ⟨t6.as, t6.f, upd t6.h Dl (.lst (vacc ++ [v]))⟩, st6, acc ++ [y], vacc ++ [v], rest'.1, rfl, ?_, (g2.trans gh).chg hDH nn, k6.chg nn na, (E2.up gh).other hD0 nn hne, upd_same, (a2.up gh.a gh.f).append (.one i6), nn, na, by simp; omega, lg', ?_⟩
                    · exact ⟨s2.a.trans gh.a, s2.f.trans gh.f⟩
                    · rw [← o2, ← r4]
                      simp
                  have sk2 : (match f ⟨e3, st4⟩ with | .val .P y st2 => some (some y, st2) | .val .N y st2 => some (some y, st2) | _ => none) = some o := sk'
                  cases q6 : f ⟨e3, st4⟩ with
                  | val m6 y st6 =>
                    rw [q6] at sk2
                    intro t6 v g6 k6 o6
                    cases m6 with
                    | P => exact fin y st6 t6 v g6 k6 o6 (Option.some.inj sk2).symm
                    | B => cases sk2
                    | N =>
                      obtain ⟨f7, g7, k7, _, i7⟩ := o6.freeze g6 k6 (by decide)
                      exact fin y st6 ⟨t6.as, f7, t6.h⟩ v g7 k7 i7 (Option.some.inj sk2).symm
                  | exc k l st => rw [q6] at sk2; cases sk2
                  | bad => rw [q6] at sk2; cases sk2
              | _ => cases sk'
    · left
      have : i = l.length := by omega
      subst this
      refine ⟨i1 (Nat.le_refl _), ?_⟩
      rw [List.drop_length] at r2
      have r3 : (([] : List D), st2) = (rest, out.2) := Option.some.inj r2
      have r4 : [] = rest := (Prod.mk.inj r3).1
      have r5 : st2 = out.2 := (Prod.mk.inj r3).2
      subst r4
      rw [List.append_nil] at o2
      rw [← o2, ← r5] at post
      exact post t2 _ g2 k2 ⟨Dl, vacc, acc, rfl, rfl, d2, a2, na2, hDH, n2⟩
  | exc c l st1 => rw [q] at post; exact post
  | bad => rw [q] at post; exact post
end
end Dn
namespace Dn
open PySem PySem.Spec PyProof.Rows L2
section
variable {G : Gm} {W : WX}
/-! ### all, any -/
def boolsOf : List D → Option (List Bool)
  | [] => some []
  | .bl i :: l => (boolsOf l).map (i :: ·)
  | _ => none
theorem boolsOf_V {as : List Addr} {H : Hp} : ∀ {l : List D} {vs : List V} {ns : List Bool}, boolsOf l = some ns → IsL G as H vs l → vs = ns.map V.bl
  | [], _, _, h, i => by cases i; cases h; rfl
  | d :: l, _, ns, h, i => by
    cases i with
    | cons a b =>
      cases d <;> first | (cases h; done) | skip
      rename_i i
      have h' : (boolsOf l).map (i :: ·) = some ns := h
      cases q : boolsOf l with
      | none => rw [q] at h'; cases h'
      | some ms =>
        rw [q] at h'; cases h'
        cases a
        rw [boolsOf_V q b]; rfl
def oAll : List D → Sto → ER
  | [.lst l], st => ofOpt (boolsOf l) fun ns => .val .P (.bl (ns.all id)) st
  | _, _ => .bad
def oAny : List D → Sto → ER
  | [.lst l], st => ofOpt (boolsOf l) fun ns => .val .P (.bl (ns.any id)) st
  | _, _ => .bad
theorem c_all : DCal G (rAll G.K) oAll := by
  refine DCal.one1 (fun _ => rfl) (fun a b l _ => by cases a <;> rfl) fun W σ s st v d k hv Q post => ?_
  cases d <;> try exact post.elim
  rename_i l
  obtain ⟨p, vs, rfl, hp, hl⟩ := hv.lst k.sf
  obtain ⟨ns, h, post⟩ := RPost.opt (boolsOf l) (fun ns => .val .P (.bl (ns.all id)) st) post
  have := boolsOf_V h hl
  subst this
  exact ⟨p, ns, rfl, SqL.of hp, post.now k (.bl _)⟩
theorem c_any : DCal G (rAny G.K) oAny := by
  refine DCal.one1 (fun _ => rfl) (fun a b l _ => by cases a <;> rfl) fun W σ s st v d k hv Q post => ?_
  cases d <;> try exact post.elim
  rename_i l
  obtain ⟨p, vs, rfl, hp, hl⟩ := hv.lst k.sf
  obtain ⟨ns, h, post⟩ := RPost.opt (boolsOf l) (fun ns => .val .P (.bl (ns.any id)) st) post
  have := boolsOf_V h hl
  subst this
  exact ⟨p, ns, rfl, SqL.of hp, post.now k (.bl _)⟩
/-! ### l[::-1] -/
def oRev : D → Sto → ER
  | .lst l, st => .val .N (.lst l.reverse) st
  | .ptr n, st => ofOpt (stLst st n) fun l => .val .N (.lst l.reverse) st
  | _, _ => .bad
def dRev (f : En → ER) : En → ER := fun E => (f E).bind oRev
theorem v_rev {te : TE} {f : En → ER} (h : DEv G W te f) : DEv G W (tRevL G.K te) (dRev f) := by
  intro s t σ e st E k Q post
  refine h s t σ e st E k _ (RPost.bind post fun m d st1 t1 v g1 k1 o1 p1 => ?_)
  cases d <;> try exact p1.elim
  case lst l =>
    obtain ⟨p, vs, rfl, hp, hl⟩ := o1.u.lst k1.sf
    exact ⟨p, vs, rfl, SqL.of hp, fun r hr => RPost.newL k1 p1 hl.reverse hr⟩
  case ptr n =>
    obtain ⟨p, rfl, hp⟩ := o1.u.ptr
    obtain ⟨l, ql, p1⟩ := RPost.opt (stLst st1 n) (fun l => .val .N (.lst l.reverse) st1) p1
    obtain ⟨vs, hh, hl⟩ := k1.lst hp ql
    exact ⟨p, vs, rfl, SqL.of hh, fun r hr => RPost.newL k1 p1 hl.reverse hr⟩
/-! ### l.clear() -/
def mClear (l ds : List D) : Option (D × List D) := match ds with
  | [] => some (.non, [])
  | _ => none
theorem m_clear : DMt G rClear mClear := by
  intro s p vs l xs ds o hp il ix ho
  unfold mClear at ho
  split at ho
  · cases ho
    cases ix
    exact ⟨.non, _, .non, .nil, fun Q q => ⟨p, vs, rfl, rfl, hp, q⟩⟩
  · cases ho
/-! ### a method of a list that is new -/
def dMtX (op : List D → List D → Option (D × List D)) (fb : En → ER) (fa : En → AR) : En → ER := fun E => match fb E with
  | .val .N (.lst l) st => (match fa ⟨E.e, st⟩ with
    | .ok true ds st1 => (match op l ds with | some o => .val .P o.1 st1 | none => .bad)
    | .exc c l st => .exc c l st
    | _ => .bad)
  | _ => dMtP op fb fa E
theorem v_mtX {r : V → List V → Hp → VK → Prop} {op : List D → List D → Option (D × List D)} {tb : TE} {ta : TA} {fb : En → ER} {fa : En → AR} (hm : DMt G r op) (hb : DEv G W tb fb) (ha : DAr G W ta fa) : DEv G W (tBM G.K "list" r tb ta) (dMtX op fb fa) := by
  intro s t σ e st E k Q post
  unfold dMtX at post
  split at post
  · rename_i l st1 q
    refine hb s t σ e st E k _ ?_
    rw [q]
    intro t1 v g1 k1 o1
    obtain ⟨p, vs, l', rfl, e', c, il, na, n0, nf⟩ := o1
    cases e'
    refine ⟨.inl ⟨rfl, vs, SqL.of c⟩, ha s t1 σ e st1 (E.up g1) k1 _ ?_⟩
    cases q2 : fa ⟨e, st1⟩ with
    | ok b ds st2 =>
      rw [q2] at post
      cases b with
      | false => exact post.elim
      | true =>
        intro t2 xs g2 k2 i2 _
        cases ho : op l ds with
        | none => simp only [ho] at post; exact post.elim
        | some o =>
          simp only [ho] at post
          have hp' : t2.h p = some (.lst vs) := g2.h _ _ c na
          have hf' : t2.f p = none := g2.n _ _ c nf
          have ha' : p ∉ t2.as := fun m => (g2.w p m).elim na fun z => by rw [c] at z; cases z
          obtain ⟨v, vs', h1, h2, h3⟩ := hm t2 p vs l xs ds o hp' (il.up g2.a g2.f) (i2 rfl) ho
          exact h3 _ (post ⟨t2.as, t2.f, upd t2.h p (.lst vs')⟩ v ((g1.trans g2).chg n0 hf') (k2.chg hf' ha') h1)
    | exc c l st2 => rw [q2] at post; exact fun t' x g' => post t' x (g1.trans g')
    | bad => rw [q2] at post; exact post
  · exact v_mtP hm hb ha s t σ e st E k Q post
theorem v_mtX0 {r : V → List V → Hp → VK → Prop} {op : List D → List D → Option (D × List D)} {tb : TE} {fb : En → ER} (hm : DMt G r op) (hb : DEv G W tb fb) : DEv G W (tBM0 G.K "list" r tb) (dMtX op fb aNil) := by
  intro s t σ e st E k Q post
  exact v_mtX hm hb (a_nil (G := G) (W := W)) s t σ e st E k Q post
end
end Dn
namespace Dn
open PySem PySem.Spec PyProof.Rows L2
theorem unit65 {k : Nat} {A : Around} (r : Room k A) : A.units + 65 < cLine := by have := r.un; omega
section
variable {G : Gm} {W : WX}
/-! ### x in l -/
def inL (d : D) (l : List D) : Option Bool := if isPy d = true ∧ isPyL l = true ∧ SeqAt.shaped (py d) = true ∧ SeqAt.shaped (.list (pyL l)) = true then some ((pyL l).any fun z => PyData.eqv z (py d)) else none
def oIn (a b : D) (st : Sto) : ER := match b with
  | .lst l => ofOpt (inL a l) fun r => .val .P (.bl r) st
  | .ptr n => ofOpt (stLst st n) fun l => ofOpt (inL a l) fun r => .val .P (.bl r) st
  | .str z => (match a with
    | .str x => (match x.cps.toList with | [c] => .val .P (.bl (decide (c ∈ z.cps.toList))) st | _ => .bad)
    | _ => .bad)
  | _ => .bad
def oNotIn (a b : D) (st : Sto) : ER := match b with
  | .lst l => ofOpt (inL a l) fun r => .val .P (.bl (!r)) st
  | .ptr n => ofOpt (stLst st n) fun l => ofOpt (inL a l) fun r => .val .P (.bl (!r)) st
  | .str z => (match a with
    | .str x => (match x.cps.toList with | [c] => .val .P (.bl (!decide (c ∈ z.cps.toList))) st | _ => .bad)
    | _ => .bad)
  | _ => .bad
abbrev rInA (K : PySem.W.Frag) : R2 := rOr (rInD K) rInS
abbrev rNotInA (K : PySem.W.Frag) : R2 := rOr (rNotInD K) rNotInS
theorem or_in {X : Cx} (hu : X.A.units + 65 < cLine) : OpR X (compareOp .In) (rInA X.K) := opOr (op_inD hu) op_inS
theorem or_notin {X : Cx} (hu : X.A.units + 65 < cLine) : OpR X (compareOp .NotIn) (rNotInA X.K) := opOr (op_notInD hu) op_notInS
theorem one_sign {x : Str} {c : Nat} (h : x.cps.toList = [c]) : x = ⟨#[c]⟩ := by
  cases x with | mk a =>
  have h' : a.toList = [c] := h
  have : a = #[c] := by apply Array.ext'; simpa using h'
  rw [this]
theorem inL_dp {s : Hs} {v w : V} {d : D} {l : List D} {r : Bool} (sm : Same s.f s.h) (hv : U G s v d) (p : Addr) (vs : List V) (hp : s.h p = some (.lst vs)) (hl : IsL G s.as s.f vs l) (h : inL d l = some r) : Dp G.K s.h v (py d) ∧ Dp G.K s.h (.ref p) (.list (pyL l)) ∧ SeqAt.shaped (py d) = true ∧ SeqAt.shaped (.list (pyL l)) = true ∧ r = (pyL l).any fun z => PyData.eqv z (py d) := by
  unfold inL at h
  split at h
  · rename_i c
    exact ⟨dp_u sm c.1 hv, .lst (SqL.of hp) (dpL_of sm l c.2.1 hl), c.2.2.1, c.2.2.2, (Option.some.inj h).symm⟩
  · cases h
theorem d_in : DOp G (rInA G.K) oIn := by
  intro W σ s st v w d d' k hv hw Q post
  cases d' <;> try exact post.elim
  case lst l =>
    obtain ⟨r, hr, post⟩ := RPost.opt (inL d l) (fun r => .val .P (.bl r) st) post
    obtain ⟨p, vs, rfl, hp, hl⟩ := hw.lst k.sf
    obtain ⟨a, b, c, e, f⟩ := inL_dp (w := .non) k.sf hv p vs hp hl hr
    exact .inl ⟨_, _, a, b, c, e, by rw [← f]; exact post.now k (.bl _)⟩
  case ptr n =>
    obtain ⟨l, hl, post⟩ := RPost.opt (stLst st n) (fun l => ofOpt (inL d l) fun r => .val .P (.bl r) st) post
    obtain ⟨r, hr, post⟩ := RPost.opt (inL d l) (fun r => .val .P (.bl r) st) post
    obtain ⟨p, rfl, hp⟩ := hw.ptr
    obtain ⟨vs, hh, il⟩ := k.lst hp hl
    obtain ⟨a, b, c, e, f⟩ := inL_dp (w := .non) k.sf hv p vs hh il hr
    exact .inl ⟨_, _, a, b, c, e, by rw [← f]; exact post.now k (.bl _)⟩
  case str z =>
    cases d <;> try exact post.elim
    rename_i x
    obtain rfl := hv.str; obtain rfl := hw.str
    cases q : x.cps.toList with
    | nil => simp only [oIn, q] at post; exact post.elim
    | cons c l =>
      cases l with
      | nil =>
        simp only [oIn, q] at post
        have := one_sign q
        subst this
        exact .inr ⟨c, z, rfl, rfl, RPost.now k post (.bl _)⟩
      | cons b l => simp only [oIn, q] at post; exact post.elim
theorem d_notin : DOp G (rNotInA G.K) oNotIn := by
  intro W σ s st v w d d' k hv hw Q post
  cases d' <;> try exact post.elim
  case lst l =>
    obtain ⟨r, hr, post⟩ := RPost.opt (inL d l) (fun r => .val .P (.bl (!r)) st) post
    obtain ⟨p, vs, rfl, hp, hl⟩ := hw.lst k.sf
    obtain ⟨a, b, c, e, f⟩ := inL_dp (w := .non) k.sf hv p vs hp hl hr
    exact .inl ⟨_, _, a, b, c, e, by rw [← f]; exact post.now k (.bl _)⟩
  case ptr n =>
    obtain ⟨l, hl, post⟩ := RPost.opt (stLst st n) (fun l => ofOpt (inL d l) fun r => .val .P (.bl (!r)) st) post
    obtain ⟨r, hr, post⟩ := RPost.opt (inL d l) (fun r => .val .P (.bl (!r)) st) post
    obtain ⟨p, rfl, hp⟩ := hw.ptr
    obtain ⟨vs, hh, il⟩ := k.lst hp hl
    obtain ⟨a, b, c, e, f⟩ := inL_dp (w := .non) k.sf hv p vs hh il hr
    exact .inl ⟨_, _, a, b, c, e, by rw [← f]; exact post.now k (.bl _)⟩
  case str z =>
    cases d <;> try exact post.elim
    rename_i x
    obtain rfl := hv.str; obtain rfl := hw.str
    cases q : x.cps.toList with
    | nil => simp only [oNotIn, q] at post; exact post.elim
    | cons c l =>
      cases l with
      | nil =>
        simp only [oNotIn, q] at post
        have := one_sign q
        subst this
        exact .inr ⟨c, z, rfl, rfl, RPost.now k post (.bl _)⟩
      | cons b l => simp only [oNotIn, q] at post; exact post.elim
end
end Dn
namespace Dn
open PySem PySem.Spec PyProof.Rows L2
section
variable {G : Gm} {W : WX}
/-! ### sorted of whole numbers -/
def srt (ns : List Int) : List Int := ns.mergeSort (fun a b => decide (a ≤ b))
theorem srt_perm (ns : List Int) : (srt ns).Perm ns := List.mergeSort_perm _ _
theorem srt_pw (ns : List Int) : (srt ns).Pairwise (· ≤ ·) := by
  have := List.pairwise_mergeSort (le := fun a b : Int => decide (a ≤ b)) (by intro a b c; simp; omega) (by intro a b; simp; omega) ns
  simpa [srt] using this
theorem srt_is {ns ms : List Int} (h : ms.Perm ns) (p : ms.Pairwise (· ≤ ·)) : ms = srt ns :=
  List.Perm.eq_of_pairwise (le := (· ≤ ·)) (fun a b _ _ h1 h2 => Int.le_antisymm h1 h2) p (srt_pw ns) (h.trans (srt_perm ns).symm)
def oSorted : List D → Sto → ER
  | [.lst l], st => ofOpt (intsOf l) fun ns => if ns.length < 64 then .val .N (.lst ((srt ns).map .int)) st else .bad
  | _, _ => .bad
theorem c_sorted : DCal G (rSorted G.K) oSorted := by
  refine DCal.one1 (fun _ => rfl) (fun a b l _ => by cases a <;> rfl) fun W σ s st v d k hv Q post => ?_
  cases d <;> try exact post.elim
  rename_i l
  obtain ⟨p, vs, rfl, hp, hl⟩ := hv.lst k.sf
  obtain ⟨ns, h, post⟩ := RPost.opt (intsOf l) (fun ns => if ns.length < 64 then .val .N (.lst ((srt ns).map .int)) st else .bad) post
  obtain ⟨hlt, post⟩ := RPost.cond (ns.length < 64) (.val .N (.lst ((srt ns).map .int)) st) post
  have := intsOf_V h hl
  subst this
  refine ⟨p, ns, rfl, SqL.of hp, hlt, fun ms r hm hs hr => ?_⟩
  rw [srt_is hm hs]
  exact RPost.newL k post (IsL.ints _) hr
/-! ### list(range(n)) -/
def dLr (f : En → ER) : En → ER := fun E => match f E with
  | .val _ (.int n) st => if -4611686018427387904 ≤ n ∧ n ≤ 1000000 then .val .N (.lst (rangeD 0 n.toNat)) st else .bad
  | .exc c l st => .exc c l st
  | _ => .bad
theorem rg_isl {as : List Addr} {H : Hp} (n : Nat) : IsL G as H ((List.range n).map fun i => V.int (0 + (i : Nat))) (rangeD 0 n) := by
  unfold rangeD
  induction List.range n with
  | nil => exact .nil
  | cons i l ih => exact .cons (.int _) ih
theorem v_lr {ta : TE} {f : En → ER} (h : DEv G W ta f) : DEv G W (tLstRg (tRg1 ta)) (dLr f) := by
  intro s t σ e st E k Q post
  refine h s t σ e st E k _ ?_
  unfold dLr at post
  cases q : f ⟨e, st⟩ with
  | val m d st1 =>
    rw [q] at post
    cases d <;> first | exact post.elim | skip
    rename_i n
    obtain ⟨c, post⟩ := RPost.cond (-4611686018427387904 ≤ n ∧ n ≤ 1000000) (.val .N (.lst (rangeD 0 n.toNat)) st1) post
    intro t1 v g1 k1 o1
    obtain rfl := o1.u.int
    refine ⟨n, rfl, ⟨by decide, by decide, by omega, by omega, by omega⟩, fun r hr => ?_⟩
    have : rgV 0 n = (List.range n.toNat).map fun i => V.int (0 + (i : Nat)) := by unfold rgV; rw [Int.sub_zero]
    rw [this]
    exact (RPost.step g1 k1 post).newL k1 (rg_isl _) hr
  | exc c l st1 => rw [q] at post; exact post
  | bad => rw [q] at post; exact post
end
end Dn
namespace Dn
open PySem PySem.Spec PyProof.Rows L2 LamX
/-! ### a lambda handed to a def -/
structure Alike (G G' : Gm) : Prop where
  K : G'.K = G.K
  ca : G'.ca = G.ca
  fn : G'.fn = G.fn
  tb : G'.tb = G.tb
  ed : G'.ed = G.ed
  en : G'.en = G.en
  el : G'.el = G.el
theorem Alike.symm {G G' : Gm} (a : Alike G G') : Alike G' G := ⟨a.K.symm, a.ca.symm, a.fn.symm, a.tb.symm, a.ed.symm, a.en.symm, a.el.symm⟩
mutual
theorem Is.sw {G G' : Gm} (a : Alike G G') {as : List Addr} {H : Hp} : ∀ (d : D) {v : V}, Is G as H v d → Is G' as H v d
  | .non, _, h => by cases h; exact .non
  | .bl _, _, h => by cases h; exact .bl _
  | .int _, _, h => by cases h; exact .int _
  | .str _, _, h => by cases h; exact .str _
  | .tup ds, _, h => by cases h with | tup p b => exact .tup (by rw [a.K]; exact p) (IsL.sw a ds b)
  | .lst ds, _, h => by cases h with | lst p b => exact .lst p (IsL.sw a ds b)
  | .scr l, _, h => by cases h with | scr p => exact .scr (by rw [a.K]; exact p)
  | .ptr n, _, h => by cases h with | ptr p => exact .ptr p
  | .obj c ds, _, h => by cases h with | obj p l b => exact .obj (by rw [a.ca, a.fn]; exact p) (by rw [a.fn]; exact l) (IsL.sw a ds b)
theorem IsL.sw {G G' : Gm} (a : Alike G G') {as : List Addr} {H : Hp} : ∀ (ds : List D) {vs : List V}, IsL G as H vs ds → IsL G' as H vs ds
  | [], _, h => by cases h; exact .nil
  | d :: ds, _, h => by cases h with | cons p b => exact .cons (Is.sw a d p) (IsL.sw a ds b)
end
section
variable {G G' : Gm} (a : Alike G G')
include a
theorem ObOk.sw {s : Hs} {x : Addr} {o : Ob} (h : ObOk G s x o) : ObOk G' s x o := by
  cases o with
  | lst l => obtain ⟨vs, h1, h2⟩ := h; exact ⟨vs, h1, IsL.sw a _ h2⟩
  | ins c l => obtain ⟨dx, vs, h1, h2, h3⟩ := h; exact ⟨dx, vs, by rw [a.ca, a.fn]; exact h1, by rw [a.fn]; exact h2, IsL.sw a _ h3⟩
  | tbl q => exact h
theorem StOk.sw {s : Hs} {st : Sto} (k : StOk G s st) : StOk G' s st := ⟨k.sf, k.len, k.nd, fun n x o h1 h2 => ObOk.sw a (k.ob n x o h1 h2), k.nf, by rw [a.tb]; exact k.tb, fun da h => by
  rw [a.ed] at h
  obtain ⟨xs, h1, h2, h3⟩ := k.ex da h
  rw [a.en, a.el]
  exact ⟨xs, h1, h2, IsL.sw a _ h3⟩⟩
theorem VOk.sw {s t : Hs} {m : Md} {v : V} {d : D} (h : VOk G s t m v d) : VOk G' s t m v d := by
  cases m with
  | P => exact Is.sw a _ h
  | B => obtain ⟨p, vs, l, x, b, c, e, f⟩ := h; exact ⟨p, vs, l, x, b, c, IsL.sw a _ e, f⟩
  | N => obtain ⟨p, vs, l, x, b, c, e, f, n, z⟩ := h; exact ⟨p, vs, l, x, b, c, IsL.sw a _ e, f, n, z⟩
/-- a result that raises nothing -/
theorem RPost.sw {s : Hs} {σ σ' : L2.St} {Q : VK} {r : ER} (h : RPost G' W0 s σ Q r) : RPost G W0 s σ' Q r := by
  cases r with
  | val m d st => exact fun t v g k o => h t v g (StOk.sw a k) (VOk.sw a o)
  | exc c l st =>
    intro t x g k o
    refine h t x g (StOk.sw a k) ?_
    rcases o with o | ⟨da, xs, o1, o2, o3, o4, o5⟩
    · exact .inl o
    · exact .inr ⟨da, xs, o1, o2, by rw [a.fn]; exact o3, by rw [a.fn]; exact o4, IsL.sw a _ o5⟩
  | bad => exact h
end
def Gm.lam (G : Gm) (f : Addr) (σ : L2.St) (c : Addr) (q : Str) : Gm := { G with ea := f, cl := σ, cc := c, cq := q }
theorem lam_alike (G : Gm) (f : Addr) (σ : L2.St) (c : Addr) (q : Str) : Alike G (G.lam f σ c q) := ⟨rfl, rfl, rfl, rfl, rfl, rfl, rfl⟩
def slO : Option D → SL
  | some d => .val d
  | none => .emp
/-- what a lambda sees of its maker's slots -/
def cloOf (e : DE) : List (Option D) := e.map fun s => match s with | .val d => some d | _ => none
def cloE (ds : List (Option D)) (ja jb : Nat) (x y : D) : DE := ((ds.map slO).set ja (.val x)).set jb (.val y)
def startL (n : Nat) (d : D) (ds : List (Option D)) : DE := .val d :: .clo ds :: List.replicate (n - 2) .emp
section
variable {G : Gm}
theorem start_lam {N : List Str} {t : Hs} {st : Sto} {v1 : V} {d1 : D} {ds : List (Option D)} {f c : Addr} {σ : L2.St} {q : Str} (hN : 2 ≤ N.length) (k : StOk G t st) (h1 : Is G t.as t.f v1 d1) (hl : σ.length = ds.length) (hc : t.f c = some (CodeO c q))
    (hd : ∀ (i : Nat) (d : D), ds[i]? = some (some d) → ∃ v, σ[i]? = some (some v) ∧ Is G t.as t.f v d) : EnvOk (G.lam f σ c q) t t (L2.start N [v1, .ref f]) (startL N.length d1 ds) := by
  have a := lam_alike G f σ c q
  have noown : ∀ (j : Nat) (m : List D), (startL N.length d1 ds)[j]? ≠ some (.own m) := fun j m z => by
    unfold startL at z
    rcases j with _ | _ | j
    · simp at z
    · simp at z
    · simp only [List.getElem?_cons_succ, List.getElem?_replicate] at z
      split at z <;> cases z
  refine ⟨Gro.refl (StOk.sw a k), by simp [L2.start, startL], fun i o sl p b => ?_, fun i j p l m hij x b => absurd b (noown i l)⟩
  unfold startL at b
  rcases i with _ | _ | i
  · simp [L2.start] at p b
    subst p; subst b
    exact ⟨v1, rfl, Is.sw a _ h1⟩
  · simp [L2.start] at p b
    subst p; subst b
    refine ⟨rfl, hl, hc, fun i d h => ?_⟩
    obtain ⟨v, e1, e2⟩ := hd i d h
    exact ⟨v, e1, Is.sw a _ e2⟩
  · simp only [List.getElem?_cons_succ, List.getElem?_replicate] at b
    split at b
    · cases b; trivial
    · cases b
/-- the def calls what it got -/
def dHeld (i : Nat) (h : List (Option D) → D → D → Sto → ER) (fa : En → AR) : En → ER := fun E => match E.e[i]? with
  | some (.clo ds) => (match fa E with
    | .ok true [x, y] st => h ds x y st
    | .exc c l st => .exc c l st
    | _ => .bad)
  | _ => .bad
theorem v_held {i ja jb : Nat} {f c : Addr} {σ : L2.St} {q : Str} {ta : TA} {fa : En → AR} {tb : TE} {fb : En → ER} (ha : DAr (G.lam f σ c q) W0 ta fa) (hb : DEv G W0 tb fb) :
    DEv (G.lam f σ c q) W0 (fun σZ HZ Q => σZ[i]? = some (some (.ref f)) ∧ ta σZ HZ fun vs HZ1 => ∃ va vb, vs = [va, vb] ∧ HZ1 c = some (CodeO c q) ∧ tb ((σ.set ja (some va)).set jb (some vb)) HZ1 Q) (dHeld i (fun ds x y st => fb ⟨cloE ds ja jb x y, st⟩) fa) := by
  intro s t σZ e st E k Q post
  have al := lam_alike G f σ c q
  unfold dHeld at post
  split at post
  · rename_i ds hi
    obtain ⟨o, h1, h2, h3, h4, h5⟩ := E.slot hi
    have h2 : o = some (.ref f) := h2
    subst h2
    refine ⟨h1, ha s t σZ e st E k _ ?_⟩
    cases q2 : fa ⟨e, st⟩ with
    | ok b l st1 =>
      rw [q2] at post
      match b, l, post with
      | true, [x, y], post =>
        intro t1 vs g1 k1 i1 _
        have i1 := i1 rfl
        cases i1 with
        | cons ix i1 =>
          cases i1 with
          | cons iy i1 =>
            cases i1
            refine ⟨_, _, rfl, k1.sf _ _ (g1.f _ _ h4), ?_⟩
            have base : EnvOk G s t1 σ (ds.map slO) := by
              refine ⟨E.gr.trans g1, by rw [List.length_map]; exact h3, fun j o sl p b => ?_, fun j m p l l2 hjm x b => ?_⟩
              · rw [List.getElem?_map] at b
                cases hj : ds[j]? with
                | none => rw [hj] at b; cases b
                | some od =>
                  rw [hj] at b
                  cases od with
                  | none => cases b; trivial
                  | some d =>
                    cases b
                    obtain ⟨v, e1, e2⟩ := h5 j d hj
                    have e1 : σ[j]? = some (some v) := e1
                    rw [p] at e1; cases e1
                    exact ⟨v, rfl, (Is.sw al.symm _ e2).up g1.a g1.f⟩
              · rw [List.getElem?_map] at b
                cases hj : ds[j]? with
                | none => rw [hj] at b; cases b
                | some od => rw [hj] at b; cases od <;> cases b
            have E1 := (base.set (i := ja) (x := .val x) ⟨_, rfl, Is.sw al.symm _ ix⟩ (fun l z => nomatch z)).set (i := jb) (x := .val y) ⟨_, rfl, Is.sw al.symm _ iy⟩ (fun l z => nomatch z)
            exact hb s t1 _ _ st1 E1 (StOk.sw al.symm k1) Q (RPost.sw al (RPost.step g1 k1 post))
      | true, [], post => exact post.elim
      | true, [_], post => exact post.elim
      | true, _ :: _ :: _ :: _, post => exact post.elim
      | false, l, post => exact post.elim
    | exc c l st1 => rw [q2] at post; exact post
    | bad => rw [q2] at post; exact post
  · exact post.elim
/-- x(e, lambda ..): g is the def's body, the lambda told in it -/
def valOnly : ER → ER
  | .val m d st => .val m d st
  | _ => .bad
def dLamC (np : Nat) (q : Str) (N : Nat) (g : En → SR) (f1 : En → ER) : En → ER := fun E => match f1 E with
  | .val .B _ _ => .bad
  | .val _ d1 st => (match st[np]? with
    | some (.tbl q') => if q' = q then valOnly (g ⟨startL N d1 (cloOf E.e), st⟩).ret else .bad
    | _ => .bad)
  | .exc c l st => .exc c l st
  | .bad => .bad
def TTd (G : Gm) (q : Str) (N : Nat) (g : En → SR) : Addr → Addr → L2.St → V → Hp → VK → Prop := fun f c' σ v1 H1 Q => ∃ (t : Hs) (st : Sto) (d1 : D) (ds : List (Option D)), t.h = H1 ∧ StOk G t st ∧ Is G t.as t.f v1 d1 ∧ σ.length = ds.length ∧ t.f c' = some (CodeO c' q) ∧
  (∀ (i : Nat) (d : D), ds[i]? = some (some d) → ∃ v, σ[i]? = some (some v) ∧ Is G t.as t.f v d) ∧ RPost G W0 t σ Q (valOnly (g ⟨startL N d1 ds, st⟩).ret)
theorem upd_comm {H : Hp} {a b : Addr} {x y : HO} (h : a ≠ b) : upd (upd H a x) b y = upd (upd H b y) a x := by
  funext c
  by_cases e1 : c = a
  · subst e1; rw [upd_ne h, upd_same, upd_same]
  · by_cases e2 : c = b
    · subst e2; rw [upd_same, upd_ne e1, upd_same]
    · rw [upd_ne e2, upd_ne e1, upd_ne e1, upd_ne e2]
theorem RPost.val_w {W W' : WX} {s : Hs} {σ σ' : L2.St} {Q : VK} {r : ER} (h : RPost G W s σ Q (valOnly r)) : RPost G W' s σ' Q (valOnly r) := by
  cases r with
  | val m d st => exact h
  | exc c l st => exact h.elim
  | bad => exact h.elim
theorem cloOf_ok {s t : Hs} {σ : L2.St} {e : DE} (E : EnvOk G s t σ e) : σ.length = (cloOf e).length ∧ ∀ (i : Nat) (d : D), (cloOf e)[i]? = some (some d) → ∃ v, σ[i]? = some (some v) ∧ Is G t.as t.f v d := by
  refine ⟨by rw [E.len]; simp [cloOf], fun i d h => ?_⟩
  unfold cloOf at h
  rw [List.getElem?_map] at h
  cases hs : e[i]? with
  | none => rw [hs] at h; cases h
  | some sl =>
    rw [hs] at h
    cases sl <;> cases h
    obtain ⟨o, h1, v, rfl, h2⟩ := E.slot hs
    exact ⟨v, h1, h2⟩
theorem v_lamC {W : WX} {np : Nat} {q : Str} {P : Addr} {N : Nat} {g : En → SR} {t1 : TE} {f1 : En → ER} (hP : G.tb[np]? = some P) (h1 : DEv G W t1 f1) : DEv G W (LamP.tLam3 q P t1 (TTd G q N g)) (dLamC np q N g f1) := by
  intro s t σ e st E k Q post
  refine h1 s t σ e st E k _ ?_
  unfold dLamC at post
  cases q1 : f1 ⟨e, st⟩ with
  | exc c l st1 => rw [q1] at post; exact post
  | bad => rw [q1] at post; exact post
  | val m d1 st1 =>
    rw [q1] at post
    intro ta v1 ga ka oa
    have key : ∀ (tf : Hs), Gro t tf → StOk G tf st1 → Is G tf.as tf.f v1 d1 → tf.h = ta.h → RPost G W t σ Q (match st1[np]? with
        | some (.tbl q') => if q' = q then valOnly (g ⟨startL N d1 (cloOf e), st1⟩).ret else .bad
        | _ => .bad) → ∃ ps : Array Value, ta.h P = some (.tbl ps) ∧ TriplesOk ps.toList ∧ (∀ (pos : Pos) (cv : Value), codeAmong pos ps.toList = some cv → ∃ c, cv = .ref c ∧ ta.h c = some (CodeO c q)) ∧ ∀ f c' H1, LamP.Made q P ps ta.h H1 c' → H1 f = none → TTd G q N g f c' σ v1 H1 Q := by
      intro tf gf kf i1 eh post
      cases hs : st1[np]? with
      | none => simp only [hs] at post; exact post.elim
      | some o =>
        simp only [hs] at post
        cases o with
        | lst l => exact post.elim
        | ins c l => exact post.elim
        | tbl q' =>
          obtain ⟨hq, post2⟩ := RPost.cond _ _ post
          clear post
          subst hq
          have hPa := kf.tb np P hP
          obtain ⟨ps, p1, p2, p3⟩ := kf.ob np P _ hPa hs
          rw [← eh]
          refine ⟨ps, p1, p2, fun pos cv hc => ?_, fun f c' H1 hm hf => ?_⟩
          · obtain ⟨c, c1, c2⟩ := p3 pos cv hc
            exact ⟨c, c1, kf.sf _ _ c2⟩
          · obtain ⟨cl, cd⟩ := cloOf_ok (E.up gf)
            rcases hm with ⟨ps', rfl, nC, nP, m1, m2⟩ | ⟨rfl, pos, hc⟩
            · have g1 := Gro.new (o := CodeO c' q') kf nC
              have k1 := kf.grow (o := CodeO c' q') nC
              have g2 := Gro.mod (o := .tbl ps') (Gro.refl k1) k1 hPa
              have k2 := StOk.mod (o := .tbl ps') (b := .tbl q') k1 hPa ⟨ps', upd_same, m1, fun pos cv hc => by
                rcases m2 pos cv hc with z | z
                · obtain ⟨c, c1, c2⟩ := p3 pos cv z
                  exact ⟨c, c1, g1.f _ _ c2⟩
                · exact ⟨c', z, upd_same⟩⟩
              have hset : st1.set np (.tbl q') = st1 := by
                apply List.ext_getElem?
                intro j
                by_cases z : np = j
                · subst z
                  rw [List.getElem?_set_self (List.getElem?_eq_some_iff.mp hs).1, hs]
                · rw [List.getElem?_set_ne z]
              rw [hset] at k2
              have g12 := g1.trans g2
              refine ⟨_, st1, d1, cloOf e, upd_comm nP, k2, i1.up g12.a g12.f, cl, upd_same, fun i d h => ?_, RPost.val_w (RPost.step (gf.trans g12) k2 post2)⟩
              obtain ⟨v, a1, a2⟩ := cd i d h
              exact ⟨v, a1, a2.up g12.a g12.f⟩
            · obtain ⟨c, c1, c2⟩ := p3 pos _ hc
              cases c1
              exact ⟨tf, st1, d1, cloOf e, rfl, kf, i1, cl, c2, cd, RPost.val_w (RPost.step gf kf post2)⟩
    cases m with
    | B => exact post.elim
    | P => exact key ta ga ka oa rfl post
    | N =>
      obtain ⟨f2, g2, k2, _, i2⟩ := oa.freeze ga ka (by decide)
      exact key ⟨ta.as, f2, ta.h⟩ g2 k2 i2 rfl post
/-- the body of the def, run -/
theorem lam_body {q : Str} {N : List Str} {g : En → SR} {ts : TS} {f c' : Addr} {σ : L2.St} {v1 : V} {H1 : Hp} {Q : VK} {D0 : Ends} (hN : 2 ≤ N.length) (hb : DSt (G.lam f σ c' q) W0 ts g) (hnx : D0.nx = fun _ H => Q .non H) (hrt : D0.rt = Q) (h : TTd G q N.length g f c' σ v1 H1 Q) : ts D0 (L2.start N [v1, .ref f]) H1 := by
  obtain ⟨t, st, d1, ds, rfl, k, i1, hl, hc, hd, post⟩ := h
  have al := lam_alike G f σ c' q
  refine hb t t _ _ st (start_lam hN k i1 hl hc hd) (StOk.sw al k) _ ?_
  cases q2 : g ⟨startL N.length d1 ds, st⟩ with
  | nx e => rw [q2] at post; exact fun t' σ' s' E' k' => by rw [hnx]; exact post t' .non E'.gr (StOk.sw al.symm k') .non
  | rt m d st1 => rw [q2] at post; exact fun t' v s' g' k' o => by rw [hrt]; exact post t' v g' (StOk.sw al.symm k') (VOk.sw al.symm o)
  | bk e => rw [q2] at post; exact post.elim
  | ct e => rw [q2] at post; exact post.elim
  | exc c l e => rw [q2] at post; exact post.elim
  | bad => rw [q2] at post; exact post.elim
end
end Dn
namespace Dn
open PySem PySem.Spec PyProof.Rows L2 LamX
section
variable {G : Gm} {W : WX}
/-! ### what is never come to -/
def sBad : En → SR := fun _ => .bad
theorem s_never : DSt G W tNever sBad := fun _ _ _ _ _ _ _ _ post => post.elim
def dBad : En → ER := fun _ => .bad
def tNeverE : TE := fun _ _ _ => False
theorem pe_neverE {X : Cx} {e : Expr} : PE X e tNeverE := ⟨fun _ _ _ _ _ _ h => h.elim⟩
theorem v_neverE : DEv G W tNeverE dBad := fun _ _ _ _ _ _ _ _ post => post.elim
end
/-! ### a def that makes lambdas: its code is known -/
structure FunC (K : PySem.W.Frag) (x qual : Str) (st : Stmt) (f : Addr) (fd : FuncData) (c : Addr) : Prop where
  ex : ∃ (oc : Value) (od : Option Addr) (kV doc pm : Value) (an : Option Addr) (ct : Value) (osl : Array (Option Value)),
    fd = PySem.W.fnOf x qual (defArgs st) (defBody st) (defScope st) .none kV doc pm an (.ref c) ct ∧ K.lookup f = some ⟨oc, od, .func fd, osl⟩ ∧ PySem.W.codeIn K (.ref c) qual = true
  kp : PySem.W.keepIn K (.ref f) = true
theorem fn_okC {G : Gm} {P : Program} {w : World} {K : PySem.W.Frag} {mg : Str → Option Value} {base : Heap} {x qual : Str} {st : Stmt} {f c : Addr} {fd : FuncData} {N ps : List Str} {k : Nat} {g : En → SR} {n : Nat} (hn : ps.length = n) {m : Nat} (hm : N.length = m)
    (F : FunC K x qual st f fd c) (S : FnScope N ps (defScope st))
    (hbody : ∀ (A : Around) (outer : List Env) (s : Shared) (H : Hp) (E : XK), Room k (A.deeper (envOfC qual (defScope st) s.heap.objs.size f (.ref c))) →
      ∃ t, PSs (cxOf (L2.CX P w) P w K mg base N qual (defScope st) f (.ref c) A outer s H E) (defBody st) t ∧ DSt G (fun c x _ H => E c x H) t g) : FnOk P w K mg base (L2.CX P w) (k + 1) f fd ps (spF G (fnD n m g)) := by
  subst hn hm
  obtain ⟨oc, od, kV, doc, pm, an, ct, osl, rfl, lk, hcd⟩ := F.ex
  refine fn_of lk hcd S (fun vs H Q E h => sp_len h) fun A outer s H vs Q E hr h => ?_
  obtain ⟨t, h1, h2⟩ := hbody A outer s H E hr
  exact ⟨t, h1, body_ok h2 rfl rfl h⟩
theorem lamcallF {X : Cx} {x : Str} {st : Stmt} {fd : FuncData} {g c P : Addr} {k : Nat} {Ng : List Str} {pa pb a b : Str} {e1 : Expr} {t1 : TE} {TT : Addr → Addr → L2.St → V → Hp → VK → Prop}
    {params : Arguments} {body : Expr} {scope : Scope} {p lpos pos : Pos} (hg : Gl X x) (hm : X.mg x = some (.ref g)) (F : Fun X.K x x st g fd) (hb : L2.Binds X.K fd [pa, pb] []) (Sg : FnScope Ng [pa, pb] (defScope st))
    (he1 : PE X e1 t1) (TB : TabB X.base X.mg c P) (hcode : X.env.code = .ref c) (hr : Room (k + 2) X.A) (L : LamP.LamN X.env.scope scope a b) (hdef : defaultsOf params X.env = ([], []))
    (hG : ∀ (cdg : Value) (pins : List (Addr × Obj)) (s' : Shared) (σ : L2.St) (H1 : Hp) (f c' : Addr) (pm ctv : Value) (v1 : V) (Q : VK), Inv X pins σ H1 s' → s'.heap.get? f = some (PySem.W.kla_obj "<lambda>" (X.env.qual ++ "<lambda>") params body scope (cloFrom X.env.cells scope.names []) pm c' ctv) → H1 f = none → f ∉ frs X.stack →
      Room (k + 1) (X.A.deeper (envOfC x (defScope st) s'.heap.objs.size g cdg)) → TT f c' σ v1 H1 Q →
      ∃ t, PSs (cxOf (L2.CX X.prog X.w) X.prog X.w X.K X.mg X.base Ng x (defScope st) g cdg X.A X.stack s' H1 (fun _ _ _ => False)) (defBody st) t ∧ t { nx := fun _ H' => Q .non H', rt := Q } (L2.start Ng [v1, .ref f]) H1)
    (hdb : (x == ("__debug__" : Str)) = false := by decide) (hs1 : starEach [e1, .Lambda params body scope lpos] X.env = (false, eval e1 X.env) :: starEach [.Lambda params body scope lpos] X.env := by rfl) :
    PE X (.Call (.Name x p) [e1, .Lambda params body scope lpos] [] pos) (LamP.tLam3 (X.env.qual ++ "<lambda>") P t1 TT) := by
  obtain ⟨oc, od, kV, doc, pm, an, cdv, ct, osl, rfl, lk, hcd⟩ := F.ex
  exact LamP.lamcall3 hg hm F.kp lk hcd hb Sg he1 TB hcode hr L hdef (hG cdv) hdb hs1
/-! ### the end, with tables -/
def spLawT (K : PySem.W.Frag) (Ps : List Addr) : Sp := fun vs H Q _ => ∃ (a : Addr) (ns : List Int), vs = [.ref a] ∧ SqL K H a (ns.map V.int) ∧ ns.length ≤ 63 ∧ (∀ z ∈ ns, Builtin.Int.intBits z ≤ 1048576) ∧ (∀ P ∈ Ps, H P = some (.tbl #[])) ∧ ∀ H', Q (.bl true) H'
theorem law_impT {G : Gm} {F : List D → Sto → ER} (qs : List Str) (hq : G.tb.length = qs.length) (hn : G.tb.Nodup) (hF : ∀ ns : List Int, ns.length ≤ 63 → (∀ z ∈ ns, Builtin.Int.intBits z ≤ 1048576) → Yes (F [.scr ns] (qs.map .tbl))) (vs : List V) (H : Hp) (Q : VK) (E : XK) (h : spLawT G.K G.tb vs H Q E) (hE : G.ed = none := by rfl) : spF G F vs H Q E := by
  obtain ⟨a, ns, rfl, hS, h1, h2, hT, k⟩ := h
  obtain ⟨st, hF⟩ := hF ns h1 h2
  let f : Hp := fun x => if x ∈ G.tb then none else H x
  have fo : ∀ x o, f x = some o → H x = some o := fun x o e => by
    have e : (if x ∈ G.tb then none else H x) = some o := e
    split at e
    · cases e
    · exact e
  have hi : ∀ x o, H x = some o → (∀ ps, o ≠ .tbl ps) → f x = some o := fun x o e n => by
    show (if x ∈ G.tb then none else H x) = some o
    split
    · rename_i m
      rw [hT x m] at e; cases e
      exact absurd rfl (n #[])
    · exact e
  have hS' : SqL G.K f a (ns.map V.int) := by
    rcases hS with (h | ⟨o, h⟩) | h
    · exact .inl (.inl (hi _ _ h fun ps z => nomatch z))
    · exact .inl (.inr ⟨o, hi _ _ h fun ps z => nomatch z⟩)
    · exact .inr h
  refine ⟨⟨G.tb, f, H⟩, [.scr ns], qs.map .tbl, rfl, ⟨fo, by simpa using hq, hn, fun n x o h1 h2 => ?_, fun x m => if_pos m, fun n P h => h, fun da h => by rw [hE] at h; cases h⟩, .cons (.scr hS') .nil, ?_⟩
  · rw [List.getElem?_map] at h2
    cases q : qs[n]? with
    | none => rw [q] at h2; cases h2
    | some w =>
      rw [q] at h2; cases h2
      exact ⟨#[], hT x (List.mem_iff_getElem?.mpr ⟨n, h1⟩), True.intro, fun pos cv hc => by cases hc⟩
  · rw [hF]
    intro t v g k' o
    cases o
    exact k t.h
theorem walkT {k : Nat} (hk : Room k callerA) {l : PySem.W.OpenLaw} {q : Program} {loose : List Str} {XP : (Str → Option Value) → Heap → Prop} {YP : World → Heap → Prop} {d : DefRec} {K : Params → PySem.W.Frag} {x : Str} (hn : l.most = some 63) (hdf : d.params.defaults = [])
    (hY : ∀ (w : World) (h : Heap), YP w h → (K w.params).In h)
    (F : ∀ (w : World) (mg : Str → Option Value) (fa : Addr) (h : Heap), YP w h → (K w.params).In h → h.Ns mainGlobals mg → mg d.name = some (.ref fa) →
      ∃ (fd : FuncData) (cs : List (Addr × Addr)), (∀ p ∈ cs, h.get? p.2 = some { cls := .none, data := .fields #[] }) ∧ (∀ p ∈ cs, (K w.params).lookup p.2 = none) ∧ (∀ p ∈ cs, PySem.W.CodeHd h p.1 p.2) ∧ (∀ (s : Shared) (u : Value), BindsTo s fd ⟨[u], []⟩ [(x, u)]) ∧
        ∀ base : Heap, (K w.params).In base → base.Ns mainGlobals mg → (∀ p ∈ cs, TabB base mg p.1 p.2) → FnOk l.prog w (K w.params) mg base (L2.CX l.prog w) k fa fd [x] (spLawT (K w.params) (cs.map (·.2)))) :
    PySem.W.WalkO q loose XP YP l.row.toRowW d [] (fun f vs => PySem.call f vs) :=
  LamX.walk_ofTs (n := 63) (k := k) (x := x) (CX := fun w => L2.CX l.prog w) hn (by decide) hdf hk hY (fun w mg fa h Y KX hG hmg => by
    obtain ⟨fd, cs, h1, h2, h3, h4, h5⟩ := F w mg fa h Y KX hG hmg
    refine ⟨fd, cs, spLawT (K w.params) (cs.map (·.2)), h1, h2, h3, h4, fun H a ns hl hb hT hS => ⟨a, ns, rfl, hS, hl, hb, fun P hP => ?_, fun _ => rfl⟩, h5⟩
    obtain ⟨p, hp, rfl⟩ := List.mem_map.mp hP
    exact hT p hp) fun w H s e s' h => by
    obtain ⟨_, _, _, _, _, _, _, _, _, _, _, _, z⟩ := h
    exact z.elim
end Dn
namespace Dn
open PySem PySem.Spec PyProof.Rows L2
section
variable {G : Gm} {W : WX}
/-! ### a list of the store, walked: it must stay as it is meanwhile -/
def ItOkC (G : Gm) (C : Sto → Prop) (t1 : Hs) (J : It) (l : List D) : Prop := ∀ (i : Nat) (t : Hs) (st : Sto), Up t1 t → StOk G t st → C st → (l.length ≤ i → J.stop i t.h) ∧
  ∀ d, l[i]? = some d → J.go i t.h ∧ ∀ x H', J.yld i t.h x H' → ∃ t', t'.h = H' ∧ Gro t t' ∧ StOk G t' st ∧ Is G t'.as t'.f x d
theorem it_ptr {t1 : Hs} {n : Nat} {p : Addr} {l : List D} (hp : t1.as[n]? = some p) : ItOkC G (fun st => stLst st n = some l) t1 (Itl G.K p) l := by
  intro i t st u k hc
  obtain ⟨vs, hh, il⟩ := k.lst (u.a n p hp) hc
  refine ⟨fun hi => ⟨vs, SqL.of hh, by rw [il.len]; exact hi⟩, fun d hd => ?_⟩
  obtain ⟨v, v1, v2⟩ := il.get hd
  refine ⟨⟨vs, v, SqL.of hh, v1⟩, fun y H' z => ?_⟩
  obtain ⟨rfl, z⟩ := z
  have := z vs (SqL.of hh)
  rw [v1] at this; cases this
  exact ⟨t, rfl, Gro.refl k, k, v2⟩
open Classical in
noncomputable def forPD (n : Nat) (L : List D) (b : D → En → SR) : List D → En → SR
  | [], E => if stLst E.st n = some L then .nx E else .bad
  | x :: xs, E => if stLst E.st n = some L then (match b x E with
    | .nx E' => forPD n L b xs E'
    | .ct E' => forPD n L b xs E'
    | .bk E' => .nx E'
    | r => r) else .bad
/-- the same as over a frozen list, where nothing touches it -/
theorem forPD_eq {n : Nat} {L : List D} {b : D → En → SR} (h : ∀ x E E', stLst E.st n = some L → (b x E = .nx E' ∨ b x E = .ct E') → stLst E'.st n = some L) : ∀ (xs : List D) (E : En), stLst E.st n = some L → forPD n L b xs E = forD b xs E
  | [], E, hE => by simp [forPD, forD, hE]
  | x :: xs, E, hE => by
    unfold forPD forD
    rw [if_pos hE]
    cases q : b x E with
    | nx E' => exact forPD_eq h xs E' (h x E E' hE (.inl q))
    | ct E' => exact forPD_eq h xs E' (h x E E' hE (.inr q))
    | bk E' => rfl
    | rt m d st => rfl
    | exc c l E' => rfl
    | bad => rfl
noncomputable def sForX (f : En → ER) (t : D → DE → Option DE) (b : En → SR) : En → SR := fun E => match f E with
  | .val _ (.ptr n) st => (match stLst st n with | some l => forPD n l (tgB t b) l ⟨E.e, st⟩ | none => .bad)
  | _ => sFor (dIter f) t b E
theorem s_forX {te : TE} {g : TG} {tb : TS} {f : En → ER} {js : List Nat} {t : D → DE → Option DE} {b : En → SR} (hf : DEv G W te f) (hg : DTg G g js t) (hb : DSt G W tb b) : DSt G W (tFor (iAny G.K te) g tb) (sForX f t b) := by
  intro s t0 σ e st E k0 N post
  unfold sForX at post
  split at post
  · rename_i m n st1 q
    refine .inl (hf s t0 σ e st E k0 _ ?_)
    rw [q]
    intro t1 v g1 k1 o1
    obtain ⟨p, rfl, hp⟩ := o1.u.ptr
    cases hl : stLst st1 n with
    | none => simp only [hl] at post; exact post.elim
    | some l =>
      simp only [hl] at post
      have it := it_ptr (G := G) (l := l) hp
      obtain ⟨vs0, hh0, _⟩ := k1.lst hp hl
      refine ⟨p, rfl, ⟨vs0, SqL.of hh0⟩, ?_⟩
      have post : SPost G W s t0 N (forPD n l (tgB t b) l ⟨e, st1⟩) := post
      have cnd : ∀ {t2 : Hs} {xs : List D} {F : En}, SPost G W s t2 N (forPD n l (tgB t b) xs F) → stLst F.st n = some l := fun {t2 xs F} h => by
        by_cases c : stLst F.st n = some l
        · exact c
        · cases xs <;> (unfold forPD at h; rw [if_neg c] at h; exact h.elim)
      refine ⟨fun i m σ H => m = l.length - i ∧ i ≤ l.length ∧ ∃ t2 E2, t2.h = H ∧ Up t1 t2 ∧ EnvOk G s t2 σ E2.e ∧ StOk G t2 E2.st ∧ SPost G W s t2 N (forPD n l (tgB t b) (l.drop i) E2),
        ⟨l.length, by simp, Nat.zero_le _, t1, ⟨e, st1⟩, rfl, Up.refl _, E.up g1, k1, SPost.mono g1.up post⟩, ?_⟩
      rintro i m σ2 H2 ⟨rfl, hi, t2, F2, rfl, s2, E2, k2, p2⟩
      have c2 := cnd p2
      obtain ⟨i1, i2⟩ := it i t2 F2.st s2 k2 c2
      by_cases hlt : i < l.length
      · right
        have hd : l[i]? = some l[i] := List.getElem?_eq_getElem hlt
        obtain ⟨go, y⟩ := i2 _ hd
        rw [List.drop_eq_getElem_cons hlt] at p2
        refine ⟨go, fun σ' H' => i + 1 ≤ l.length ∧ ∃ t2 E2, t2.h = H' ∧ Up t1 t2 ∧ EnvOk G s t2 σ' E2.e ∧ StOk G t2 E2.st ∧ SPost G W s t2 N (forPD n l (tgB t b) (l.drop (i + 1)) E2), fun σ' H' h => ⟨l.length - (i + 1), by omega, rfl, h⟩, fun x H' hy => ?_⟩
        obtain ⟨t3, rfl, g3, k3, i3⟩ := y x H' hy
        unfold forPD at p2
        rw [if_pos c2] at p2
        cases q3 : t l[i] F2.e with
        | none =>
          have tgb : tgB t b l[i] F2 = .bad := by unfold tgB; rw [q3]
          rw [tgb] at p2
          exact p2.elim
        | some e3 =>
          have tgb : tgB t b l[i] F2 = b ⟨e3, F2.st⟩ := by unfold tgB; rw [q3]
          refine hg s t3 σ2 F2.e F2.st x l[i] (E2.up g3) k3 i3 _ e3 q3 fun σ4 E4 _ _ => ?_
          refine hb s t3 σ4 e3 F2.st E4 k3 _ ?_
          have p4 := SPost.mono g3.up p2
          rw [tgb] at p4
          have s3 := s2.trans g3.up
          cases q5 : b ⟨e3, F2.st⟩ with
          | nx e5 => rw [q5] at p4; exact fun t6 σ6 s6 E6 k6 => ⟨hlt, t6, e5, rfl, s3.trans s6, E6, k6, SPost.mono s6 p4⟩
          | ct e5 => rw [q5] at p4; exact fun t6 σ6 s6 E6 k6 => ⟨hlt, t6, e5, rfl, s3.trans s6, E6, k6, SPost.mono s6 p4⟩
          | bk e5 => rw [q5] at p4; exact p4
          | rt m d st => rw [q5] at p4; exact p4
          | exc c l e => rw [q5] at p4; exact p4
          | bad => rw [q5] at p4; exact p4
      · left
        have : i = l.length := by omega
        subst this
        refine ⟨i1 (Nat.le_refl _), ?_⟩
        rw [List.drop_length] at p2
        unfold forPD at p2
        rw [if_pos c2] at p2
        exact p2 t2 σ2 (Up.refl _) E2 k2
  · exact s_for (i_any hf) hg hb s t0 σ e st E k0 N post
/-! ### ==, != of a list of the store -/
def deref (st : Sto) (d : D) : D := match d with
  | .ptr n => (match stLst st n with | some l => .lst l | none => .ptr n)
  | d => d
def oEqX (a b : D) (st : Sto) : ER := oEq (deref st a) (deref st b) st
def oNeX (a b : D) (st : Sto) : ER := oNe (deref st a) (deref st b) st
theorem deref_u {s : Hs} {st : Sto} {v : V} {d : D} (k : StOk G s st) (h : U G s v d) : (∃ n l, d = .ptr n ∧ deref st d = .lst l ∧ ∃ p vs, v = .ref p ∧ s.h p = some (.lst vs) ∧ IsL G s.as s.f vs l) ∨ deref st d = d := by
  cases d with
  | ptr n =>
    have e : deref st (.ptr n) = (match stLst st n with | some l => .lst l | none => .ptr n) := rfl
    cases hl : stLst st n with
    | none => exact .inr (by rw [e, hl])
    | some l =>
      obtain ⟨p, rfl, hp⟩ := h.ptr
      obtain ⟨vs, hh, il⟩ := k.lst hp hl
      exact .inl ⟨n, l, rfl, by rw [e, hl], p, vs, rfl, hh, il⟩
  | _ => exact .inr rfl
theorem dp_x {s : Hs} {st : Sto} {v : V} {d : D} (k : StOk G s st) (q : isPy (deref st d) = true) (h : U G s v d) : Dp G.K s.h v (py (deref st d)) := by
  rcases deref_u k h with ⟨n, l, rfl, e, p, vs, rfl, hh, il⟩ | e
  · rw [e] at q ⊢
    exact .lst (SqL.of hh) (dpL_of k.sf l (by simpa [isPy] using q) il)
  · rw [e] at q ⊢
    exact dp_u k.sf q h
theorem scal_x {s : Hs} {st : Sto} {v w : V} {a b : D} (k : StOk G s st) (h : scalD (deref st a) (deref st b) = true) (hv : U G s v a) (hw : U G s w b) : scal v w = true ∧ decide (v = w) = eqF (deref st a) (deref st b) := by
  rcases deref_u k hv with ⟨n, l, rfl, e, _⟩ | e
  · rw [e] at h; cases hb : deref st b <;> rw [hb] at h <;> cases h
  · rcases deref_u k hw with ⟨n, l, rfl, e2, _⟩ | e2
    · rw [e2] at h; cases ha : deref st a <;> rw [ha] at h <;> cases h
    · rw [e, e2] at h ⊢
      exact scal_of h hv hw
theorem d_eqX : DOp G (rEqA G.K) oEqX := by
  intro W σ s st v w d d' k hv hw Q post
  unfold oEqX oEq eqAny at post
  by_cases h : scalD (deref st d) (deref st d') = true
  · obtain ⟨h1, h2⟩ := scal_x k h hv hw
    rw [if_pos h] at post
    exact .inl ⟨h1, by rw [h2]; exact RPost.now k post (.bl _)⟩
  · rw [if_neg h] at post
    split at post
    · rename_i r hr
      split at hr
      · rename_i q
        cases hr
        exact .inr ⟨_, _, dp_x k q.1 hv, dp_x k q.2.1 hw, q.2.2.1, q.2.2.2, post.now k (.bl _)⟩
      · cases hr
    · exact post.elim
theorem d_neX : DOp G (rNeA G.K) oNeX := by
  intro W σ s st v w d d' k hv hw Q post
  unfold oNeX oNe eqAny at post
  by_cases h : scalD (deref st d) (deref st d') = true
  · obtain ⟨h1, h2⟩ := scal_x k h hv hw
    rw [if_pos h] at post
    exact .inl ⟨h1, by rw [h2]; exact RPost.now k post (.bl _)⟩
  · rw [if_neg h] at post
    split at post
    · rename_i r hr
      split at hr
      · rename_i q
        cases hr
        exact .inr ⟨_, _, dp_x k q.1 hv, dp_x k q.2.1 hw, q.2.2.1, q.2.2.2, post.now k (.bl _)⟩
      · cases hr
    · exact post.elim
end
end Dn
/-! len(o), o == x, o != x, str(o) by the class's own methods -/
namespace Dn
open PySem PySem.Spec PySem.Calls PyProof.Rows L2
section
variable {prog : Program} {w : World} {A : Around} {E : Value → Shared → Prop} {s : Shared} {K : PySem.W.Frag} {x C L f : Addr} {h₀ : Heap} {m : Str → Option Value} {ox : Obj} {od : Option Obj} {b tb : Value}
theorem ifBound_slot {M : Model} {name : Str} {id : String} {args : List Value} {Q : Option Value → Shared → Prop} (X : K.In s.heap) (I : PySem.W.InstAt s.heap x ox C od) (hs : PySem.W.findIn K (.ref C) name = some (some (.builtin id)))
    (hb : ∀ self, bindSpecial (.builtin id) self = pure (.builtin id, [self])) (h : wpAny M A (call (.builtin id) (.ref x :: args)) (fun v => Q (some v)) E s) : wpAny M A (callSpecialIfBound? (.ref x) name args) Q E s := by
  simp only [callSpecialIfBound?, bindSpecialIfBound?]
  refine wpAny_holding (wpAny_bind (wpAny_bind (wpAny_bind (I.type.here ((PySem.W.looks_findIn X hs).here ?_)))))
  refine wpAny_bind (wpAny_askSetting (wpAny_ite ?_))
  have fin : wpAny M A (call (.builtin id) ([.ref x] ++ args) >>= fun v => pure (some v)) Q E s := wpAny_bind (wpAny_mono h (fun v s' h' => wpAny_pure h') fun _ _ h' => h')
  split
  · exact wpAny_bind ((PySem.W.Looks.of_pure (hb _)).here (wpAny_pure (by exact fin)))
  · exact wpAny_tryCatch (wpAny_bind ((PySem.W.Looks.of_pure (hb _)).here (wpAny_pure (by exact fin))))
theorem ne_K {Q : Value → Shared → Prop} (hu : A.units + 1 < cLine) (F : Fr h₀ L s.heap m) (X₀ : K.In h₀) (I : PySem.W.InstAt s.heap x ox C od) (hb : PySem.W.Looks (model prog w) s.heap (typeOf b) tb) (hn : PySem.W.notFirst K C tb = true)
    (hs : PySem.W.findIn K (.ref C) "__eq__" = some (some (.ref f))) (hf : PySem.W.isFn K (.ref f) = true) (hne : PySem.W.findIn K (.ref C) "__ne__" = some (some (.builtin "object.__ne__"))) (hm : PySem.W.mroIn K C (.type "object") = some true)
    (h : wpAny (model prog w) A.in1 (call (.ref f) [.ref x, b]) (fun v s' => ∃ r, v = .bool r ∧ Q (.bool (!r)) s') E s) : wpAny (model prog w) A (richCompare .NotEq (.ref x) b) Q E s := by
  have X := X₀.keeps F.keep
  have ent : wpAny (model prog w) A.in1 (Builtin.«object.__ne__» ⟨[.ref x, b], []⟩) (fun fin s' => ∃ v, fin = .done (.ret (.bool v)) ∧ Q (.bool v) s') E s := by
    unfold Builtin.«object.__ne__»
    refine wpAny_bind (m := slotArgs "__ne__" 1 _) (wpAny_pure ?_)
    refine wpAny_bind (m := cRoomFor _ _) (wpAny_cRoomFor hu ?_)
    refine wpAny_bind (m := callSpecialIfBound? (.ref x) (Str.ofString "__eq__") _) (PySem.W.ifBound_K X I hs hf (wpAny_mono h (fun v s' hq => ?_) fun _ _ y => y))
    obtain ⟨r, rfl, q⟩ := hq
    show wpAny _ _ (truthy (.bool r) >>= fun t => ret (.bool (!t))) _ _ _
    refine wpAny_bind (wpAny_pure ?_)
    exact wpAny_pure ⟨_, rfl, q⟩
  have one : wpAny (model prog w) A (tryCompare (.ref x) "__ne__" b) (fun r s' => ∃ v, r = some v ∧ Q v s') E s := by
    unfold tryCompare
    refine wpAny_bind (ifBound_slot X I hne PySem.F.slot_object_ne.bind (wpAny_call (codeAny_call_builtin PySem.F.slot_object_ne.plain PySem.F.cmpEntry_ne (PySem.W.check_slot PySem.F.cmpKind_ne PySem.F.cmpSplit_ne (I.type.andThen (PySem.W.looks_mroIn X hm)) (PySem.F.cmpArgs_ne _ _) ?_))))
    refine wpAny_mono ent (fun fin s' z => ?_) fun _ _ e => e
    obtain ⟨v, rfl, q⟩ := z
    exact wpAny_pure ⟨_, rfl, q⟩
  unfold richCompare
  simp only [oneThing_ref]
  refine wpAny_holding (wpAny_bind (wpAny_cRoomFor (by omega) ?_))
  refine wpAny_bind (I.type.here (wpAny_bind (hb.here ?_)))
  split
  · rename_i q
    have e : PySem.W.subIn K tb (.ref C) = some false := by
      rcases Bool.or_eq_true_iff.mp hn with e | e
      · rw [beq_iff_eq.mp e] at q; simp at q
      · exact beq_iff_eq.mp e
    refine wpAny_bind ((PySem.W.looks_subIn X e).here ?_)
    simp only [Bool.false_eq_true, if_false]
    refine wpAny_bind (wpAny_mono one (fun r s' z => ?_) fun _ _ e => e)
    obtain ⟨v, rfl, hq⟩ := z
    exact wpAny_pure hq
  · refine wpAny_bind (wpAny_pure ?_)
    simp only [Bool.false_eq_true, if_false]
    refine wpAny_bind (wpAny_mono one (fun r s' z => ?_) fun _ _ e => e)
    obtain ⟨v, rfl, hq⟩ := z
    exact wpAny_pure hq
end
/-- the class of the number c answers to m by a def whose promise is F -/
structure OwnM (P : Program) (w : World) (K : PySem.W.Frag) (mg : Str → Option Value) (base : Heap) (G : Gm) (m : Str) (n k : Nat) (c : Nat) (F : List D → Sto → ER) : Prop where
  ex : ∃ (f : Addr) (fd : FuncData) (ps : List Str), Meth K (G.ca c) m f ∧ FnOk P w K mg base (L2.CX P w) k f fd ps (spF G F) ∧ L2.Binds K fd ps [] ∧ ps.length = n
theorem cx_false {P : Program} {w : World} {st : List Env} {H : Hp} {s s' : Shared} {e : Value} (h : L2.CX P w st H s (fun _ _ _ => False) e s') : False := by
  obtain ⟨_, _, _, _, _, _, _, _, _, _, _, _, z⟩ := h
  exact z
section
variable {X : Cx} {G : Gm} {pins : List (Addr × Obj)} {σ : L2.St} {H : Hp} {s : Shared}
theorem run_own {m : Str} {n k c : Nat} {F : List D → Sto → ER} (O : OwnM X.prog X.w X.K X.mg X.base G m n k c F) : ∃ f, PySem.W.findIn X.K (.ref (G.ca c)) m = some (some (.ref f)) ∧ PySem.W.isFn X.K (.ref f) = true ∧
    ∀ (A : Around), Room k A → A.frames = X.A.frames → ∀ (pins : List (Addr × Obj)) (σ : L2.St) (H : Hp) (s : Shared) (vs : List V) (us : List Value) (Q : VK), Inv X pins σ H s → Vals vs us → vs.length = n → spF G F vs H Q (fun _ _ _ => False) → wpAny (model X.prog X.w) A (call (.ref f) us) (EP X pins σ Q) X.xe s := by
  obtain ⟨f, fd, ps, hm, hF, hb, hn⟩ := O.ex
  refine ⟨f, hm.at_, hm.fn, fun A hr fr pins σ H s vs us Q I r l h => ?_⟩
  have e := I.env0
  have e0 : Env0 X.prog X.w X.K X.mg X.base A X.stack s H := ⟨by rw [fr]; exact e.frames, e.mod, e.bs, e.bsz, e.funs, e.frf, e.hok, e.bare⟩
  have hbind : BindsTo s fd ⟨us, []⟩ (ps.zip us) := by
    have := hb s us I.kIn (by simp; rw [← r.length, l, hn])
    simpa using this
  refine wpAny_call (codeAny_mono (hF.run A X.stack s H ⟨us, []⟩ us vs Q (fun _ _ _ => False) hr e0 hbind r h) fun res s' hq => ?_)
  cases res with
  | error e => exact (cx_false hq).elim
  | ok fl =>
    cases fl with
    | ret u => exact I.after hq
    | next => exact False.elim hq
    | brk => exact False.elim hq
    | cont => exact False.elim hq
abbrev OwnL := List (Nat × (List D → Sto → ER))
/-! len(o) -/
def rLenO (G : Gm) (Os : OwnL) : List V → Hp → VK → Prop := fun xs H Q => ∃ x ∈ Os, ∃ a dx fs, xs = [.ref a] ∧ H a = some (.ins (G.ca x.1) dx fs) ∧ spF G x.2 [.ref a] H (fun v H' => ∃ n : Int, v = .int n ∧ 0 ≤ n ∧ n < 2 ^ 63 ∧ Q (.int n) H') (fun _ _ _ => False)
theorem call_lenO {Os : OwnL} {k : Nat} (hO : ∀ x ∈ Os, OwnM X.prog X.w X.K X.mg X.base G "__len__" 1 k x.1 x.2) (hr : Room (k + 1) X.A) : CallR X (.builtin "len") (rLenO G Os) := by
  intro pins s σ H xs us Q I r h
  obtain ⟨x, hx, a, dx, fs, rfl, ha, h⟩ := h
  obtain ⟨u, rfl, ru⟩ := vals1 r
  obtain rfl : u = Value.ref a := ru
  obtain ⟨f, hs, hf, run⟩ := run_own (hO x hx)
  obtain ⟨mA, J, _⟩ := ins_get I.hok ha
  obtain ⟨od, J, _⟩ := J.look
  obtain ⟨m, hF⟩ := I.fr
  refine PySem.W.len_K hF I.ok.mod.kin J hs hf (wpAny_mono (run X.A.in1 hr.in1 rfl pins σ H s [.ref a] [.ref a] _ I (.cons rfl .nil) rfl h) (fun v s' q => ?_) fun _ _ e => e)
  obtain ⟨v1, H', I', rv, n, rfl, h0, h1, q⟩ := q
  obtain ⟨t, rfl⟩ := rv
  exact ⟨⟨h0, h1⟩, .int n, H', I'.tok _, ⟨_, rfl⟩, q⟩
theorem CallR.or {f : Value} {r r' : List V → Hp → VK → Prop} (h : CallR X f r) (h' : CallR X f r') : CallR X f (fun xs H Q => r xs H Q ∨ r' xs H Q) := by
  intro pins s σ H xs us Q I rr z
  rcases z with z | z
  · exact h pins s σ H xs us Q I rr z
  · exact h' pins s σ H xs us Q I rr z
/-! str(o) -/
def rStrO (G : Gm) (Os : OwnL) : List V → Hp → VK → Prop := fun xs H Q => ∃ x ∈ Os, ∃ a dx fs, xs = [.ref a] ∧ H a = some (.ins (G.ca x.1) dx fs) ∧ spF G x.2 [.ref a] H (fun v H' => ∃ n : Str, v = .str n ∧ Q (.str n) H') (fun _ _ _ => False)
theorem call_strO {Os : OwnL} {k : Nat} (hO : ∀ x ∈ Os, OwnM X.prog X.w X.K X.mg X.base G "__str__" 1 k x.1 x.2) (hr : Room (k + 2) X.A) : CallR X (.type "str") (rStrO G Os) := by
  intro pins s σ H xs us Q I r h
  obtain ⟨x, hx, a, dx, fs, rfl, ha, h⟩ := h
  obtain ⟨u, rfl, ru⟩ := vals1 r
  obtain rfl : u = Value.ref a := ru
  obtain ⟨f, hs, hf, run⟩ := run_own (hO x hx)
  obtain ⟨mA, J, _⟩ := ins_get I.hok ha
  obtain ⟨od, J, _⟩ := J.look
  refine PySem.W.kso_call hr.in1.in1.units0 I.kIn J hs hf (wpAny_mono (run X.A.in1.in1 hr.in1.in1 rfl pins σ H s [.ref a] [.ref a] _ I (.cons rfl .nil) rfl h) (fun v s' q => ?_) fun _ _ e => e)
  obtain ⟨v1, H', I', rv, n, rfl, q⟩ := q
  obtain ⟨t, rfl⟩ := rv
  exact ⟨.str n, H', I', ⟨_, rfl⟩, q⟩
/-! o == x, o != x -/
structure NeC (K : PySem.W.Frag) (C : Addr) : Prop where
  ne : PySem.W.findIn K (.ref C) "__ne__" = some (some (.builtin "object.__ne__"))
  mo : PySem.W.mroIn K C (.type "object") = some true
def rEqO (G : Gm) (Os : OwnL) (neg : Bool) : R2 := fun x y H Q => ∃ o ∈ Os, ∃ a dx fs t, x = .ref a ∧ H a = some (.ins (G.ca o.1) dx fs) ∧ TyX G.K H y t ∧ PySem.W.notFirst G.K (G.ca o.1) t = true ∧ spF G o.2 [.ref a, y] H (fun v H' => ∃ r : Bool, v = .bl r ∧ Q (.bl (r != neg)) H') (fun _ _ _ => False)
theorem op_eqO {Os : OwnL} {k : Nat} (hG : G.K = X.K) (hO : ∀ x ∈ Os, OwnM X.prog X.w X.K X.mg X.base G "__eq__" 2 k x.1 x.2) (hr : Room k X.A) : OpR X (compareOp .Eq) (rEqO G Os false) := by
  intro pins s σ H x y v u Q I rx ry h
  obtain ⟨o, ho, a, dx, fs, t, rfl, ha, ty, hn, h⟩ := h
  obtain rfl : v = Value.ref a := rx
  obtain ⟨f, hs, hf, run⟩ := run_own (hO o ho)
  obtain ⟨mA, J, _⟩ := ins_get I.hok ha
  obtain ⟨od, J, _⟩ := J.look
  obtain ⟨m, hF⟩ := I.fr
  rw [hG] at ty hn
  obtain ⟨P, kx, px, _⟩ := kit_of I ry ty
  show wpAny (model X.prog X.w) X.A (richCompare .Eq (.ref a) u) _ _ s
  refine PySem.W.cmp_K (op := .Eq) hr.units0 hF I.ok.mod.kin J (kx.ty _ _ I.kIn px) hn hs hf (wpAny_mono (run X.A hr rfl pins σ H s [.ref a, y] [.ref a, u] _ I (.cons rfl (.cons ry .nil)) rfl h) (fun v s' q => ?_) fun _ _ e => e)
  obtain ⟨v1, H', I', rv, r, rfl, q⟩ := q
  obtain rfl : v = Value.bool r := rv
  have : (r != false) = r := by cases r <;> rfl
  rw [this] at q
  exact ⟨.bl r, H', I', rfl, q⟩
theorem op_neO {Os : OwnL} {k : Nat} (hG : G.K = X.K) (hO : ∀ x ∈ Os, OwnM X.prog X.w X.K X.mg X.base G "__eq__" 2 k x.1 x.2) (hN : ∀ x ∈ Os, NeC X.K (G.ca x.1)) (hr : Room (k + 1) X.A) : OpR X (compareOp .NotEq) (rEqO G Os true) := by
  intro pins s σ H x y v u Q I rx ry h
  obtain ⟨o, ho, a, dx, fs, t, rfl, ha, ty, hn, h⟩ := h
  obtain rfl : v = Value.ref a := rx
  obtain ⟨f, hs, hf, run⟩ := run_own (hO o ho)
  obtain ⟨mA, J, _⟩ := ins_get I.hok ha
  obtain ⟨od, J, _⟩ := J.look
  obtain ⟨m, hF⟩ := I.fr
  rw [hG] at ty hn
  obtain ⟨P, kx, px, _⟩ := kit_of I ry ty
  show wpAny (model X.prog X.w) X.A (richCompare .NotEq (.ref a) u) _ _ s
  refine ne_K (by have := hr.units; omega) hF I.ok.mod.kin J (kx.ty _ _ I.kIn px) hn hs hf (hN o ho).ne (hN o ho).mo (wpAny_mono (run X.A.in1 hr.in1 rfl pins σ H s [.ref a, y] [.ref a, u] _ I (.cons rfl (.cons ry .nil)) rfl h) (fun v s' q => ?_) fun _ _ e => e)
  obtain ⟨v1, H', I', rv, r, rfl, q⟩ := q
  obtain rfl : v = Value.bool r := rv
  refine ⟨r, rfl, .bl (!r), H', I', rfl, ?_⟩
  have : (r != true) = !r := by cases r <;> rfl
  rw [this] at q
  exact q
end
/-! ### as functions of data -/
def ownF : OwnL → Nat → Option (List D → Sto → ER)
  | [], _ => none
  | (c', F) :: l, c => if c = c' then some F else ownF l c
theorem ownF_mem : ∀ {Os : OwnL} {c : Nat} {F : List D → Sto → ER}, ownF Os c = some F → (c, F) ∈ Os
  | (c', F') :: l, c, F, h => by
    unfold ownF at h
    split at h
    · rename_i e
      cases h; subst e; exact List.mem_cons_self ..
    · exact List.mem_cons_of_mem _ (ownF_mem h)
section
variable {G : Gm} {W : WX}
def asLen : ER → ER
  | .val _ (.int i) st => if 0 ≤ i ∧ i < 2 ^ 63 then .val .P (.int i) st else .bad
  | _ => .bad
def dLenX (Os : OwnL) (f : En → ER) : En → ER := fun E => match f E with
  | .val _ (.ptr n) st => (match stIns st n with
    | some (c, _) => ofOpt (ownF Os c) fun F => asLen (F [.ptr n] st)
    | none => oLen [.ptr n] st)
  | .val _ d st => oLen [d] st
  | .exc c l st => .exc c l st
  | .bad => .bad
theorem v_lenX {Os : OwnL} {te : TE} {f : En → ER} (h : DEv G W te f) : DEv G W (tCB (fun xs H Q => (∃ x n, xs = [x] ∧ LenV G.K x H n ∧ Q (.int n) H) ∨ rLenO G Os xs H Q) (tCons te tNil)) (dLenX Os f) := by
  intro s t σ e st E k Q post
  refine h s t σ e st E k _ ?_
  unfold dLenX at post
  cases q : f ⟨e, st⟩ with
  | exc c l st1 => rw [q] at post; exact post
  | bad => rw [q] at post; exact post
  | val m d st1 =>
    rw [q] at post
    intro t1 v g1 k1 o1
    have plain : ∀ (d : D), U G t1 v d → RPost G W t σ Q (oLen [d] st1) → ∃ x n, [v] = [x] ∧ LenV G.K x t1.h n ∧ Q (.int n) t1.h := fun d u p => c_len W σ t1 st1 [v] [d] k1 (.cons u .nil) Q (RPost.step g1 k1 p)
    cases d with
    | ptr n =>
      cases hi : stIns st1 n with
      | none => simp only [hi] at post; exact .inl (plain _ o1.u post)
      | some cl =>
        obtain ⟨c, l0⟩ := cl
        simp only [hi] at post
        obtain ⟨F, hF, post⟩ := RPost.opt _ _ post
        obtain ⟨a, rfl, hp⟩ := o1.u.ptr
        obtain ⟨dx, fs, hh, hl, il⟩ := k1.ins hp hi
        refine .inr ⟨(c, F), ownF_mem hF, a, dx, _, rfl, hh, t1, [.ptr n], st1, rfl, k1, .cons (.ptr hp) .nil, ?_⟩
        have p1 := RPost.step g1 k1 post
        show RPost G _ t1 [] _ (F [.ptr n] st1)
        cases q2 : F [.ptr n] st1 with
        | exc c l st2 => simp only [asLen, q2] at p1; exact p1.elim
        | bad => simp only [asLen, q2] at p1; exact p1.elim
        | val m2 d2 st2 =>
          cases d2 <;> first | (simp only [asLen, q2] at p1; exact p1.elim) | skip
          rename_i i
          simp only [asLen, q2] at p1
          obtain ⟨c1, p1⟩ := RPost.cond (0 ≤ i ∧ i < 2 ^ 63) (.val .P (.int i) st2) p1
          intro t2 v2 g2 k2 o2
          obtain rfl := o2.u.int
          exact ⟨i, rfl, c1.1, c1.2, p1 t2 _ g2 k2 (.int _)⟩
    | _ => exact .inl (plain _ o1.u post)
def asStr : ER → ER
  | .val _ (.str i) st => .val .P (.str i) st
  | _ => .bad
def asBl (neg : Bool) : ER → ER
  | .val _ (.bl i) st => .val .P (.bl (i != neg)) st
  | _ => .bad
/-! int(x), str(x) -/
def oInt : List D → Sto → ER
  | [.int i], st => .val .P (.int i) st
  | [.bl b], st => .val .P (.int (if b then 1 else 0)) st
  | [.str a], st => if a.length ≤ 640 then ofOpt (PySem.intText? a) fun n => .val .P (.int n) st else .bad
  | _, _ => .bad
abbrev rIntA : List V → Hp → VK → Prop := fun xs H Q => ((∃ i, xs = [.int i] ∧ Q (.int i) H) ∨ ∃ k, xs = [.bl k] ∧ Q (.int (if k then 1 else 0)) H) ∨ ∃ a n, xs = [.str a] ∧ PySem.intText? a = some n ∧ a.length ≤ 640 ∧ Q (.int n) H
theorem call_intA {X : Cx} : CallR X (.type "int") rIntA := CallR.or call_int1 call_int_str
theorem c_int : DCal G rIntA oInt := by
  refine DCal.one1 (fun _ => rfl) (fun a b l _ => by cases a <;> rfl) fun W σ s st v d k hv Q post => ?_
  cases d <;> try exact post.elim
  case int i => obtain rfl := hv.int; exact .inl (.inl ⟨_, rfl, post.now k (.int _)⟩)
  case bl i => obtain rfl := hv.bl; exact .inl (.inr ⟨_, rfl, post.now k (.int _)⟩)
  case str a =>
    obtain rfl := hv.str
    obtain ⟨h, post⟩ := RPost.cond (a.length ≤ 640) (ofOpt (PySem.intText? a) fun n => .val .P (.int n) st) post
    obtain ⟨n, hn, post⟩ := RPost.opt (PySem.intText? a) (fun n => .val .P (.int n) st) post
    exact .inr ⟨a, n, rfl, hn, h, post.now k (.int _)⟩
/-- a whole number as it is written -/
def itxt (i : Int) : Str := toString i
def oStr : List D → Sto → ER
  | [.int i], st => if i.natAbs.log2 < 1920 then .val .P (.str (itxt i)) st else .bad
  | [.str a], st => .val .P (.str a) st
  | _, _ => .bad
abbrev rStrA : List V → Hp → VK → Prop := fun xs H Q => (∃ i, xs = [.int i] ∧ i.natAbs.log2 < 1920 ∧ Q (.str (toString i)) H) ∨ ∃ a, xs = [.str a] ∧ Q (.str a) H
theorem call_strA {X : Cx} : CallR X (.type "str") rStrA := CallR.or call_str_int SkE.call_str_str
theorem c_str : DCal G rStrA oStr := by
  refine DCal.one1 (fun _ => rfl) (fun a b l _ => by cases a <;> rfl) fun W σ s st v d k hv Q post => ?_
  cases d <;> try exact post.elim
  case int i =>
    obtain rfl := hv.int
    obtain ⟨h, post⟩ := RPost.cond (i.natAbs.log2 < 1920) (.val .P (.str (itxt i)) st) post
    exact .inl ⟨_, rfl, h, post.now k (.str _)⟩
  case str a => obtain rfl := hv.str; exact .inr ⟨_, rfl, post.now k (.str _)⟩
def dStrX (Os : OwnL) (f : En → ER) : En → ER := fun E => match f E with
  | .val _ (.ptr n) st => (match stIns st n with
    | some (c, _) => ofOpt (ownF Os c) fun F => asStr (F [.ptr n] st)
    | none => .bad)
  | .val _ d st => oStr [d] st
  | .exc c l st => .exc c l st
  | .bad => .bad
theorem v_strX {Os : OwnL} {te : TE} {f : En → ER} (h : DEv G W te f) : DEv G W (tCB (fun xs H Q => rStrA xs H Q ∨ rStrO G Os xs H Q) (tCons te tNil)) (dStrX Os f) := by
  intro s t σ e st E k Q post
  refine h s t σ e st E k _ ?_
  unfold dStrX at post
  cases q : f ⟨e, st⟩ with
  | exc c l st1 => rw [q] at post; exact post
  | bad => rw [q] at post; exact post
  | val m d st1 =>
    rw [q] at post
    intro t1 v g1 k1 o1
    have plain : ∀ (d : D), U G t1 v d → RPost G W t σ Q (oStr [d] st1) → rStrA [v] t1.h Q := fun d u p => c_str W σ t1 st1 [v] [d] k1 (.cons u .nil) Q (RPost.step g1 k1 p)
    cases d with
    | ptr n =>
      cases hi : stIns st1 n with
      | none => simp only [hi] at post; exact post.elim
      | some cl =>
        obtain ⟨c, l0⟩ := cl
        simp only [hi] at post
        obtain ⟨F, hF, post⟩ := RPost.opt _ _ post
        obtain ⟨a, rfl, hp⟩ := o1.u.ptr
        obtain ⟨dx, fs, hh, hl, il⟩ := k1.ins hp hi
        refine .inr ⟨(c, F), ownF_mem hF, a, dx, _, rfl, hh, t1, [.ptr n], st1, rfl, k1, .cons (.ptr hp) .nil, ?_⟩
        have p1 := RPost.step g1 k1 post
        show RPost G _ t1 [] _ (F [.ptr n] st1)
        cases q2 : F [.ptr n] st1 with
        | exc c l st2 => simp only [asStr, q2] at p1; exact p1.elim
        | bad => simp only [asStr, q2] at p1; exact p1.elim
        | val m2 d2 st2 =>
          cases d2 <;> first | (simp only [asStr, q2] at p1; exact p1.elim) | skip
          rename_i i
          simp only [asStr, q2] at p1
          intro t2 v2 g2 k2 o2
          obtain rfl := o2.u.str
          exact ⟨i, rfl, p1 t2 _ g2 k2 (.str _)⟩
    | _ => exact .inl (plain _ o1.u post)
/-! classes, and what isinstance and == ask of them -/
structure ClsI (K : PySem.W.Frag) (C : Addr) : Prop where
  cl : Cls K C
  ha : PySem.W.findIn K (.ref C) "__class__" = some (some (.builtin "object.__class__"))
  hn : PySem.W.specialIn K (.builtin "object.__class__") "__get__" = some (some (.builtin "getset_descriptor.__get__"))
  htk : PySem.W.takesIn K (.builtin "object.__class__") = some true
  hm : PySem.W.mroIn K C (.type "object") = some true
def plainTs : List String := ["NoneType", "bool", "int", "str", "tuple", "list"]
theorem tyN_plain {d : D} (h : plainT d) : tyN d ∈ plainTs := by
  cases d <;> first | exact h.elim | simp [tyN, plainTs]
/-- isinstance(x, C), C a class of the text -/
def isO (tab : Nat → Option Bool) : D → Sto → ER
  | .ptr n, st => (match stIns st n with | some (c, _) => ofOpt (tab c) fun b => .val .P (.bl b) st | none => (match stLst st n with | some _ => .val .P (.bl false) st | none => .bad))
  | .obj _ _, _ => .bad
  | .scr _, _ => .bad
  | _, st => .val .P (.bl false) st
def dIsO (tab : Nat → Option Bool) (f : En → ER) : En → ER := fun E => (f E).bind (isO tab)
structure IsOk (G : Gm) (C : Addr) (tab : Nat → Option Bool) : Prop where
  ki : ∀ c b, tab c = some b → PySem.W.kitOne G.K (.ref (G.ca c)) (.ref C) = some b
  ci : ∀ c b, tab c = some b → ClsI G.K (G.ca c)
  kt : ∀ T ∈ plainTs, PySem.W.kitOne G.K (.type T) (.ref C) = some false
theorem v_isO {C : Addr} {tab : Nat → Option Bool} {te : TE} {f : En → ER} (T : IsOk G C tab) (h : DEv G W te f) : DEv G W (tCB (rIsi G.K) (tCons te (tCons (tC (.ref C)) tNil))) (dIsO tab f) := by
  intro s t σ e st E k Q post
  refine h s t σ e st E k _ (RPost.bind post fun m d st1 t1 v g1 k1 o1 p1 => ?_)
  have key : ∀ (hd : plainT d) (p1 : RPost G W t1 σ Q (.val .P (.bl false) st1)), rIsi G.K [v, .ref C] t1.h Q := fun hd p1 =>
    ⟨v, .ref C, _, _, false, rfl, .own C, tyX_of k1.sf o1.u hd, T.kt _ (tyN_plain hd), p1.now k1 (.bl _)⟩
  cases d with
  | ptr n =>
    obtain ⟨a, rfl, hp⟩ := o1.u.ptr
    have p1 : RPost G W t1 σ Q (match stIns st1 n with | some (c, _) => ofOpt (tab c) fun b => .val .P (.bl b) st1 | none => (match stLst st1 n with | some _ => .val .P (.bl false) st1 | none => .bad)) := p1
    cases hi : stIns st1 n with
    | none =>
      simp only [hi] at p1
      cases hl : stLst st1 n with
      | none => simp only [hl] at p1; exact p1.elim
      | some l =>
        simp only [hl] at p1
        obtain ⟨vs, hh, il⟩ := k1.lst hp hl
        exact ⟨_, .ref C, _, _, false, rfl, .own C, .base (.lst hh), T.kt "list" (by decide), p1.now k1 (.bl _)⟩
    | some cl =>
      obtain ⟨c, l0⟩ := cl
      simp only [hi] at p1
      obtain ⟨b, hb, p1⟩ := RPost.opt _ _ p1
      obtain ⟨dx, fs, hh, hl, il⟩ := k1.ins hp hi
      have ci := T.ci c b hb
      exact ⟨_, .ref C, _, _, b, rfl, .own C, .base (.ins hh ci.cl ci.ha ci.hn ci.htk ci.hm), T.ki c b hb, p1.now k1 (.bl _)⟩
  | obj c l => exact p1.elim
  | scr l => exact p1.elim
  | non => exact key trivial p1
  | bl b => exact key trivial p1
  | int i => exact key trivial p1
  | str x => exact key trivial p1
  | tup l => exact key trivial p1
  | lst l => exact key trivial p1
/-! o == x, o != x -/
structure EqOk (G : Gm) (Os : OwnL) (Cs : List Nat) : Prop where
  pt : ∀ x ∈ Os, ∀ T ∈ plainTs, PySem.W.notFirst G.K (G.ca x.1) (.type T) = true
  pc : ∀ x ∈ Os, ∀ c ∈ Cs, PySem.W.notFirst G.K (G.ca x.1) (.ref (G.ca c)) = true
  ci : ∀ c ∈ Cs, ClsI G.K (G.ca c)
def eqArg (Cs : List Nat) : D → Sto → Bool
  | .ptr n, st => (match stIns st n with | some (c, _) => Cs.contains c | none => false)
  | .obj _ _, _ => false
  | .scr _, _ => false
  | _, _ => true
def eqO2 (Os : OwnL) (Cs : List Nat) (neg : Bool) (o : D → D → Sto → ER) (m : Md) (x y : D) (st : Sto) : ER := match x with
  | .ptr n => (match stIns st n with
    | some (c, _) => ofOpt (ownF Os c) fun F => if m ≠ .B ∧ eqArg Cs y st = true then asBl neg (F [.ptr n, y] st) else .bad
    | none => o x y st)
  | _ => o x y st
def dEqO (Os : OwnL) (Cs : List Nat) (neg : Bool) (o : D → D → Sto → ER) (f g : En → ER) : En → ER := fun E => match f E with
  | .val _ x st => (match g ⟨E.e, st⟩ with
    | .val m y st1 => eqO2 Os Cs neg o m x y st1
    | .exc c l st => .exc c l st
    | .bad => .bad)
  | .exc c l st => .exc c l st
  | .bad => .bad
theorem v_eqO {Os : OwnL} {Cs : List Nat} {neg : Bool} {o : D → D → Sto → ER} {r : R2} {ta tb : TE} {f g : En → ER} (hr : DOp G r o) (T : EqOk G Os Cs) (ha : DEv G W ta f) (hb : DEv G W tb g) : DEv G W (tOp (rOr r (rEqO G Os neg)) ta tb) (dEqO Os Cs neg o f g) := by
  intro s t σ e st E k Q post
  refine ha s t σ e st E k _ ?_
  unfold dEqO at post
  cases q : f ⟨e, st⟩ with
  | exc c l st1 => rw [q] at post; exact post
  | bad => rw [q] at post; exact post
  | val m x st1 =>
    rw [q] at post
    intro t1 v g1 k1 o1
    have post : RPost G W t1 σ Q (match g ⟨e, st1⟩ with
      | .val m y st1 => eqO2 Os Cs neg o m x y st1
      | .exc c l st => .exc c l st
      | .bad => .bad) := RPost.step g1 k1 post
    refine hb s t1 σ e st1 (E.up g1) k1 _ ?_
    cases q2 : g ⟨e, st1⟩ with
    | exc c l st2 => rw [q2] at post; exact post
    | bad => rw [q2] at post; exact post
    | val m2 y st2 =>
      rw [q2] at post
      intro t2 u g2 k2 o2
      have plain : RPost G W t1 σ Q (o x y st2) → rOr r (rEqO G Os neg) v u t2.h Q := fun p => .inl (hr W σ t2 st2 v u x y k2 ((o1.up g2).u) o2.u Q (RPost.step g2 k2 p))
      cases x with
      | ptr n =>
        have post : RPost G W t1 σ Q (match stIns st2 n with
          | some (c, _) => ofOpt (ownF Os c) fun F => if m2 ≠ .B ∧ eqArg Cs y st2 = true then asBl neg (F [.ptr n, y] st2) else .bad
          | none => o (.ptr n) y st2) := post
        cases hi : stIns st2 n with
        | none => simp only [hi] at post; exact plain post
        | some cl =>
          obtain ⟨c, l0⟩ := cl
          simp only [hi] at post
          obtain ⟨F, hF, post⟩ := RPost.opt _ _ post
          obtain ⟨hc, post2⟩ := RPost.cond _ _ post
          obtain ⟨a, rfl, hp⟩ := (o1.up g2).u.ptr
          obtain ⟨f2, gf, kf, sf, i2⟩ := o2.freeze g2 k2 hc.1
          have hp' : (⟨t2.as, f2, t2.h⟩ : Hs).as[n]? = some a := hp
          obtain ⟨dx, fs, hh, hl, il⟩ := kf.ins hp' hi
          have hmem := ownF_mem hF
          have ty : ∃ tv, TyX G.K t2.h u tv ∧ PySem.W.notFirst G.K (G.ca c) tv = true := by
            have pl : plainT y → ∃ tv, TyX G.K t2.h u tv ∧ PySem.W.notFirst G.K (G.ca c) tv = true := fun hd => ⟨_, tyX_of k2.sf o2.u hd, T.pt _ hmem _ (tyN_plain hd)⟩
            cases y with
            | ptr j =>
              have h2 : (match stIns st2 j with | some (c, _) => Cs.contains c | none => false) = true := hc.2
              cases hj : stIns st2 j with
              | none => simp only [hj] at h2; cases h2
              | some cl2 =>
                obtain ⟨c2, l2⟩ := cl2
                simp only [hj] at h2
                have hc2 : c2 ∈ Cs := by simpa using h2
                obtain ⟨b, rfl, hb2⟩ := o2.u.ptr
                obtain ⟨dx2, fs2, hh2, _, _⟩ := k2.ins hb2 hj
                have ci := T.ci c2 hc2
                exact ⟨_, .base (.ins hh2 ci.cl ci.ha ci.hn ci.htk ci.hm), T.pc _ hmem _ hc2⟩
            | obj c l => cases hc.2
            | scr l => cases hc.2
            | non => exact pl trivial
            | bl b => exact pl trivial
            | int i => exact pl trivial
            | str x => exact pl trivial
            | tup l => exact pl trivial
            | lst l => exact pl trivial
          obtain ⟨tv, ty, nf⟩ := ty
          refine .inr ⟨(c, F), hmem, a, dx, _, tv, rfl, hh, ty, nf, ⟨t2.as, f2, t2.h⟩, [.ptr n, y], st2, rfl, kf, .cons (.ptr hp) (.cons i2 .nil), ?_⟩
          have p1 : RPost G W ⟨t2.as, f2, t2.h⟩ σ Q (asBl neg (F [.ptr n, y] st2)) := RPost.step gf kf post2
          show RPost G _ ⟨t2.as, f2, t2.h⟩ [] _ (F [.ptr n, y] st2)
          cases q3 : F [.ptr n, y] st2 with
          | exc c l st2 => simp only [asBl, q3] at p1; exact p1.elim
          | bad => simp only [asBl, q3] at p1; exact p1.elim
          | val m3 d3 st3 =>
            cases d3 <;> first | (simp only [asBl, q3] at p1; exact p1.elim) | skip
            rename_i i
            simp only [asBl, q3] at p1
            intro t3 v3 g3 k3 o3
            obtain rfl := o3.u.bl
            exact ⟨i, rfl, p1 t3 _ g3 k3 (.bl _)⟩
      | _ => exact plain post
end
end Dn
namespace Dn
open PySem PySem.Spec PyProof.Rows L2
/-! ### sorted of pairs of whole numbers -/
def PairAt (K : PySem.W.Frag) (H : Hp) (x : V) (r : Int × Int) : Prop := ∃ t, x = V.ref t ∧ SqT K H t [.int r.1, .int r.2]
def rSortedQ (K : PySem.W.Frag) : List V → Hp → VK → Prop := fun vs H Q => ∃ (a : Addr) (xs : List V) (rs : List (Int × Int)), vs = [V.ref a] ∧ SqL K H a xs ∧ xs.length = rs.length ∧ (∀ p ∈ xs.zip rs, PairAt K H p.1 p.2) ∧
  ∀ (zs : List (V × (Int × Int))) p, zs.Perm (xs.zip rs) → zs.Pairwise (fun x y => SrtO.lexB y.2 x.2 = false) → H p = none → Q (.ref p) (upd H p (.lst (zs.map (·.1))))
theorem cr_sortedQ {X : Cx} : CallR X (.builtin "sorted") (rSortedQ X.K) := by
  intro pins s σ H vs us Q I r h
  obtain ⟨a, xs, rs, rfl, hs, hlen, hx, q⟩ := h
  have uniq : ∀ x r r', PairAt X.K H x r → PairAt X.K H x r' → r = r' := fun x r r' h h' => by
    obtain ⟨t, rfl, h⟩ := h
    obtain ⟨t', e, h'⟩ := h'
    cases e
    have e := I.tuple_inj h h'
    simp at e
    exact Prod.ext e.1 e.2
  have pick : ∀ x : V, ∃ r, (∃ r', PairAt X.K H x r') → PairAt X.K H x r := fun x => by
    by_cases c : ∃ r', PairAt X.K H x r'
    · obtain ⟨r, hr⟩ := c; exact ⟨r, fun _ => hr⟩
    · exact ⟨(0, 0), fun z => absurd z c⟩
  have ⟨k, hk⟩ := Classical.axiomOfChoice pick
  have hz : ∀ (ys : List V) (ms : List (Int × Int)), ys.length = ms.length → (∀ p ∈ ys.zip ms, PairAt X.K H p.1 p.2) → ys.zip ms = ys.map fun y => (y, k y) := by
    intro ys
    induction ys with
    | nil => intro ms _ _; simp
    | cons y ys ih =>
      intro ms hl hp
      cases ms with
      | nil => simp at hl
      | cons m ms =>
        simp at hl
        rw [List.zip_cons_cons, List.map_cons, ih ms hl fun p hm => hp p (by rw [List.zip_cons_cons]; exact List.mem_cons_of_mem _ hm)]
        have h1 := hp (y, m) (by rw [List.zip_cons_cons]; exact List.mem_cons_self ..)
        rw [uniq y m (k y) h1 (hk y ⟨m, h1⟩)]
  have hxz := hz xs rs hlen hx
  have hkx : ∀ x ∈ xs, PairAt X.K H x (k x) := fun x m => hk x (by
    have : (x, k x) ∈ xs.zip rs := by rw [hxz]; exact List.mem_map.mpr ⟨x, m, rfl⟩
    exact ⟨_, hx _ this⟩)
  obtain ⟨its, rv, hl, hzz⟩ := I.list hs
  obtain ⟨u, rfl, ru⟩ := vals1 r
  obtain rfl : u = Value.ref a := ru
  obtain ⟨e1, e2⟩ := refs_back rv fun x m => by
    obtain ⟨t, e, _⟩ := hkx x m
    exact ⟨t, e⟩
  refine SrtO.sorted_pairsO (k := fun u => k (backV u)) hl.isList (by rw [← rv.length]; exact hzz) (fun v hv => ?_) fun h' d out h1 h2 kp hd hn => ?_
  · obtain ⟨t, rfl⟩ := e2 v hv
    have hm : V.ref t ∈ xs := by rw [e1]; exact List.mem_map.mpr ⟨_, hv, rfl⟩
    obtain ⟨t', e, ht⟩ := hkx _ hm
    cases e
    obtain ⟨its2, r2, ⟨o, ho, hc, n, hd⟩, _⟩ := I.tuple ht
    obtain ⟨u1, u2, rfl, ri, rj⟩ := vals2 r2
    obtain ⟨t1, rfl⟩ := ri
    obtain ⟨t2, rfl⟩ := rj
    exact ⟨t, o, t1, t2, n, rfl, ho, hc, hd⟩
  · have h3 : ∀ u ∈ out, ∃ a, u = Value.ref a := fun u hu => e2 u (h2.perm.mem_iff.mp hu)
    obtain ⟨n, hn⟩ := hn
    have hb : SrtO.Stb (ltP k) (out.map backV) xs := by
      rw [e1]
      exact SrtO.Stb.map (ltP_swo k) backV h2
    have hq := q ((out.map backV).map fun y => (y, k y)) d (by rw [hxz]; exact hb.perm.map _) (by
      have := SrtO.srtd_map (f := backV) (lt := ltP k) h1
      exact List.pairwise_map.mpr this) (I.hok.fresh hd)
    have hmm : ((out.map backV).map fun y => (y, k y)).map (·.1) = out.map backV := by simp
    rw [hmm] at hq
    refine ⟨.ref d, upd H d (.lst (out.map backV)), I.laid (t' := s.toks) kp hd ⟨?_, out, n, vals_back h3, hn⟩, rfl, hq⟩
    rw [hb.len]
    exact hzz
/-- pairs in order -/
def lexLe (a b : Int × Int) : Bool := !SrtO.lexB b a
def srtP (rs : List (Int × Int)) : List (Int × Int) := rs.mergeSort lexLe
theorem lexLe_iff {a b : Int × Int} : lexLe a b = true ↔ a.1 < b.1 ∨ (a.1 = b.1 ∧ a.2 ≤ b.2) := by
  unfold lexLe
  rw [Bool.not_eq_true', SrtO.lexB_no]
  omega
theorem srtP_perm (rs : List (Int × Int)) : (srtP rs).Perm rs := List.mergeSort_perm _ _
theorem srtP_pw (rs : List (Int × Int)) : (srtP rs).Pairwise (fun a b => lexLe a b = true) :=
  List.pairwise_mergeSort (le := lexLe) (fun a b c h1 h2 => by rw [lexLe_iff] at *; omega) (fun a b => by rw [Bool.or_eq_true, lexLe_iff, lexLe_iff]; omega) rs
theorem srtP_is {rs ms : List (Int × Int)} (h : ms.Perm rs) (p : ms.Pairwise (fun a b => lexLe a b = true)) : ms = srtP rs :=
  List.Perm.eq_of_pairwise (le := fun a b => lexLe a b = true) (fun a b _ _ h1 h2 => by rw [lexLe_iff] at *; exact Prod.ext (by omega) (by omega)) p (srtP_pw rs) (h.trans (srtP_perm rs).symm)
def rowsOf : List D → Option (List (Int × Int))
  | [] => some []
  | .tup [.int a, .int b] :: l => (rowsOf l).map ((a, b) :: ·)
  | _ => none
section
variable {G : Gm} {W : WX}
theorem rowsOf_V {as : List Addr} {f H : Hp} (sm : Same f H) : ∀ {l : List D} {vs : List V} {rs : List (Int × Int)}, rowsOf l = some rs → IsL G as f vs l → vs.length = rs.length ∧ l = rs.map (fun r => D.tup [.int r.1, .int r.2]) ∧ ∀ p ∈ vs.zip rs, PairAt G.K H p.1 p.2 ∧ Is G as f p.1 (.tup [.int p.2.1, .int p.2.2])
  | [], _, _, h, i => by cases i; cases h; exact ⟨rfl, rfl, fun p m => by simp at m⟩
  | d :: l, _, rs, h, i => by
    cases i with
    | cons a b =>
      unfold rowsOf at h
      split at h
      · cases ‹_ :: _ = _›
      · rename_i x y l' e
        cases e
        cases q : rowsOf l with
        | none => rw [q] at h; cases h
        | some ms =>
          rw [q] at h; cases h
          obtain ⟨h1, h2, h3⟩ := rowsOf_V sm q b
          refine ⟨by simp [h1], by rw [List.map_cons, ← h2], fun p m => ?_⟩
          rw [List.zip_cons_cons] at m
          rcases List.mem_cons.mp m with rfl | m
          · refine ⟨?_, a⟩
            cases a with
            | tup c c2 =>
              cases c2 with
              | cons e1 c2 =>
                cases c2 with
                | cons e2 c2 =>
                  cases c2; cases e1; cases e2
                  exact ⟨_, rfl, same_t sm c⟩
          · exact h3 p m
      · cases h
def oSortedX : List D → Sto → ER
  | [.lst l], st => (match intsOf l with
    | some ns => if ns.length < 64 then .val .N (.lst ((srt ns).map .int)) st else .bad
    | none => ofOpt (rowsOf l) fun rs => .val .N (.lst ((srtP rs).map fun r => .tup [.int r.1, .int r.2])) st)
  | _, _ => .bad
theorem isl_zip {as : List Addr} {f : Hp} : ∀ {zs : List (V × (Int × Int))}, (∀ p ∈ zs, Is G as f p.1 (.tup [.int p.2.1, .int p.2.2])) → IsL G as f (zs.map (·.1)) (zs.map fun z => D.tup [.int z.2.1, .int z.2.2])
  | [], _ => .nil
  | z :: zs, h => .cons (h z (List.mem_cons_self ..)) (isl_zip fun p m => h p (List.mem_cons_of_mem _ m))
theorem c_sortedX : DCal G (fun xs H Q => rSorted G.K xs H Q ∨ rSortedQ G.K xs H Q) oSortedX := by
  refine DCal.one1 (fun _ => rfl) (fun a b l _ => by cases a <;> rfl) fun W σ s st v d k hv Q post => ?_
  cases d <;> try exact post.elim
  rename_i l
  have post : RPost G W s σ Q (match intsOf l with
    | some ns => if ns.length < 64 then .val .N (.lst ((srt ns).map .int)) st else .bad
    | none => ofOpt (rowsOf l) fun rs => .val .N (.lst ((srtP rs).map fun r => .tup [.int r.1, .int r.2])) st) := post
  obtain ⟨p, vs, rfl, hp, hl⟩ := hv.lst k.sf
  cases qi : intsOf l with
  | some ns =>
    simp only [qi] at post
    obtain ⟨hlt, post⟩ := RPost.cond (ns.length < 64) (.val .N (.lst ((srt ns).map .int)) st) post
    have := intsOf_V qi hl
    subst this
    refine .inl ⟨p, ns, rfl, SqL.of hp, hlt, fun ms r hm hs hr => ?_⟩
    rw [srt_is hm hs]
    exact RPost.newL k post (IsL.ints _) hr
  | none =>
    simp only [qi] at post
    obtain ⟨rs, hrs, post⟩ := RPost.opt (rowsOf l) (fun rs => .val .N (.lst ((srtP rs).map fun r => .tup [.int r.1, .int r.2])) st) post
    obtain ⟨h1, h2, h3⟩ := rowsOf_V k.sf hrs hl
    refine .inr ⟨p, vs, rs, rfl, SqL.of hp, h1, fun q m => (h3 q m).1, fun zs r hm hs hr => ?_⟩
    have hz : ∀ q ∈ zs, Is G s.as s.f q.1 (.tup [.int q.2.1, .int q.2.2]) := fun q m => (h3 q (hm.mem_iff.mp m)).2
    have e1 : zs.map (·.2) = srtP rs := by
      refine srtP_is ?_ (List.pairwise_map.mpr (hs.imp fun {a b} h => by unfold lexLe; rw [h]; rfl))
      have := hm.map (fun q : V × (Int × Int) => q.2)
      have e : (vs.zip rs).map (fun q : V × (Int × Int) => q.2) = rs := by
        rw [List.map_snd_zip]; omega
      rw [e] at this
      exact this
    have e2 : (srtP rs).map (fun r => D.tup [.int r.1, .int r.2]) = zs.map fun z => D.tup [.int z.2.1, .int z.2.2] := by
      rw [← e1, List.map_map]; rfl
    rw [e2] at post
    exact RPost.newL k post (isl_zip hz) hr
end
end Dn
namespace Dn
open PySem PySem.Spec PyProof.Rows L2
section
variable {G : Gm} {W : WX}
/-! ### methods of texts -/
def DMs (G : Gm) (r : V → List V → Hp → VK → Prop) (op : Str → List D → Sto → ER) : Prop :=
  ∀ (W : WX) (σ : L2.St) (s : Hs) (st : Sto) (x : Str) (vs : List V) (ds : List D), StOk G s st → UL G s vs ds → ∀ Q : VK, RPost G W s σ Q (op x ds st) → r (.str x) vs s.h Q
def dMs (op : Str → List D → Sto → ER) (fb : En → ER) (fa : En → AR) : En → ER := fun E => match fb E with
  | .val _ (.str x) st => (match fa ⟨E.e, st⟩ with
    | .ok _ ds st1 => op x ds st1
    | .exc c l st => .exc c l st
    | .bad => .bad)
  | .exc c l st => .exc c l st
  | _ => .bad
theorem v_ms {r : V → List V → Hp → VK → Prop} {op : Str → List D → Sto → ER} {tb : TE} {ta : TA} {fb : En → ER} {fa : En → AR} (hm : DMs G r op) (hb : DEv G W tb fb) (ha : DAr G W ta fa) : DEv G W (tBM G.K "str" r tb ta) (dMs op fb fa) := by
  intro s t σ e st E k Q post
  refine hb s t σ e st E k _ ?_
  unfold dMs at post
  cases q : fb ⟨e, st⟩ with
  | exc c l st1 => rw [q] at post; exact post
  | bad => rw [q] at post; exact post
  | val m d st1 =>
    rw [q] at post
    cases d <;> first | exact post.elim | skip
    rename_i x
    intro t1 v g1 k1 o1
    obtain rfl := o1.u.str
    refine ⟨rfl, ha s t1 σ e st1 (E.up g1) k1 _ ?_⟩
    have post : RPost G W t1 σ Q (match fa ⟨e, st1⟩ with
      | .ok _ ds st1 => op x ds st1
      | .exc c l st => .exc c l st
      | .bad => .bad) := RPost.step g1 k1 post
    cases q2 : fa ⟨e, st1⟩ with
    | ok b ds st2 => rw [q2] at post; exact fun t2 xs g2 k2 _ u2 => hm W σ t2 st2 x xs ds k2 u2 Q (RPost.step g2 k2 post)
    | exc c l st2 => rw [q2] at post; exact post
    | bad => rw [q2] at post; exact post
def strsOf : List D → Option (List Str)
  | [] => some []
  | .str i :: l => (strsOf l).map (i :: ·)
  | _ => none
theorem strsOf_V {as : List Addr} {H : Hp} : ∀ {l : List D} {vs : List V} {ns : List Str}, strsOf l = some ns → IsL G as H vs l → vs = ns.map V.str
  | [], _, _, h, i => by cases i; cases h; rfl
  | d :: l, _, ns, h, i => by
    cases i with
    | cons a b =>
      cases d <;> first | (cases h; done) | skip
      rename_i i
      have h' : (strsOf l).map (i :: ·) = some ns := h
      cases q : strsOf l with
      | none => rw [q] at h'; cases h'
      | some ms =>
        rw [q] at h'; cases h'
        cases a
        rw [strsOf_V q b]; rfl
theorem IsL.strs {as : List Addr} {H : Hp} : ∀ (l : List Str), IsL G as H (l.map V.str) (l.map D.str)
  | [] => .nil
  | i :: l => .cons (.str i) (IsL.strs l)
/-- the texts of a list or tuple -/
def seqStrs : D → Sto → Option (List Str)
  | .lst l, _ => strsOf l
  | .tup l, _ => strsOf l
  | .ptr n, st => (stLst st n).bind strsOf
  | _, _ => none
def msJoin (a : Str) (ds : List D) (st : Sto) : ER := match ds with
  | [d] => ofOpt (seqStrs d st) fun ys => if (ys.map (·.length)).sum + ys.length * a.length ≤ 1000000 then .val .P (.str (Txt.join a ys)) st else .bad
  | _ => .bad
abbrev rJoin (K : PySem.W.Frag) : V → List V → Hp → VK → Prop := fun x xs H Q => ∃ a p, ∃ ys : List Str, x = .str a ∧ xs = [.ref p] ∧ (SqL K H p (ys.map V.str) ∨ SqT K H p (ys.map V.str)) ∧
    (ys.map (·.length)).sum + ys.length * a.length ≤ 16777216 ∧ Q (.str (Txt.join a ys)) H
theorem ms_join : DMs G (rJoin G.K) msJoin := by
  intro W σ s st a vs ds k u Q post
  unfold msJoin at post
  split at post
  · rename_i d
    obtain ⟨v, rfl, hv⟩ := u.one
    obtain ⟨ys, hy, post2⟩ := RPost.opt _ _ post
    clear post
    obtain ⟨c, post3⟩ := RPost.cond _ _ post2
    clear post2
    have c' : (ys.map (·.length)).sum + ys.length * a.length ≤ 16777216 := Nat.le_trans c (by decide)
    cases d <;> first | (cases hy; done) | skip
    case tup l =>
      obtain ⟨p, ws, rfl, hp, il⟩ := hv.tup k.sf
      have := strsOf_V hy il
      subst this
      exact ⟨a, p, ys, rfl, rfl, .inr hp, c', post3.now k (.str _)⟩
    case lst l =>
      obtain ⟨p, ws, rfl, hp, il⟩ := hv.lst k.sf
      have := strsOf_V hy il
      subst this
      exact ⟨a, p, ys, rfl, rfl, .inl (SqL.of hp), c', post3.now k (.str _)⟩
    case ptr n =>
      obtain ⟨p, rfl, hp⟩ := hv.ptr
      have hy : (stLst st n).bind strsOf = some ys := hy
      cases hl : stLst st n with
      | none => rw [hl] at hy; cases hy
      | some l =>
        rw [hl] at hy
        obtain ⟨ws, hh, il⟩ := k.lst hp hl
        have := strsOf_V hy il
        subst this
        exact ⟨a, p, ys, rfl, rfl, .inl (SqL.of hh), c', post3.now k (.str _)⟩
  · exact post.elim
def msSplit (a : Str) (ds : List D) (st : Sto) : ER := match ds with
  | [.str b] => if (b.length == 0) = false ∧ a.length + 2 ≤ 1000000 then .val .N (.lst ((Txt.split a b).map .str)) st else .bad
  | _ => .bad
abbrev rSplit : V → List V → Hp → VK → Prop := fun x xs H Q => ∃ a b, x = .str a ∧ xs = [.str b] ∧ (b.length == 0) = false ∧ a.length + 2 ≤ sizeLine ∧ rNewStrs (Txt.split a b) H Q
theorem ms_split : DMs G rSplit msSplit := by
  intro W σ s st a vs ds k u Q post
  unfold msSplit at post
  split at post
  · rename_i b
    obtain ⟨v, rfl, hv⟩ := u.one
    obtain rfl := hv.str
    obtain ⟨c, post⟩ := RPost.cond _ _ post
    exact ⟨a, b, rfl, rfl, c.1, sz c.2, fun p hp => RPost.newL k post (IsL.strs _) hp⟩
  · exact post.elim
def msPartition (a : Str) (ds : List D) (st : Sto) : ER := match ds with
  | [.str b] => if (b.length == 0) = false ∧ a.length ≤ 1000000 then .val .P (.tup [.str (Txt.partition a b).1, .str (Txt.partition a b).2.1, .str (Txt.partition a b).2.2]) st else .bad
  | _ => .bad
abbrev rPartition : V → List V → Hp → VK → Prop := fun x xs H Q => ∃ a b, x = .str a ∧ xs = [.str b] ∧ (b.length == 0) = false ∧ a.length ≤ sizeLine ∧
    ∀ p, H p = none → Q (.ref p) (upd H p (.tup [.str (Txt.partition a b).1, .str (Txt.partition a b).2.1, .str (Txt.partition a b).2.2]))
theorem ms_partition : DMs G rPartition msPartition := by
  intro W σ s st a vs ds k u Q post
  unfold msPartition at post
  split at post
  · rename_i b
    obtain ⟨v, rfl, hv⟩ := u.one
    obtain rfl := hv.str
    obtain ⟨c, post⟩ := RPost.cond _ _ post
    exact ⟨a, b, rfl, rfl, c.1, sz c.2, fun p hp => RPost.newT k post (.cons (.str _) (.cons (.str _) (.cons (.str _) .nil))) hp⟩
  · exact post.elim
def msCount (a : Str) (ds : List D) (st : Sto) : ER := match ds with
  | [.str b] => .val .P (.int (Txt.count a b)) st
  | _ => .bad
abbrev rCount : V → List V → Hp → VK → Prop := fun x xs H Q => ∃ a b, x = .str a ∧ xs = [.str b] ∧ Q (.int (Txt.count a b)) H
theorem ms_count : DMs G rCount msCount := by
  intro W σ s st a vs ds k u Q post
  unfold msCount at post
  split at post
  · rename_i b
    obtain ⟨v, rfl, hv⟩ := u.one
    obtain rfl := hv.str
    exact ⟨a, b, rfl, rfl, post.now k (.int _)⟩
  · exact post.elim
/-! ### f'..' -/
def dFmt (f : En → ER) : En → ER := fun E => match f E with
  | .val _ (.str y) st => if y.length ≤ 1000000 then .val .P (.str y) st else .bad
  | .val _ (.int i) st => if i.natAbs.log2 < 1920 then .val .P (.str (itxt i)) st else .bad
  | .exc c l st => .exc c l st
  | _ => .bad
theorem v_fmt {te : TE} {f : En → ER} (h : DEv G W te f) : DEv G W (tFmt te) (dFmt f) := by
  intro s t σ e st E k Q post
  refine h s t σ e st E k _ ?_
  unfold dFmt at post
  cases q : f ⟨e, st⟩ with
  | exc c l st1 => rw [q] at post; exact post
  | bad => rw [q] at post; exact post
  | val m d st1 =>
    rw [q] at post
    intro t1 v g1 k1 o1
    cases d <;> first | exact post.elim | skip
    case int i =>
      obtain rfl := o1.u.int
      obtain ⟨c, post⟩ := RPost.cond (i.natAbs.log2 < 1920) (.val .P (.str (itxt i)) st1) post
      exact .inr ⟨i, rfl, c, (RPost.step g1 k1 post).now k1 (.str _)⟩
    case str y =>
      obtain rfl := o1.u.str
      obtain ⟨c, post⟩ := RPost.cond (y.length ≤ 1000000) (.val .P (.str y) st1) post
      exact .inl ⟨y, rfl, sz c, (RPost.step g1 k1 post).now k1 (.str _)⟩
inductive DJs (G : Gm) (W : WX) : List TE → List (En → ER) → Prop
  | nil : DJs G W [] []
  | cons {t : TE} {ts : List TE} {f : En → ER} {fs : List (En → ER)} : DEv G W t f → DJs G W ts fs → DJs G W (t :: ts) (f :: fs)
def jsGo : List (En → ER) → Str → DE → Sto → ER
  | [], acc, _, st => .val .P (.str acc) st
  | f :: fs, acc, e, st => match f ⟨e, st⟩ with
    | .val _ (.str y) st1 => if (acc ++ y).length ≤ 1000000 then jsGo fs (acc ++ y) e st1 else .bad
    | .exc c l st => .exc c l st
    | _ => .bad
theorem js_run {s : Hs} {σ : L2.St} {e : DE} {Q : VK} : ∀ {ts : List TE} {fs : List (En → ER)}, DJs G W ts fs → ∀ (t : Hs) (st : Sto) (acc : Str), EnvOk G s t σ e → StOk G t st → RPost G W t σ Q (jsGo fs acc e st) → tJs ts acc σ t.h fun out H1 => Q (.str out) H1
  | _, _, .nil, t, st, acc, _, k, post => post.now k (.str _)
  | _, _, .cons (f := f) (fs := fs) h hs, t, st, acc, E, k, post => by
    refine h s t σ e st E k _ ?_
    unfold jsGo at post
    cases q : f ⟨e, st⟩ with
    | exc c l st1 => rw [q] at post; exact post
    | bad => rw [q] at post; exact post
    | val m d st1 =>
      rw [q] at post
      cases d <;> first | exact post.elim | skip
      rename_i y
      intro t1 v g1 k1 o1
      obtain rfl := o1.u.str
      obtain ⟨c, post⟩ := RPost.cond ((acc ++ y).length ≤ 1000000) (jsGo fs (acc ++ y) e st1) post
      exact ⟨y, rfl, sz c, js_run hs t1 st1 (acc ++ y) (E.up g1) k1 (RPost.step g1 k1 post)⟩
def dJs (fs : List (En → ER)) : En → ER := fun E => jsGo fs Str.empty E.e E.st
theorem v_js {ts : List TE} {fs : List (En → ER)} (h : DJs G W ts fs) : DEv G W (fun σ H Q => tJs ts Str.empty σ H fun out H1 => Q (.str out) H1) (dJs fs) := fun s t σ e st E k Q post => js_run h t st Str.empty E k post
end
end Dn
namespace Dn
open PySem PySem.Spec PyProof.Rows L2
section
variable {G : Gm} {W : WX}
/-! ### isinstance(x, T), x perhaps a list of the store -/
def isTP (T : String) : D → Sto → ER
  | .ptr n, st => (match stLst st n with | some _ => ofOpt (kitB "list" T) fun b => .val .P (.bl b) st | none => .bad)
  | d, st => isT T d st
def dIsiP (T : String) (f : En → ER) : En → ER := fun E => (f E).bind (isTP T)
theorem v_isiP {T : String} {te : TE} {f : En → ER} (h : DEv G W te f) : DEv G W (tCB (rIsi G.K) (tCons te (tCons (tC (.ty T)) tNil))) (dIsiP T f) := by
  intro s t σ e st E k Q post
  refine h s t σ e st E k _ (RPost.bind post fun m d st1 t1 v g1 k1 o1 p1 => ?_)
  have key : ∀ (hd : plainT d) (p1 : RPost G W t1 σ Q (ofOpt (kitB (tyN d) T) fun b => .val .P (.bl b) st1)), rIsi G.K [v, .ty T] t1.h Q := fun hd p1 => by
    obtain ⟨b, hb, p1⟩ := RPost.opt _ _ p1
    exact ⟨v, .ty T, _, _, b, rfl, .ty T, tyX_of k1.sf o1.u hd, kit_ty hb, p1.now k1 (.bl _)⟩
  cases d with
  | ptr n =>
    obtain ⟨a, rfl, hp⟩ := o1.u.ptr
    have p1 : RPost G W t1 σ Q (match stLst st1 n with | some _ => ofOpt (kitB "list" T) fun b => .val .P (.bl b) st1 | none => .bad) := p1
    cases hl : stLst st1 n with
    | none => simp only [hl] at p1; exact p1.elim
    | some l =>
      simp only [hl] at p1
      obtain ⟨vs, hh, il⟩ := k1.lst hp hl
      obtain ⟨b, hb, p1⟩ := RPost.opt _ _ p1
      exact ⟨_, .ty T, _, _, b, rfl, .ty T, .base (.lst hh), kit_ty hb, p1.now k1 (.bl _)⟩
  | obj c l => exact p1.elim
  | scr l => exact p1.elim
  | non => exact key trivial p1
  | bl b => exact key trivial p1
  | int i => exact key trivial p1
  | str x => exact key trivial p1
  | tup l => exact key trivial p1
  | lst l => exact key trivial p1
end
end Dn
namespace Dn
open PySem PySem.Spec PyProof.Rows L2
/-! ### the equations by which simp runs a def -/
@[simp] theorem e_oAdd_1 : ∀ i j st, oAdd (.int i) (.int j) st = .val .P (.int (i + j)) st := fun _ _ _ => rfl
@[simp] theorem e_oAdd_2 : ∀ a b st, oAdd (.str a) (.str b) st = if a.length + b.length ≤ 1000000 then .val .P (.str (a ++ b)) st else .bad := fun _ _ _ => rfl
@[simp] theorem e_oAdd_3 : ∀ a b st, oAdd (.lst a) (.lst b) st = if a.length + b.length ≤ 1000000 then .val .N (.lst (a ++ b)) st else .bad := fun _ _ _ => rfl
@[simp] theorem e_oAdd_4 : ∀ a b st, oAdd (.tup a) (.tup b) st = if a.length + b.length ≤ 1000000 then .val .P (.tup (a ++ b)) st else .bad := fun _ _ _ => rfl
@[simp] theorem e_oSub_1 : ∀ i j st, oSub (.int i) (.int j) st = .val .P (.int (i - j)) st := fun _ _ _ => rfl
@[simp] theorem e_oMul_1 : ∀ i j st, oMul (.int i) (.int j) st = if i.natAbs.log2 + j.natAbs.log2 < 1000000 then .val .P (.int (i * j)) st else .bad := fun _ _ _ => rfl
@[simp] theorem e_oMul_2 : ∀ a k st, oMul (.lst a) (.int k) st = if -(2 ^ 63) ≤ k ∧ k < 2 ^ 63 ∧ a.length * k.toNat ≤ 1000000 then .val .N (.lst (List.replicate k.toNat a).flatten) st else .bad := fun _ _ _ => rfl
@[simp] theorem e_oDiv_1 : ∀ i j st, oDiv (.int i) (.int j) st = if j ≠ 0 ∧ j.natAbs.log2 < 9000 then .val .P (.int (i.fdiv j)) st else .bad := fun _ _ _ => rfl
@[simp] theorem e_oMod_1 : ∀ i j st, oMod (.int i) (.int j) st = if j ≠ 0 then .val .P (.int (i.fmod j)) st else .bad := fun _ _ _ => rfl
@[simp] theorem e_oPow_1 : ∀ i j st, oPow (.int i) (.int j) st = if 0 ≤ j ∧ j ≤ 1000000 ∧ i.natAbs < 2 ^ 64 then .val .P (.int (i ^ j.toNat)) st else .bad := fun _ _ _ => rfl
@[simp] theorem e_oCmp_1 {p : Int → Int → Bool} : ∀ i j st, oCmp p (.int i) (.int j) st = .val .P (.bl (p i j)) st := fun _ _ _ => rfl
@[simp] theorem e_oIx_1 : ∀ l i st, oIx (.lst l) (.int i) st = ofOpt (atI l i) fun d => .val .P d st := fun _ _ _ => rfl
@[simp] theorem e_oIx_2 : ∀ l i st, oIx (.tup l) (.int i) st = ofOpt (atI l i) fun d => .val .P d st := fun _ _ _ => rfl
@[simp] theorem e_oIx_3 : ∀ l i st, oIx (.scr l) (.int i) st = ofOpt (atI l i) fun d => .val .P (.int d) st := fun _ _ _ => rfl
@[simp] theorem e_oIx_4 : ∀ z i st, oIx (.str z) (.int i) st = if z.length ≤ 1000000 then ofOpt (atI z.cps.toList i) (fun c => .val .P (.str ⟨#[c]⟩) st) else .bad := fun _ _ _ => rfl
@[simp] theorem e_oIx_5 : ∀ n i st, oIx (.ptr n) (.int i) st = ofOpt (stLst st n) fun l => ofOpt (atI l i) fun d => .val .P d st := fun _ _ _ => rfl
@[simp] theorem e_dVar {i : Nat} {E : En} : dVar i E = match E.e[i]? with
  | some (.val d) => .val .P d E.st
  | some (.own l) => .val .B (.lst l) E.st
  | _ => .bad := rfl
@[simp] theorem e_dC {d : D} {E : En} : dC d E = .val .P d E.st := rfl
@[simp] theorem e_dOp {o : D → D → Sto → ER} {f g : En → ER} {E : En} : dOp o f g E = (f E).bind fun x st => (g ⟨E.e, st⟩).bind fun y st => o x y st := rfl
@[simp] theorem e_dUn {o : D → Sto → ER} {f : En → ER} {E : En} : dUn o f E = (f E).bind o := rfl
@[simp] theorem e_oNeg_1 : ∀ i st, oNeg (.int i) st = .val .P (.int (-i)) st := fun _ _ => rfl
@[simp] theorem e_dAnd {f g : En → ER} {E : En} : dAnd f g E = (f E).bindB fun b st => if b = true then g ⟨E.e, st⟩ else .val .P (.bl false) st := rfl
@[simp] theorem e_dOr {f g : En → ER} {E : En} : dOr f g E = (f E).bindB fun b st => if b = true then .val .P (.bl true) st else g ⟨E.e, st⟩ := rfl
@[simp] theorem e_dNot {f : En → ER} {E : En} : dNot f E = (f E).bindB fun b st => .val .P (.bl (!b)) st := rfl
@[simp] theorem e_dIf {c f g : En → ER} {E : En} : dIf c f g E = (c E).bindB fun b st => if b = true then f ⟨E.e, st⟩ else g ⟨E.e, st⟩ := rfl
@[simp] theorem e_dChain {o o' : D → D → Sto → ER} {f g h : En → ER} {E : En} : dChain o o' f g h E = (f E).bind fun x st => (g ⟨E.e, st⟩).bind fun y st => (o x y st).bindB fun b st => if b = true then (h ⟨E.e, st⟩).bind fun z st => o' y z st else .val .P (.bl false) st := rfl
@[simp] theorem e_aNil {E : En} : aNil  E = .ok true [] E.st := rfl
@[simp] theorem e_aCons {f : En → ER} {g : En → AR} {E : En} : aCons f g E = (f E).cons fun st => g ⟨E.e, st⟩ := rfl
@[simp] theorem e_dTup {f : En → AR} {E : En} : dTup f E = match f E with
  | .ok true l st => if l.length ≤ 1000000 then .val .P (.tup l) st else .bad
  | .exc c l st => .exc c l st
  | _ => .bad := rfl
@[simp] theorem e_dLst {f : En → AR} {E : En} : dLst f E = match f E with
  | .ok true l st => if l.length ≤ 1000000 then .val .N (.lst l) st else .bad
  | .exc c l st => .exc c l st
  | _ => .bad := rfl
@[simp] theorem e_dPut {f : En → ER} {E : En} : dPut f E = match f E with
  | .val .N (.lst l) st => .val .P (.ptr st.length) (st ++ [.lst l])
  | .exc c l st => .exc c l st
  | _ => .bad := rfl
@[simp] theorem e_dCall {F : List D → Sto → ER} {f : En → AR} {E : En} : dCall F f E = match f E with
  | .ok true l st => F l st
  | .exc c l st => .exc c l st
  | _ => .bad := rfl
@[simp] theorem e_dCB {o : List D → Sto → ER} {f : En → AR} {E : En} : dCB o f E = match f E with
  | .ok _ l st => o l st
  | .exc c l st => .exc c l st
  | .bad => .bad := rfl
@[simp] theorem e_oAbs_1 : ∀ i st, oAbs ([.int i]) st = .val .P (.int (if i < 0 then -i else i)) st := fun _ _ => rfl
@[simp] theorem e_oLen_1 : ∀ l st, oLen ([.lst l]) st = .val .P (.int l.length) st := fun _ _ => rfl
@[simp] theorem e_oLen_2 : ∀ l st, oLen ([.tup l]) st = .val .P (.int l.length) st := fun _ _ => rfl
@[simp] theorem e_oLen_3 : ∀ l st, oLen ([.scr l]) st = .val .P (.int l.length) st := fun _ _ => rfl
@[simp] theorem e_oLen_4 : ∀ n st, oLen ([.ptr n]) st = ofOpt (stLst st n) fun l => .val .P (.int l.length) st := fun _ _ => rfl
@[simp] theorem e_oLen_5 : ∀ z st, oLen ([.str z]) st = if z.length ≤ 1000000 then .val .P (.int z.length) st else .bad := fun _ _ => rfl
@[simp] theorem e_oMax2_1 : ∀ i j st, oMax2 ([.int i, .int j]) st = .val .P (.int (if j > i then j else i)) st := fun _ _ _ => rfl
@[simp] theorem e_oMin2_1 : ∀ i j st, oMin2 ([.int i, .int j]) st = .val .P (.int (if j < i then j else i)) st := fun _ _ _ => rfl
@[simp] theorem e_oSum_1 : ∀ l st, oSum ([.lst l]) st = ofOpt (intsOf l) fun ns => .val .P (.int ns.sum) st := fun _ _ => rfl
@[simp] theorem e_oList_1 : ∀ l st, oList ([.lst l]) st = .val .N (.lst l) st := fun _ _ => rfl
@[simp] theorem e_oList_2 : ∀ l st, oList ([.tup l]) st = .val .N (.lst l) st := fun _ _ => rfl
@[simp] theorem e_oList_3 : ∀ l st, oList ([.scr l]) st = .val .N (.lst (l.map .int)) st := fun _ _ => rfl
@[simp] theorem e_oList_4 : ∀ n st, oList ([.ptr n]) st = ofOpt (stLst st n) fun l => .val .N (.lst l) st := fun _ _ => rfl
@[simp] theorem e_oTuple_1 : ∀ l st, oTuple ([.lst l]) st = .val .P (.tup l) st := fun _ _ => rfl
@[simp] theorem e_oTuple_2 : ∀ l st, oTuple ([.tup l]) st = .val .P (.tup l) st := fun _ _ => rfl
@[simp] theorem e_dSl {o : D → Option Int → Option Int → Sto → ER} {f : En → ER} {lo hi : En → Option ER} {E : En} : dSl o f lo hi E = (f E).bind fun x st => ofOpt (partI (lo ⟨E.e, st⟩) st) fun l => ofOpt (partI (hi ⟨E.e, l.2⟩) l.2) fun u => o x l.1 u.1 u.2 := rfl
@[simp] theorem e_sSeq {f g : En → SR} {E : En} : sSeq f g E = (f E).bind g := rfl
@[simp] theorem e_sSet {i : Nat} {f : En → ER} {E : En} : sSet i f E = match f E with
  | .val .P d st => .nx ⟨E.e.set i (.val d), st⟩
  | .val .N (.lst l) st => .nx ⟨E.e.set i (.own l), st⟩
  | .exc c l st => .exc c l ⟨E.e, st⟩
  | _ => .bad := rfl
@[simp] theorem e_sSetF {i : Nat} {f : En → ER} {E : En} : sSetF i f E = match f E with
  | .val .P d st => .nx ⟨E.e.set i (.val d), st⟩
  | .val .N d st => .nx ⟨E.e.set i (.val d), st⟩
  | .exc c l st => .exc c l ⟨E.e, st⟩
  | _ => .bad := rfl
@[simp] theorem e_sAsg {t : D → DE → Option DE} {f : En → ER} {E : En} : sAsg t f E = match f E with
  | .val .B _ _ => .bad
  | .val _ d st => (match t d E.e with | some e' => .nx ⟨e', st⟩ | none => .bad)
  | .exc c l st => .exc c l ⟨E.e, st⟩
  | _ => .bad := rfl
@[simp] theorem e_sPar {i j : Nat} {f : En → AR} {E : En} : sPar i j f E = match f E with
  | .ok true [a, b] st => .nx ⟨(E.e.set i (.val a)).set j (.val b), st⟩
  | .exc c l st => .exc c l ⟨E.e, st⟩
  | _ => .bad := rfl
@[simp] theorem e_sDrop {f : En → ER} {E : En} : sDrop f E = match f E with
  | .val _ _ st => .nx ⟨E.e, st⟩
  | .exc c l st => .exc c l ⟨E.e, st⟩
  | .bad => .bad := rfl
@[simp] theorem e_sRet {f : En → ER} {E : En} : sRet f E = match f E with
  | .val .P d st => .rt .P d st
  | .val .N d st => .rt .N d st
  | .exc c l st => .exc c l ⟨E.e, st⟩
  | _ => .bad := rfl
@[simp] theorem e_sRetV {i : Nat} {E : En} : sRetV i E = match E.e[i]? with
  | some (.val d) => .rt .P d E.st
  | some (.own l) => .rt .N (.lst l) E.st
  | _ => .bad := rfl
@[simp] theorem e_sRetN {E : En} : sRetN  E = .rt .P .non E.st := rfl
@[simp] theorem e_sIf {c : En → ER} {f g : En → SR} {E : En} : sIf c f g E = match c E with
  | .val _ (.bl b) st => if b = true then f ⟨E.e, st⟩ else g ⟨E.e, st⟩
  | .exc c l st => .exc c l ⟨E.e, st⟩
  | _ => .bad := rfl
@[simp] theorem e_sFrz {i : Nat} {g : En → SR} {E : En} : sFrz i g E = g ⟨frz i E.e, E.st⟩ := rfl
@[simp] theorem e_sApp {i : Nat} {f : En → ER} {E : En} : sApp i f E = match E.e[i]? with
  | some (.own l) => (match f E with
    | .val .B _ _ => .bad
    | .val _ d st => if l.length < 1000000 then .nx ⟨E.e.set i (.own (l ++ [d])), st⟩ else .bad
    | .exc c l st => .exc c l ⟨E.e, st⟩
    | .bad => .bad)
  | _ => .bad := rfl
@[simp] theorem e_sSetO {x : Nat} {f fi : En → ER} {E : En} : sSetO x f fi E = match E.e[x]? with
  | some (.own l) => (match f E with
    | .val .B _ _ => .bad
    | .val _ d st => (match fi ⟨E.e, st⟩ with
      | .val _ (.int i) st1 => (match ixN l.length i with | some j => .nx ⟨E.e.set x (.own (l.set j d)), st1⟩ | none => .bad)
      | .exc c l st => .exc c l ⟨E.e, st⟩
      | _ => .bad)
    | .exc c l st => .exc c l ⟨E.e, st⟩
    | .bad => .bad)
  | _ => .bad := rfl
@[simp] theorem e_sSetP {fb f fi : En → ER} {E : En} : sSetP fb f fi E = match f E with
  | .val .B _ _ => .bad
  | .val _ d st => (match fb ⟨E.e, st⟩ with
    | .val _ (.ptr n) st1 => (match fi ⟨E.e, st1⟩ with
      | .val _ (.int i) st2 => (match stLst st2 n with
        | some l => (match ixN l.length i with | some j => .nx ⟨E.e, st2.set n (.lst (l.set j d))⟩ | none => .bad)
        | none => .bad)
      | .exc c l st => .exc c l ⟨E.e, st⟩
      | _ => .bad)
    | .exc c l st => .exc c l ⟨E.e, st⟩
    | _ => .bad)
  | .exc c l st => .exc c l ⟨E.e, st⟩
  | .bad => .bad := rfl
@[simp] theorem e_dIter {f : En → ER} {E : En} : dIter f E = match f E with
  | .val .B _ _ => .bad
  | .val _ d st => (match itemsOf d with | some l => .ok true l st | none => .bad)
  | .exc c l st => .exc c l st
  | .bad => .bad := rfl
@[simp] theorem e_dRng {r : List D → Option (Int × Nat)} {f : En → AR} {E : En} : dRng r f E = match f E with
  | .ok _ l st => (match r l with | some r => .ok true (rangeD r.1 r.2) st | none => .bad)
  | .exc c l st => .exc c l st
  | _ => .bad := rfl
@[simp] theorem e_dEnum {f : En → AR} {E : En} : dEnum f E = match f E with
  | .ok true [.lst l] st => .ok true (enumD 0 l) st
  | .exc c l st => .exc c l st
  | _ => .bad := rfl
@[simp] theorem e_dZip {f : En → AR} {E : En} : dZip f E = match f E with
  | .ok true [.lst l, .lst m] st => .ok true (zipD l m) st
  | .exc c l st => .exc c l st
  | _ => .bad := rfl
@[simp] theorem e_sFor {src : En → AR} {t : D → DE → Option DE} {b : En → SR} {E : En} : sFor src t b E = match src E with
  | .ok _ l st => forD (tgB t b) l ⟨E.e, st⟩
  | .exc c l st => .exc c l ⟨E.e, st⟩
  | .bad => .bad := rfl
@[simp] theorem e_dLc {src : En → AR} {t : D → DE → Option DE} {c f : En → ER} {vs : List Nat} {E : En} : dLc src t c f vs E = match src E with
  | .ok _ l st => if l.length ≤ 1000000 then ofOpt (lcGo (lcStep t c f (wipeE E.e vs)) l st) fun r => .val .N (.lst r.1) r.2 else .bad
  | .exc k l st => .exc k l st
  | .bad => .bad := rfl
@[simp] theorem e_sRaise {c : Nat} {E : En} : sRaise c E = .exc c [] E := rfl
@[simp] theorem e_dCallG {F : List D → Sto → ER} {n m : Nat} {idx : List Nat} {dd : List D} {f g : En → AR} {E : En} : dCallG F n m idx dd f g E = match f E with
  | .ok true l st => (match g ⟨E.e, st⟩ with
    | .ok true z st1 => if l.length = n ∧ z.length = m then F (pickL idx (l ++ z ++ dd)) st1 else .bad
    | .exc c l st => .exc c l st
    | _ => .bad)
  | .exc c l st => .exc c l st
  | _ => .bad := rfl
@[simp] theorem e_dIsi {T : String} {f : En → ER} {E : En} : dIsi T f E = (f E).bind (isT T) := rfl
@[simp] theorem e_sTryAs {i : Nat} {catch? : Nat → Option Bool} {g : En → SR} {h : Nat → List D → En → SR} {E : En} : sTryAs i catch? g h E = match g E with
  | .exc c l E1 => (match catch? c with
    | some true => (match h c l ⟨(clr E1.e).set i .exn, E1.st⟩ with
      | .nx E2 => .nx ⟨(clr E2.e).set i .emp, E2.st⟩
      | .bk E2 => .bk ⟨(clr E2.e).set i .emp, E2.st⟩
      | .ct E2 => .ct ⟨(clr E2.e).set i .emp, E2.st⟩
      | .rt m d st => .rt m d st
      | _ => .bad)
    | some false => .exc c l E1
    | none => .bad)
  | r => r := rfl
@[simp] theorem e_dIsE {i : Nat} {b : Option Bool} {E : En} : dIsE i b E = match E.e[i]? with
  | some .exn => ofOpt b fun b => .val .P (.bl b) E.st
  | _ => .bad := rfl
@[simp] theorem e_dMtP {op : List D → List D → Option (D × List D)} {fb : En → ER} {fa : En → AR} {E : En} : dMtP op fb fa E = match fb E with
  | .val _ (.ptr n) st => (match stLst st n with
    | some _ => (match fa ⟨E.e, st⟩ with
      | .ok true ds st1 => (match stLst st1 n with
        | some l => (match op l ds with | some o => .val .P o.1 (st1.set n (.lst o.2)) | none => .bad)
        | none => .bad)
      | .exc c l st => .exc c l st
      | _ => .bad)
    | none => .bad)
  | .exc c l st => .exc c l st
  | _ => .bad := rfl
@[simp] theorem e_sMtO {j : Option Nat} {op : List D → List D → Option (D × List D)} {i : Nat} {fa : En → AR} {E : En} : sMtO j op i fa E = match E.e[i]? with
  | some (.own l) => (match fa E with
    | .ok true ds st1 => (match op l ds with | some o => .nx ⟨putAt j o.1 (E.e.set i (.own o.2)), st1⟩ | none => .bad)
    | .exc c l st => .exc c l ⟨E.e, st⟩
    | _ => .bad)
  | _ => .bad := rfl
@[simp] theorem e_sMt {op : List D → List D → Option (D × List D)} {i : Nat} {fa : En → AR} {E : En} : sMt op i fa E = match E.e[i]? with
  | some (.own _) => sMtO none op i fa E
  | _ => sDrop (dMtP op (dVar i) fa) E := rfl
@[simp] theorem e_sMtA {j : Nat} {op : List D → List D → Option (D × List D)} {i : Nat} {fa : En → AR} {E : En} : sMtA j op i fa E = match E.e[i]? with
  | some (.own _) => sMtO (some j) op i fa E
  | _ => sSetF j (dMtP op (dVar i) fa) E := rfl
@[simp] theorem e_dFld {ix : Nat → Option Nat} {fe : En → ER} {E : En} : dFld ix fe E = (fe E).bind fun x st => match x with
  | .ptr n => (match stIns st n with
    | some (c, l) => (match ix c with
      | some i => ofOpt l[i]? fun d => .val .P d st
      | none => .bad)
    | none => .bad)
  | _ => .bad := rfl
@[simp] theorem e_sFldS {ix : Nat → Option Nat} {fo fe : En → ER} {E : En} : sFldS ix fo fe E = match fe E with
  | .val .B _ _ => .bad
  | .val _ d st => (match fo ⟨E.e, st⟩ with
    | .val _ (.ptr n) st1 => (match stIns st1 n with
      | some (c, l) => (match ix c with
        | some i => (match putI i d l with
          | some l' => .nx ⟨E.e, st1.set n (.ins c l')⟩
          | none => .bad)
        | none => .bad)
      | none => .bad)
    | .exc c l st => .exc c l ⟨E.e, st⟩
    | _ => .bad)
  | .exc c l st => .exc c l ⟨E.e, st⟩
  | .bad => .bad := rfl
@[simp] theorem e_dMeth {c : Nat} {F : List D → Sto → ER} {n r : Nat} {idx : List Nat} {dd : List D} {fo : En → ER} {fa fk : En → AR} {E : En} : dMeth c F n r idx dd fo fa fk E = (fo E).bind fun x st => match x with
  | .ptr p => (match stIns st p with
    | some (c', _) => if c' = c then (match fa ⟨E.e, st⟩ with
      | .ok true l st1 => (match fk ⟨E.e, st1⟩ with
        | .ok true z st2 => if l.length + 1 = n ∧ z.length = r then F (pickL idx ((.ptr p :: l) ++ z ++ dd)) st2 else .bad
        | .exc c l st => .exc c l st
        | _ => .bad)
      | .exc c l st => .exc c l st
      | _ => .bad) else .bad
    | none => .bad)
  | _ => .bad := rfl
@[simp] theorem e_dAlt {p : En → Bool} {f g : En → ER} {E : En} : dAlt p f g E = if p E = true then f E else g E := rfl
@[simp] theorem e_dMake {c : Nat} {F : List D → Sto → ER} {n r : Nat} {idx : List Nat} {dd : List D} {fa fk : En → AR} {E : En} : dMake c F n r idx dd fa fk E = match fa E with
  | .ok true l st => (match fk ⟨E.e, st⟩ with
    | .ok true z st1 => if l.length + 1 = n ∧ z.length = r then (match F (pickL idx ((.ptr st1.length :: l) ++ z ++ dd)) (st1 ++ [.ins c []]) with
      | .val _ .non st2 => .val .P (.ptr st1.length) st2
      | .exc c l st => .exc c l st
      | _ => .bad) else .bad
    | .exc c l st => .exc c l st
    | _ => .bad)
  | .exc c l st => .exc c l st
  | _ => .bad := rfl
@[simp] theorem e_oAll_1 : ∀ l st, oAll ([.lst l]) st = ofOpt (boolsOf l) fun ns => .val .P (.bl (ns.all id)) st := fun _ _ => rfl
@[simp] theorem e_oAny_1 : ∀ l st, oAny ([.lst l]) st = ofOpt (boolsOf l) fun ns => .val .P (.bl (ns.any id)) st := fun _ _ => rfl
@[simp] theorem e_oRev_1 : ∀ l st, oRev (.lst l) st = .val .N (.lst l.reverse) st := fun _ _ => rfl
@[simp] theorem e_oRev_2 : ∀ n st, oRev (.ptr n) st = ofOpt (stLst st n) fun l => .val .N (.lst l.reverse) st := fun _ _ => rfl
@[simp] theorem e_dRev {f : En → ER} {E : En} : dRev f E = (f E).bind oRev := rfl
@[simp] theorem e_dMtX {op : List D → List D → Option (D × List D)} {fb : En → ER} {fa : En → AR} {E : En} : dMtX op fb fa E = match fb E with
  | .val .N (.lst l) st => (match fa ⟨E.e, st⟩ with
    | .ok true ds st1 => (match op l ds with | some o => .val .P o.1 st1 | none => .bad)
    | .exc c l st => .exc c l st
    | _ => .bad)
  | _ => dMtP op fb fa E := rfl
@[simp] theorem e_oSorted_1 : ∀ l st, oSorted ([.lst l]) st = ofOpt (intsOf l) fun ns => if ns.length < 64 then .val .N (.lst ((srt ns).map .int)) st else .bad := fun _ _ => rfl
@[simp] theorem e_dLr {f : En → ER} {E : En} : dLr f E = match f E with
  | .val _ (.int n) st => if -4611686018427387904 ≤ n ∧ n ≤ 1000000 then .val .N (.lst (rangeD 0 n.toNat)) st else .bad
  | .exc c l st => .exc c l st
  | _ => .bad := rfl
@[simp] theorem e_dHeld {i : Nat} {h : List (Option D) → D → D → Sto → ER} {fa : En → AR} {E : En} : dHeld i h fa E = match E.e[i]? with
  | some (.clo ds) => (match fa E with
    | .ok true [x, y] st => h ds x y st
    | .exc c l st => .exc c l st
    | _ => .bad)
  | _ => .bad := rfl
@[simp] theorem e_dLamC {np : Nat} {q : Str} {N : Nat} {g : En → SR} {f1 : En → ER} {E : En} : dLamC np q N g f1 E = match f1 E with
  | .val .B _ _ => .bad
  | .val _ d1 st => (match st[np]? with
    | some (.tbl q') => if q' = q then valOnly (g ⟨startL N d1 (cloOf E.e), st⟩).ret else .bad
    | _ => .bad)
  | .exc c l st => .exc c l st
  | .bad => .bad := rfl
@[simp] theorem e_dLenX {Os : OwnL} {f : En → ER} {E : En} : dLenX Os f E = match f E with
  | .val _ (.ptr n) st => (match stIns st n with
    | some (c, _) => ofOpt (ownF Os c) fun F => asLen (F [.ptr n] st)
    | none => oLen [.ptr n] st)
  | .val _ d st => oLen [d] st
  | .exc c l st => .exc c l st
  | .bad => .bad := rfl
@[simp] theorem e_oInt_1 : ∀ i st, oInt ([.int i]) st = .val .P (.int i) st := fun _ _ => rfl
@[simp] theorem e_oInt_2 : ∀ b st, oInt ([.bl b]) st = .val .P (.int (if b then 1 else 0)) st := fun _ _ => rfl
@[simp] theorem e_oInt_3 : ∀ a st, oInt ([.str a]) st = if a.length ≤ 640 then ofOpt (PySem.intText? a) fun n => .val .P (.int n) st else .bad := fun _ _ => rfl
@[simp] theorem e_oStr_1 : ∀ i st, oStr ([.int i]) st = if i.natAbs.log2 < 1920 then .val .P (.str (itxt i)) st else .bad := fun _ _ => rfl
@[simp] theorem e_oStr_2 : ∀ a st, oStr ([.str a]) st = .val .P (.str a) st := fun _ _ => rfl
@[simp] theorem e_dStrX {Os : OwnL} {f : En → ER} {E : En} : dStrX Os f E = match f E with
  | .val _ (.ptr n) st => (match stIns st n with
    | some (c, _) => ofOpt (ownF Os c) fun F => asStr (F [.ptr n] st)
    | none => .bad)
  | .val _ d st => oStr [d] st
  | .exc c l st => .exc c l st
  | .bad => .bad := rfl
@[simp] theorem e_dIsO {tab : Nat → Option Bool} {f : En → ER} {E : En} : dIsO tab f E = (f E).bind (isO tab) := rfl
@[simp] theorem e_dEqO {Os : OwnL} {Cs : List Nat} {neg : Bool} {o : D → D → Sto → ER} {f g : En → ER} {E : En} : dEqO Os Cs neg o f g E = match f E with
  | .val _ x st => (match g ⟨E.e, st⟩ with
    | .val m y st1 => eqO2 Os Cs neg o m x y st1
    | .exc c l st => .exc c l st
    | .bad => .bad)
  | .exc c l st => .exc c l st
  | .bad => .bad := rfl
@[simp] theorem e_dMs {op : Str → List D → Sto → ER} {fb : En → ER} {fa : En → AR} {E : En} : dMs op fb fa E = match fb E with
  | .val _ (.str x) st => (match fa ⟨E.e, st⟩ with
    | .ok _ ds st1 => op x ds st1
    | .exc c l st => .exc c l st
    | .bad => .bad)
  | .exc c l st => .exc c l st
  | _ => .bad := rfl
@[simp] theorem e_dFmt {f : En → ER} {E : En} : dFmt f E = match f E with
  | .val _ (.str y) st => if y.length ≤ 1000000 then .val .P (.str y) st else .bad
  | .val _ (.int i) st => if i.natAbs.log2 < 1920 then .val .P (.str (itxt i)) st else .bad
  | .exc c l st => .exc c l st
  | _ => .bad := rfl
@[simp] theorem e_dJs {fs : List (En → ER)} {E : En} : dJs fs E = jsGo fs Str.empty E.e E.st := rfl
@[simp] theorem e_dIsiP {T : String} {f : En → ER} {E : En} : dIsiP T f E = (f E).bind (isTP T) := rfl
@[simp] theorem e_sSkip {E : En} : sSkip E = .nx E := rfl
@[simp] theorem e_sBreak {E : En} : sBreak E = .bk E := rfl
@[simp] theorem e_sCont {E : En} : sCont E = .ct E := rfl
@[simp] theorem cons_P {d : D} {st : Sto} {a : Sto → AR} : (ER.val .P d st).cons a = (a st).cons true d := rfl
@[simp] theorem cons_N {d : D} {st : Sto} {a : Sto → AR} : (ER.val .N d st).cons a = (a st).cons true d := rfl
@[simp] theorem cons_B {d : D} {st : Sto} {a : Sto → AR} : (ER.val .B d st).cons a = (a st).cons false d := rfl
@[simp] theorem cons_exc {k : Nat} {l : List D} {st : Sto} {a : Sto → AR} : (ER.exc k l st).cons a = .exc k l st := rfl
@[simp] theorem cons_bad {a : Sto → AR} : ER.bad.cons a = .bad := rfl
@[simp] theorem acons_ok {p q : Bool} {d : D} {l : List D} {st : Sto} : (AR.ok q l st).cons p d = .ok (p && q) (d :: l) st := rfl
@[simp] theorem acons_exc {p : Bool} {d : D} {k : Nat} {l : List D} {st : Sto} : (AR.exc k l st).cons p d = .exc k l st := rfl
@[simp] theorem acons_bad {p : Bool} {d : D} : AR.bad.cons p d = .bad := rfl
@[simp] theorem e_pickNil {α : Type} {l : List α} : pickL [] l = [] := rfl
@[simp] theorem e_pickCons {α : Type} {k : Nat} {ks : List Nat} {l : List α} : pickL (k :: ks) l = (match l[k]? with | some x => [x] | none => []) ++ pickL ks l := by
  unfold pickL; rw [List.filterMap_cons]; cases l[k]? <;> rfl
@[simp] theorem e_part0 {st : Sto} : partI none st = some (none, st) := rfl
@[simp] theorem e_partI {m : Md} {i : Int} {st st1 : Sto} : partI (some (.val m (.int i) st1)) st = some (some i, st1) := rfl
@[simp] theorem e_tgN {i : Nat} {e : DE} {d : D} : tgN i d e = some (e.set i (.val d)) := rfl
@[simp] theorem e_tgsNil {e : DE} : tgsNil [] e = some e := rfl
@[simp] theorem e_tgsCons {e : DE} {q : D → DE → Option DE} {qs : List D → DE → Option DE} {d : D} {l : List D} : tgsCons q qs (d :: l) e = (q d e).bind (qs l) := rfl
@[simp] theorem e_tgTt {e : DE} {n : Nat} {qs : List D → DE → Option DE} {l : List D} : tgT n qs (.tup l) e = if l.length = n then qs l e else none := rfl
@[simp] theorem e_tgTl {e : DE} {n : Nat} {qs : List D → DE → Option DE} {l : List D} : tgT n qs (.lst l) e = if l.length = n then qs l e else none := rfl
@[simp] theorem e_tgB {E : En} {s : En → SR} {q : D → DE → Option DE} {d : D} : tgB q s d E = match q d E.e with | some e' => s ⟨e', E.st⟩ | none => .bad := rfl
@[simp] theorem e_for0 {b : D → En → SR} {E : En} : forD b [] E = .nx E := rfl
theorem e_forC {b : D → En → SR} {x : D} {xs : List D} {E : En} : forD b (x :: xs) E = match b x E with | .nx e' => forD b xs e' | .ct e' => forD b xs e' | .bk e' => .nx e' | r => r := rfl
@[simp] theorem e_itL {l : List D} : itemsOf (.lst l) = some l := rfl
@[simp] theorem e_itT {l : List D} : itemsOf (.tup l) = some l := rfl
@[simp] theorem e_itS {z : Str} : itemsOf (.str z) = some (z.cps.toList.map fun c => .str ⟨#[c]⟩) := rfl
@[simp] theorem e_itR {l : List Int} : itemsOf (.scr l) = some (l.map .int) := rfl
@[simp] theorem e_rng1 {j : Int} : rng1 [.int j] = if -(2 ^ 62) ≤ j ∧ j < 2 ^ 62 then some (0, j.toNat) else none := rfl
@[simp] theorem e_rng2 {i j : Int} : rng2 [.int i, .int j] = if -(2 ^ 62) ≤ i ∧ i < 2 ^ 62 ∧ -(2 ^ 62) ≤ j ∧ j < 2 ^ 62 then some (i, (j - i).toNat) else none := rfl
@[simp] theorem e_wipe0 {e : DE} : wipeE e [] = e := rfl
@[simp] theorem e_wipeC {e : DE} {v : Nat} {vs : List Nat} : wipeE e (v :: vs) = (wipeE e vs).set v .emp := rfl
@[simp] theorem e_lc0 {k : D → Sto → Option (Option D × Sto)} {st : Sto} : lcGo k [] st = some ([], st) := rfl
theorem e_lcC {k : D → Sto → Option (Option D × Sto)} {d : D} {l : List D} {st : Sto} : lcGo k (d :: l) st = (k d st).bind fun o => (lcGo k l o.2).bind fun r => some (o.1.toList ++ r.1, r.2) := rfl
@[simp] theorem e_lcStep {q : D → DE → Option DE} {c f : En → ER} {e : DE} {d : D} {st : Sto} : lcStep q c f e d st = match q d e with
  | none => none
  | some e2 => (match c ⟨e2, st⟩ with
    | .val _ (.bl b) st1 => if b = true then (match f ⟨e2, st1⟩ with | .val .P y st2 => some (some y, st2) | .val .N y st2 => some (some y, st2) | _ => none) else some (none, st1)
    | _ => none) := rfl
@[simp] theorem e_nilOnly {s : En → SR} {E : En} : nilOnly [] s E = s E := rfl
@[simp] theorem e_clr0 : clr [] = [] := rfl
@[simp] theorem e_clrC {x : SL} {r : DE} : clr (x :: r) = (match x with | .exn => .emp | .clo _ => .emp | s => s) :: clr r := rfl
@[simp] theorem e_ret_nx {E : En} : (SR.nx E).ret = .val .P .non E.st := rfl
@[simp] theorem e_ret_rt {m : Md} {d : D} {st : Sto} : (SR.rt m d st).ret = .val m d st := rfl
@[simp] theorem e_ret_exc {k : Nat} {l : List D} {E : En} : (SR.exc k l E).ret = .exc k l E.st := rfl
@[simp] theorem e_ret_bad : SR.bad.ret = .bad := rfl
@[simp] theorem e_fnD {n m : Nat} {s : En → SR} {ds : List D} {st : Sto} : fnD n m s ds st = if ds.length = n then (s ⟨startE m ds, st⟩).ret else .bad := rfl
@[simp] theorem e_startE {n : Nat} {ds : List D} : startE n ds = ds.map .val ++ List.replicate (n - ds.length) .emp := rfl
@[simp] theorem e_frz {i : Nat} {e : DE} : frz i e = match e[i]? with | some (.own l) => e.set i (.val (.lst l)) | _ => e := rfl
@[simp] theorem e_sSetI {x : Nat} {f fi : En → ER} {E : En} : sSetI x f fi E = match E.e[x]? with | some (.own _) => sSetO x f fi E | _ => sSetP (dVar x) f fi E := rfl
@[simp] theorem e_stLst {st : Sto} {n : Nat} : stLst st n = match st[n]? with | some (.lst l) => some l | _ => none := rfl
@[simp] theorem e_slL {l : List D} {lo hi : Option Int} {st : Sto} : oSl (.lst l) lo hi st = .val .N (.lst (cutG l lo hi)) st := rfl
@[simp] theorem e_slR {l : List Int} {lo hi : Option Int} {st : Sto} : oSl (.scr l) lo hi st = .val .N (.lst ((cutG l lo hi).map .int)) st := rfl
@[simp] theorem e_slS {z : Str} {lo hi : Option Int} {st : Sto} : oSl (.str z) lo hi st = if z.length ≤ 1000000 then .val .P (.str (cutS z lo hi)) st else .bad := rfl
theorem e_slT {l : List D} {lo hi : Option Int} {st : Sto} : oSl (.tup l) lo hi st = .val .P (.tup (cutG l lo hi)) st := rfl
@[simp] theorem e_isN {a : D} {st : Sto} : oIsN a .non st = .val .P (.bl (isNon a)) st := rfl
@[simp] theorem e_notN {a : D} {st : Sto} : oNotN a .non st = .val .P (.bl (!isNon a)) st := rfl
@[simp] theorem isNon_non : isNon .non = true := rfl
@[simp] theorem isNon_int {i : Int} : isNon (.int i) = false := rfl
@[simp] theorem isNon_str {i : Str} : isNon (.str i) = false := rfl
@[simp] theorem isNon_lst {i : List D} : isNon (.lst i) = false := rfl
@[simp] theorem isNon_tup {i : List D} : isNon (.tup i) = false := rfl
@[simp] theorem isNon_obj {c : Nat} {i : List D} : isNon (.obj c i) = false := rfl
/-! == -/
@[simp] theorem e_eqI {i j : Int} {st : Sto} : oEq (.int i) (.int j) st = .val .P (.bl (decide (i = j))) st := rfl
@[simp] theorem e_neI {i j : Int} {st : Sto} : oNe (.int i) (.int j) st = .val .P (.bl (!decide (i = j))) st := rfl
@[simp] theorem e_eqS {i j : Str} {st : Sto} : oEq (.str i) (.str j) st = .val .P (.bl (decide (i = j))) st := rfl
@[simp] theorem e_neS {i j : Str} {st : Sto} : oNe (.str i) (.str j) st = .val .P (.bl (!decide (i = j))) st := rfl
/-! isinstance -/
theorem kit_ii : kitB "int" "int" = some true := by decide +kernel
theorem kit_ib : kitB "int" "bool" = some false := by decide +kernel
theorem kit_bi : kitB "bool" "int" = some true := by decide +kernel
theorem kit_bb : kitB "bool" "bool" = some true := by decide +kernel
theorem kit_tt : kitB "tuple" "tuple" = some true := by decide +kernel
theorem kit_ll : kitB "list" "list" = some true := by decide +kernel
theorem kit_ss : kitB "str" "str" = some true := by decide +kernel
theorem kit_si : kitB "str" "int" = some false := by decide +kernel
theorem kit_is : kitB "int" "str" = some false := by decide +kernel
theorem kit_ti : kitB "tuple" "int" = some false := by decide +kernel
theorem kit_it : kitB "int" "tuple" = some false := by decide +kernel
theorem kit_tl : kitB "tuple" "list" = some false := by decide +kernel
theorem kit_lt : kitB "list" "tuple" = some false := by decide +kernel
@[simp] theorem e_is_ii {i : Int} {st : Sto} : isT "int" (.int i) st = .val .P (.bl true) st := by simp only [isT, tyN, kit_ii, ofOpt_some]
@[simp] theorem e_is_ib {i : Int} {st : Sto} : isT "bool" (.int i) st = .val .P (.bl false) st := by simp only [isT, tyN, kit_ib, ofOpt_some]
@[simp] theorem e_is_tt {l : List D} {st : Sto} : isT "tuple" (.tup l) st = .val .P (.bl true) st := by simp only [isT, tyN, kit_tt, ofOpt_some]
@[simp] theorem e_is_ll {l : List D} {st : Sto} : isT "list" (.lst l) st = .val .P (.bl true) st := by simp only [isT, tyN, kit_ll, ofOpt_some]
@[simp] theorem e_is_ss {l : Str} {st : Sto} : isT "str" (.str l) st = .val .P (.bl true) st := by simp only [isT, tyN, kit_ss, ofOpt_some]
@[simp] theorem e_is_is {i : Int} {st : Sto} : isT "str" (.int i) st = .val .P (.bl false) st := by simp only [isT, tyN, kit_is, ofOpt_some]
@[simp] theorem e_is_it {i : Int} {st : Sto} : isT "tuple" (.int i) st = .val .P (.bl false) st := by simp only [isT, tyN, kit_it, ofOpt_some]
@[simp] theorem e_is_si {l : Str} {st : Sto} : isT "int" (.str l) st = .val .P (.bl false) st := by simp only [isT, tyN, kit_si, ofOpt_some]
@[simp] theorem e_is_ti {l : List D} {st : Sto} : isT "int" (.tup l) st = .val .P (.bl false) st := by simp only [isT, tyN, kit_ti, ofOpt_some]
/-! equality of data, deep -/
theorem eqAny_of {a b : D} {r : Bool} {st : Sto} (hs : scalD a b = false) (h1 : isPy a = true) (h2 : isPy b = true) (h3 : SeqAt.shaped (py a) = true) (h4 : SeqAt.shaped (py b) = true) (he : PyData.eqv (py a) (py b) = r) : oEq a b st = .val .P (.bl r) st := by
  unfold oEq eqAny
  rw [if_neg (by rw [hs]; exact Bool.false_ne_true), if_pos ⟨h1, h2, h3, h4⟩, he]
/-- tuples and lists of ints -/
theorem py_ints : ∀ l : List Int, pyL (l.map D.int) = l.map PyData.int
  | [] => rfl
  | i :: l => by simp [pyL, py, py_ints l]
theorem isPy_ints : ∀ l : List Int, isPyL (l.map D.int) = true
  | [] => rfl
  | i :: l => by simp [isPyL, isPy, isPy_ints l]
theorem eqv_ints : ∀ l m : List Int, PyData.eqvAll (l.map PyData.int) (m.map PyData.int) = decide (l = m)
  | [], [] => by simp [PyData.eqvAll]
  | [], _ :: _ => by simp [PyData.eqvAll]
  | _ :: _, [] => by simp [PyData.eqvAll]
  | i :: l, j :: m => by
    simp only [List.map_cons, PyData.eqvAll, PyData.eqv, eqv_ints l m]
    by_cases h : i = j <;> simp [h]
theorem lay_ints : ∀ l : List Int, PyData.canLayAll0 (l.map PyData.int) = true
  | [] => by simp [PyData.canLayAll0]
  | i :: l => by simp [PyData.canLayAll0, PyData.canLay0, lay_ints l]
theorem depth_ints : ∀ l : List Int, PyData.depthAll (l.map PyData.int) = 0
  | [] => by simp [PyData.depthAll]
  | i :: l => by simp [PyData.depthAll, PyData.depth, depth_ints l]
theorem eq_tupInts (l m : List Int) (st : Sto) : oEq (.tup (l.map .int)) (.tup (m.map .int)) st = .val .P (.bl (decide (l = m))) st := by
  refine eqAny_of rfl ?_ ?_ ?_ ?_ ?_
  · simp [isPy, isPy_ints]
  · simp [isPy, isPy_ints]
  · simp [SeqAt.shaped, py, py_ints, PyData.canLay0, PyData.depth, lay_ints, depth_ints]
  · simp [SeqAt.shaped, py, py_ints, PyData.canLay0, PyData.depth, lay_ints, depth_ints]
  · simp [py, py_ints, PyData.eqv, eqv_ints]
theorem eq_lstInts (l m : List Int) (st : Sto) : oEq (.lst (l.map .int)) (.lst (m.map .int)) st = .val .P (.bl (decide (l = m))) st := by
  refine eqAny_of rfl ?_ ?_ ?_ ?_ ?_
  · simp [isPy, isPy_ints]
  · simp [isPy, isPy_ints]
  · simp [SeqAt.shaped, py, py_ints, PyData.canLay0, PyData.depth, lay_ints, depth_ints]
  · simp [SeqAt.shaped, py, py_ints, PyData.canLay0, PyData.depth, lay_ints, depth_ints]
  · simp [py, py_ints, PyData.eqv, eqv_ints]
@[simp] theorem eq_tup2 {a b c d : Int} {st : Sto} : oEq (.tup [.int a, .int b]) (.tup [.int c, .int d]) st = .val .P (.bl (decide (a = c ∧ b = d))) st := by
  have h := eq_tupInts [a, b] [c, d] st
  simp only [List.map_cons, List.map_nil] at h
  rw [h]
  simp
theorem ne_of_eq {a b : D} {st : Sto} {r : Bool} (h : oEq a b st = .val .P (.bl r) st) : oNe a b st = .val .P (.bl (!r)) st := by
  unfold oEq at h; unfold oNe
  cases q : eqAny a b with
  | none => rw [q] at h; cases h
  | some x => rw [q] at h; cases h; rfl
@[simp] theorem ne_tup2 {a b c d : Int} {st : Sto} : oNe (.tup [.int a, .int b]) (.tup [.int c, .int d]) st = .val .P (.bl (!decide (a = c ∧ b = d))) st := ne_of_eq eq_tup2
@[simp] theorem e_stIns {st : Sto} {n : Nat} : stIns st n = match st[n]? with | some (.ins c l) => some (c, l) | _ => none := rfl
@[simp] theorem e_putI {i : Nat} {d : D} {l : List D} : putI i d l = if i < l.length then some (l.set i d) else if i = l.length then some (l ++ [d]) else none := rfl
@[simp] theorem e_mAppend {l : List D} {d : D} : mAppend l [d] = if l.length < 1000000 then some (.non, l ++ [d]) else none := rfl
@[simp] theorem e_mInsert {l : List D} {i : Int} {d : D} : mInsert l [.int i, d] = if l.length < 1000000 ∧ 0 ≤ i ∧ i < 2 ^ 63 then some (.non, l.take i.toNat ++ [d] ++ l.drop i.toNat) else none := rfl
@[simp] theorem e_mPop {l : List D} : mPop l [] = match l[l.length - 1]? with | some d => some (d, l.dropLast) | none => none := rfl
@[simp] theorem e_mPopAt {l : List D} {i : Int} : mPopAt l [.int i] = if -(2 ^ 63) ≤ i ∧ i < 2 ^ 63 then (match seqIndex? i l.length with | some k => (match l[k]? with | some d => some (d, l.eraseIdx k) | none => none) | none => none) else none := rfl
@[simp] theorem e_mReverse {l : List D} : mReverse l [] = some (.non, l.reverse) := rfl
@[simp] theorem e_putAt0 {d : D} {e : DE} : putAt none d e = e := rfl
@[simp] theorem e_putAt1 {d : D} {e : DE} {j : Nat} : putAt (some j) d e = e.set j (.val d) := rfl
@[simp] theorem e_isC {c : Nat} {fo : En → ER} {E : En} : isC c fo E = match fo E with
  | .val _ (.ptr n) st => (match stIns st n with | some (c', _) => c' == c | none => false)
  | _ => false := rfl
@[simp] theorem e_dIterV {i : Nat} {E : En} : dIterV i E = match E.e[i]? with
  | some (.own l) => .ok false l E.st
  | _ => dIter (dVar i) E := rfl
@[simp] theorem e_mClear {l : List D} : mClear l [] = some (.non, []) := rfl
@[simp] theorem boolsOf_map {α : Type} (f : α → Bool) : ∀ l : List α, boolsOf (l.map fun a => .bl (f a)) = some (l.map f)
  | [] => rfl
  | a :: l => by simp [boolsOf, boolsOf_map f l]
@[simp] theorem e_oIn_1 {a : D} {l : List D} {st : Sto} : oIn a (.lst l) st = ofOpt (inL a l) fun r => .val .P (.bl r) st := rfl
@[simp] theorem e_oIn_2 {a : D} {n : Nat} {st : Sto} : oIn a (.ptr n) st = ofOpt (stLst st n) fun l => ofOpt (inL a l) fun r => .val .P (.bl r) st := rfl
@[simp] theorem e_oNotIn_1 {a : D} {l : List D} {st : Sto} : oNotIn a (.lst l) st = ofOpt (inL a l) fun r => .val .P (.bl (!r)) st := rfl
@[simp] theorem e_oNotIn_2 {a : D} {n : Nat} {st : Sto} : oNotIn a (.ptr n) st = ofOpt (stLst st n) fun l => ofOpt (inL a l) fun r => .val .P (.bl (!r)) st := rfl
@[simp] theorem e_cloOf0 : cloOf [] = [] := rfl
@[simp] theorem e_cloOfC {x : SL} {r : DE} : cloOf (x :: r) = (match x with | .val d => some d | _ => none) :: cloOf r := rfl
@[simp] theorem e_cloE {ds : List (Option D)} {ja jb : Nat} {x y : D} : cloE ds ja jb x y = ((ds.map slO).set ja (.val x)).set jb (.val y) := rfl
@[simp] theorem e_slO1 {d : D} : slO (some d) = .val d := rfl
@[simp] theorem e_slO0 : slO none = .emp := rfl
@[simp] theorem e_startL {n : Nat} {d : D} {ds : List (Option D)} : startL n d ds = .val d :: .clo ds :: List.replicate (n - 2) .emp := rfl
@[simp] theorem e_valOnly {m : Md} {d : D} {st : Sto} : valOnly (.val m d st) = .val m d st := rfl
@[simp] theorem e_sBad {E : En} : sBad E = .bad := rfl
@[simp] theorem e_dBad {E : En} : dBad E = .bad := rfl
@[simp] theorem e_sForX {f : En → ER} {t : D → DE → Option DE} {b : En → SR} {E : En} : sForX f t b E = match f E with
  | .val _ (.ptr n) st => (match stLst st n with | some l => forPD n l (tgB t b) l ⟨E.e, st⟩ | none => .bad)
  | _ => sFor (dIter f) t b E := rfl
@[simp] theorem e_derefL {st : Sto} {l : List D} : deref st (.lst l) = .lst l := rfl
@[simp] theorem e_derefT {st : Sto} {l : List D} : deref st (.tup l) = .tup l := rfl
@[simp] theorem e_derefI {st : Sto} {i : Int} : deref st (.int i) = .int i := rfl
@[simp] theorem e_derefS {st : Sto} {x : Str} : deref st (.str x) = .str x := rfl
@[simp] theorem e_derefB {st : Sto} {x : Bool} : deref st (.bl x) = .bl x := rfl
@[simp] theorem e_derefN {st : Sto} : deref st .non = .non := rfl
@[simp] theorem e_derefP {st : Sto} {n : Nat} : deref st (.ptr n) = (match stLst st n with | some l => .lst l | none => .ptr n) := rfl
@[simp] theorem e_oEqX {a b : D} {st : Sto} : oEqX a b st = oEq (deref st a) (deref st b) st := rfl
@[simp] theorem e_oNeX {a b : D} {st : Sto} : oNeX a b st = oNe (deref st a) (deref st b) st := rfl
@[simp] theorem e_ownF0 {c : Nat} : ownF [] c = none := rfl
@[simp] theorem e_ownFC {c c' : Nat} {F : List D → Sto → ER} {l : OwnL} : ownF ((c', F) :: l) c = if c = c' then some F else ownF l c := rfl
@[simp] theorem e_asLen {m : Md} {i : Int} {st : Sto} : asLen (.val m (.int i) st) = if 0 ≤ i ∧ i < 2 ^ 63 then .val .P (.int i) st else .bad := rfl
@[simp] theorem e_asStr {m : Md} {i : Str} {st : Sto} : asStr (.val m (.str i) st) = .val .P (.str i) st := rfl
@[simp] theorem e_asBl {m : Md} {i n : Bool} {st : Sto} : asBl n (.val m (.bl i) st) = .val .P (.bl (i != n)) st := rfl
@[simp] theorem e_isOP {t : Nat → Option Bool} {n : Nat} {st : Sto} : isO t (.ptr n) st = (match stIns st n with | some (c, _) => ofOpt (t c) fun b => .val .P (.bl b) st | none => (match stLst st n with | some _ => .val .P (.bl false) st | none => .bad)) := rfl
@[simp] theorem e_isON {t : Nat → Option Bool} {st : Sto} : isO t .non st = .val .P (.bl false) st := rfl
@[simp] theorem e_isOI {t : Nat → Option Bool} {i : Int} {st : Sto} : isO t (.int i) st = .val .P (.bl false) st := rfl
@[simp] theorem e_isOB {t : Nat → Option Bool} {i : Bool} {st : Sto} : isO t (.bl i) st = .val .P (.bl false) st := rfl
@[simp] theorem e_isOS {t : Nat → Option Bool} {i : Str} {st : Sto} : isO t (.str i) st = .val .P (.bl false) st := rfl
@[simp] theorem e_isOT {t : Nat → Option Bool} {l : List D} {st : Sto} : isO t (.tup l) st = .val .P (.bl false) st := rfl
@[simp] theorem e_isOL {t : Nat → Option Bool} {l : List D} {st : Sto} : isO t (.lst l) st = .val .P (.bl false) st := rfl
@[simp] theorem e_eqArgP {Cs : List Nat} {n : Nat} {st : Sto} : eqArg Cs (.ptr n) st = (match stIns st n with | some (c, _) => Cs.contains c | none => false) := rfl
@[simp] theorem e_eqArgN {Cs : List Nat} {st : Sto} : eqArg Cs .non st = true := rfl
@[simp] theorem e_eqArgI {Cs : List Nat} {i : Int} {st : Sto} : eqArg Cs (.int i) st = true := rfl
@[simp] theorem e_eqArgB {Cs : List Nat} {i : Bool} {st : Sto} : eqArg Cs (.bl i) st = true := rfl
@[simp] theorem e_eqArgS {Cs : List Nat} {i : Str} {st : Sto} : eqArg Cs (.str i) st = true := rfl
@[simp] theorem e_eqArgT {Cs : List Nat} {i : List D} {st : Sto} : eqArg Cs (.tup i) st = true := rfl
@[simp] theorem e_eqArgL {Cs : List Nat} {i : List D} {st : Sto} : eqArg Cs (.lst i) st = true := rfl
@[simp] theorem e_eqO2P {Os : OwnL} {Cs : List Nat} {neg : Bool} {o : D → D → Sto → ER} {m : Md} {n : Nat} {y : D} {st : Sto} : eqO2 Os Cs neg o m (.ptr n) y st = (match stIns st n with
    | some (c, _) => ofOpt (ownF Os c) fun F => if m ≠ .B ∧ eqArg Cs y st = true then asBl neg (F [.ptr n, y] st) else .bad
    | none => o (.ptr n) y st) := rfl
@[simp] theorem e_eqO2I {Os : OwnL} {Cs : List Nat} {neg : Bool} {o : D → D → Sto → ER} {m : Md} {i : Int} {y : D} {st : Sto} : eqO2 Os Cs neg o m (.int i) y st = o (.int i) y st := rfl
@[simp] theorem e_eqO2L {Os : OwnL} {Cs : List Nat} {neg : Bool} {o : D → D → Sto → ER} {m : Md} {i : List D} {y : D} {st : Sto} : eqO2 Os Cs neg o m (.lst i) y st = o (.lst i) y st := rfl
@[simp] theorem e_rowsOf {α : Type} {f g : α → Int} : ∀ l : List α, rowsOf (l.map fun a => .tup [.int (f a), .int (g a)]) = some (l.map fun a => (f a, g a))
  | [] => rfl
  | a :: l => by simp only [List.map_cons, rowsOf, e_rowsOf l]; rfl
@[simp] theorem e_strsOf {α : Type} {f : α → Str} : ∀ l : List α, strsOf (l.map fun a => .str (f a)) = some (l.map f)
  | [] => rfl
  | a :: l => by simp only [List.map_cons, strsOf, e_strsOf l]; rfl
@[simp] theorem e_seqL {l : List D} {st : Sto} : seqStrs (.lst l) st = strsOf l := rfl
@[simp] theorem e_seqT {l : List D} {st : Sto} : seqStrs (.tup l) st = strsOf l := rfl
@[simp] theorem e_seqP {n : Nat} {st : Sto} : seqStrs (.ptr n) st = (stLst st n).bind strsOf := rfl
@[simp] theorem e_js0 {a : Str} {e : DE} {st : Sto} : jsGo [] a e st = .val .P (.str a) st := rfl
@[simp] theorem e_jsC {f : En → ER} {fs : List (En → ER)} {acc : Str} {e : DE} {st : Sto} : jsGo (f :: fs) acc e st = match f ⟨e, st⟩ with
    | .val _ (.str y) st1 => if (acc ++ y).length ≤ 1000000 then jsGo fs (acc ++ y) e st1 else .bad
    | .exc c l st => .exc c l st
    | _ => .bad := rfl
@[simp] theorem e_oSortedX {l : List D} {st : Sto} : oSortedX [.lst l] st = (match intsOf l with
    | some ns => if ns.length < 64 then .val .N (.lst ((srt ns).map .int)) st else .bad
    | none => ofOpt (rowsOf l) fun rs => .val .N (.lst ((srtP rs).map fun r => .tup [.int r.1, .int r.2])) st) := rfl
@[simp] theorem e_msJoin {a : Str} {d : D} {st : Sto} : msJoin a [d] st = ofOpt (seqStrs d st) fun ys => if (ys.map (·.length)).sum + ys.length * a.length ≤ 1000000 then .val .P (.str (Txt.join a ys)) st else .bad := rfl
@[simp] theorem e_msSplit {a b : Str} {st : Sto} : msSplit a [.str b] st = if (b.length == 0) = false ∧ a.length + 2 ≤ 1000000 then .val .N (.lst ((Txt.split a b).map .str)) st else .bad := rfl
@[simp] theorem e_msPartition {a b : Str} {st : Sto} : msPartition a [.str b] st = if (b.length == 0) = false ∧ a.length ≤ 1000000 then .val .P (.tup [.str (Txt.partition a b).1, .str (Txt.partition a b).2.1, .str (Txt.partition a b).2.2]) st else .bad := rfl
@[simp] theorem e_msCount {a b : Str} {st : Sto} : msCount a [.str b] st = .val .P (.int (Txt.count a b)) st := rfl
@[simp] theorem e_isTPp {T : String} {n : Nat} {st : Sto} : isTP T (.ptr n) st = (match stLst st n with | some _ => ofOpt (kitB "list" T) fun b => .val .P (.bl b) st | none => .bad) := rfl
@[simp] theorem e_isTPl {T : String} {l : List D} {st : Sto} : isTP T (.lst l) st = isT T (.lst l) st := rfl
@[simp] theorem e_isTPt {T : String} {l : List D} {st : Sto} : isTP T (.tup l) st = isT T (.tup l) st := rfl
end Dn
namespace Dn
open PySem PySem.Spec PyProof.Rows L2
/-! ### try, where the body raises nothing -/
def sThru (g : En → SR) : En → SR := fun E => match g E with
  | .exc _ _ _ => .bad
  | r => r
theorem s_thru {G : Gm} {W : WX} {t : TS} {g : En → SR} (h : DSt G W0 t g) : DSt G W t (sThru g) := fun s t' σ e st hE hS N p => by
  refine h s t' σ e st hE hS N ?_
  unfold sThru at p
  cases hg : g ⟨e, st⟩ with
  | exc c l E => rw [hg] at p; exact p.elim
  | nx E => rw [hg] at p; exact p
  | rt m d st => rw [hg] at p; exact p
  | bk E => rw [hg] at p; exact p
  | ct E => rw [hg] at p; exact p
  | bad => rw [hg] at p; exact p
@[simp] theorem e_sThru {g : En → SR} {E : En} : sThru g E = match g E with
  | .exc _ _ _ => .bad
  | r => r := rfl
end Dn
namespace Dn
open PySem PySem.Spec PyProof.Rows L2
section
variable {G : Gm} {W : WX}
/-! ### x[i], x[j] = a, b: x an own list -/
theorem gsub_own {x : Nat} {ti : TE} {fi : En → ER} (hi : DEv G W ti fi) {s t : Hs} {σ : L2.St} {e : DE} {st st1 : Sto} {l : List D} {v : V} {d : D} {m : Md} {i : Int} {j : Nat} (E : EnvOk G s t σ e) (k : StOk G t st) (hx : e[x]? = some (.own l)) (hv : Is G t.as t.f v d) (hf : fi ⟨e, st⟩ = .val m (.int i) st1) (hj : ixN l.length i = some j) {Q : L2.St → Hp → Prop}
    (post : ∀ t' : Hs, Up t t' → EnvOk G s t' σ (e.set x (.own (l.set j d))) → StOk G t' st1 → Q σ t'.h) : gSub (tVar x) ti rSetL v σ t.h Q := by
  obtain ⟨o, hσ, p, vs, rfl, p0, pf, ph, pl, pa⟩ := E.slot hx
  refine ⟨_, hσ, ?_⟩
  refine hi s t σ e st E k _ ?_
  rw [hf]
  intro t3 w g3 k3 o3
  obtain rfl := o3.u.int
  have hp' : t3.h p = some (.lst vs) := g3.h _ _ ph pa
  have hf' : t3.f p = none := g3.n _ _ ph pf
  have ha' : p ∉ t3.as := fun m => (g3.w p m).elim pa fun z => by rw [ph] at z; cases z
  refine ⟨p, vs, i, j, rfl, rfl, hp', by rw [pl.len]; exact hj, ?_⟩
  have pl' := (pl.up g3.a g3.f).set (hv.up g3.a g3.f) j
  exact post ⟨t3.as, t3.f, upd t3.h p (.lst (vs.set j v))⟩ ⟨g3.a, g3.f⟩ ((E.up g3).chg hσ hx p0 hf' pl' ha') (k3.chg hf' ha')
def sSwI (x : Nat) (f : En → ER) (f1 f2 : En → ER) : En → SR := fun E => match f E with
  | .val .P (.tup [a, b]) st => (match E.e[x]? with
    | some (.own l) => (match f1 ⟨E.e, st⟩ with
      | .val _ (.int i) st1 => (match ixN l.length i with
        | some j => (match f2 ⟨E.e.set x (.own (l.set j a)), st1⟩ with
          | .val _ (.int i2) st2 => (match ixN l.length i2 with
            | some j2 => .nx ⟨(E.e.set x (.own (l.set j a))).set x (.own ((l.set j a).set j2 b)), st2⟩
            | none => .bad)
          | _ => .bad)
        | none => .bad)
      | _ => .bad)
    | _ => .bad)
  | .exc c l st => .exc c l ⟨E.e, st⟩
  | _ => .bad
theorem s_swI {x : Nat} {te t1 t2 : TE} {f f1 f2 : En → ER} (h : DEv G W te f) (h1 : DEv G W t1 f1) (h2 : DEv G W t2 f2) : DSt G W (tAsg te (gTL G.K 2 (gCons (gSub (tVar x) t1 rSetL) (gCons (gSub (tVar x) t2 rSetL) gNil)))) (sSwI x f f1 f2) := by
  intro s t σ e st E k N post
  unfold sSwI at post
  refine ev_st (N := N) h E k (fun c l st1 q => by rw [q] at post; exact post) (fun q => by rw [q] at post; exact post) fun m d st1 q u v g1 k1 o1 => ?_
  rw [q] at post
  cases m with
  | B => exact post.elim
  | N => exact post.elim
  | P =>
    cases d <;> try exact post.elim
    case tup ds =>
      match ds, post, o1 with
      | [], post, _ => exact post.elim
      | [_], post, _ => exact post.elim
      | _ :: _ :: _ :: _, post, _ => exact post.elim
      | [a, b], post, o1 =>
        cases o1 with
        | tup sq il =>
          cases il with
          | cons ia il =>
            cases il with
            | cons ib il =>
              cases il
              have post : SPost G W s t N (match e[x]? with
                | some (.own l) => (match f1 ⟨e, st1⟩ with
                  | .val _ (.int i) st1 => (match ixN l.length i with
                    | some j => (match f2 ⟨e.set x (.own (l.set j a)), st1⟩ with
                      | .val _ (.int i2) st2 => (match ixN l.length i2 with
                        | some j2 => .nx ⟨(e.set x (.own (l.set j a))).set x (.own ((l.set j a).set j2 b)), st2⟩
                        | none => .bad)
                      | _ => .bad)
                    | none => .bad)
                  | _ => .bad)
                | _ => .bad) := post
              refine .inl ⟨_, _, rfl, same_t k1.sf sq, rfl, _, _, rfl, ?_⟩
              split at post
              · rename_i l hx
                split at post
                · rename_i m1 i1 st2 hf1
                  split at post
                  · rename_i j1 hj1
                    split at post
                    · rename_i m2 i2 st3 hf2
                      split at post
                      · rename_i j2 hj2
                        refine gsub_own h1 (E.up g1) k1 hx ia hf1 hj1 fun t3 up3 E3 k3 => ?_
                        refine ⟨_, _, rfl, ?_⟩
                        have hx3 : (e.set x (.own (l.set j1 a)))[x]? = some (.own (l.set j1 a)) := by
                          rw [List.getElem?_set_self (List.getElem?_eq_some_iff.mp hx).1]
                        refine gsub_own h2 E3 k3 hx3 (ib.up up3.a up3.f) hf2 (by rw [List.length_set]; exact hj2) fun t4 up4 E4 k4 => ?_
                        exact ⟨rfl, post t4 σ ((g1.up.trans up3).trans up4) E4 k4⟩
                      · exact post.elim
                    · exact post.elim
                  · exact post.elim
                · exact post.elim
              · exact post.elim
@[simp] theorem e_sSwI {x : Nat} {f f1 f2 : En → ER} {E : En} : sSwI x f f1 f2 E = match f E with
  | .val .P (.tup [a, b]) st => (match E.e[x]? with
    | some (.own l) => (match f1 ⟨E.e, st⟩ with
      | .val _ (.int i) st1 => (match ixN l.length i with
        | some j => (match f2 ⟨E.e.set x (.own (l.set j a)), st1⟩ with
          | .val _ (.int i2) st2 => (match ixN l.length i2 with
            | some j2 => .nx ⟨(E.e.set x (.own (l.set j a))).set x (.own ((l.set j a).set j2 b)), st2⟩
            | none => .bad)
          | _ => .bad)
        | none => .bad)
      | _ => .bad)
    | _ => .bad)
  | .exc c l st => .exc c l ⟨E.e, st⟩
  | _ => .bad := rfl
end
end Dn
namespace L2
open PySem PySem.Spec PyProof.Rows
section
variable {X : Cx}
/-- l.count(x): how many are equal, whatever they are -/
def rCntD (K : PySem.W.Frag) : V → List V → Hp → VK → Prop := fun x xs H Q => ∃ (a : Addr) (y : V) (d : PyData) (ds : List PyData), x = V.ref a ∧ xs = [y] ∧ Dp K H (V.ref a) (.list ds) ∧ Dp K H y d ∧ SeqAt.shaped (.list ds) = true ∧ SeqAt.shaped d = true ∧ Q (.int (ds.countP (fun z => PyData.eqv z d) : Nat)) H
theorem mt_countD (hu : X.A.units + 65 < cLine) : MtR X "list.count" (rCntD X.K) := by
  intro pins s σ H x xs v us Q I rx rxs h
  obtain ⟨a, y, d, ds, rfl, rfl, hl, hy, sl, sd, q⟩ := h
  cases rx
  cases rxs with
  | cons ry rt =>
    rename_i uy ut
    cases rt
    obtain ⟨bs, r1⟩ := Dp.reads I d y uy hy ry
    have hxs : PyData.canLayAll0 ds = true := SeqAt.canLay_of_shaped sl
    have hroom : X.A.units + 1 + min (PyData.depthAll ds) d.depth < cLine := room_in_shaped sd hu
    cases hl with
    | lst hs ha =>
      obtain ⟨its, rv, ⟨⟨cls, dd, data, sls⟩, n, ho, hc, hdn, hdt⟩, hlen⟩ := I.list hs
      simp only at hc hdt
      subst hc hdt
      obtain ⟨as, h4⟩ := Dp.readsAll I ds _ its ha rv
      have hmap : its.map (SeqAt.readOf s.heap) = ds := SeqAt.readsAll_map ds its as hxs h4
      refine call_meets PySem.F.slot_list_count ⟨_, ho, rfl⟩ PySem.F.entry_list_count (PySem.F.args_list_count_2 _ _)
        (SeqAt.list_countAt a its.toArray n dd sls uy (fun u => PyData.eqv (SeqAt.readOf s.heap u) d)) ⟨ho, SeqAt.items_eqAt (vs := its.toArray) (show ReadsAll s.heap its.toArray.toList ds as from h4) r1 hxs (SeqAt.canLay_of_shaped sd) hroom, ?_⟩
      have ec : its.toArray.toList.countP (fun u => PyData.eqv (SeqAt.readOf s.heap u) d) = ds.countP (fun z => PyData.eqv z d) := by
        rw [← hmap, List.countP_map]; rfl
      refine ⟨.int (ds.countP (fun z => PyData.eqv z d) : Nat), H, I.tok _, ⟨s.toks, ?_⟩, q⟩
      show Value.int ((its.toArray.toList.countP _ : Nat) : Int) s.toks = _
      rw [ec]
end
end L2
namespace Dn
open PySem PySem.Spec PyProof.Rows L2
section
variable {G : Gm} {W : WX}
def cntL (d : D) (l : List D) : Option Nat := if isPy d = true ∧ isPyL l = true ∧ SeqAt.shaped (py d) = true ∧ SeqAt.shaped (.list (pyL l)) = true then some ((pyL l).countP fun z => PyData.eqv z (py d)) else none
/-- count of a list -/
def dCnt (fb : En → ER) (fa : En → AR) : En → ER := fun E => match fb E with
  | .val _ (.lst l) st => (match fa ⟨E.e, st⟩ with
    | .ok _ [d] st1 => ofOpt (cntL d l) fun n => .val .P (.int (n : Nat)) st1
    | .exc c l st => .exc c l st
    | _ => .bad)
  | .exc c l st => .exc c l st
  | _ => .bad
theorem v_cnt {tb : TE} {ta : TA} {fb : En → ER} {fa : En → AR} (hb : DEv G W tb fb) (ha : DAr G W ta fa) : DEv G W (tBM G.K "list" (rCntD G.K) tb ta) (dCnt fb fa) := by
  intro s t σ e st E k Q post
  refine hb s t σ e st E k _ ?_
  unfold dCnt at post
  cases q : fb ⟨e, st⟩ with
  | exc c l st1 => rw [q] at post; exact post
  | bad => rw [q] at post; exact post
  | val m d st1 =>
    rw [q] at post
    cases d <;> first | exact post.elim | skip
    rename_i l
    intro t1 v g1 k1 o1
    have u1 := o1.u
    obtain ⟨p, vs, rfl, hp, il⟩ := u1.lst k1.sf
    refine ⟨.inl ⟨rfl, vs, SqL.of hp⟩, ha s t1 σ e st1 (E.up g1) k1 _ ?_⟩
    have post : RPost G W t1 σ Q (match fa ⟨e, st1⟩ with
      | .ok _ [d] st1 => ofOpt (cntL d l) fun n => .val .P (.int (n : Nat)) st1
      | .exc c l st => .exc c l st
      | _ => .bad) := RPost.step g1 k1 post
    cases q2 : fa ⟨e, st1⟩ with
    | ok b ds st2 =>
      rw [q2] at post
      match ds, post with
      | [], post => exact post.elim
      | _ :: _ :: _, post => exact post.elim
      | [d], post =>
        intro t2 xs g2 k2 _ u2
        cases u2 with
        | cons hv ul =>
          cases ul
          have post := RPost.step g2 k2 post
          obtain ⟨n, hn, post⟩ := RPost.opt (cntL d l) (fun n => .val .P (.int (n : Nat)) st2) post
          obtain ⟨p', vs', e', hp', il'⟩ := (u1.up g2).lst k2.sf
          cases e'
          unfold cntL at hn
          split at hn
          · rename_i c
            refine ⟨p, _, py d, pyL l, rfl, rfl, .lst (SqL.of hp') (dpL_of k2.sf l c.2.1 il'), dp_u k2.sf c.1 hv, c.2.2.2, c.2.2.1, ?_⟩
            cases hn
            exact post.now k2 (.int _)
          · cases hn
    | exc c l st2 => rw [q2] at post; exact post
    | bad => rw [q2] at post; exact post
@[simp] theorem e_dCnt {fb : En → ER} {fa : En → AR} {E : En} : dCnt fb fa E = match fb E with
  | .val _ (.lst l) st => (match fa ⟨E.e, st⟩ with
    | .ok _ [d] st1 => ofOpt (cntL d l) fun n => .val .P (.int (n : Nat)) st1
    | .exc c l st => .exc c l st
    | _ => .bad)
  | .exc c l st => .exc c l st
  | _ => .bad := rfl
/-! ### a text in a tuple of texts -/
def oInT (a b : D) (st : Sto) : ER := match a, b with
  | .str x, .tup l => ofOpt (strsOf l) fun ys => .val .P (.bl (inV (.str x) (ys.map V.str))) st
  | _, _ => .bad
theorem flat_strs : ∀ ys : List Str, (ys.map V.str).all flatV = true
  | [] => rfl
  | y :: ys => by simp only [List.map_cons, List.all_cons, flat_strs ys, Bool.and_true]; rfl
theorem d_inT : DOp G (rIn G.K false) oInT := by
  intro W σ s st v w d d' k hv hw Q post
  cases d <;> try exact post.elim
  rename_i x
  cases d' <;> try exact post.elim
  rename_i l
  obtain rfl := hv.str
  obtain ⟨ys, hy, post⟩ := RPost.opt (strsOf l) (fun ys => .val .P (.bl (inV (.str x) (ys.map V.str))) st) post
  obtain ⟨p, xs, rfl, sq, il⟩ := hw.tup k.sf
  have := strsOf_V hy il
  subst this
  exact ⟨p, _, rfl, .inr sq, rfl, flat_strs ys, post.now k (.bl _)⟩
@[simp] theorem e_oInT {x : Str} {l : List D} {st : Sto} : oInT (.str x) (.tup l) st = ofOpt (strsOf l) fun ys => .val .P (.bl (inV (.str x) (ys.map V.str))) st := rfl
end
end Dn
namespace Dn
open PySem PySem.Spec PyProof.Rows L2
/-! ### x[lo:hi:c] of a list, c a written number -/
def pickN (n : Nat) (lo hi : Option Int) (c : Int) : List Nat := sliceRange (sliceBounds lo hi (some c) n).1 (sliceBounds lo hi (some c) n).2.1 (sliceBounds lo hi (some c) n).2.2
def stepG {α : Type} (l : List α) (lo hi : Option Int) (c : Int) : List α := (pickN l.length lo hi c).filterMap (l[·]?)
theorem IsL.pick {G : Gm} {as : List Addr} {H : Hp} {vs : List V} {ds : List D} (h : IsL G as H vs ds) : ∀ (ks : List Nat), IsL G as H (ks.filterMap (vs[·]?)) (ks.filterMap (ds[·]?))
  | [] => .nil
  | k :: ks => by
    have ih := IsL.pick h ks
    cases e : ds[k]? with
    | none =>
      have e' : vs[k]? = none := by
        rw [List.getElem?_eq_none_iff] at e ⊢
        rw [h.len]; exact e
      rw [List.filterMap_cons_none e, List.filterMap_cons_none e']; exact ih
    | some d =>
      obtain ⟨v, e', hv⟩ := h.get e
      rw [List.filterMap_cons_some e, List.filterMap_cons_some e']; exact .cons hv ih
theorem vals_pickX {xs : List V} {us : List Value} (r : Vals xs us) : ∀ (ks : List Nat), Vals (ks.filterMap (xs[·]?)) (ks.filterMap (us[·]?))
  | [] => .nil
  | k :: ks => by
    have ih := vals_pickX r ks
    have hl := r.length
    cases e : xs[k]? with
    | none =>
      have e' : us[k]? = none := by
        rw [List.getElem?_eq_none_iff] at e ⊢
        omega
      rw [List.filterMap_cons_none e, List.filterMap_cons_none e']; exact ih
    | some d =>
      obtain ⟨v, e', hv⟩ := r.get e
      rw [List.filterMap_cons_some e, List.filterMap_cons_some e']; exact .cons hv ih
def tStp (K : PySem.W.Frag) (c : Int) (te : TE) (tl th : TO) : TE := fun σ H Q => te σ H fun x H1 => tl σ H1 fun l H2 => th σ H2 fun u H3 => ∃ a xs, x = .ref a ∧ SqL K H3 a xs ∧ (stepG xs l u c).length ≤ xs.length ∧ ∀ p, H3 p = none → Q (.ref p) (upd H3 p (.lst (stepG xs l u c)))
section
variable {X : Cx} {e : Expr} {te : TE} {tl th : TO} {lo hi : Option Expr}
theorem pe_stepL {c : Int} {k : Nat} {p1 p3 pos : Pos} (hc : c ≠ 0) (he : PE X e te) (hl : PO X lo tl) (hu : PO X hi th) : PE X (.Subscript e (.Slice lo hi (some (.Constant (.int c) k p1)) p3) pos) (tStp X.K c te tl th) := by
  refine ⟨fun pins s σ H Q I h => ?_⟩
  refine Subscript_ (thn (he.run pins s σ H _ I h) fun v s1 ⟨x, H1, I1, r1, q1⟩ => ?_)
  have hst : PO X (some (.Constant (.int c) k p1)) (tPart (tC (.int c))) := po_some pe_int
  refine wpAny_Slice (thn (hl.run pins s1 σ H1 _ I1 q1) fun vl s2 ⟨l, H2, I2, pl, q2⟩ => ?_)
  refine thn (hu.run pins s2 σ H2 _ I2 q2) fun vu s3 ⟨u, H3, I3, pu, q3⟩ => ?_
  obtain ⟨a, xs, ex, hx, hlx, q⟩ := q3
  subst ex
  cases r1
  refine thn (hst.run pins s3 σ H3 (fun o H4 => o = some c ∧ H4 = H3) I3 ⟨c, rfl, rfl, rfl⟩) fun vs s4 ⟨o, H4, I4, ps, eo, e4⟩ => ?_
  subst eo e4
  have I5 : Inv X pins σ H4 { s4 with heap := s4.heap.push { cls := .type "slice", data := .fields #[vl, vu, vs] } } := I4.kept (t' := s4.toks) fun b ob q => Heap.get?_push_of_some _ q
  obtain ⟨its, r, ht, hz⟩ := I5.list hx
  have hlen := r.length
  show wpAny (model X.prog X.w) X.A (subscriptTail e (.Slice lo hi (some (.Constant (.int c) k p1)) p3) (.ref a) (.ref s4.heap.objs.size)) (EP X pins σ Q) X.xe { s4 with heap := s4.heap.push { cls := .type "slice", data := .fields #[vl, vu, vs] } }
  refine tail_any (ops := [.ref a, .ref s4.heap.objs.size]) ht.isList.typeIs (PySem.slot_list_getitem.lookup) ?_ (by with_unfolding_all rfl)
  refine wpAny_getItem_list_slice ht.isList (Heap.IsSliceOf.new _ vl vu vs) pl pu ps (by intro z; exact hc (Option.some.inj z)) ?_ (by rw [List.size_toArray]; omega)
  have hp : slicePick its.toArray l u (some c) = (stepG its l u c).toArray := by
    unfold slicePick stepG pickN
    simp
  rw [hp]
  have hv : Vals (stepG xs l u c) (stepG its l u c) := by
    unfold stepG
    rw [hlen]
    exact vals_pickX r _
  refine ⟨.ref _, _, I5.laid (t' := s4.toks) (o := .lst (stepG xs l u c)) (fun b ob q => Heap.get?_push_of_some _ q) (Nat.le_refl _) ?_, rfl, q _ (I5.hok.fresh (Nat.le_refl _))⟩
  exact ⟨by omega, _, 0, hv, Heap.get?_push_size _ rfl⟩
end
section
variable {G : Gm} {W : WX}
def dStp (c : Int) (f : En → ER) (lo hi : En → Option ER) : En → ER := fun E => (f E).bind fun x st => ofOpt (partI (lo ⟨E.e, st⟩) st) fun l => ofOpt (partI (hi ⟨E.e, l.2⟩) l.2) fun u => match x with
  | .lst xs => if (stepG xs l.1 u.1 c).length ≤ xs.length then .val .N (.lst (stepG xs l.1 u.1 c)) u.2 else .bad
  | _ => .bad
theorem v_stp {c : Int} {te : TE} {tl th : TO} {f : En → ER} {lo hi : En → Option ER} (he : DEv G W te f) (hl : DTo G W tl lo) (hh : DTo G W th hi) : DEv G W (tStp G.K c te tl th) (dStp c f lo hi) := by
  intro s t σ e st E k Q post
  refine he s t σ e st E k _ (RPost.bind post fun m d st1 t1 v g1 k1 o1 p1 => ?_)
  obtain ⟨l, h1, p2⟩ := RPost.opt _ _ p1
  clear p1
  obtain ⟨u, h2, p1⟩ := RPost.opt _ _ p2
  clear p2
  refine part_post hl (E.up g1) k1 h1 fun t2 g2 k2 => part_post hh ((E.up g1).up g2) k2 h2 fun t3 g3 k3 => ?_
  cases d <;> try exact p1.elim
  case lst xs =>
    obtain ⟨hc, p1⟩ := RPost.cond ((stepG xs l.1 u.1 c).length ≤ xs.length) (.val .N (.lst (stepG xs l.1 u.1 c)) u.2) p1
    obtain ⟨p, vs, rfl, hp, hv⟩ := (((o1.up g2).up g3).u).lst k3.sf
    have hq : IsL G t3.as t3.f (stepG vs l.1 u.1 c) (stepG xs l.1 u.1 c) := by
      unfold stepG
      rw [hv.len]
      exact hv.pick _
    exact ⟨p, vs, rfl, SqL.of hp, by rw [hq.len, hv.len]; exact hc, fun r hr => RPost.newL k3 (RPost.step (g2.trans g3) k3 p1) hq hr⟩
@[simp] theorem e_dStp {c : Int} {f : En → ER} {lo hi : En → Option ER} {E : En} : dStp c f lo hi E = (f E).bind fun x st => ofOpt (partI (lo ⟨E.e, st⟩) st) fun l => ofOpt (partI (hi ⟨E.e, l.2⟩) l.2) fun u => match x with
  | .lst xs => if (stepG xs l.1 u.1 c).length ≤ xs.length then .val .N (.lst (stepG xs l.1 u.1 c)) u.2 else .bad
  | _ => .bad := rfl
end
/-! ### s.index(t), t in s -/
def rIndex1 : V → List V → Hp → VK → Prop := fun x xs H Q => ∃ a b k, x = .str a ∧ xs = [.str b] ∧ Txt.index0 a b = some k ∧ Q (.int (k : Nat)) H
theorem mt_index1 {X : Cx} : MtR X "str.index" rIndex1 := by
  intro pins s σ H x xs v us Q I rx rs h
  obtain ⟨a, b, k, rfl, rfl, hk, q⟩ := h
  obtain ⟨t, rfl⟩ := rx
  cases rs with
  | cons r1 rs =>
    cases rs
    obtain ⟨u, rfl⟩ := r1
    unfold Txt.index0 at hk
    cases e : Builtin.Str.occurrences a b 0 a.length 1 with
    | nil => rw [e] at hk; cases hk
    | cons j rest =>
      rw [e] at hk
      cases hk
      exact PySem.SC.index e ⟨.int (k : Nat), H, I.tok _, ⟨_, rfl⟩, q⟩
section
variable {G : Gm} {W : WX}
def msIndex (a : Str) (ds : List D) (st : Sto) : ER := match ds with
  | [.str b] => ofOpt (Txt.index0 a b) fun k => .val .P (.int (k : Nat)) st
  | _ => .bad
theorem ms_index : DMs G rIndex1 msIndex := by
  intro W σ s st a vs ds k u Q post
  unfold msIndex at post
  split at post
  · rename_i b
    obtain ⟨v, rfl, hv⟩ := u.one
    obtain rfl := hv.str
    obtain ⟨j, h1, post⟩ := RPost.opt _ _ post
    exact ⟨a, b, j, rfl, rfl, h1, post.now k (.int _)⟩
  · exact post.elim
@[simp] theorem e_msIndex {a b : Str} {st : Sto} : msIndex a [.str b] st = ofOpt (Txt.index0 a b) fun k => .val .P (.int (k : Nat)) st := rfl
end
/-! ### x[i] += e: x an own list -/
def rGetL : V → V → Hp → VK → Prop := fun x y H Q => ∃ p xs i v, x = .ref p ∧ y = .int i ∧ 0 ≤ i ∧ H p = some (.lst xs) ∧ atI xs i = some v ∧ Q v H
theorem get_list {X : Cx} : PGet X rGetL := by
  intro pins s σ H x y v u Q I rx ry h
  obtain ⟨p, xs, i, z, rfl, rfl, h0, hq, he, q⟩ := h
  cases rx
  obtain ⟨t, rfl⟩ := ry
  obtain ⟨its, r, pl, hz⟩ := I.list (SqL.of hq)
  obtain ⟨j, h1, h2, h3, h4, h5⟩ := atI_get he
  obtain ⟨w, ew, rw'⟩ := r.get h2
  have hl := r.length
  have hn := line63
  have fin : EP X pins σ Q w s := ⟨z, H, I, rw', q⟩
  have hj : i.toNat = j := by
    rw [seqIndex_of h0 h5] at h1
    exact Option.some.inj h1
  exact wpAny_getItem_list pl.isList h0 (by omega) (by rw [hj]; simpa using ew) fin
section
variable {G : Gm} {W : WX}
def sAugO (x : Nat) (o : Int → Int → Int) (fi fe : En → ER) : En → SR := fun E => match E.e[x]? with
  | some (.own l) => (match fi E with
    | .val _ (.int i) st1 => if 0 ≤ i then (match ixN l.length i with
      | some j => (match l[j]? with
        | some (.int a) => (match fe ⟨E.e, st1⟩ with
          | .val _ (.int b) st2 => .nx ⟨E.e.set x (.own (l.set j (.int (o a b)))), st2⟩
          | _ => .bad)
        | _ => .bad)
      | none => .bad) else .bad
    | _ => .bad)
  | _ => .bad
theorem ixN_at {α : Type} {l : List α} {i : Int} {j : Nat} {a : α} (h : ixN l.length i = some j) (ha : l[j]? = some a) : atI l i = some a := by
  unfold atI; rw [h]; exact ha
theorem s_augO {x : Nat} {o : Int → Int → Int} {ti te : TE} {fi fe : En → ER} (hi : DEv G W ti fi) (he : DEv G W te fe) : DSt G W (tAugS (tVar x) ti te rGetL (ipI o) rSetL) (sAugO x o fi fe) := by
  intro s t σ e st E k N post
  unfold sAugO at post
  split at post
  · rename_i l hx
    split at post
    · rename_i m i st1 hfi
      split at post
      · rename_i h0
        split at post
        · rename_i j hj
          split at post
          · rename_i a ha
            split at post
            · rename_i m2 b st2 hfe
              obtain ⟨o', hσ, p, vs, rfl, p0, pf, ph, pl, pa⟩ := E.slot hx
              refine ⟨_, hσ, ?_⟩
              refine hi s t σ e st E k _ ?_
              have hfi' : fi ⟨e, st⟩ = .val m (.int i) st1 := hfi
              rw [hfi']
              intro t3 w g3 k3 o3
              obtain rfl := o3.u.int
              have hp' : t3.h p = some (.lst vs) := g3.h _ _ ph pa
              have hf' : t3.f p = none := g3.n _ _ ph pf
              have ha' : p ∉ t3.as := fun m => (g3.w p m).elim pa fun z => by rw [ph] at z; cases z
              have pl' := pl.up g3.a g3.f
              obtain ⟨va, ea, iva⟩ := pl'.get ha
              obtain rfl : va = .int a := by cases iva; rfl
              refine ⟨p, vs, i, .int a, rfl, rfl, h0, hp', ixN_at (by rw [pl.len]; exact hj) ea, ?_⟩
              refine he s t3 σ e st1 (E.up g3) k3 _ ?_
              have hfe' : fe ⟨e, st1⟩ = .val m2 (.int b) st2 := hfe
              rw [hfe']
              intro t4 w4 g4 k4 o4
              obtain rfl := o4.u.int
              have hp4 : t4.h p = some (.lst vs) := g4.h _ _ hp' ha'
              have hf4 : t4.f p = none := g4.n _ _ hp' hf'
              have ha4 : p ∉ t4.as := fun m => (g4.w p m).elim ha' fun z => by rw [hp'] at z; cases z
              refine ⟨a, b, rfl, rfl, p, vs, i, j, rfl, rfl, hp4, by rw [pl.len]; exact hj, ?_⟩
              have pl4 := (pl'.up g4.a g4.f).set (.int (o a b)) j
              exact post ⟨t4.as, t4.f, upd t4.h p (.lst (vs.set j (.int (o a b))))⟩ σ ((g3.up.trans g4.up).trans ⟨Ext.refl _, Same.refl _⟩) (((E.up g3).up g4).chg hσ hx p0 hf4 pl4 ha4) (k4.chg hf4 ha4)
            · exact post.elim
          · exact post.elim
        · exact post.elim
      · exact post.elim
    · exact post.elim
  · exact post.elim
@[simp] theorem e_sAugO {x : Nat} {o : Int → Int → Int} {fi fe : En → ER} {E : En} : sAugO x o fi fe E = match E.e[x]? with
  | some (.own l) => (match fi E with
    | .val _ (.int i) st1 => if 0 ≤ i then (match ixN l.length i with
      | some j => (match l[j]? with
        | some (.int a) => (match fe ⟨E.e, st1⟩ with
          | .val _ (.int b) st2 => .nx ⟨E.e.set x (.own (l.set j (.int (o a b)))), st2⟩
          | _ => .bad)
        | _ => .bad)
      | none => .bad) else .bad
    | _ => .bad)
  | _ => .bad := rfl
end
/-! ### enumerate(text) -/
def IteS (x : Str) : It :=
  ⟨fun i _ => i < x.cps.size, fun i H v H' => ∃ T c, v = .ref T ∧ H T = none ∧ H' = upd H T (.tup [.int (i : Nat), .str ⟨#[c]⟩]) ∧ x.cps[i]? = some c, fun i _ => x.cps.size ≤ i⟩
theorem draws_str {P : Program} {w : World} {A : Around} (hh : A.handled = none) (it : Addr) (x : Str) (t : Tok) :
    Draws P w A it [it] x.cps.size (fun i v => ∃ c u, x.cps[i]? = some c ∧ v = .str ⟨#[c]⟩ u) (fun i h => h.IsStrIter it (strIterType x) x t i) := by
  unfold strIterType
  split
  · exact Draws.strAscii hh it x t
  · exact Draws.strWide hh it x t
theorem turn_enumS {P : Program} {w : World} {K : PySem.W.Frag} {elts : List Expr} {kk : Nat} {tpos : Pos} (e it : Addr) (x : Str) (t : Tok) :
    Turn P w K (.Tuple elts kk tpos) (IteS x) [e, it] e (fun i h => (∃ old, IsEnum h e it ((i : Nat) : Int) old) ∧ h.IsStrIter it (strIterType x) x t i ∧ e ≠ it ∧ i ≤ x.cps.size) where
  mem := by simp
  obj := fun i h st b hb => by
    obtain ⟨⟨old, he⟩, ⟨o, ho, hc, hd⟩, _⟩ := st
    have e' : b = e ∨ b = it := by simpa using hb
    rcases e' with z | z
    · rw [z]; exact ⟨_, he, fun v q => nomatch q⟩
    · rw [z]; exact ⟨o, ho, fun v q => by rw [hd] at q; cases q⟩
  keep := fun i h h' st k => let ⟨⟨old, he⟩, ⟨o, ho, r⟩, hne⟩ := st; ⟨⟨old, k e (by simp) _ he⟩, ⟨o, k it (by simp) o ho, r⟩, hne⟩
  item := by
    intro X hP hw hK hc i pins s σ H E I hf st hg
    subst hP hw hK
    obtain ⟨⟨old, he⟩, hit, hne, hile⟩ := st
    have hel : e < s.heap.objs.size := Heap.lt_size he
    have hil : it < s.heap.objs.size := by obtain ⟨_, q, _⟩ := hit; exact Heap.lt_size q
    have D := draws_str (P := X.prog) (w := X.w) (A := X.A.in1) (I.ok.hd hc) it x t
    refine wpAny_pyNext_enum_itemD D he hit hg hne (by simp [hne]) fun v h' tk hv ho hit' hT hsz hk => ?_
    obtain ⟨c, u, hcx, rfl⟩ := hv
    refine ⟨_, rfl, wpAny_letOwnedTupleGo_enum (s := { s with heap := h', toks := tk + 1 }) ho fun h'' he' sb => ?_⟩
    have hT2 : h''.get? s.heap.objs.size = some { cls := .type "tuple", data := .seq #[.int i tk, .str ⟨#[c]⟩ u] } := (sb.2 _ (Nat.ne_of_gt hel)).trans hT
    have new : ObjOk X.prog X.w (upd H s.heap.objs.size (.tup [.int (i : Nat), .str ⟨#[c]⟩])) h'' s.heap.objs.size (.tup [.int (i : Nat), .str ⟨#[c]⟩]) :=
      ⟨by show 2 ≤ sizeLine; decide, [.int i tk, .str ⟨#[c]⟩ u], .cons ⟨_, rfl⟩ (.cons ⟨_, rfl⟩ .nil), ⟨_, hT2, rfl, _, rfl⟩⟩
    have I1 : Inv X pins σ (upd H s.heap.objs.size (.tup [.int (i : Nat), .str ⟨#[c]⟩])) { s with heap := h'', toks := tk + 1 } :=
      I.turnedNew (ch := [e, it]) (fun b ob hb q => (sb.2 b (fun z => hb (by simp [z]))).trans (hk b ob (fun z => hb (by simp [z])) (fun z => hb (by simp [z])) q)) hf (Nat.le_refl _) new
    refine ⟨.ref s.heap.objs.size, _, I1, rfl, ⟨_, c, rfl, I.hok.fresh (Nat.le_refl _), rfl, hcx⟩, ⟨⟨.str ⟨#[c]⟩ u, ?_⟩, ?_, hne, hg⟩, fun b hb => ?_⟩
    · have e1 : ((i + 1 : Nat) : Int) = (i : Int) + 1 := by omega
      rw [e1]; exact he'
    · obtain ⟨o, ho, r⟩ := hit'
      exact ⟨o, (sb.2 it (Ne.symm hne)).trans ho, r⟩
    · have hb' : b < s.heap.objs.size := by
        have e' : b = e ∨ b = it := by simpa using hb
        rcases e' with z | z
        · rw [z]; exact hel
        · rw [z]; exact hil
      rw [upd_ne (Nat.ne_of_lt hb')]
      exact (hf b hb).1
  done := by
    intro X hP hw hK hc i pins s σ H E I hf st hg
    subst hP hw hK
    obtain ⟨⟨old, he⟩, hit, hne, hile⟩ := st
    obtain ⟨f0, f1, f2, f3, f4, f5⟩ := hf it (by simp)
    have D := draws_str (P := X.prog) (w := X.w) (A := X.A.in1) (I.ok.hd hc) it x t
    have hit' : s.heap.IsStrIter it (strIterType x) x t x.cps.size := by
      have : i = x.cps.size := Nat.le_antisymm hile hg
      rw [← this]; exact hit
    exact wpAny_pyNext_enum_endD D he hit' fun h' eb => ⟨rfl, I.turned (t' := s.toks) (fun b o hb q => eb b o hb q) f0 f1 f3 f4 f5⟩
  self := fun A i s Q E st h => let ⟨⟨_, he⟩, _⟩ := st; wpAny_pyIter_enum he h
def iEnumS (ta : TA) : TI := fun σ H R => ta σ H fun vs H1 => ∃ x, vs = [.str x] ∧ R (IteS x) H1
theorem pi_enumS {X : Cx} {e : Expr} {ta : TA} {p pos tpos : Pos} {elts : List Expr} {kk : Nat} (hg : Gl X "enumerate") (hm : X.mg "enumerate" = none) (ha : PA X [e] ta) (hs : starEach [e] X.env = [(false, eval e X.env)] := by rfl) :
    PI X (.Tuple elts kk tpos) (.Call (.Name "enumerate" p) [e] [] pos) (iEnumS ta) := by
  refine ⟨fun pins s σ H R I h => ?_⟩
  refine Call_ (ld_blt I hg hm boot_enumerate (PyProof.Rows.callWith_type1 (thn (ha.run pos pins s σ H _ I h) fun us s1 ⟨vs, H1, I1, r1, q1⟩ => ?_) hs rfl))
  obtain ⟨x, ex, q⟩ := q1
  subst ex
  cases r1 with
  | cons r rr =>
    cases rr
    obtain ⟨t, rfl⟩ := r
    refine call_enumerate_str fun h' he hit hsz hk => wpAny_pyIter_enum he ?_
    have I2 : Inv X pins σ H1 { s1 with heap := h' } := I1.kept (t' := s1.toks) hk
    refine ⟨s1.heap.objs.size + 1, [s1.heap.objs.size + 1, s1.heap.objs.size], _, _, H1, rfl, I2, turn_enumS (s1.heap.objs.size + 1) s1.heap.objs.size x t, ⟨⟨.none, he⟩, hit, Nat.succ_ne_self _, Nat.zero_le _⟩, fun b hb => ?_, q⟩
    have e' : b = s1.heap.objs.size + 1 ∨ b = s1.heap.objs.size := by simpa using hb
    have hle : s1.heap.objs.size ≤ b := by
      rcases e' with z | z
      · rw [z]; exact Nat.le_add_right _ _
      · rw [z]; exact Nat.le_refl _
    exact I1.fpOk hle (I1.hok.fresh hle)
section
variable {G : Gm} {W : WX}
theorem it_enumS {t1 : Hs} (z : Str) : ItOk G t1 (IteS z) (enumD 0 (z.cps.toList.map fun c => .str ⟨#[c]⟩)) := by
  intro i t st u k
  refine ⟨fun hi => by (show z.cps.size ≤ i); rw [enumD_len] at hi; simpa using hi, fun d hd => ?_⟩
  obtain ⟨x, h1, rfl⟩ := enumD_get hd
  rw [List.getElem?_map] at h1
  cases q : z.cps.toList[i]? with
  | none => rw [q] at h1; cases h1
  | some c =>
    rw [q] at h1
    cases h1
    have hi : i < z.cps.size := by
      have := (List.getElem?_eq_some_iff.mp q).1
      simpa using this
    refine ⟨hi, fun y H' w => ?_⟩
    obtain ⟨T, c', rfl, hT, rfl, hc⟩ := w
    have : z.cps[i]? = some c := by rw [← Array.getElem?_toList]; exact q
    rw [this] at hc; cases hc
    refine ⟨⟨t.as, upd t.f T _, upd t.h T _⟩, rfl, Gro.new k hT, k.grow hT, .tup (SqT.of upd_same) (.cons ?_ (.cons (.str _) .nil))⟩
    rw [Nat.zero_add]
    exact .int _
def dEnumS (f : En → AR) : En → AR := fun E => match f E with
  | .ok _ [.str z] st => .ok true (enumD 0 (z.cps.toList.map fun c => .str ⟨#[c]⟩)) st
  | .exc c l st => .exc c l st
  | _ => .bad
theorem i_enumS {ta : TA} {f : En → AR} (h : DAr G W ta f) : DIt G W (iEnumS ta) (dEnumS f) := by
  intro s t σ e st E k R post
  refine h s t σ e st E k _ ?_
  unfold dEnumS at post
  cases q : f ⟨e, st⟩ with
  | ok p l st1 =>
    rw [q] at post
    match l, post with
    | [], post => exact post.elim
    | [d], post =>
      cases d <;> first | exact post.elim | skip
      intro t' vs g k' i0 u0
      obtain ⟨v, rfl, hv⟩ := u0.one
      obtain rfl := hv.str
      exact ⟨_, rfl, post t' _ g k' (it_enumS _)⟩
    | a :: b :: l, post => cases a <;> exact post.elim
  | exc c l st1 => rw [q] at post; exact post
  | bad => rw [q] at post; exact post
@[simp] theorem e_dEnumS {f : En → AR} {E : En} : dEnumS f E = match f E with
  | .ok _ [.str z] st => .ok true (enumD 0 (z.cps.toList.map fun c => .str ⟨#[c]⟩)) st
  | .exc c l st => .exc c l st
  | _ => .bad := rfl
end
/-! ### list(text) -/
def signsV (x : Str) : List V := x.cps.toList.map fun c => .str ⟨#[c]⟩
theorem vals_at : ∀ (xs : List V) (us : List Value), us.length = xs.length → (∀ (j : Nat) (u : Value), us[j]? = some u → ∃ x, xs[j]? = some x ∧ RelV x u) → Vals xs us := L2.vals_of_idx
abbrev rListS : List V → Hp → VK → Prop := fun xs H Q => ∃ x : Str, xs = [.str x] ∧ x.cps.size ≤ sizeLine ∧ ∀ p, H p = none → Q (.ref p) (upd H p (.lst (signsV x)))
theorem call_listS {X : Cx} (hc : X.calm = true) : CallR X (.type "list") rListS := by
  intro pins s σ H xs us Q I r h
  obtain ⟨x, rfl, hx, q⟩ := h
  obtain ⟨u, rfl, t, rfl⟩ := vals1 r
  refine PySem.call_list_str (I.ok.hd hc) x t (fun h' tk acc' c' hk hS hacc => ?_) hx
  refine ⟨.ref s.heap.objs.size, upd H s.heap.objs.size (.lst (signsV x)), I.laid hk (Nat.le_refl _) (show ObjOk X.prog X.w _ _ _ (.lst (signsV x)) from ⟨?_, acc'.toList, c', ?_, ?_⟩), rfl, q _ (I.hok.fresh (Nat.le_refl _))⟩
  · unfold signsV; simpa using hx
  · refine vals_at _ _ (by unfold signsV; simp [hacc.1]) fun j v hj => ?_
    obtain ⟨c, u, hcx, rfl⟩ := hacc.2 j v (by rw [← Array.getElem?_toList]; exact hj)
    refine ⟨.str ⟨#[c]⟩, ?_, ⟨_, rfl⟩⟩
    unfold signsV
    rw [List.getElem?_map, Array.getElem?_toList, hcx]; rfl
  · simpa using hS
section
variable {G : Gm} {W : WX}
theorem IsL.signs {as : List Addr} {H : Hp} : ∀ l : List Nat, IsL G as H (l.map fun c => V.str ⟨#[c]⟩) (l.map fun c => D.str ⟨#[c]⟩)
  | [] => .nil
  | c :: l => .cons (.str _) (IsL.signs l)
def oListS : List D → Sto → ER
  | [.str x], st => if x.length ≤ 1000000 then .val .N (.lst (x.cps.toList.map fun c => .str ⟨#[c]⟩)) st else .bad
  | _, _ => .bad
theorem c_listS : DCal G rListS oListS := by
  refine DCal.one1 (fun _ => rfl) (fun a b l _ => by cases a <;> rfl) fun W σ s st v d k hv Q post => ?_
  cases d <;> try exact post.elim
  case str x =>
    obtain rfl := hv.str
    obtain ⟨h, post⟩ := RPost.cond (x.length ≤ 1000000) (.val .N (.lst (x.cps.toList.map fun c => .str ⟨#[c]⟩)) st) post
    exact ⟨x, rfl, sz (by simpa [Str.length] using h), fun r hr => RPost.newL k post (IsL.signs _) hr⟩
@[simp] theorem e_oListS {x : Str} {st : Sto} : oListS [.str x] st = if x.length ≤ 1000000 then .val .N (.lst (x.cps.toList.map fun c => .str ⟨#[c]⟩)) st else .bad := rfl
end
/-! ### text * n -/
abbrev rMulS : R2 := fun x y H Q => ∃ (a : Str) (n : Int), x = .str a ∧ y = .int n ∧ 0 ≤ n ∧ n ≤ 1000 ∧ a.length ≤ 1000 ∧ Q (.str (Txt.mul a n)) H
theorem op_mulS {X : Cx} : OpR X (binaryOp .Mult) rMulS := by
  intro pins s σ H x y v u Q I rx ry h
  obtain ⟨a, n, rfl, rfl, h0, h1, ha, q⟩ := h
  obtain ⟨t, rfl⟩ := rx
  obtain ⟨t', rfl⟩ := ry
  refine PySem.SB.mul ⟨?_, fun h2 _ => ?_, fun h2 _ => ?_⟩ fun t2 k => ⟨.str (Txt.mul a n), H, I.tok _, ⟨_, rfl⟩, q⟩
  · have e1 : decide (n < -(2 ^ 63 : Int)) = false := decide_eq_false (by omega)
    have e2 : decide (n ≥ 2 ^ 63) = false := decide_eq_false (by omega)
    rw [e1, e2]; rfl
  · have : (1000 : Int) ≤ (2 ^ 63 - 1) / n := by
      refine (Int.le_ediv_iff_mul_le (by omega)).mpr ?_
      have : (1000 : Int) * n ≤ 1000 * 1000 := Int.mul_le_mul_of_nonneg_left h1 (by decide)
      omega
    omega
  · have h3 : a.length * n.toNat ≤ 1000 * 1000 := Nat.mul_le_mul ha (by omega)
    have h4 : a.length * n.toNat ≤ sizeLine := sz (Nat.le_trans h3 (by decide))
    exact decide_eq_false (Nat.not_lt.mpr h4)
section
variable {G : Gm} {W : WX}
def oMulS : D → D → Sto → ER
  | .str a, .int n, st => if 0 ≤ n ∧ n ≤ 1000 ∧ a.length ≤ 1000 then .val .P (.str (Txt.mul a n)) st else .bad
  | _, _, _ => .bad
theorem d_mulS : DOp G rMulS oMulS := by
  intro W σ s st v w d d' k hv hw Q post
  cases d <;> cases d' <;> try exact post.elim
  case str.int a n =>
    obtain rfl := hv.str; obtain rfl := hw.int
    obtain ⟨h, post⟩ := RPost.cond (0 ≤ n ∧ n ≤ 1000 ∧ a.length ≤ 1000) (.val .P (.str (Txt.mul a n)) st) post
    exact ⟨a, n, rfl, rfl, h.1, h.2.1, h.2.2, post.now k (.str _)⟩
@[simp] theorem e_oMulS {a : Str} {n : Int} {st : Sto} : oMulS (.str a) (.int n) st = if 0 ≤ n ∧ n ≤ 1000 ∧ a.length ≤ 1000 then .val .P (.str (Txt.mul a n)) st else .bad := rfl
end
end Dn
namespace Dn
open PySem PySem.Spec PyProof.Rows L2
/-! ### raise X(), X of an own class without an __init__ of its own -/
theorem pmk_own0 {X : Cx} {C : Addr} {bmB : List Value} {B newId initId : String} {x : Str} {p pos : Pos} (F : ExcBaseFacts B newId initId bmB) (q : PySem.W.excIn X.K C bmB newId = true) (gC : X.mg x = some (.ref C)) (kC : PySem.W.keepIn X.K (.ref C) = true) (r : Raises X (.ref C)) (hg : Gl X x)
    (hdb : (x == ("__debug__" : Str)) = false := by decide) : PMk X (.Call (.Name x p) [] [] pos) (fun _ H Q => Q (.ref C) none H) := by
  intro pins s σ H Q I h
  refine wpAny_Call_Name_kw (ld_glob I hg gC ?_ hdb)
  refine PySem.W.callWith_K0 I.kIn kC ?_
  show wpAny _ _ (call (.ref C) []) _ _ _
  obtain ⟨bm, N, nm, qn, bs, hdct, sn, sub, ab, col, dd, k0, k1, k2, k3, k5, mN, hC, hN, hni, T⟩ := exc_obj I.kIn q
  refine wpAny_call_exc_subT F T hC hN hni (fun h' e hm => ?_) (Nat.zero_le _)
  exact mk_of I hm r h (I.hok.gone hm.new)
section
variable {G : Gm} {W : WX}
/-! ### try .. except X: .., without a name -/
def sTryO (catch? : Nat → Option Bool) (g : En → SR) (h : En → SR) : En → SR := fun E => match g E with
  | .exc c l E1 => (match catch? c with
    | some true => (match h ⟨clr E1.e, E1.st⟩ with
      | .nx E2 => .nx ⟨clr E2.e, E2.st⟩
      | .bk E2 => .bk ⟨clr E2.e, E2.st⟩
      | .ct E2 => .ct ⟨clr E2.e, E2.st⟩
      | .rt m d st => .rt m d st
      | _ => .bad)
    | some false => .exc c l E1
    | none => .bad)
  | r => r
theorem s_tryO {C : Value} {tb : WX → TS} {ts : Addr → Value → Option Addr → TS} {catch? : Nat → Option Bool} {g h : En → SR} (hb : ∀ W, DSt G W (tb W) g)
    (hc : ∀ c b, catch? c = some b → PySem.W.exmOne G.K (.ref (G.ca c)) C = some b)
    (hs : ∀ a cls d, DSt (G.at_ a) W0 (ts a cls d) h) :
    DSt G W (fun N σ H => tb (wOnly G.K C ts W N) N σ H) (sTryO catch? g h) := by
  intro s t σ e st E k N post
  refine hb _ s t σ e st E k N ?_
  unfold sTryO at post
  cases q : g ⟨e, st⟩ with
  | nx e1 => rw [q] at post; exact post
  | rt m d st => rw [q] at post; exact post
  | bk e1 => rw [q] at post; exact post
  | ct e1 => rw [q] at post; exact post
  | bad => rw [q] at post; exact post
  | exc c l F1 =>
    simp only [q] at post
    intro t1 σ1 x s1 E1 k1 ox
    cases q2 : catch? c with
    | none => simp only [q2] at post; exact post.elim
    | some b =>
      refine ⟨b, hc c b q2, fun hbt a ha => ?_, fun hbf => ?_⟩
      · subst hbt
        simp only [q2] at post
        refine hs a _ x s t1 σ1 _ F1.st (E1.ea a) (k1.ea a) _ ?_
        have back : ∀ {t' : Hs} {σ' : L2.St} {e2 : DE}, EnvOk (G.at_ a) s t' σ' e2 → EnvOk G s t' σ' (clr e2) := fun E' => E'.ea G.ea
        cases q3 : h ⟨clr F1.e, F1.st⟩ with
        | nx e2 => rw [q3] at post; exact fun t' σ' s' E' k' => post t' _ (s1.trans s') (back E') (k'.ea G.ea)
        | bk e2 => rw [q3] at post; exact fun t' σ' s' E' k' => post t' _ (s1.trans s') (back E') (k'.ea G.ea)
        | ct e2 => rw [q3] at post; exact fun t' σ' s' E' k' => post t' _ (s1.trans s') (back E') (k'.ea G.ea)
        | rt m d st => rw [q3] at post; exact fun t' v s' g' k' o => post t' v (s1.trans s') g' (k'.ea G.ea) (o.ea G.ea)
        | exc c2 l2 e2 => rw [q3] at post; exact post.elim
        | bad => rw [q3] at post; exact post.elim
      · subst hbf
        simp only [q2] at post
        exact post t1 σ1 x s1 E1 k1 ox
@[simp] theorem e_sTryO {catch? : Nat → Option Bool} {g h : En → SR} {E : En} : sTryO catch? g h E = match g E with
  | .exc c l E1 => (match catch? c with
    | some true => (match h ⟨clr E1.e, E1.st⟩ with
      | .nx E2 => .nx ⟨clr E2.e, E2.st⟩
      | .bk E2 => .bk ⟨clr E2.e, E2.st⟩
      | .ct E2 => .ct ⟨clr E2.e, E2.st⟩
      | .rt m d st => .rt m d st
      | _ => .bad)
    | some false => .exc c l E1
    | none => .bad)
  | r => r := rfl
end
/-! ### an own exception class with one field -/
def spEx (K : PySem.W.Frag) (fld : Str) : Sp := fun vs H Q _ => ∃ (a : Addr) (y : V) (C : Addr), vs = [.ref a, y] ∧ OexC K C ∧ PySem.W.findIn K (.ref C) fld = some none ∧ H a = some (exo a C none) ∧ ∀ dx, H dx = none → dx ≠ a → Q .non (upd (upd H dx (exd dx [(fld, y)])) a (exo a C (some dx)))
theorem fn_exI {P : Program} {w : World} {K : PySem.W.Frag} {mg : Str → Option Value} {base : Heap} {x qual : Str} {st : Stmt} {f : Addr} {fd : FuncData} {n0 n1 : Str} {ps : List Str} {fld : Str} (hp : ps.length = 2) (F : Fun K x qual st f fd) (S : FnScope [n0, n1] ps (defScope st))
    (hbody : ∀ (cdv : Value) (A : Around) (outer : List Env) (s : Shared) (H : Hp) (E : XK), PSs (cxOf CX0 P w K mg base [n0, n1] qual (defScope st) f cdv A outer s H E).nox (defBody st) (tOst K fld (tVar 0) (tVar 1))) : FnOk P w K mg base CX0 1 f fd ps (spEx K fld) := by
  refine F.ok S (fun vs H Q E h => ?_) fun cdv A outer s H vs Q E hr h => ?_
  · obtain ⟨a, y, C, rfl, _⟩ := h
    rw [hp]; rfl
  · obtain ⟨a, y, C, rfl, hC, hn, ha, q⟩ := h
    refine ⟨_, hbody cdv A outer s H E, ?_⟩
    refine ⟨y, rfl, .ref a, rfl, a, C, rfl, hC, hn, .inl ⟨ha, fun dx h1 h2 => q dx h1 h2⟩⟩
section
variable {G : Gm} {W : WX}
def sRaiseF (c : Nat) (fa : En → AR) : En → SR := fun E => match fa E with
  | .ok true [d] st => .exc c [d] ⟨E.e, st⟩
  | .exc c' l st => .exc c' l ⟨E.e, st⟩
  | _ => .bad
theorem heap_made {H : Hp} {a dx : Addr} {o1 o2 o3 : HO} {o4 : HO} (ha : H a = none) (hne : dx ≠ a) : upd (del (upd (upd (upd H a o1) dx o2) a o3) a) dx o4 = upd H dx o4 := by
  funext b
  by_cases h1 : b = dx
  · rw [h1, upd_same, upd_same]
  · rw [upd_ne h1, upd_ne h1]
    by_cases h2 : b = a
    · rw [h2, del_same, ha]
    · rw [del_ne h2, upd_ne h2, upd_ne h1, upd_ne h2]
theorem s_raiseF {c : Nat} {C : Addr} {fld : Str} {ta : TA} {fa : En → AR} (hc : G.ca c = C) (hn : G.fn c = [fld]) (T : OexC G.K C) (hno : PySem.W.findIn G.K (.ref C) fld = some none) (h : DAr G W ta fa) :
    DSt G W (fun _ σ H => tMkO C (spEx G.K fld) [] ta σ H fun cls d H' => W cls d σ H') (sRaiseF c fa) := by
  subst hc
  intro s t σ e st E k N post
  refine h s t σ e st E k _ ?_
  unfold sRaiseF at post
  cases q : fa ⟨e, st⟩ with
  | bad => rw [q] at post; exact post
  | exc c' l st1 => rw [q] at post; exact fun t' x g k' o => post t' σ x g.up (E.up g) k' o
  | ok p l st1 =>
    rw [q] at post
    cases p with
    | false => exact post.elim
    | true =>
      match l, post with
      | [], post => exact post.elim
      | _ :: _ :: _, post => exact post.elim
      | [d], post =>
        intro t' vs g k' i0 _
        have i := i0 rfl
        clear i0
        cases i with
        | @cons v _ _ _ iv il =>
          cases il
          refine ⟨by simp, fun a ha => ⟨a, v, G.ca c, rfl, T, hno, upd_same, fun dx hdx hne => ⟨rfl, dx, [(fld, v)], upd_same, ?_, ?_, ?_⟩⟩⟩
          · rw [upd_ne hne, upd_same]
          · rw [upd_ne hne] at hdx; exact hdx
          · rw [upd_ne hne] at hdx
            rw [heap_made ha hne]
            have gg := Gro.new (o := .xd [(fld, v)]) k' hdx
            have kk := k'.grow (o := .xd [(fld, v)]) hdx
            refine post ⟨t'.as, upd t'.f dx (.xd [(fld, v)]), upd t'.h dx (.xd [(fld, v)])⟩ σ (some dx) (g.up.trans gg.up) ((E.up g).up gg) kk (.inr ⟨dx, [v], rfl, by simp, ?_, by rw [hn]; rfl, .cons (iv.up gg.a gg.f) .nil⟩)
            rw [hn]
            exact upd_same
@[simp] theorem e_sRaiseF {c : Nat} {fa : En → AR} {E : En} : sRaiseF c fa E = match fa E with
  | .ok true [d] st => .exc c [d] ⟨E.e, st⟩
  | .exc c' l st => .exc c' l ⟨E.e, st⟩
  | _ => .bad := rfl
end
/-! ### try .. except X as n, with the error's fields -/
def Gm.exn (G : Gm) (a : Addr) (x : Option Addr) (c : Nat) (l : List D) : Gm := { G with ea := a, ed := x, en := G.fn c, el := l }
mutual
theorem Is.swI {G G' : Gm} (eK : G'.K = G.K) (ec : G'.ca = G.ca) (ef : G'.fn = G.fn) {as : List Addr} {H : Hp} : ∀ (d : D) {v : V}, Is G as H v d → Is G' as H v d
  | .non, _, h => by cases h; exact .non
  | .bl _, _, h => by cases h; exact .bl _
  | .int _, _, h => by cases h; exact .int _
  | .str _, _, h => by cases h; exact .str _
  | .tup ds, _, h => by cases h with | tup p b => exact .tup (by rw [eK]; exact p) (IsL.swI eK ec ef ds b)
  | .lst ds, _, h => by cases h with | lst p b => exact .lst p (IsL.swI eK ec ef ds b)
  | .scr l, _, h => by cases h with | scr p => exact .scr (by rw [eK]; exact p)
  | .ptr n, _, h => by cases h with | ptr p => exact .ptr p
  | .obj c ds, _, h => by cases h with | obj p l b => exact .obj (by rw [ec, ef]; exact p) (by rw [ef]; exact l) (IsL.swI eK ec ef ds b)
theorem IsL.swI {G G' : Gm} (eK : G'.K = G.K) (ec : G'.ca = G.ca) (ef : G'.fn = G.fn) {as : List Addr} {H : Hp} : ∀ (ds : List D) {vs : List V}, IsL G as H vs ds → IsL G' as H vs ds
  | [], _, h => by cases h; exact .nil
  | d :: ds, _, h => by cases h with | cons p b => exact .cons (Is.swI eK ec ef d p) (IsL.swI eK ec ef ds b)
end
section
variable {G G' : Gm} (eK : G'.K = G.K) (ec : G'.ca = G.ca) (ef : G'.fn = G.fn)
include eK ec ef
theorem ObOk.swI {s : Hs} {x : Addr} {o : Ob} (h : ObOk G s x o) : ObOk G' s x o := by
  cases o with
  | lst l => obtain ⟨vs, h1, h2⟩ := h; exact ⟨vs, h1, IsL.swI eK ec ef _ h2⟩
  | ins c l => obtain ⟨dx, vs, h1, h2, h3⟩ := h; exact ⟨dx, vs, by rw [ec, ef]; exact h1, by rw [ef]; exact h2, IsL.swI eK ec ef _ h3⟩
  | tbl q => exact h
theorem StOk.swI {s : Hs} {st : Sto} (et : G'.tb = G.tb) (k : StOk G s st) (hx : ExF G' s) : StOk G' s st := ⟨k.sf, k.len, k.nd, fun n x o h1 h2 => ObOk.swI eK ec ef (k.ob n x o h1 h2), k.nf, by rw [et]; exact k.tb, hx⟩
theorem VOk.swI {s t : Hs} {m : Md} {v : V} {d : D} (h : VOk G s t m v d) : VOk G' s t m v d := by
  cases m with
  | P => exact Is.swI eK ec ef _ h
  | B => obtain ⟨p, vs, l, x, b, c, e, f⟩ := h; exact ⟨p, vs, l, x, b, c, IsL.swI eK ec ef _ e, f⟩
  | N => obtain ⟨p, vs, l, x, b, c, e, f, g⟩ := h; exact ⟨p, vs, l, x, b, c, IsL.swI eK ec ef _ e, f, g⟩
theorem SlotOk.swI {s t : Hs} {o : Option V} {sl : SL} (h : SlotOk G s t o sl) (hs : sl ≠ .exn ∧ ∀ ds, sl ≠ .clo ds) : SlotOk G' s t o sl := by
  cases sl with
  | emp => trivial
  | exn => exact absurd rfl hs.1
  | clo ds => exact absurd rfl (hs.2 ds)
  | val d => obtain ⟨v, a, b⟩ := h; exact ⟨v, a, Is.swI eK ec ef _ b⟩
  | own l => obtain ⟨p, vs, a, b, c, d, e, f⟩ := h; exact ⟨p, vs, a, b, c, d, IsL.swI eK ec ef _ e, f⟩
theorem EnvOk.swI {s t : Hs} {σ : L2.St} {e : DE} (E : EnvOk G s t σ e) : EnvOk G' s t σ (clr e) := by
  refine ⟨E.gr, by rw [E.len]; simp [clr], fun i o s a b => ?_, fun i j p l m hij a b c d => ?_⟩
  · obtain ⟨h1, h2 | h2⟩ := clr_get b
    · subst h2; trivial
    · exact (E.at_ i o s a h2).swI eK ec ef h1
  · obtain ⟨_, h2 | h2⟩ := clr_get b
    · cases h2
    · obtain ⟨_, h3 | h3⟩ := clr_get d
      · cases h3
      · exact E.dis i j p l m hij a h2 c h3
end
section
variable {G : Gm} {W : WX}
theorem exF_of {t : Hs} {c : Nat} {l : List D} {x : Option Addr} (a : Addr) (h : ExcOk G t c l x) : ExF (G.exn a x c l) t := fun da hd => by
  have hd : x = some da := hd
  rcases h with ⟨_, hx⟩ | ⟨da', xs, hx, _, h1, h2, h3⟩
  · rw [hx] at hd; cases hd
  · rw [hx] at hd
    cases hd
    subst hx
    exact ⟨xs, h1, h2, IsL.swI (G := G) (G' := G.exn a (some da) c l) rfl rfl rfl _ h3⟩
theorem s_tryX {i : Nat} {C : Value} {tb : WX → TS} {ts : Addr → Value → Option Addr → TS} {catch? : Nat → Option Bool} {g : En → SR} {h : Nat → List D → En → SR} (hb : ∀ W, DSt G W (tb W) g)
    (hc : ∀ c b, catch? c = some b → PySem.W.exmOne G.K (.ref (G.ca c)) C = some b)
    (hs : ∀ c l a x cls d, catch? c = some true → (x = none → l = []) → (l = [] → x = none) → cls = .ref (G.ca c) → d = x → DSt (G.exn a x c l) W0 (ts a cls d) (h c l)) :
    DSt G W (fun N σ H => tb (wAs G.K C i ts W N) N σ H) (sTryAs i catch? g h) := by
  intro s t σ e st E k N post
  refine hb _ s t σ e st E k N ?_
  unfold sTryAs at post
  cases q : g ⟨e, st⟩ with
  | nx e1 => rw [q] at post; exact post
  | rt m d st => rw [q] at post; exact post
  | bk e1 => rw [q] at post; exact post
  | ct e1 => rw [q] at post; exact post
  | bad => rw [q] at post; exact post
  | exc c l F1 =>
    simp only [q] at post
    intro t1 σ1 x s1 E1 k1 ox
    cases q2 : catch? c with
    | none => simp only [q2] at post; exact post.elim
    | some b =>
      refine ⟨b, hc c b q2, fun hbt a ha => ?_, fun hbf => ?_⟩
      · subst hbt
        simp only [q2] at post
        have E2 := (EnvOk.swI (G := G) (G' := G.exn a x c l) rfl rfl rfl E1).set (i := i) (o := some (.ref a)) (x := .exn) rfl (fun l z => nomatch z)
        have hxl : (x = none → l = []) ∧ (l = [] → x = none) := by
          rcases ox with ⟨h1, h2⟩ | ⟨da, xs, h1, h2, _⟩
          · exact ⟨fun _ => h1, fun _ => h2⟩
          · exact ⟨fun z => (by rw [h1] at z; exact absurd z (by simp)), fun z => absurd z h2⟩
        refine hs c l a x _ _ q2 hxl.1 hxl.2 rfl rfl s t1 _ _ F1.st E2 (StOk.swI (G := G) (G' := G.exn a x c l) rfl rfl rfl rfl k1 (exF_of a ox)) _ ?_
        have back : ∀ {t' : Hs} {σ' : L2.St} {e2 : DE}, EnvOk (G.exn a x c l) s t' σ' e2 → EnvOk G s t' (σ'.set i none) ((clr e2).set i .emp) := fun E' =>
          EnvOk.set (G := G) (x := .emp) (EnvOk.swI (G := G.exn a x c l) (G' := G) rfl rfl rfl E') trivial (fun l z => nomatch z)
        have kb : ∀ {t' : Hs} {st' : Sto}, Up t1 t' → StOk (G.exn a x c l) t' st' → StOk G t' st' := fun u k' => StOk.swI (G := G.exn a x c l) (G' := G) rfl rfl rfl rfl k' (k1.ex.up u.a u.f)
        cases q3 : h c l ⟨(clr F1.e).set i .exn, F1.st⟩ with
        | nx e2 => rw [q3] at post; exact fun t' σ' s' E' k' => post t' _ (s1.trans s') (back E') (kb s' k')
        | bk e2 => rw [q3] at post; exact fun t' σ' s' E' k' => post t' _ (s1.trans s') (back E') (kb s' k')
        | ct e2 => rw [q3] at post; exact fun t' σ' s' E' k' => post t' _ (s1.trans s') (back E') (kb s' k')
        | rt m d st => rw [q3] at post; exact fun t' v s' g' k' o => post t' v (s1.trans s') g' (kb s' k') (VOk.swI (G := G.exn a x c l) (G' := G) rfl rfl rfl o)
        | exc c2 l2 e2 => rw [q3] at post; exact post.elim
        | bad => rw [q3] at post; exact post.elim
      · subst hbf
        simp only [q2] at post
        exact post t1 σ1 x s1 E1 k1 ox
/-- e.f, e the error that the suite holds -/
def dXf (i : Nat) (o : Option D) : En → ER := fun E => match E.e[i]? with
  | some .exn => ofOpt o fun d => .val .P d E.st
  | _ => .bad
theorem v_xf {i : Nat} {a : Addr} {x : Option Addr} {c : Nat} {l : List D} {C : Addr} {cls : Value} {dd : Option Addr} {fld : Str} (hx : x = none → l = []) (hcls : cls = .ref (G.ca c)) (hdd : dd = x) (hC : G.ca c = C) (hn : G.fn c = [fld]) : DEv (G.exn a x c l) W (tXf a cls dd C fld (tVar i)) (dXf i l[0]?) := by
  subst hcls
  subst hC
  rw [hdd]
  clear hdd
  intro s t σ e st E k Q post
  unfold dXf at post
  split at post
  · rename_i q
    obtain ⟨o, h1, h2⟩ := E.slot q
    have h2 : o = some (.ref a) := h2
    subst h2
    obtain ⟨d, hd, post⟩ := RPost.opt _ _ post
    refine ⟨_, h1, rfl, rfl, ?_⟩
    cases x with
    | none => rw [hx rfl] at hd; cases hd
    | some da =>
      obtain ⟨xs, z1, z2, z3⟩ := k.ex da rfl
      have z1 : t.f da = some (.xd ((G.fn c).zip xs)) := z1
      have z2 : (G.fn c).length = xs.length := z2
      have z3 : IsL (G.exn a (some da) c l) t.as t.f xs l := z3
      obtain ⟨v, e1, e2⟩ := z3.get hd
      rw [hn] at z1 z2
      match xs, z2, e1, z1 with
      | [v'], _, e1, z1 =>
        cases e1
        exact ⟨da, _, v, rfl, k.sf _ _ z1, by simp [List.lookup], RPost.now k post e2⟩
  · exact post.elim
@[simp] theorem e_dXf {i : Nat} {o : Option D} {E : En} : dXf i o E = match E.e[i]? with
  | some .exn => ofOpt o fun d => .val .P d E.st
  | _ => .bad := rfl
end
end Dn
/-! isinstance of a caught error that has fields -/
namespace Dn
open PySem PySem.W PySem.Spec PyProof.Rows L2
section
variable {prog : Program} {w : World} {A : Around} {E : Value → Shared → Prop} {s : Shared} {K : Frag} {e C : Addr} {oe od : Obj}
theorem cls_look (T : ExcC K C) {Q : Option Value → Shared → Prop} (ki : K.In s.heap) (at_ : InstAt s.heap e oe C (some od)) (q : Q (some (.ref C)) { s with toks := s.toks + 1 }) : wpAny (model prog w) A (getAttr? (.ref e) "__class__") Q E s := by
  obtain ⟨hp, g, dr, tk, os⟩ := s
  have fo : findObj K C (some od) "__class__" = some (.bind (.builtin "getset_descriptor.__get__") (.builtin "object.__class__")) := findObj_data (by obtain ⟨cd, hc, _⟩ := any_some T.hd; rw [hc]; rfl) T.ha T.hn T.ht
  have lt := at_.type (M := model prog w)
  have lg := looks_findIn (M := model prog w) ki T.hg
  have lk := looks_findIn (M := model prog w) ki T.hk
  have lf := looks_find (M := model prog w) ki at_ fo
  have isx : Looks (model prog w) hp (isInstance (.ref e) (.type "BaseException")) true := lt.andThen (looks_subIn ki T.hs)
  have b0 : (false && onTheHeap (Value.builtin "BaseException.__getattribute__")) = false := rfl
  have b1 : (onTheHeap (Value.ref C) && Value.builtin "BaseException.__getattribute__" == Value.builtin "object.__getattribute__") = false := by
    rw [show (Value.builtin "BaseException.__getattribute__" == Value.builtin "object.__getattribute__") = false by decide +kernel]; rfl
  unfold getAttr? getAttrBy? getAttrBy
  refine wpAny_bind (wpAny_mkText (wpAny_bind (wpAny_attempt (wpAny_holding (wpAny_bind (lt.at (wpAny_bind (lg.at ?_))))))))
  show wpAny _ _ (if (onTheHeap (Value.ref C) && Value.builtin "BaseException.__getattribute__" == Value.builtin "object.__getattribute__") = true then _ else _) _ _ _
  rw [b1, if_neg Bool.false_ne_true]
  unfold getAttrByItsOwn hookBefore
  refine wpAny_bind ?_
  rw [if_pos (show onTheHeap (Value.ref C) = true from rfl)]
  refine lk.at (wpAny_bind (wpAny_attempt (wpAny_holding ?_)))
  unfold callGetattribute
  rw [b0, if_neg Bool.false_ne_true]
  unfold boundAndCalled
  rw [PySem.F.excAttr_ValueError.ga.bind (.ref e)]
  refine wpAny_bind (wpAny_pure ?_)
  show wpAny _ _ (call (.builtin "BaseException.__getattribute__") [.ref e, .str "__class__" tk]) _ _ _
  refine wpAny_call (codeAny_call_builtin PySem.F.excAttr_ValueError.ga.plain PySem.F.entry_bexc_ga ?_)
  refine @check_slot (model prog w) _ _ ⟨hp, g, dr, tk + 1, os⟩ "BaseException.__getattribute__" "BaseException" "__getattribute__" (.ref e) [.str "__class__" tk] [] _ (by decide +kernel) (by decide +kernel) isx (PySem.F.args_bexc_ga (.ref e) (.str "__class__" tk)) ?_
  unfold Builtin.«object.__getattribute__»
  refine wpAny_bind (wpAny_of_eq (a := ((Value.ref e : Value), [Value.str "__class__" tk])) (by first | rfl | (simp only [slotArgs]; rfl)) ?_)
  refine wpAny_bind (wpAny_pure (wpAny_bind (lt.at (wpAny_bind (lf.at ?_)))))
  show wpAny _ _ (holding [Value.builtin "object.__class__"] (call (.builtin "getset_descriptor.__get__") [.builtin "object.__class__", .ref e, .ref C]) >>= ret) _ _ _
  refine wpAny_bind (wpAny_holding (wpAny_call (class_get (s := ⟨hp, g, dr, tk + 1, os⟩) (ox := oe) (od := some od) ki at_ T.hm ?_)))
  refine wpAny_pure ?_
  show wpAny _ _ (handedOut (.ref C)) _ _ _
  rw [handedOut_of (v := .ref C) rfl]
  first
    | exact wpAny_pure (wpAny_pure q)
    | exact wpAny_pure q
    | exact wpAny_pure (wpAny_bind (wpAny_pure (wpAny_pure q)))
theorem kit_exd (T : ExcC K C) : KitX K (.ref e) (.ref C) (fun h => InstAt h e oe C (some od)) := by
  have old := handS_kitx_exc (x := e) (ox := oe) T.hg T.hk T.hs T.hd T.ha T.hn T.ht T.hm
  exact {
    ty := fun _ _ _ I => I.type
    it := fun M h X I => by
      obtain ⟨cdD, hcD, _⟩ := any_some T.hd
      unfold clsIn at hcD
      split at hcD
      · rename_i c' d' cd' sl' ho
        intro A' Q' E' s' k q
        unfold isType loadHead
        exact wpAny_bind (wpAny_loadPart (k _ _ (X _ _ ho)) (wpAny_pure q))
      · cases hcD
    ne := old.ne
    ca := fun X I k => cls_look T X I k }
end
/-- isinstance(e, c), e the error that the suite holds, with its fields -/
def rIsD (K : PySem.W.Frag) (a : Addr) (cls : Value) (d : Option Addr) : List V → Hp → VK → Prop := fun xs H Q => ∃ C dd fs, cls = .ref C ∧ d = some dd ∧ H dd = some (.xd fs) ∧ ExcC K C ∧ rIsE K C a xs H Q
theorem call_isD {X : Cx} {a : Addr} {cls : Value} {d : Option Addr} {oe : Obj} {pn : List (Addr × Obj)} (hz : Zc cls d oe) (hf : ∃ vs, oe.data = .fields vs) : CallR (X.suite a ((a, oe) :: pn)) (.builtin "isinstance") (rIsD X.K a cls d) := by
  intro pins s σ H xs us Q I r h
  obtain ⟨C, dd, fs, rfl, rfl, hx, T, c, cv, b, rfl, hcv, e, q⟩ := h
  cases r with
  | cons rx rr =>
    cases rr with
    | cons rt rr =>
      cases rr
      cases rx
      have ec := hcv _ rt
      subst ec
      obtain ⟨hget, _⟩ := I.pin (a, oe) (List.mem_append.mpr (.inl List.mem_cons_self))
      obtain ⟨vs, hv⟩ := hf
      obtain ⟨mA, hns, hr⟩ := (show ObjOk X.prog X.w H s.heap dd (.xd fs) from I.hok dd _ hx)
      obtain ⟨od, ho, hl⟩ := lookIn_ns hns
      have J : PySem.W.InstAt s.heap a oe C (some od) := ⟨hget, hz.1, by unfold PySem.W.notCls; rw [hv] <;> rfl, by rw [hz.2]; exact ho⟩
      exact PySem.W.kia_one (kit_exd T) I.kIn J e (fun z => nomatch z) fun tk => ⟨.bl b, H, I.kept (t' := tk) fun _ _ z => z, rfl, q⟩
end Dn
namespace Dn
open PySem PySem.Spec PyProof.Rows L2
section
variable {G : Gm} {W : WX}
/-! ### comprehensions over a list of the store: it must stay as it is meanwhile -/
open Classical in
noncomputable def lcGoC (C : Sto → Prop) (k : D → Sto → Option (Option D × Sto)) : List D → Sto → Option (List D × Sto)
  | [], st => if C st then some ([], st) else none
  | d :: l, st => if C st then (k d st).bind fun o => (lcGoC C k l o.2).bind fun r => some (o.1.toList ++ r.1, r.2) else none
/-- the same as over a frozen list, where nothing touches it -/
theorem lcGoC_eq {C : Sto → Prop} {k : D → Sto → Option (Option D × Sto)} (h : ∀ d st o, C st → k d st = some o → C o.2) : ∀ (l : List D) (st : Sto), C st → lcGoC C k l st = lcGo k l st
  | [], st, c => by unfold lcGoC lcGo; rw [if_pos c]
  | d :: l, st, c => by
    unfold lcGoC lcGo
    rw [if_pos c]
    cases q : k d st with
    | none => rfl
    | some o =>
      show ((lcGoC C k l o.2).bind _) = ((lcGo k l o.2).bind _)
      rw [lcGoC_eq h l o.2 (h d st o c q)]
noncomputable def dLcX (f : En → ER) (t : D → DE → Option DE) (c g : En → ER) (vs : List Nat) : En → ER := fun E => match f E with
  | .val _ (.ptr n) st => (match stLst st n with
    | some l => if l.length ≤ 1000000 then ofOpt (lcGoC (fun st => stLst st n = some l) (lcStep t c g (wipeE E.e vs)) l st) fun r => .val .N (.lst r.1) r.2 else .bad
    | none => .bad)
  | _ => dLc (dIter f) t c g vs E
theorem v_lcX {g : TG} {tt : TT} {te : TE} {tf : TE} {vs js : List Nat} {fs : En → ER} {t : D → DE → Option DE} {c f : En → ER} (hf : DEv G W tf fs) (hg : DTg G g js t) (hj : ∀ j ∈ js, j ∈ vs) (ht : DTt G W0 tt c) (he : DEv G W0 te f) : DEv G W (tLc (iAny G.K tf) g tt te vs) (dLcX fs t c f vs) := by
  intro s t0 σ e st E k0 Q post
  unfold dLcX at post
  split at post
  · rename_i m n st1 q
    refine .inl (hf s t0 σ e st E k0 _ ?_)
    rw [q]
    intro t1 v g1 k1 o1
    obtain ⟨p, rfl, hp⟩ := o1.u.ptr
    cases hl : stLst st1 n with
    | none => simp only [hl] at post; exact post.elim
    | some l =>
    simp only [hl] at post
    have it := it_ptr (G := G) (l := l) hp
    obtain ⟨vs0, hh0, _⟩ := k1.lst hp hl
    refine ⟨p, rfl, ⟨vs0, SqL.of hh0⟩, ?_⟩
    obtain ⟨hlen, post⟩ := RPost.cond _ _ post
    obtain ⟨out, hout, post⟩ := RPost.opt _ _ post
    have cnd : ∀ {xs : List D} {kk : D → Sto → Option (Option D × Sto)} {st : Sto} {o : List D × Sto}, lcGoC (fun st => stLst st n = some l) kk xs st = some o → stLst st n = some l := fun {xs kk st o} h => by
      by_cases c : stLst st n = some l
      · exact c
      · cases xs <;> (unfold lcGoC at h; rw [if_neg c] at h; cases h)
    intro Dl hD
    have hDH : t0.h Dl = none := by
      cases q : t0.h Dl with
      | none => rfl
      | some o =>
        by_cases i : Dl ∈ t0.as
        · exact absurd (g1.a.mem i) (k1.new hD)
        · rw [g1.h Dl o q i] at hD; cases hD
    have hD0 : s.h Dl = none := by
      cases q : s.h Dl with
      | none => rfl
      | some o =>
        by_cases i : Dl ∈ s.as
        · exact absurd (E.gr.a.mem i) (k0.new hDH)
        · rw [E.gr.h Dl o q i] at hDH; cases hDH
    have hDf : t1.f Dl = none := k1.sf.free hD
    have hDa : Dl ∉ t1.as := k1.new hD
    have Ew := (E.up g1).wipe vs
    have hne : ∀ (j : Nat) (m : List D), (L2.wipe σ vs)[j]? = some (some (.ref Dl)) → (wipeE e vs)[j]? = some (.own m) → False := fun j m a b => by
      obtain ⟨o, h1, p', vs', h2, _, _, h3, _⟩ := Ew.slot b
      rw [a] at h1; cases h1
      cases h2
      rw [hD] at h3; cases h3
    have gd := g1.chg (o := .lst []) hDH hDf
    refine ⟨fun i m H' => m = l.length - i ∧ i ≤ l.length ∧ ∃ t2 st2 acc vacc rest, t2.h = H' ∧ Up t1 t2 ∧ Gro t0 t2 ∧ StOk G t2 st2 ∧ EnvOk G s t2 (L2.wipe σ vs) (wipeE e vs) ∧ t2.h Dl = some (.lst vacc) ∧ IsL G t2.as t2.f vacc acc ∧ t2.f Dl = none ∧ Dl ∉ t2.as ∧ acc.length ≤ i ∧
      lcGoC (fun st => stLst st n = some l) (lcStep t c f (wipeE e vs)) (l.drop i) st2 = some (rest, out.2) ∧ acc ++ rest = out.1, ⟨l.length, by simp, Nat.zero_le _, ⟨t1.as, t1.f, upd t1.h Dl (.lst [])⟩, st1, [], [], out.1, rfl, ⟨Ext.refl _, Same.refl _⟩, gd, k1.chg hDf hDa, Ew.other hD0 hDf hne, upd_same, .nil, hDf, hDa, Nat.zero_le _, hout, rfl⟩, ?_⟩
    rintro i m H2 ⟨rfl, hi, t2, st2, acc, vacc, rest, rfl, s2, g2, k2, E2, d2, a2, n2, na2, l2, r2, o2⟩
    have c2 := cnd r2
    obtain ⟨i1, i2⟩ := it i t2 st2 s2 k2 c2
    by_cases hlt : i < l.length
    · right
      have hd : l[i]? = some l[i] := List.getElem?_eq_getElem hlt
      obtain ⟨go, y⟩ := i2 _ hd
      rw [List.drop_eq_getElem_cons hlt] at r2
      refine ⟨go, fun H' => i + 1 ≤ l.length ∧ ∃ t2 st2 acc vacc rest, t2.h = H' ∧ Up t1 t2 ∧ Gro t0 t2 ∧ StOk G t2 st2 ∧ EnvOk G s t2 (L2.wipe σ vs) (wipeE e vs) ∧ t2.h Dl = some (.lst vacc) ∧ IsL G t2.as t2.f vacc acc ∧ t2.f Dl = none ∧ Dl ∉ t2.as ∧ acc.length ≤ i + 1 ∧
        lcGoC (fun st => stLst st n = some l) (lcStep t c f (wipeE e vs)) (l.drop (i + 1)) st2 = some (rest, out.2) ∧ acc ++ rest = out.1, fun H' h => ⟨l.length - (i + 1), by omega, rfl, h⟩, fun x H' hy => ?_⟩
      obtain ⟨t3, rfl, g3, k3, i3⟩ := y x H' hy
      unfold lcGoC at r2; rw [if_pos c2] at r2
      cases sk : lcStep t c f (wipeE e vs) l[i] st2 with
      | none => rw [sk] at r2; cases r2
      | some o =>
        rw [sk] at r2
        have r2 : ((lcGoC (fun st => stLst st n = some l) (lcStep t c f (wipeE e vs)) (l.drop (i + 1)) o.2).bind fun r => some (o.1.toList ++ r.1, r.2)) = some (rest, out.2) := r2
        cases lg : lcGoC (fun st => stLst st n = some l) (lcStep t c f (wipeE e vs)) (l.drop (i + 1)) o.2 with
        | none => rw [lg] at r2; cases r2
        | some rest' =>
          rw [lg] at r2
          have r3 : (o.1.toList ++ rest'.1, rest'.2) = (rest, out.2) := Option.some.inj r2
          have r4 : o.1.toList ++ rest'.1 = rest := (Prod.mk.inj r3).1
          have r5 : rest'.2 = out.2 := (Prod.mk.inj r3).2
          have lg' : lcGoC (fun st => stLst st n = some l) (lcStep t c f (wipeE e vs)) (l.drop (i + 1)) o.2 = some (rest'.1, out.2) := by rw [lg, ← r5]
          unfold lcStep at sk
          cases q3 : t l[i] (wipeE e vs) with
          | none => rw [q3] at sk; cases sk
          | some e3 =>
            rw [q3] at sk
            refine hg s t3 (L2.wipe σ vs) (wipeE e vs) st2 x l[i] (E2.up g3) k3 i3 _ e3 q3 fun σ4 E4 l4 w4 => ?_
            refine ⟨wipe_agree (by rw [l4, L2.wipe_length]) hj w4 l4, ?_⟩
            refine ht s t3 σ4 e3 st2 E4 k3 _ ?_
            have sk' : (match c ⟨e3, st2⟩ with
              | .val _ (.bl b) st1 => if b = true then (match f ⟨e3, st1⟩ with | .val .P y st2 => some (some y, st2) | .val .N y st2 => some (some y, st2) | _ => none) else some (none, st1)
              | _ => none) = some o := sk
            cases q4 : c ⟨e3, st2⟩ with
            | exc k l st => rw [q4] at sk'; cases sk'
            | bad => rw [q4] at sk'; cases sk'
            | val mm d st4 =>
              rw [q4] at sk'
              cases d with
              | bl b =>
                intro t5 g5 k5
                have gg := g3.trans g5
                cases b with
                | false =>
                  cases sk'
                  refine iteF ⟨hlt, t5, st4, acc, vacc, rest'.1, rfl, s2.trans gg.up, g2.trans gg, k5, E2.up gg, gg.h _ _ d2 na2, a2.up gg.a gg.f, gg.n _ _ d2 n2, (fun m => (gg.w Dl m).elim na2 fun z => by rw [d2] at z; cases z), by omega, lg', ?_⟩
                  rw [← o2, ← r4]; rfl
                | true =>
                  refine iteT (he s t5 σ4 e3 st4 (E4.up g5) k5 _ ?_)
                  have fin : ∀ y st6 t6 v, Gro t5 t6 → StOk G t6 st6 → Is G t6.as t6.f v y → o = (some y, st6) → ∃ acc, t6.h Dl = some (.lst acc) ∧ acc.length < sizeLine ∧ (i + 1 ≤ l.length ∧ ∃ t2 st2 acc_1 vacc rest, t2.h = upd t6.h Dl (.lst (acc ++ [v])) ∧ Up t1 t2 ∧ Gro t0 t2 ∧ StOk G t2 st2 ∧ EnvOk G s t2 (L2.wipe σ vs) (wipeE e vs) ∧
                      t2.h Dl = some (.lst vacc) ∧ IsL G t2.as t2.f vacc acc_1 ∧ t2.f Dl = none ∧ Dl ∉ t2.as ∧ acc_1.length ≤ i + 1 ∧ lcGoC (fun st => stLst st n = some l) (lcStep t c f (wipeE e vs)) (l.drop (i + 1)) st2 = some (rest, out.2) ∧ acc_1 ++ rest = out.1) := fun y st6 t6 v g6 k6 i6 ho => by
                    subst ho
                    have gh := gg.trans g6
                    have nn := gh.n _ _ d2 n2
                    have na : Dl ∉ t6.as := fun m => (gh.w Dl m).elim na2 fun z => by rw [d2] at z; cases z
                    have cl := a2.len
                    refine ⟨vacc, gh.h _ _ d2 na2, by rw [cl]; exact szlt (by omega), hlt, ⟨t6.as, t6.f, upd t6.h Dl (.lst (vacc ++ [v]))⟩, st6, acc ++ [y], vacc ++ [v], rest'.1, rfl, ?_, (g2.trans gh).chg hDH nn, k6.chg nn na, (E2.up gh).other hD0 nn hne, upd_same, (a2.up gh.a gh.f).append (.one i6), nn, na, by simp; omega, lg', ?_⟩
                    · exact ⟨s2.a.trans gh.a, s2.f.trans gh.f⟩
                    · rw [← o2, ← r4]
                      simp
                  have sk2 : (match f ⟨e3, st4⟩ with | .val .P y st2 => some (some y, st2) | .val .N y st2 => some (some y, st2) | _ => none) = some o := sk'
                  cases q6 : f ⟨e3, st4⟩ with
                  | val m6 y st6 =>
                    rw [q6] at sk2
                    intro t6 v g6 k6 o6
                    cases m6 with
                    | P => exact fin y st6 t6 v g6 k6 o6 (Option.some.inj sk2).symm
                    | B => cases sk2
                    | N =>
                      obtain ⟨f7, g7, k7, _, i7⟩ := o6.freeze g6 k6 (by decide)
                      exact fin y st6 ⟨t6.as, f7, t6.h⟩ v g7 k7 i7 (Option.some.inj sk2).symm
                  | exc k l st => rw [q6] at sk2; cases sk2
                  | bad => rw [q6] at sk2; cases sk2
              | _ => cases sk'
    · left
      have : i = l.length := by omega
      subst this
      refine ⟨i1 (Nat.le_refl _), ?_⟩
      rw [List.drop_length] at r2
      unfold lcGoC at r2
      rw [if_pos c2] at r2
      have r3 : (([] : List D), st2) = (rest, out.2) := Option.some.inj r2
      have r4 : [] = rest := (Prod.mk.inj r3).1
      have r5 : st2 = out.2 := (Prod.mk.inj r3).2
      subst r4
      rw [List.append_nil] at o2
      rw [← o2, ← r5] at post
      exact post t2 _ g2 k2 ⟨Dl, vacc, acc, rfl, rfl, d2, a2, na2, hDH, n2⟩
  · exact v_lc (i_any hf) hg hj ht he s t0 σ e st E k0 Q post
end
/-! ### C.m(x, ..), m a def of the class C -/
section
variable {X : Cx} {CX : CXT} {k n : Nat} {f C : Addr} {mc : Value} {fd : FuncData} {ps : List Str} {idx : List Nat} {dvs : List V} {sp : Sp} {E : L2.St → XK} {x m : Str} {p apos pos : Pos} {e : Expr} {es : List Expr} {t : TA} {pl : Sem Bool}
theorem pe_cfn (r : ClX.CRead X.K C mc) (c : ClX.CVal X.K C mc m (.ref f) (.ref f)) (F : FnOk X.prog X.w X.K X.mg X.base CX k f fd ps sp) (hr : Room k X.A) (hg : Gl X x) (hm : X.mg x = some (.ref C)) (hk : PySem.W.keepIn X.K (.ref f) = true) (hb : CallB X.K fd ps n [] idx dvs) (hx : ∀ σ, PassesAt CX X σ (E σ))
    (ha : PA X (e :: es) t) (hdb : (x == ("__debug__" : Str)) = false := by decide) (he : starEach (e :: es) X.env = (false, eval e X.env) :: starEach es X.env := by rfl) (hpl : (backTo pos (starEach es X.env)).any (·.1) = false := by rfl)
    (ht : eval (.Call (.Attribute (.Name x p) m apos) (e :: es) [] pos) X.env = (do
      let ov ← eval (.Name x p) X.env
      standAt apos.atName
      let (f, first) ← holding [ov] (getMethod ov m pl)
      callWith pos f first (backTo pos (starEach (e :: es) X.env)) (backToKw pos (keywordEach [] X.env))) := by rfl) :
    PE X (.Call (.Attribute (.Name x p) m apos) (e :: es) [] pos) (tCallG n 0 idx dvs sp E t tNil) := by
  refine ⟨fun pins s σ H Q I h => ?_⟩
  refine PySem.W.methodCall_KW (pl := pl) (ld_glob I hg hm ?_ hdb) ht
  refine PySem.W.method_cls I.kIn r.ga (ClX.getcval_ok I r c fun s2 I2 => ?_)
  refine PySem.W.callWith_K (h₀ := X.base) I.ok.mod.kin hk (thn (ha.run pos pins s2 σ H _ I2 h) fun us s1 ⟨vs, H1, I1, rr, l1, l2, q⟩ => ⟨I1.kIn, ?_⟩) he hpl
  exact run_fnG (ks := []) (ws := []) (zs := []) F hr hb (hx σ) I1 rr .nil l1 rfl q
end
/-! ### x in / not in a tuple of flat things -/
section
variable {G : Gm} {W : WX}
def oNotInF (a b : D) (st : Sto) : ER := match b with
  | .tup l => if flat a = true ∧ l.all flat = true then .val .P (.bl (!inV (toV a) (l.map toV))) st else .bad
  | _ => .bad
theorem flat_toV {d : D} (h : flat d = true) : flatV (toV d) = true := by cases d <;> first | rfl | cases h
theorem is_flat {s : Hs} {v : V} {d : D} (hf : flat d = true) (h : U G s v d) : v = toV d := by
  cases d <;> try cases hf
  all_goals first
    | exact h.non
    | exact h.bl
    | exact h.int
    | exact h.str
theorem isL_flat {as : List Addr} {H : Hp} : ∀ {l : List D} {vs : List V}, l.all flat = true → IsL G as H vs l → vs = l.map toV
  | [], _, _, h => by cases h; rfl
  | d :: l, _, hf, h => by
    cases h with
    | cons p b =>
      have h' : flat d = true ∧ l.all flat = true := by simpa using hf
      have e2 := isL_flat h'.2 b
      subst e2
      cases d <;> first | (cases p; rfl) | cases h'.1
theorem d_notInF : DOp G (rIn G.K true) oNotInF := by
  intro W σ s st v w d d' k hv hw Q post
  cases d' <;> try exact post.elim
  rename_i l
  obtain ⟨⟨h1, h2⟩, post⟩ := RPost.cond _ _ post
  obtain ⟨p, xs, rfl, sq, il⟩ := hw.tup k.sf
  have e1 := isL_flat h2 il
  subst e1
  have e2 := is_flat h1 hv
  subst e2
  refine ⟨p, _, rfl, .inr sq, flat_toV h1, ?_, post.now k (.bl _)⟩
  rw [List.all_map]
  exact List.all_eq_true.mpr fun x hx => flat_toV (List.all_eq_true.mp h2 x hx)
@[simp] theorem e_oNotInF {a : D} {l : List D} {st : Sto} : oNotInF a (.tup l) st = if flat a = true ∧ l.all flat = true then .val .P (.bl (!inV (toV a) (l.map toV))) st else .bad := rfl
end
end Dn
namespace Dn
open PySem PySem.Spec PyProof.Rows L2
/-! ### list(zip(x, y)) -/
theorem zip_no_len : typeLookup (.type "zip") "__len__" = pure none := by rw [typeLookup_type, builtinLookup_eq_fast]; kernel_rfl
theorem zip_no_hint : typeLookup (.type "zip") "__length_hint__" = pure none := by rw [typeLookup_type, builtinLookup_eq_fast]; kernel_rfl
/-- the zip as it stands behind k items -/
def ZS (h : Heap) (z TI TO i1 i2 l1 l2 S : Addr) (k : Nat) : Prop := IsPair h TI (.ref i1) (.ref i2) ∧ h.IsListIter i1 l1 k ∧ h.IsListIter i2 l2 k ∧ (∃ o, h.get? TO = some o) ∧
  ((IsZip h z TI TO .none ∧ ∃ a b, IsPair h TO a b) ∨ ∃ T f oT, IsZipHeld h z TI TO T f ∧ h.get? T = some oT ∧ T ≠ z ∧ T ≠ i1 ∧ T ≠ i2 ∧ T ≠ S)
theorem ZS.keep {h h' : Heap} {z TI TO i1 i2 l1 l2 S : Addr} {k : Nat} (q : ZS h z TI TO i1 i2 l1 l2 S k) (nS : S ≠ z ∧ S ≠ TI ∧ S ≠ TO ∧ S ≠ i1 ∧ S ≠ i2) (hk : ∀ b o, b ≠ S → h.get? b = some o → h'.get? b = some o) : ZS h' z TI TO i1 i2 l1 l2 S k := by
  obtain ⟨a, b, c, ⟨oo, w⟩, d⟩ := q
  obtain ⟨n1, n2, n3, n4, n5⟩ := nS
  refine ⟨hk _ _ (Ne.symm n2) a, b.at fun o e => hk _ o (Ne.symm n4) e, c.at fun o e => hk _ o (Ne.symm n5) e, ⟨oo, hk _ _ (Ne.symm n3) w⟩, ?_⟩
  rcases d with ⟨d, x, y, e⟩ | ⟨T, f, oT, d, e, r1, r2, r3, r4⟩
  · exact .inl ⟨hk _ _ (Ne.symm n1) d, x, y, hk _ _ (Ne.symm n3) e⟩
  · exact .inr ⟨T, f, oT, hk _ _ (Ne.symm n1) d, hk _ _ r4 e, r1, r2, r3, r4⟩
section
variable {X : Cx} {pins : List (Addr × Obj)} {σ : L2.St} {A : Around} {R : Result → Shared → Prop} {S z TI TO i1 i2 l1 l2 : Addr} {res : Value} {xs ys : List V} {n : Nat} {Pv : Nat → List V → Hp → Prop}
theorem lz_loop (D : ZipApart z TI TO i1 i2 l1 l2) (hh : A.handled = none) (nS : S ≠ z ∧ S ≠ TI ∧ S ≠ TO ∧ S ≠ i1 ∧ S ≠ i2) (hn : n = min xs.length ys.length) (hsz : n ≤ 1000000)
    (hq : ∀ k acc H, Pv k acc H → SqL X.K H l1 xs ∧ SqL X.K H l2 ys)
    (hs : ∀ k acc H x y T, Pv k acc H → xs[k]? = some x → ys[k]? = some y → H T = none → Pv (k + 1) (acc ++ [.ref T]) (upd H T (.tup [x, y])))
    (fin : ∀ H s' acc its c, Pv n acc H → Inv X pins σ H s' → FpOk X pins H S → s'.heap.get? S = some (lstObj its c) → Vals acc its.toList → acc.length ≤ sizeLine → R (.ok (.ret res)) s') :
    ∀ (m k : Nat) (s : Shared) (H : Hp) (acc : List V) (its : Array Value) (c : Nat), k + m = n → Pv k acc H → Inv X pins σ H s → (∀ b ∈ [z, TI, TO, i1, i2, S], FpOk X pins H b) → ZS s.heap z TI TO i1 i2 l1 l2 S k →
      s.heap.get? S = some (lstObj its c) → Vals acc its.toList → acc.length = k → codeAny (model X.prog X.w) A (.builtin "list.extend.loop" ⟨[.ref S, .ref z, res], []⟩) R s := by
  intro m
  induction m with
  | zero =>
    intro k s H acc its c hk pv I hf zs hS va hl
    have hk : k = n := by omega
    subst hk
    obtain ⟨q1, q2⟩ := hq _ _ _ pv
    obtain ⟨it1, rv1, p1, _⟩ := I.list q1
    obtain ⟨it2, rv2, p2, _⟩ := I.list q2
    have e1 := rv1.length
    have e2 := rv2.length
    have hend : it1.toArray[k]? = none ∨ it2.toArray[k]? = none := by
      rcases Nat.le_total xs.length ys.length with h | h
      · exact .inl (by simp; omega)
      · exact .inr (by simp; omega)
    obtain ⟨hTI, h1, h2, ⟨oTO, hTO0⟩, hz⟩ := zs
    obtain ⟨nS1, nS2, nS3, nS4, nS5⟩ := nS
    refine codeAny_builtin F.entry_extend_loop ?_
    rw [Around.under_plainId F.plain_extend_loop _]
    show wpAny _ A.in1 (pyNext (.ref z) >>= _) _ _ s
    have done : ∀ h', (∀ b o, b ∉ [z, TI, TO, i1, i2] → s.heap.get? b = some o → h'.get? b = some o) → R (.ok (.ret res)) { s with heap := h' } := fun h' kk => by
      refine fin H _ acc its c pv (I.turnedL (t' := s.toks) (ch := [z, TI, TO, i1, i2]) kk fun b hb => hf b (by simp only [List.mem_cons, List.not_mem_nil, or_false] at hb ⊢; grind)) (hf S (by simp)) (kk S _ (by simp [nS1, nS2, nS3, nS4, nS5]) hS) va (by rw [hl]; exact Nat.le_trans hsz (by decide))
    rcases hz with ⟨hz, a, b, hTO⟩ | ⟨T, f, oT, hz, hT, r1, r2, r3, r4⟩
    · refine wpAny_bind (wpAny_pyNext_zip_end (A := A.in1) hh D hz hTI hTO h1 h2 p1.isList p2.isList hend fun h' hk => ?_)
      exact wpAny_pure (done h' fun b o hb e => hk b o (fun q => hb (by simp [q])) (fun q => hb (by simp [q])) (fun q => hb (by simp [q])) (fun q => hb (by simp [q])) e)
    · refine wpAny_bind (wpAny_pyNext_zip_end_held (A := A.in1) hh D hz hT hTI h1 h2 p1.isList p2.isList hend fun h' hk => ?_)
      exact wpAny_pure (done h' fun b o hb e => hk b o (fun q => hb (by simp [q])) (fun q => hb (by simp [q])) (fun q => hb (by simp [q])) e)
  | succ m ih =>
    intro k s H acc its c hk pv I hf zs hS va hl
    obtain ⟨q1, q2⟩ := hq _ _ _ pv
    obtain ⟨it1, rv1, p1, _⟩ := I.list q1
    obtain ⟨it2, rv2, p2, _⟩ := I.list q2
    have e1 := rv1.length
    have e2 := rv2.length
    have hk1 : k < xs.length := by omega
    have hk2 : k < ys.length := by omega
    obtain ⟨u1, hu1, ru1⟩ := rv1.get (List.getElem?_eq_getElem hk1)
    obtain ⟨u2, hu2, ru2⟩ := rv2.get (List.getElem?_eq_getElem hk2)
    have hx : it1.toArray[k]? = some u1 := by simpa using hu1
    have hy : it2.toArray[k]? = some u2 := by simpa using hu2
    have zs0 := zs
    obtain ⟨hTI, h1, h2, ⟨oTO, hTO0⟩, hz⟩ := zs
    have nS0 := nS
    obtain ⟨nS1, nS2, nS3, nS4, nS5⟩ := nS
    have hSl : S < s.heap.objs.size := Heap.lt_size hS
    have hits : its.size = k := by have := va.length; simp at this; omega
    refine codeAny_builtin F.entry_extend_loop ?_
    rw [Around.under_plainId F.plain_extend_loop _]
    show wpAny _ A.in1 (pyNext (.ref z) >>= _) _ _ s
    have lt : ∀ {c o}, s.heap.get? c = some o → s.heap.objs.size ≠ c := fun e => Nat.ne_of_gt (Heap.lt_size e)
    have n1 : s.heap.objs.size ≠ i1 := let ⟨_, e, _⟩ := h1; lt e
    have n2 : s.heap.objs.size ≠ i2 := let ⟨_, e, _⟩ := h2; lt e
    have nTI : s.heap.objs.size ≠ TI := lt hTI
    have nzz : s.heap.objs.size ≠ z := by rcases hz with ⟨hz, _⟩ | ⟨_, _, _, hz, _⟩ <;> exact lt hz
    have go : ∀ h', ZS h' z TI TO i1 i2 l1 l2 S (k + 1) → IsPair h' s.heap.objs.size u1 u2 → (∀ b o, b ∉ [z, TO, i1, i2] → s.heap.get? b = some o → h'.get? b = some o) →
        wpAny (model X.prog X.w) A.in1 (Builtin.List.listUpdate (.ref S) (·.push (.ref s.heap.objs.size)) >>= fun _ => again (.builtin "list.extend.loop" ⟨[.ref S, .ref z, res], []⟩)) (fun fin s' => match fin with | .done f => R (.ok f) s' | .again c' => c'.quiet = true ∧ codeAny (model X.prog X.w) A c' R s') (fun e s' => R (.error e) s') { s with heap := h' } := fun h' zs' hp kk => by
      have hS' : h'.get? S = some (lstObj its c) := kk S _ (by simp [nS1, nS3, nS4, nS5]) hS
      show wpAny _ A.in1 (updateSeq S (·.push (.ref s.heap.objs.size)) >>= _) _ _ _
      refine wpAny_bind ?_
      refine wpAny_updateSeq hS' rfl (wpAny_pure ⟨plainId_quiet F.plain_extend_loop _, ?_⟩) (by show its.size ≤ sizeLine; rw [hits]; exact Nat.le_trans (by omega : k ≤ 1000000) (by decide)) (by show (its.push (Value.ref s.heap.objs.size)).size ≤ sizeLine + 1; rw [Array.size_push, hits]; exact Nat.succ_le_succ (Nat.le_trans (by omega : k ≤ 1000000) (by decide)))
      have keep3 : ∀ b o, b ≠ S → h'.get? b = some o → (h'.update S (Obj.mapSeq (·.push (.ref s.heap.objs.size)))).get? b = some o := fun b o hbS e => (Heap.get?_update_other _ _ (Ne.symm hbS)).trans e
      have hp3 := keep3 _ _ (Nat.ne_of_gt hSl) hp
      have hS3 := Heap.get?_update_self (Obj.mapSeq (·.push (Value.ref s.heap.objs.size))) hS' rfl
      have new : ObjOk X.prog X.w (upd H s.heap.objs.size (.tup [xs[k], ys[k]])) (h'.update S (Obj.mapSeq (·.push (.ref s.heap.objs.size)))) s.heap.objs.size (.tup [xs[k], ys[k]]) :=
        ⟨by show 2 ≤ sizeLine; decide, [u1, u2], .cons ru1 (.cons ru2 .nil), ⟨_, hp3, rfl, _, rfl⟩⟩
      have I1 : Inv X pins σ (upd H s.heap.objs.size (.tup [xs[k], ys[k]])) { s with heap := h'.update S (Obj.mapSeq (·.push (.ref s.heap.objs.size))) } :=
        I.turnedNew (t' := s.toks) (ch := [z, TI, TO, i1, i2, S]) (fun b o hb e => keep3 b o (fun q => hb (by simp [q])) (kk b o (fun q => hb (by simp only [List.mem_cons, List.not_mem_nil, or_false] at q ⊢; grind)) e)) hf (Nat.le_refl _) new
      refine ih (k + 1) _ _ (acc ++ [.ref s.heap.objs.size]) (its.push (.ref s.heap.objs.size)) _ (by omega) (hs k acc H _ _ _ pv (List.getElem?_eq_getElem hk1) (List.getElem?_eq_getElem hk2) (I.hok.fresh (Nat.le_refl _))) I1 (fun b hb => ?_) (zs'.keep nS0 keep3) hS3 ?_ (by simp [hl])
      · have := hf b hb
        refine ⟨?_, this.2⟩
        have hne : b ≠ s.heap.objs.size := by
          simp only [List.mem_cons, List.not_mem_nil, or_false] at hb
          rcases hb with q | q | q | q | q | q
          · rw [q]; exact Ne.symm nzz
          · rw [q]; exact Ne.symm nTI
          · rw [q]; exact Ne.symm (lt hTO0)
          · rw [q]; exact Ne.symm n1
          · rw [q]; exact Ne.symm n2
          · rw [q]; exact Nat.ne_of_lt hSl
        rw [upd_ne hne]
        exact this.1
      · rw [Array.toList_push]
        exact va.append (.cons rfl .nil)
    rcases hz with ⟨hz, a, b, hTO⟩ | ⟨T, f, oT, hz, hT, r1, r2, r3, r4⟩
    · refine wpAny_bind (wpAny_pyNext_zip_item (A := A.in1) D hz hTI hTO h1 h2 p1.isList p2.isList hx hy fun h' a1 a2 a3 a4 a5 a6 hk => ?_)
      exact go h' ⟨hk _ _ D.TIz D.TITO D.TIi1 D.TIi2 hTI, a3, a4, ⟨_, a2⟩, .inr ⟨s.heap.objs.size, false, _, a1, a5, lt hz, n1, n2, Nat.ne_of_gt hSl⟩⟩ a5 fun b o hb e => hk b o (fun q => hb (by simp [q])) (fun q => hb (by simp [q])) (fun q => hb (by simp [q])) (fun q => hb (by simp [q])) e
    · refine wpAny_bind (wpAny_pyNext_zip_item_held (A := A.in1) D hz hT hTI h1 h2 p1.isList p2.isList hx hy fun h' a1 a3 a4 a5 a6 hk => ?_)
      exact go h' ⟨hk _ _ D.TIz D.TIi1 D.TIi2 hTI, a3, a4, ⟨_, hk _ _ D.TOz D.TOi1 D.TOi2 hTO0⟩, .inr ⟨T, true, oT, a1, hk _ _ r1 r2 r3 hT, r1, r2, r3, r4⟩⟩ a5 fun b o hb e => hk b o (fun q => hb (by simp [q])) (fun q => hb (by simp [q])) (fun q => hb (by simp [q])) e
end
section
variable {X : Cx} {pins : List (Addr × Obj)} {σ : L2.St} {z TI TO i1 i2 l1 l2 : Addr} {xs ys : List V} {n : Nat} {Pv : Nat → List V → Hp → Prop} {H : Hp} {s : Shared} {Q : VK}
theorem call_lz (D : ZipApart z TI TO i1 i2 l1 l2) (hh : X.A.handled = none) (hn : n = min xs.length ys.length) (hsz : n ≤ 1000000) (I : Inv X pins σ H s) (hf : ∀ b ∈ [z, TI, TO, i1, i2], FpOk X pins H b)
    (hz : IsZip s.heap z TI TO .none) (hTI : IsPair s.heap TI (.ref i1) (.ref i2)) (hTO : IsPair s.heap TO .none .none) (h1 : s.heap.IsListIter i1 l1 0) (h2 : s.heap.IsListIter i2 l2 0)
    (hq : ∀ k acc H, Pv k acc H → SqL X.K H l1 xs ∧ SqL X.K H l2 ys) (p0 : Pv 0 [] H)
    (hs : ∀ k acc H x y T, Pv k acc H → xs[k]? = some x → ys[k]? = some y → H T = none → Pv (k + 1) (acc ++ [.ref T]) (upd H T (.tup [x, y])))
    (fin : ∀ acc H S, Pv n acc H → H S = none → Q (.ref S) (upd H S (.lst acc))) :
    wpAny (model X.prog X.w) X.A (call (.type "list") [.ref z]) (EP X pins σ Q) X.xe s := by
  have lt : ∀ {c o}, s.heap.get? c = some o → s.heap.objs.size ≠ c := fun e => Nat.ne_of_gt (Heap.lt_size e)
  have nS : s.heap.objs.size ≠ z ∧ s.heap.objs.size ≠ TI ∧ s.heap.objs.size ≠ TO ∧ s.heap.objs.size ≠ i1 ∧ s.heap.objs.size ≠ i2 := ⟨lt hz, lt hTI, lt hTO, (let ⟨_, e, _⟩ := h1; lt e), (let ⟨_, e, _⟩ := h2; lt e)⟩
  refine callType_codes (Q₁ := fun obj s₁ => obj = .ref s.heap.objs.size ∧ s₁ = { s with heap := s.heap.push { cls := .type "list", data := .seq #[] } }) F.called_list (F.typeCall_list_1 _) F.entry_list_init
    (code_list_new _ ⟨rfl, rfl⟩) fun obj s₁ h₁ => ?_
  obtain ⟨rfl, rfl⟩ := h₁
  have hS : (s.heap.push { cls := .type "list", data := .seq #[] }).get? s.heap.objs.size = some { cls := .type "list", data := .seq #[] } := Heap.get?_push_size _ rfl
  refine ⟨⟨_, hS, rfl⟩, F.args_list_init_2 _ _, ?_⟩
  show wpAny _ X.A.in1.in1 (do let old ← Builtin.List.listItems (.ref s.heap.objs.size); Builtin.List.listUpdate (.ref s.heap.objs.size) (fun _ => #[]); letGo old.toList.reverse; Builtin.List.listExtendWith (.ref s.heap.objs.size) (.ref z) .none) _ _ _
  refine wpAny_bind ?_
  unfold Builtin.List.listItems
  refine wpAny_bind (wpAny_seqItems hS rfl (wpAny_pure ?_))
  show wpAny _ X.A.in1.in1 (updateSeq s.heap.objs.size (fun _ => #[]) >>= fun _ => letGo (#[] : Array Value).toList.reverse >>= fun _ => Builtin.List.listExtendWith (.ref s.heap.objs.size) (.ref z) .none) _ _ _
  refine wpAny_bind (wpAny_updateSeq hS rfl ?_)
  have hS2 := Heap.get?_update_self (Obj.mapSeq (fun _ => (#[] : Array Value))) hS rfl
  refine wpAny_bind (wpAny_letGo ?_)
  unfold Builtin.List.listExtendWith
  have up : ∀ (h : Heap) (f : Obj → Obj), (∀ b o, s.heap.get? b = some o → h.get? b = some o) → ∀ b o, s.heap.get? b = some o → (h.update s.heap.objs.size f).get? b = some o := fun h f q b o e =>
    (Heap.get?_update_other _ _ (Ne.symm (Nat.ne_of_lt (Heap.lt_size e)))).trans (q b o e)
  have k1 : ∀ b o, s.heap.get? b = some o → (s.heap.push { cls := .type "list", data := .seq #[] }).get? b = some o := fun b o e => Heap.get?_push_of_some _ e
  have k2 := up _ (Obj.mapSeq (fun _ => (#[] : Array Value))) k1
  have ty : ∀ {h : Heap}, (∀ b o, s.heap.get? b = some o → h.get? b = some o) → ({ s with heap := h } : Shared).TypeIs (.ref z) "zip" := fun {h} q => ⟨_, q _ _ hz, rfl⟩
  refine wpAny_bind (wpAny_typeOf (ty k2) ?_)
  have g1 : Builtin.List.listSameRef (.ref s.heap.objs.size) (.ref z) = false := by simp [Builtin.List.listSameRef, nS.1]
  have g2 : (Value.type "zip" == Value.type "list") = false := by decide
  have g3 : (Value.type "zip" == Value.type "tuple") = false := by decide
  simp only [g1, g2, g3, Bool.or_false, Bool.false_eq_true, if_false]
  refine wpAny_bind (wpAny_pyIter_zip (s := { s with heap := _ }) (k2 _ _ hz) ?_)
  refine wpAny_bind (wpAny_holding ?_)
  unfold Builtin.List.listLengthHint
  refine wpAny_bind (wpAny_specialOf (ty k2) zip_no_len ?_)
  show wpAny _ X.A.in1.in1 (specialOf (Value.ref z) (Str.ofString "__length_hint__") >>= _) _ _ _
  refine wpAny_bind (wpAny_specialOf (ty k2) zip_no_hint ?_)
  refine wpAny_pure ?_
  show wpAny _ X.A.in1.in1 (rule "list.extend.makes-room" >>= fun _ => Builtin.List.listTouch (.ref s.heap.objs.size) >>= fun _ =>
    again (.builtin "list.extend.loop" ⟨[.ref s.heap.objs.size, .ref z, .none], []⟩)) _ _ _
  refine wpAny_bind (wpAny_rule ?_)
  refine wpAny_bind ?_
  show wpAny _ X.A.in1.in1 (updateSeq s.heap.objs.size (·.push .none) >>= fun _ => updateSeq s.heap.objs.size (·.pop)) _ _ _
  refine wpAny_bind (wpAny_updateSeq hS2 rfl ?_)
  have hS3 := Heap.get?_update_self (Obj.mapSeq (·.push Value.none)) hS2 rfl
  refine wpAny_updateSeq (hz := by seq_fits) hS3 rfl ?_
  have hS4 := Heap.get?_update_self (Obj.mapSeq (·.pop)) hS3 rfl
  have k4 := up _ (Obj.mapSeq (·.pop)) (up _ (Obj.mapSeq (·.push Value.none)) k2)
  refine wpAny_pure ⟨plainId_quiet F.plain_extend_loop _, ?_⟩
  have hSf : FpOk X pins H s.heap.objs.size := I.fpOk (Nat.le_refl _) (I.hok.fresh (Nat.le_refl _))
  refine lz_loop (X := X) (pins := pins) (σ := σ) (xs := xs) (ys := ys) (n := n) (Pv := Pv) (A := X.A.in1) D hh nS hn hsz hq hs (fun H' s' acc its c pv I' hfp e va hl => ⟨rfl, ?_⟩) n 0 _ H [] #[] _ (by omega) p0 (I.kept (t' := s.toks) k4) (fun b hb => ?_) ⟨k4 _ _ hTI, h1.at fun o e => k4 _ o e, h2.at fun o e => k4 _ o e, ⟨_, k4 _ _ hTO⟩, .inl ⟨k4 _ _ hz, _, _, k4 _ _ hTO⟩⟩ hS4 .nil rfl
  · simp only [List.mem_cons, List.not_mem_nil, or_false] at hb
    rcases hb with q | q | q | q | q | q
    · exact hf b (by simp [q])
    · exact hf b (by simp [q])
    · exact hf b (by simp [q])
    · exact hf b (by simp [q])
    · exact hf b (by simp [q])
    · rw [q]; exact hSf
  · exact ⟨.ref s.heap.objs.size, upd H' s.heap.objs.size (.lst acc), I'.take (t' := s'.toks) (fun b ob _ e => e) hfp (show ObjOk X.prog X.w _ _ _ (.lst acc) from ⟨hl, its.toList, c, va, by rw [Array.toArray_toList]; exact e⟩), rfl, fin acc H' _ pv hfp.1⟩
end
def tLZ (K : PySem.W.Frag) (ta : TA) : TE := fun σ H Q => ta σ H fun vs H1 => ∃ a b xs ys n, vs = [.ref a, .ref b] ∧ SqL K H1 a xs ∧ SqL K H1 b ys ∧ n = min xs.length ys.length ∧ n ≤ 1000000 ∧ ∃ Pv : Nat → List V → Hp → Prop, Pv 0 [] H1 ∧
  (∀ k acc H, Pv k acc H → SqL K H a xs ∧ SqL K H b ys) ∧ (∀ k acc H x y T, Pv k acc H → xs[k]? = some x → ys[k]? = some y → H T = none → Pv (k + 1) (acc ++ [.ref T]) (upd H T (.tup [x, y]))) ∧ ∀ acc H S, Pv n acc H → H S = none → Q (.ref S) (upd H S (.lst acc))
theorem pe_listZip {X : Cx} {e e2 : Expr} {ta : TA} {p pos p2 pos2 : Pos} (hc : X.calm = true) (hgl : Gl X "list") (hml : X.mg "list" = none) (hg : Gl X "zip") (hm : X.mg "zip" = none) (ha : PA X [e, e2] ta)
    (na : starEach [.Call (.Name "zip" p2) [e, e2] [] pos2] X.env = (false, eval (.Call (.Name "zip" p2) [e, e2] [] pos2) X.env) :: starEach [] X.env := by rfl)
    (hs : starEach [e, e2] X.env = (false, eval e X.env) :: starEach [e2] X.env := by rfl) (hpl : (backTo pos2 (starEach [e2] X.env)).any (·.1) = false := by rfl) :
    PE X (.Call (.Name "list" p) [.Call (.Name "zip" p2) [e, e2] [] pos2] [] pos) (tLZ X.K ta) := by
  refine ⟨fun pins s σ H Q I h => ?_⟩
  refine Call_ (ld_blt I hgl hml boot_list (PyProof.Rows.callWith_type1 (args_cons ?_ na) na))
  refine Call_ (ld_blt I hg hm PyProof.Rows.boot_zip (PyProof.Rows.callWith_type1 (thn (ha.run pos2 pins s σ H _ I h) fun us s1 ⟨vs, H1, I1, r1, q1⟩ => ?_) hs hpl))
  obtain ⟨a, b, xs, ys, n, rfl, hqx, hqy, hn, hsz, Pv, p0, hq, hst, fin⟩ := q1
  cases r1 with
  | cons r rr =>
    cases rr with
    | cons r' rr =>
      cases rr
      cases r
      cases r'
      obtain ⟨its, rv, p1, _⟩ := I1.list hqx
      obtain ⟨its2, rv2, p2, _⟩ := I1.list hqy
      have la : a < s1.heap.objs.size := p1.lt
      have lb : b < s1.heap.objs.size := p2.lt
      refine call_zip_2 p1.isList p2.isList fun h' hz hTI hTO h1 h2 hsz' hk => args_nil ?_
      have I2 : Inv X pins σ H1 { s1 with heap := h' } := I1.kept (t' := s1.toks) hk
      refine call_lz (PySem.W.ktu_apart s1.heap.objs.size a b la lb) (I1.ok.hd hc) hn hsz I2 (fun c hcm => ?_) hz hTI hTO h1 h2 hq p0 hst fin
      have e' : c = s1.heap.objs.size + 4 ∨ c = s1.heap.objs.size + 2 ∨ c = s1.heap.objs.size + 3 ∨ c = s1.heap.objs.size ∨ c = s1.heap.objs.size + 1 := by simpa using hcm
      have hle : s1.heap.objs.size ≤ c := by
        rcases e' with z | z | z | z | z
        · rw [z]; exact Nat.le_add_right _ _
        · rw [z]; exact Nat.le_add_right _ _
        · rw [z]; exact Nat.le_add_right _ _
        · rw [z]; exact Nat.le_refl _
        · rw [z]; exact Nat.le_add_right _ _
      exact I1.fpOk hle (I1.hok.fresh hle)
section
variable {G : Gm} {W : WX}
def lstOf (st : Sto) : D → Option (List D)
  | .lst l => some l
  | .ptr n => stLst st n
  | _ => none
theorem lstOf_u {t : Hs} {st : Sto} {v : V} {d : D} {l : List D} (k : StOk G t st) (h : U G t v d) (q : lstOf st d = some l) : ∃ p vs, v = .ref p ∧ t.h p = some (.lst vs) ∧ IsL G t.as t.f vs l := by
  cases d <;> try cases q
  case lst => exact h.lst k.sf
  case ptr n =>
    obtain ⟨p, rfl, hp⟩ := h.ptr
    obtain ⟨vs, h1, h2⟩ := k.lst hp q
    exact ⟨p, vs, rfl, h1, h2⟩
def dLz (f : En → AR) : En → ER := fun E => match f E with
  | .ok _ [a, b] st => ofOpt (lstOf st a) fun l => ofOpt (lstOf st b) fun m => if min l.length m.length ≤ 1000000 then .val .N (.lst (zipD l m)) st else .bad
  | .exc c l st => .exc c l st
  | _ => .bad
theorem zipD_at : ∀ {l m : List D} {i : Nat} {x y : D}, l[i]? = some x → m[i]? = some y → (zipD l m)[i]? = some (.tup [x, y])
  | [], _, _, _, _, h, _ => by simp at h
  | _ :: _, [], _, _, _, _, h => by simp at h
  | a :: l, b :: m, 0, x, y, h1, h2 => by simp at h1 h2; subst h1 h2; simp [zipD]
  | a :: l, b :: m, i + 1, x, y, h1, h2 => by
    have := zipD_at (l := l) (m := m) (i := i) (x := x) (y := y) (by simpa using h1) (by simpa using h2)
    simpa [zipD] using this
theorem v_lz {ta : TA} {f : En → AR} (h : DAr G W ta f) : DEv G W (tLZ G.K ta) (dLz f) := by
  intro s t0 σ e st E k0 Q post
  refine h s t0 σ e st E k0 _ ?_
  unfold dLz at post
  cases q : f ⟨e, st⟩ with
  | bad => rw [q] at post; exact post
  | exc c l st1 => rw [q] at post; exact post
  | ok pp l st1 =>
    rw [q] at post
    match l, post with
    | [], post => exact post.elim
    | [_], post => exact post.elim
    | _ :: _ :: _ :: _, post => exact post.elim
    | [a, b], post =>
      obtain ⟨l, hl, post⟩ := RPost.opt _ _ post
      obtain ⟨m, hm, post⟩ := RPost.opt _ _ post
      obtain ⟨hlen, post⟩ := RPost.cond _ _ post
      intro t1 vs g1 k1 _ u1
      cases u1 with
      | cons ua ub =>
        cases ub with
        | cons ub un =>
          cases un
          obtain ⟨p, xs, rfl, hp, ip⟩ := lstOf_u k1 ua hl
          obtain ⟨p', ys, rfl, hp', ip'⟩ := lstOf_u k1 ub hm
          refine ⟨p, p', xs, ys, min l.length m.length, rfl, SqL.of hp, SqL.of hp', by rw [ip.len, ip'.len], hlen,
            fun k acc H => k ≤ min l.length m.length ∧ ∃ t2, t2.h = H ∧ Gro t1 t2 ∧ StOk G t2 st1 ∧ t2.h p = some (.lst xs) ∧ t2.h p' = some (.lst ys) ∧ IsL G t2.as t2.f acc ((zipD l m).take k), ?_, ?_, ?_, ?_⟩
          · exact ⟨Nat.zero_le _, t1, rfl, Gro.refl k1, k1, hp, hp', by simpa using IsL.nil⟩
          · rintro k acc H ⟨_, t2, rfl, _, _, h1, h2, _⟩
            exact ⟨SqL.of h1, SqL.of h2⟩
          · rintro k acc H x y T ⟨hk, t2, rfl, g2, k2, h1, h2, ia⟩ hx hy hT
            obtain ⟨dx, ex, ix⟩ := ip.getV hx
            obtain ⟨dy, ey, iy⟩ := ip'.getV hy
            have hk1 := (List.getElem?_eq_some_iff.mp ex).1
            have hk2 := (List.getElem?_eq_some_iff.mp ey).1
            have gn := Gro.new (o := .tup [x, y]) k2 hT
            have gg := g2.trans gn
            have n1 : p ≠ T := fun z => by rw [z, hT] at h1; cases h1
            have n2 : p' ≠ T := fun z => by rw [z, hT] at h2; cases h2
            have hz := zipD_at ex ey
            refine ⟨by omega, ⟨t2.as, upd t2.f T (.tup [x, y]), upd t2.h T (.tup [x, y])⟩, rfl, gg, k2.grow hT, (upd_ne n1).trans h1, (upd_ne n2).trans h2, ?_⟩
            have : (zipD l m).take (k + 1) = (zipD l m).take k ++ [.tup [dx, dy]] := by
              rw [List.take_add_one, hz]; rfl
            rw [this]
            exact (ia.up gn.a gn.f).append (.one (.tup (SqT.of upd_same) (.cons (ix.up gg.a gg.f) (.cons (iy.up gg.a gg.f) .nil))))
          · rintro acc H S ⟨_, t2, rfl, g2, k2, h1, h2, ia⟩ hS
            have g02 := g1.trans g2
            have hS0 : t0.h S = none := by
              cases q : t0.h S with
              | none => rfl
              | some o =>
                by_cases i : S ∈ t0.as
                · exact absurd (g02.a.mem i) (k2.new hS)
                · rw [g02.h S o q i] at hS; cases hS
            have hf : t2.f S = none := k2.sf.free hS
            have ha : S ∉ t2.as := k2.new hS
            rw [List.take_of_length_le (by rw [zipD_len]; exact Nat.le_refl _)] at ia
            exact post ⟨t2.as, t2.f, upd t2.h S (.lst acc)⟩ (.ref S) (g02.chg hS0 hf) (k2.chg hf ha) ⟨S, acc, _, rfl, rfl, upd_same, ia, ha, hS0, hf⟩
@[simp] theorem e_dLz {f : En → AR} {E : En} : dLz f E = match f E with
  | .ok _ [a, b] st => ofOpt (lstOf st a) fun l => ofOpt (lstOf st b) fun m => if min l.length m.length ≤ 1000000 then .val .N (.lst (zipD l m)) st else .bad
  | .exc c l st => .exc c l st
  | _ => .bad := rfl
@[simp] theorem lstOf_lst {st : Sto} {l : List D} : lstOf st (.lst l) = some l := rfl
@[simp] theorem lstOf_ptr {st : Sto} {n : Nat} : lstOf st (.ptr n) = stLst st n := rfl
end
theorem FldOk.sw {G G' : Gm} {f : Str} {ix : Nat → Option Nat} (h : FldOk G f ix) (eK : G'.K = G.K := by rfl) (ec : G'.ca = G.ca := by rfl) (ef : G'.fn = G.fn := by rfl) : FldOk G' f ix := ⟨fun c i q => by rw [eK, ec, ef]; exact h.ok c i q⟩
@[simp] theorem e_dLcX {f : En → ER} {t : D → DE → Option DE} {c g : En → ER} {vs : List Nat} {E : En} : dLcX f t c g vs E = match f E with
  | .val _ (.ptr n) st => (match stLst st n with
    | some l => if l.length ≤ 1000000 then ofOpt (lcGoC (fun st => stLst st n = some l) (lcStep t c g (wipeE E.e vs)) l st) fun r => .val .N (.lst r.1) r.2 else .bad
    | none => .bad)
  | _ => dLc (dIter f) t c g vs E := rfl
theorem ps_fldK {X : Cx} {K : PySem.W.Frag} {o value : Expr} {ta tv : TE} {f : Str} {pos pos' : Pos} (hK : X.K = K) (ha : PE X o ta) (hv : PE X value tv) (hs : swapsWith value (some (.Attribute o f pos')) pos.line X.env = pure false) : PS X (.Assign [.Attribute o f pos'] value pos) (sFld K ta tv f) := by
  subst hK
  exact ps_fld ha hv hs
theorem pi_anyK {X : Cx} {K : PySem.W.Frag} {tg e : Expr} {te : TE} (hK : X.K = K) (he : PE X e te) : PI X tg e (iAny K te) := by
  subst hK
  exact pi_any he
end Dn
namespace Dn
open PySem PySem.Spec PyProof.Rows L2
/-! ### numbers -/
theorem log2_lt {n k : Nat} (hk : 0 < k) (h : n < 2 ^ k) : n.log2 < k := by
  by_cases z : n = 0
  · subst z; simpa using hk
  · exact (Nat.log2_lt z).mpr h
theorem log2_mono {n m k : Nat} (hk : m.log2 < k) (h : n ≤ m) : n.log2 < k := by
  by_cases z : n = 0
  · subst z
    have : Nat.log2 0 = 0 := by decide
    omega
  · exact (Nat.log2_lt z).mpr (Nat.lt_of_le_of_lt h (by
      by_cases zm : m = 0
      · omega
      · exact (Nat.log2_lt zm).mp hk))
theorem mul_ok {i j : Int} {a b : Nat} (ha : i.natAbs < 2 ^ a) (hb : j.natAbs < 2 ^ b) (h : a + b ≤ 1000000) (h0 : 0 < a) (h1 : 0 < b) : i.natAbs.log2 + j.natAbs.log2 < 1000000 := by
  have := log2_lt h0 ha
  have := log2_lt h1 hb
  omega
/-- a product of numbers below 2 ^ 400000 -/
theorem mulB {i j : Int} (ha : i.natAbs < 2 ^ 400000) (hb : j.natAbs < 2 ^ 400000) : i.natAbs.log2 + j.natAbs.log2 < 1000000 := by
  have := log2_lt (by decide) ha
  have := log2_lt (by decide) hb
  omega
/-! ### while -/
theorem e_wh {c : En → ER} {b : En → SR} {n : Nat} {e : DE} {st st1 : Sto} {m : Md} {x : Bool} (h : c ⟨e, st⟩ = .val m (.bl x) st1) : whN c b (n + 1) ⟨e, st⟩ = if x = true then (match b ⟨e, st1⟩ with
      | .nx e' => whN c b n e'
      | .ct e' => whN c b n e'
      | .bk e' => some (.nx e')
      | r => some r) else some (.nx ⟨e, st1⟩) := by
  rw [whN]
  rw [h]
  cases x <;> rfl
/-! ### draws in their ranges -/
def InR : List Int → List Int → Prop
  | [], [] => True
  | a :: l, b :: s => (0 ≤ a ∧ a < b) ∧ InR l s
  | _, _ => False
theorem InR.cons {l s : List Int} {b : Int} (h : InR l (b :: s)) : ∃ a l', l = a :: l' ∧ 0 ≤ a ∧ a < b ∧ InR l' s := by
  cases l with
  | nil => exact h.elim
  | cons a l => exact ⟨a, l, rfl, h.1.1, h.1.2, h.2⟩
theorem InR.nil {l : List Int} (h : InR l []) : l = [] := by
  cases l with
  | nil => rfl
  | cons a l => exact h.elim
theorem InR.len : ∀ {l s : List Int}, InR l s → l.length = s.length
  | [], [], _ => rfl
  | a :: l, b :: s, h => congrArg Nat.succ (InR.len h.2)
  | [], _ :: _, h => h.elim
  | _ :: _, [], h => h.elim
/-! ### the greatest divisor -/
theorem gcd_wh (st : Sto) : ∀ (b a : Nat), ∃ n, whN (dOp oGt (dVar 1) (dC (.int 0))) (sPar 0 1 (aCons (dVar 1) (aCons (dOp oMod (dVar 0) (dVar 1)) aNil))) n ⟨[.val (.int a), .val (.int b)], st⟩ = some (.nx ⟨[.val (.int (Nat.gcd a b)), .val (.int 0)], st⟩) := by
  intro b
  induction b using Nat.strongRecOn with
  | ind b ih =>
    intro a
    by_cases hb : b = 0
    · subst hb
      refine ⟨1, ?_⟩
      rw [e_wh (x := false) (m := .P) (st1 := st) (by simp)]
      simp
    · obtain ⟨n, hn⟩ := ih (a % b) (Nat.mod_lt _ (Nat.pos_of_ne_zero hb)) b
      refine ⟨n + 1, ?_⟩
      rw [e_wh (x := true) (m := .P) (st1 := st) (by simp; omega)]
      have hm : (a : Int).fmod (b : Int) = ((a % b : Nat) : Int) := by
        rw [Int.fmod_eq_emod_of_nonneg _ (Int.natCast_nonneg b)]
        rfl
      have hb' : ¬ (b : Int) = 0 := by omega
      simp only [if_true, e_sPar, e_aCons, e_aNil, e_dVar, e_dOp, List.getElem?_cons_succ, List.getElem?_cons_zero, ER.bind_val, e_oMod_1, cons_P, acons_ok, ne_eq, hb', not_false_eq_true, Bool.and_self, List.set_cons_zero, List.set_cons_succ, hm]
      rw [hn]
      have : Nat.gcd a b = Nat.gcd b (a % b) := by
        rw [Nat.gcd_comm a b, Nat.gcd_rec b a, Nat.gcd_comm]
      rw [this]
theorem gcd_while (a b : Nat) (st : Sto) : sWhile (dOp oGt (dVar 1) (dC (.int 0))) (sPar 0 1 (aCons (dVar 1) (aCons (dOp oMod (dVar 0) (dVar 1)) aNil))) ⟨[.val (.int a), .val (.int b)], st⟩ = .nx ⟨[.val (.int (Nat.gcd a b)), .val (.int 0)], st⟩ := by
  obtain ⟨n, h⟩ := gcd_wh st b a
  exact sWhile_eq h
theorem absI (a : Int) : (if a < 0 then -a else a) = ((a.natAbs : Nat) : Int) := by split <;> omega
end Dn
namespace Dn
open PySem PySem.Spec PyProof.Rows L2
/-! ### fractions are rationals -/
def dF (q : Rat) : D := .tup [.int q.num, .int q.den]
theorem bit_mul {x y : Int} {m n : Nat} (h1 : x.natAbs < 2 ^ m) (h2 : y.natAbs < 2 ^ n) : (x * y).natAbs < 2 ^ (m + n) := by
  rw [Int.natAbs_mul, Nat.pow_add]
  exact Nat.mul_lt_mul_of_lt_of_lt h1 h2
theorem bit_up {x : Int} {m n : Nat} (h1 : x.natAbs < 2 ^ m) (h : m ≤ n) : x.natAbs < 2 ^ n := Nat.lt_of_lt_of_le h1 (Nat.pow_le_pow_right (by decide) h)
theorem bit_add {x y : Int} {m n : Nat} (h1 : x.natAbs < 2 ^ m) (h2 : y.natAbs < 2 ^ n) : (x + y).natAbs < 2 ^ (max m n + 1) := by
  have a := bit_up h1 (Nat.le_max_left m n)
  have b := bit_up h2 (Nat.le_max_right m n)
  rw [Nat.pow_succ]; omega
theorem bit_sub {x y : Int} {m n : Nat} (h1 : x.natAbs < 2 ^ m) (h2 : y.natAbs < 2 ^ n) : (x - y).natAbs < 2 ^ (max m n + 1) := by
  have a := bit_up h1 (Nat.le_max_left m n)
  have b := bit_up h2 (Nat.le_max_right m n)
  rw [Nat.pow_succ]; omega
theorem bit_log {x : Int} {m n : Nat} (h1 : x.natAbs < 2 ^ m) (h : m < n) : x.natAbs.log2 < n := by
  by_cases z : x.natAbs = 0
  · rw [z]
    have : Nat.log2 0 = 0 := by decide
    omega
  · exact (Nat.log2_lt z).mpr (Nat.lt_of_lt_of_le h1 (Nat.pow_le_pow_right (by decide) (by omega)))
theorem bit_log2 {x y : Int} {m n : Nat} (h1 : x.natAbs < 2 ^ m) (h2 : y.natAbs < 2 ^ n) (h : m + n + 2 ≤ 1000000) : x.natAbs.log2 + y.natAbs.log2 < 1000000 := by
  have := bit_log h1 (Nat.lt_succ_self m)
  have := bit_log h2 (Nat.lt_succ_self n)
  omega
/-! #### the number by which top and bottom are divided -/
theorem low_num (t b : Int) (hb : b ≠ 0) : t.fdiv (if b < 0 then -(Int.gcd t b : Int) else (Int.gcd t b : Int)) = (Rat.divInt t b).num ∧ b.fdiv (if b < 0 then -(Int.gcd t b : Int) else (Int.gcd t b : Int)) = ((Rat.divInt t b).den : Int) := by
  have hg : Int.gcd t b ≠ 0 := fun h => hb (Int.gcd_eq_zero_iff.mp h).2
  obtain ⟨q, hq⟩ := Int.gcd_dvd_left (a := t) (b := b)
  obtain ⟨r, hr⟩ := Int.gcd_dvd_right (a := t) (b := b)
  rw [Rat.num_divInt, Rat.den_divInt, if_neg hb, Int.gcd_comm b t]
  generalize Int.gcd t b = g at *
  have hg' : (g : Int) ≠ 0 := by omega
  have hgn : 0 < g := by omega
  subst hq
  have hr0 : r ≠ 0 := fun z => hb (by rw [hr, z]; simp)
  have hrn : (b.natAbs / g : Nat) = r.natAbs := by rw [hr, Int.natAbs_mul]; simp [Nat.mul_div_cancel_left _ hgn]
  rw [hrn]
  by_cases hn : b < 0
  · have rn : r < 0 := by
      by_cases z : r < 0
      · exact z
      · have := Int.mul_nonneg (show (0 : Int) ≤ g by omega) (show 0 ≤ r by omega)
        omega
    rw [if_pos hn, Int.sign_eq_neg_one_of_neg hn, hr]
    constructor
    · rw [show (g : Int) * q = -(g : Int) * (-q) by grind, Int.mul_fdiv_cancel_left _ (by omega)]
      rw [show -1 * (-(g : Int) * -q) = (g : Int) * (-q) by grind, Int.mul_ediv_cancel_left _ hg']
    · rw [show (g : Int) * r = -(g : Int) * (-r) by grind, Int.mul_fdiv_cancel_left _ (by omega)]
      omega
  · have rn : 0 < r := by
      by_cases z : 0 < r
      · exact z
      · have := Int.mul_nonpos_of_nonneg_of_nonpos (show (0 : Int) ≤ g by omega) (show r ≤ 0 by omega)
        omega
    rw [if_neg hn, Int.sign_eq_one_of_pos (by omega), hr]
    constructor
    · rw [Int.mul_fdiv_cancel_left _ hg', Int.one_mul, Int.mul_ediv_cancel_left _ hg']
    · rw [Int.mul_fdiv_cancel_left _ hg']
      omega
theorem sgd_log {t b : Int} (hb : b ≠ 0) {k : Nat} (h : b.natAbs.log2 < k) : ¬ Int.gcd t b = 0 ∧ (Int.gcd t b).log2 < k := by
  have h1 : Int.gcd t b ≤ b.natAbs := Nat.le_of_dvd (by omega) (Int.gcd_dvd_natAbs_right t b)
  exact ⟨fun h => hb (Int.gcd_eq_zero_iff.mp h).2, log2_mono h h1⟩
/-! #### sizes -/
def Sz (n : Nat) (q : Rat) : Prop := q.num.natAbs < 2 ^ n ∧ q.den < 2 ^ n
theorem Sz.up {m n : Nat} {q : Rat} (h : Sz m q) (k : m ≤ n) : Sz n q := ⟨bit_up h.1 k, Nat.lt_of_lt_of_le h.2 (Nat.pow_le_pow_right (by decide) k)⟩
theorem Sz.den {n : Nat} {q : Rat} (h : Sz n q) : (q.den : Int).natAbs < 2 ^ n := by simpa using h.2
theorem Sz.mk {n : Nat} {t b : Int} (h1 : t.natAbs < 2 ^ n) (h2 : b.natAbs < 2 ^ n) (hb : b ≠ 0) : Sz n (Rat.divInt t b) := by
  refine ⟨?_, ?_⟩
  · rw [Rat.num_divInt]
    refine Nat.lt_of_le_of_lt ?_ h1
    have : (b.sign * t / ((b.gcd t : Nat) : Int)).natAbs ≤ (b.sign * t).natAbs := Int.natAbs_ediv_le_natAbs _ _
    refine Nat.le_trans this ?_
    rw [Int.natAbs_mul]
    have : b.sign.natAbs ≤ 1 := by
      rcases Int.lt_trichotomy b 0 with z | z | z
      · rw [Int.sign_eq_neg_one_of_neg z]; decide
      · exact absurd z hb
      · rw [Int.sign_eq_one_of_pos z]; decide
    calc b.sign.natAbs * t.natAbs ≤ 1 * t.natAbs := Nat.mul_le_mul_right _ this
      _ = t.natAbs := Nat.one_mul _
  · rw [Rat.den_divInt, if_neg hb]
    exact Nat.lt_of_le_of_lt (Nat.div_le_self _ _) h2
theorem den_pos (q : Rat) : 0 < (q.den : Int) := by have := q.den_nz; omega
theorem q_eq (q : Rat) : q = Rat.divInt q.num q.den := (Rat.num_divInt_den q).symm
theorem q_add (a b : Rat) : a + b = Rat.divInt (a.num * b.den + b.num * a.den) (a.den * b.den) := by
  conv => lhs; rw [q_eq a, q_eq b]
  rw [Rat.divInt_add_divInt _ _ (by have := den_pos a; omega) (by have := den_pos b; omega)]
theorem q_sub (a b : Rat) : a - b = Rat.divInt (a.num * b.den - b.num * a.den) (a.den * b.den) := by
  conv => lhs; rw [q_eq a, q_eq b]
  rw [Rat.divInt_sub_divInt _ _ (by have := den_pos a; omega) (by have := den_pos b; omega)]
theorem q_mul (a b : Rat) : a * b = Rat.divInt (a.num * b.num) (a.den * b.den) := by
  conv => lhs; rw [q_eq a, q_eq b]
  rw [Rat.divInt_mul_divInt]
theorem q_div (a b : Rat) : a / b = Rat.divInt (a.num * b.den) (a.den * b.num) := by
  conv => lhs; rw [q_eq a, q_eq b]
  rw [Rat.div_def, Rat.inv_divInt, Rat.divInt_mul_divInt]
theorem den2 (a b : Rat) : (a.den : Int) * b.den ≠ 0 := Int.mul_ne_zero (by have := den_pos a; omega) (by have := den_pos b; omega)
theorem Sz.add {m n : Nat} {a b : Rat} (h : Sz m a) (k : Sz n b) : Sz (m + n + 1) (a + b) := by
  rw [q_add]
  have x := bit_mul h.1 k.den
  have y := bit_mul k.1 h.den
  rw [Nat.add_comm n m] at y
  have z := bit_add x y
  rw [Nat.max_self] at z
  exact Sz.mk z (bit_up (bit_mul h.den k.den) (by omega)) (den2 a b)
theorem Sz.sub {m n : Nat} {a b : Rat} (h : Sz m a) (k : Sz n b) : Sz (m + n + 1) (a - b) := by
  rw [q_sub]
  have x := bit_mul h.1 k.den
  have y := bit_mul k.1 h.den
  rw [Nat.add_comm n m] at y
  have z := bit_sub x y
  rw [Nat.max_self] at z
  exact Sz.mk z (bit_up (bit_mul h.den k.den) (by omega)) (den2 a b)
theorem Sz.mul {m n : Nat} {a b : Rat} (h : Sz m a) (k : Sz n b) : Sz (m + n) (a * b) := by
  rw [q_mul]
  exact Sz.mk (bit_mul h.1 k.1) (bit_mul h.den k.den) (den2 a b)
theorem num_ne {b : Rat} (h : b ≠ 0) : b.num ≠ 0 := fun z => h (Rat.num_eq_zero.mp z)
theorem Sz.div {m n : Nat} {a b : Rat} (h : Sz m a) (k : Sz n b) (hb : b ≠ 0) : Sz (m + n) (a / b) := by
  rw [q_div]
  exact Sz.mk (bit_mul h.1 k.den) (bit_mul h.den k.1) (Int.mul_ne_zero (by have := den_pos a; omega) (num_ne hb))
theorem Sz.neg {m : Nat} {a : Rat} (h : Sz m a) : Sz m (-a) := ⟨by simpa using h.1, by simpa using h.2⟩
theorem two_pow_gt (n : Nat) : 1 < 2 ^ (n + 1) := by have := Nat.one_le_two_pow (n := n); rw [Nat.pow_succ]; omega
theorem Sz.int {m : Nat} {a : Int} (h : a.natAbs < 2 ^ m) : Sz (m + 1) (a : Rat) := ⟨bit_up (m := m) (by simpa using h) (by omega), by simpa using two_pow_gt m⟩
theorem sz0 {n : Nat} : Sz (n + 1) 0 := ⟨by simp [Nat.two_pow_pos], by simpa using two_pow_gt n⟩
theorem sz1 {n : Nat} : Sz (n + 1) 1 := ⟨by simpa using two_pow_gt n, by simpa using two_pow_gt n⟩
/-! #### how simp runs them -/
@[simp] theorem dF_0 : D.tup [.int 0, .int 1] = dF 0 := rfl
@[simp] theorem dF_1 : D.tup [.int 1, .int 1] = dF 1 := rfl
theorem dF_int (w : Int) : D.tup [.int w, .int 1] = dF (w : Rat) := rfl
theorem dF_neg (q : Rat) : D.tup [.int (-q.num), .int q.den] = dF (-q) := rfl
@[simp] theorem ix0_dF {q : Rat} {st : Sto} : oIx (dF q) (.int 0) st = .val .P (.int q.num) st := by simp [dF, atI, ixN]
@[simp] theorem ix1_dF {q : Rat} {st : Sto} : oIx (dF q) (.int 1) st = .val .P (.int q.den) st := by simp [dF, atI, ixN]
@[simp] theorem len_dF {q : Rat} {st : Sto} : oLen [dF q] st = .val .P (.int 2) st := rfl
@[simp] theorem items_dF {q : Rat} : itemsOf (dF q) = some [.int q.num, .int q.den] := rfl
@[simp] theorem tup_dF {q : Rat} {st : Sto} : isT "tuple" (dF q) st = .val .P (.bl true) st := by simp [dF]
theorem dF_inj {a b : Rat} : dF a = dF b ↔ a = b := by
  constructor
  · intro h
    unfold dF at h
    injection h with h
    injection h with h1 h2
    injection h2 with h2 h3
    injection h1 with h1
    injection h2 with h2
    exact Rat.ext h1 (by omega)
  · rintro rfl; rfl
theorem q_eq_iff (a b : Rat) : a = b ↔ a.num = b.num ∧ a.den = b.den := ⟨fun h => by subst h; exact ⟨rfl, rfl⟩, fun h => Rat.ext h.1 h.2⟩
@[simp] theorem eq_dF {a b : Rat} {st : Sto} : oEq (dF a) (dF b) st = .val .P (.bl (decide (a = b))) st := by
  have : decide (a = b) = decide (a.num = b.num ∧ (a.den : Int) = b.den) := by
    rw [decide_eq_decide, q_eq_iff]
    omega
  rw [this]
  simp [dF]
@[simp] theorem ne_dF {a b : Rat} {st : Sto} : oNe (dF a) (dF b) st = .val .P (.bl (!decide (a = b))) st := by
  have : decide (a = b) = decide (a.num = b.num ∧ (a.den : Int) = b.den) := by
    rw [decide_eq_decide, q_eq_iff]
    omega
  rw [this]
  simp [dF]
theorem lt_num (a b : Rat) : a.num * b.den < b.num * a.den ↔ a < b := (Rat.lt_iff a b).symm
end Dn
namespace Dn
open PySem PySem.Spec PyProof.Rows L2
/-! ### loops and comprehensions -/
/-- a loop that goes on to its end -/
theorem for_inv {b : D → En → SR} (I : Nat → En → Prop) : ∀ (xs : List D) (k : Nat) (E : En), (∀ i x E, xs[i]? = some x → I (k + i) E → ∃ E', (b x E = .nx E' ∨ b x E = .ct E') ∧ I (k + i + 1) E') → I k E → ∃ E', forD b xs E = .nx E' ∧ I (k + xs.length) E'
  | [], k, E, _, h => ⟨E, rfl, h⟩
  | x :: xs, k, E, hb, h => by
    obtain ⟨E1, h1, h2⟩ := hb 0 x E rfl h
    obtain ⟨E2, h3, h4⟩ := for_inv I xs (k + 1) E1 (fun i y E hy hI => by
      have := hb (i + 1) y E (by simpa using hy) (by rw [show k + (i + 1) = k + 1 + i by omega]; exact hI)
      rw [show k + 1 + i + 1 = k + (i + 1) + 1 by omega]
      exact this) h2
    refine ⟨E2, ?_, by rw [List.length_cons, show k + (xs.length + 1) = k + 1 + xs.length by omega]; exact h4⟩
    rcases h1 with h1 | h1 <;> simp only [e_forC, h1, h3]
/-- a loop over data of one kind that goes on to its end -/
theorem for_map {α : Type} {b : D → En → SR} {enc : α → D} (I : List α → En → Prop) (xs : List α) : ∀ (done : List α) (ys : List α) (E : En), xs = done ++ ys → (∀ done a ys E, xs = done ++ a :: ys → I done E → ∃ E', (b (enc a) E = .nx E' ∨ b (enc a) E = .ct E') ∧ I (done ++ [a]) E') → I done E → ∃ E', forD b (ys.map enc) E = .nx E' ∧ I xs E'
  | done, [], E, e, _, h => ⟨E, rfl, by rw [e, List.append_nil]; exact h⟩
  | done, a :: ys, E, e, hb, h => by
    obtain ⟨E1, h1, h2⟩ := hb done a ys E e h
    obtain ⟨E2, h3, h4⟩ := for_map I xs (done ++ [a]) ys E1 (by rw [e]; simp) hb h2
    refine ⟨E2, ?_, h4⟩
    rcases h1 with h1 | h1 <;> simp only [List.map_cons, e_forC, h1, h3]
theorem lc_map {α : Type} {k : D → Sto → Option (Option D × Sto)} {enc f : α → D} {st : Sto} : ∀ {l : List α}, (∀ a ∈ l, k (enc a) st = some (some (f a), st)) → lcGo k (l.map enc) st = some (l.map f, st)
  | [], _ => rfl
  | a :: l, h => by
    rw [List.map_cons, e_lcC, h a (List.mem_cons_self ..), Option.bind_some, lc_map (fun a m => h a (List.mem_cons_of_mem _ m))]
    rfl
theorem lc_filter {α : Type} {k : D → Sto → Option (Option D × Sto)} {enc f : α → D} {p : α → Bool} {st : Sto} : ∀ {l : List α}, (∀ a ∈ l, k (enc a) st = some (if p a = true then some (f a) else none, st)) → lcGo k (l.map enc) st = some ((l.filter p).map f, st)
  | [], _ => rfl
  | a :: l, h => by
    rw [List.map_cons, e_lcC, h a (List.mem_cons_self ..), Option.bind_some, lc_filter (fun a m => h a (List.mem_cons_of_mem _ m))]
    cases q : p a <;> simp [q, List.filter_cons]
@[simp] theorem intsOf_map {α : Type} (f : α → Int) : ∀ l : List α, intsOf (l.map fun a => .int (f a)) = some (l.map f)
  | [] => rfl
  | a :: l => by simp [intsOf, intsOf_map f l]
/-! ### equality of encoded lists -/
mutual
/-- data without truths -/
def pur : D → Bool
  | .non | .int _ => true
  | .str x => PyData.strOk x
  | .tup l => purL l
  | .lst l => purL l
  | _ => false
def purL : List D → Bool
  | [] => true
  | d :: l => pur d && purL l
end
mutual
def dep : D → Nat
  | .tup l => depL l + 1
  | .lst l => depL l + 1
  | _ => 0
def depL : List D → Nat
  | [] => 0
  | d :: l => max (dep d) (depL l)
end
mutual
theorem pur_py : ∀ d, pur d = true → isPy d = true ∧ PyData.canLay0 (py d) = true ∧ PyData.depth (py d) = dep d
  | .non, _ => ⟨rfl, by simp [py, PyData.canLay0], by simp [py, PyData.depth, dep]⟩
  | .int _, _ => ⟨rfl, by simp [py, PyData.canLay0], by simp [py, PyData.depth, dep]⟩
  | .str _, h => ⟨rfl, by simpa [py, PyData.canLay0, pur] using h, by simp [py, PyData.depth, dep]⟩
  | .tup l, h => by
    obtain ⟨a, b, c⟩ := purL_py l (by simpa [pur] using h)
    exact ⟨by simpa [isPy] using a, by simpa [py, PyData.canLay0] using b, by simp [py, PyData.depth, dep, c]⟩
  | .lst l, h => by
    obtain ⟨a, b, c⟩ := purL_py l (by simpa [pur] using h)
    exact ⟨by simpa [isPy] using a, by simpa [py, PyData.canLay0] using b, by simp [py, PyData.depth, dep, c]⟩
  | .bl _, h => by simp [pur] at h
  | .obj _ _, h => by simp [pur] at h
  | .scr _, h => by simp [pur] at h
  | .ptr _, h => by simp [pur] at h
theorem purL_py : ∀ l, purL l = true → isPyL l = true ∧ PyData.canLayAll0 (pyL l) = true ∧ PyData.depthAll (pyL l) = depL l
  | [], _ => ⟨rfl, by simp [pyL, PyData.canLayAll0], by simp [pyL, PyData.depthAll, depL]⟩
  | d :: l, h => by
    have h' : pur d = true ∧ purL l = true := by simpa [purL] using h
    obtain ⟨a, b, c⟩ := pur_py d h'.1
    obtain ⟨a', b', c'⟩ := purL_py l h'.2
    exact ⟨by simp [isPyL, a, a'], by simp [pyL, PyData.canLayAll0, b, b'], by simp [pyL, PyData.depthAll, depL, c, c']⟩
end
mutual
theorem eqv_pur : ∀ a b, pur a = true → pur b = true → (PyData.eqv (py a) (py b) = true ↔ a = b)
  | .non, b, _, hb => by cases b <;> simp [py, PyData.eqv, pur] at hb ⊢
  | .int _, b, _, hb => by cases b <;> simp [py, PyData.eqv, pur] at hb ⊢
  | .str _, b, _, hb => by cases b <;> simp [py, PyData.eqv, pur] at hb ⊢
  | .tup l, b, ha, hb => by
    cases b <;> simp [py, PyData.eqv, pur] at ha hb ⊢
    exact eqvL_pur _ _ ha hb
  | .lst l, b, ha, hb => by
    cases b <;> simp [py, PyData.eqv, pur] at ha hb ⊢
    exact eqvL_pur _ _ ha hb
  | .bl _, _, h, _ => by simp [pur] at h
  | .obj _ _, _, h, _ => by simp [pur] at h
  | .scr _, _, h, _ => by simp [pur] at h
  | .ptr _, _, h, _ => by simp [pur] at h
theorem eqvL_pur : ∀ l m, purL l = true → purL m = true → (PyData.eqvAll (pyL l) (pyL m) = true ↔ l = m)
  | [], [], _, _ => by simp [pyL, PyData.eqvAll]
  | [], _ :: _, _, _ => by simp [pyL, PyData.eqvAll]
  | _ :: _, [], _, _ => by simp [pyL, PyData.eqvAll]
  | a :: l, b :: m, ha, hb => by
    have h1 : pur a = true ∧ purL l = true := by simpa [purL] using ha
    have h2 : pur b = true ∧ purL m = true := by simpa [purL] using hb
    simp only [pyL, PyData.eqvAll, Bool.and_eq_true, eqv_pur a b h1.1 h2.1, eqvL_pur l m h1.2 h2.2, List.cons.injEq]
end
theorem eq_of {a b : D} {p : Prop} [Decidable p] (st : Sto) (ha : pur a = true) (hb : pur b = true) (da : dep a ≤ 64) (db : dep b ≤ 64) (h : a = b ↔ p) : oEq a b st = .val .P (.bl (decide p)) st := by
  obtain ⟨a1, a2, a3⟩ := pur_py a ha
  obtain ⟨b1, b2, b3⟩ := pur_py b hb
  have e := (eqv_pur a b ha hb).trans h
  unfold oEq eqAny
  by_cases s : scalD a b = true
  · rw [if_pos s]
    have : eqF a b = decide p := by
      rw [Bool.eq_iff_iff, decide_eq_true_iff, ← h]
      cases a <;> cases b <;> simp [scalD, eqF] at s ⊢
    rw [this]
  · rw [if_neg s, if_pos ⟨a1, b1, by simp [SeqAt.shaped, a2, a3, da], by simp [SeqAt.shaped, b2, b3, db]⟩]
    have : PyData.eqv (py a) (py b) = decide p := by
      rw [Bool.eq_iff_iff, decide_eq_true_iff, ← e]
    rw [this]
theorem ne_of {a b : D} {p : Prop} [Decidable p] (st : Sto) (ha : pur a = true) (hb : pur b = true) (da : dep a ≤ 64) (db : dep b ≤ 64) (h : a = b ↔ p) : oNe a b st = .val .P (.bl (!decide p)) st := ne_of_eq (eq_of st ha hb da db h)
theorem purL_map {α : Type} {enc : α → D} (h : ∀ a, pur (enc a) = true) : ∀ l : List α, purL (l.map enc) = true
  | [] => rfl
  | a :: l => by simp [purL, h a, purL_map h l]
theorem depL_map {α : Type} {enc : α → D} {n : Nat} (h : ∀ a, dep (enc a) ≤ n) : ∀ l : List α, depL (l.map enc) ≤ n
  | [] => by simp [depL]
  | a :: l => by have := depL_map h l; have := h a; simp only [List.map_cons, depL]; omega
theorem map_inj {α : Type} {enc : α → D} (h : ∀ a b, enc a = enc b → a = b) : ∀ l m : List α, l.map enc = m.map enc ↔ l = m
  | [], [] => by simp
  | [], _ :: _ => by simp
  | _ :: _, [] => by simp
  | a :: l, b :: m => by
    simp only [List.map_cons, List.cons.injEq, map_inj h l m]
    exact ⟨fun x => ⟨h a b x.1, x.2⟩, fun x => ⟨by rw [x.1], x.2⟩⟩
/-- lists of data of one kind -/
theorem eq_lst {α : Type} [DecidableEq α] {enc : α → D} (hp : ∀ a, pur (enc a) = true) (hd : ∀ a, dep (enc a) ≤ 60) (hi : ∀ a b, enc a = enc b → a = b) (l m : List α) (st : Sto) : oEq (.lst (l.map enc)) (.lst (m.map enc)) st = .val .P (.bl (decide (l = m))) st := by
  refine eq_of st (by simp [pur, purL_map hp]) (by simp [pur, purL_map hp]) ?_ ?_ ?_
  · have := depL_map hd l; simp only [dep]; omega
  · have := depL_map hd m; simp only [dep]; omega
  · simp [map_inj hi]
/-! ### powers of ten -/
@[simp high] theorem pow10_6 {st : Sto} : oPow (.int 10) (.int 6) st = .val .P (.int 1000000) st := rfl
@[simp high] theorem pow10_8 {st : Sto} : oPow (.int 10) (.int 8) st = .val .P (.int 100000000) st := rfl
@[simp high] theorem pow10_9 {st : Sto} : oPow (.int 10) (.int 9) st = .val .P (.int 1000000000) st := rfl
@[simp high] theorem pow10_12 {st : Sto} : oPow (.int 10) (.int 12) st = .val .P (.int 1000000000000) st := rfl
@[simp high] theorem pow10_18 {st : Sto} : oPow (.int 10) (.int 18) st = .val .P (.int 1000000000000000000) st := rfl
@[simp high] theorem pow10_19 {st : Sto} : oPow (.int 10) (.int 19) st = .val .P (.int 10000000000000000000) st := rfl
@[simp high] theorem pow10_20 {st : Sto} : oPow (.int 10) (.int 20) st = .val .P (.int 100000000000000000000) st := rfl
@[simp high] theorem pow10_26 {st : Sto} : oPow (.int 10) (.int 26) st = .val .P (.int 100000000000000000000000000) st := rfl
@[simp high] theorem pow10_30 {st : Sto} : oPow (.int 10) (.int 30) st = .val .P (.int 1000000000000000000000000000000) st := rfl
@[simp high] theorem pow10_36 {st : Sto} : oPow (.int 10) (.int 36) st = .val .P (.int 1000000000000000000000000000000000000) st := rfl
@[simp high] theorem pow10_39 {st : Sto} : oPow (.int 10) (.int 39) st = .val .P (.int 1000000000000000000000000000000000000000) st := rfl
@[simp high] theorem pow10_40 {st : Sto} : oPow (.int 10) (.int 40) st = .val .P (.int 10000000000000000000000000000000000000000) st := rfl
@[simp high] theorem pow10_45 {st : Sto} : oPow (.int 10) (.int 45) st = .val .P (.int 1000000000000000000000000000000000000000000000) st := rfl
@[simp high] theorem pow10_60 {st : Sto} : oPow (.int 10) (.int 60) st = .val .P (.int 1000000000000000000000000000000000000000000000000000000000000) st := rfl
@[simp high] theorem pow10_180 {st : Sto} : oPow (.int 10) (.int 180) st = .val .P (.int 1000000000000000000000000000000000000000000000000000000000000000000000000000000000000000000000000000000000000000000000000000000000000000000000000000000000000000000000000000000000000) st := rfl
/-! ### stretches -/
def dRow (r : Int × Int) : D := .tup [.int r.1, .int r.2]
@[simp] theorem tg_row {e : DE} {i j : Nat} {r : Int × Int} : tgT 2 (tgsCons (tgN i) (tgsCons (tgN j) tgsNil)) (dRow r) e = some ((e.set i (.val (.int r.1))).set j (.val (.int r.2))) := by simp [dRow]
@[simp] theorem ix0_row {r : Int × Int} {st : Sto} : oIx (dRow r) (.int 0) st = .val .P (.int r.1) st := by simp [dRow, atI, ixN]
@[simp] theorem ix1_row {r : Int × Int} {st : Sto} : oIx (dRow r) (.int 1) st = .val .P (.int r.2) st := by simp [dRow, atI, ixN]
theorem dRow_mk (a b : Int) : D.tup [.int a, .int b] = dRow (a, b) := rfl
theorem sz62 {n : Nat} (h : n ≤ 1000000) : -(2 ^ 62) ≤ (n : Int) ∧ (n : Int) < 2 ^ 62 := by constructor <;> omega
theorem dRow_inj (a b : Int × Int) (h : dRow a = dRow b) : a = b := by
  unfold dRow at h
  injection h with h
  injection h with h1 h2
  injection h2 with h2 h3
  injection h1 with h1
  injection h2 with h2
  exact Prod.ext h1 h2
@[simp] theorem eq_rows {l m : List (Int × Int)} {st : Sto} : oEq (.lst (l.map dRow)) (.lst (m.map dRow)) st = .val .P (.bl (decide (l = m))) st :=
  eq_lst (fun a => by simp [dRow, pur, purL]) (fun a => by simp [dRow, dep, depL]) dRow_inj l m st
@[simp] theorem ne_rows {l m : List (Int × Int)} {st : Sto} : oNe (.lst (l.map dRow)) (.lst (m.map dRow)) st = .val .P (.bl (!decide (l = m))) st := ne_of_eq eq_rows
theorem pur_dF (q : Rat) : pur (dF q) = true := by simp [dF, pur, purL]
theorem dep_dF (q : Rat) : dep (dF q) ≤ 1 := by simp [dF, dep, depL]
@[simp] theorem eq_Fs {l m : List Rat} {st : Sto} : oEq (.lst (l.map dF)) (.lst (m.map dF)) st = .val .P (.bl (decide (l = m))) st :=
  eq_lst pur_dF (fun a => by have := dep_dF a; omega) (fun a b => dF_inj.mp) l m st
@[simp] theorem ne_Fs {l m : List Rat} {st : Sto} : oNe (.lst (l.map dF)) (.lst (m.map dF)) st = .val .P (.bl (!decide (l = m))) st := ne_of_eq eq_Fs
end Dn
namespace Dn
open PySem PySem.Spec PyProof.Rows L2
/-! ### sums -/
theorem sum_nonneg {α : Type} {f : α → Int} : ∀ {l : List α}, (∀ r ∈ l, 0 ≤ f r) → 0 ≤ (l.map f).sum
  | [], _ => by simp
  | a :: l, h => by
    have := sum_nonneg (l := l) (fun r m => h r (List.mem_cons_of_mem _ m))
    have := h a (List.mem_cons_self ..)
    simp; omega
theorem sum_pos {α : Type} {f : α → Int} : ∀ {l : List α} {a : α}, (∀ r ∈ l, 0 ≤ f r) → a ∈ l → 0 < f a → 0 < (l.map f).sum
  | b :: l, a, h, m, p => by
    have n := sum_nonneg (l := l) (fun r m => h r (List.mem_cons_of_mem _ m))
    have nb := h b (List.mem_cons_self ..)
    rcases List.mem_cons.mp m with rfl | m
    · simp; omega
    · have := sum_pos (fun r m => h r (List.mem_cons_of_mem _ m)) m p
      simp; omega
theorem sum_le {α : Type} {f : α → Int} {c : Int} : ∀ {l : List α}, (∀ r ∈ l, f r ≤ c) → (l.map f).sum ≤ c * l.length
  | [], _ => by simp
  | a :: l, h => by
    have := sum_le (l := l) (fun r m => h r (List.mem_cons_of_mem _ m))
    have := h a (List.mem_cons_self ..)
    rw [List.map_cons, List.sum_cons, List.length_cons, Int.natCast_add, Int.mul_add]; omega
/-! ### stretches -/
def RowOk (r : Int × Int) : Prop := 1 ≤ r.1 ∧ r.1 ≤ 999 ∧ 0 ≤ r.2 ∧ r.2 ≤ 999999999
def RowsOk (m : Nat) (rows : List (Int × Int)) : Prop := 1 ≤ rows.length ∧ rows.length ≤ m ∧ (∀ r ∈ rows, RowOk r) ∧ (rows.map (·.2)).sum ≠ 0
theorem RowsOk.up {m n : Nat} {rows : List (Int × Int)} (h : RowsOk m rows) (k : m ≤ n) : RowsOk n rows := ⟨h.1, by have := h.2.1; omega, h.2.2⟩
/-- the widths ahead of the stretch i -/
def pre (rows : List (Int × Int)) (i : Nat) : Int := ((rows.take i).map (·.1)).sum
def wid (rows : List (Int × Int)) : Int := (rows.map (·.1)).sum
theorem pre_len (rows : List (Int × Int)) : pre rows rows.length = wid rows := by simp [pre, wid]
theorem pre_zero (rows : List (Int × Int)) : pre rows 0 = 0 := by simp [pre]
theorem pre_succ {rows : List (Int × Int)} {i : Nat} (h : i < rows.length) : pre rows (i + 1) = pre rows i + rows[i].1 := by
  unfold pre
  rw [List.take_succ_eq_append_getElem h, List.map_append, List.sum_append]
  simp
section
variable {rows : List (Int × Int)} (hr : RowsOk 8 rows)
include hr
theorem row_ok {i : Nat} (h : i < rows.length) : RowOk rows[i] := hr.2.2.1 _ (List.getElem_mem h)
theorem wid_pos : 0 < wid rows := by
  have h0 := hr.1
  have : 0 < rows.length := by omega
  have := sum_pos (f := fun r : Int × Int => r.1) (l := rows) (fun r m => by have := (hr.2.2.1 r m).1; omega) (List.getElem_mem this) (by have := (row_ok hr this).1; omega)
  exact this
theorem wid_le : wid rows ≤ 7992 := by
  have := sum_le (f := fun r : Int × Int => r.1) (c := 999) (l := rows) (fun r m => (hr.2.2.1 r m).2.1)
  have := hr.2.1
  unfold wid
  omega
theorem pre_nonneg (i : Nat) : 0 ≤ pre rows i := sum_nonneg fun r m => by have := (hr.2.2.1 r (List.mem_of_mem_take m)).1; omega
theorem pre_mono {i j : Nat} (h : i ≤ j) : pre rows i ≤ pre rows j := by
  induction j with
  | zero => have : i = 0 := by omega
            subst this; omega
  | succ j ih =>
    by_cases z : i = j + 1
    · subst z; omega
    · have := ih (by omega)
      by_cases hj : j < rows.length
      · have := pre_succ hj
        have := (row_ok hr hj).1
        omega
      · have : pre rows (j + 1) = pre rows j := by unfold pre; rw [List.take_of_length_le (by omega), List.take_of_length_le (by omega)]
        omega
theorem pre_le (i : Nat) : pre rows i ≤ wid rows := by
  rw [← pre_len]
  by_cases h : i ≤ rows.length
  · exact pre_mono hr h
  · unfold pre; rw [List.take_of_length_le (by omega), List.take_length]; omega
end
/-- the end i -/
def bq (rows : List (Int × Int)) (i : Nat) : Rat := Rat.divInt (pre rows i) (wid rows)
def bqs (rows : List (Int × Int)) : List Rat := (List.range (rows.length + 1)).map (bq rows)
theorem q_ltP {a b c d : Int} (hb : 0 < b) (hd : 0 < d) : Rat.divInt a b < Rat.divInt c d ↔ a * d < c * b := by
  have hb' : (0 : Rat) < (b : Rat) := Rat.intCast_pos.mpr hb
  have hd' : (0 : Rat) < (d : Rat) := Rat.intCast_pos.mpr hd
  rw [Rat.divInt_eq_div, Rat.divInt_eq_div, Rat.div_lt_iff hb']
  have : (c : Rat) / d * b = (c * b : Int) / d := by
    rw [Rat.intCast_mul]; grind
  rw [this, Rat.lt_div_iff hd', ← Rat.intCast_mul, Rat.intCast_lt_intCast]
theorem cast_ne {d : Int} (hd : d ≠ 0) : (d : Rat) ≠ 0 := fun h => hd (by
  have : (d : Rat) = ((0 : Int) : Rat) := h
  exact Rat.intCast_inj.mp this)
section
variable {rows : List (Int × Int)} (hr : RowsOk 8 rows)
include hr
theorem bq_sz (i : Nat) : Sz 13 (bq rows i) := by
  have h1 := pre_nonneg hr i
  have h2 := pre_le hr i
  have h3 := wid_pos hr
  have h4 := wid_le hr
  exact Sz.mk (by omega) (by omega) (by omega)
theorem bq_zero : bq rows 0 = 0 := by simp [bq, pre_zero]
theorem bq_len : bq rows rows.length = 1 := by
  have h3 := wid_pos hr
  simp only [bq, pre_len]
  exact Rat.divInt_self' (by omega)
theorem bq_lt {i : Nat} (h : i < rows.length) : bq rows i < bq rows (i + 1) := by
  have h3 := wid_pos hr
  have h4 := (row_ok hr h).1
  unfold bq
  rw [q_ltP h3 h3, pre_succ h]
  have := Int.mul_lt_mul_of_pos_right (show pre rows i < pre rows i + rows[i].1 by omega) h3
  exact this
theorem bq_mono {i j : Nat} (h : i ≤ j) : bq rows i ≤ bq rows j := by
  have h3 := wid_pos hr
  rw [← Rat.not_lt]
  unfold bq
  rw [q_ltP h3 h3]
  have := pre_mono hr h
  have := Int.mul_le_mul_of_nonneg_right this (show 0 ≤ wid rows by omega)
  omega
theorem bq_diff {i : Nat} (h : i < rows.length) : bq rows (i + 1) - bq rows i = (rows[i].1 : Rat) / wid rows := by
  have h3 := cast_ne (show wid rows ≠ 0 by have := wid_pos hr; omega)
  unfold bq
  rw [Rat.divInt_eq_div, Rat.divInt_eq_div, pre_succ h, Rat.intCast_add]
  grind
end
/-! ### the worth between two places -/
def lo (x : Rat) (rows : List (Int × Int)) (i : Nat) : Rat := if x < bq rows i then bq rows i else x
def hi (y : Rat) (rows : List (Int × Int)) (i : Nat) : Rat := if bq rows (i + 1) < y then bq rows (i + 1) else y
def vq (rows : List (Int × Int)) (i : Nat) : Rat := (((rows[i]?.map (·.2)).getD 0 : Int) : Rat)
theorem vq_eq {rows : List (Int × Int)} {i : Nat} (h : i < rows.length) : vq rows i = (rows[i].2 : Rat) := by simp [vq, h]
/-- the part of the stretch i between x and y -/
def wseg (x y : Rat) (rows : List (Int × Int)) (i : Nat) : Rat := vq rows i * ((hi y rows i - lo x rows i) / (bq rows (i + 1) - bq rows i))
def seg (x y : Rat) (rows : List (Int × Int)) (i : Nat) : Option (Rat × Rat × Rat) := if lo x rows i < hi y rows i then some (lo x rows i, hi y rows i, wseg x y rows i) else none
def btw (x y : Rat) (rows : List (Int × Int)) (k : Nat) : List (Rat × Rat × Rat) := (List.range k).filterMap (seg x y rows)
def dSeg (s : Rat × Rat × Rat) : D := .tup [dF s.1, dF s.2.1, dF s.2.2]
def sumR (f : Nat → Rat) : Nat → Rat
  | 0 => 0
  | k + 1 => sumR f k + f k
def wpart (x y : Rat) (rows : List (Int × Int)) (i : Nat) : Rat := if lo x rows i < hi y rows i then wseg x y rows i else 0
def wq (x y : Rat) (rows : List (Int × Int)) : Rat := sumR (wpart x y rows) rows.length
theorem btw_succ (x y : Rat) (rows : List (Int × Int)) (k : Nat) : btw x y rows (k + 1) = btw x y rows k ++ (seg x y rows k).toList := by
  unfold btw
  rw [List.range_succ, List.filterMap_append]
  cases h : seg x y rows k <;> simp [h]
def foldS : List (Rat × Rat × Rat) → Rat
  | [] => 0
  | s :: l => s.2.2 + foldS l
theorem foldS_app : ∀ (l m : List (Rat × Rat × Rat)), foldS (l ++ m) = foldS l + foldS m
  | [], m => by simp [foldS, Rat.zero_add]
  | s :: l, m => by simp [foldS, foldS_app l m, Rat.add_assoc]
theorem btw_sum (x y : Rat) (rows : List (Int × Int)) : ∀ k, foldS (btw x y rows k) = sumR (wpart x y rows) k
  | 0 => rfl
  | k + 1 => by
    rw [btw_succ, foldS_app, btw_sum x y rows k]
    show _ = sumR (wpart x y rows) k + wpart x y rows k
    congr 1
    unfold wpart seg
    split <;> simp [foldS, Rat.add_zero]
theorem sz_if {n : Nat} {c : Prop} [Decidable c] {a b : Rat} (ha : Sz n a) (hb : Sz n b) : Sz n (if c then a else b) := by split <;> assumption
section
variable {rows : List (Int × Int)} (hr : RowsOk 8 rows) {x y : Rat} {s : Nat} (hs : 13 ≤ s)
include hr hs
theorem lo_sz (hx : Sz s x) (i : Nat) : Sz s (lo x rows i) := sz_if ((bq_sz hr i).up hs) hx
theorem hi_sz (hy : Sz s y) (i : Nat) : Sz s (hi y rows i) := sz_if ((bq_sz hr (i + 1)).up hs) hy
theorem vq_sz {i : Nat} (h : i < rows.length) : Sz 31 (vq rows i) := by
  rw [vq_eq h]
  have := row_ok hr h
  obtain ⟨_, _, h1, h2⟩ := this
  exact Sz.int (m := 30) (by omega)
theorem bd_ne {i : Nat} (h : i < rows.length) : bq rows (i + 1) - bq rows i ≠ 0 := by
  have := bq_lt hr h
  grind
theorem wseg_sz (hx : Sz s x) (hy : Sz s y) {i : Nat} (h : i < rows.length) : Sz (2 * s + 59) (wseg x y rows i) := by
  have a := (hi_sz hr hs hy i).sub (lo_sz hr hs hx i)
  have b := (bq_sz hr (i + 1)).sub (bq_sz hr i)
  exact ((vq_sz hr hs h).mul (a.div b (bd_ne hr hs h))).up (by omega)
theorem btw_sz (hx : Sz s x) (hy : Sz s y) : ∀ k, k ≤ rows.length → ∀ z ∈ btw x y rows k, Sz s z.1 ∧ Sz s z.2.1 ∧ Sz (2 * s + 59) z.2.2 ∧ z.1 < z.2.1
  | 0, _ => by simp [btw]
  | k + 1, h => by
    intro z hz
    rw [btw_succ] at hz
    rcases List.mem_append.mp hz with m | m
    · exact btw_sz hx hy k (by omega) z m
    · unfold seg at m
      split at m
      · simp at m; subst m
        exact ⟨lo_sz hr hs hx k, hi_sz hr hs hy k, wseg_sz hr hs hx hy (by omega), by assumption⟩
      · simp at m
end
theorem foldS_sz {n : Nat} : ∀ l : List (Rat × Rat × Rat), (∀ z ∈ l, Sz n z.2.2) → Sz (l.length * (n + 1) + 1) (foldS l)
  | [], _ => sz0
  | s :: l, h => by
    have a := h s (List.mem_cons_self ..)
    have b := foldS_sz l (fun z m => h z (List.mem_cons_of_mem _ m))
    refine (a.add b).up ?_
    rw [List.length_cons, Nat.succ_mul]; omega
end Dn
namespace Dn
open PySem PySem.Spec PyProof.Rows L2
/-! ### laws of the worth -/
def ovl (x y a b : Rat) : Rat := if (if x < a then a else x) < (if b < y then b else y) then (if b < y then b else y) - (if x < a then a else x) else 0
theorem ovl_add {x y z a b : Rat} (h1 : x ≤ z) (h2 : z ≤ y) (h : a < b) : ovl x z a b + ovl z y a b = ovl x y a b := by
  unfold ovl
  grind
theorem ovl_nonneg (x y a b : Rat) : 0 ≤ ovl x y a b := by
  unfold ovl
  grind
theorem wpart_ovl (x y : Rat) (rows : List (Int × Int)) (i : Nat) : wpart x y rows i = vq rows i / (bq rows (i + 1) - bq rows i) * ovl x y (bq rows i) (bq rows (i + 1)) := by
  show (if lo x rows i < hi y rows i then vq rows i * ((hi y rows i - lo x rows i) / (bq rows (i + 1) - bq rows i)) else 0) = vq rows i / (bq rows (i + 1) - bq rows i) * (if lo x rows i < hi y rows i then hi y rows i - lo x rows i else 0)
  generalize lo x rows i = a
  generalize hi y rows i = b
  by_cases c : a < b
  · rw [if_pos c, if_pos c, Rat.div_def, Rat.div_def]; grind
  · rw [if_neg c, if_neg c, Rat.mul_zero]
theorem sumR_add (f g : Nat → Rat) : ∀ k, sumR (fun i => f i + g i) k = sumR f k + sumR g k
  | 0 => by simp [sumR, Rat.add_zero]
  | k + 1 => by simp only [sumR, sumR_add f g k]; grind
theorem sumR_congr {f g : Nat → Rat} : ∀ {k : Nat}, (∀ i, i < k → f i = g i) → sumR f k = sumR g k
  | 0, _ => rfl
  | k + 1, h => by simp only [sumR]; rw [sumR_congr (fun i hi => h i (by omega)), h k (by omega)]
theorem sumR_nonneg {f : Nat → Rat} : ∀ {k : Nat}, (∀ i, i < k → 0 ≤ f i) → 0 ≤ sumR f k
  | 0, _ => by simp [sumR]
  | k + 1, h => by simp only [sumR]; exact Rat.add_nonneg (sumR_nonneg fun i hi => h i (by omega)) (h k (by omega))
section
variable {rows : List (Int × Int)} (hr : RowsOk 8 rows)
include hr
theorem vq_nonneg (i : Nat) : 0 ≤ vq rows i := by
  by_cases h : i < rows.length
  · rw [vq_eq h]
    exact Rat.intCast_nonneg.mpr (row_ok hr h).2.2.1
  · simp [vq, h]
theorem wq_add {x y z : Rat} (h1 : x ≤ z) (h2 : z ≤ y) : wq x z rows + wq z y rows = wq x y rows := by
  unfold wq
  rw [← sumR_add]
  refine sumR_congr fun i hi => ?_
  rw [wpart_ovl, wpart_ovl, wpart_ovl, ← ovl_add h1 h2 (bq_lt hr hi)]
  grind
theorem wpart_nonneg (x y : Rat) {i : Nat} (h : i < rows.length) : 0 ≤ wpart x y rows i := by
  rw [wpart_ovl]
  refine Rat.mul_nonneg ?_ (ovl_nonneg ..)
  rw [Rat.div_def]
  refine Rat.mul_nonneg (vq_nonneg hr i) (Rat.le_of_lt (Rat.inv_pos.mpr ?_))
  have := bq_lt hr h
  grind
theorem wq_nonneg (x y : Rat) : 0 ≤ wq x y rows := sumR_nonneg fun i hi => wpart_nonneg hr x y hi
theorem bq_01 (i : Nat) : 0 ≤ bq rows i ∧ bq rows i ≤ 1 := by
  have h0 := pre_nonneg hr i
  have h1 := pre_le hr i
  have hb := wid_pos hr
  refine ⟨Rat.divInt_nonneg h0 (by omega), ?_⟩
  rw [← Rat.not_lt, show (1 : Rat) = Rat.divInt 1 1 from rfl]
  unfold bq
  rw [q_ltP (by decide) hb]
  omega
theorem wpart_all {i : Nat} (h : i < rows.length) : wpart 0 1 rows i = vq rows i := by
  have h1 := bq_lt hr h
  have h2 := (bq_01 hr i).1
  have h3 := (bq_01 hr (i + 1)).2
  rw [wpart_ovl]
  have : ovl 0 1 (bq rows i) (bq rows (i + 1)) = bq rows (i + 1) - bq rows i := by
    unfold ovl
    grind
  rw [this]
  exact Rat.div_mul_cancel (by grind)
end
theorem sumR_vq (rows : List (Int × Int)) : ∀ k, k ≤ rows.length → sumR (vq rows) k = ((((rows.take k).map (·.2)).sum : Int) : Rat)
  | 0, _ => by simp [sumR]
  | k + 1, h => by
    rw [sumR, sumR_vq rows k (by omega), vq_eq (by omega), List.take_succ_eq_append_getElem (by omega), List.map_append, List.sum_append, Rat.intCast_add]
    simp
theorem wq_all {rows : List (Int × Int)} (hr : RowsOk 8 rows) : wq 0 1 rows = (((rows.map (·.2)).sum : Int) : Rat) := by
  unfold wq
  rw [sumR_congr (fun i hi => wpart_all hr hi), sumR_vq rows _ (Nat.le_refl _), List.take_length]
end Dn
namespace Dn
open PySem PySem.Spec PyProof.Rows L2
/-! ### cuts by worth -/
def cutL : List (Rat × Rat × Rat) → Rat → Option Rat
  | [], _ => none
  | s :: l, m => if s.2.2 < m then cutL l (m - s.2.2) else some (s.1 + (m / s.2.2) * (s.2.1 - s.1))
theorem cutL_app : ∀ (l r : List (Rat × Rat × Rat)) (m : Rat), cutL (l ++ r) m = match cutL l m with | some z => some z | none => cutL r (m - foldS l)
  | [], r, m => by simp [cutL, foldS]; congr 1; grind
  | s :: l, r, m => by
    simp only [List.cons_append, cutL, foldS]
    by_cases c : s.2.2 < m
    · rw [if_pos c, if_pos c, cutL_app l r]
      have : m - s.2.2 - foldS l = m - (s.2.2 + foldS l) := by grind
      rw [this]
    · rw [if_neg c, if_neg c]
def zAt (x y : Rat) (rows : List (Int × Int)) (m : Rat) (i : Nat) : Rat := lo x rows i + ((m - sumR (wpart x y rows) i) / wseg x y rows i) * (hi y rows i - lo x rows i)
theorem cut_char (x y : Rat) (rows : List (Int × Int)) (m : Rat) (hm : 0 < m) : ∀ n, (cutL (btw x y rows n) m = none ∧ sumR (wpart x y rows) n < m) ∨ ∃ i, i < n ∧ lo x rows i < hi y rows i ∧ 0 < m - sumR (wpart x y rows) i ∧ m - sumR (wpart x y rows) i ≤ wseg x y rows i ∧ cutL (btw x y rows n) m = some (zAt x y rows m i)
  | 0 => .inl ⟨rfl, by simpa [sumR] using hm⟩
  | n + 1 => by
    rw [btw_succ, cutL_app]
    rcases cut_char x y rows m hm n with ⟨h1, h2⟩ | ⟨i, h1, h2, h3, h4, h5⟩
    · rw [h1, btw_sum]
      show (cutL (seg x y rows n).toList (m - sumR (wpart x y rows) n) = none ∧ sumR (wpart x y rows) n + wpart x y rows n < m) ∨ _
      unfold seg
      by_cases c : lo x rows n < hi y rows n
      · rw [if_pos c]
        have hw : wpart x y rows n = wseg x y rows n := by simp [wpart, c]
        rw [hw]
        by_cases d : wseg x y rows n < m - sumR (wpart x y rows) n
        · left
          simp only [Option.toList, cutL, if_pos d]
          exact ⟨trivial, by grind⟩
        · right
          refine ⟨n, by omega, c, by grind, by grind, ?_⟩
          simp only [Option.toList, cutL, if_neg d]
          rfl
      · rw [if_neg c]
        left
        have hw : wpart x y rows n = 0 := by simp [wpart, c]
        rw [hw]
        exact ⟨rfl, by grind⟩
    · right
      rw [h5]
      exact ⟨i, by omega, h2, h3, h4, rfl⟩
section
variable {rows : List (Int × Int)} (hr : RowsOk 8 rows) {x y m : Rat} {i : Nat} (hi' : i < rows.length) (hlh : lo x rows i < hi y rows i) (h0 : 0 < m - sumR (wpart x y rows) i) (h1 : m - sumR (wpart x y rows) i ≤ wseg x y rows i)
theorem q_frac {r w : Rat} (h0 : 0 < r) (h1 : r ≤ w) : 0 < r / w ∧ r / w ≤ 1 := by
  have hw : 0 < w := by grind
  refine ⟨?_, ?_⟩
  · rw [Rat.div_def]; exact Rat.mul_pos h0 (Rat.inv_pos.mpr hw)
  · rw [← Rat.not_lt, Rat.lt_div_iff hw]; grind
theorem q_step {l h t : Rat} (a : l < h) (t0 : 0 < t) (t1 : t ≤ 1) : l < l + t * (h - l) ∧ l + t * (h - l) ≤ h := by
  have p := Rat.mul_pos t0 (show 0 < h - l by grind)
  have q := Rat.mul_nonneg (show 0 ≤ 1 - t by grind) (show 0 ≤ h - l by grind)
  constructor <;> grind
include hlh h0 h1 in
theorem z_in : lo x rows i < zAt x y rows m i ∧ zAt x y rows m i ≤ hi y rows i := by
  have := q_frac h0 h1
  exact q_step hlh this.1 this.2
theorem lo_ge (x : Rat) (rows : List (Int × Int)) (i : Nat) : x ≤ lo x rows i ∧ bq rows i ≤ lo x rows i := by
  unfold lo; split <;> grind
theorem hi_le (y : Rat) (rows : List (Int × Int)) (i : Nat) : hi y rows i ≤ y ∧ hi y rows i ≤ bq rows (i + 1) := by
  unfold hi; split <;> grind
/-- places within one stretch -/
theorem hi_mid {z : Rat} (hz : z ≤ bq rows (i + 1)) : hi z rows i = z := by
  unfold hi; rw [if_neg]; grind
theorem hi_low {z : Rat} {j : Nat} (hz : bq rows (j + 1) < z) : hi z rows j = bq rows (j + 1) := by
  unfold hi; rw [if_pos hz]
include hr hi' hlh h0 h1 in
theorem part_before {j : Nat} (hj : j < i) : wpart x (zAt x y rows m i) rows j = wpart x y rows j := by
  have z := z_in hlh h0 h1
  have a := lo_ge x rows i
  have b := hi_le y rows i
  have c := bq_mono hr (show j + 1 ≤ i by omega)
  have e1 : hi (zAt x y rows m i) rows j = bq rows (j + 1) := hi_low (by grind)
  have e2 : hi y rows j = bq rows (j + 1) := hi_low (by grind)
  unfold wpart wseg
  rw [e1, e2]
include hr hi' hlh h0 h1 in
theorem part_at : wpart x (zAt x y rows m i) rows i = m - sumR (wpart x y rows) i := by
  have z := z_in hlh h0 h1
  have b := hi_le y rows i
  have e1 : hi (zAt x y rows m i) rows i = zAt x y rows m i := hi_mid (by grind)
  unfold wpart wseg
  rw [e1, if_pos z.1]
  have hw : wseg x y rows i ≠ 0 := by grind
  have e2 : zAt x y rows m i - lo x rows i = ((m - sumR (wpart x y rows) i) / wseg x y rows i) * (hi y rows i - lo x rows i) := by
    unfold zAt; grind
  rw [e2]
  have e3 : wseg x y rows i = vq rows i * ((hi y rows i - lo x rows i) / (bq rows (i + 1) - bq rows i)) := rfl
  have hd : bq rows (i + 1) - bq rows i ≠ 0 := by have := bq_lt hr hi'; grind
  have : ∀ r w v a d : Rat, v * (r / w * a / d) = r / w * (v * (a / d)) := fun r w v a d => by
    rw [Rat.div_def, Rat.div_def, Rat.div_def]; grind
  rw [this, ← e3]
  exact Rat.div_mul_cancel hw
include hr hlh h0 h1 in
theorem part_after (x' : Rat) {j : Nat} (hj : i < j) : wpart x' (zAt x y rows m i) rows j = 0 := by
  have z := z_in hlh h0 h1
  have b := hi_le y rows i
  have c := bq_mono hr (show i + 1 ≤ j by omega)
  have d := lo_ge x' rows j
  have e := hi_le (zAt x y rows m i) rows j
  unfold wpart
  rw [if_neg]
  grind
include hr hi' hlh h0 h1 in
theorem sum_z (k : Nat) : sumR (wpart x (zAt x y rows m i) rows) k = if k ≤ i then sumR (wpart x y rows) k else m := by
  induction k with
  | zero => simp [sumR]
  | succ k ih =>
    simp only [sumR]
    rw [ih]
    by_cases c : k < i
    · rw [if_pos (by omega), if_pos (by omega), part_before hr hi' hlh h0 h1 c]
    · by_cases d : k = i
      · subst d
        rw [if_pos (Nat.le_refl _), if_neg (by omega), part_at hr hi' hlh h0 h1]
        grind
      · rw [if_neg (by omega), if_neg (by omega), part_after hr hlh h0 h1 x (by omega), Rat.add_zero]
include hr hi' hlh h0 h1 in
theorem wq_z : wq x (zAt x y rows m i) rows = m := by
  unfold wq
  rw [sum_z hr hi' hlh h0 h1, if_neg (by omega)]
/-! from the stretch's begin -/
include hr hi' hlh h0 h1 in
theorem sum_lo (k : Nat) : sumR (wpart (lo x rows i) (zAt x y rows m i) rows) k = if k ≤ i then 0 else m - sumR (wpart x y rows) i := by
  have z := z_in hlh h0 h1
  have b := hi_le y rows i
  have a := lo_ge x rows i
  induction k with
  | zero => simp [sumR]
  | succ k ih =>
    simp only [sumR]
    rw [ih]
    by_cases c : k < i
    · rw [if_pos (by omega), if_pos (by omega)]
      have c1 := bq_mono hr (show k + 1 ≤ i by omega)
      have d := lo_ge (lo x rows i) rows k
      have e := hi_le (zAt x y rows m i) rows k
      have : wpart (lo x rows i) (zAt x y rows m i) rows k = 0 := by
        unfold wpart
        rw [if_neg]
        grind
      rw [this, Rat.add_zero]
    · by_cases d : k = i
      · subst d
        rw [if_pos (Nat.le_refl _), if_neg (by omega), Rat.zero_add, ← part_at hr hi' hlh h0 h1]
        have : lo (lo x rows k) rows k = lo x rows k := by
          show (if lo x rows k < bq rows k then bq rows k else lo x rows k) = lo x rows k
          rw [if_neg (Rat.not_lt.mpr a.2)]
        unfold wpart wseg
        rw [this]
      · rw [if_neg (by omega), if_neg (by omega), part_after hr hlh h0 h1 _ (by omega), Rat.add_zero]
/-! the greatest end ahead of z -/
def bnd (x z : Rat) (rows : List (Int × Int)) : Nat → Rat
  | 0 => x
  | k + 1 => if bnd x z rows k < bq rows k ∧ bq rows k < z then bq rows k else bnd x z rows k
theorem bnd_ge (x z : Rat) (rows : List (Int × Int)) : ∀ k, x ≤ bnd x z rows k ∧ ∀ j, j < k → bq rows j < z → bq rows j ≤ bnd x z rows k
  | 0 => ⟨Rat.le_refl, fun j h => by omega⟩
  | k + 1 => by
    obtain ⟨a, b⟩ := bnd_ge x z rows k
    unfold bnd
    refine ⟨by split <;> grind, fun j hj hz => ?_⟩
    by_cases c : j = k
    · subst c; split <;> grind
    · have := b j (by omega) hz
      split <;> grind
theorem bnd_is (x z : Rat) (rows : List (Int × Int)) : ∀ k, bnd x z rows k = x ∨ ∃ j, j < k ∧ bq rows j < z ∧ bnd x z rows k = bq rows j
  | 0 => .inl rfl
  | k + 1 => by
    unfold bnd
    split
    · rename_i c; exact .inr ⟨k, by omega, c.2, rfl⟩
    · rcases bnd_is x z rows k with h | ⟨j, h1, h2, h3⟩
      · exact .inl h
      · exact .inr ⟨j, by omega, h2, h3⟩
include hr hi' hlh h0 h1 in
theorem bnd_lo : bnd x (zAt x y rows m i) rows rows.length = lo x rows i := by
  have z := z_in hlh h0 h1
  have b := hi_le y rows i
  have a := lo_ge x rows i
  obtain ⟨g1, g2⟩ := bnd_ge x (zAt x y rows m i) rows rows.length
  have g3 := g2 i hi' (by grind)
  apply Rat.le_antisymm
  · rcases bnd_is x (zAt x y rows m i) rows rows.length with h | ⟨j, j1, j2, j3⟩
    · rw [h]; exact a.1
    · rw [j3]
      have : j ≤ i := by
        rcases Nat.lt_or_ge i j with c | c
        · have := bq_mono hr (show i + 1 ≤ j by omega)
          grind
        · exact c
      have := bq_mono hr this
      grind
  · unfold lo; split <;> assumption
end
end Dn
namespace Dn
open PySem PySem.Spec PyProof.Rows L2
/-! ### rising rows of places -/
def Ris (l : List Rat) : Prop := l.Pairwise (· < ·)
/-- how many places lie ahead of q -/
def ahead (q : Rat) : List Rat → Nat
  | [] => 0
  | a :: l => if a < q then ahead q l + 1 else 0
def ins (q : Rat) (l : List Rat) : List Rat := if q ∈ l then l else l.take (ahead q l) ++ q :: l.drop (ahead q l)
theorem ahead_le (q : Rat) : ∀ l, ahead q l ≤ l.length
  | [] => Nat.le_refl _
  | a :: l => by unfold ahead; split <;> simp [ahead_le q l]
theorem ahead_lt {q : Rat} : ∀ {l : List Rat} {i : Nat} (h : i < ahead q l) (hl : i < l.length), l[i] < q
  | a :: l, i, h, hl => by
    unfold ahead at h
    split at h
    · rename_i c
      cases i with
      | zero => exact c
      | succ i => exact ahead_lt (l := l) (by omega) (by simpa using hl)
    · omega
theorem ahead_ge {q : Rat} : ∀ {l : List Rat} (h : ahead q l < l.length), ¬ l[ahead q l] < q
  | [], h => by simp at h
  | a :: l, h => by
    by_cases c : a < q
    · have e : ahead q (a :: l) = ahead q l + 1 := by simp [ahead, c]
      have h' : ahead q l < l.length := by rw [e] at h; simpa using h
      have := ahead_ge h'
      simp only [e, List.getElem_cons_succ]
      exact this
    · have e : ahead q (a :: l) = 0 := by simp [ahead, c]
      simp only [e, List.getElem_cons_zero]
      exact c
theorem ris_filter {q : Rat} : ∀ {l : List Rat}, Ris l → (l.filter fun a => decide (a < q)).length = ahead q l
  | [], _ => rfl
  | a :: l, h => by
    have h' := List.pairwise_cons.mp h
    unfold ahead
    by_cases c : a < q
    · rw [if_pos c, List.filter_cons_of_pos (by simpa using c), List.length_cons, ris_filter h'.2]
    · rw [if_neg c, List.filter_cons_of_neg (by simpa using c)]
      have : l.filter (fun a => decide (a < q)) = [] := by
        rw [List.filter_eq_nil_iff]
        intro b hb
        have := h'.1 b hb
        simp
        grind
      rw [this]; rfl
theorem mem_ins {q a : Rat} {l : List Rat} : a ∈ ins q l ↔ a = q ∨ a ∈ l := by
  unfold ins
  split
  · rename_i h
    exact ⟨.inr, fun z => z.elim (fun e => e ▸ h) id⟩
  · rw [List.mem_append, List.mem_cons]
    have : a ∈ l ↔ a ∈ l.take (ahead q l) ∨ a ∈ l.drop (ahead q l) := by
      rw [← List.mem_append, List.take_append_drop]
    rw [this]
    exact ⟨fun z => by rcases z with z | z | z <;> simp [z], fun z => by rcases z with z | z | z <;> simp [z]⟩
theorem ris_take_lt {q : Rat} {l : List Rat} : ∀ a ∈ l.take (ahead q l), a < q := by
  intro a ha
  obtain ⟨i, hi, rfl⟩ := List.mem_iff_getElem.mp ha
  rw [List.getElem_take]
  rw [List.length_take] at hi
  exact ahead_lt (by omega) (by omega)
theorem ris_drop_ge {q : Rat} {l : List Rat} (h : Ris l) (hq : q ∉ l) : ∀ a ∈ l.drop (ahead q l), q < a := by
  intro a ha
  obtain ⟨i, hi, rfl⟩ := List.mem_iff_getElem.mp ha
  rw [List.length_drop] at hi
  rw [List.getElem_drop]
  have h0 := ahead_ge (q := q) (l := l) (by omega)
  have h1 : q ≠ l[ahead q l] := fun e => hq (e ▸ List.getElem_mem _)
  have h2 : q < l[ahead q l] := by grind
  by_cases c : i = 0
  · subst c; simpa using h2
  · have := List.pairwise_iff_getElem.mp h (ahead q l) (ahead q l + i) (by omega) (by omega) (by omega)
    grind
theorem ris_ins {q : Rat} {l : List Rat} (h : Ris l) : Ris (ins q l) := by
  unfold ins
  split
  · exact h
  · rename_i hq
    unfold Ris
    rw [List.pairwise_append, List.pairwise_cons]
    refine ⟨h.sublist (List.take_sublist _ _), ⟨ris_drop_ge h hq, h.sublist (List.drop_sublist _ _)⟩, fun a ha b hb => ?_⟩
    have a1 := ris_take_lt a ha
    rcases List.mem_cons.mp hb with rfl | hb
    · exact a1
    · have := ris_drop_ge h hq b hb
      grind
/-- rising rows with the same places are the same -/
theorem ris_ext : ∀ {l m : List Rat}, Ris l → Ris m → (∀ a, a ∈ l ↔ a ∈ m) → l = m
  | [], [], _, _, _ => rfl
  | [], b :: m, _, _, h => by have := (h b).mpr (List.mem_cons_self ..); simp at this
  | a :: l, [], _, _, h => by have := (h a).mp (List.mem_cons_self ..); simp at this
  | a :: l, b :: m, hl, hm, h => by
    have hl' := List.pairwise_cons.mp hl
    have hm' := List.pairwise_cons.mp hm
    have e : a = b := by
      rcases List.mem_cons.mp ((h a).mp (List.mem_cons_self ..)) with e | e
      · exact e
      · rcases List.mem_cons.mp ((h b).mpr (List.mem_cons_self ..)) with e2 | e2
        · exact e2.symm
        · have x := hm'.1 a e
          have y := hl'.1 b e2
          grind
    subst e
    rw [ris_ext hl'.2 hm'.2 fun c => ?_]
    constructor
    · intro hc
      rcases List.mem_cons.mp ((h c).mp (List.mem_cons_of_mem _ hc)) with e | e
      · subst e; have := hl'.1 c hc; grind
      · exact e
    · intro hc
      rcases List.mem_cons.mp ((h c).mpr (List.mem_cons_of_mem _ hc)) with e | e
      · subst e; have := hm'.1 c hc; grind
      · exact e
def insAll : List Rat → List Rat → List Rat
  | l, [] => l
  | l, q :: qs => insAll (ins q l) qs
theorem insAll_ris : ∀ {qs l : List Rat}, Ris l → Ris (insAll l qs)
  | [], l, h => h
  | q :: qs, l, h => insAll_ris (qs := qs) (l := ins q l) (ris_ins h)
theorem insAll_mem {a : Rat} : ∀ {qs l : List Rat}, a ∈ insAll l qs ↔ a ∈ qs ∨ a ∈ l
  | [], l => by simp [insAll]
  | q :: qs, l => by simp only [insAll, insAll_mem (qs := qs), mem_ins, List.mem_cons]; grind
theorem insAll_app : ∀ (l a b : List Rat), insAll l (a ++ b) = insAll (insAll l a) b
  | l, [], b => rfl
  | l, q :: a, b => insAll_app (ins q l) a b
end Dn
namespace Dn
open PySem PySem.Spec PyProof.Rows L2
/-! ### pieces of the loaf -/
def dPair (p : Rat × Rat) : D := .tup [dF p.1, dF p.2]
theorem zip_dF : ∀ l m : List Rat, zipD (l.map dF) (m.map dF) = (l.zip m).map dPair
  | [], _ => by simp [zipD]
  | _ :: _, [] => by simp [zipD]
  | a :: l, b :: m => by simp [zipD, dPair, zip_dF l m]
@[simp] theorem tg_pair {e : DE} {i j : Nat} {r : Rat × Rat} : tgT 2 (tgsCons (tgN i) (tgsCons (tgN j) tgsNil)) (dPair r) e = some ((e.set i (.val (dF r.1))).set j (.val (dF r.2))) := by simp [dPair]
def risB : Rat → List Rat → Bool
  | _, [] => true
  | a, b :: l => decide (a < b) && risB b l
theorem risB_zip : ∀ (l : List Rat) (a : Rat), (((a :: l).zip l).map fun p => decide (p.1 < p.2)).all id = risB a l
  | [], a => rfl
  | b :: l, a => by
    have ih := risB_zip l b
    simp only [List.zip_cons_cons, List.map_cons, List.all_cons, risB, id] at ih ⊢
    rw [ih]
theorem risB_in : ∀ (l : List Rat) (a : Rat), risB a (l ++ [1]) = true → ∀ p ∈ (a :: (l ++ [1])).zip (l ++ [1]), a ≤ p.1 ∧ p.1 < p.2 ∧ p.2 ≤ 1
  | [], a, h => by
    simp [risB] at h
    intro p hp
    simp at hp
    subst hp
    exact ⟨Rat.le_refl, h, Rat.le_refl⟩
  | b :: l, a, h => by
    simp only [List.cons_append, risB, Bool.and_eq_true, decide_eq_true_eq] at h
    have ih := risB_in l b h.2
    intro p hp
    simp only [List.cons_append, List.zip_cons_cons, List.mem_cons] at hp
    rcases hp with rfl | hp
    · refine ⟨Rat.le_refl, h.1, ?_⟩
      have hb : ∃ c, (b, c) ∈ (b :: (l ++ [1])).zip (l ++ [1]) := by
        cases l with
        | nil => exact ⟨1, by simp⟩
        | cons c l => exact ⟨c, by simp⟩
      obtain ⟨c, hc⟩ := hb
      have := ih _ hc
      grind
    · have := ih p hp
      exact ⟨by grind, this.2.1, this.2.2⟩
def pcs (cuts : List Rat) : List (Rat × Rat) := ((0 : Rat) :: (cuts ++ [1])).zip (cuts ++ [1])
theorem pcs_len (cuts : List Rat) : (pcs cuts).length = cuts.length + 1 := by simp [pcs]
theorem pcs_sz {cuts : List Rat} {n : Nat} (h : ∀ c ∈ cuts, Sz (n + 1) c) : ∀ p ∈ pcs cuts, Sz (n + 1) p.1 ∧ Sz (n + 1) p.2 := by
  intro p hp
  obtain ⟨h1, h2⟩ := List.of_mem_zip hp
  have key : ∀ c, c ∈ cuts ++ [1] → Sz (n + 1) c := fun c hc => by
    rcases List.mem_append.mp hc with m | m
    · exact h c m
    · simp at m; subst m; exact sz1
  refine ⟨?_, key _ h2⟩
  rcases List.mem_cons.mp h1 with e | e
  · rw [e]; exact sz0
  · exact key _ e
/-! ### a loop that asks each one -/
theorem for_ask {b : D → En → SR} {st : Sto} (ok : Nat → Bool) (I : En → Prop) : ∀ (xs : List D) (k : Nat) (E : En), (∀ i x E, xs[i]? = some x → I E → (ok (k + i) = true → ∃ E', b x E = .nx E' ∧ I E') ∧ (ok (k + i) = false → b x E = .rt .P (.bl false) st)) → I E →
    ((∀ i, i < xs.length → ok (k + i) = true) → ∃ E', forD b xs E = .nx E' ∧ I E') ∧ ((¬ ∀ i, i < xs.length → ok (k + i) = true) → forD b xs E = .rt .P (.bl false) st)
  | [], k, E, _, h => ⟨fun _ => ⟨E, rfl, h⟩, fun z => absurd (fun i hi => by simp at hi) z⟩
  | x :: xs, k, E, hb, h => by
    have h0 := hb 0 x E rfl h
    cases q : ok (k + 0) with
    | false =>
      have h1 := h0.2 q
      refine ⟨fun z => ?_, fun _ => by simp only [e_forC, h1]⟩
      have := z 0 (by simp)
      rw [q] at this; cases this
    | true =>
      obtain ⟨E1, h1, h2⟩ := h0.1 q
      have ih := for_ask ok I xs (k + 1) E1 (fun i y E hy hI => by
        have := hb (i + 1) y E (by simpa using hy) hI
        rw [show k + 1 + i = k + (i + 1) by omega]
        exact this) h2
      refine ⟨fun z => ?_, fun z => ?_⟩
      · obtain ⟨E2, h3, h4⟩ := ih.1 (fun i hi => by
          have := z (i + 1) (by simpa using hi)
          rw [show k + 1 + i = k + (i + 1) by omega]; exact this)
        exact ⟨E2, by simp only [e_forC, h1, h3], h4⟩
      · have := ih.2 (fun w => z fun i hi => by
          cases i with
          | zero => exact q
          | succ i =>
            have := w i (by simpa using hi)
            rw [show k + (i + 1) = k + 1 + i by omega]; exact this)
        simp only [e_forC, h1, this]
theorem rangeD_ints (n : Nat) : rangeD 0 n = ((List.range n).map fun k : Nat => (k : Int)).map D.int := by
  unfold rangeD
  rw [List.map_map]
  apply List.map_congr_left
  intro a _
  simp
/-- the sharing that no hand minds -/
def okH (rows : List (List (Int × Int))) (cuts : List Rat) (order : List Int) (i : Nat) : Bool :=
  match order[i]? with
  | none => true
  | some h => match rows[h.toNat]? with
    | none => true
    | some r => match (pcs cuts)[i]? with
      | none => true
      | some p => !((pcs cuts).any fun z => decide (wq p.1 p.2 r < wq z.1 z.2 r))
end Dn
namespace Dn
open PySem PySem.Spec PyProof.Rows L2
/-! ### the worth from the begin, linear between neighbouring ends -/
def cw (rows : List (Int × Int)) (z : Rat) : Rat := wq 0 z rows
theorem sumR_mul (c : Nat → Rat) (t : Rat) : ∀ k, sumR (fun i => c i * t) k = sumR c k * t
  | 0 => by simp [sumR]
  | k + 1 => by simp only [sumR, sumR_mul c t k]; grind
theorem sumR_ge {f : Nat → Rat} : ∀ {k i : Nat}, (∀ j, j < k → 0 ≤ f j) → i < k → f i ≤ sumR f k
  | k + 1, i, h, hi => by
    simp only [sumR]
    have h0 := sumR_nonneg (f := f) (k := k) fun j hj => h j (by omega)
    by_cases c : i = k
    · subst c; grind
    · have := sumR_ge (f := f) (k := k) (i := i) (fun j hj => h j (by omega)) (by omega)
      have := h k (by omega)
      grind
section
variable {rows : List (Int × Int)} (hr : RowsOk 8 rows)
include hr
theorem wq_cw {x y : Rat} (h0 : 0 ≤ x) (h : x ≤ y) : wq x y rows = cw rows y - cw rows x := by
  have := wq_add hr h0 h
  unfold cw
  grind
theorem cw_mono {x y : Rat} (h0 : 0 ≤ x) (h : x ≤ y) : cw rows x ≤ cw rows y := by
  have a := wq_cw hr h0 h
  have b := wq_nonneg hr x y
  grind
theorem cw_one : cw rows 1 = (((rows.map (·.2)).sum : Int) : Rat) := wq_all hr
theorem cw_zero : cw rows 0 = 0 := by
  have := wq_add hr (x := 0) (y := 0) (z := 0) Rat.le_refl Rat.le_refl
  unfold cw
  grind
theorem dens_nonneg {i : Nat} (h : i < rows.length) : 0 ≤ vq rows i / (bq rows (i + 1) - bq rows i) := by
  rw [Rat.div_def]
  refine Rat.mul_nonneg (vq_nonneg hr i) (Rat.le_of_lt (Rat.inv_pos.mpr ?_))
  have := bq_lt hr h
  grind
/-- between neighbouring ends the worth lies evenly -/
theorem wq_lin {a b : Rat} (hn : ∀ j, j ≤ rows.length → bq rows j ≤ a ∨ b ≤ bq rows j) : ∃ d : Rat, 0 ≤ d ∧ ∀ z, a ≤ z → z ≤ b → wq a z rows = d * (z - a) := by
  refine ⟨sumR (fun i => if bq rows i ≤ a ∧ b ≤ bq rows (i + 1) then vq rows i / (bq rows (i + 1) - bq rows i) else 0) rows.length, ?_, ?_⟩
  · refine sumR_nonneg fun i hi => ?_
    split
    · exact dens_nonneg hr hi
    · exact Rat.le_refl
  · intro z h1 h2
    rw [← sumR_mul]
    unfold wq
    refine sumR_congr fun i hi => ?_
    rw [wpart_ovl]
    have hb := bq_lt hr hi
    have n1 := hn i (by omega)
    have n2 := hn (i + 1) (by omega)
    generalize vq rows i / (bq rows (i + 1) - bq rows i) = f
    have key : ovl a z (bq rows i) (bq rows (i + 1)) = if bq rows i ≤ a ∧ b ≤ bq rows (i + 1) then z - a else 0 := by
      unfold ovl
      generalize bq rows i = p at *
      generalize bq rows (i + 1) = q at *
      grind
    rw [key]
    split
    · rfl
    · grind
theorem cw_lin {a b : Rat} (h0 : 0 ≤ a) (hn : ∀ j, j ≤ rows.length → bq rows j ≤ a ∨ b ≤ bq rows j) : ∃ d : Rat, 0 ≤ d ∧ ∀ z, a ≤ z → z ≤ b → cw rows z = cw rows a + d * (z - a) := by
  obtain ⟨d, h1, h2⟩ := wq_lin hr hn
  refine ⟨d, h1, fun z hz hb => ?_⟩
  have := h2 z hz hb
  have := wq_cw hr h0 hz
  grind
/-- the worth up to a place of the stretch i -/
theorem cw_form {z : Rat} {i : Nat} (hi' : i < rows.length) (h1 : bq rows i ≤ z) (h2 : z ≤ bq rows (i + 1)) : cw rows z = sumR (vq rows) i + vq rows i / (bq rows (i + 1) - bq rows i) * (z - bq rows i) := by
  have key : ∀ k, k ≤ rows.length → sumR (wpart 0 z rows) k = if k ≤ i then sumR (vq rows) k else sumR (vq rows) i + vq rows i / (bq rows (i + 1) - bq rows i) * (z - bq rows i) := by
    intro k
    induction k with
    | zero => intro _; simp [sumR]
    | succ k ih =>
      intro hk
      simp only [sumR]
      rw [ih (by omega)]
      have b0 := (bq_01 hr k).1
      have bk := bq_lt hr (show k < rows.length by omega)
      have bd := bd_ne hr (Nat.le_refl 13) (show k < rows.length by omega)
      rw [wpart_ovl]
      by_cases c : k < i
      · rw [if_pos (by omega), if_pos (by omega)]
        have m := bq_mono hr (show k + 1 ≤ i by omega)
        have : ovl 0 z (bq rows k) (bq rows (k + 1)) = bq rows (k + 1) - bq rows k := by
          unfold ovl
          generalize bq rows i = p at *
          generalize bq rows k = q at *
          generalize bq rows (k + 1) = r at *
          grind
        rw [this, Rat.div_mul_cancel bd]
      · by_cases d : k = i
        · subst d
          rw [if_pos (Nat.le_refl _), if_neg (by omega)]
          have : ovl 0 z (bq rows k) (bq rows (k + 1)) = z - bq rows k := by
            unfold ovl
            generalize bq rows k = q at *
            generalize bq rows (k + 1) = r at *
            grind
          rw [this]
        · rw [if_neg (by omega), if_neg (by omega)]
          have m := bq_mono hr (show i + 1 ≤ k by omega)
          have : ovl 0 z (bq rows k) (bq rows (k + 1)) = 0 := by
            unfold ovl
            generalize bq rows (i + 1) = p at *
            generalize bq rows k = q at *
            generalize bq rows (k + 1) = r at *
            grind
          rw [this]; grind
  have := key rows.length (Nat.le_refl _)
  rw [if_neg (by omega)] at this
  exact this
theorem find_str {z : Rat} (h0 : 0 ≤ z) (h1 : z ≤ 1) : ∃ i, i < rows.length ∧ bq rows i ≤ z ∧ z ≤ bq rows (i + 1) := by
  have key : ∀ k, k ≤ rows.length → bq rows k < z ∨ (∃ i, i < k ∧ bq rows i ≤ z ∧ z ≤ bq rows (i + 1)) ∨ k = 0 := by
    intro k
    induction k with
    | zero => intro _; exact .inr (.inr rfl)
    | succ k ih =>
      intro hk
      by_cases c : bq rows (k + 1) < z
      · exact .inl c
      · refine .inr (.inl ?_)
        rcases ih (by omega) with h | ⟨i, a, b, c⟩ | h
        · exact ⟨k, by omega, by grind, by grind⟩
        · exact ⟨i, by omega, b, c⟩
        · subst h; exact ⟨0, by omega, by rw [bq_zero hr]; exact h0, by grind⟩
  rcases key rows.length (Nat.le_refl _) with h | h | h
  · rw [bq_len hr] at h; grind
  · exact h
  · have := hr.1; omega
theorem sumv_sz {k : Nat} (h : k ≤ rows.length) : Sz 35 (sumR (vq rows) k) := by
  rw [sumR_vq rows k h]
  have h1 := sum_nonneg (f := fun r : Int × Int => r.2) (l := rows.take k) (fun r m => (hr.2.2.1 r (List.mem_of_mem_take m)).2.2.1)
  have h2 := sum_le (f := fun r : Int × Int => r.2) (c := 999999999) (l := rows.take k) (fun r m => (hr.2.2.1 r (List.mem_of_mem_take m)).2.2.2)
  have := hr.2.1
  have : (rows.take k).length ≤ 8 := by rw [List.length_take]; omega
  exact Sz.int (m := 34) (by omega)
theorem cw_sz {z : Rat} {s : Nat} (hz : Sz s z) (h0 : 0 ≤ z) (h1 : z ≤ 1) : Sz (s + 110) (cw rows z) := by
  obtain ⟨i, hi, a, b⟩ := find_str hr h0 h1
  rw [cw_form hr hi a b]
  have d := (vq_sz hr (Nat.le_refl 13) hi).div ((bq_sz hr (i + 1)).sub (bq_sz hr i)) (bd_ne hr (Nat.le_refl 13) hi)
  have e := d.mul (hz.sub (bq_sz hr i))
  exact ((sumv_sz hr (Nat.le_of_lt hi)).add e).up (by omega)
theorem wq_sz2 {x y : Rat} {s : Nat} (hx : Sz s x) (hy : Sz s y) (h0 : 0 ≤ x) (h : x ≤ y) (h1 : y ≤ 1) : Sz (2 * s + 221) (wq x y rows) := by
  rw [wq_cw hr h0 h]
  exact ((cw_sz hr hy (by grind) h1).sub (cw_sz hr hx h0 (by grind))).up (by omega)
/-- the place of a worth has its size -/
theorem sz_of_cw {z : Rat} {s i : Nat} (hi' : i < rows.length) (h1 : bq rows i ≤ z) (h2 : z ≤ bq rows (i + 1)) (hv : vq rows i ≠ 0) (hs : Sz s (cw rows z)) : Sz (s + 108) z := by
  have e := cw_form hr hi' h1 h2
  have bd := bd_ne hr (Nat.le_refl 13) hi'
  have : z = bq rows i + (cw rows z - sumR (vq rows) i) / vq rows i * (bq rows (i + 1) - bq rows i) := by
    generalize cw rows z = V at *
    generalize sumR (vq rows) i = P at *
    generalize vq rows i = v at *
    generalize bq rows (i + 1) - bq rows i = d at *
    have : V - P = v / d * (z - bq rows i) := by grind
    rw [this, Rat.div_def, Rat.div_def]
    have hd : d⁻¹ * d = 1 := Rat.inv_mul_cancel d bd
    have hv' : v * v⁻¹ = 1 := Rat.mul_inv_cancel v hv
    have : v * d⁻¹ * (z - bq rows i) * v⁻¹ * d = (v * v⁻¹) * (d⁻¹ * d) * (z - bq rows i) := by grind
    rw [this, hd, hv']; grind
  rw [this]
  have a := (hs.sub (sumv_sz hr (Nat.le_of_lt hi'))).div (vq_sz hr (Nat.le_refl 13) hi') hv
  have b := a.mul ((bq_sz hr (i + 1)).sub (bq_sz hr i))
  exact ((bq_sz hr i).add b).up (by omega)
/-- what a cut is -/
theorem cut_spec {x m : Rat} (h0 : 0 ≤ x) (h1 : x ≤ 1) (hm : 0 < m) (hw : m ≤ wq x 1 rows) : ∃ z, cutL (btw x 1 rows rows.length) m = some z ∧ x < z ∧ z ≤ 1 ∧ wq x z rows = m ∧ (∀ y, x ≤ y → y < z → wq x y rows < m) ∧ ∀ s, Sz s (cw rows z) → Sz (s + 108) z := by
  rcases cut_char x 1 rows m hm rows.length with ⟨_, h⟩ | ⟨i, a, b, c, d, e⟩
  · exact absurd hw (Rat.not_le.mpr h)
  · have z := z_in b c d
    have g := wq_z hr a b c d
    have l := lo_ge x rows i
    have u := hi_le 1 rows i
    refine ⟨_, e, by grind, by grind, g, fun y hy hz => ?_, fun s hs => ?_⟩
    · have ad := wq_add hr hy (Rat.le_of_lt hz)
      have p : 0 < wq y (zAt x 1 rows m i) rows := by
        have ge := sumR_ge (f := wpart y (zAt x 1 rows m i) rows) (k := rows.length) (i := i) (fun j hj => wpart_nonneg hr _ _ hj) a
        have : 0 < wpart y (zAt x 1 rows m i) rows i := by
          rw [wpart_ovl]
          have bl := bq_lt hr a
          have hv : vq rows i ≠ 0 := fun q => by
            have : wseg x 1 rows i = 0 := by unfold wseg; rw [q]; grind
            grind
          have hv0 := vq_nonneg hr i
          refine Rat.mul_pos ?_ ?_
          · rw [Rat.div_def]; exact Rat.mul_pos (by grind) (Rat.inv_pos.mpr (by grind))
          · unfold ovl
            generalize zAt x 1 rows m i = zz at *
            grind
        have : sumR (wpart y (zAt x 1 rows m i) rows) rows.length = wq y (zAt x 1 rows m i) rows := rfl
        grind
      grind
    · refine sz_of_cw hr a (by grind) (by grind) (fun q => ?_) hs
      have : wseg x 1 rows i = 0 := by unfold wseg; rw [q]; grind
      grind
end
end Dn
namespace Dn
open PySem PySem.Spec PyProof.Rows L2
/-! ### two knives that move on -/
def cnt (E : List Rat) (z : Rat) : Nat := (E.filter fun e => decide (z < e)).length
theorem cnt_le {E : List Rat} {z z' : Rat} (h : z ≤ z') : cnt E z' ≤ cnt E z := by
  unfold cnt
  induction E with
  | nil => simp
  | cons a l ih =>
    by_cases c : z' < a
    · have : z < a := by grind
      rw [List.filter_cons_of_pos (by simpa using c), List.filter_cons_of_pos (by simpa using this)]
      simp; exact ih
    · rw [List.filter_cons_of_neg (by simpa using c)]
      by_cases d : z < a
      · rw [List.filter_cons_of_pos (by simpa using d)]; simp; omega
      · rw [List.filter_cons_of_neg (by simpa using d)]; exact ih
theorem cnt_lt {E : List Rat} {z z' e : Rat} (m : e ∈ E) (h1 : z < e) (h2 : e ≤ z') : cnt E z' < cnt E z := by
  induction E with
  | nil => simp at m
  | cons a l ih =>
    by_cases ca : a = e
    · subst ca
      have := cnt_le (E := l) (show z ≤ z' by grind)
      unfold cnt at *
      rw [List.filter_cons_of_neg (by simp; exact Rat.not_lt.mpr h2), List.filter_cons_of_pos (by simpa using h1)]
      simp; omega
    · have := ih (by rcases List.mem_cons.mp m with h | h; exact absurd h.symm ca; exact h)
      unfold cnt at *
      by_cases c : z' < a
      · have : z < a := by grind
        rw [List.filter_cons_of_pos (by simpa using c), List.filter_cons_of_pos (by simpa using this)]
        simp; assumption
      · rw [List.filter_cons_of_neg (by simpa using c)]
        by_cases d : z < a
        · rw [List.filter_cons_of_pos (by simpa using d)]; simp; omega
        · rw [List.filter_cons_of_neg (by simpa using d)]; assumption
structure Ends (E : List Rat) (r : List (Int × Int)) : Prop where
  i : ∀ j, j ≤ r.length → bq r j ∈ E
  z : ∀ e ∈ E, 0 ≤ e ∧ e ≤ 1 ∧ Sz 13 e
structure HalfAt (r : List (Int × Int)) (H h0 : Rat) : Prop where
  a : 0 ≤ h0
  b : h0 ≤ 1
  c : cw r h0 = H
  l : ∀ y, 0 ≤ y → y < h0 → cw r y < H
  t : cw r 1 = 2 * H
  p : 0 < H
  s : Sz 40 H
structure Kn (r : List (Int × Int)) (H h0 low high : Rat) : Prop where
  a : 0 ≤ low
  ah : low ≤ h0
  lh : low ≤ high
  b : high ≤ 1
  w : cw r high - cw r low = H
  sl : Sz 280 low
  sh : Sz 280 high
structure Mv (E : List Rat) (r : List (Int × Int)) (H h0 low high low' high' : Rat) : Prop where
  k : Kn r H h0 low' high'
  l : low ≤ low'
  h : high ≤ high'
  nl : ∀ e ∈ E, e ≤ low ∨ low' ≤ e
  nh : ∀ e ∈ E, e ≤ high ∨ high' ≤ e
  c : cnt E low' + cnt E high' < cnt E low + cnt E high
/-- the first end behind a place -/
structure Nxt (E : List Rat) (z e : Rat) : Prop where
  m : e ∈ E
  l : z < e
  n : ∀ x ∈ E, x ≤ z ∨ e ≤ x
section
variable {E : List Rat} {r : List (Int × Int)} {H h0 low high after behind : Rat} (hr : RowsOk 8 r) (hE : Ends E r) (hH : HalfAt r H h0) (K : Kn r H h0 low high) (A : Nxt E high after)
include hr hE hH K A
theorem mv1 (hw : wq high after r = 0) : Mv E r H h0 low high low after := by
  obtain ⟨z0, z1, zs⟩ := hE.z after A.m
  have al := A.l
  have e := wq_cw hr (Rat.le_trans K.a K.lh) (Rat.le_of_lt A.l)
  have kw := K.w
  have klh := K.lh
  refine ⟨⟨K.a, K.ah, by grind, z1, by grind, K.sl, zs.up (by decide)⟩, Rat.le_refl, Rat.le_of_lt A.l, fun e _ => ?_, A.n, ?_⟩
  · rcases Rat.le_total (a := e) (b := low) with h | h
    · exact .inl h
    · exact .inr h
  · have := cnt_lt A.m A.l Rat.le_refl
    omega
/-- as something is won, the low knife has not come to its end -/
theorem low_lt (hw : wq high after r ≠ 0) : low < h0 := by
  have h1 := K.ah
  rcases Rat.le_iff_lt_or_eq.mp h1 with h | h
  · exact h
  · exfalso
    obtain ⟨z0, z1, zs⟩ := hE.z after A.m
    have e := wq_cw hr (Rat.le_trans K.a K.lh) (Rat.le_of_lt A.l)
    have m1 := cw_mono hr z0 z1
    have m2 := cw_mono hr (Rat.le_trans K.a K.lh) (Rat.le_of_lt A.l)
    have := K.w
    have := hH.c
    have := hH.t
    rw [h] at *
    grind
theorem low_high : low < high := by
  rcases Rat.le_iff_lt_or_eq.mp K.lh with h | h
  · exact h
  · have := K.w
    have := hH.p
    rw [h] at *
    grind
variable (B : Nxt E low behind)
include B
theorem mv2 (hw : wq high after r ≠ 0) (hl : wq low behind r = 0) : Mv E r H h0 low high behind high := by
  obtain ⟨z0, z1, zs⟩ := hE.z behind B.m
  have l0 := low_lt hr hE hH K A hw
  have e := wq_cw hr K.a (Rat.le_of_lt B.l)
  have bh : behind ≤ h0 := by
    rw [← Rat.not_lt]; intro c
    have m := cw_mono hr hH.a (Rat.le_of_lt c)
    have := hH.l low K.a l0
    have := hH.c
    grind
  have bh2 : behind ≤ high := by
    rw [← Rat.not_lt]; intro c
    have m := cw_mono hr (Rat.le_trans K.a K.lh) (Rat.le_of_lt c)
    have := K.w
    have := hH.p
    grind
  have kw := K.w
  refine ⟨⟨z0, bh, bh2, K.b, by grind, zs.up (by decide), K.sh⟩, Rat.le_of_lt B.l, Rat.le_refl, B.n, fun e _ => ?_, ?_⟩
  · rcases Rat.le_total (a := e) (b := high) with h | h
    · exact .inl h
    · exact .inr h
  · have := cnt_lt B.m B.l Rat.le_refl
    omega
theorem mv3 (hl0 : wq low behind r ≠ 0) (hlw : wq low behind r < wq high after r) {z : Rat} (hz : high < z) (hz1 : z ≤ 1) (hzw : wq high z r = wq low behind r) (hzl : ∀ y, high ≤ y → y < z → wq high y r < wq low behind r) (hzs : ∀ s, Sz s (cw r z) → Sz (s + 108) z) : Mv E r H h0 low high behind z := by
  obtain ⟨z0, z1, zs⟩ := hE.z behind B.m
  obtain ⟨a0, a1, as⟩ := hE.z after A.m
  have hn := wq_nonneg hr low behind
  have l0 := low_lt hr hE hH K A (by grind)
  have lh := low_high hr hE hH K A
  have p0 := Rat.le_trans K.a K.lh
  have e1 := wq_cw hr K.a (Rat.le_of_lt B.l)
  have e2 := wq_cw hr p0 (Rat.le_of_lt A.l)
  have e3 := wq_cw hr p0 (Rat.le_of_lt hz)
  have kw := K.w
  have hp := hH.p
  have zal : z ≤ after := by
    rw [← Rat.not_lt]; intro c
    have := hzl after (Rat.le_of_lt A.l) c
    grind
  have bh2 : behind ≤ high := by
    rw [← Rat.not_lt]; intro c
    have : behind ≤ after := by
      rcases B.n after A.m with h | h
      · have := A.l; grind
      · exact h
    have : after ≤ behind := by
      rcases A.n behind B.m with h | h
      · grind
      · exact h
    have : after = behind := by grind
    subst this
    grind
  have cz : cw r z = H + cw r behind := by grind
  have bh : behind ≤ h0 := by
    rw [← Rat.not_lt]; intro c
    have m := cw_mono hr (show 0 ≤ z by grind) hz1
    have t := hH.t
    have hc := hH.c
    obtain ⟨d, d0, hd⟩ := cw_lin hr K.a (b := behind) fun j hj => B.n _ (hE.i j hj)
    have f1 := hd behind (Rat.le_of_lt B.l) Rat.le_refl
    have f2 := hd h0 (Rat.le_of_lt l0) (Rat.le_of_lt c)
    have f3 := hH.l low K.a l0
    have dp : 0 < d := by
      rcases Rat.le_iff_lt_or_eq.mp d0 with h | h
      · exact h
      · rw [← h] at f1; grind
    have := Rat.mul_pos dp (show 0 < behind - h0 by grind)
    grind
  refine ⟨⟨z0, bh, by grind, hz1, by grind, zs.up (by decide), ?_⟩, Rat.le_of_lt B.l, Rat.le_of_lt hz, B.n, fun e he => ?_, ?_⟩
  · refine (hzs 165 ?_).up (by decide)
    rw [cz]
    exact (hH.s.add (cw_sz hr zs z0 z1)).up (by decide)
  · rcases A.n e he with h | h
    · exact .inl h
    · exact .inr (by grind)
  · have := cnt_lt B.m B.l Rat.le_refl
    have := cnt_le (E := E) (Rat.le_of_lt hz)
    omega
theorem mv4 (hw0 : wq high after r ≠ 0) (hlw : ¬ wq low behind r < wq high after r) {z : Rat} (hz : low < z) (hz1 : z ≤ 1) (hzw : wq low z r = wq high after r) (hzl : ∀ y, low ≤ y → y < z → wq low y r < wq high after r) (hzs : ∀ s, Sz s (cw r z) → Sz (s + 108) z) : Mv E r H h0 low high z after := by
  obtain ⟨z0, z1, zs⟩ := hE.z behind B.m
  obtain ⟨a0, a1, as⟩ := hE.z after A.m
  have l0 := low_lt hr hE hH K A hw0
  have p0 := Rat.le_trans K.a K.lh
  have e1 := wq_cw hr K.a (Rat.le_of_lt B.l)
  have e2 := wq_cw hr p0 (Rat.le_of_lt A.l)
  have e3 := wq_cw hr K.a (Rat.le_of_lt hz)
  have kw := K.w
  have al := A.l
  have zb : z ≤ behind := by
    rw [← Rat.not_lt]; intro c
    have := hzl behind (Rat.le_of_lt B.l) c
    grind
  have za : z ≤ after := by
    rcases B.n after A.m with h | h
    · have := K.lh; grind
    · grind
  have zh : z ≤ h0 := by
    rw [← Rat.not_lt]; intro c
    have := hzl h0 K.ah c
    have e4 := wq_cw hr K.a K.ah
    have := hH.c
    have := cw_mono hr a0 a1
    have := hH.t
    grind
  have cz : cw r z = cw r after - H := by grind
  refine ⟨⟨by have := K.a; grind, zh, za, a1, by grind, ?_, as.up (by decide)⟩, Rat.le_of_lt hz, Rat.le_of_lt A.l, fun e he => ?_, A.n, ?_⟩
  · refine (hzs 165 ?_).up (by decide)
    rw [cz]
    exact ((cw_sz hr as a0 a1).sub hH.s).up (by decide)
  · rcases B.n e he with h | h
    · exact .inl h
    · exact .inr (by grind)
  · have := cnt_lt A.m A.l Rat.le_refl
    have := cnt_le (E := E) (Rat.le_of_lt hz)
    omega
end
/-- on the way from one stand of the knives to the next one each worth goes evenly -/
theorem mv_between {E : List Rat} {r q : List (Int × Int)} {H h0 low high low' high' : Rat} (hq : RowsOk 8 q) (hE : ∀ j, j ≤ q.length → bq q j ∈ E) (K : Kn r H h0 low high) (M : Mv E r H h0 low high low' high') {p : Rat} (p0 : 0 ≤ p) (p1 : p ≤ 1) :
    0 ≤ low + (low' - low) * p ∧ low + (low' - low) * p ≤ high + (high' - high) * p ∧ high + (high' - high) * p ≤ 1 ∧ wq (low + (low' - low) * p) (high + (high' - high) * p) q = wq low high q + p * (wq low' high' q - wq low high q) := by
  have a := K.a
  have b := K.lh
  have c := M.k.lh
  have d := M.l
  have e := M.h
  have f := M.k.b
  have x1 := Rat.mul_nonneg (show 0 ≤ low' - low by grind) p0
  have x2 := Rat.mul_nonneg (show 0 ≤ low' - low by grind) (show 0 ≤ 1 - p by grind)
  have y1 := Rat.mul_nonneg (show 0 ≤ high' - high by grind) p0
  have y2 := Rat.mul_nonneg (show 0 ≤ high' - high by grind) (show 0 ≤ 1 - p by grind)
  have z1 := Rat.mul_nonneg (show 0 ≤ high - low by grind) (show 0 ≤ 1 - p by grind)
  have z2 := Rat.mul_nonneg (show 0 ≤ high' - low' by grind) p0
  have h1 : 0 ≤ low + (low' - low) * p := by grind
  have h2 : low + (low' - low) * p ≤ high + (high' - high) * p := by grind
  refine ⟨h1, h2, by grind, ?_⟩
  obtain ⟨d1, _, f1⟩ := cw_lin hq a (b := low') fun j hj => M.nl _ (hE j hj)
  obtain ⟨d2, _, f2⟩ := cw_lin hq (show 0 ≤ high by grind) (b := high') fun j hj => M.nh _ (hE j hj)
  rw [wq_cw hq h1 h2, wq_cw hq a b, wq_cw hq (show 0 ≤ low' by grind) c]
  have g1 := f1 (low + (low' - low) * p) (by grind) (by grind)
  have g2 := f2 (high + (high' - high) * p) (by grind) (by grind)
  have g3 := f1 low' d Rat.le_refl
  have g4 := f2 high' e Rat.le_refl
  clear f1 f2
  rw [g1, g2, g3, g4]
  grind
end Dn
/-! spans, plain: what they hold, told by as few as can be -/
namespace Dn
open PySem PySem.Spec PyProof.Rows L2
def cov (L : List (Rat × Rat)) (x : Rat) : Prop := ∃ s ∈ L, s.1 ≤ x ∧ x < s.2
def Can (L : List (Rat × Rat)) : Prop := (∀ s ∈ L, s.1 < s.2) ∧ L.Pairwise (fun s t => s.2 < t.1)
theorem cov_nil (x : Rat) : ¬ cov [] x := fun ⟨_, h, _⟩ => by simp at h
theorem cov_cons {s : Rat × Rat} {L : List (Rat × Rat)} {x : Rat} : cov (s :: L) x ↔ (s.1 ≤ x ∧ x < s.2) ∨ cov L x := by
  constructor
  · rintro ⟨t, h, k⟩
    rcases List.mem_cons.mp h with rfl | h
    · exact .inl k
    · exact .inr ⟨t, h, k⟩
  · rintro (h | ⟨t, h, k⟩)
    · exact ⟨s, List.mem_cons_self .., h⟩
    · exact ⟨t, List.mem_cons_of_mem _ h, k⟩
theorem cov_app {L M : List (Rat × Rat)} {x : Rat} : cov (L ++ M) x ↔ cov L x ∨ cov M x := by
  constructor
  · rintro ⟨t, h, k⟩
    rcases List.mem_append.mp h with h | h
    · exact .inl ⟨t, h, k⟩
    · exact .inr ⟨t, h, k⟩
  · rintro (⟨t, h, k⟩ | ⟨t, h, k⟩)
    · exact ⟨t, List.mem_append_left _ h, k⟩
    · exact ⟨t, List.mem_append_right _ h, k⟩
theorem can_nil : Can [] := ⟨fun s h => by simp at h, .nil⟩
theorem can_cons {s : Rat × Rat} {L : List (Rat × Rat)} : Can (s :: L) ↔ s.1 < s.2 ∧ (∀ t ∈ L, s.2 < t.1) ∧ Can L := by
  unfold Can
  rw [List.pairwise_cons]
  constructor
  · rintro ⟨h, k, l⟩
    exact ⟨h s (List.mem_cons_self ..), k, fun t m => h t (List.mem_cons_of_mem _ m), l⟩
  · rintro ⟨h, k, l, m⟩
    refine ⟨fun t z => ?_, k, m⟩
    rcases List.mem_cons.mp z with rfl | z
    · exact h
    · exact l t z
theorem can_first {s : Rat × Rat} {L : List (Rat × Rat)} {x : Rat} (h : Can (s :: L)) (c : cov (s :: L) x) : s.1 ≤ x := by
  obtain ⟨h1, h2, h3⟩ := can_cons.mp h
  rcases cov_cons.mp c with c | ⟨t, m, c⟩
  · exact c.1
  · have := h2 t m; grind
theorem can_tail {s : Rat × Rat} {L : List (Rat × Rat)} {x : Rat} (h : Can (s :: L)) (c : cov L x) : s.2 < x := by
  obtain ⟨h1, h2, h3⟩ := can_cons.mp h
  obtain ⟨t, m, c⟩ := c
  have := h2 t m; grind
theorem can_ext : ∀ {L M : List (Rat × Rat)}, Can L → Can M → (∀ x, cov L x ↔ cov M x) → L = M
  | [], [], _, _, _ => rfl
  | [], t :: M, _, h, e => by
    have := (can_cons.mp h).1
    exact absurd ((e t.1).mpr (cov_cons.mpr (.inl ⟨Rat.le_refl, this⟩))) (cov_nil _)
  | s :: L, [], h, _, e => by
    have := (can_cons.mp h).1
    exact absurd ((e s.1).mp (cov_cons.mpr (.inl ⟨Rat.le_refl, this⟩))) (cov_nil _)
  | s :: L, t :: M, h, k, e => by
    obtain ⟨h1, h2, h3⟩ := can_cons.mp h
    obtain ⟨k1, k2, k3⟩ := can_cons.mp k
    have a1 : t.1 ≤ s.1 := can_first k ((e s.1).mp (cov_cons.mpr (.inl ⟨Rat.le_refl, h1⟩)))
    have a2 : s.1 ≤ t.1 := can_first h ((e t.1).mpr (cov_cons.mpr (.inl ⟨Rat.le_refl, k1⟩)))
    have a : s.1 = t.1 := by grind
    have b1 : ¬ s.2 < t.2 := fun z => by
      have := (e s.2).mpr (cov_cons.mpr (.inl ⟨by grind, z⟩))
      rcases cov_cons.mp this with c | c
      · grind
      · have := can_tail h c; grind
    have b2 : ¬ t.2 < s.2 := fun z => by
      have := (e t.2).mp (cov_cons.mpr (.inl ⟨by grind, z⟩))
      rcases cov_cons.mp this with c | c
      · grind
      · have := can_tail k c; grind
    have b : s.2 = t.2 := by grind
    have st : s = t := Prod.ext a b
    subst st
    congr 1
    refine can_ext h3 k3 fun x => ⟨fun c => ?_, fun c => ?_⟩
    · have z := can_tail h c
      rcases cov_cons.mp ((e x).mp (cov_cons.mpr (.inr c))) with d | d
      · grind
      · exact d
    · have z := can_tail k c
      rcases cov_cons.mp ((e x).mpr (cov_cons.mpr (.inr c))) with d | d
      · grind
      · exact d
theorem can_snoc {L : List (Rat × Rat)} {s : Rat × Rat} : Can (L ++ [s]) ↔ Can L ∧ s.1 < s.2 ∧ ∀ t ∈ L, t.2 < s.1 := by
  unfold Can
  rw [List.pairwise_append]
  constructor
  · rintro ⟨h, k, _, l⟩
    exact ⟨⟨fun t m => h t (List.mem_append_left _ m), k⟩, h s (by simp), fun t m => l t m s (by simp)⟩
  · rintro ⟨⟨h, k⟩, l, m⟩
    refine ⟨fun t z => ?_, k, by simp, fun a z b w => ?_⟩
    · rcases List.mem_append.mp z with z | z
      · exact h t z
      · have : t = s := by simpa using z
        subst this; exact l
    · have : b = s := by simpa using w
      subst this; exact m a z
/-! ### neighbours of a rising row -/
def adj (P : List Rat) : List (Rat × Rat) := P.zip P.tail
theorem adj_cons (a b : Rat) (P : List Rat) : adj (a :: b :: P) = (a, b) :: adj (b :: P) := rfl
theorem adj_in : ∀ {P : List Rat}, Ris P → ∀ ab ∈ adj P, ab.1 ∈ P ∧ ab.2 ∈ P ∧ ab.1 < ab.2 ∧ ∀ u ∈ P, u ≤ ab.1 ∨ ab.2 ≤ u
  | [], _, ab, h => by simp [adj] at h
  | [a], _, ab, h => by simp [adj] at h
  | a :: b :: P, h, ab, m => by
    rw [adj_cons] at m
    unfold Ris at h
    have hh := List.pairwise_cons.mp h
    have hab := hh.1 b (List.mem_cons_self ..)
    rcases List.mem_cons.mp m with rfl | m
    · refine ⟨List.mem_cons_self .., by simp, hab, fun u hu => ?_⟩
      rcases List.mem_cons.mp hu with rfl | hu
      · exact .inl Rat.le_refl
      · rcases List.mem_cons.mp hu with rfl | hu
        · exact .inr Rat.le_refl
        · have := (List.pairwise_cons.mp hh.2).1 u hu
          exact .inr (Rat.le_of_lt this)
    · obtain ⟨h1, h2, h3, h4⟩ := adj_in (P := b :: P) hh.2 ab m
      refine ⟨List.mem_cons_of_mem _ h1, List.mem_cons_of_mem _ h2, h3, fun u hu => ?_⟩
      rcases List.mem_cons.mp hu with rfl | hu
      · have := hh.1 ab.1 h1
        exact .inl (Rat.le_of_lt this)
      · exact h4 u hu
theorem adj_has : ∀ {P : List Rat} {x : Rat}, Ris P → (∃ u ∈ P, u ≤ x) → (∃ v ∈ P, x < v) → ∃ ab ∈ adj P, ab.1 ≤ x ∧ x < ab.2
  | [], x, _, ⟨u, m, _⟩, _ => by simp at m
  | [a], x, _, ⟨u, m, h⟩, ⟨v, n, k⟩ => by
    simp at m n
    subst m; subst n; grind
  | a :: b :: P, x, hR, ⟨u, m, h⟩, ⟨v, n, k⟩ => by
    unfold Ris at hR
    have hh := List.pairwise_cons.mp hR
    by_cases c : x < b
    · refine ⟨(a, b), by rw [adj_cons]; exact List.mem_cons_self .., ?_, c⟩
      rcases List.mem_cons.mp m with rfl | m
      · exact h
      · have := hh.1 u m; show a ≤ x; grind
    · have cb : b ≤ x := Rat.not_lt.mp c
      have hv : v ∈ b :: P := by
        rcases List.mem_cons.mp n with rfl | n
        · have := hh.1 b (List.mem_cons_self ..); grind
        · exact n
      obtain ⟨ab, h1, h2⟩ := adj_has (P := b :: P) hh.2 ⟨b, List.mem_cons_self .., cb⟩ ⟨v, hv, k⟩
      exact ⟨ab, by rw [adj_cons]; exact List.mem_cons_of_mem _ h1, h2⟩
/-! ### the spans that are held, joined -/
def swStep (p : Rat → Rat → Bool) (F : List (Rat × Rat)) (ab : Rat × Rat) : List (Rat × Rat) :=
  if p ab.1 ab.2 = true then (match F.getLast? with | some l => if l.2 = ab.1 then F.dropLast ++ [(l.1, ab.2)] else F ++ [ab] | none => F ++ [ab]) else F
def sw (p : Rat → Rat → Bool) (P : List Rat) : List (Rat × Rat) := (adj P).foldl (swStep p) []
theorem swStep_ok {p : Rat → Rat → Bool} {F : List (Rat × Rat)} {a b : Rat} (hF : Can F) (hl : ∀ s ∈ F, s.2 ≤ a) (hab : a < b) :
    Can (swStep p F (a, b)) ∧ (∀ s ∈ swStep p F (a, b), s.2 ≤ b) ∧ ∀ x, cov (swStep p F (a, b)) x ↔ cov F x ∨ (p a b = true ∧ a ≤ x ∧ x < b) := by
  unfold swStep
  by_cases hp : p a b = true
  · rw [if_pos hp]
    have hle : ∀ s ∈ F, s.2 ≤ b := fun s m => by have := hl s m; grind
    cases hg : F.getLast? with
    | none =>
      have : F = [] := List.getLast?_eq_none_iff.mp hg
      subst this
      refine ⟨can_snoc.mpr ⟨can_nil, hab, fun t m => by simp at m⟩, fun s m => ?_, fun x => ?_⟩
      · simp at m; subst m; exact Rat.le_refl
      · simp [cov_cons, cov_nil, hp]
    | some l =>
      obtain ⟨D, rfl⟩ := List.getLast?_eq_some_iff.mp hg
      obtain ⟨cD, cl, cd⟩ := can_snoc.mp hF
      have ll := hl l (by simp)
      by_cases e : l.2 = a
      · simp only [e, if_true, List.dropLast_concat]
        refine ⟨can_snoc.mpr ⟨cD, by show l.1 < b; grind, cd⟩, fun s m => ?_, fun x => ?_⟩
        · rcases List.mem_append.mp m with m | m
          · exact hle s (List.mem_append_left _ m)
          · simp at m; subst m; exact Rat.le_refl
        · simp only [cov_app, cov_cons, cov_nil, or_false, hp, true_and]
          constructor
          · rintro (h | ⟨h1, h2⟩)
            · exact .inl (.inl h)
            · by_cases z : x < a
              · exact .inl (.inr ⟨h1, by rw [e]; exact z⟩)
              · exact .inr ⟨Rat.not_lt.mp z, h2⟩
          · rintro ((h | ⟨h1, h2⟩) | ⟨h1, h2⟩)
            · exact .inl h
            · exact .inr ⟨h1, by grind⟩
            · exact .inr ⟨by grind, h2⟩
      · simp only [e, if_false]
        refine ⟨can_snoc.mpr ⟨hF, hab, fun t m => ?_⟩, fun s m => ?_, fun x => ?_⟩
        · show t.2 < a
          rcases List.mem_append.mp m with m | m
          · have := cd t m; grind
          · simp at m; subst m; grind
        · rcases List.mem_append.mp m with m | m
          · exact hle s m
          · simp at m; subst m; exact Rat.le_refl
        · simp [cov_app, cov_cons, cov_nil, hp]; grind
  · rw [if_neg hp]
    refine ⟨hF, fun s m => by have := hl s m; grind, fun x => ?_⟩
    simp [hp]
theorem sw_inv {p : Rat → Rat → Bool} : ∀ (P : List Rat) (a : Rat) (F : List (Rat × Rat)), Ris (a :: P) → Can F → (∀ s ∈ F, s.2 ≤ a) →
    Can ((adj (a :: P)).foldl (swStep p) F) ∧ ∀ x, cov ((adj (a :: P)).foldl (swStep p) F) x ↔ cov F x ∨ ∃ ab ∈ adj (a :: P), p ab.1 ab.2 = true ∧ ab.1 ≤ x ∧ x < ab.2
  | [], a, F, _, hF, _ => by simp [adj, hF]
  | b :: P, a, F, hR, hF, hl => by
    unfold Ris at hR
    have hh := List.pairwise_cons.mp hR
    obtain ⟨h1, h2, h3⟩ := swStep_ok (p := p) hF hl (hh.1 b (List.mem_cons_self ..))
    obtain ⟨k1, k2⟩ := sw_inv (p := p) P b (swStep p F (a, b)) hh.2 h1 h2
    rw [adj_cons, List.foldl_cons]
    refine ⟨k1, fun x => ?_⟩
    rw [k2 x, h3 x]
    simp only [List.mem_cons, exists_eq_or_imp]
    rw [or_assoc]
theorem sw_spec {p : Rat → Rat → Bool} {P : List Rat} {Q : Rat → Prop} (hP : Ris P) (h : ∀ ab ∈ adj P, ∀ x, ab.1 ≤ x → x < ab.2 → (p ab.1 ab.2 = true ↔ Q x)) (hQ : ∀ x, Q x → (∃ u ∈ P, u ≤ x) ∧ ∃ v ∈ P, x < v) : Can (sw p P) ∧ ∀ x, cov (sw p P) x ↔ Q x := by
  cases P with
  | nil =>
    refine ⟨can_nil, fun x => ⟨fun c => absurd c (cov_nil x), fun q => ?_⟩⟩
    obtain ⟨⟨u, m, _⟩, _⟩ := hQ x q
    simp at m
  | cons a P =>
    obtain ⟨k1, k2⟩ := sw_inv (p := p) P a [] hP can_nil (by simp)
    refine ⟨k1, fun x => (k2 x).trans ⟨?_, fun q => ?_⟩⟩
    · rintro (c | ⟨ab, m, h1, h2, h3⟩)
      · exact absurd c (cov_nil x)
      · exact (h ab m x h2 h3).mp h1
    · obtain ⟨h1, h2⟩ := hQ x q
      obtain ⟨ab, m, h3, h4⟩ := adj_has hP h1 h2
      exact .inr ⟨ab, m, (h ab m x h3 h4).mpr q, h3, h4⟩
theorem swStep_ends {p : Rat → Rat → Bool} {F : List (Rat × Rat)} {ab : Rat × Rat} {E : Rat → Prop} (hF : ∀ s ∈ F, E s.1 ∧ E s.2) (h : E ab.1 ∧ E ab.2) : ∀ s ∈ swStep p F ab, E s.1 ∧ E s.2 := by
  intro s m
  have last : ∀ s ∈ F ++ [ab], E s.1 ∧ E s.2 := fun s m => by
    rcases List.mem_append.mp m with m | m
    · exact hF s m
    · simp at m; subst m; exact h
  unfold swStep at m
  split at m
  · split at m
    · rename_i l hg
      split at m
      · rcases List.mem_append.mp m with m | m
        · exact hF s (List.dropLast_subset _ m)
        · simp at m; subst m
          exact ⟨(hF l (List.mem_of_getLast? hg)).1, h.2⟩
      · exact last s m
    · exact last s m
  · exact hF s m
theorem foldl_ends {p : Rat → Rat → Bool} {E : Rat → Prop} : ∀ (l : List (Rat × Rat)) (F : List (Rat × Rat)), (∀ s ∈ F, E s.1 ∧ E s.2) → (∀ s ∈ l, E s.1 ∧ E s.2) → ∀ s ∈ l.foldl (swStep p) F, E s.1 ∧ E s.2
  | [], F, hF, _ => hF
  | ab :: l, F, hF, hl => by
    rw [List.foldl_cons]
    exact foldl_ends l _ (swStep_ends hF (hl ab (List.mem_cons_self ..))) fun s m => hl s (List.mem_cons_of_mem _ m)
theorem sw_ends {p : Rat → Rat → Bool} {P : List Rat} (hP : Ris P) : ∀ s ∈ sw p P, s.1 ∈ P ∧ s.2 ∈ P :=
  foldl_ends (E := (· ∈ P)) (adj P) [] (by simp) fun s m => ⟨(adj_in hP s m).1, (adj_in hP s m).2.1⟩
/-! ### what one of some spans has -/
def cvr (L : List (Rat × Rat)) (a b : Rat) : Bool := L.any fun s => !decide (a < s.1) && !decide (s.2 < b)
def endsOf (L : List (Rat × Rat)) : List Rat := L.flatMap fun s => [s.1, s.2]
theorem mem_ends {L : List (Rat × Rat)} {x : Rat} : x ∈ endsOf L ↔ ∃ s ∈ L, x = s.1 ∨ x = s.2 := by simp [endsOf]
theorem cvr_iff {L : List (Rat × Rat)} {P : List Rat} (hP : Ris P) (hL : ∀ e ∈ endsOf L, e ∈ P) : ∀ ab ∈ adj P, ∀ x, ab.1 ≤ x → x < ab.2 → (cvr L ab.1 ab.2 = true ↔ cov L x) := by
  intro ab m x h1 h2
  obtain ⟨_, _, hlt, hb⟩ := adj_in hP ab m
  unfold cvr
  rw [List.any_eq_true]
  constructor
  · rintro ⟨s, hs, q⟩
    simp at q
    exact ⟨s, hs, by grind⟩
  · rintro ⟨s, hs, q1, q2⟩
    refine ⟨s, hs, ?_⟩
    have e1 := hb s.1 (hL _ (mem_ends.mpr ⟨s, hs, .inl rfl⟩))
    have e2 := hb s.2 (hL _ (mem_ends.mpr ⟨s, hs, .inr rfl⟩))
    simp
    grind
theorem cov_ends {L : List (Rat × Rat)} {P : List Rat} (hL : ∀ e ∈ endsOf L, e ∈ P) {x : Rat} (c : cov L x) : (∃ u ∈ P, u ≤ x) ∧ ∃ v ∈ P, x < v := by
  obtain ⟨s, hs, q1, q2⟩ := c
  exact ⟨⟨s.1, hL _ (mem_ends.mpr ⟨s, hs, .inl rfl⟩), q1⟩, s.2, hL _ (mem_ends.mpr ⟨s, hs, .inr rfl⟩), q2⟩
def plc (L : List (Rat × Rat)) : List Rat := insAll [] (endsOf L)
theorem plc_ris (L : List (Rat × Rat)) : Ris (plc L) := insAll_ris List.Pairwise.nil
theorem plc_mem {L : List (Rat × Rat)} {x : Rat} : x ∈ plc L ↔ x ∈ endsOf L := by simp [plc, insAll_mem]
/-- the told spans -/
def norm (L : List (Rat × Rat)) : List (Rat × Rat) := sw (cvr L) (plc L)
theorem norm_spec (L : List (Rat × Rat)) : Can (norm L) ∧ ∀ x, cov (norm L) x ↔ cov L x :=
  sw_spec (plc_ris L) (cvr_iff (plc_ris L) fun e h => plc_mem.mpr h) fun x c => cov_ends (fun e h => plc_mem.mpr h) c
theorem norm_ends {L : List (Rat × Rat)} : ∀ s ∈ norm L, s.1 ∈ endsOf L ∧ s.2 ∈ endsOf L := fun s m => by
  have := sw_ends (plc_ris L) s m
  exact ⟨plc_mem.mp this.1, plc_mem.mp this.2⟩
theorem norm_of {L N : List (Rat × Rat)} (h : Can N) (e : ∀ x, cov N x ↔ cov L x) : norm L = N := can_ext (norm_spec L).1 h fun x => ((norm_spec L).2 x).trans (e x).symm
/-! ### less, both -/
def nless (L M : List (Rat × Rat)) : List (Rat × Rat) := sw (fun a b => cvr L a b && !cvr M a b) (plc (L ++ M))
def nboth (L M : List (Rat × Rat)) : List (Rat × Rat) := sw (fun a b => cvr L a b && cvr M a b) (plc (L ++ M))
theorem ends_app (L M : List (Rat × Rat)) : endsOf (L ++ M) = endsOf L ++ endsOf M := by simp [endsOf]
theorem nless_spec (L M : List (Rat × Rat)) : Can (nless L M) ∧ ∀ x, cov (nless L M) x ↔ cov L x ∧ ¬ cov M x := by
  have h1 : ∀ e ∈ endsOf L, e ∈ plc (L ++ M) := fun e h => plc_mem.mpr (by rw [ends_app]; exact List.mem_append_left _ h)
  have h2 : ∀ e ∈ endsOf M, e ∈ plc (L ++ M) := fun e h => plc_mem.mpr (by rw [ends_app]; exact List.mem_append_right _ h)
  refine sw_spec (plc_ris _) (fun ab m x q1 q2 => ?_) fun x c => cov_ends h1 c.1
  have a := cvr_iff (plc_ris _) h1 ab m x q1 q2
  have b := cvr_iff (plc_ris _) h2 ab m x q1 q2
  rw [← a, ← b]
  simp
theorem nboth_spec (L M : List (Rat × Rat)) : Can (nboth L M) ∧ ∀ x, cov (nboth L M) x ↔ cov L x ∧ cov M x := by
  have h1 : ∀ e ∈ endsOf L, e ∈ plc (L ++ M) := fun e h => plc_mem.mpr (by rw [ends_app]; exact List.mem_append_left _ h)
  have h2 : ∀ e ∈ endsOf M, e ∈ plc (L ++ M) := fun e h => plc_mem.mpr (by rw [ends_app]; exact List.mem_append_right _ h)
  refine sw_spec (plc_ris _) (fun ab m x q1 q2 => ?_) fun x c => cov_ends h1 c.1
  have a := cvr_iff (plc_ris _) h1 ab m x q1 q2
  have b := cvr_iff (plc_ris _) h2 ab m x q1 q2
  rw [← a, ← b]
  simp
theorem sw_sub {p : Rat → Rat → Bool} {L : List (Rat × Rat)} : ∀ s ∈ sw p (plc L), s.1 ∈ endsOf L ∧ s.2 ∈ endsOf L := fun s m => by
  have := sw_ends (plc_ris L) s m
  exact ⟨plc_mem.mp this.1, plc_mem.mp this.2⟩
/-! ### whole numbers joined -/
def jStep (F : List (Int × Int)) (s : Int × Int) : List (Int × Int) := match F.getLast? with
  | some l => if s.1 ≤ l.2 then F.dropLast ++ [(l.1, max s.2 l.2)] else F ++ [s]
  | none => F ++ [s]
def jn (S : List (Int × Int)) : List (Int × Int) := S.foldl jStep []
section
variable {f : Int → Rat} (hf : ∀ a b, a < b ↔ f a < f b)
abbrev f2 (f : Int → Rat) (s : Int × Int) : Rat × Rat := (f s.1, f s.2)
include hf
theorem f_le (a b : Int) : a ≤ b ↔ f a ≤ f b := by
  have := hf b a
  rw [← Int.not_lt, ← Rat.not_lt, this]
theorem f_inj {a b : Int} (h : f a = f b) : a = b := by
  have h1 := f_le hf a b
  have h2 := f_le hf b a
  have := h1.mpr (by rw [h]; exact Rat.le_refl)
  have := h2.mpr (by rw [h]; exact Rat.le_refl)
  omega
theorem jn_inv : ∀ (S F : List (Int × Int)), S.Pairwise (fun s t => s.1 ≤ t.1) → (∀ s ∈ S, s.1 < s.2) → Can (F.map (f2 f)) → (∀ s ∈ F, ∀ t ∈ S, s.1 ≤ t.1) →
    Can ((S.foldl jStep F).map (f2 f)) ∧ ∀ x, cov ((S.foldl jStep F).map (f2 f)) x ↔ cov (F.map (f2 f)) x ∨ cov (S.map (f2 f)) x
  | [], F, _, _, hF, _ => by simp [hF, cov_nil]
  | s :: S, F, hS, hn, hF, hl => by
    obtain ⟨hs, hS'⟩ := List.pairwise_cons.mp hS
    have hn' : ∀ t ∈ S, t.1 < t.2 := fun t m => hn t (List.mem_cons_of_mem _ m)
    have s12 := hn s (List.mem_cons_self ..)
    have g12 := (hf _ _).mp s12
    rw [List.foldl_cons, List.map_cons]
    unfold jStep
    cases hg : F.getLast? with
    | none =>
      have : F = [] := List.getLast?_eq_none_iff.mp hg
      subst this
      obtain ⟨k1, k2⟩ := jn_inv S ([] ++ [s]) hS' hn' (by simp only [List.nil_append, List.map_cons, List.map_nil]; exact can_cons.mpr ⟨g12, fun t m => by simp at m, can_nil⟩) (fun a m t n => by simp at m; subst m; exact hs t n)
      refine ⟨k1, fun x => (k2 x).trans ?_⟩
      simp [cov_cons, cov_nil]
    | some l =>
      obtain ⟨D, rfl⟩ := List.getLast?_eq_some_iff.mp hg
      rw [List.map_append, List.map_cons, List.map_nil] at hF
      obtain ⟨cD, cl, cd⟩ := can_snoc.mp hF
      have ls := hl l (by simp) s (List.mem_cons_self ..)
      have fls := (f_le hf _ _).mp ls
      by_cases e : s.1 ≤ l.2
      · have fe := (f_le hf _ _).mp e
        simp only [e, if_true, List.dropLast_concat]
        have hm : (f (max s.2 l.2) = f s.2 ∧ f l.2 ≤ f s.2) ∨ (f (max s.2 l.2) = f l.2 ∧ f s.2 ≤ f l.2) := by
          rcases Int.le_total s.2 l.2 with z | z
          · exact .inr ⟨by rw [Int.max_eq_right z], (f_le hf _ _).mp z⟩
          · exact .inl ⟨by rw [Int.max_eq_left z], (f_le hf _ _).mp z⟩
        obtain ⟨k1, k2⟩ := jn_inv S (D ++ [(l.1, max s.2 l.2)]) hS' hn' (by
          rw [List.map_append, List.map_cons, List.map_nil]
          refine can_snoc.mpr ⟨cD, ?_, cd⟩
          show f l.1 < f (max s.2 l.2)
          have cl : f l.1 < f l.2 := cl
          grind) (fun a m t n => by
            rcases List.mem_append.mp m with m | m
            · exact hl a (List.mem_append_left _ m) t (List.mem_cons_of_mem _ n)
            · simp at m; subst m
              exact hl l (by simp) t (List.mem_cons_of_mem _ n))
        refine ⟨k1, fun x => (k2 x).trans ?_⟩
        simp only [List.map_append, List.map_cons, List.map_nil, cov_app, cov_cons, cov_nil, or_false]
        have : (f l.1 ≤ x ∧ x < f (max s.2 l.2)) ↔ (f l.1 ≤ x ∧ x < f l.2) ∨ (f s.1 ≤ x ∧ x < f s.2) := by grind
        rw [this]
        grind
      · have fe : f l.2 < f s.1 := (hf _ _).mp (by omega)
        simp only [e, if_false]
        obtain ⟨k1, k2⟩ := jn_inv S (D ++ [l] ++ [s]) hS' hn' (by
          rw [List.map_append, List.map_cons, List.map_nil]
          refine can_snoc.mpr ⟨by rw [List.map_append, List.map_cons, List.map_nil]; exact hF, g12, fun t m => ?_⟩
          rw [List.map_append, List.map_cons, List.map_nil] at m
          show t.2 < f s.1
          rcases List.mem_append.mp m with m | m
          · have := cd t m
            have cl : f l.1 < f l.2 := cl
            have this : t.2 < f l.1 := this
            grind
          · simp at m; subst m; exact fe) (fun a m t n => by
            rcases List.mem_append.mp m with m | m
            · exact hl a m t (List.mem_cons_of_mem _ n)
            · simp at m; subst m; exact hs t n)
        refine ⟨k1, fun x => (k2 x).trans ?_⟩
        simp only [List.map_append, List.map_cons, List.map_nil, cov_app, cov_cons, cov_nil, or_false]
        grind
theorem jn_spec {S : List (Int × Int)} (hS : S.Pairwise (fun s t => s.1 ≤ t.1)) (hn : ∀ s ∈ S, s.1 < s.2) : Can ((jn S).map (f2 f)) ∧ ∀ x, cov ((jn S).map (f2 f)) x ↔ cov (S.map (f2 f)) x := by
  obtain ⟨h1, h2⟩ := jn_inv hf S [] hS hn can_nil (fun a m => by simp at m)
  refine ⟨h1, fun x => (h2 x).trans ?_⟩
  simp [cov_nil]
theorem cov_full (S : List (Int × Int)) (x : Rat) : cov ((S.filter fun s => decide (s.1 < s.2)).map (f2 f)) x ↔ cov (S.map (f2 f)) x := by
  constructor
  · rintro ⟨s, m, h⟩
    obtain ⟨t, m', rfl⟩ := List.mem_map.mp m
    exact ⟨_, List.mem_map.mpr ⟨t, (List.mem_filter.mp m').1, rfl⟩, h⟩
  · rintro ⟨s, m, h⟩
    obtain ⟨t, m', rfl⟩ := List.mem_map.mp m
    refine ⟨_, List.mem_map.mpr ⟨t, List.mem_filter.mpr ⟨m', ?_⟩, rfl⟩, h⟩
    have : f t.1 < f t.2 := by have := h.1; have := h.2; grind
    simpa using (hf _ _).mpr this
theorem cov_perm {S T : List (Int × Int)} (h : S.Perm T) (x : Rat) : cov (S.map (f2 f)) x ↔ cov (T.map (f2 f)) x := by
  unfold cov
  constructor
  · rintro ⟨s, m, k⟩; exact ⟨s, (h.map _).mem_iff.mp m, k⟩
  · rintro ⟨s, m, k⟩; exact ⟨s, (h.map _).mem_iff.mpr m, k⟩
end
/-! ### walks over frozen lists and over lists of the store -/
structure Lp (lp : (D → En → SR) → List D → En → SR) (st : Sto) : Prop where
  nil : ∀ b e, lp b [] ⟨e, st⟩ = .nx ⟨e, st⟩
  cons : ∀ b x xs e, lp b (x :: xs) ⟨e, st⟩ = match b x ⟨e, st⟩ with
    | .nx E' => lp b xs E'
    | .ct E' => lp b xs E'
    | .bk E' => .nx E'
    | r => r
theorem lpD (st : Sto) : Lp forD st := ⟨fun b e => rfl, fun b x xs e => by
  show (match b x ⟨e, st⟩ with | .nx e' => forD b xs e' | .ct e' => forD b xs e' | .bk e' => .nx e' | r => r) = _
  cases b x ⟨e, st⟩ <;> rfl⟩
theorem lpP {n : Nat} {L : List D} {st : Sto} (h : stLst st n = some L) : Lp (forPD n L) st := ⟨fun b e => by unfold forPD; rw [if_pos h], fun b x xs e => by
  show (open Classical in if stLst st n = some L then _ else _) = _
  rw [if_pos h]
  try (cases b x ⟨e, st⟩ <;> rfl)⟩
end Dn
/-! texts of fractions and spans, plain -/
namespace Dn
open PySem PySem.Spec PyProof.Rows L2 TL
theorem itxt_nat (n : Nat) : tl (itxt (n : Int)) = numL n := tl_num n
theorem itxt_pos {i : Int} (h : 0 ≤ i) : tl (itxt i) = numL i.toNat := by
  obtain ⟨n, rfl⟩ := Int.eq_ofNat_of_zero_le h
  exact tl_num n
theorem empty_app (x : Str) : Str.empty ++ x = x := ext_tl (by rw [tl_append]; rfl)
theorem numL_len2 {n k : Nat} (h : n < 2 ^ (3 * (k + 1))) : (numL n).length ≤ k + 1 := by
  refine numL_len (by omega) (Nat.lt_of_lt_of_le h ?_)
  rw [Nat.pow_mul]
  exact Nat.pow_le_pow_left (by decide) _
theorem _root_.TL.numL_len2' {n k : Nat} (h : n < 2 ^ (3 * (k + 1))) : (numL n).length ≤ k + 1 := numL_len2 h
def ftxt (q : Rat) : Str := if q.den = 1 then itxt q.num else itxt q.num ++ "/" ++ itxt q.den
theorem tl_slash : tl (Str.ofString "/") = [47] := rfl
theorem tl_dash : tl (Str.ofString "-") = [45] := rfl
theorem tl_blank : tl (Str.ofString " ") = [32] := rfl
theorem tl_ftxt {q : Rat} (h : 0 ≤ q) : tl (ftxt q) = numL q.num.toNat ++ (if q.den = 1 then [] else 47 :: numL q.den) := by
  have hn : 0 ≤ q.num := Rat.num_nonneg.mpr h
  unfold ftxt
  split
  · rw [itxt_pos hn]; simp
  · rw [tl_append, tl_append, tl_slash, itxt_pos hn, itxt_nat]; simp
theorem ftxt_free {q : Rat} (h : 0 ≤ q) {c : Nat} (hc : c < 47 ∨ 57 < c) : c ∉ tl (ftxt q) := by
  rw [tl_ftxt h]
  intro m
  rcases List.mem_append.mp m with m | m
  · exact numL_free (by omega) m
  · split at m
    · simp at m
    · rcases List.mem_cons.mp m with rfl | m
      · omega
      · exact numL_free (by omega) m
theorem ftxt_inj {q r : Rat} (hq : 0 ≤ q) (hr : 0 ≤ r) (h : ftxt q = ftxt r) : q = r := by
  have nq : 0 ≤ q.num := Rat.num_nonneg.mpr hq
  have nr : 0 ≤ r.num := Rat.num_nonneg.mpr hr
  have key : ∀ {q : Rat}, 0 ≤ q → Txt.partition (ftxt q) "/" = if q.den = 1 then (itxt q.num, Str.empty, Str.empty) else (itxt q.num, Str.ofString "/", itxt q.den) := fun {q} h => by
    have hn : 0 ≤ q.num := Rat.num_nonneg.mpr h
    have free : 47 ∉ tl (itxt q.num) := by rw [itxt_pos hn]; exact numL_free (by omega)
    unfold ftxt
    split
    · exact partition_none tl_slash free
    · exact partition_app tl_slash free
  have e := (key hq).symm.trans ((congrArg (fun x => Txt.partition x "/") h).trans (key hr))
  have num : itxt q.num = itxt r.num → q.num = r.num := fun e => by
    have := congrArg tl e
    rw [itxt_pos nq, itxt_pos nr] at this
    have := numL_inj this
    omega
  have den : itxt q.den = itxt r.den → q.den = r.den := fun e => by
    have := congrArg tl e
    rw [itxt_nat, itxt_nat] at this
    exact numL_inj this
  have ne : Str.empty ≠ Str.ofString "/" := fun z => by have := congrArg tl z; rw [tl_slash] at this; cases this
  by_cases c : q.den = 1 <;> by_cases d : r.den = 1
  · simp only [c, d, if_true, Prod.mk.injEq] at e
    exact Rat.ext (num e.1) (by rw [c, d])
  · simp only [c, d, if_true, if_false, Prod.mk.injEq] at e
    exact absurd e.2.1 ne
  · simp only [c, d, if_true, if_false, Prod.mk.injEq] at e
    exact absurd e.2.1.symm ne
  · simp only [c, d, if_false, Prod.mk.injEq] at e
    exact Rat.ext (num e.1) (den e.2.2)
theorem ftxt_len {q : Rat} {k : Nat} (h : 0 ≤ q) (hs : Sz (3 * (k + 1)) q) : (ftxt q).length ≤ 2 * k + 3 := by
  rw [len_tl, tl_ftxt h]
  have hn : 0 ≤ q.num := Rat.num_nonneg.mpr h
  have e : q.num.toNat = q.num.natAbs := by omega
  have h1 := numL_len2 (n := q.num.toNat) (k := k) (by rw [e]; exact hs.1)
  have h2 := numL_len2 (n := q.den) (k := k) hs.2
  split <;> simp <;> omega
def spTxt (p : Rat × Rat) : Str := ftxt p.1 ++ "-" ++ ftxt p.2
def shTxt (L : List (Rat × Rat)) : Str := if L = [] then "none" else Txt.join " " (L.map spTxt)
def Pos2 (L : List (Rat × Rat)) : Prop := ∀ p ∈ L, 0 ≤ p.1 ∧ 0 ≤ p.2
theorem spTxt_part {p : Rat × Rat} (h : 0 ≤ p.1) : Txt.partition (spTxt p) "-" = (ftxt p.1, Str.ofString "-", ftxt p.2) := partition_app tl_dash (ftxt_free h (by omega))
theorem spTxt_inj {p q : Rat × Rat} (hp : 0 ≤ p.1 ∧ 0 ≤ p.2) (hq : 0 ≤ q.1 ∧ 0 ≤ q.2) (h : spTxt p = spTxt q) : p = q := by
  have e := (spTxt_part hp.1).symm.trans ((congrArg (fun x => Txt.partition x "-") h).trans (spTxt_part hq.1))
  simp only [Prod.mk.injEq] at e
  exact Prod.ext (ftxt_inj hp.1 hq.1 e.1) (ftxt_inj hp.2 hq.2 e.2.2)
theorem spTxt_free {p : Rat × Rat} (h : 0 ≤ p.1 ∧ 0 ≤ p.2) {c : Nat} (hc : c < 45 ∨ c = 46 ∨ 57 < c) : c ∉ tl (spTxt p) := by
  unfold spTxt
  rw [tl_append, tl_append, tl_dash]
  intro m
  rcases List.mem_append.mp m with m | m
  · rcases List.mem_append.mp m with m | m
    · exact ftxt_free h.1 (by omega) m
    · simp at m; omega
  · exact ftxt_free h.2 (by omega) m
theorem joinL_mem {S : List Nat} {c : Nat} : ∀ {ps : List (List Nat)}, c ∈ joinL S ps → c ∈ S ∨ ∃ p ∈ ps, c ∈ p
  | [], h => by simp [joinL] at h
  | [p], h => .inr ⟨p, by simp, h⟩
  | p :: q :: r, h => by
    rcases List.mem_append.mp h with h | h
    · exact .inr ⟨p, by simp, h⟩
    · rcases List.mem_append.mp h with h | h
      · exact .inl h
      · rcases joinL_mem h with h | ⟨z, hz, h⟩
        · exact .inl h
        · exact .inr ⟨z, List.mem_cons_of_mem _ hz, h⟩
theorem shTxt_split {L : List (Rat × Rat)} (hL : Pos2 L) (hn : L ≠ []) : Txt.split (shTxt L) " " = L.map spTxt := by
  unfold shTxt
  rw [if_neg hn]
  refine split_join (s := 32) (S := []) tl_blank (by decide +kernel) (by simpa using hn) fun p m => ?_
  obtain ⟨q, hq, rfl⟩ := List.mem_map.mp m
  exact spTxt_free (hL q hq) (by omega)
theorem shTxt_none {L : List (Rat × Rat)} (hL : Pos2 L) (hn : L ≠ []) : shTxt L ≠ Str.ofString "none" := by
  intro h
  have h1 : 110 ∈ tl (Str.ofString "none") := by decide
  rw [← h] at h1
  unfold shTxt at h1
  rw [if_neg hn, join_eq, tl_join] at h1
  rcases joinL_mem h1 with z | ⟨z, hz, m⟩
  · rw [tl_blank] at z; simp at z
  · rw [List.map_map] at hz
    obtain ⟨q, hq, rfl⟩ := List.mem_map.mp hz
    exact spTxt_free (hL q hq) (c := 110) (by omega) m
theorem map_sp_inj : ∀ {L M : List (Rat × Rat)}, Pos2 L → Pos2 M → L.map spTxt = M.map spTxt → L = M
  | [], [], _, _, _ => rfl
  | [], _ :: _, _, _, h => by simp at h
  | _ :: _, [], _, _, h => by simp at h
  | p :: L, q :: M, hL, hM, h => by
    simp only [List.map_cons, List.cons.injEq] at h
    rw [spTxt_inj (hL p (List.mem_cons_self ..)) (hM q (List.mem_cons_self ..)) h.1, map_sp_inj (fun r m => hL r (List.mem_cons_of_mem _ m)) (fun r m => hM r (List.mem_cons_of_mem _ m)) h.2]
theorem shTxt_inj {L M : List (Rat × Rat)} (hL : Pos2 L) (hM : Pos2 M) (h : shTxt L = shTxt M) : L = M := by
  by_cases c : L = [] <;> by_cases d : M = []
  · rw [c, d]
  · have : shTxt L = Str.ofString "none" := by unfold shTxt; rw [if_pos c]
    exact absurd (h.symm.trans this) (shTxt_none hM d)
  · have : shTxt M = Str.ofString "none" := by unfold shTxt; rw [if_pos d]
    exact absurd (h.trans this) (shTxt_none hL c)
  · have := (shTxt_split hL c).symm.trans ((congrArg (fun x => Txt.split x " ") h).trans (shTxt_split hM d))
    exact map_sp_inj hL hM this
theorem spTxt_len {p : Rat × Rat} {k : Nat} (h : 0 ≤ p.1 ∧ 0 ≤ p.2) (h1 : Sz (3 * (k + 1)) p.1) (h2 : Sz (3 * (k + 1)) p.2) : (spTxt p).length ≤ 4 * k + 7 := by
  have a := ftxt_len h.1 h1
  have b := ftxt_len h.2 h2
  rw [len_tl] at a b
  unfold spTxt
  rw [len_tl, tl_append, tl_append, tl_dash, List.length_append, List.length_append, List.length_singleton]
  omega
/-! ### == of lists of spans, of truths -/
theorem pur_dPair (p : Rat × Rat) : pur (dPair p) = true := by simp [dPair, dF, pur, purL]
theorem dep_dPair (p : Rat × Rat) : dep (dPair p) ≤ 2 := by simp [dPair, dF, dep, depL]
theorem dPair_inj (a b : Rat × Rat) (h : dPair a = dPair b) : a = b := by
  simp only [dPair, D.tup.injEq, List.cons.injEq, and_true] at h
  exact Prod.ext (dF_inj.mp h.1) (dF_inj.mp h.2)
@[simp] theorem eq_pairs {l m : List (Rat × Rat)} {st : Sto} : oEq (.lst (l.map dPair)) (.lst (m.map dPair)) st = .val .P (.bl (decide (l = m))) st :=
  eq_lst pur_dPair (fun p => Nat.le_trans (dep_dPair p) (by decide)) dPair_inj l m st
@[simp] theorem ne_pairs {l m : List (Rat × Rat)} {st : Sto} : oNe (.lst (l.map dPair)) (.lst (m.map dPair)) st = .val .P (.bl (!decide (l = m))) st := ne_of_eq eq_pairs
theorem eq_pairs0 {l : List (Rat × Rat)} {st : Sto} : oNe (.lst (l.map dPair)) (.lst (l.map dPair)) st = .val .P (.bl false) st := by simp
theorem eq_self {d : D} (hp : pur d = true) (hd : dep d ≤ 64) (st : Sto) : oEq d d st = .val .P (.bl true) st := by
  have := eq_of st hp hp hd hd (p := True) (by simp)
  simpa using this
/-- lists of truths -/
theorem eqv_bls : ∀ l m : List Bool, PyData.eqvAll (pyL (l.map .bl)) (pyL (m.map .bl)) = decide (l = m)
  | [], [] => by simp [pyL, PyData.eqvAll]
  | [], b :: m => by simp [pyL, PyData.eqvAll]
  | a :: l, [] => by simp [pyL, PyData.eqvAll]
  | a :: l, b :: m => by
    have ih := eqv_bls l m
    cases a <;> cases b <;> simp [pyL, PyData.eqvAll, py, PyData.eqv, ih]
theorem lay_bls : ∀ l : List Bool, isPyL (l.map .bl) = true ∧ PyData.canLayAll0 (pyL (l.map .bl)) = true ∧ PyData.depthAll (pyL (l.map .bl)) = 0
  | [] => by simp [isPyL, pyL, PyData.canLayAll0, PyData.depthAll]
  | a :: l => by
    obtain ⟨h1, h2, h3⟩ := lay_bls l
    simp [isPyL, isPy, pyL, py, PyData.canLayAll0, PyData.canLay0, PyData.depthAll, PyData.depth, h1, h2, h3]
theorem eq_bls (l m : List Bool) (st : Sto) : oEq (.lst (l.map .bl)) (.lst (m.map .bl)) st = .val .P (.bl (decide (l = m))) st := by
  obtain ⟨h1, h2, h3⟩ := lay_bls l
  obtain ⟨k1, k2, k3⟩ := lay_bls m
  have e := eqv_bls l m
  simp [oEq, eqAny, scalD, isPy, h1, k1, py, SeqAt.shaped, PyData.canLay0, PyData.depth, h2, h3, k2, k3, PyData.eqv, e]
end Dn
namespace Dn
theorem map_eraseIdx {α β : Type} (f : α → β) : ∀ (l : List α) (k : Nat), (l.map f).eraseIdx k = (l.eraseIdx k).map f
  | [], k => by simp
  | a :: l, 0 => by simp
  | a :: l, k + 1 => by simp [map_eraseIdx f l k]
theorem perm_eraseIdx {α : Type} : ∀ {l : List α} {k : Nat} (h : k < l.length), (l[k] :: l.eraseIdx k).Perm l
  | a :: l, 0, _ => by simp
  | a :: l, k + 1, h => by
    have := perm_eraseIdx (l := l) (k := k) (by simpa using h)
    simp only [List.getElem_cons_succ, List.eraseIdx_cons_succ]
    exact (List.Perm.swap a _ _).trans (this.cons a)
end Dn
namespace Dn
open PySem PySem.Spec PyProof.Rows L2
/-! ### measures: fractions over one bottom -/
def Ov (D : Int) (q : Rat) : Prop := ∃ n : Int, q * (D : Rat) = (n : Rat)
theorem Ov.zero (D : Int) : Ov D 0 := ⟨0, by simp⟩
theorem Ov.one (D : Int) : Ov D 1 := ⟨D, by simp [Rat.one_mul]⟩
theorem Ov.add {D : Int} {a b : Rat} (h : Ov D a) (k : Ov D b) : Ov D (a + b) := by
  obtain ⟨m, h⟩ := h
  obtain ⟨n, k⟩ := k
  exact ⟨m + n, by rw [Rat.add_mul, h, k, Rat.intCast_add]⟩
theorem Ov.sub {D : Int} {a b : Rat} (h : Ov D a) (k : Ov D b) : Ov D (a - b) := by
  obtain ⟨m, h⟩ := h
  obtain ⟨n, k⟩ := k
  exact ⟨m - n, by rw [Rat.intCast_sub, ← h, ← k]; grind⟩
theorem Ov.mul {D E : Int} {a : Rat} (h : Ov D a) : Ov (D * E) a := by
  obtain ⟨m, h⟩ := h
  exact ⟨m * E, by rw [Rat.intCast_mul, Rat.intCast_mul, ← h]; grind⟩
theorem Ov.mulL {D E : Int} {a : Rat} (h : Ov D a) : Ov (E * D) a := by rw [Int.mul_comm]; exact h.mul
theorem Ov.int {D : Int} {a : Rat} (n : Int) (h : Ov D a) : Ov D ((n : Rat) * a) := by
  obtain ⟨m, h⟩ := h
  exact ⟨n * m, by rw [Rat.intCast_mul, ← h]; grind⟩
theorem Ov.qf {D : Int} (hD : 0 < D) (a : Int) : Ov D (Rat.divInt a D) := ⟨a, by
  rw [Rat.divInt_eq_div]
  exact Rat.div_mul_cancel (by have := (Rat.intCast_pos (a := D)).mpr hD; grind)⟩
theorem Ov.sz {D : Int} {q : Rat} {a b : Nat} (h : Ov D q) (hD : 0 < D) (h2 : D.natAbs < 2 ^ a) (q0 : 0 ≤ q) (q1 : q ≤ ((2 ^ b : Int) : Rat)) : Sz (a + b) q := by
  obtain ⟨n, h⟩ := h
  have hd := (Rat.intCast_pos (a := D)).mpr hD
  have e : q = Rat.divInt n D := by
    rw [Rat.divInt_eq_div, ← h, Rat.div_def, Rat.mul_assoc, Rat.mul_inv_cancel _ (by grind), Rat.mul_one]
  rw [e]
  have n0 : 0 ≤ n := by
    have : (0 : Rat) ≤ (n : Rat) := by rw [← h]; exact Rat.mul_nonneg q0 (Rat.le_of_lt hd)
    exact Rat.intCast_nonneg.mp this
  have n1 : n ≤ 2 ^ b * D := by
    have : (n : Rat) ≤ ((2 ^ b * D : Int) : Rat) := by
      rw [← h, Rat.intCast_mul]
      exact Rat.mul_le_mul_of_nonneg_right q1 (Rat.le_of_lt hd)
    exact Rat.intCast_le_intCast.mp this
  have n2 : n.natAbs < 2 ^ (a + b) := by
    have h3 : n.natAbs ≤ 2 ^ b * D.natAbs := by
      have : (n.natAbs : Int) ≤ ((2 ^ b * D.natAbs : Nat) : Int) := by
        rw [Int.natAbs_of_nonneg n0, Int.natCast_mul, Int.natAbs_of_nonneg (by omega)]
        simpa using n1
      exact Int.ofNat_le.mp this
    have h4 : 2 ^ b * D.natAbs < 2 ^ b * 2 ^ a := Nat.mul_lt_mul_of_pos_left h2 (Nat.two_pow_pos b)
    rw [Nat.pow_add, Nat.mul_comm (2 ^ a)]
    omega
  exact Sz.mk n2 (Nat.lt_of_lt_of_le h2 (Nat.pow_le_pow_right (by decide) (by omega))) (by omega)
def prodW (rows : List (Int × Int)) : Int := rows.foldr (fun r a => r.1 * a) 1
theorem prodW_pos : ∀ {rows : List (Int × Int)}, (∀ r ∈ rows, RowOk r) → 0 < prodW rows ∧ prodW rows ≤ 1000 ^ rows.length
  | [], _ => by simp [prodW]
  | r :: rows, h => by
    obtain ⟨h1, h2⟩ := prodW_pos (rows := rows) fun x m => h x (List.mem_cons_of_mem _ m)
    obtain ⟨a, b, _, _⟩ := h r (List.mem_cons_self ..)
    show 0 < r.1 * prodW rows ∧ r.1 * prodW rows ≤ _
    refine ⟨Int.mul_pos (by omega) h1, ?_⟩
    rw [List.length_cons, Int.pow_succ, Int.mul_comm]
    exact Int.mul_le_mul h2 (by omega) (by omega) (by omega)
theorem prodW_dvd : ∀ {rows : List (Int × Int)} {i : Nat} (h : i < rows.length), ∃ e, prodW rows = rows[i].1 * e
  | r :: rows, 0, _ => ⟨prodW rows, rfl⟩
  | r :: rows, i + 1, h => by
    obtain ⟨e, he⟩ := prodW_dvd (rows := rows) (i := i) (by simpa using h)
    exact ⟨r.1 * e, by show r.1 * prodW rows = _; rw [he]; simp only [List.getElem_cons_succ]; grind⟩
theorem bq_ov {rows : List (Int × Int)} (hr : RowsOk 8 rows) (i : Nat) : Ov (wid rows) (bq rows i) := Ov.qf (wid_pos hr) _
theorem wpart_ov {rows : List (Int × Int)} (hr : RowsOk 8 rows) {g : Int} {x y : Rat} (hx : Ov g x) (hy : Ov g y) {i : Nat} (h : i < rows.length) : Ov (g * prodW rows) (wpart x y rows i) := by
  unfold wpart
  split
  · have l1 : Ov (g * wid rows) (lo x rows i) := by
      unfold lo; split
      · exact (bq_ov hr i).mulL
      · exact hx.mul
    have l2 : Ov (g * wid rows) (hi y rows i) := by
      unfold hi; split
      · exact (bq_ov hr (i + 1)).mulL
      · exact hy.mul
    obtain ⟨n, hn⟩ := l2.sub l1
    obtain ⟨e, he⟩ := prodW_dvd h
    have hw := wid_pos hr
    have hwi := (hr.2.2.1 rows[i] (List.getElem_mem h)).1
    have w1 := (Rat.intCast_pos (a := wid rows)).mpr hw
    have w2 := (Rat.intCast_pos (a := rows[i].1)).mpr (by omega)
    have hb : bq rows (i + 1) - bq rows i = (rows[i].1 : Rat) / (wid rows : Rat) := by
      unfold bq
      rw [pre_succ h, Rat.divInt_eq_div, Rat.divInt_eq_div, Rat.intCast_add, Rat.div_def, Rat.div_def, Rat.div_def]
      grind
    refine ⟨rows[i].2 * n * e, ?_⟩
    unfold wseg
    rw [vq_eq h, hb, he, Rat.intCast_mul, Rat.intCast_mul, Rat.intCast_mul, Rat.intCast_mul, ← hn, Rat.intCast_mul]
    rw [Rat.div_def, Rat.div_def, Rat.inv_mul_rev, Rat.inv_inv]
    have w3 : (rows[i].1 : Rat) * (rows[i].1 : Rat)⁻¹ = 1 := Rat.mul_inv_cancel _ (by grind)
    grind
  · exact Ov.zero _
theorem wq_ov {rows : List (Int × Int)} (hr : RowsOk 8 rows) {g : Int} {x y : Rat} (hx : Ov g x) (hy : Ov g y) : Ov (g * prodW rows) (wq x y rows) := by
  unfold wq
  have : ∀ k, k ≤ rows.length → Ov (g * prodW rows) (sumR (wpart x y rows) k) := by
    intro k
    induction k with
    | zero => intro _; exact Ov.zero _
    | succ k ih => intro h; exact (ih (by omega)).add (wpart_ov hr hx hy (by omega))
  exact this _ (Nat.le_refl _)
theorem wq_le {rows : List (Int × Int)} (hr : RowsOk 8 rows) {x y : Rat} (h0 : 0 ≤ x) (h1 : x ≤ y) (h2 : y ≤ 1) : wq x y rows ≤ wq 0 1 rows := by
  have a := wq_add hr h0 (show x ≤ 1 by grind)
  have b := wq_add hr h1 h2
  have c := wq_nonneg hr 0 x
  have d := wq_nonneg hr y 1
  grind
theorem sumv_le : ∀ {rows : List (Int × Int)}, (∀ r ∈ rows, RowOk r) → (rows.map (·.2)).sum ≤ 1000000000 * rows.length
  | [], _ => by simp
  | r :: rows, h => by
    have h1 := sumv_le (rows := rows) fun x m => h x (List.mem_cons_of_mem _ m)
    obtain ⟨_, _, _, b⟩ := h r (List.mem_cons_self ..)
    simp only [List.map_cons, List.sum_cons, List.length_cons]
    omega
theorem tot_le {rows : List (Int × Int)} (hr : RowsOk 8 rows) : wq 0 1 rows ≤ ((2 ^ 33 : Int) : Rat) := by
  rw [wq_all hr]
  refine Rat.intCast_le_intCast.mpr ?_
  have := sumv_le hr.2.2.1
  have := hr.2.1
  omega
/-- a span on the grid of g -/
def Gd (g : Int) (p : Rat × Rat) : Prop := Ov g p.1 ∧ Ov g p.2 ∧ 0 ≤ p.1 ∧ p.1 ≤ p.2 ∧ p.2 ≤ 1
def lenS (L : List (Rat × Rat)) : Rat := L.foldr (fun p a => p.2 - p.1 + a) 0
def wS (rows : List (Int × Int)) (L : List (Rat × Rat)) : Rat := L.foldr (fun p a => wq p.1 p.2 rows + a) 0
theorem Gd.sz {g : Int} {p : Rat × Rat} {a : Nat} (h : Gd g p) (hg : 0 < g) (h2 : g.natAbs < 2 ^ a) : Sz a p.1 ∧ Sz a p.2 := by
  obtain ⟨h1, h3, h4, h5, h6⟩ := h
  exact ⟨h1.sz (b := 0) hg h2 h4 (by simp; grind), h3.sz (b := 0) hg h2 (by grind) (by simpa using h6)⟩
theorem ne_self {d : D} (hp : pur d = true) (hd : dep d ≤ 64) (st : Sto) : oNe d d st = .val .P (.bl false) st := ne_of_eq (eq_self hp hd st)
theorem ne_bls (l m : List Bool) (st : Sto) : oNe (.lst (l.map .bl)) (.lst (m.map .bl)) st = .val .P (.bl (!decide (l = m))) st := ne_of_eq (eq_bls l m st)
theorem purL_pairs : ∀ l : List (Rat × Rat), purL (l.map dPair) = true
  | [] => rfl
  | p :: l => by simp only [List.map_cons, purL, pur_dPair, purL_pairs l, Bool.and_self]
theorem depL_pairs : ∀ l : List (Rat × Rat), depL (l.map dPair) ≤ 2
  | [] => by simp [depL]
  | p :: l => by
    have h1 := dep_dPair p
    have h2 := depL_pairs l
    simp only [List.map_cons, depL]
    omega
theorem ins_len (q : Rat) (l : List Rat) : (ins q l).length ≤ l.length + 1 := by
  have := ahead_le q l
  unfold ins
  split <;> simp <;> omega
theorem ins_sz {s : Nat} {q : Rat} {l : List Rat} (hl : ∀ a ∈ l, Sz s a) (hq : Sz s q) : ∀ a ∈ ins q l, Sz s a := by
  intro a m
  rcases mem_ins.mp m with rfl | m
  · exact hq
  · exact hl a m
theorem insAll_len : ∀ (qs l : List Rat), (insAll l qs).length ≤ l.length + qs.length
  | [], l => by simp [insAll]
  | q :: qs, l => by
    have := insAll_len qs (ins q l)
    have := ins_len q l
    simp only [insAll, List.length_cons]; omega
end Dn
namespace Dn
open PySem PySem.Spec PyProof.Rows L2
/-! ### measures of canonical lists, by sums over neighbouring places -/
/-- additive between places that are 0 to 1 -/
def Add (μ : Rat → Rat → Rat) : Prop := ∀ x z y, x ≤ z → z ≤ y → μ x z + μ z y = μ x y
def msr (μ : Rat → Rat → Rat) (L : List (Rat × Rat)) : Rat := L.foldr (fun p a => μ p.1 p.2 + a) 0
def smr (μ : Rat → Rat → Rat) (f : Rat → Rat → Bool) (A : List (Rat × Rat)) : Rat := A.foldr (fun p a => (if f p.1 p.2 = true then μ p.1 p.2 else 0) + a) 0
theorem msr_cons (μ : Rat → Rat → Rat) (p : Rat × Rat) (L : List (Rat × Rat)) : msr μ (p :: L) = μ p.1 p.2 + msr μ L := rfl
theorem smr_cons (μ : Rat → Rat → Rat) (f : Rat → Rat → Bool) (p : Rat × Rat) (A : List (Rat × Rat)) : smr μ f (p :: A) = (if f p.1 p.2 = true then μ p.1 p.2 else 0) + smr μ f A := rfl
theorem Add.nil {μ : Rat → Rat → Rat} (h : Add μ) (x : Rat) : μ x x = 0 := by
  have := h x x x Rat.le_refl Rat.le_refl
  grind
theorem smr_congr {μ : Rat → Rat → Rat} {f g : Rat → Rat → Bool} : ∀ {A : List (Rat × Rat)}, (∀ p ∈ A, f p.1 p.2 = g p.1 p.2) → smr μ f A = smr μ g A
  | [], _ => rfl
  | p :: A, h => by rw [smr_cons, smr_cons, h p (List.mem_cons_self ..), smr_congr fun q m => h q (List.mem_cons_of_mem _ m)]
theorem smr_none {μ : Rat → Rat → Rat} {f : Rat → Rat → Bool} : ∀ {A : List (Rat × Rat)}, (∀ p ∈ A, f p.1 p.2 = false) → smr μ f A = 0
  | [], _ => rfl
  | p :: A, h => by
    rw [smr_cons, h p (List.mem_cons_self ..), smr_none fun q m => h q (List.mem_cons_of_mem _ m)]
    simp [Rat.add_zero]
/-- does the span from u to v hold all from a to b -/
def hold (u v a b : Rat) : Bool := !decide (a < u) && !decide (v < b)
theorem cvr_cons (s : Rat × Rat) (L : List (Rat × Rat)) (a b : Rat) : cvr (s :: L) a b = (hold s.1 s.2 a b || cvr L a b) := by simp [cvr, hold]
theorem ris_cons {a : Rat} {P : List Rat} (h : Ris (a :: P)) : Ris P ∧ ∀ b ∈ P, a < b := by
  unfold Ris at *
  exact ⟨(List.pairwise_cons.mp h).2, (List.pairwise_cons.mp h).1⟩
theorem one1 {μ : Rat → Rat → Rat} (hA : Add μ) {u v : Rat} : ∀ (P : List Rat) (a : Rat), Ris (a :: P) → u ≤ a → v ∈ a :: P → smr μ (hold u v) (adj (a :: P)) = μ a v
  | [], a, _, _, hv => by
    rw [List.mem_singleton.mp hv, hA.nil]; rfl
  | b :: P, a, hR, hu, hv => by
    obtain ⟨hR1, hlt⟩ := ris_cons hR
    have hab := hlt b (List.mem_cons_self ..)
    rw [adj_cons, smr_cons]
    by_cases c : v = a
    · subst c
      rw [hA.nil, smr_none]
      · have : hold u v v b = false := by simp [hold, hab]
        rw [this]; simp [Rat.add_zero]
      · intro p m
        obtain ⟨m1, m2, m3, m4⟩ := adj_in hR1 p m
        have h1 := hlt _ m2
        simp [hold, h1]
    · have hv' : v ∈ b :: P := (List.mem_cons.mp hv).resolve_left c
      have hbv : b ≤ v := by
        rcases List.mem_cons.mp hv' with e | e
        · rw [e]; exact Rat.le_refl
        · exact Rat.le_of_lt ((ris_cons hR1).2 v e)
      have ih := one1 hA P b hR1 (show u ≤ b by grind) hv'
      have hh : hold u v a b = true := by
        unfold hold
        rw [decide_eq_false (by grind), decide_eq_false (by grind)]; rfl
      rw [ih, hh]
      simp only [if_true]
      exact hA a b v (Rat.le_of_lt hab) hbv
theorem one2 {μ : Rat → Rat → Rat} (hA : Add μ) {u v : Rat} (huv : u ≤ v) : ∀ (P : List Rat), Ris P → u ∈ P → v ∈ P → smr μ (hold u v) (adj P) = μ u v
  | [], _, hu, _ => by simp at hu
  | a :: P, hR, hu, hv => by
    by_cases c : u = a
    · subst c
      exact one1 hA P u hR Rat.le_refl hv
    · obtain ⟨hR1, hlt⟩ := ris_cons hR
      have hu' : u ∈ P := (List.mem_cons.mp hu).resolve_left c
      have hau := hlt u hu'
      have hv' : v ∈ P := by
        rcases List.mem_cons.mp hv with e | e
        · exfalso; rw [e] at huv; grind
        · exact e
      have ih := one2 hA huv P hR1 hu' hv'
      cases P with
      | nil => simp at hu'
      | cons b P =>
        rw [adj_cons, smr_cons, ih]
        have : hold u v a b = false := by simp [hold, hau]
        rw [this]; simp [Rat.zero_add]
theorem smr_or {μ : Rat → Rat → Rat} {f g : Rat → Rat → Bool} : ∀ {A : List (Rat × Rat)}, (∀ p ∈ A, ¬ (f p.1 p.2 = true ∧ g p.1 p.2 = true)) → smr μ (fun a b => f a b || g a b) A = smr μ f A + smr μ g A
  | [], _ => by simp [smr, Rat.add_zero]
  | p :: A, h => by
    have h1 := h p (List.mem_cons_self ..)
    have ih := smr_or (μ := μ) (f := f) (g := g) fun q m => h q (List.mem_cons_of_mem _ m)
    rw [smr_cons, smr_cons, smr_cons, ih]
    cases e1 : f p.1 p.2 <;> cases e2 : g p.1 p.2 <;> simp_all <;> grind
/-- the measure of a canonical list is the sum over the neighbouring places that it covers -/
theorem msr_smr {μ : Rat → Rat → Rat} (hA : Add μ) {P : List Rat} (hR : Ris P) : ∀ {L : List (Rat × Rat)}, Can L → (∀ e ∈ endsOf L, e ∈ P) → msr μ L = smr μ (cvr L) (adj P)
  | [], _, _ => by rw [smr_none fun p m => rfl]; rfl
  | s :: L, hC, hE => by
    obtain ⟨h1, h2, h3⟩ := can_cons.mp hC
    have hE' : ∀ e ∈ endsOf L, e ∈ P := fun e m => hE e (by
      obtain ⟨t, ht, q⟩ := mem_ends.mp m
      exact mem_ends.mpr ⟨t, List.mem_cons_of_mem _ ht, q⟩)
    have hu := hE s.1 (mem_ends.mpr ⟨s, List.mem_cons_self .., .inl rfl⟩)
    have hv := hE s.2 (mem_ends.mpr ⟨s, List.mem_cons_self .., .inr rfl⟩)
    rw [msr_cons, msr_smr hA hR h3 hE', ← one2 hA (Rat.le_of_lt h1) P hR hu hv, ← smr_or]
    · refine smr_congr fun p _ => ?_
      rw [cvr_cons]
    · rintro p m ⟨c1, c2⟩
      obtain ⟨_, _, m3, _⟩ := adj_in hR p m
      have d1 : cov [s] p.1 := ⟨s, List.mem_cons_self .., by simp [hold] at c1; grind, by simp [hold] at c1; grind⟩
      have d2 := (cvr_iff hR hE' p m p.1 Rat.le_refl m3).mp c2
      obtain ⟨t, ht, q1, q2⟩ := d2
      have := h2 t ht
      simp [hold] at c1
      grind
theorem smr_add {μ : Rat → Rat → Rat} {f g h k : Rat → Rat → Bool} : ∀ {A : List (Rat × Rat)}, (∀ p ∈ A, (h p.1 p.2 = (f p.1 p.2 || g p.1 p.2)) ∧ k p.1 p.2 = (f p.1 p.2 && g p.1 p.2)) → smr μ h A + smr μ k A = smr μ f A + smr μ g A
  | [], _ => rfl
  | p :: A, hh => by
    obtain ⟨h1, h2⟩ := hh p (List.mem_cons_self ..)
    have ih := smr_add (μ := μ) (f := f) (g := g) (h := h) (k := k) fun q m => hh q (List.mem_cons_of_mem _ m)
    rw [smr_cons, smr_cons, smr_cons, smr_cons, h1, h2]
    cases e1 : f p.1 p.2 <;> cases e2 : g p.1 p.2 <;> simp <;> grind
/-- of both together and of what both hold -/
theorem msr_two {μ : Rat → Rat → Rat} (hA : Add μ) {L M U I : List (Rat × Rat)} (cL : Can L) (cM : Can M) (cU : Can U) (cI : Can I) (hU : ∀ x, cov U x ↔ cov L x ∨ cov M x) (hI : ∀ x, cov I x ↔ cov L x ∧ cov M x) : msr μ U + msr μ I = msr μ L + msr μ M := by
  have hR := plc_ris (L ++ M ++ U ++ I)
  have m1 : ∀ e ∈ endsOf L, e ∈ plc (L ++ M ++ U ++ I) := fun e m => plc_mem.mpr (by simp only [ends_app]; simp [m])
  have m2 : ∀ e ∈ endsOf M, e ∈ plc (L ++ M ++ U ++ I) := fun e m => plc_mem.mpr (by simp only [ends_app]; simp [m])
  have m3 : ∀ e ∈ endsOf U, e ∈ plc (L ++ M ++ U ++ I) := fun e m => plc_mem.mpr (by simp only [ends_app]; simp [m])
  have m4 : ∀ e ∈ endsOf I, e ∈ plc (L ++ M ++ U ++ I) := fun e m => plc_mem.mpr (by simp only [ends_app]; simp [m])
  rw [msr_smr hA hR cL m1, msr_smr hA hR cM m2, msr_smr hA hR cU m3, msr_smr hA hR cI m4]
  refine smr_add fun p m => ?_
  obtain ⟨_, _, hlt, _⟩ := adj_in hR p m
  have q1 := cvr_iff hR m1 p m p.1 Rat.le_refl hlt
  have q2 := cvr_iff hR m2 p m p.1 Rat.le_refl hlt
  have q3 := cvr_iff hR m3 p m p.1 Rat.le_refl hlt
  have q4 := cvr_iff hR m4 p m p.1 Rat.le_refl hlt
  rw [hU] at q3
  rw [hI] at q4
  constructor
  · rw [Bool.eq_iff_iff, q3, Bool.or_eq_true, q1, q2]
  · rw [Bool.eq_iff_iff, q4, Bool.and_eq_true, q1, q2]
theorem lenS_msr (L : List (Rat × Rat)) : lenS L = msr (fun x y => y - x) L := rfl
theorem add_len : Add (fun x y => y - x) := fun x z y _ _ => by show z - x + (y - z) = y - x; grind
theorem wS_msr (rows : List (Int × Int)) (L : List (Rat × Rat)) : wS rows L = msr (fun x y => wq x y rows) L := rfl
theorem add_wq {rows : List (Int × Int)} (hr : RowsOk 8 rows) : Add (fun x y => wq x y rows) := fun x z y h1 h2 => wq_add hr h1 h2
theorem msr_nonneg {μ : Rat → Rat → Rat} : ∀ {L : List (Rat × Rat)}, (∀ p ∈ L, 0 ≤ μ p.1 p.2) → 0 ≤ msr μ L
  | [], _ => Rat.le_refl
  | p :: L, h => by
    rw [msr_cons]
    exact Rat.add_nonneg (h p (List.mem_cons_self ..)) (msr_nonneg fun q m => h q (List.mem_cons_of_mem _ m))
end Dn
namespace Dn
open PySem PySem.Spec PyProof.Rows L2
/-! ### texts of beads -/
abbrev S (l : List Nat) : Str := ⟨l.toArray⟩
@[simp] theorem tl_S (l : List Nat) : TL.tl (S l) = l := by simp [TL.tl]
@[simp] theorem S_cps (l : List Nat) : (S l).cps.toList = l := by simp
@[simp] theorem S_len (l : List Nat) : (S l).length = l.length := by simp [Str.length]
theorem S_app (a b : List Nat) : S a ++ S b = S (a ++ b) := TL.ext_tl (by rw [TL.tl_append, tl_S, tl_S, tl_S])
theorem S_of (x : Str) : x = S x.cps.toList := TL.ext_tl (by simp [TL.tl])
theorem S_inj {a b : List Nat} (h : S a = S b) : a = b := by have := congrArg TL.tl h; simpa using this
section
open Builtin Builtin.Str StrLaws
theorem occ_count (x : Str) (c : Nat) (lim : Nat) : ∀ (l : List Nat) (a : Array Nat) (free : Nat), (∀ i ∈ l, free ≤ i) → l.Pairwise (· < ·) → a.size + l.length ≤ lim →
    (forIn l (a, free) (occBody x ⟨#[c]⟩ x.length lim)).run.fst.size = a.size + l.countP (fun i => x.cps.toList[i]? == some c)
  | [], a, free, _, _, _ => by simp
  | i :: l, a, free, hf, hs, hl => by
    rw [List.forIn_cons]
    unfold occBody
    have hi : free ≤ i := hf i (List.mem_cons_self ..)
    have hs' := List.pairwise_cons.mp hs
    have hll : a.size + (l.length + 1) ≤ lim := by simpa using hl
    have ss := subAt_one x c i
    by_cases hc : x.cps.toList[i]? = some c
    · have h1 := ss.mpr hc
      rw [if_pos ⟨⟨⟨by show a.size < lim; omega, hi⟩, h1.1⟩, h1.2⟩]
      have ih := occ_count x c lim l (a.push i) (i + 1) (fun j hj => hs'.1 j hj) hs'.2 (by rw [Array.size_push]; omega)
      have e : (⟨#[c]⟩ : Str).length = 1 := rfl
      rw [List.countP_cons_of_pos (by simp [hc])]
      show (forIn l (a.push i, i + (⟨#[c]⟩ : Str).length) (occBody x ⟨#[c]⟩ x.length lim)).run.fst.size = _
      rw [e, ih, Array.size_push]; omega
    · rw [if_neg (fun h => hc (ss.mp ⟨h.1.2, h.2⟩))]
      have ih := occ_count x c lim l a free (fun j hj => hf j (List.mem_cons_of_mem _ hj)) hs'.2 (by omega)
      rw [List.countP_cons_of_neg (by rw [beq_iff_eq]; exact hc)]
      exact ih
theorem range_count (c : Nat) : ∀ (l : List Nat) (k : Nat), (List.range' k (l.length + 1)).countP (fun i => l[i - k]? == some c) = l.count c
  | [], k => by simp
  | a :: l, k => by
    rw [List.length_cons, List.range'_succ]
    have e : (List.range' (k + 1) (l.length + 1)).countP (fun i => (a :: l)[i - k]? == some c) = l.count c := by
      rw [← range_count c l (k + 1)]
      refine List.countP_congr fun i hi => ?_
      have : k + 1 ≤ i := (List.mem_range'_1.mp hi).1
      rw [show i - k = (i - (k + 1)) + 1 by omega, List.getElem?_cons_succ]
    by_cases h : a = c
    · subst h
      rw [List.countP_cons_of_pos (by simp), e, List.count_cons_self]
    · rw [List.countP_cons_of_neg (by simp [h]), e, List.count_cons_of_ne (by simpa using h)]
/-- how often a sign is in a text -/
theorem count_one (x : Str) (c : Nat) : Txt.count x ⟨#[c]⟩ = (x.cps.toList.count c : Int) := by
  unfold Txt.count
  rw [occ_eq, Array.length_toList, occ_count x c _ _ _ _ (fun _ _ => Nat.zero_le _) (by simpa using List.pairwise_lt_range') (by simp)]
  have := range_count c x.cps.toList 0
  simp only [Nat.sub_zero] at this ⊢
  rw [show x.length = x.cps.toList.length by simp [Str.length]]
  show ((0 + _ : Nat) : Int) = _
  rw [Nat.zero_add, this]
end
theorem join_S (ls : List (List Nat)) : Txt.join "" (ls.map S) = S ls.flatten := by
  rw [TL.join_eq]
  refine TL.ext_tl ?_
  rw [TL.tl_join]
  have hm : (ls.map S).map TL.tl = ls := by
    rw [List.map_map]
    conv => rhs; rw [← List.map_id ls]
    exact List.map_congr_left fun l _ => tl_S l
  rw [hm]
  show _ = TL.tl (S ls.flatten)
  rw [tl_S]
  have e : TL.tl (Str.ofString "") = [] := rfl
  show TL.joinL (TL.tl (Str.ofString "")) ls = _
  rw [e]
  clear hm
  induction ls with
  | nil => rfl
  | cons a l ih =>
    cases l with
    | nil => simp [TL.joinL]
    | cons b l => rw [TL.joinL, List.nil_append, ih, List.flatten_cons (l := a)]
/-! ### pieces by turns -/
theorem fm_congr {α β : Type} {f g : α → Option β} : ∀ {l : List α}, (∀ a ∈ l, f a = g a) → l.filterMap f = l.filterMap g
  | [], _ => rfl
  | a :: l, h => by
    rw [List.filterMap_cons, List.filterMap_cons, h a (List.mem_cons_self ..), fm_congr fun b m => h b (List.mem_cons_of_mem _ m)]
def evs {α : Type} : List α → List α
  | [] => []
  | [a] => [a]
  | a :: _ :: l => a :: evs l
theorem evs_cons {α : Type} (a : α) (l : List α) : evs (a :: l) = a :: evs l.tail := by cases l <;> rfl
theorem evs_eq {α : Type} : ∀ l : List α, (List.range ((l.length + 1) / 2)).filterMap (fun k => l[2 * k]?) = evs l
  | [] => by simp [evs]
  | [a] => by simp [evs, List.range_succ]
  | a :: b :: l => by
    have e : ((a :: b :: l).length + 1) / 2 = (l.length + 1) / 2 + 1 := by simp; omega
    rw [e, List.range_succ_eq_map, List.filterMap_cons, List.filterMap_map]
    show a :: _ = a :: evs l
    congr 1
    rw [← evs_eq l]
    refine fm_congr fun k _ => ?_
    show (a :: b :: l)[2 * (k + 1)]? = _
    rw [show 2 * (k + 1) = 2 * k + 1 + 1 by omega, List.getElem?_cons_succ, List.getElem?_cons_succ]
theorem evs_len {α : Type} : ∀ l : List α, (evs l).length ≤ l.length
  | [] => Nat.le_refl _
  | [a] => Nat.le_refl _
  | a :: b :: l => by have := evs_len l; simp [evs]; omega
theorem step_of {α : Type} (l : List α) (j : Nat) (hj : j ≤ 1) : stepG l (some (j : Int)) none 2 = (List.range ((l.length + 1 - j) / 2)).filterMap (fun k => l[j + 2 * k]?) := by
  unfold stepG pickN
  have hb : sliceBounds (some (j : Int)) none (some 2) l.length = (max 0 (min (j : Int) l.length), (l.length : Int), 2) := by
    unfold sliceBounds
    simp only [Option.getD_some]
    have : ¬ (j : Int) < 0 := by omega
    simp [this]
  rw [hb]
  unfold sliceRange
  simp only [show (2 : Int) > 0 from by decide, if_true]
  have hc : (if max 0 (min (j : Int) l.length) < (l.length : Int) then ((l.length : Int) - max 0 (min (j : Int) l.length) + 2 - 1) / 2 else 0).toNat = (l.length + 1 - j) / 2 := by
    by_cases h : max 0 (min (j : Int) l.length) < (l.length : Int)
    · rw [if_pos h]; omega
    · rw [if_neg h]; omega
  rw [hc, List.filterMap_map]
  refine fm_congr fun k hk => ?_
  have hk' : k < (l.length + 1 - j) / 2 := List.mem_range.mp hk
  show l[(max 0 (min (j : Int) l.length) + 2 * (k : Int)).toNat]? = _
  congr 1
  omega
theorem step0 {α : Type} (l : List α) : stepG l (some 0) none 2 = evs l := by
  have := step_of l 0 (by omega)
  rw [show ((0 : Nat) : Int) = 0 from rfl] at this
  rw [this, ← evs_eq l]
  simp
theorem step1 {α : Type} (l : List α) : stepG l (some 1) none 2 = evs l.tail := by
  have := step_of l 1 (by omega)
  rw [show ((1 : Nat) : Int) = 1 from rfl] at this
  rw [this, ← evs_eq l.tail]
  cases l with
  | nil => simp
  | cons a l =>
    simp only [List.tail_cons, List.length_cons]
    rw [show l.length + 1 + 1 - 1 = l.length + 1 by omega]
    refine fm_congr fun k _ => ?_
    rw [show 1 + 2 * k = 2 * k + 1 by omega, List.getElem?_cons_succ]
/-- what is one hand's less the other one's -/
def alt (x : Nat) : List (List Nat) → Int
  | [] => 0
  | p :: l => (p.count x : Int) - alt x l
theorem alt_eq (x : Nat) : ∀ l : List (List Nat), ((evs l).flatten.count x : Int) - ((evs l.tail).flatten.count x : Int) = alt x l
  | [] => by simp [evs, alt]
  | p :: l => by
    have ih := alt_eq x l
    rw [evs_cons, List.tail_cons, List.flatten_cons, List.count_append, alt]
    omega
def segs : Nat → List Nat → List Nat → List (List Nat)
  | h, [], T => [T.drop h]
  | h, c :: cs, T => (T.drop h).take (c - h) :: segs c cs T
/-- the balance of a letter, sign by sign -/
def bal (x : Nat) (cs : List Nat) : Int → Nat → List Nat → Int
  | _, _, [] => 0
  | s, p, ch :: T => (if ch = x then (if p ∈ cs then -s else s) else 0) + bal x cs (if p ∈ cs then -s else s) (p + 1) T
theorem bal_app (x : Nat) (cs : List Nat) (s : Int) : ∀ (A B : List Nat) (h : Nat), (∀ p, h ≤ p → p < h + A.length → p ∉ cs) → bal x cs s h (A ++ B) = s * A.count x + bal x cs s (h + A.length) B
  | [], B, h, _ => by simp
  | a :: A, B, h, hn => by
    have h0 := hn h (Nat.le_refl _) (by simp)
    have ih := bal_app x cs s A B (h + 1) (fun p h1 h2 => hn p (by omega) (by simp; omega))
    rw [List.cons_append, bal, if_neg h0, ih, List.length_cons, show h + 1 + A.length = h + (A.length + 1) by omega]
    by_cases e : a = x
    · subst e
      rw [if_pos rfl, List.count_cons_self, Int.natCast_add, Int.mul_add]; simp; omega
    · rw [if_neg e, List.count_cons_of_ne (by simpa using e)]; omega
/-- rising cuts within the text -/
def okCuts (n : Nat) : Nat → List Nat → Prop
  | _, [] => True
  | h, c :: cs => h < c ∧ c < n ∧ okCuts n c cs
theorem okCuts_gt {n : Nat} : ∀ {h : Nat} {cs : List Nat}, okCuts n h cs → ∀ c ∈ cs, h < c
  | _, [], _, _, m => by cases m
  | h, c :: cs, ⟨h1, _, h3⟩, d, m => by
    rcases List.mem_cons.mp m with rfl | m
    · exact h1
    · exact Nat.lt_trans h1 (okCuts_gt h3 d m)
theorem bal_segs (x : Nat) (cs : List Nat) (T : List Nat) : ∀ (rest : List Nat) (h : Nat) (s : Int), h < T.length → okCuts T.length h rest → (∀ p, h < p → (p ∈ cs ↔ p ∈ rest)) → bal x cs s h (T.drop h) = (if h ∈ cs then -s else s) * alt x (segs h rest T)
  | [], h, s, hl, _, hm => by
    rw [List.drop_eq_getElem_cons hl, bal]
    generalize (if h ∈ cs then -s else s) = s'
    have := bal_app x cs s' (T.drop (h + 1)) [] (h + 1) (fun p h1 _ m => by have := (hm p (by omega)).mp m; cases this)
    rw [List.append_nil] at this
    rw [this, segs, alt, alt, List.drop_eq_getElem_cons hl, bal]
    by_cases e : T[h] = x
    · rw [if_pos e, List.count_cons, e]; simp [Int.mul_add]; omega
    · rw [if_neg e, List.count_cons_of_ne (by simpa using e)]; simp
  | c :: rest, h, s, hl, ⟨h1, h2, h3⟩, hm => by
    have e : T.drop h = T[h] :: ((T.drop (h + 1)).take (c - (h + 1)) ++ T.drop c) := by
      rw [List.drop_eq_getElem_cons hl]
      congr 1
      rw [show T.drop c = (T.drop (h + 1)).drop (c - (h + 1)) by rw [List.drop_drop]; congr 1; omega, List.take_append_drop]
    have hlen : ((T.drop (h + 1)).take (c - (h + 1))).length = c - (h + 1) := by simp; omega
    rw [e, bal]
    generalize hs' : (if h ∈ cs then -s else s) = s'
    have hc : c ∈ cs := (hm c h1).mpr (List.mem_cons_self ..)
    have := bal_app x cs s' ((T.drop (h + 1)).take (c - (h + 1))) (T.drop c) (h + 1) (fun p h4 h5 m => by
      rw [hlen] at h5
      rcases List.mem_cons.mp ((hm p (by omega)).mp m) with rfl | m
      · omega
      · have := okCuts_gt h3 p m; omega)
    rw [this, hlen, show h + 1 + (c - (h + 1)) = c by omega]
    have ih := bal_segs x cs T rest c s' h2 h3 (fun p hp => by
      rw [hm p (by omega), List.mem_cons]
      exact ⟨fun m => m.elim (fun z => by omega) id, .inr⟩)
    rw [ih, if_pos hc, segs, alt]
    have hp : (T.drop h).take (c - h) = T[h] :: (T.drop (h + 1)).take (c - (h + 1)) := by
      rw [List.drop_eq_getElem_cons hl, show c - h = (c - (h + 1)) + 1 by omega, List.take_succ_cons]
    rw [hp]
    generalize alt x (segs c rest T) = A
    by_cases e : T[h] = x
    · rw [if_pos e, List.count_cons, e]; simp; grind
    · rw [if_neg e, List.count_cons_of_ne (by simpa using e)]; grind
end Dn
namespace Dn
open PySem PySem.Spec PyProof.Rows L2
open TL (tl numL)
/-! ### numbers as they are written -/
theorem itxt_S (n : Nat) : itxt (n : Int) = S (numL n) := TL.ext_tl (by rw [itxt_nat, tl_S])
theorem ofS_app (a b : String) : Str.ofString (a ++ b) = Str.ofString a ++ Str.ofString b := by
  refine TL.ext_tl ?_
  rw [TL.tl_append]
  show (Str.ofString (a ++ b)).cps.toList = (Str.ofString a).cps.toList ++ (Str.ofString b).cps.toList
  rw [signs_ofString, signs_ofString, signs_ofString, String.toList_append, List.map_append]
theorem itxt_neg {n : Nat} (h : 0 < n) : itxt (-(n : Int)) = S (45 :: numL n) := by
  show Str.ofString (toString (-(n : Int))) = _
  rw [toString_neg (by omega), show (0 : Int) - -(n : Int) = (n : Int) by omega, ofS_app]
  refine TL.ext_tl ?_
  rw [TL.tl_append, tl_S]
  show tl (Str.ofString "-") ++ tl (itxt (n : Int)) = _
  rw [itxt_nat]; rfl
theorem numL_pos_head {n : Nat} (h : 0 < n) : ∃ c cs, numL n = c :: cs ∧ 49 ≤ c ∧ c ≤ 57 := by
  induction n using Nat.strongRecOn with
  | _ n ih =>
    by_cases c : n < 10
    · exact ⟨48 + n, [], TL.numL_lt c, by omega, by omega⟩
    · obtain ⟨c', cs, e, l, u⟩ := ih (n / 10) (by omega) (by omega)
      exact ⟨c', cs ++ [48 + n % 10], by rw [TL.numL_step (by omega), e]; rfl, l, u⟩
theorem numL_0 : numL 0 = [48] := TL.numL_lt (by decide)
/-- a row of figures -/
def figB (L : List Nat) : Bool := decide (L ≠ []) && decide (L.length ≤ 40) && L.all (fun c => decide (48 ≤ c ∧ c ≤ 57)) && (decide (L = [48]) || decide (L.head? ≠ some 48))
theorem num_of (k : Nat) : ∀ L : List Nat, L.length = k → L ≠ [] → (∀ c ∈ L, 48 ≤ c ∧ c ≤ 57) → (L = [48] ∨ L.head? ≠ some 48) → ∃ n, L = numL n := by
  induction k with
  | zero => intro L h hn; exact absurd (List.length_eq_zero_iff.mp h) hn
  | succ k ih =>
    intro L hk hn hd hh
    obtain ⟨M, d, rfl⟩ : ∃ M d, L = M ++ [d] := ⟨L.dropLast, L.getLast hn, (List.dropLast_concat_getLast hn).symm⟩
    have hdd := hd d (by simp)
    by_cases hM : M = []
    · subst hM
      refine ⟨d - 48, ?_⟩
      rw [TL.numL_lt (by omega)]
      simp; omega
    · have hM2 : M.head? ≠ some 48 := by
        rcases hh with hh | hh
        · cases M with
          | nil => exact absurd rfl hM
          | cons a l => simp at hh
        · cases M with
          | nil => exact absurd rfl hM
          | cons a l => simpa using hh
      obtain ⟨m, rfl⟩ := ih M (by simpa using hk) hM (fun c h => hd c (by simp [h])) (.inr hM2)
      have m0 : 0 < m := by
        rcases Nat.eq_zero_or_pos m with rfl | h
        · rw [numL_0] at hM2; simp at hM2
        · exact h
      refine ⟨10 * m + (d - 48), ?_⟩
      rw [TL.numL_step (n := 10 * m + (d - 48)) (by omega), show (10 * m + (d - 48)) / 10 = m by omega, show 48 + (10 * m + (d - 48)) % 10 = d by omega]
theorem figB_num (n : Nat) (h : (numL n).length ≤ 40) : figB (numL n) = true := by
  unfold figB
  simp only [Bool.and_eq_true, decide_eq_true_eq, List.all_eq_true, Bool.or_eq_true]
  refine ⟨⟨⟨TL.numL_ne n, h⟩, TL.numL_digits n⟩, ?_⟩
  rcases Nat.eq_zero_or_pos n with rfl | hp
  · exact .inl numL_0
  · obtain ⟨c, cs, e, l, u⟩ := numL_pos_head hp
    exact .inr (by rw [e]; simp; omega)
theorem figB_iff {L : List Nat} : figB L = true ↔ ∃ n, L = numL n ∧ (numL n).length ≤ 40 := by
  constructor
  · intro h
    unfold figB at h
    simp only [Bool.and_eq_true, decide_eq_true_eq, List.all_eq_true, Bool.or_eq_true] at h
    obtain ⟨⟨⟨h1, h2⟩, h3⟩, h4⟩ := h
    obtain ⟨n, rfl⟩ := num_of _ L rfl h1 h3 h4
    exact ⟨n, rfl, h2⟩
  · rintro ⟨n, rfl, h⟩
    exact figB_num n h
theorem int_S {n : Nat} (h : (numL n).length ≤ 40) : intText? (S (numL n)) = some (n : Int) := by
  rw [← itxt_S]; exact TL.int_num (by omega)
theorem num_bits {n : Nat} (h : (numL n).length ≤ 40) : n < 10 ^ 40 := by
  have key : ∀ k m, (numL m).length ≤ k → m < 10 ^ k := by
    intro k
    induction k with
    | zero => intro m hm; exact absurd (List.length_eq_zero_iff.mp (Nat.le_zero.mp hm)) (TL.numL_ne m)
    | succ k ih =>
      intro m hm
      by_cases c : m < 10
      · exact Nat.lt_of_lt_of_le c (by rw [Nat.pow_succ]; have : 0 < 10 ^ k := Nat.pow_pos (by decide); omega)
      · rw [TL.numL_step (by omega)] at hm
        have := ih (m / 10) (by simpa using hm)
        rw [Nat.pow_succ]; omega
  exact key 40 n h
/-! ### texts split at a sign -/
def sp (s : Nat) : List Nat → List (List Nat)
  | [] => [[]]
  | c :: l => if c = s then [] :: sp s l else match sp s l with
    | [] => [[c]]
    | h :: t => (c :: h) :: t
theorem sp_ne (s : Nat) : ∀ l, sp s l ≠ []
  | [] => by simp [sp]
  | c :: l => by
    unfold sp
    split
    · simp
    · split <;> simp
theorem sp_free (s : Nat) : ∀ l, ∀ p ∈ sp s l, s ∉ p
  | [], p, m => by simp [sp] at m; subst m; simp
  | c :: l, p, m => by
    have ih := sp_free s l
    unfold sp at m
    split at m
    · rcases List.mem_cons.mp m with rfl | m
      · simp
      · exact ih p m
    · rename_i hc
      split at m
      · rename_i e; exact absurd e (sp_ne s l)
      · rename_i h t e
        rw [e] at ih
        rcases List.mem_cons.mp m with rfl | m
        · intro z
          rcases List.mem_cons.mp z with z | z
          · exact hc z.symm
          · exact ih h (List.mem_cons_self ..) z
        · exact ih p (List.mem_cons_of_mem _ m)
theorem sp_join (s : Nat) : ∀ l, TL.joinL [s] (sp s l) = l
  | [] => rfl
  | c :: l => by
    have ih := sp_join s l
    unfold sp
    split
    · rename_i hc
      subst hc
      cases e : sp c l with
      | nil => exact absurd e (sp_ne c l)
      | cons h t =>
        rw [e] at ih
        rw [TL.joinL, ih]; rfl
    · split
      · rename_i e; exact absurd e (sp_ne s l)
      · rename_i h t e
        rw [e] at ih
        cases t with
        | nil => rw [TL.joinL] at ih ⊢; rw [ih]
        | cons a t => rw [TL.joinL] at ih ⊢; rw [List.cons_append, ih]
theorem split_S {y : Str} {s : Nat} (ey : tl y = [s]) (hk : y.cps.all (· < 256) = true) (l : List Nat) : Txt.split (S l) y = (sp s l).map S := by
  have h := TL.split_join (y := y) (s := s) (S := []) ey hk (parts := (sp s l).map S) (by simp [sp_ne]) (fun p m => by
    obtain ⟨q, hq, rfl⟩ := List.mem_map.mp m
    rw [tl_S]; exact sp_free s l q hq)
  have e : Txt.join y ((sp s l).map S) = S l := by
    rw [TL.join_eq]
    refine TL.ext_tl ?_
    rw [TL.tl_join, ey]
    have hm : ((sp s l).map S).map tl = sp s l := by
      rw [List.map_map]
      conv => rhs; rw [← List.map_id (sp s l)]
      exact List.map_congr_left fun l _ => tl_S l
    rw [hm, sp_join, tl_S]
  rw [e] at h
  exact h
theorem sp_none {s : Nat} : ∀ {l : List Nat}, s ∉ l → sp s l = [l]
  | [], _ => rfl
  | c :: l, h => by
    have h1 : c ≠ s := fun z => h (by rw [z]; exact List.mem_cons_self ..)
    rw [sp, if_neg h1, sp_none (fun z => h (List.mem_cons_of_mem _ z))]
theorem sp_app {s : Nat} : ∀ {A R : List Nat}, s ∉ A → sp s (A ++ s :: R) = A :: sp s R
  | [], R, _ => by rw [List.nil_append, sp, if_pos rfl]
  | c :: A, R, h => by
    have h1 : c ≠ s := fun z => h (by rw [z]; exact List.mem_cons_self ..)
    rw [List.cons_append, sp, if_neg h1, sp_app (fun z => h (List.mem_cons_of_mem _ z))]
theorem first_sign {s : Nat} : ∀ {l : List Nat}, s ∈ l → ∃ A R, l = A ++ s :: R ∧ s ∉ A
  | c :: l, h => by
    by_cases e : c = s
    · exact ⟨[], l, by rw [e]; rfl, by simp⟩
    · have m : s ∈ l := by rcases List.mem_cons.mp h with z | z; exact absurd z.symm e; exact z
      obtain ⟨A, R, rfl, hA⟩ := first_sign m
      exact ⟨c :: A, R, rfl, fun z => by rcases List.mem_cons.mp z with z | z; exact e z.symm; exact hA z⟩
theorem part_S {y : Str} {s : Nat} (ey : tl y = [s]) {A R : List Nat} (h : s ∉ A) : Txt.partition (S (A ++ s :: R)) y = (S A, y, S R) := by
  have e : S (A ++ s :: R) = S A ++ y ++ S R := by
    refine TL.ext_tl ?_
    rw [TL.tl_append, TL.tl_append, tl_S, tl_S]
    rw [show tl y = [s] from ey]
    show A ++ s :: R = A ++ [s] ++ tl (S R)
    rw [tl_S]; simp
  rw [e]
  exact TL.partition_app (S := []) ey (by rw [tl_S]; exact h)
theorem part_none {y : Str} {s : Nat} (ey : tl y = [s]) {A : List Nat} (h : s ∉ A) : Txt.partition (S A) y = (S A, Str.empty, Str.empty) := TL.partition_none (S := []) ey (by rw [tl_S]; exact h)
end Dn
namespace Dn
open PySem PySem.Spec PyProof.Rows L2
def sub_Due : Nat → Option Bool
  | 1 => some false
  | 2 => some false
  | 3 => some false
  | 4 => some false
  | 5 => some false
  | 6 => some false
  | 8 => some true
  | _ => none
def sub_NotEnded : Nat → Option Bool
  | 1 => some false
  | 2 => some false
  | 3 => some false
  | 4 => some false
  | 5 => some false
  | 6 => some true
  | 8 => some false
  | _ => none
theorem only_NotEnded : ∀ c, sub_NotEnded c = some true → c = 6 := by
  intro c h
  unfold sub_NotEnded at h
  split at h <;> first | rfl | cases h
def ix_asks : Nat → Option Nat
  | 9 => some 1
  | _ => none
@[simp] theorem ix_asks_9 : ix_asks 9 = some 1 := rfl
def ix_ears : Nat → Option Nat
  | 10 => some 3
  | 11 => some 3
  | _ => none
@[simp] theorem ix_ears_10 : ix_ears 10 = some 3 := rfl
@[simp] theorem ix_ears_11 : ix_ears 11 = some 3 := rfl
def ix_made : Nat → Option Nat
  | 10 => some 0
  | 11 => some 0
  | _ => none
@[simp] theorem ix_made_10 : ix_made 10 = some 0 := rfl
@[simp] theorem ix_made_11 : ix_made 11 = some 0 := rfl
def ix_parts : Nat → Option Nat
  | 7 => some 0
  | 9 => some 3
  | _ => none
@[simp] theorem ix_parts_7 : ix_parts 7 = some 0 := rfl
@[simp] theorem ix_parts_9 : ix_parts 9 = some 3 := rfl
def ix_replies : Nat → Option Nat
  | 9 => some 0
  | _ => none
@[simp] theorem ix_replies_9 : ix_replies 9 = some 0 := rfl
def ix_said : Nat → Option Nat
  | 10 => some 1
  | 11 => some 1
  | _ => none
@[simp] theorem ix_said_10 : ix_said 10 = some 1 := rfl
@[simp] theorem ix_said_11 : ix_said 11 = some 1 := rfl
def ix_unsaid : Nat → Option Nat
  | 10 => some 2
  | 11 => some 2
  | _ => none
@[simp] theorem ix_unsaid_10 : ix_unsaid 10 = some 2 := rfl
@[simp] theorem ix_unsaid_11 : ix_unsaid 11 = some 2 := rfl
def ix_waits : Nat → Option Nat
  | 9 => some 2
  | _ => none
@[simp] theorem ix_waits_9 : ix_waits 9 = some 2 := rfl
def isc_OneCuts : Nat → Option Bool
  | 7 => some false
  | 9 => some false
  | 10 => some false
  | 11 => some true
  | _ => none
@[simp] theorem isc_OneCuts_7 : isc_OneCuts 7 = some false := rfl
@[simp] theorem isc_OneCuts_9 : isc_OneCuts 9 = some false := rfl
@[simp] theorem isc_OneCuts_10 : isc_OneCuts 10 = some false := rfl
@[simp] theorem isc_OneCuts_11 : isc_OneCuts 11 = some true := rfl
def isc_Share : Nat → Option Bool
  | 7 => some true
  | 9 => some false
  | 10 => some false
  | 11 => some false
  | _ => none
@[simp] theorem isc_Share_7 : isc_Share 7 = some true := rfl
@[simp] theorem isc_Share_9 : isc_Share 9 = some false := rfl
@[simp] theorem isc_Share_10 : isc_Share 10 = some false := rfl
@[simp] theorem isc_Share_11 : isc_Share 11 = some false := rfl
abbrev np_Share___init__ : Nat := 0
abbrev np_Share_both : Nat := 1
abbrev tbls : Sto := [.tbl ("Share.__init__" ++ ".<locals>." ++ "<lambda>"), .tbl ("Share.both" ++ ".<locals>." ++ "<lambda>")]
noncomputable def wc_divisor_1 : En → ER :=
  (dOp oGt (dVar 1) (dC (.int 0)))
theorem q_wc_divisor_1 {e : En} : wc_divisor_1 e = (dOp oGt (dVar 1) (dC (.int 0))) e := rfl
noncomputable def wb_divisor_2 : En → SR :=
  (sPar 0 1 (aCons (dVar 1) (aCons (dOp oMod (dVar 0) (dVar 1)) aNil)))
theorem q_wb_divisor_2 {e : En} : wb_divisor_2 e = (sPar 0 1 (aCons (dVar 1) (aCons (dOp oMod (dVar 0) (dVar 1)) aNil))) e := rfl
noncomputable def g_divisor : En → SR :=
  (sSeq (sSetF 0 (dCB oAbs (aCons (dVar 0) aNil)))
  (sSeq (sSetF 1 (dCB oAbs (aCons (dVar 1) aNil)))
  (sSeq (sWhile wc_divisor_1 wb_divisor_2)
  (sRetV 0))))
noncomputable def F_divisor : List D → Sto → ER := fnD 2 2 g_divisor
noncomputable def g_is_less : En → SR :=
  (sRet (dOp oLt (dOp oMul (dOp oIx (dVar 0) (dC (.int 0))) (dOp oIx (dVar 1) (dC (.int 1)))) (dOp oMul (dOp oIx (dVar 1) (dC (.int 0))) (dOp oIx (dVar 0) (dC (.int 1))))))
noncomputable def F_is_less : List D → Sto → ER := fnD 2 2 g_is_less
noncomputable def fb_spans_where_1 (h : List (Option D) → D → D → Sto → ER) : En → SR :=
  (sIf (dHeld 1 h (aCons (dVar 3) (aCons (dVar 4) aNil))) (sIf (dAnd (dOp oGt (dCB oLen (aCons (dVar 2) aNil)) (dC (.int 0))) (dOp oEq (dOp oIx (dOp oIx (dVar 2) (dUn oNeg (dC (.int 1)))) (dC (.int 1))) (dVar 3))) (sSetI 2 (dTup (aCons (dOp oIx (dOp oIx (dVar 2) (dUn oNeg (dC (.int 1)))) (dC (.int 0))) (aCons (dVar 4) aNil))) (dUn oNeg (dC (.int 1)))) (sMt mAppend 2 (aCons (dTup (aCons (dVar 3) (aCons (dVar 4) aNil))) aNil))) sSkip)
theorem q_fb_spans_where_1 {h : List (Option D) → D → D → Sto → ER} {e : En} : fb_spans_where_1 h e = (sIf (dHeld 1 h (aCons (dVar 3) (aCons (dVar 4) aNil))) (sIf (dAnd (dOp oGt (dCB oLen (aCons (dVar 2) aNil)) (dC (.int 0))) (dOp oEq (dOp oIx (dOp oIx (dVar 2) (dUn oNeg (dC (.int 1)))) (dC (.int 1))) (dVar 3))) (sSetI 2 (dTup (aCons (dOp oIx (dOp oIx (dVar 2) (dUn oNeg (dC (.int 1)))) (dC (.int 0))) (aCons (dVar 4) aNil))) (dUn oNeg (dC (.int 1)))) (sMt mAppend 2 (aCons (dTup (aCons (dVar 3) (aCons (dVar 4) aNil))) aNil))) sSkip) e := rfl
noncomputable def g_spans_where (h : List (Option D) → D → D → Sto → ER) : En → SR :=
  (sSeq (sSet 2 (dLst aNil))
  (sSeq (sFor (dZip (aCons (dVar 0) (aCons (dSl oSl (dVar 0) (fun e => some ((dC (.int 1)) e)) (fun _ => none)) aNil))) (tgT 2 (tgsCons (tgN 3) (tgsCons (tgN 4) tgsNil))) (fb_spans_where_1 h))
  (sRetV 2)))
noncomputable def g_Share_spans : En → SR :=
  (sRet (dCB oList (aCons (dFld ix_parts (dVar 0)) aNil)))
noncomputable def F_Share_spans : List D → Sto → ER := fnD 1 1 g_Share_spans
noncomputable def g_Share___len__ : En → SR :=
  (sRet (dCB oLen (aCons (dFld ix_parts (dVar 0)) aNil)))
noncomputable def F_Share___len__ : List D → Sto → ER := fnD 1 1 g_Share___len__
noncomputable def g_Share___eq__ : En → SR :=
  (sRet (dAnd (dIsO isc_Share (dVar 1)) (dOp oEq (dFld ix_parts (dVar 0)) (dFld ix_parts (dVar 1)))))
noncomputable def F_Share___eq__ : List D → Sto → ER := fnD 2 2 g_Share___eq__
noncomputable def g_Talk___init__ : En → SR :=
  (sSeq (sFldS ix_replies (dVar 0) (dVar 1))
  (sSeq (sFldS ix_asks (dVar 0) (dPut (dLst aNil)))
  (sSeq (sFldS ix_waits (dVar 0) (dC .non))
  (sFldS ix_parts (dVar 0) (dC .non)))))
noncomputable def F_Talk___init__ : List D → Sto → ER := fnD 2 2 g_Talk___init__
noncomputable def g_Talk_hear : En → SR :=
  (sSeq (sSetF 2 (dCB oLen (aCons (dFld ix_asks (dVar 0)) aNil)))
  (sSeq (sIf (dOp oEq (dVar 2) (dCB oLen (aCons (dFld ix_replies (dVar 0)) aNil))) (sSeq (sFldS ix_waits (dVar 0) (dVar 1))
  (sRaise 8)) sSkip)
  (sSeq (sDrop (dMtX mAppend (dFld ix_asks (dVar 0)) (aCons (dVar 1) aNil)))
  (sRet (dOp oIx (dFld ix_replies (dVar 0)) (dVar 2))))))
noncomputable def F_Talk_hear : List D → Sto → ER := fnD 2 3 g_Talk_hear
noncomputable def g_is_whole : En → SR :=
  (sRet (dAnd (dIsi "int" (dVar 0)) (dNot (dIsi "bool" (dVar 0)))))
noncomputable def F_is_whole : List D → Sto → ER := fnD 1 1 g_is_whole
noncomputable def g_Way___init__ : En → SR :=
  (sSeq (sFldS ix_made (dVar 0) (dVar 1))
  (sSeq (sFldS ix_said (dVar 0) (dPut (dLst aNil)))
  (sSeq (sFldS ix_unsaid (dVar 0) (dLst aNil))
  (sFldS ix_ears (dVar 0) (dLst aNil)))))
noncomputable def F_Way___init__ : List D → Sto → ER := fnD 2 2 g_Way___init__
noncomputable def g_Way___len__ : En → SR :=
  (sRet (dCB oLen (aCons (dFld ix_said (dVar 0)) aNil)))
noncomputable def F_Way___len__ : List D → Sto → ER := fnD 1 1 g_Way___len__
noncomputable def g_OneCuts_hands : En → SR :=
  (sRet (dC (.int 2)))
noncomputable def F_OneCuts_hands : List D → Sto → ER := fnD 1 1 g_OneCuts_hands
noncomputable def g_OneCuts_alike : En → SR :=
  (sRet (dAnd (dIsO isc_OneCuts (dVar 1)) (dOp oEq (dFld ix_made (dVar 1)) (dFld ix_made (dVar 0)))))
noncomputable def F_OneCuts_alike : List D → Sto → ER := fnD 2 2 g_OneCuts_alike
noncomputable def ce_law_box_1 : En → ER :=
  (dVar 2)
theorem q_ce_law_box_1 {e : En} : ce_law_box_1 e = (dVar 2) e := rfl
noncomputable def ct_law_box_2 : En → ER :=
  (dOp oGe (dVar 2) (dOp oPow (dC (.int 10)) (dC (.int 18))))
theorem q_ct_law_box_2 {e : En} : ct_law_box_2 e = (dOp oGe (dVar 2) (dOp oPow (dC (.int 10)) (dC (.int 18)))) e := rfl
noncomputable def ce_law_box_3 : En → ER :=
  (dVar 2)
theorem q_ce_law_box_3 {e : En} : ce_law_box_3 e = (dVar 2) e := rfl
noncomputable def ct_law_box_4 : En → ER :=
  (dOp oLt (dVar 2) (dOp oPow (dC (.int 10)) (dC (.int 18))))
theorem q_ct_law_box_4 {e : En} : ct_law_box_4 e = (dOp oLt (dVar 2) (dOp oPow (dC (.int 10)) (dC (.int 18)))) e := rfl
noncomputable def g_law_box : En → SR :=
  (sSeq (sSetF 1 (dPut (dLc (dIter (dVar 0)) (tgN 2) ct_law_box_2 ce_law_box_1 [2])))
  (sRet (dPut (dLst (aCons (dVar 1) (aCons (dC (.int 0)) (aCons (dLc (dIter (dVar 0)) (tgN 2) ct_law_box_4 ce_law_box_3 [2]) (aCons (dC (.int 0)) aNil))))))))
noncomputable def F_law_box : List D → Sto → ER := fnD 1 3 g_law_box
noncomputable def g_law_mixed : En → SR :=
  (sSeq (sSetF 2 (dOp oMod (dOp oPow (dOp oAdd (dOp oAdd (dOp oAdd (dOp oMod (dVar 0) (dC (.int 2147483647))) (dOp oMul (dOp oMul (dC (.int 1009)) (dVar 1)) (dVar 1))) (dOp oMul (dC (.int 48611)) (dVar 1))) (dC (.int 17))) (dC (.int 5))) (dC (.int 2147483647))))
  (sRet (dOp oMod (dOp oAdd (dOp oMul (dVar 2) (dC (.int 39373))) (dOp oMul (dC (.int 7919)) (dVar 1))) (dC (.int 1000000007)))))
noncomputable def F_law_mixed : List D → Sto → ER := fnD 2 3 g_law_mixed
noncomputable def wc_law_low_1 : En → ER :=
  (dOp oGt (dVar 3) (dC (.int 0)))
theorem q_wc_law_low_1 {e : En} : wc_law_low_1 e = (dOp oGt (dVar 3) (dC (.int 0))) e := rfl
noncomputable def wb_law_low_2 : En → SR :=
  (sPar 2 3 (aCons (dVar 3) (aCons (dOp oMod (dVar 2) (dVar 3)) aNil)))
theorem q_wb_law_low_2 {e : En} : wb_law_low_2 e = (sPar 2 3 (aCons (dVar 3) (aCons (dOp oMod (dVar 2) (dVar 3)) aNil))) e := rfl
noncomputable def g_law_low : En → SR :=
  (sSeq (sSetF 2 (dCB oAbs (aCons (dVar 0) aNil)))
  (sSeq (sSetF 3 (dCB oAbs (aCons (dVar 1) aNil)))
  (sSeq (sWhile wc_law_low_1 wb_law_low_2)
  (sSeq (sIf (dOp oLt (dVar 1) (dC (.int 0))) (sSetF 2 (dUn oNeg (dVar 2))) sSkip)
  (sRet (dTup (aCons (dOp oDiv (dVar 0) (dVar 2)) (aCons (dOp oDiv (dVar 1) (dVar 2)) aNil))))))))
noncomputable def F_law_low : List D → Sto → ER := fnD 2 4 g_law_low
noncomputable def g_law_less : En → SR :=
  (sRet (dOp oLt (dOp oMul (dOp oIx (dVar 0) (dC (.int 0))) (dOp oIx (dVar 1) (dC (.int 1)))) (dOp oMul (dOp oIx (dVar 1) (dC (.int 0))) (dOp oIx (dVar 0) (dC (.int 1))))))
noncomputable def F_law_less : List D → Sto → ER := fnD 2 2 g_law_less
noncomputable def g_law_onecuts : En → SR :=
  (sSeq (sSet 2 (dLst (aCons (dTup (aCons (dC (.str "cut")) (aCons (dVar 0) (aCons (dTup (aCons (dC (.int 0)) (aCons (dC (.int 1)) aNil))) (aCons (dTup (aCons (dC (.int 1)) (aCons (dC (.int 1)) aNil))) (aCons (dTup (aCons (dC (.int 1)) (aCons (dC (.int 1)) aNil))) (aCons (dTup (aCons (dC (.int 1)) (aCons (dC (.int 2)) aNil))) aNil))))))) aNil)))
  (sSeq (sIf (dOp oEq (dCB oLen (aCons (dVar 1) aNil)) (dC (.int 0))) (sFrz 2 (sRet (dTup (aCons (dVar 2) (aCons (dC .non) aNil))))) sSkip)
  (sSeq (sSetF 3 (dTup (aCons (dTup (aCons (dTup (aCons (dC (.int 0)) (aCons (dC (.int 1)) aNil))) (aCons (dOp oIx (dVar 1) (dC (.int 0))) aNil))) (aCons (dTup (aCons (dOp oIx (dVar 1) (dC (.int 0))) (aCons (dTup (aCons (dC (.int 1)) (aCons (dC (.int 1)) aNil))) aNil))) aNil))))
  (sSeq (sMt mAppend 2 (aCons (dTup (aCons (dC (.str "choose")) (aCons (dOp oSub (dC (.int 1)) (dVar 0)) (aCons (dVar 3) aNil)))) aNil))
  (sFrz 2 (sSeq (sIf (dOp oEq (dCB oLen (aCons (dVar 1) aNil)) (dC (.int 1))) (sFrz 2 (sRet (dTup (aCons (dVar 2) (aCons (dC .non) aNil))))) sSkip)
  (sSeq (sSet 4 (dLst (aCons (dOp oIx (dVar 3) (dOp oIx (dVar 1) (dC (.int 1)))) (aCons (dOp oIx (dVar 3) (dOp oIx (dVar 1) (dC (.int 1)))) aNil))))
  (sSeq (sSetI 4 (dOp oIx (dVar 3) (dOp oSub (dC (.int 1)) (dOp oIx (dVar 1) (dC (.int 1))))) (dVar 0))
  (sFrz 4 (sFrz 2 (sRet (dTup (aCons (dVar 2) (aCons (dVar 4) aNil))))))))))))))
noncomputable def F_law_onecuts : List D → Sto → ER := fnD 2 5 g_law_onecuts
noncomputable def g_fraction_of : En → SR :=
  (sSeq (sIf (dOp oEq (dVar 1) (dC (.int 0))) (sRaise 1) sSkip)
  (sSeq (sSetF 2 (dCall F_divisor (aCons (dVar 0) (aCons (dVar 1) aNil))))
  (sSeq (sIf (dOp oLt (dVar 1) (dC (.int 0))) (sSetF 2 (dUn oNeg (dVar 2))) sSkip)
  (sRet (dTup (aCons (dOp oDiv (dVar 0) (dVar 2)) (aCons (dOp oDiv (dVar 1) (dVar 2)) aNil)))))))
noncomputable def F_fraction_of : List D → Sto → ER := fnD 2 3 g_fraction_of
noncomputable def g_ask_span : En → SR :=
  (sIf (dOr (dCall F_is_less (aCons (dVar 0) (aCons (dC (.tup [(.int 0), (.int 1)])) aNil))) (dOr (dCall F_is_less (aCons (dC (.tup [(.int 1), (.int 1)])) (aCons (dVar 1) aNil))) (dCall F_is_less (aCons (dVar 1) (aCons (dVar 0) aNil))))) (sRaise 2) sSkip)
noncomputable def F_ask_span : List D → Sto → ER := fnD 2 2 g_ask_span
noncomputable def wc_rising_places_1 : En → ER :=
  (dAnd (dOp oGt (dVar 4) (dC (.int 0))) (dCall F_is_less (aCons (dVar 3) (aCons (dOp oIx (dVar 1) (dOp oSub (dVar 4) (dC (.int 1)))) aNil))))
theorem q_wc_rising_places_1 {e : En} : wc_rising_places_1 e = (dAnd (dOp oGt (dVar 4) (dC (.int 0))) (dCall F_is_less (aCons (dVar 3) (aCons (dOp oIx (dVar 1) (dOp oSub (dVar 4) (dC (.int 1)))) aNil)))) e := rfl
noncomputable def wb_rising_places_2 : En → SR :=
  (sSetF 4 (dOp oSub (dVar 4) (dC (.int 1))))
theorem q_wb_rising_places_2 {e : En} : wb_rising_places_2 e = (sSetF 4 (dOp oSub (dVar 4) (dC (.int 1)))) e := rfl
noncomputable def fb_rising_places_3 : En → SR :=
  (sSeq (sSetF 4 (dCB oLen (aCons (dVar 1) aNil)))
  (sSeq (sWhile wc_rising_places_1 wb_rising_places_2)
  (sIf (dOr (dOp oEq (dVar 4) (dC (.int 0))) (dOp oNe (dOp oIx (dVar 1) (dOp oSub (dVar 4) (dC (.int 1)))) (dVar 3))) (sMt mInsert 1 (aCons (dVar 4) (aCons (dVar 3) aNil))) sSkip)))
theorem q_fb_rising_places_3 {e : En} : fb_rising_places_3 e = (sSeq (sSetF 4 (dCB oLen (aCons (dVar 1) aNil)))
  (sSeq (sWhile wc_rising_places_1 wb_rising_places_2)
  (sIf (dOr (dOp oEq (dVar 4) (dC (.int 0))) (dOp oNe (dOp oIx (dVar 1) (dOp oSub (dVar 4) (dC (.int 1)))) (dVar 3))) (sMt mInsert 1 (aCons (dVar 4) (aCons (dVar 3) aNil))) sSkip))) e := rfl
noncomputable def fb_rising_places_4 : En → SR :=
  (sFor (dIter (dVar 2)) (tgN 3) fb_rising_places_3)
theorem q_fb_rising_places_4 {e : En} : fb_rising_places_4 e = (sFor (dIter (dVar 2)) (tgN 3) fb_rising_places_3) e := rfl
noncomputable def g_rising_places : En → SR :=
  (sSeq (sSet 1 (dLst aNil))
  (sSeq (sFor (dIter (dVar 0)) (tgN 2) fb_rising_places_4)
  (sRetV 1)))
noncomputable def F_rising_places : List D → Sto → ER := fnD 1 5 g_rising_places
noncomputable def fb_covers_1 : En → SR :=
  (sIf (dAnd (dNot (dCall F_is_less (aCons (dVar 1) (aCons (dVar 3) aNil)))) (dNot (dCall F_is_less (aCons (dVar 4) (aCons (dVar 2) aNil))))) (sRet (dC (.bl true))) sSkip)
theorem q_fb_covers_1 {e : En} : fb_covers_1 e = (sIf (dAnd (dNot (dCall F_is_less (aCons (dVar 1) (aCons (dVar 3) aNil)))) (dNot (dCall F_is_less (aCons (dVar 4) (aCons (dVar 2) aNil))))) (sRet (dC (.bl true))) sSkip) e := rfl
noncomputable def g_covers : En → SR :=
  (sSeq (sFor (dIter (dVar 0)) (tgT 2 (tgsCons (tgN 3) (tgsCons (tgN 4) tgsNil))) fb_covers_1)
  (sRet (dC (.bl false))))
noncomputable def F_covers : List D → Sto → ER := fnD 3 5 g_covers
noncomputable def fb_Way_told_all_1 : En → SR :=
  sBad
theorem q_fb_Way_told_all_1 {e : En} : fb_Way_told_all_1 e = sBad e := rfl
noncomputable def g_Way_told_all : En → SR :=
  (sFor (dIter (dFld ix_ears (dVar 0))) (tgT 2 (tgsCons (tgN 3) (tgsCons (tgN 4) tgsNil))) fb_Way_told_all_1)
noncomputable def F_Way_told_all : List D → Sto → ER := fnD 3 5 g_Way_told_all
noncomputable def g_Way___eq__ : En → SR :=
  (sRet (dAnd (dMeth 11 F_OneCuts_alike 2 0 [0, 1] [] (dVar 0) (aCons (dVar 1) aNil) aNil) (dOp oEqX (dFld ix_said (dVar 0)) (dFld ix_said (dVar 1)))))
noncomputable def F_Way___eq__ : List D → Sto → ER := fnD 2 2 g_Way___eq__
noncomputable def g_OneCuts___init__ : En → SR :=
  (sSeq (sIf (dOp oNotInF (dVar 1) (dTup (aCons (dC (.int 0)) (aCons (dC (.int 1)) aNil)))) (sRaise 3) sSkip)
  (sDrop (dCallG F_Way___init__ 2 0 [0, 1] [] (aCons (dVar 0) (aCons (dVar 1) aNil)) aNil)))
noncomputable def F_OneCuts___init__ : List D → Sto → ER := fnD 2 2 g_OneCuts___init__
noncomputable def g_OneCuts_parted : En → SR :=
  (sSeq (sSetF 2 (dFld ix_made (dVar 0)))
  (sSeq (sSetF 3 (dOp oSub (dC (.int 1)) (dVar 2)))
  (sSeq (sSetF 4 (dMeth 9 F_Talk_hear 2 0 [0, 1] [] (dVar 1) (aCons (dTup (aCons (dC (.str "cut")) (aCons (dVar 2) (aCons (dC (.tup [(.int 0), (.int 1)])) (aCons (dC (.tup [(.int 1), (.int 1)])) (aCons (dC (.tup [(.int 1), (.int 1)])) (aCons (dTup (aCons (dC (.int 1)) (aCons (dC (.int 2)) aNil))) aNil))))))) aNil) aNil))
  (sSeq (sSetF 5 (dTup (aCons (dTup (aCons (dC (.tup [(.int 0), (.int 1)])) (aCons (dVar 4) aNil))) (aCons (dTup (aCons (dVar 4) (aCons (dC (.tup [(.int 1), (.int 1)])) aNil))) aNil))))
  (sSeq (sSetF 6 (dMeth 9 F_Talk_hear 2 0 [0, 1] [] (dVar 1) (aCons (dTup (aCons (dC (.str "choose")) (aCons (dVar 3) (aCons (dVar 5) aNil)))) aNil) aNil))
  (sSeq (sSet 7 (dLst (aCons (dLst aNil) (aCons (dLst aNil) aNil))))
  (sSeq (sSetI 7 (dLst (aCons (dOp oIx (dVar 5) (dVar 6)) aNil)) (dVar 3))
  (sSeq (sSetI 7 (dLst (aCons (dOp oIx (dVar 5) (dOp oSub (dC (.int 1)) (dVar 6))) aNil)) (dVar 2))
  (sRetV 7)))))))))
noncomputable def F_OneCuts_parted : List D → Sto → ER := fnD 2 8 g_OneCuts_parted
noncomputable def wc_law_take_1 : En → ER :=
  (dOp oLt (dVar 4) (dVar 1))
theorem q_wc_law_take_1 {e : En} : wc_law_take_1 e = (dOp oLt (dVar 4) (dVar 1)) e := rfl
noncomputable def wb_law_take_2 : En → SR :=
  (sSeq (sSetF 3 (dOp oAdd (dOp oMul (dVar 3) (dC (.int 1000000007))) (dCall F_law_mixed (aCons (dVar 2) (aCons (dOp oAdd (dOp oIx (dVar 0) (dC (.int 3))) (dOp oMul (dC (.int 1000)) (dOp oMod (dVar 3) (dC (.int 89))))) aNil)))))
  (sSetF 4 (dOp oMul (dVar 4) (dC (.int 1000000007)))))
theorem q_wb_law_take_2 {e : En} : wb_law_take_2 e = (sSeq (sSetF 3 (dOp oAdd (dOp oMul (dVar 3) (dC (.int 1000000007))) (dCall F_law_mixed (aCons (dVar 2) (aCons (dOp oAdd (dOp oIx (dVar 0) (dC (.int 3))) (dOp oMul (dC (.int 1000)) (dOp oMod (dVar 3) (dC (.int 89))))) aNil)))))
  (sSetF 4 (dOp oMul (dVar 4) (dC (.int 1000000007))))) e := rfl
noncomputable def g_law_take : En → SR :=
  (sSeq (sSetI 0 (dOp oAdd (dOp oIx (dVar 0) (dC (.int 3))) (dC (.int 1))) (dC (.int 3)))
  (sSeq (sIf (dAnd (dOp oEq (dOp oIx (dVar 0) (dC (.int 1))) (dC (.int 0))) (dOp oGt (dCB oLen (aCons (dOp oIx (dVar 0) (dC (.int 0))) aNil)) (dC (.int 0)))) (sSetI 0 (dMtX mPopAt (dOp oIx (dVar 0) (dC (.int 0))) (aCons (dC (.int 0)) aNil)) (dC (.int 1))) sSkip)
  (sSeq (sIf (dOp oGt (dOp oIx (dVar 0) (dC (.int 1))) (dC (.int 0))) (sSeq (sSetF 3 (dOp oMod (dOp oIx (dVar 0) (dC (.int 1))) (dVar 1)))
  (sSeq (sSetI 0 (dOp oDiv (dOp oIx (dVar 0) (dC (.int 1))) (dVar 1)) (dC (.int 1)))
  (sRetV 3))) sSkip)
  (sSeq (sSetF 2 (dOp oMul (dC (.int 7)) (dOp oIx (dVar 0) (dC (.int 3)))))
  (sSeq (sIf (dOp oGt (dCB oLen (aCons (dOp oIx (dVar 0) (dC (.int 2))) aNil)) (dC (.int 0))) (sSetF 2 (dOp oIx (dOp oIx (dVar 0) (dC (.int 2))) (dOp oMod (dOp oIx (dVar 0) (dC (.int 3))) (dCB oLen (aCons (dOp oIx (dVar 0) (dC (.int 2))) aNil))))) sSkip)
  (sSeq (sSetF 3 (dC (.int 0)))
  (sSeq (sSetF 4 (dC (.int 1)))
  (sSeq (sWhile wc_law_take_1 wb_law_take_2)
  (sRet (dOp oMod (dVar 3) (dVar 1)))))))))))
noncomputable def F_law_take : List D → Sto → ER := fnD 2 5 g_law_take
noncomputable def g_law_plus : En → SR :=
  (sRet (dCall F_law_low (aCons (dOp oAdd (dOp oMul (dOp oIx (dVar 0) (dC (.int 0))) (dOp oIx (dVar 1) (dC (.int 1)))) (dOp oMul (dOp oIx (dVar 1) (dC (.int 0))) (dOp oIx (dVar 0) (dC (.int 1))))) (aCons (dOp oMul (dOp oIx (dVar 0) (dC (.int 1))) (dOp oIx (dVar 1) (dC (.int 1)))) aNil))))
noncomputable def F_law_plus : List D → Sto → ER := fnD 2 2 g_law_plus
noncomputable def g_is_fraction : En → SR :=
  (sSeq (sIf (dOr (dNot (dIsi "tuple" (dVar 0))) (dOp oNe (dCB oLen (aCons (dVar 0) aNil)) (dC (.int 2)))) (sRet (dC (.bl false))) sSkip)
  (sSeq (sIf (dOr (dNot (dCall F_is_whole (aCons (dOp oIx (dVar 0) (dC (.int 0))) aNil))) (dOr (dNot (dCall F_is_whole (aCons (dOp oIx (dVar 0) (dC (.int 1))) aNil))) (dOp oLt (dOp oIx (dVar 0) (dC (.int 1))) (dC (.int 1))))) (sRet (dC (.bl false))) sSkip)
  (sRet (dOp oEq (dCallG F_fraction_of 2 0 [0, 1] [(.int 1)] (aCons (dOp oIx (dVar 0) (dC (.int 0))) (aCons (dOp oIx (dVar 0) (dC (.int 1))) aNil)) aNil) (dVar 0)))))
noncomputable def F_is_fraction : List D → Sto → ER := fnD 1 1 g_is_fraction
noncomputable def ce_law_reply_1 : En → ER :=
  (dVar 11)
theorem q_ce_law_reply_1 {e : En} : ce_law_reply_1 e = (dVar 11) e := rfl
noncomputable def ct_law_reply_2 : En → ER :=
  (dIsi "tuple" (dVar 11))
theorem q_ct_law_reply_2 {e : En} : ct_law_reply_2 e = (dIsi "tuple" (dVar 11)) e := rfl
noncomputable def ce_law_reply_3 : En → ER :=
  (dVar 11)
theorem q_ce_law_reply_3 {e : En} : ce_law_reply_3 e = (dVar 11) e := rfl
noncomputable def ct_law_reply_4 : En → ER :=
  (dAnd (dNot (dCall F_law_less (aCons (dVar 11) (aCons (dVar 9) aNil)))) (dNot (dCall F_law_less (aCons (dVar 10) (aCons (dVar 11) aNil)))))
theorem q_ct_law_reply_4 {e : En} : ct_law_reply_4 e = (dAnd (dNot (dCall F_law_less (aCons (dVar 11) (aCons (dVar 9) aNil)))) (dNot (dCall F_law_less (aCons (dVar 10) (aCons (dVar 11) aNil))))) e := rfl
noncomputable def g_law_reply : En → SR :=
  (sSeq (sIf (dOp oEq (dOp oIx (dVar 1) (dC (.int 0))) (dC (.str "trim"))) (sRet (dCall F_law_take (aCons (dVar 0) (aCons (dC (.int 4)) aNil)))) sSkip)
  (sSeq (sIf (dOp oEq (dOp oIx (dVar 1) (dC (.int 0))) (dC (.str "choose"))) (sRet (dCall F_law_take (aCons (dVar 0) (aCons (dCB oLen (aCons (dOp oIx (dVar 1) (dC (.int 2))) aNil)) aNil)))) sSkip)
  (sSeq (sAsg (tgT 2 (tgsCons (tgN 9) (tgsCons (tgN 10) tgsNil))) (dSl oSl (dVar 1) (fun e => some ((dC (.int 2)) e)) (fun e => some ((dC (.int 4)) e))))
  (sSeq (sSetF 3 (dCall F_law_take (aCons (dVar 0) (aCons (dC (.int 6)) aNil))))
  (sSeq (sSetF 4 (dLcX (dVar 2) (tgN 11) ct_law_reply_2 ce_law_reply_1 [11]))
  (sSeq (sSetF 4 (dLc (dIter (dVar 4)) (tgN 11) ct_law_reply_4 ce_law_reply_3 [11]))
  (sSeq (sSetF 5 (dOp oAdd (dC (.int 1)) (dCall F_law_take (aCons (dVar 0) (aCons (dOp oIx (dLst (aCons (dC (.int 2)) (aCons (dC (.int 6)) (aCons (dC (.int 30)) (aCons (dC (.int 1000)) aNil))))) (dCall F_law_take (aCons (dVar 0) (aCons (dC (.int 4)) aNil)))) aNil)))))
  (sSeq (sSetF 6 (dCall F_law_low (aCons (dCall F_law_take (aCons (dVar 0) (aCons (dOp oAdd (dVar 5) (dC (.int 1))) aNil))) (aCons (dVar 5) aNil))))
  (sSeq (sIf (dOp oLt (dVar 3) (dC (.int 2))) (sRet (dOp oIx (dLst (aCons (dVar 9) (aCons (dVar 10) aNil))) (dVar 3))) sSkip)
  (sSeq (sIf (dAnd (dEqO [(7, F_Share___eq__), (11, F_Way___eq__)] [7, 11] false oEq (dVar 3) (dC (.int 2))) (dOp oGt (dCB oLen (aCons (dVar 4) aNil)) (dC (.int 0)))) (sRet (dOp oIx (dVar 4) (dCall F_law_take (aCons (dVar 0) (aCons (dCB oLen (aCons (dVar 4) aNil)) aNil))))) sSkip)
  (sSeq (sSetF 7 (dCall F_law_plus (aCons (dVar 10) (aCons (dTup (aCons (dUn oNeg (dOp oIx (dVar 9) (dC (.int 0)))) (aCons (dOp oIx (dVar 9) (dC (.int 1))) aNil))) aNil))))
  (sSeq (sSetF 8 (dCall F_law_plus (aCons (dVar 9) (aCons (dCall F_law_low (aCons (dOp oMul (dOp oIx (dVar 7) (dC (.int 0))) (dOp oIx (dVar 6) (dC (.int 0)))) (aCons (dOp oMul (dOp oIx (dVar 7) (dC (.int 1))) (dOp oIx (dVar 6) (dC (.int 1)))) aNil))) aNil))))
  (sRet (dIf (dOp oLt (dOp oIx (dVar 8) (dC (.int 1))) (dOp oPow (dC (.int 10)) (dC (.int 36)))) (dVar 8) (dVar 9)))))))))))))))
noncomputable def F_law_reply : List D → Sto → ER := fnD 3 12 g_law_reply
noncomputable def g_is_legal : En → SR :=
  (sSeq (sIf (dOp oInT (dOp oIx (dVar 0) (dC (.int 0))) (dTup (aCons (dC (.str "cut")) (aCons (dC (.str "even")) aNil)))) (sRet (dAnd (dCall F_is_fraction (aCons (dVar 1) aNil)) (dAnd (dNot (dCall F_is_less (aCons (dVar 1) (aCons (dOp oIx (dVar 0) (dC (.int 2))) aNil)))) (dNot (dCall F_is_less (aCons (dOp oIx (dVar 0) (dC (.int 3))) (aCons (dVar 1) aNil))))))) sSkip)
  (sSeq (sSetF 2 (dOp oSub (dCB oLen (aCons (dOp oIx (dVar 0) (dC (.int 2))) aNil)) (dC (.int 1))))
  (sSeq (sIf (dOp oEq (dOp oIx (dVar 0) (dC (.int 0))) (dC (.str "trim"))) (sSetF 2 (dC (.int 3))) sSkip)
  (sRet (dAnd (dCall F_is_whole (aCons (dVar 1) aNil)) (dChain oLe oLe (dC (.int 0)) (dVar 1) (dVar 2)))))))
noncomputable def F_is_legal : List D → Sto → ER := fnD 2 3 g_is_legal
noncomputable def fb_Share___init___1 : En → SR :=
  (sDrop (dCall F_ask_span (aCons (dVar 2) (aCons (dVar 3) aNil))))
theorem q_fb_Share___init___1 {e : En} : fb_Share___init___1 e = (sDrop (dCall F_ask_span (aCons (dVar 2) (aCons (dVar 3) aNil)))) e := rfl
noncomputable def lb_Share___init___2 : En → ER :=
  (dCall F_covers (aCons (dVar 1) (aCons (dVar 2) (aCons (dVar 3) aNil))))
theorem q_lb_Share___init___2 {e : En} : lb_Share___init___2 e = (dCall F_covers (aCons (dVar 1) (aCons (dVar 2) (aCons (dVar 3) aNil)))) e := rfl
noncomputable def g_Share___init__ : En → SR :=
  (sSeq (sFor (dIter (dVar 1)) (tgT 2 (tgsCons (tgN 2) (tgsCons (tgN 3) tgsNil))) fb_Share___init___1)
  (sFldS ix_parts (dVar 0) (dLamC np_Share___init__ ("Share.__init__" ++ ".<locals>." ++ "<lambda>") 5 (g_spans_where (fun ds x y st => lb_Share___init___2 ⟨cloE ds 2 3 x y, st⟩)) (dCall F_rising_places (aCons (dVar 1) aNil)))))
noncomputable def F_Share___init__ : List D → Sto → ER := fnD 2 4 g_Share___init__
noncomputable def lb_Share_both_1 : En → ER :=
  (dAnd (dCall F_covers (aCons (dFld ix_parts (dVar 0)) (aCons (dVar 4) (aCons (dVar 5) aNil)))) (dCall F_covers (aCons (dVar 2) (aCons (dVar 4) (aCons (dVar 5) aNil)))))
theorem q_lb_Share_both_1 {e : En} : lb_Share_both_1 e = (dAnd (dCall F_covers (aCons (dFld ix_parts (dVar 0)) (aCons (dVar 4) (aCons (dVar 5) aNil)))) (dCall F_covers (aCons (dVar 2) (aCons (dVar 4) (aCons (dVar 5) aNil))))) e := rfl
noncomputable def g_Share_both : En → SR :=
  (sSeq (sSetF 2 (dMeth 7 F_Share_spans 1 0 [0] [] (dVar 1) aNil aNil))
  (sSeq (sSetF 3 (dCall F_rising_places (aCons (dOp oAdd (dFld ix_parts (dVar 0)) (dVar 2)) aNil)))
  (sRet (dMake 7 F_Share___init__ 2 0 [0, 1] [] (aCons (dLamC np_Share_both ("Share.both" ++ ".<locals>." ++ "<lambda>") 5 (g_spans_where (fun ds x y st => lb_Share_both_1 ⟨cloE ds 4 5 x y, st⟩)) (dVar 3)) aNil) aNil))))
noncomputable def F_Share_both : List D → Sto → ER := fnD 2 6 g_Share_both
noncomputable def g_Share_parted : En → SR :=
  (sSeq (sDrop (dCall F_ask_span (aCons (dVar 1) (aCons (dVar 1) aNil))))
  (sRet (dTup (aCons (dMeth 7 F_Share_both 2 0 [0, 1] [] (dVar 0) (aCons (dMake 7 F_Share___init__ 2 0 [0, 1] [] (aCons (dLst (aCons (dTup (aCons (dC (.tup [(.int 0), (.int 1)])) (aCons (dVar 1) aNil))) aNil)) aNil) aNil) aNil) aNil) (aCons (dMeth 7 F_Share_both 2 0 [0, 1] [] (dVar 0) (aCons (dMake 7 F_Share___init__ 2 0 [0, 1] [] (aCons (dLst (aCons (dTup (aCons (dVar 1) (aCons (dC (.tup [(.int 1), (.int 1)])) aNil))) aNil)) aNil) aNil) aNil) aNil) aNil)))))
noncomputable def F_Share_parted : List D → Sto → ER := fnD 2 2 g_Share_parted
noncomputable def g_Way_talk : En → SR :=
  (sSeq (sSetF 1 (dMake 9 F_Talk___init__ 2 0 [0, 1] [] (aCons (dFld ix_said (dVar 0)) aNil) aNil))
  (sSeq (sTryO sub_Due (sFldS ix_parts (dVar 1) (dAlt (isC 7 (dVar 0)) (dMeth 7 F_Share_parted 2 0 [0, 1] [] (dVar 0) (aCons (dVar 1) aNil) aNil) (dMeth 11 F_OneCuts_parted 2 0 [0, 1] [] (dVar 0) (aCons (dVar 1) aNil) aNil))) (sFldS ix_parts (dVar 1) (dC .non)))
  (sRetV 1)))
noncomputable def F_Way_talk : List D → Sto → ER := fnD 1 2 g_Way_talk
noncomputable def g_Way_due : En → SR :=
  (sRet (dFld ix_waits (dMeth 11 F_Way_talk 1 0 [0] [] (dVar 0) aNil aNil)))
noncomputable def F_Way_due : List D → Sto → ER := fnD 1 1 g_Way_due
noncomputable def g_Way_log : En → SR :=
  (sRet (dLz (aCons (dFld ix_asks (dMeth 11 F_Way_talk 1 0 [0] [] (dVar 0) aNil aNil)) (aCons (dFld ix_said (dVar 0)) aNil))))
noncomputable def F_Way_log : List D → Sto → ER := fnD 1 1 g_Way_log
noncomputable def ce_Way_asked_1 : En → ER :=
  (dVar 3)
theorem q_ce_Way_asked_1 {e : En} : ce_Way_asked_1 e = (dVar 3) e := rfl
noncomputable def ct_Way_asked_2 : En → ER :=
  (dOp oEq (dOp oIx (dVar 3) (dC (.int 1))) (dVar 2))
theorem q_ct_Way_asked_2 {e : En} : ct_Way_asked_2 e = (dOp oEq (dOp oIx (dVar 3) (dC (.int 1))) (dVar 2)) e := rfl
noncomputable def ce_Way_asked_3 : En → ER :=
  (dCB oLen (aCons (dLcX (dVar 1) (tgN 3) ct_Way_asked_2 ce_Way_asked_1 [3]) aNil))
theorem q_ce_Way_asked_3 {e : En} : ce_Way_asked_3 e = (dCB oLen (aCons (dLcX (dVar 1) (tgN 3) ct_Way_asked_2 ce_Way_asked_1 [3]) aNil)) e := rfl
noncomputable def g_Way_asked : En → SR :=
  (sSeq (sSetF 1 (dFld ix_asks (dMeth 11 F_Way_talk 1 0 [0] [] (dVar 0) aNil aNil)))
  (sRet (dLc (dRng rng1 (aCons (dMeth 11 F_OneCuts_hands 1 0 [0] [] (dVar 0) aNil aNil) aNil)) (tgN 2) (fun E => .val .P (.bl true) E.st) ce_Way_asked_3 [2])))
noncomputable def F_Way_asked : List D → Sto → ER := fnD 1 4 g_Way_asked
noncomputable def ce_Way_shares_1 : En → ER :=
  (dMake 7 F_Share___init__ 2 0 [0, 1] [] (aCons (dVar 2) aNil) aNil)
theorem q_ce_Way_shares_1 {e : En} : ce_Way_shares_1 e = (dMake 7 F_Share___init__ 2 0 [0, 1] [] (aCons (dVar 2) aNil) aNil) e := rfl
noncomputable def g_Way_shares : En → SR :=
  (sSeq (sSetF 1 (dMeth 11 F_Way_talk 1 0 [0] [] (dVar 0) aNil aNil))
  (sSeq (sIf (dOp oNotN (dFld ix_waits (dVar 1)) (dC .non)) (sRaiseF 6 (aCons (dCB oLen (aCons (dFld ix_said (dVar 0)) aNil)) aNil)) sSkip)
  (sRet (dLc (dIter (dFld ix_parts (dVar 1))) (tgN 2) (fun E => .val .P (.bl true) E.st) ce_Way_shares_1 [2]))))
noncomputable def F_Way_shares : List D → Sto → ER := fnD 1 3 g_Way_shares
noncomputable def g_Way_ended : En → SR :=
  (sRet (dOp oIsN (dMeth 11 F_Way_due 1 0 [0] [] (dVar 0) aNil aNil) (dC .non)))
noncomputable def F_Way_ended : List D → Sto → ER := fnD 1 1 g_Way_ended
noncomputable def g_Way_answer : En → SR :=
  (sSeq (sSetF 2 (dMeth 11 F_Way_due 1 0 [0] [] (dVar 0) aNil aNil))
  (sSeq (sIf (dOp oIsN (dVar 2) (dC .non)) (sRaise 4) sSkip)
  (sSeq (sIf (dNot (dCall F_is_legal (aCons (dVar 2) (aCons (dVar 1) aNil)))) (sRaiseF 5 (aCons (dVar 2) aNil)) sSkip)
  (sSeq (sDrop (dMtX mAppend (dFld ix_said (dVar 0)) (aCons (dVar 1) aNil)))
  (sSeq (sFldS ix_unsaid (dVar 0) (dLst aNil))
  (sDrop (dMeth 11 F_Way_told_all 3 0 [0, 1, 2] [] (dVar 0) (aCons (dC (.str "answer")) (aCons (dVar 1) aNil)) aNil)))))))
noncomputable def F_Way_answer : List D → Sto → ER := fnD 2 3 g_Way_answer
noncomputable def ce_law_stands_1 : En → ER :=
  (dVar 13)
theorem q_ce_law_stands_1 {e : En} : ce_law_stands_1 e = (dVar 13) e := rfl
noncomputable def ct_law_stands_2 : En → ER :=
  (dOp oEq (dOp oIx (dVar 13) (dC (.int 1))) (dVar 10))
theorem q_ct_law_stands_2 {e : En} : ct_law_stands_2 e = (dOp oEq (dOp oIx (dVar 13) (dC (.int 1))) (dVar 10)) e := rfl
noncomputable def ce_law_stands_3 : En → ER :=
  (dCB oLen (aCons (dLc (dIter (dSl oSl (dVar 1) (fun _ => none) (fun e => some ((dCB oLen (aCons (dVar 2) aNil)) e)))) (tgN 13) ct_law_stands_2 ce_law_stands_1 [13]) aNil))
theorem q_ce_law_stands_3 {e : En} : ce_law_stands_3 e = (dCB oLen (aCons (dLc (dIter (dSl oSl (dVar 1) (fun _ => none) (fun e => some ((dCB oLen (aCons (dVar 2) aNil)) e)))) (tgN 13) ct_law_stands_2 ce_law_stands_1 [13]) aNil)) e := rfl
noncomputable def ce_law_stands_4 : En → ER :=
  (dIsi "bool" (dVar 14))
theorem q_ce_law_stands_4 {e : En} : ce_law_stands_4 e = (dIsi "bool" (dVar 14)) e := rfl
noncomputable def ce_law_stands_5 : En → ER :=
  (dMeth 7 F_Share_spans 1 0 [0] [] (dVar 11) aNil aNil)
theorem q_ce_law_stands_5 {e : En} : ce_law_stands_5 e = (dMeth 7 F_Share_spans 1 0 [0] [] (dVar 11) aNil aNil) e := rfl
noncomputable def ce_law_stands_6 : En → ER :=
  (dIf (dCall F_law_less (aCons (dOp oIx (dVar 12) (dC (.int 0))) (aCons (dOp oIx (dVar 12) (dC (.int 1))) aNil))) (dLst (aCons (dVar 12) aNil)) (dLst aNil))
theorem q_ce_law_stands_6 {e : En} : ce_law_stands_6 e = (dIf (dCall F_law_less (aCons (dOp oIx (dVar 12) (dC (.int 0))) (aCons (dOp oIx (dVar 12) (dC (.int 1))) aNil))) (dLst (aCons (dVar 12) aNil)) (dLst aNil)) e := rfl
noncomputable def g_law_stands : En → SR :=
  (sSeq (sSetF 4 (dC .non))
  (sSeq (sSetF 5 (dMeth 11 F_OneCuts_hands 1 0 [0] [] (dVar 0) aNil aNil))
  (sSeq (sIf (dOp oGt (dCB oLen (aCons (dVar 1) aNil)) (dCB oLen (aCons (dVar 2) aNil))) (sSetF 4 (dOp oIx (dVar 1) (dCB oLen (aCons (dVar 2) aNil)))) sSkip)
  (sSeq (sIf (dOr (dOp oNe (dMeth 11 F_Way_due 1 0 [0] [] (dVar 0) aNil aNil) (dVar 4)) (dOr (dOp oNe (dMeth 11 F_Way_ended 1 0 [0] [] (dVar 0) aNil aNil) (dOp oIsN (dVar 4) (dC .non))) (dNot (dIsi "bool" (dMeth 11 F_Way_ended 1 0 [0] [] (dVar 0) aNil aNil))))) (sRet (dC (.bl false))) sSkip)
  (sSeq (sSetF 6 (dMeth 11 F_Way_log 1 0 [0] [] (dVar 0) aNil aNil))
  (sSeq (sIf (dOr (dNot (dIsi "list" (dVar 6))) (dOr (dOp oNe (dVar 6) (dLz (aCons (dVar 1) (aCons (dVar 2) aNil)))) (dOp oNe (dLenX [(7, F_Share___len__), (11, F_Way___len__)] (dVar 0)) (dCB oLen (aCons (dVar 2) aNil))))) (sRet (dC (.bl false))) sSkip)
  (sSeq (sSetF 7 (dLc (dRng rng1 (aCons (dVar 5) aNil)) (tgN 10) (fun E => .val .P (.bl true) E.st) ce_law_stands_3 [10]))
  (sSeq (sIf (dOr (dOp oNe (dMeth 11 F_Way_asked 1 0 [0] [] (dVar 0) aNil aNil) (dVar 7)) (dCB oAny (aCons (dLc (dIter (dOp oAdd (dMeth 11 F_Way_asked 1 0 [0] [] (dVar 0) aNil aNil) (dLst (aCons (dVar 5) aNil)))) (tgN 14) (fun E => .val .P (.bl true) E.st) ce_law_stands_4 [14]) aNil))) (sRet (dC (.bl false))) sSkip)
  (sSeq (sSetF 8 (dC .non))
  (sSeq (sTryAs 9 sub_NotEnded (sSetF 8 (dLc (dIter (dMeth 11 F_Way_shares 1 0 [0] [] (dVar 0) aNil aNil)) (tgN 11) (fun E => .val .P (.bl true) E.st) ce_law_stands_5 [11])) (fun c l => (sSetF 8 (dXf 9 l[0]?))))
  (sSeq (sIf (dOp oNotN (dVar 4) (dC .non)) (sRet (dOp oEq (dVar 8) (dCB oLen (aCons (dVar 2) aNil)))) sSkip)
  (sRet (dOp oEq (dVar 8) (dLc (dIter (dVar 3)) (tgN 12) (fun E => .val .P (.bl true) E.st) ce_law_stands_6 [12]))))))))))))))
noncomputable def F_law_stands : List D → Sto → ER := fnD 4 15 g_law_stands
noncomputable def fb_law_1 : En → SR :=
  (sSeq (sAsg (tgT 2 (tgsCons (tgN 8) (tgsCons (tgN 9) tgsNil))) (dCall F_law_onecuts (aCons (dVar 2) (aCons (dVar 5) aNil))))
  (sSeq (sIf (dOr (dOp oNe (dMeth 11 F_OneCuts_hands 1 0 [0] [] (dVar 4) aNil aNil) (dC (.int 2))) (dNot (dCall F_law_stands (aCons (dVar 4) (aCons (dVar 8) (aCons (dCB oList (aCons (dVar 5) aNil)) (aCons (dVar 9) aNil))))))) (sRet (dC (.bl false))) sSkip)
  (sSeq (sIf (dOp oEq (dCB oLen (aCons (dVar 8) aNil)) (dCB oLen (aCons (dVar 5) aNil))) (sRet (dOp oEq (dCB oLen (aCons (dVar 5) aNil)) (dC (.int 2)))) sSkip)
  (sSeq (sSetF 7 (dCall F_law_reply (aCons (dVar 1) (aCons (dOp oIx (dVar 8) (dUn oNeg (dC (.int 1)))) (aCons (dVar 5) aNil)))))
  (sSeq (sIf (dOp oNotN (dMeth 11 F_Way_answer 2 0 [0, 1] [] (dVar 4) (aCons (dVar 7) aNil) aNil) (dC .non)) (sRet (dC (.bl false))) sSkip)
  (sMt mAppend 5 (aCons (dVar 7) aNil)))))))
theorem q_fb_law_1 {e : En} : fb_law_1 e = (sSeq (sAsg (tgT 2 (tgsCons (tgN 8) (tgsCons (tgN 9) tgsNil))) (dCall F_law_onecuts (aCons (dVar 2) (aCons (dVar 5) aNil))))
  (sSeq (sIf (dOr (dOp oNe (dMeth 11 F_OneCuts_hands 1 0 [0] [] (dVar 4) aNil aNil) (dC (.int 2))) (dNot (dCall F_law_stands (aCons (dVar 4) (aCons (dVar 8) (aCons (dCB oList (aCons (dVar 5) aNil)) (aCons (dVar 9) aNil))))))) (sRet (dC (.bl false))) sSkip)
  (sSeq (sIf (dOp oEq (dCB oLen (aCons (dVar 8) aNil)) (dCB oLen (aCons (dVar 5) aNil))) (sRet (dOp oEq (dCB oLen (aCons (dVar 5) aNil)) (dC (.int 2)))) sSkip)
  (sSeq (sSetF 7 (dCall F_law_reply (aCons (dVar 1) (aCons (dOp oIx (dVar 8) (dUn oNeg (dC (.int 1)))) (aCons (dVar 5) aNil)))))
  (sSeq (sIf (dOp oNotN (dMeth 11 F_Way_answer 2 0 [0, 1] [] (dVar 4) (aCons (dVar 7) aNil) aNil) (dC .non)) (sRet (dC (.bl false))) sSkip)
  (sMt mAppend 5 (aCons (dVar 7) aNil))))))) e := rfl
noncomputable def k_law_8 : En → SR :=
  (sRet (dC (.bl false)))
theorem q_k_law_8 {e : En} : k_law_8 e = (sRet (dC (.bl false))) e := rfl
noncomputable def k_law_7 : En → SR :=
  (sSeq (sFor (dRng rng1 (aCons (dC (.int 12)) aNil)) (tgN 6) fb_law_1)
  k_law_8)
theorem q_k_law_7 {e : En} : k_law_7 e = (sSeq (sFor (dRng rng1 (aCons (dC (.int 12)) aNil)) (tgN 6) fb_law_1)
  k_law_8) e := rfl
noncomputable def k_law_6 : En → SR :=
  (sSeq (sSetF 5 (dPut (dLst aNil)))
  k_law_7)
theorem q_k_law_6 {e : En} : k_law_6 e = (sSeq (sSetF 5 (dPut (dLst aNil)))
  k_law_7) e := rfl
noncomputable def k_law_5 : En → SR :=
  (sSeq (sIf (dAnd (dOp oEq (dVar 3) (dC (.int 1))) (dOp oEq (dVar 2) (dC (.int 0)))) (sSetF 4 (dMake 11 F_OneCuts___init__ 1 0 [0, 1] [(.int 0)] aNil aNil)) sSkip)
  k_law_6)
theorem q_k_law_5 {e : En} : k_law_5 e = (sSeq (sIf (dAnd (dOp oEq (dVar 3) (dC (.int 1))) (dOp oEq (dVar 2) (dC (.int 0)))) (sSetF 4 (dMake 11 F_OneCuts___init__ 1 0 [0, 1] [(.int 0)] aNil aNil)) sSkip)
  k_law_6) e := rfl
noncomputable def k_law_4 : En → SR :=
  (sSeq (sIf (dOp oEq (dVar 3) (dC (.int 0))) (sSetF 4 (dMake 11 F_OneCuts___init__ 2 0 [0, 1] [(.int 0)] (aCons (dVar 2) aNil) aNil)) sSkip)
  k_law_5)
theorem q_k_law_4 {e : En} : k_law_4 e = (sSeq (sIf (dOp oEq (dVar 3) (dC (.int 0))) (sSetF 4 (dMake 11 F_OneCuts___init__ 2 0 [0, 1] [(.int 0)] (aCons (dVar 2) aNil) aNil)) sSkip)
  k_law_5) e := rfl
noncomputable def k_law_3 : En → SR :=
  (sSeq (sSetF 4 (dMake 11 F_OneCuts___init__ 1 1 [0, 1] [(.int 0)] aNil (aCons (dVar 2) aNil)))
  k_law_4)
theorem q_k_law_3 {e : En} : k_law_3 e = (sSeq (sSetF 4 (dMake 11 F_OneCuts___init__ 1 1 [0, 1] [(.int 0)] aNil (aCons (dVar 2) aNil)))
  k_law_4) e := rfl
noncomputable def k_law_2 : En → SR :=
  (sSeq (sSetF 3 (dCall F_law_take (aCons (dVar 1) (aCons (dC (.int 3)) aNil))))
  k_law_3)
theorem q_k_law_2 {e : En} : k_law_2 e = (sSeq (sSetF 3 (dCall F_law_take (aCons (dVar 1) (aCons (dC (.int 3)) aNil))))
  k_law_3) e := rfl
noncomputable def k_law_1 : En → SR :=
  (sSeq (sSetF 2 (dCall F_law_take (aCons (dVar 1) (aCons (dC (.int 2)) aNil))))
  k_law_2)
theorem q_k_law_1 {e : En} : k_law_1 e = (sSeq (sSetF 2 (dCall F_law_take (aCons (dVar 1) (aCons (dC (.int 2)) aNil))))
  k_law_2) e := rfl
noncomputable def g_law : En → SR :=
  (sSeq (sSetF 1 (dCall F_law_box (aCons (dVar 0) aNil)))
  k_law_1)
noncomputable def F_law : List D → Sto → ER := fnD 1 10 g_law
end Dn
namespace Dn
open PySem PySem.Spec PyProof.Rows L2
/-! ### the program's fractions -/
theorem divisor_eq (a b : Int) (st : Sto) : F_divisor [.int a, .int b] st = .val .P (.int (Int.gcd a b)) st := by
  simp [F_divisor, g_divisor, wc_divisor_1, wb_divisor_2, absI, gcd_while]
  rfl
theorem fraction_of_eq {t b : Int} (hb : b ≠ 0) (h : b.natAbs.log2 < 9000) (st : Sto) : F_fraction_of [.int t, .int b] st = .val .P (dF (Rat.divInt t b)) st := by
  obtain ⟨h1, h2⟩ := sgd_log (t := t) hb h
  obtain ⟨e1, e2⟩ := low_num t b hb
  unfold dF
  rw [← e1, ← e2]
  by_cases hn : b < 0
  · simp [F_fraction_of, g_fraction_of, hb, divisor_eq, hn, h1, h2]
  · simp [F_fraction_of, g_fraction_of, hb, divisor_eq, hn, h1, h2]
theorem is_less_eq {a b : Rat} {m n : Nat} (ha : Sz m a) (hb : Sz n b) (h : m + n < 900000) (st : Sto) : F_is_less [dF a, dF b] st = .val .P (.bl (decide (a < b))) st := by
  have m1 := bit_log2 ha.1 hb.den (by omega)
  have m2 := bit_log2 hb.1 ha.den (by omega)
  simp only [Int.natAbs_natCast] at m1 m2
  simp [F_is_less, g_is_less, m1, m2, lt_num]
theorem low_wh (st : Sto) : ∀ (b a : Nat) (x y : SL), ∃ n, whN wc_law_low_1 wb_law_low_2 n ⟨[x, y, .val (.int a), .val (.int b)], st⟩ = some (.nx ⟨[x, y, .val (.int (Nat.gcd a b)), .val (.int 0)], st⟩) := by
  intro b
  induction b using Nat.strongRecOn with
  | ind b ih =>
    intro a x y
    by_cases hb : b = 0
    · subst hb
      refine ⟨1, ?_⟩
      rw [e_wh (x := false) (m := .P) (st1 := st) (by simp [q_wc_law_low_1])]
      simp
    · obtain ⟨n, hn⟩ := ih (a % b) (Nat.mod_lt _ (Nat.pos_of_ne_zero hb)) b x y
      refine ⟨n + 1, ?_⟩
      rw [e_wh (x := true) (m := .P) (st1 := st) (by simp [q_wc_law_low_1]; omega)]
      have hm : (a : Int).fmod (b : Int) = ((a % b : Nat) : Int) := by
        rw [Int.fmod_eq_emod_of_nonneg _ (Int.natCast_nonneg b)]
        rfl
      have hb' : ¬ (b : Int) = 0 := by omega
      simp only [if_true, q_wb_law_low_2, e_sPar, e_aCons, e_aNil, e_dVar, e_dOp, List.getElem?_cons_succ, List.getElem?_cons_zero, ER.bind_val, e_oMod_1, cons_P, acons_ok, ne_eq, hb', not_false_eq_true, Bool.and_self, List.set_cons_zero, List.set_cons_succ, hm]
      rw [hn]
      have : Nat.gcd a b = Nat.gcd b (a % b) := by
        rw [Nat.gcd_comm a b, Nat.gcd_rec b a, Nat.gcd_comm]
      rw [this]
/-! ### the law's own fractions -/
theorem law_low_eq {t b : Int} (hb : b ≠ 0) (h : b.natAbs.log2 < 9000) (st : Sto) : F_law_low [.int t, .int b] st = .val .P (dF (Rat.divInt t b)) st := by
  obtain ⟨h1, h2⟩ := sgd_log (t := t) hb h
  obtain ⟨e1, e2⟩ := low_num t b hb
  unfold dF
  rw [← e1, ← e2]
  have hw : ∀ x y : SL, ∀ a b : Nat, sWhile wc_law_low_1 wb_law_low_2 ⟨[x, y, .val (.int a), .val (.int b)], st⟩ = .nx ⟨[x, y, .val (.int (Nat.gcd a b)), .val (.int 0)], st⟩ := fun x y a b => by
    obtain ⟨n, h⟩ := low_wh st b a x y
    exact sWhile_eq h
  have hg : Nat.gcd t.natAbs b.natAbs = Int.gcd t b := rfl
  simp only [F_law_low, g_law_low, e_fnD, e_startE, e_sSeq, e_sSetF, e_dCB, e_aCons, e_aNil, e_dVar, List.map_cons, List.map_nil, List.length_cons, List.length_nil, if_true, List.cons_append, List.nil_append, List.replicate, List.getElem?_cons_succ, List.getElem?_cons_zero, Nat.reduceAdd, Nat.reduceSub, cons_P, acons_ok, e_oAbs_1, absI, SR.bind_nx, List.set_cons_succ, List.set_cons_zero, hw, hg]
  by_cases hn : b < 0
  · simp [hn, h1, h2]
  · simp [hn, h1, h2]
theorem law_plus_eq {a b : Rat} {m n : Nat} (ha : Sz m a) (hb : Sz n b) (h : m + n < 9000) (st : Sto) : F_law_plus [dF a, dF b] st = .val .P (dF (a + b)) st := by
  have m1 := bit_log2 ha.1 hb.den (by omega)
  have m2 := bit_log2 hb.1 ha.den (by omega)
  have m3 := bit_log2 ha.den hb.den (by omega)
  have f := fun t => law_low_eq (t := t) (den2 a b) (bit_log (bit_mul ha.den hb.den) h) st
  rw [q_add]
  simp only [Int.natAbs_natCast] at m1 m2 m3
  simp [F_law_plus, g_law_plus, m1, m2, m3, f]
theorem law_less_eq {a b : Rat} {m n : Nat} (ha : Sz m a) (hb : Sz n b) (h : m + n < 900000) (st : Sto) : F_law_less [dF a, dF b] st = .val .P (.bl (decide (a < b))) st := by
  have m1 := bit_log2 ha.1 hb.den (by omega)
  have m2 := bit_log2 hb.1 ha.den (by omega)
  simp only [Int.natAbs_natCast] at m1 m2
  simp [F_law_less, g_law_less, m1, m2, lt_num]
theorem ask_span_eq {x y : Rat} {s : Nat} (hx : Sz (s + 1) x) (hy : Sz (s + 1) y) (hs : s ≤ 4000) (st : Sto) : F_ask_span [dF x, dF y] st = if x < 0 ∨ 1 < y ∨ y < x then .exc 2 [] st else .val .P .non st := by
  have l1 := is_less_eq hx (sz0 (n := s)) (by omega) st
  have l2 := is_less_eq (sz1 (n := s)) hy (by omega) st
  have l3 := is_less_eq hy hx (by omega) st
  by_cases c1 : x < 0
  · simp [F_ask_span, g_ask_span, l1, c1]
  · by_cases c2 : 1 < y
    · simp [F_ask_span, g_ask_span, l1, l2, c1, c2]
    · by_cases c3 : y < x <;> simp [F_ask_span, g_ask_span, l1, l2, l3, c1, c2, c3]
/-! the law's box -/
theorem fmod_in (x : Int) {s : Int} (h : 0 < s) : 0 ≤ x.fmod s ∧ x.fmod s < s := ⟨Int.fmod_nonneg_of_pos x h, Int.fmod_lt_of_pos x h⟩
theorem atI_ok {α : Type} {l : List α} {i : Int} (h0 : 0 ≤ i) (h : i < l.length) : ∃ x, atI l i = some x := by
  have hi : i.toNat < l.length := by omega
  refine ⟨l[i.toNat], ?_⟩
  have := atI_nat (List.getElem?_eq_getElem hi)
  rwa [Int.toNat_of_nonneg h0] at this
theorem mixed_ex (c k : Int) (h0 : 0 ≤ k) (h1 : k ≤ 1000000) : ∃ r : Int, 0 ≤ r ∧ r < 1000000007 ∧ ∀ st, F_law_mixed [.int c, .int k] st = .val .P (.int r) st := by
  have hc := fmod_in c (s := 2147483647) (by decide)
  have hkk : (1009 : Int) * k * k ≤ 1009 * 1000000 * 1000000 := Int.mul_le_mul (by omega) h1 h0 (by omega)
  have hkk0 : (0 : Int) ≤ 1009 * k * k := Int.mul_nonneg (by omega) h0
  have q1 : (1009 : Int).natAbs.log2 + k.natAbs.log2 < 1000000 := mul_ok (a := 20) (b := 30) (by decide) (by omega) (by decide) (by decide) (by decide)
  have q2 : (1009 * k).natAbs.log2 + k.natAbs.log2 < 1000000 := mul_ok (a := 60) (b := 30) (by omega) (by omega) (by decide) (by decide) (by decide)
  have q3 : (48611 : Int).natAbs.log2 + k.natAbs.log2 < 1000000 := mul_ok (a := 20) (b := 30) (by decide) (by omega) (by decide) (by decide) (by decide)
  generalize hb : (c.fmod 2147483647 + 1009 * k * k + 48611 * k + 17) = bb
  have q4 : bb.natAbs < 2 ^ 64 := by omega
  have hm := fmod_in (bb ^ 5) (s := 2147483647) (by decide)
  generalize hw : (bb ^ 5).fmod 2147483647 = w at hm
  have q5 : w.natAbs.log2 + (39373 : Int).natAbs.log2 < 1000000 := mul_ok (a := 40) (b := 20) (by omega) (by decide) (by decide) (by decide) (by decide)
  have q6 : (7919 : Int).natAbs.log2 + k.natAbs.log2 < 1000000 := mul_ok (a := 20) (b := 30) (by decide) (by omega) (by decide) (by decide) (by decide)
  have hr := fmod_in (w * 39373 + 7919 * k) (s := 1000000007) (by decide)
  refine ⟨_, hr.1, hr.2, fun st => ?_⟩
  simp only [F_law_mixed, g_law_mixed, e_fnD, e_startE, e_sSeq, e_sSetF, e_dOp, e_dVar, e_dC, List.map_cons, List.map_nil, List.length_cons, List.length_nil, if_true, List.cons_append, List.nil_append, List.replicate, List.getElem?_cons_succ, List.getElem?_cons_zero, ER.bind_val, e_oMod_1, e_oMul_1, e_oAdd_1, e_oPow_1, q1, q2, q3, hb, q4, hw, q5, q6]
  have q4' : bb.natAbs < 18446744073709551616 := q4
  simp +decide [hb, q4', hw, q5, q6]
  simp +decide at q5 q6
  simp +decide [q5, q6]
/-- the box lies at p, its great cells at q; N: how many draws at most -/
def Box (p q N : Nat) (st : Sto) : Prop := p ≠ q ∧ ∃ (g sm : List Int) (a c : Int), st[q]? = some (.lst (g.map .int)) ∧ st[p]? = some (.lst [.ptr q, .int a, .lst (sm.map .int), .int c]) ∧ 0 ≤ a ∧ 0 ≤ c ∧ c ≤ N ∧ (∀ x ∈ g, 0 < x) ∧ g.length ≤ 63 ∧ sm.length ≤ 63
/-- all else stands -/
def Rest (p q : Nat) (st st' : Sto) : Prop := st'.length = st.length ∧ ∀ m, m ≠ p → m ≠ q → st'[m]? = st[m]?
theorem Rest.refl {p q : Nat} {st : Sto} : Rest p q st st := ⟨rfl, fun _ _ _ => rfl⟩
theorem Rest.trans {p q : Nat} {s t u : Sto} (h : Rest p q s t) (k : Rest p q t u) : Rest p q s u := ⟨k.1.trans h.1, fun m a b => (k.2 m a b).trans (h.2 m a b)⟩
theorem Box.up {p q N M : Nat} {st : Sto} (h : Box p q N st) (k : N ≤ M) : Box p q M st := by
  obtain ⟨a, g, sm, x, c, h1, h2, h3, h4, h5, h6⟩ := h
  exact ⟨a, g, sm, x, c, h1, h2, h3, h4, by omega, h6⟩
theorem take_loop {p : Nat} {st : Sto} {n c k : Int} (hn : n < 2 ^ 1000) (hst : ∃ x y z, st[p]? = some (.lst [x, y, z, .int c])) (hc0 : 0 ≤ c) (hc : c ≤ 200000) :
    ∀ (m : Nat) (f r : Int), 0 < r → 0 ≤ f → f < r → r < n * 1000000007 ∨ r = 1 → (n - r).toNat ≤ m →
      ∃ f' r', 0 ≤ f' ∧ ∃ i, whN wc_law_take_1 wb_law_take_2 i ⟨[.val (.ptr p), .val (.int n), .val (.int k), .val (.int f), .val (.int r)], st⟩ = some (.nx ⟨[.val (.ptr p), .val (.int n), .val (.int k), .val (.int f'), .val (.int r')], st⟩) := by
  obtain ⟨x, y, z, hst⟩ := hst
  intro m
  induction m with
  | zero =>
    intro f r hr hf hfr hb hm
    refine ⟨f, r, hf, 1, ?_⟩
    rw [e_wh (x := false) (m := .P) (st1 := st) (by simp [q_wc_law_take_1]; omega)]
    simp
  | succ m ih =>
    intro f r hr hf hfr hb hm
    by_cases hlt : r < n
    · obtain ⟨mx, h0, h1, hx⟩ := mixed_ex k (c + 1000 * f.fmod 89) (by have := fmod_in f (s := 89) (by decide); omega) (by have := fmod_in f (s := 89) (by decide); omega)
      obtain ⟨f', r', hf', i, hi⟩ := ih (f * 1000000007 + mx) (r * 1000000007) (by omega) (by omega) (by omega) (by omega) (by omega)
      refine ⟨f', r', hf', i + 1, ?_⟩
      rw [e_wh (x := true) (m := .P) (st1 := st) (by simp [q_wc_law_take_1]; omega)]
      have q1 : f.natAbs.log2 + Nat.log2 1000000007 < 1000000 := mul_ok (j := 1000000007) (a := 1000) (b := 40) (by omega) (by decide) (by decide) (by decide) (by decide)
      have q2 : r.natAbs.log2 + Nat.log2 1000000007 < 1000000 := mul_ok (j := 1000000007) (a := 1000) (b := 40) (by omega) (by decide) (by decide) (by decide) (by decide)
      have q3 : Nat.log2 1000 + (f.fmod 89).natAbs.log2 < 1000000 := mul_ok (i := 1000) (a := 40) (b := 40) (by decide) (by have := fmod_in f (s := 89) (by decide); omega) (by decide) (by decide) (by decide)
      simp [q_wb_law_take_2, q1, q2, q3, hst, atI, ixN, hx]
      exact hi
    · refine ⟨f, r, hf, 1, ?_⟩
      rw [e_wh (x := false) (m := .P) (st1 := st) (by simp [q_wc_law_take_1]; omega)]
      simp
theorem take_ok {p q N : Nat} {st : Sto} {n : Int} (B : Box p q N st) (h1 : 1 ≤ n) (h2 : n < 2 ^ 1000 := by decide) (hN : N ≤ 100000 := by decide) : ∃ r st', F_law_take [.ptr p, .int n] st = .val .P (.int r) st' ∧ 0 ≤ r ∧ r < n ∧ Box p q (N + 1) st' ∧ Rest p q st st' := by
  obtain ⟨pq, g, sm, a, c, hq, hp, a0, c0, cN, gp, gl, sl⟩ := B
  have qp : q ≠ p := fun h => pq h.symm
  have lp : p < st.length := (List.getElem?_eq_some_iff.mp hp).1
  have lq : q < st.length := (List.getElem?_eq_some_iff.mp hq).1
  have hn0 : ¬ n = 0 := by omega
  have hlog : n.natAbs.log2 < 9000 := Nat.lt_of_lt_of_le (log2_lt (k := 1000) (by decide) (by omega)) (by decide)
  have sp : ∀ (s : Sto) (x : Ob), s.length = st.length → (s.set p x)[p]? = some x := fun s x h => List.getElem?_set_self (by omega)
  have sq : ∀ (s : Sto) (x : Ob), s.length = st.length → (s.set q x)[q]? = some x := fun s x h => List.getElem?_set_self (by omega)
  by_cases ha : 0 < a
  · have hd := Int.fdiv_nonneg a0 (show 0 ≤ n by omega)
    refine ⟨a.fmod n, (st.set p (.lst [.ptr q, .int a, .lst (sm.map .int), .int (c + 1)])).set p (.lst [.ptr q, .int (a.fdiv n), .lst (sm.map .int), .int (c + 1)]), ?_, (fmod_in a h1).1, (fmod_in a h1).2, ⟨pq, g, sm, a.fdiv n, c + 1, ?_, ?_, hd, by omega, by omega, gp, gl, sl⟩, by simp, fun m m1 m2 => ?_⟩
    · have ha' : ¬ a = 0 := by omega
      simp [F_law_take, g_law_take, hp, hq, atI, ixN, ha, ha', sp, hn0, hlog, List.getElem?_set_ne pq]
    · simp [List.getElem?_set_ne pq, hq]
    · exact sp _ _ (by simp)
    · simp [List.getElem?_set_ne (Ne.symm m1)]
  · have ha0 : a = 0 := by omega
    subst ha0
    cases g with
    | cons x g =>
      have hx : 0 < x := gp x (List.mem_cons_self ..)
      have hd := Int.fdiv_nonneg (show 0 ≤ x by omega) (show 0 ≤ n by omega)
      refine ⟨x.fmod n, ((((st.set p (.lst [.ptr q, .int 0, .lst (sm.map .int), .int (c + 1)])).set q (.lst (g.map .int))).set p (.lst [.ptr q, .int x, .lst (sm.map .int), .int (c + 1)]))).set p (.lst [.ptr q, .int (x.fdiv n), .lst (sm.map .int), .int (c + 1)]), ?_, (fmod_in x h1).1, (fmod_in x h1).2, ⟨pq, g, sm, x.fdiv n, c + 1, ?_, ?_, hd, by omega, by omega, fun y hy => gp y (List.mem_cons_of_mem _ hy), by simp at gl; omega, sl⟩, by simp, fun m m1 m2 => ?_⟩
      · have hx' : ¬ x = 0 := by omega
        simp [F_law_take, g_law_take, hp, hq, atI, ixN, hx, hx', sp, sq, hn0, hlog, List.getElem?_set_ne pq, List.getElem?_set_ne qp, seqIndex?]
      · rw [List.getElem?_set_ne pq, List.getElem?_set_ne pq]; exact sq _ _ (by simp)
      · exact sp _ _ (by simp)
      · simp [List.getElem?_set_ne (Ne.symm m1), List.getElem?_set_ne (Ne.symm m2)]
    | nil =>
      have hS : (st.set p (.lst [.ptr q, .int 0, .lst (sm.map .int), .int (c + 1)]))[p]? = some (.lst [.ptr q, .int 0, .lst (sm.map .int), .int (c + 1)]) := sp _ _ rfl
      have hQ : (st.set p (.lst [.ptr q, .int 0, .lst (sm.map .int), .int (c + 1)]))[q]? = some (.lst []) := by rw [List.getElem?_set_ne pq]; exact hq
      have hl : (st.set p (.lst [.ptr q, .int 0, .lst (sm.map .int), .int (c + 1)])).length = st.length := by simp
      have hr : ∀ m, m ≠ p → m ≠ q → (st.set p (.lst [.ptr q, .int 0, .lst (sm.map .int), .int (c + 1)]))[m]? = st[m]? := fun m m1 m2 => List.getElem?_set_ne (Ne.symm m1)
      generalize hs : st.set p (.lst [.ptr q, .int 0, .lst (sm.map .int), .int (c + 1)]) = s at hS hQ hl hr
      have q7 : Nat.log2 7 + (c + 1).natAbs.log2 < 1000000 := mul_ok (i := 7) (a := 40) (b := 40) (by decide) (by omega) (by decide) (by decide) (by decide)
      have key : ∀ k : Int, ∃ f, 0 ≤ f ∧ f < n ∧ ((sSeq (sSetF 3 (dC (.int 0)))
          (sSeq (sSetF 4 (dC (.int 1)))
          (sSeq (sWhile wc_law_take_1 wb_law_take_2)
          (sRet (dOp oMod (dVar 3) (dVar 1)))))) ⟨[.val (.ptr p), .val (.int n), .val (.int k), .emp, .emp], s⟩) = .rt .P (.int f) s := fun k => by
        obtain ⟨f, r, hf, i, hi⟩ := take_loop (p := p) (st := s) (n := n) (c := c + 1) (k := k) h2 ⟨_, _, _, hS⟩ (by omega) (by omega) (n - 1).toNat 0 1 (by decide) (by decide) (by decide) (.inr rfl) (by omega)
        have hw := sWhile_eq hi
        refine ⟨f.fmod n, (fmod_in f h1).1, (fmod_in f h1).2, ?_⟩
        simp [hw, hn0]
      have fin : ∀ f, 0 ≤ f → f < n → F_law_take [.ptr p, .int n] st = .val .P (.int f) s → ∃ r st', F_law_take [.ptr p, .int n] st = .val .P (.int r) st' ∧ 0 ≤ r ∧ r < n ∧ Box p q (N + 1) st' ∧ Rest p q st st' := fun f h3 h4 h5 =>
        ⟨f, s, h5, h3, h4, ⟨pq, [], sm, 0, c + 1, hQ, hS, by decide, by omega, by omega, fun y hy => by simp at hy, by decide, sl⟩, hl, hr⟩
      cases sm with
      | nil =>
        obtain ⟨f, f0, f1, hf⟩ := key (7 * (c + 1))
        refine fin f f0 f1 ?_
        simp only [e_sSeq] at hf
        simp [F_law_take, g_law_take, hp, atI, ixN] at hf hs hS ⊢
        rw [hs]
        simp [hS, hQ, q7, hf, atI, ixN]
      | cons y sm =>
        have hL : (0 : Int) < ((y :: sm).length : Int) := by rw [List.length_cons]; omega
        have hfm := fmod_in (c + 1) hL
        obtain ⟨k, hk⟩ := atI_ok (l := (y :: sm).map D.int) (i := (c + 1).fmod ((y :: sm).length : Int)) hfm.1 (by rw [List.length_map]; exact hfm.2)
        have hk2 : ∃ z, k = .int z := by
          unfold atI at hk
          cases hx : ixN ((y :: sm).map D.int).length ((c + 1).fmod ((y :: sm).length : Int)) with
          | none => rw [hx] at hk; cases hk
          | some j =>
            rw [hx] at hk
            have hk' : ((y :: sm).map D.int)[j]? = some k := hk
            rw [List.getElem?_map] at hk'
            cases hj : (y :: sm)[j]? with
            | none => rw [hj] at hk'; cases hk'
            | some z => rw [hj] at hk'; exact ⟨z, (Option.some.inj hk').symm⟩
        obtain ⟨z, rfl⟩ := hk2
        obtain ⟨f, f0, f1, hf⟩ := key z
        refine fin f f0 f1 ?_
        generalize hY : y :: sm = Y at *
        have hY0 : 0 < Y.length := by rw [← hY]; simp
        have hYn : ¬ Y = [] := by rw [← hY]; simp
        have hY1 : ¬ (Y.length : Int) = 0 := by omega
        have a3 : ∀ X : D, atI [D.ptr q, .int 0, .lst (Y.map .int), X] 3 = some X := fun X => by simp [atI, ixN]
        have a2 : ∀ X : D, atI [D.ptr q, .int 0, .lst (Y.map .int), X] 2 = some (.lst (Y.map .int)) := fun X => by simp [atI, ixN]
        have a1 : ∀ X : D, atI [D.ptr q, .int 0, .lst (Y.map .int), X] 1 = some (.int 0) := fun X => by simp [atI, ixN]
        have a0' : ∀ X : D, atI [D.ptr q, .int 0, .lst (Y.map .int), X] 0 = some (.ptr q) := fun X => by simp [atI, ixN]
        have i3 : ixN 4 3 = some 3 := by decide
        simp only [e_sSeq] at hf
        simp [F_law_take, g_law_take, hp, a3, i3] at hf hs hS ⊢
        rw [hs]
        simp [hS, hQ, q7, hf, a0', a1, a2, a3, hY0, hYn, hk]
/-! ### shares: places, covers, spans_where -/
theorem at_last {α : Type} {l : List α} {a : α} : atI (l ++ [a]) (-1) = some a := by
  have h1 : (1 : Int) ≤ (l.length : Int) + 1 := by omega
  have h2 : (-1 + ((l.length : Int) + 1)).toNat = l.length := by omega
  simp [atI, ixN, h1, h2]
theorem at_dF0 {l : List Rat} {i : Nat} (h : i < l.length) : atI (l.map dF) (i : Int) = some (dF l[i]) := by
  have h1 : ¬ (i : Int) < 0 := by omega
  simp [atI, ixN, h1, h]
/-- how many are not greater -/
def upto (q : Rat) (l : List Rat) : Nat := if q ∈ l then ahead q l + 1 else ahead q l
theorem upto_le {q : Rat} {l : List Rat} (hR : Ris l) : upto q l ≤ l.length := by
  have := ahead_le q l
  unfold upto
  split
  · rename_i m
    have hm := m
    by_cases c : ahead q l < l.length
    · omega
    · exfalso
      obtain ⟨j, hj, e⟩ := List.mem_iff_getElem.mp hm
      have := ahead_lt (q := q) (l := l) (i := j) (by omega) hj
      rw [e] at this; grind
  · exact this
theorem mem_ahead' {q : Rat} {l : List Rat} (h : Ris l) (m : q ∈ l) : ∃ c : ahead q l < l.length, l[ahead q l] = q := by
  have hle := ahead_le q l
  have hu := upto_le (q := q) h
  unfold upto at hu
  rw [if_pos m] at hu
  refine ⟨by omega, ?_⟩
  have g := ahead_ge (q := q) (l := l) (by omega)
  obtain ⟨j, hj, e⟩ := List.mem_iff_getElem.mp m
  have hj2 : ¬ j < ahead q l := fun z => by have := ahead_lt (q := q) z hj; rw [e] at this; grind
  by_cases z : j = ahead q l
  · subst z; exact e
  · have := List.pairwise_iff_getElem.mp h (ahead q l) j (by omega) hj (by omega)
    grind
theorem upto_lt {q : Rat} {l : List Rat} (hR : Ris l) {i : Nat} (h : i < l.length) (hi : upto q l ≤ i) : q < l[i] := by
  have hle := ahead_le q l
  unfold upto at hi
  by_cases m : q ∈ l
  · rw [if_pos m] at hi
    obtain ⟨c, e⟩ := mem_ahead' hR m
    have := List.pairwise_iff_getElem.mp hR (ahead q l) i c h (by omega)
    rw [e] at this; exact this
  · rw [if_neg m] at hi
    have c : ahead q l < l.length := by omega
    have g := ahead_ge (q := q) c
    have ne : l[ahead q l] ≠ q := fun e => m (e ▸ List.getElem_mem c)
    by_cases z : i = ahead q l
    · subst z; grind
    · have := List.pairwise_iff_getElem.mp hR (ahead q l) i c h (by omega)
      grind
theorem upto_ge {q : Rat} {l : List Rat} (hR : Ris l) {i : Nat} (h : i < l.length) (hi : i < upto q l) : ¬ q < l[i] := by
  unfold upto at hi
  by_cases m : q ∈ l
  · rw [if_pos m] at hi
    by_cases z : i < ahead q l
    · have := ahead_lt (q := q) z h; grind
    · have : i = ahead q l := by omega
      subst this
      obtain ⟨c, e⟩ := mem_ahead' hR m
      rw [e]; grind
  · rw [if_neg m] at hi
    have := ahead_lt (q := q) hi h; grind
theorem places_wh {l : List Rat} {q : Rat} {s : Nat} (hR : Ris l) (hl : ∀ a ∈ l, Sz s a) (hq : Sz s q) (hs : s ≤ 4000) (e0 e2 : SL) (st : Sto) : ∀ (k i : Nat), i = upto q l + k → i ≤ l.length → ∃ n, whN wc_rising_places_1 wb_rising_places_2 n ⟨[e0, .own (l.map dF), e2, .val (dF q), .val (.int i)], st⟩ = some (.nx ⟨[e0, .own (l.map dF), e2, .val (dF q), .val (.int (upto q l))], st⟩) := by
  intro k
  induction k with
  | zero =>
    intro i hi hil
    have hi : i = upto q l := by omega
    subst hi
    refine ⟨1, ?_⟩
    rw [e_wh (x := false) (m := .P) (st1 := st) ?_]
    · simp
    · cases hu : upto q l with
      | zero => simp -implicitDefEqProofs [q_wc_rising_places_1]
      | succ j =>
        have c : j < l.length := by omega
        have a1 := at_dF0 c
        have a2 := is_less_eq hq (hl _ (List.getElem_mem c)) (by omega) st
        have a3 := upto_ge (q := q) hR c (by omega)
        have a4 : (0 : Int) < (j : Int) + 1 := by omega
        have a5 : (j : Int) + 1 - 1 = (j : Int) := by omega
        simp -implicitDefEqProofs [q_wc_rising_places_1, a1, a2, a3, a4, a5]
  | succ k ih =>
    intro i hi hil
    obtain ⟨n, hn⟩ := ih (i - 1) (by omega) (by omega)
    refine ⟨n + 1, ?_⟩
    obtain ⟨j, rfl⟩ : ∃ j, i = j + 1 := ⟨i - 1, by omega⟩
    have c : j < l.length := by omega
    have a1 := at_dF0 c
    have a2 := is_less_eq hq (hl _ (List.getElem_mem c)) (by omega) st
    have a3 := upto_lt (q := q) hR c (by omega)
    have a4 : (0 : Int) < (j : Int) + 1 := by omega
    have a5 : (j : Int) + 1 - 1 = (j : Int) := by omega
    rw [e_wh (x := true) (m := .P) (st1 := st) ?_]
    · simp -implicitDefEqProofs [q_wb_rising_places_2, a5]
      exact hn
    · simp -implicitDefEqProofs [q_wc_rising_places_1, a1, a2, a3, a4, a5]
theorem places_body {l : List Rat} {q : Rat} {s : Nat} (hR : Ris l) (hl : ∀ a ∈ l, Sz s a) (hq : Sz s q) (hs : s ≤ 4000) (hn : l.length ≤ 900000) (e0 e2 e4 : SL) (st : Sto) : ∃ e4', fb_rising_places_3 ⟨[e0, .own (l.map dF), e2, .val (dF q), e4], st⟩ = .nx ⟨[e0, .own ((ins q l).map dF), e2, .val (dF q), e4'], st⟩ := by
  obtain ⟨n, h⟩ := places_wh hR hl hq hs e0 e2 st (l.length - upto q l) l.length (by have := upto_le (q := q) hR; omega) (Nat.le_refl _)
  have hw := sWhile_eq h
  have hle := ahead_le q l
  refine ⟨.val (.int (upto q l)), ?_⟩
  by_cases m : q ∈ l
  · have hu : upto q l = ahead q l + 1 := by simp [upto, m]
    obtain ⟨c, e⟩ := mem_ahead' hR m
    have a1 := at_dF0 c
    rw [e] at a1
    have a5 : (ahead q l : Int) + 1 - 1 = (ahead q l : Int) := by omega
    have a6 : ¬ (ahead q l : Int) + 1 = 0 := by omega
    rw [hu] at hw ⊢
    simp -implicitDefEqProofs [q_fb_rising_places_3, hw, ins, m, a1, a5, a6]
  · have hu : upto q l = ahead q l := by simp [upto, m]
    rw [hu] at hw ⊢
    have i1 : (ahead q l : Int) < 9223372036854775808 := by omega
    have i2 : l.length < 1000000 := by omega
    cases hz : ahead q l with
    | zero =>
      rw [hz] at hw
      simp only [Int.ofNat_zero, Int.natCast_zero] at hw
      simp -implicitDefEqProofs [q_fb_rising_places_3, hw, ins, m, hz, mInsert, i2]
    | succ j =>
      have c : j < l.length := by omega
      have a1 := at_dF0 c
      have a5 : (j : Int) + 1 - 1 = (j : Int) := by omega
      have a6 : ¬ (j : Int) + 1 = 0 := by omega
      have ne : ¬ l[j] = q := fun e => m (e ▸ List.getElem_mem c)
      rw [hz] at hw i1
      have a7 : (0 : Int) ≤ (j : Int) + 1 := by omega
      have a8 : ((j : Int) + 1).toNat = j + 1 := by omega
      simp only [Int.natCast_add, Int.natCast_one, Int.cast_ofNat_Int] at hw i1
      simp -implicitDefEqProofs [q_fb_rising_places_3, hw, ins, m, hz, a1, a5, a6, ne, mInsert, i1, i2, a7, a8]
theorem cut_to {α : Type} (l : List α) {a : Int} (h : 0 ≤ a) : cutG l none (some a) = l.take a.toNat := by
  have : ¬ a < 0 := by omega
  simp [cutG, HT.sIx, this]
theorem cut_from {α : Type} (l : List α) {a : Int} (h : 0 ≤ a) : cutG l (some a) none = l.drop a.toNat := by
  have : ¬ a < 0 := by omega
  simp only [cutG, HT.sIx, this, if_false]
  by_cases c : a.toNat ≤ l.length
  · rw [Nat.min_eq_left c, List.take_of_length_le (by rw [List.length_drop]; omega)]
  · rw [Nat.min_eq_right (by omega), List.drop_of_length_le (Nat.le_refl _), List.drop_of_length_le (by omega)]
    simp
def SzL (s : Nat) (L : List (Rat × Rat)) : Prop := ∀ p ∈ L, Sz s p.1 ∧ Sz s p.2
theorem SzL.ends {s : Nat} {L : List (Rat × Rat)} (h : SzL s L) : ∀ a ∈ endsOf L, Sz s a := fun a m => by
  obtain ⟨p, hp, z⟩ := mem_ends.mp m
  rcases z with rfl | rfl
  · exact (h p hp).1
  · exact (h p hp).2
theorem SzL.of {s : Nat} {L M : List (Rat × Rat)} (h : SzL s L) (k : ∀ p ∈ M, p.1 ∈ endsOf L ∧ p.2 ∈ endsOf L) : SzL s M := fun p m => ⟨h.ends _ (k p m).1, h.ends _ (k p m).2⟩
theorem SzL.app {s : Nat} {L M : List (Rat × Rat)} (h : SzL s L) (k : SzL s M) : SzL s (L ++ M) := fun p m => (List.mem_append.mp m).elim (h p) (k p)
theorem places_all {s : Nat} (hs : s ≤ 4000) {e0 : SL} {st : Sto} {lp : (D → En → SR) → List D → En → SR} (hlp : Lp lp st) : ∀ (L : List (Rat × Rat)) (l : List Rat) (x2 x3 x4 : SL), Ris l → (∀ a ∈ l, Sz s a) → SzL s L → l.length + 2 * L.length ≤ 800000 →
    ∃ x2' x3' x4', lp (tgB (tgN 2) fb_rising_places_4) (L.map dPair) ⟨[e0, .own (l.map dF), x2, x3, x4], st⟩ = .nx ⟨[e0, .own ((insAll l (endsOf L)).map dF), x2', x3', x4'], st⟩
  | [], l, x2, x3, x4, _, _, _, _ => ⟨x2, x3, x4, by simp only [List.map_nil, hlp.nil]; rfl⟩
  | p :: L, l, x2, x3, x4, hR, hl, hL, hn => by
    simp at hn
    have hp := hL p (List.mem_cons_self ..)
    obtain ⟨y4, h1⟩ := places_body hR hl hp.1 hs (by omega) e0 (.val (dPair p)) x4 st
    have l1 := ins_len p.1 l
    have R1 := ris_ins (q := p.1) hR
    have z1 := ins_sz hl hp.1
    obtain ⟨z4, h2⟩ := places_body R1 z1 hp.2 hs (by omega) e0 (.val (dPair p)) y4 st
    have l2 := ins_len p.2 (ins p.1 l)
    obtain ⟨x2', x3', x4', h3⟩ := places_all hs (e0 := e0) (st := st) hlp L (ins p.2 (ins p.1 l)) (.val (dPair p)) (.val (dF p.2)) z4 (ris_ins R1) (ins_sz z1 hp.2) (fun q m => hL q (List.mem_cons_of_mem _ m)) (by omega)
    refine ⟨x2', x3', x4', ?_⟩
    have hd : itemsOf (dPair p) = some [dF p.1, dF p.2] := rfl
    have he : insAll l (endsOf (p :: L)) = insAll (ins p.2 (ins p.1 l)) (endsOf L) := rfl
    rw [he, ← h3]
    simp -implicitDefEqProofs [hlp.cons, e_forC, q_fb_rising_places_4, hd, h1, h2]
theorem rising_places_eq {s : Nat} (hs : s ≤ 4000) {L : List (Rat × Rat)} (hL : SzL s L) (hn : L.length ≤ 100000) (st : Sto) : F_rising_places [.lst (L.map dPair)] st = .val .N (.lst ((plc L).map dF)) st := by
  obtain ⟨x2, x3, x4, h⟩ := places_all hs (e0 := .val (.lst (L.map dPair))) (st := st) (lpD st) L [] .emp .emp .emp List.Pairwise.nil (by simp) hL (by simp; omega)
  simp only [List.map_nil] at h
  simp -implicitDefEqProofs [F_rising_places, g_rising_places, h, plc]
theorem covers_for {s : Nat} (hs : s ≤ 4000) {a b : Rat} (ha : Sz s a) (hb : Sz s b) {e0 : SL} {st : Sto} {lp : (D → En → SR) → List D → En → SR} (hlp : Lp lp st) : ∀ (L : List (Rat × Rat)) (x3 x4 : SL), SzL s L →
    lp (tgB (tgT 2 (tgsCons (tgN 3) (tgsCons (tgN 4) tgsNil))) fb_covers_1) (L.map dPair) ⟨[e0, .val (dF a), .val (dF b), x3, x4], st⟩ = (if cvr L a b = true then .rt .P (.bl true) st else .nx ⟨[e0, .val (dF a), .val (dF b), ((L.getLast?.map fun p => SL.val (dF p.1)).getD x3), ((L.getLast?.map fun p => SL.val (dF p.2)).getD x4)], st⟩)
  | [], x3, x4, _ => by simp [cvr, hlp.nil]
  | p :: L, x3, x4, hL => by
    have hp := hL p (List.mem_cons_self ..)
    have a1 := is_less_eq ha hp.1 (by omega) st
    have a2 := is_less_eq hp.2 hb (by omega) st
    have ih := covers_for hs ha hb (e0 := e0) (st := st) hlp L (.val (dF p.1)) (.val (dF p.2)) (fun q m => hL q (List.mem_cons_of_mem _ m))
    have hg : ∀ (f : Rat × Rat → SL) (x : SL), ((p :: L).getLast?.map f).getD x = (L.getLast?.map f).getD (f p) := fun f x => by
      cases L with
      | nil => rfl
      | cons q L => simp [List.getLast?_cons]
    rw [hg, hg]
    have hc : cvr (p :: L) a b = ((!decide (a < p.1) && !decide (p.2 < b)) || cvr L a b) := rfl
    by_cases c1 : a < p.1
    · simp -implicitDefEqProofs [hlp.cons, q_fb_covers_1, a1, c1, ih, hc]
    · by_cases c2 : p.2 < b
      · simp -implicitDefEqProofs [hlp.cons, q_fb_covers_1, a1, a2, c1, c2, ih, hc]
      · simp -implicitDefEqProofs [hlp.cons, q_fb_covers_1, a1, a2, c1, c2, hc]
theorem covers_eq {s : Nat} (hs : s ≤ 4000) {a b : Rat} (ha : Sz s a) (hb : Sz s b) {L : List (Rat × Rat)} (hL : SzL s L) (st : Sto) : F_covers [.lst (L.map dPair), dF a, dF b] st = .val .P (.bl (cvr L a b)) st := by
  have h := covers_for hs ha hb (e0 := .val (.lst (L.map dPair))) (st := st) (lpD st) L .emp .emp hL
  cases c : cvr L a b with
  | true => simp only [c, if_true] at h; simp -implicitDefEqProofs [F_covers, g_covers, h]
  | false => simp only [c, Bool.false_eq_true, if_false] at h; simp -implicitDefEqProofs [F_covers, g_covers, h]
/-! the spans between neighbouring places that are held -/
theorem where_body {p : Rat → Rat → Bool} {h : List (Option D) → D → D → Sto → ER} {ds : List (Option D)} {st : Sto} {F : List (Rat × Rat)} {ab : Rat × Rat} (hh : h ds (dF ab.1) (dF ab.2) st = .val .P (.bl (p ab.1 ab.2)) st) (hn : F.length ≤ 900000) (e0 : SL) :
    fb_spans_where_1 h ⟨[e0, .clo ds, .own (F.map dPair), .val (dF ab.1), .val (dF ab.2)], st⟩ = .nx ⟨[e0, .clo ds, .own ((swStep p F ab).map dPair), .val (dF ab.1), .val (dF ab.2)], st⟩ := by
  have hl : F.length < 1000000 := by omega
  unfold swStep
  cases hp : p ab.1 ab.2 with
  | false =>
    rw [hp] at hh
    simp -implicitDefEqProofs [q_fb_spans_where_1, hh]
  | true =>
    rw [hp] at hh
    cases hg : F.getLast? with
    | none =>
      have : F = [] := List.getLast?_eq_none_iff.mp hg
      subst this
      simp -implicitDefEqProofs [q_fb_spans_where_1, hh, mAppend, dPair]
    | some l =>
      obtain ⟨D', rfl⟩ := List.getLast?_eq_some_iff.mp hg
      have ml : (D' ++ [l]).map dPair = D'.map dPair ++ [dPair l] := by simp
      have a1 : atI (D'.map dPair ++ [dPair l]) (-1) = some (dPair l) := at_last
      have a2 : ixN ((D'.map dPair ++ [dPair l]).length) (-1) = some D'.length := by
        have h1 : (1 : Int) ≤ (D'.length : Int) + 1 := by omega
        have h2 : (-1 + ((D'.length : Int) + 1)).toNat = D'.length := by omega
        simp [ixN, h1, h2]
      have a3 : ∀ x, (D'.map dPair ++ [dPair l]).set D'.length x = D'.map dPair ++ [x] := fun x => by
        rw [List.set_append_right _ _ (by simp)]; simp
      have b1 : ∀ st, oIx (dPair l) (.int 1) st = .val .P (dF l.2) st := fun st => by simp [dPair, atI, ixN]
      have b0 : ∀ st, oIx (dPair l) (.int 0) st = .val .P (dF l.1) st := fun st => by simp [dPair, atI, ixN]
      have pos : 0 < (D'.map dPair ++ [dPair l]).length := by simp
      have hl' : (D'.map dPair ++ [dPair l]).length < 1000000 := by simpa using hl
      have dl : (D' ++ [l]).dropLast = D' := List.dropLast_concat
      rw [ml]
      by_cases e : l.2 = ab.1
      · simp only [e, if_true, dl, List.map_append, List.map_cons, List.map_nil]
        rw [e] at b1
        generalize D'.map dPair ++ [dPair l] = X at *
        simp -implicitDefEqProofs [q_fb_spans_where_1, hh, pos, a1, a2, a3, b0, b1]
        rfl
      · simp only [e, if_true, if_false, dl, List.map_append, List.map_cons, List.map_nil]
        have ne : ¬ l.2 = ab.1 := e
        generalize D'.map dPair ++ [dPair l] = X at *
        simp -implicitDefEqProofs [q_fb_spans_where_1, hh, pos, a1, b1, ne, mAppend, hl']
        rfl
theorem swStep_len (p : Rat → Rat → Bool) (F : List (Rat × Rat)) (ab : Rat × Rat) : (swStep p F ab).length ≤ F.length + 1 := by
  unfold swStep
  split
  · split
    · split <;> simp
    · simp
  · omega
theorem where_for {p : Rat → Rat → Bool} {h : List (Option D) → D → D → Sto → ER} {ds : List (Option D)} {st : Sto} {e0 : SL} : ∀ (A : List (Rat × Rat)) (F : List (Rat × Rat)) (x3 x4 : SL), (∀ ab ∈ A, h ds (dF ab.1) (dF ab.2) st = .val .P (.bl (p ab.1 ab.2)) st) → F.length + A.length ≤ 900000 →
    ∃ x3' x4', forD (tgB (tgT 2 (tgsCons (tgN 3) (tgsCons (tgN 4) tgsNil))) (fb_spans_where_1 h)) (A.map dPair) ⟨[e0, .clo ds, .own (F.map dPair), x3, x4], st⟩ = .nx ⟨[e0, .clo ds, .own ((A.foldl (swStep p) F).map dPair), x3', x4'], st⟩
  | [], F, x3, x4, _, _ => ⟨x3, x4, rfl⟩
  | ab :: A, F, x3, x4, hh, hn => by
    simp at hn
    have h1 := where_body (p := p) (F := F) (hh ab (List.mem_cons_self ..)) (by omega) e0
    have l1 := swStep_len p F ab
    obtain ⟨x3', x4', h2⟩ := where_for (p := p) (e0 := e0) A (swStep p F ab) (.val (dF ab.1)) (.val (dF ab.2)) (fun q m => hh q (List.mem_cons_of_mem _ m)) (by omega)
    refine ⟨x3', x4', ?_⟩
    rw [List.foldl_cons, ← h2]
    simp -implicitDefEqProofs [e_forC, h1]
theorem zip_tail (P : List Rat) : zipD (P.map dF) (P.map dF).tail = (adj P).map dPair := by
  rw [← List.map_tail, zip_dF, adj]
theorem where_eq {p : Rat → Rat → Bool} {h : List (Option D) → D → D → Sto → ER} {ds : List (Option D)} {st : Sto} {P : List Rat} (hh : ∀ ab ∈ adj P, h ds (dF ab.1) (dF ab.2) st = .val .P (.bl (p ab.1 ab.2)) st) (hn : P.length ≤ 800000) :
    valOnly (g_spans_where h ⟨startL 5 (.lst (P.map dF)) ds, st⟩).ret = .val .N (.lst ((sw p P).map dPair)) st := by
  have hl : (adj P).length ≤ P.length := by simp [adj]
  obtain ⟨x3, x4, h1⟩ := where_for (p := p) (e0 := .val (.lst (P.map dF))) (adj P) [] .emp .emp hh (by simp; omega)
  have c1 := cut_from (P.map dF) (a := 1) (by decide)
  have c2 : (P.map dF).drop (1 : Int).toNat = (P.map dF).tail := by rw [← List.drop_one]; rfl
  rw [c2] at c1
  have z := zip_tail P
  simp only [List.map_nil] at h1
  simp -implicitDefEqProofs [startL, g_spans_where, c1, z, h1, sw, valOnly]
/-! ### a share made -/
def TbOk (st : Sto) : Prop := ∀ (i : Nat) (x : Ob), tbls[i]? = some x → st[i]? = some x
theorem TbOk.app {st : Sto} (h : TbOk st) (o : Sto) : TbOk (st ++ o) := fun i x e => by
  have := h i x e
  rw [List.getElem?_append_left (List.getElem?_eq_some_iff.mp this).1]; exact this
def shr (L : List (Rat × Rat)) : Ob := .ins 7 [.lst (L.map dPair)]
def outS (p : Rat × Rat) : Bool := decide (p.1 < 0 ∨ 1 < p.2 ∨ p.2 < p.1)
theorem init_for {s : Nat} (hs : s ≤ 4000) {e0 e1 : SL} {st : Sto} {lp : (D → En → SR) → List D → En → SR} (hlp : Lp lp st) : ∀ (L : List (Rat × Rat)) (x2 x3 : SL), SzL (s + 1) L →
    ∃ x2' x3', lp (tgB (tgT 2 (tgsCons (tgN 2) (tgsCons (tgN 3) tgsNil))) fb_Share___init___1) (L.map dPair) ⟨[e0, e1, x2, x3], st⟩ = (if L.any outS = true then .exc 2 [] ⟨[e0, e1, x2', x3'], st⟩ else .nx ⟨[e0, e1, x2', x3'], st⟩)
  | [], x2, x3, _ => ⟨x2, x3, by simp only [List.map_nil, hlp.nil]; rfl⟩
  | p :: L, x2, x3, hL => by
    have hp := hL p (List.mem_cons_self ..)
    have ha := ask_span_eq hp.1 hp.2 hs st
    obtain ⟨x2', x3', ih⟩ := init_for hs (e0 := e0) (e1 := e1) (st := st) hlp L (.val (dF p.1)) (.val (dF p.2)) (fun q m => hL q (List.mem_cons_of_mem _ m))
    by_cases c : p.1 < 0 ∨ 1 < p.2 ∨ p.2 < p.1
    · rw [if_pos c] at ha
      have hc : outS p = true := by simp [outS, c]
      refine ⟨.val (dF p.1), .val (dF p.2), ?_⟩
      simp -implicitDefEqProofs [hlp.cons, q_fb_Share___init___1, ha, hc]
    · rw [if_neg c] at ha
      have hc : outS p = false := by simp only [outS, c, decide_false]
      refine ⟨x2', x3', ?_⟩
      rw [List.any_cons, hc, Bool.false_or, ← ih]
      simp -implicitDefEqProofs [hlp.cons, q_fb_Share___init___1, ha]
theorem ends_len (M : List (Rat × Rat)) : (endsOf M).length = 2 * M.length := by
  induction M with
  | nil => rfl
  | cons p L ih => simp only [endsOf, List.flatMap_cons, List.length_append, List.length_cons, List.length_nil] at *; omega
theorem plc_len {L : List (Rat × Rat)} (hn : L.length ≤ 100000) : (plc L).length ≤ 800000 := by
  have h2 := insAll_len (endsOf L) []
  have h3 := ends_len L
  simp only [plc, List.length_nil] at *
  omega
theorem share_init {s : Nat} (hs : s ≤ 3900) {L : List (Rat × Rat)} (hL : SzL s L) (hn : L.length ≤ 100000) {st : Sto} (T : TbOk st) :
    F_Share___init__ [.ptr st.length, .lst (L.map dPair)] (st ++ [.ins 7 []]) = if L.any outS = true then .exc 2 [] (st ++ [.ins 7 []]) else .val .P .non (st ++ [shr (norm L)]) := by
  have hL1 : SzL (s + 1) L := fun p m => ⟨(hL p m).1.up (by omega), (hL p m).2.up (by omega)⟩
  obtain ⟨x2, x3, h1⟩ := init_for (s := s) (by omega) (e0 := .val (.ptr st.length)) (e1 := .val (.lst (L.map dPair))) (st := st ++ [.ins 7 []]) (lpD _) L .emp .emp hL1
  by_cases c : L.any outS = true
  · rw [if_pos c] at h1 ⊢
    simp -implicitDefEqProofs [F_Share___init__, g_Share___init__, h1]
  · rw [if_neg c] at h1 ⊢
    have hr := rising_places_eq (s := s) (by omega) hL hn (st ++ [.ins 7 []])
    have hT := (T.app [.ins 7 []]) np_Share___init__ _ rfl
    have pl := plc_len hn
    have hw := where_eq (p := cvr L) (h := fun ds x y st => lb_Share___init___2 ⟨cloE ds 2 3 x y, st⟩) (ds := cloOf [.val (.ptr st.length), .val (.lst (L.map dPair)), x2, x3]) (st := st ++ [.ins 7 []]) (P := plc L) (fun ab m => by
      obtain ⟨m1, m2, _⟩ := adj_in (plc_ris L) ab m
      have z1 := hL.ends _ (plc_mem.mp m1)
      have z2 := hL.ends _ (plc_mem.mp m2)
      have hc := covers_eq (s := s) (by omega) z1 z2 hL (st ++ [.ins 7 []])
      simp -implicitDefEqProofs [cloE, cloOf, q_lb_Share___init___2, hc, slO]) pl
    have hst : (st ++ [.ins 7 []])[st.length]? = some (Ob.ins 7 []) := by
      rw [List.getElem?_append_right (Nat.le_refl _)]; simp
    have hset : ∀ x : Ob, (st ++ [Ob.ins 7 []]).set st.length x = st ++ [x] := fun x => by
      rw [List.set_append_right _ _ (Nat.le_refl _)]; simp
    have hw : _ = ER.val .N (.lst ((norm L).map dPair)) (st ++ [.ins 7 []]) := hw
    generalize st ++ [Ob.ins 7 []] = s1 at *
    simp -implicitDefEqProofs [F_Share___init__, g_Share___init__, h1, hr, hT, hw, hst, hset, shr, -e_cloOf0, -e_cloOfC, -e_cloE, -e_startL]
theorem Box.appX {p q N : Nat} {st : Sto} (h : Box p q N st) (o : Sto) : Box p q N (st ++ o) := by
  obtain ⟨a, g, sm, x, c, h1, h2, h3⟩ := h
  exact ⟨a, g, sm, x, c, by rw [List.getElem?_append_left (List.getElem?_eq_some_iff.mp h1).1]; exact h1, by rw [List.getElem?_append_left (List.getElem?_eq_some_iff.mp h2).1]; exact h2, h3⟩
/-- the cells that a comprehension keeps -/
theorem keep_go (e : DE) (c f : En → ER) (v : Nat) (pr : Int → Bool) (hc : ∀ x st, c ⟨e.set v (.val (.int x)), st⟩ = .val .P (.bl (pr x)) st) (hf : ∀ x st, f ⟨e.set v (.val (.int x)), st⟩ = .val .P (.int x) st) :
    ∀ (ns : List Int) (st : Sto), lcGo (lcStep (tgN v) c f e) (ns.map .int) st = some ((ns.filter pr).map .int, st)
  | [], st => rfl
  | x :: ns, st => by
    rw [List.map_cons, e_lcC]
    have ih := keep_go e c f v pr hc hf ns st
    cases h : pr x with
    | true => simp [hc, hf, h, ih, List.filter_cons]
    | false => simp [hc, hf, h, ih, List.filter_cons]
theorem box_okG (ns : List Int) (hl : ns.length ≤ 63) (s0 : Sto) : ∃ st, F_law_box [.scr ns] s0 = .val .P (.ptr (s0.length + 1)) st ∧ Box (s0.length + 1) s0.length 0 st ∧ st.length = s0.length + 2 ∧ ∀ m, m < s0.length → st[m]? = s0[m]? := by
  have k1 := keep_go [SL.val (.scr ns), .emp, .emp] ct_law_box_2 ce_law_box_1 2 (fun x => decide (x ≥ 1000000000000000000)) (fun x st => by simp [q_ct_law_box_2]) (fun x st => by simp [q_ce_law_box_1]) ns s0
  generalize hg : ns.filter (fun x => decide (x ≥ 1000000000000000000)) = g at k1
  have k2 := keep_go [SL.val (.scr ns), .val (.ptr s0.length), .emp] ct_law_box_4 ce_law_box_3 2 (fun x => decide (x < 1000000000000000000)) (fun x st => by simp [q_ct_law_box_4]) (fun x st => by simp [q_ce_law_box_3]) ns (s0 ++ [.lst (g.map .int)])
  generalize hs : ns.filter (fun x => decide (x < 1000000000000000000)) = sm at k2
  have gl : g.length ≤ 63 := by rw [← hg]; exact Nat.le_trans (List.length_filter_le ..) hl
  have sl : sm.length ≤ 63 := by rw [← hs]; exact Nat.le_trans (List.length_filter_le ..) hl
  have gp : ∀ x ∈ g, 0 < x := fun x hx => by
    rw [← hg] at hx
    have := (List.mem_filter.mp hx).2
    have : x ≥ 1000000000000000000 := by simpa using this
    omega
  have hl' : ns.length ≤ 1000000 := by omega
  refine ⟨s0 ++ [.lst (g.map .int), .lst [.ptr s0.length, .int 0, .lst (sm.map .int), .int 0]], ?_, ⟨by omega, g, sm, 0, 0, ?_, ?_, by decide, by decide, by decide, gp, gl, sl⟩, by simp, fun m hm => List.getElem?_append_left hm⟩
  · simp -implicitDefEqProofs [F_law_box, g_law_box, hl', k1, k2]
  · rw [List.getElem?_append_right (Nat.le_refl _)]; simp
  · rw [List.getElem?_append_right (by omega)]; simp
/-! ### shares asked -/
theorem spans_eq {n : Nat} {st : Sto} {L : List (Rat × Rat)} (h : st[n]? = some (shr L)) : F_Share_spans [.ptr n] st = .val .N (.lst (L.map dPair)) st := by
  unfold shr at h
  simp -implicitDefEqProofs [F_Share_spans, g_Share_spans, h]
theorem app_at {st : Sto} {n : Nat} {x y : Ob} (h : st[n]? = some x) : (st ++ [y])[n]? = some x := by
  rw [List.getElem?_append_left (List.getElem?_eq_some_iff.mp h).1]; exact h
theorem app_new {st : Sto} {y : Ob} : (st ++ [y])[st.length]? = some y := by
  rw [List.getElem?_append_right (Nat.le_refl _)]; simp
/-! a talk hears -/
theorem hear_due {s : Sto} {n p a : Nat} {wt pt ask : D} {asks reps : List D} (hn : s[n]? = some (.ins 9 [.ptr p, .ptr a, wt, pt])) (ha : s[a]? = some (.lst asks)) (hp : s[p]? = some (.lst reps)) (hl : asks.length = reps.length) (hs : reps.length ≤ 1000) :
    F_Talk_hear [.ptr n, ask] s = .exc 8 [] (s.set n (.ins 9 [.ptr p, .ptr a, ask, pt])) := by
  simp -implicitDefEqProofs [F_Talk_hear, g_Talk_hear, hn, ha, hp, hl]
theorem hear_ok {s : Sto} {n p a : Nat} {wt pt ask r : D} {asks reps : List D} (hn : s[n]? = some (.ins 9 [.ptr p, .ptr a, wt, pt])) (ha : s[a]? = some (.lst asks)) (hp : s[p]? = some (.lst reps)) (hl : reps[asks.length]? = some r) (hs : reps.length ≤ 1000) (hap : a ≠ p) (han : a ≠ n) :
    F_Talk_hear [.ptr n, ask] s = .val .P r (s.set a (.lst (asks ++ [ask]))) := by
  have hlt := (List.getElem?_eq_some_iff.mp hl).1
  have hne : ¬ ((asks.length : Int) = reps.length) := by omega
  have e1 : (s.set a (.lst (asks ++ [ask])))[n]? = some (.ins 9 [.ptr p, .ptr a, wt, pt]) := by rw [List.getElem?_set_ne han]; exact hn
  have e2 : (s.set a (.lst (asks ++ [ask])))[p]? = some (.lst reps) := by rw [List.getElem?_set_ne hap]; exact hp
  have hb : asks.length < 1000000 := by omega
  simp -implicitDefEqProofs [F_Talk_hear, g_Talk_hear, hn, ha, hp, hne, e1, e2, hb, atI_nat hl]
/-! the talk of a way of one cut -/
theorem talk_init {st : Sto} {p : Nat} : F_Talk___init__ [.ptr st.length, .ptr p] (st ++ [.ins 9 []]) = .val .P .non (st ++ [.ins 9 [.ptr p, .ptr (st.length + 1), .non, .non], .lst []]) := by
  simp -implicitDefEqProofs [F_Talk___init__, g_Talk___init__]
abbrev cutA (mk : Int) : D := .tup [.str "cut", .int mk, dF 0, dF 1, dF 1, .tup [.int 1, .int 2]]
abbrev pc2 (r : D) : List D := [.tup [dF 0, r], .tup [r, dF 1]]
abbrev choA (ch : Int) (r : D) : D := .tup [.str "choose", .int ch, .tup (pc2 r)]
theorem parted_0 {s : Sto} {w n p a : Nat} {mk : Int} {u e wt pt : D} (hw : s[w]? = some (.ins 11 [.int mk, .ptr p, u, e])) (hn : s[n]? = some (.ins 9 [.ptr p, .ptr a, wt, pt])) (ha : s[a]? = some (.lst [])) (hp : s[p]? = some (.lst [])) :
    F_OneCuts_parted [.ptr w, .ptr n] s = .exc 8 [] (s.set n (.ins 9 [.ptr p, .ptr a, cutA mk, pt])) := by
  have h1 := hear_due (ask := cutA mk) hn ha hp rfl (by simp)
  simp -implicitDefEqProofs [F_OneCuts_parted, g_OneCuts_parted, hw, hn, h1]
theorem parted_1 {s : Sto} {w n p a : Nat} {mk ch : Int} {r u e wt pt : D} (hc : 1 - mk = ch) (hw : s[w]? = some (.ins 11 [.int mk, .ptr p, u, e])) (hn : s[n]? = some (.ins 9 [.ptr p, .ptr a, wt, pt])) (ha : s[a]? = some (.lst [])) (hp : s[p]? = some (.lst [r])) (hap : a ≠ p) (han : a ≠ n) :
    F_OneCuts_parted [.ptr w, .ptr n] s = .exc 8 [] ((s.set a (.lst [cutA mk])).set n (.ins 9 [.ptr p, .ptr a, choA ch r, pt])) := by
  have h1 := hear_ok (ask := cutA mk) (r := r) hn ha hp rfl (by simp) hap han
  have hal : a < s.length := (List.getElem?_eq_some_iff.mp ha).1
  have e1 : (s.set a (.lst [cutA mk]))[n]? = some (.ins 9 [.ptr p, .ptr a, wt, pt]) := by rw [List.getElem?_set_ne han]; exact hn
  have h2 := hear_due (s := s.set a (.lst [cutA mk])) (ask := choA ch r) (reps := [r]) e1 (List.getElem?_set_self hal) (by rw [List.getElem?_set_ne hap]; exact hp) rfl (by simp)
  simp -implicitDefEqProofs [F_OneCuts_parted, g_OneCuts_parted, hw, hn, h1, e1, h2, hc]
/-- what the hands have: of the pieces the one that is chosen, and the other one -/
def prt (mk : Int) (r : D) (k : Int) : List D := if mk = 0 then (if k = 0 then [.lst [.tup [r, dF 1]], .lst [.tup [dF 0, r]]] else [.lst [.tup [dF 0, r]], .lst [.tup [r, dF 1]]]) else (if k = 0 then [.lst [.tup [dF 0, r]], .lst [.tup [r, dF 1]]] else [.lst [.tup [r, dF 1]], .lst [.tup [dF 0, r]]])
theorem at2_0 {x y : D} : atI [x, y] 0 = some x := rfl
theorem at2_1 {x y : D} : atI [x, y] 1 = some y := rfl
theorem ix2_0 : ixN 2 0 = some 0 := rfl
theorem ix2_1 : ixN 2 1 = some 1 := rfl
theorem parted_2 {s : Sto} {w n p a : Nat} {mk ch k : Int} {r u e wt pt : D} (hm : (mk = 0 ∧ ch = 1) ∨ (mk = 1 ∧ ch = 0)) (hk : k = 0 ∨ k = 1) (hw : s[w]? = some (.ins 11 [.int mk, .ptr p, u, e])) (hn : s[n]? = some (.ins 9 [.ptr p, .ptr a, wt, pt])) (ha : s[a]? = some (.lst [])) (hp : s[p]? = some (.lst [r, .int k])) (hap : a ≠ p) (han : a ≠ n) :
    F_OneCuts_parted [.ptr w, .ptr n] s = .val .N (.lst (prt mk r k)) (s.set a (.lst [cutA mk, choA ch r])) := by
  have h1 := hear_ok (ask := cutA mk) (r := r) hn ha hp rfl (by simp) hap han
  have hal : a < s.length := (List.getElem?_eq_some_iff.mp ha).1
  have e1 : (s.set a (.lst [cutA mk]))[n]? = some (.ins 9 [.ptr p, .ptr a, wt, pt]) := by rw [List.getElem?_set_ne han]; exact hn
  have h2 := hear_ok (s := s.set a (.lst [cutA mk])) (ask := choA ch r) (r := .int k) (reps := [r, .int k]) e1 (List.getElem?_set_self hal) (by rw [List.getElem?_set_ne hap]; exact hp) rfl (by simp) hap han
  rcases hm with ⟨rfl, rfl⟩ | ⟨rfl, rfl⟩ <;> rcases hk with rfl | rfl <;> simp -implicitDefEqProofs [F_OneCuts_parted, g_OneCuts_parted, hw, hn, h1, e1, h2, prt, at2_0, at2_1, ix2_0, ix2_1]
structure WayAt (s : Sto) (w p : Nat) (mk : Int) (reps : List D) : Prop where
  ow : s[w]? = some (.ins 11 [.int mk, .ptr p, .lst [], .lst []])
  ol : s[p]? = some (.lst reps)
theorem WayAt.app {s : Sto} {w p : Nat} {mk : Int} {reps : List D} (h : WayAt s w p mk reps) (o : Sto) : WayAt (s ++ o) w p mk reps := ⟨by rw [List.getElem?_append_left (List.getElem?_eq_some_iff.mp h.ow).1]; exact h.ow, by rw [List.getElem?_append_left (List.getElem?_eq_some_iff.mp h.ol).1]; exact h.ol⟩
/-- a talk: the asks that were replied, what waits, the parts -/
abbrev tkO (s : Sto) (p : Nat) (wt pt : D) (asks : List D) : Sto := [.ins 9 [.ptr p, .ptr (s.length + 1), wt, pt], .lst asks]
theorem set_app0 {s : Sto} {x y z : Ob} : (s ++ [x, y]).set s.length z = s ++ [z, y] := by simp
theorem set_app1 {s : Sto} {x y z : Ob} : (s ++ [x, y]).set (s.length + 1) z = s ++ [x, z] := by simp
theorem get_app0 {s : Sto} {x y : Ob} : (s ++ [x, y])[s.length]? = some x := by simp
theorem get_app1 {s : Sto} {x y : Ob} : (s ++ [x, y])[s.length + 1]? = some y := by simp
theorem talk_0 {s : Sto} {w p : Nat} {mk : Int} (h : WayAt s w p mk []) : F_Way_talk [.ptr w] s = .val .P (.ptr s.length) (s ++ tkO s p (cutA mk) .non []) := by
  have h' := h.app (tkO s p .non .non [])
  have hp1 : p < s.length := (List.getElem?_eq_some_iff.mp h.ol).1
  have q := parted_0 h'.ow get_app0 get_app1 h'.ol
  rw [set_app0] at q
  have h1 := h.ow
  have h2 := h'.ow
  simp -implicitDefEqProofs [F_Way_talk, g_Way_talk, h1, talk_init, h2, q, sub_Due]
theorem talk_1 {s : Sto} {w p : Nat} {mk ch : Int} {r : D} (hc : 1 - mk = ch) (h : WayAt s w p mk [r]) : F_Way_talk [.ptr w] s = .val .P (.ptr s.length) (s ++ tkO s p (choA ch r) .non [cutA mk]) := by
  have h' := h.app (tkO s p .non .non [])
  have hp1 : p < s.length := (List.getElem?_eq_some_iff.mp h.ol).1
  have q := parted_1 hc h'.ow get_app0 get_app1 h'.ol (by omega) (by omega)
  rw [set_app1, set_app0] at q
  have h1 := h.ow
  have h2 := h'.ow
  simp -implicitDefEqProofs [F_Way_talk, g_Way_talk, h1, talk_init, h2, q, sub_Due]
theorem talk_2 {s : Sto} {w p : Nat} {mk ch k : Int} {r : D} (hm : (mk = 0 ∧ ch = 1) ∨ (mk = 1 ∧ ch = 0)) (hk : k = 0 ∨ k = 1) (h : WayAt s w p mk [r, .int k]) : F_Way_talk [.ptr w] s = .val .P (.ptr s.length) (s ++ tkO s p .non (.lst (prt mk r k)) [cutA mk, choA ch r]) := by
  have h' := h.app (tkO s p .non .non [])
  have hp1 : p < s.length := (List.getElem?_eq_some_iff.mp h.ol).1
  have q := parted_2 hm hk h'.ow get_app0 get_app1 h'.ol (by omega) (by omega)
  rw [set_app1] at q
  have h1 := h.ow
  have h2 := h'.ow
  simp -implicitDefEqProofs [F_Way_talk, g_Way_talk, h1, talk_init, h2, q, sub_Due]
/-- the talk of a way with these replies -/
structure TkAt (w p : Nat) (mk : Int) (reps asks : List D) (wt pt : D) : Prop where
  ok : ∀ s, WayAt s w p mk reps → F_Way_talk [.ptr w] s = .val .P (.ptr s.length) (s ++ tkO s p wt pt asks)
section
variable {s : Sto} {w p : Nat} {mk : Int} {reps asks : List D} {wt pt : D}
theorem due_eq (T : TkAt w p mk reps asks wt pt) (h : WayAt s w p mk reps) : F_Way_due [.ptr w] s = .val .P wt (s ++ tkO s p wt pt asks) := by
  have t := T.ok s h
  have h1 := h.ow
  simp -implicitDefEqProofs [F_Way_due, g_Way_due, h1, t]
theorem ended_eq {b : Bool} (T : TkAt w p mk reps asks wt pt) (h : WayAt s w p mk reps) (hb : isNon wt = b) : F_Way_ended [.ptr w] s = .val .P (.bl b) (s ++ tkO s p wt pt asks) := by
  have t := due_eq T h
  have h1 := h.ow
  simp -implicitDefEqProofs [F_Way_ended, g_Way_ended, h1, t, hb]
theorem len_eq (h : WayAt s w p mk reps) : F_Way___len__ [.ptr w] s = .val .P (.int reps.length) s := by
  have h1 := h.ow
  have h2 := h.ol
  simp -implicitDefEqProofs [F_Way___len__, g_Way___len__, h1, h2]
theorem log_eq (T : TkAt w p mk reps asks wt pt) (h : WayAt s w p mk reps) (hs : asks.length ≤ 1000) : F_Way_log [.ptr w] s = .val .N (.lst (zipD asks reps)) (s ++ tkO s p wt pt asks) := by
  have t := T.ok s h
  have h1 := h.ow
  have h' := h.app (tkO s p wt pt asks)
  have h2 := h'.ow
  have h3 := h'.ol
  have hl : min asks.length reps.length ≤ 1000000 := by omega
  simp -implicitDefEqProofs [F_Way_log, g_Way_log, h1, t, h2, h3, hl]
/-- an ask: its sort, its hand, the rest -/
abbrev askD (a : D × Int × List D) : D := .tup (a.1 :: .int a.2.1 :: a.2.2)
theorem at1c {x y : D} {l : List D} : atI (x :: y :: l) 1 = some y := atI_nat (j := 1) rfl
theorem asked_go {C : Sto → Prop} {st : Sto} (hC : C st) {h : Int} (v0 v1 : SL) : ∀ L : List (D × Int × List D), lcGoC C (lcStep (tgN 3) ct_Way_asked_2 ce_Way_asked_1 [v0, v1, .val (.int h), .emp]) (L.map askD) st = some ((L.filter (fun a => a.2.1 = h)).map askD, st)
  | [] => by simp [lcGoC, hC]
  | a :: L => by
    have ih := asked_go hC (h := h) v0 v1 L
    rw [List.map_cons]
    unfold lcGoC
    rw [if_pos hC]
    have hs : lcStep (tgN 3) ct_Way_asked_2 ce_Way_asked_1 [v0, v1, .val (.int h), .emp] (askD a) st = some (if a.2.1 = h then some (askD a) else none, st) := by
      simp -implicitDefEqProofs [lcStep, q_ct_Way_asked_2, q_ce_Way_asked_1, at1c]
      split <;> simp_all
    rw [hs]
    show ((lcGoC C _ (L.map askD) st).bind _) = _
    rw [ih]
    by_cases q : a.2.1 = h <;> simp [q]
theorem asked_eq {L : List (D × Int × List D)} (hL : asks = L.map askD) (T : TkAt w p mk reps asks wt pt) (h : WayAt s w p mk reps) (hs : asks.length ≤ 1000) :
    F_Way_asked [.ptr w] s = .val .N (.lst [.int (L.filter (fun a => a.2.1 = 0)).length, .int (L.filter (fun a => a.2.1 = 1)).length]) (s ++ tkO s p wt pt asks) := by
  have t := T.ok s h
  have h1 := h.ow
  have h' := h.app (tkO s p wt pt asks)
  have h2 := h'.ow
  have hl : asks.length ≤ 1000000 := by omega
  have hC : stLst (s ++ tkO s p wt pt asks) (s.length + 1) = some asks := by simp [stLst]
  have one : ∀ h : Int, ce_Way_asked_3 ⟨[.val (.ptr w), .val (.ptr (s.length + 1)), .val (.int h), .emp], s ++ tkO s p wt pt asks⟩ = .val .P (.int (L.filter (fun a => a.2.1 = h)).length) (s ++ tkO s p wt pt asks) := fun h => by
    have g0 := asked_go (C := fun st => stLst st (s.length + 1) = some asks) (h := h) hC (.val (.ptr w)) (.val (.ptr (s.length + 1))) L
    rw [← hL] at g0
    have d0 : dLcX (dVar 1) (tgN 3) ct_Way_asked_2 ce_Way_asked_1 [3] ⟨[.val (.ptr w), .val (.ptr (s.length + 1)), .val (.int h), .emp], s ++ tkO s p wt pt asks⟩ = .val .N (.lst ((L.filter (fun a => a.2.1 = h)).map askD)) (s ++ tkO s p wt pt asks) := by
      show (match stLst (s ++ tkO s p wt pt asks) (s.length + 1) with
        | some l => if l.length ≤ 1000000 then ofOpt (lcGoC (fun st => stLst st (s.length + 1) = some l) (lcStep (tgN 3) ct_Way_asked_2 ce_Way_asked_1 [.val (.ptr w), .val (.ptr (s.length + 1)), .val (.int h), .emp]) l (s ++ tkO s p wt pt asks)) fun r => .val .N (.lst r.1) r.2 else .bad
        | none => .bad) = _
      rw [hC]
      show (if asks.length ≤ 1000000 then _ else _) = _
      rw [if_pos hl, g0]
      rfl
    rw [q_ce_Way_asked_3]
    have hm : ((L.filter (fun a => a.2.1 = h)).map askD).length = (L.filter (fun a => a.2.1 = h)).length := by simp
    generalize (L.filter (fun a => a.2.1 = h)).map askD = M at d0 hm
    simp -implicitDefEqProofs [d0, hm, -e_dLcX]
  have hr : rangeD 0 2 = [.int 0, .int 1] := rfl
  have one0 := one 0
  have one1 := one 1
  simp -implicitDefEqProofs [F_Way_asked, g_Way_asked, h1, t, h2, F_OneCuts_hands, g_OneCuts_hands, hr, lcGo, lcStep, one0, one1]
end
/-! the shares of a way -/
def spn (x : Rat × Rat) : List (Rat × Rat) := if x.1 < x.2 then [x] else []
theorem norm1 (x : Rat × Rat) : norm [x] = spn x := by
  unfold spn
  by_cases h : x.1 < x.2
  · rw [if_pos h]
    exact norm_of ⟨by simpa using h, by simp⟩ fun _ => Iff.rfl
  · rw [if_neg h]
    refine norm_of ⟨by simp, by simp⟩ fun y => ⟨fun z => absurd z (cov_nil y), fun ⟨t, m, a, b⟩ => ?_⟩
    have : t = x := by simpa using m
    subst this
    grind
def InL (x : Rat × Rat) : Prop := 0 ≤ x.1 ∧ x.1 ≤ x.2 ∧ x.2 ≤ 1
theorem share_one {x : Rat × Rat} {n : Nat} (hn : n ≤ 3900) (h1 : Sz n x.1) (h2 : Sz n x.2) (hi : InL x) {st : Sto} (T : TbOk st) (v0 v1 : SL) :
    ce_Way_shares_1 ⟨[v0, v1, .val (.lst [.tup [dF x.1, dF x.2]])], st⟩ = .val .P (.ptr st.length) (st ++ [shr (spn x)]) := by
  have e := share_init (s := n) hn (L := [x]) (fun p m => by have : p = x := by simpa using m
                                                             subst this; exact ⟨h1, h2⟩) (by simp) T
  have ho : ([x].any outS) = false := by
    obtain ⟨a, b, c⟩ := hi
    simp [outS]
    exact ⟨by grind, by grind, by grind⟩
  rw [ho, norm1] at e
  have e : F_Share___init__ [.ptr st.length, .lst [.tup [dF x.1, dF x.2]]] (st ++ [.ins 7 []]) = .val .P .non (st ++ [shr (spn x)]) := e
  rw [q_ce_Way_shares_1]
  simp -implicitDefEqProofs [e]
section
variable {s : Sto} {w p : Nat} {mk : Int} {reps asks : List D} {wt pt : D}
theorem shares_due (T : TkAt w p mk reps asks wt pt) (h : WayAt s w p mk reps) (hb : isNon wt = false) : F_Way_shares [.ptr w] s = .exc 6 [.int reps.length] (s ++ tkO s p wt pt asks) := by
  have t := T.ok s h
  have h1 := h.ow
  have h' := h.app (tkO s p wt pt asks)
  have h2 := h'.ow
  have h3 := h'.ol
  simp -implicitDefEqProofs [F_Way_shares, g_Way_shares, h1, t, h2, h3, hb]
theorem shares_end {x y : Rat × Rat} {n : Nat} (hn : n ≤ 3900) (x1 : Sz n x.1) (x2 : Sz n x.2) (xi : InL x) (y1 : Sz n y.1) (y2 : Sz n y.2) (yi : InL y)
    (T : TkAt w p mk reps asks .non (.lst [.lst [.tup [dF x.1, dF x.2]], .lst [.tup [dF y.1, dF y.2]]])) (h : WayAt s w p mk reps) (tb : TbOk s) {S : Sto} (hS : S = s ++ tkO s p .non (.lst [.lst [.tup [dF x.1, dF x.2]], .lst [.tup [dF y.1, dF y.2]]]) asks) :
    F_Way_shares [.ptr w] s = .val .N (.lst [.ptr S.length, .ptr (S.length + 1)]) (S ++ [shr (spn x), shr (spn y)]) := by
  have t := T.ok s h
  have h1 := h.ow
  rw [← hS] at t
  have hn0 : S[s.length]? = some (.ins 9 [.ptr p, .ptr (s.length + 1), .non, .lst [.lst [.tup [dF x.1, dF x.2]], .lst [.tup [dF y.1, dF y.2]]]]) := by rw [hS]; exact get_app0
  have tS : TbOk S := by rw [hS]; exact tb.app _
  have a1 := share_one hn x1 x2 xi tS (.val (.ptr w)) (.val (.ptr s.length))
  have a2 := share_one hn y1 y2 yi (tS.app [shr (spn x)]) (.val (.ptr w)) (.val (.ptr s.length))
  rw [List.append_assoc, List.length_append] at a2
  have a2 : ce_Way_shares_1 ⟨[.val (.ptr w), .val (.ptr s.length), .val (.lst [.tup [dF y.1, dF y.2]])], S ++ [shr (spn x)]⟩ = .val .P (.ptr (S.length + 1)) (S ++ [shr (spn x), shr (spn y)]) := a2
  generalize S.length = m at *
  clear hS
  simp -implicitDefEqProofs [F_Way_shares, g_Way_shares, h1, t, hn0, lcGo, lcStep, a1, a2]
end
/-! a reply -/
theorem told_none {s : Sto} {w p : Nat} {mk : Int} {reps : List D} {a b : D} (h : WayAt s w p mk reps) : F_Way_told_all [.ptr w, a, b] s = .val .P .non s := by
  have h1 := h.ow
  simp -implicitDefEqProofs [F_Way_told_all, g_Way_told_all, h1, forD]
theorem answer_ok {s : Sto} {w p : Nat} {mk : Int} {reps asks : List D} {wt pt r : D} (T : TkAt w p mk reps asks wt pt) (h : WayAt s w p mk reps) (hb : isNon wt = false) (hr : reps.length ≤ 1000) (hl : ∀ st, F_is_legal [wt, r] st = .val .P (.bl true) st) :
    ∃ S', F_Way_answer [.ptr w, r] s = .val .P .non S' ∧ WayAt S' w p mk (reps ++ [r]) ∧ (∀ i, i < s.length → i ≠ p → S'[i]? = s[i]?) ∧ s.length ≤ S'.length := by
  have t := due_eq T h
  have h1 := h.ow
  have h' := h.app (tkO s p wt pt asks)
  have hl := hl (s ++ tkO s p wt pt asks)
  have hpl : p < s.length := (List.getElem?_eq_some_iff.mp h.ol).1
  have hwl : w < s.length := (List.getElem?_eq_some_iff.mp h.ow).1
  have hwp : p ≠ w := fun z => by have := h.ow; rw [← z, h.ol] at this; cases this
  have keep : ∀ i, i < s.length → (s ++ tkO s p wt pt asks)[i]? = s[i]? := fun i hi => List.getElem?_append_left hi
  have slen : s.length ≤ (s ++ tkO s p wt pt asks).length := by simp
  generalize s ++ tkO s p wt pt asks = S at *
  have hpS : p < S.length := by omega
  have hwS : w < S.length := by omega
  have q1 : (S.set p (.lst (reps ++ [r])))[w]? = some (.ins 11 [.int mk, .ptr p, .lst [], .lst []]) := by rw [List.getElem?_set_ne hwp]; exact h'.ow
  have ww : WayAt (S.set p (.lst (reps ++ [r]))) w p mk (reps ++ [r]) := ⟨q1, List.getElem?_set_self hpS⟩
  have same : (S.set p (.lst (reps ++ [r]))).set w (.ins 11 [.int mk, .ptr p, .lst [], .lst []]) = S.set p (.lst (reps ++ [r])) := by
    apply List.ext_getElem?
    intro i
    by_cases hi : w = i
    · subst hi; rw [List.getElem?_set_self (by simpa using hwS), q1]
    · rw [List.getElem?_set_ne hi]
  have tn := told_none (a := .str "answer") (b := r) ww
  have h2 := h'.ow
  have h3 := h'.ol
  have hr' : reps.length < 1000000 := by omega
  refine ⟨S.set p (.lst (reps ++ [r])), ?_, ww, fun i hi hne => ?_, by simpa using slen⟩
  · generalize hZ : S.set p (.lst (reps ++ [r])) = Z at *
    simp -implicitDefEqProofs [F_Way_answer, g_Way_answer, h1, t, hb, hl, h2, h3, hr', hZ, q1, same, tn]
  · rw [List.getElem?_set_ne (Ne.symm hne)]; exact keep i hi
theorem whole_eq (k : Int) (st : Sto) : F_is_whole [.int k] st = .val .P (.bl true) st := by
  simp -implicitDefEqProofs [F_is_whole, g_is_whole]
theorem atc0 {x : D} {l : List D} : atI (x :: l) 0 = some x := atI_nat (j := 0) rfl
theorem atc2 {x y z : D} {l : List D} : atI (x :: y :: z :: l) 2 = some z := atI_nat (j := 2) rfl
theorem atc3 {x y z u : D} {l : List D} : atI (x :: y :: z :: u :: l) 3 = some u := atI_nat (j := 3) rfl
theorem inT_choose (st : Sto) : oInT (.str "choose") (.tup [.str "cut", .str "even"]) st = .val .P (.bl false) st := by
  have hi : inV (.str "choose") [V.str (Str.ofString "cut"), V.str (Str.ofString "even")] = false := by decide +kernel
  show ofOpt (some (["cut", "even"] : List Str)) (fun ys => ER.val .P (.bl (inV (.str "choose") (ys.map V.str))) st) = _
  simp [hi]
theorem inT_cut (st : Sto) : oInT (.str "cut") (.tup [.str "cut", .str "even"]) st = .val .P (.bl true) st := by
  have hi : inV (.str "cut") [V.str (Str.ofString "cut"), V.str (Str.ofString "even")] = true := by decide +kernel
  show ofOpt (some (["cut", "even"] : List Str)) (fun ys => ER.val .P (.bl (inV (.str "cut") (ys.map V.str))) st) = _
  simp [hi]
theorem ne_trim : ¬ (Str.ofString "choose" = Str.ofString "trim") := by decide +kernel
theorem legal_choose {ch k : Int} {r : D} (hk : 0 ≤ k ∧ k ≤ 1) (st : Sto) : F_is_legal [choA ch r, .int k] st = .val .P (.bl true) st := by
  have w1 := whole_eq k
  simp -implicitDefEqProofs [F_is_legal, g_is_legal, w1, hk.1, hk.2, atc0, atc2, atc3, inT_choose, ne_trim, -e_oInT]
theorem fraction_yes {q : Rat} {n : Nat} (hq : Sz n q) (hn : n ≤ 4000) (st : Sto) : F_is_fraction [dF q] st = .val .P (.bl true) st := by
  have hd : (q.den : Int) ≠ 0 := by have := q.den_pos; omega
  have f := fraction_of_eq (t := q.num) (b := q.den) hd (by have := hq.2; exact Nat.lt_of_lt_of_le (Nat.log2_lt (by simpa using q.den_nz) |>.mpr (by simpa using this)) (by omega)) st
  rw [Rat.num_divInt_den] at f
  have w1 := whole_eq q.num st
  have w2 := whole_eq q.den st
  have h1 : ¬ ((q.den : Int) < 1) := by have := q.den_pos; omega
  have he : oEq (dF q) (.tup [.int q.num, .int q.den]) st = .val .P (.bl true) st := by
    show oEq (dF q) (dF q) st = _
    rw [eq_dF]; simp
  show F_is_fraction [.tup [.int q.num, .int q.den]] st = _
  simp -implicitDefEqProofs [F_is_fraction, g_is_fraction, w1, w2, f, h1, atc0, at1c, he]
theorem legal_cut {mk : Int} {q : Rat} {n : Nat} (hq : Sz n q) (hn : n ≤ 4000) (h0 : 0 ≤ q) (h1 : q ≤ 1) (st : Sto) : F_is_legal [cutA mk, dF q] st = .val .P (.bl true) st := by
  have f := fraction_yes hq hn st
  have l1 := is_less_eq (a := q) (b := 0) hq (sz0 (n := 0)) (by omega) st
  have l2 := is_less_eq (a := 1) (b := q) (sz1 (n := 0)) hq (by omega) st
  have n1 : ¬ q < 0 := by grind
  have n2 : ¬ 1 < q := by grind
  simp -implicitDefEqProofs [F_is_legal, g_is_legal, f, l1, l2, n1, n2, atc0, atc2, atc3, inT_cut, -e_oInT]
/-! the law's look at a way -/
abbrev en15 (v0 v1 v2 v3 v4 v5 v6 v7 v8 v9 v11 v12 v14 : SL) (h : Int) : DE := [v0, v1, v2, v3, v4, v5, v6, v7, v8, v9, .val (.int h), v11, v12, .emp, v14]
theorem lcount_go {st : Sto} {h : Int} {v0 v1 v2 v3 v4 v5 v6 v7 v8 v9 v11 v12 v14 : SL} : ∀ L : List (D × Int × List D), lcGo (lcStep (tgN 13) ct_law_stands_2 ce_law_stands_1 (en15 v0 v1 v2 v3 v4 v5 v6 v7 v8 v9 v11 v12 v14 h)) (L.map askD) st = some ((L.filter (fun a => a.2.1 = h)).map askD, st)
  | [] => rfl
  | a :: L => by
    have ih := lcount_go (st := st) (h := h) (v0 := v0) (v1 := v1) (v2 := v2) (v3 := v3) (v4 := v4) (v5 := v5) (v6 := v6) (v7 := v7) (v8 := v8) (v9 := v9) (v11 := v11) (v12 := v12) (v14 := v14) L
    rw [List.map_cons]
    unfold lcGo
    have hs : lcStep (tgN 13) ct_law_stands_2 ce_law_stands_1 (en15 v0 v1 v2 v3 v4 v5 v6 v7 v8 v9 v11 v12 v14 h) (askD a) st = some (if a.2.1 = h then some (askD a) else none, st) := by
      simp -implicitDefEqProofs [lcStep, q_ct_law_stands_2, q_ce_law_stands_1, at1c]
      split <;> simp_all
    rw [hs]
    show ((lcGo _ (L.map askD) st).bind _) = _
    rw [ih]
    by_cases q : a.2.1 = h <;> simp [q]
theorem lcount {st : Sto} {h : Int} {L : List (D × Int × List D)} {more reps : List D} (hl : L.length = reps.length) (hs : reps.length ≤ 1000) {v0 v3 v4 v5 v6 v7 v8 v9 v11 v12 v14 : SL} :
    ce_law_stands_3 ⟨[v0, .val (.lst (L.map askD ++ more)), .val (.lst reps), v3, v4, v5, v6, v7, v8, v9, .val (.int h), v11, v12, .emp, v14], st⟩ = .val .P (.int (L.filter (fun a => a.2.1 = h)).length) st := by
  have g := lcount_go (st := st) (h := h) (v0 := v0) (v1 := .val (.lst (L.map askD ++ more))) (v2 := .val (.lst reps)) (v3 := v3) (v4 := v4) (v5 := v5) (v6 := v6) (v7 := v7) (v8 := v8) (v9 := v9) (v11 := v11) (v12 := v12) (v14 := v14) L
  have hL : (L.map askD).length = reps.length := by simpa using hl
  have hm : ((L.filter (fun a => a.2.1 = h)).map askD).length = (L.filter (fun a => a.2.1 = h)).length := by simp
  have hk : (L.map askD).length ≤ 1000000 := by omega
  generalize (L.filter (fun a => a.2.1 = h)).map askD = M at g hm
  generalize L.map askD = Q at *
  have hc : cutG (Q ++ more) none (some (Q.length : Int)) = Q := by rw [cut_to _ (by omega)]; simp
  rw [q_ce_law_stands_3]
  simp -implicitDefEqProofs [g, hm, hk, ← hL, hc]
section
variable {s : Sto} {w p : Nat} {mk : Int} {reps asks : List D} {wt pt : D}
theorem due_st (T : TkAt w p mk reps asks wt pt) (h : WayAt s w p mk reps) : ∃ o, WayAt (s ++ o) w p mk reps ∧ F_Way_due [.ptr w] s = .val .P wt (s ++ o) := ⟨_, h.app _, due_eq T h⟩
theorem ended_st {b : Bool} (hb : isNon wt = b) (T : TkAt w p mk reps asks wt pt) (h : WayAt s w p mk reps) : ∃ o, WayAt (s ++ o) w p mk reps ∧ F_Way_ended [.ptr w] s = .val .P (.bl b) (s ++ o) := ⟨_, h.app _, ended_eq T h hb⟩
theorem log_st (hs : asks.length ≤ 1000) (T : TkAt w p mk reps asks wt pt) (h : WayAt s w p mk reps) : ∃ o, WayAt (s ++ o) w p mk reps ∧ F_Way_log [.ptr w] s = .val .N (.lst (zipD asks reps)) (s ++ o) := ⟨_, h.app _, log_eq T h hs⟩
theorem asked_st {L : List (D × Int × List D)} (hL : asks = L.map askD) (hs : asks.length ≤ 1000) (T : TkAt w p mk reps asks wt pt) (h : WayAt s w p mk reps) : ∃ o, WayAt (s ++ o) w p mk reps ∧ F_Way_asked [.ptr w] s = .val .N (.lst [.int (L.filter (fun a => a.2.1 = 0)).length, .int (L.filter (fun a => a.2.1 = 1)).length]) (s ++ o) := ⟨_, h.app _, asked_eq hL T h hs⟩
theorem zip_more : ∀ (l m k : List D), l.length = m.length → zipD (l ++ k) m = zipD l m
  | [], [], k, _ => by cases k <;> simp [zipD]
  | a :: l, b :: m, k, h => by simp only [List.cons_append, zipD]; rw [zip_more l m k (by simpa using h)]
theorem neB (a b : Bool) (st : Sto) : oNe (.bl a) (.bl b) st = .val .P (.bl (a != b)) st := by cases a <;> cases b <;> rfl
theorem ne2I (a b : Int) (st : Sto) : oNe (.lst [.int a, .int b]) (.lst [.int a, .int b]) st = .val .P (.bl false) st := ne_self (by simp [pur, purL]) (by simp [dep, depL]) st
theorem isT_b (b : Bool) (st : Sto) : isT "bool" (.bl b) st = .val .P (.bl true) st := by simp only [isT, tyN, kit_bb, ofOpt_some]
theorem bo3 : boolsOf [.bl false, .bl false, .bl false] = some [false, false, false] := rfl
theorem lt63 {i : Int} (h : i ≤ 1000) : i < 9223372036854775808 := Int.lt_of_le_of_lt h (by decide)
/-- the look, with an ask that waits -/
theorem stands_due {L : List (D × Int × List D)} {sp : D} (hL : asks = L.map askD) (hl : asks.length = reps.length) (hs : reps.length ≤ 1000) (T : TkAt w p mk reps asks wt pt) (h : WayAt s w p mk reps) (hb : isNon wt = false)
    (pw : pur wt = true) (dw : dep wt ≤ 64) (pz : pur (.lst (zipD asks reps)) = true) (dz : dep (.lst (zipD asks reps)) ≤ 64) :
    ∃ o, F_law_stands [.ptr w, .lst (asks ++ [wt]), .lst reps, sp] s = .val .P (.bl true) (s ++ o) := by
  obtain ⟨o1, w1, f1⟩ := due_st T h
  obtain ⟨o2, w2, f2⟩ := ended_st hb T w1
  obtain ⟨o3, w3, f3⟩ := ended_st hb T w2
  obtain ⟨o4, w4, f4⟩ := log_st (by omega) T w3
  obtain ⟨o5, w5, f5⟩ := asked_st hL (by omega) T w4
  obtain ⟨o6, w6, f6⟩ := asked_st hL (by omega) T w5
  have f7 := shares_due T w6 hb
  have fl := len_eq w4
  have z1 := zip_more asks reps [wt] hl
  have n1 := ne_self pw dw
  have n2 := ne_self pz dz
  have hge : ((asks.length : Int) + 1 > reps.length) := by omega
  have hix : atI (asks ++ [wt]) (reps.length : Int) = some wt := atI_nat (by rw [← hl]; simp)
  have hmin : min (asks.length + 1) reps.length ≤ 1000000 := by omega
  have hr : rangeD 0 2 = [.int 0, .int 1] := rfl
  have hLl : L.length = reps.length := by rw [← hl, hL]; simp
  have c0 := fun v0 v3 v4 v5 v6 v7 v8 v9 v11 v12 v14 => lcount (st := s ++ o1 ++ o2 ++ o3 ++ o4) (h := 0) (more := [wt]) hLl hs (v0 := v0) (v3 := v3) (v4 := v4) (v5 := v5) (v6 := v6) (v7 := v7) (v8 := v8) (v9 := v9) (v11 := v11) (v12 := v12) (v14 := v14)
  have c1 := fun v0 v3 v4 v5 v6 v7 v8 v9 v11 v12 v14 => lcount (st := s ++ o1 ++ o2 ++ o3 ++ o4) (h := 1) (more := [wt]) hLl hs (v0 := v0) (v3 := v3) (v4 := v4) (v5 := v5) (v6 := v6) (v7 := v7) (v8 := v8) (v9 := v9) (v11 := v11) (v12 := v12) (v14 := v14)
  rw [← hL] at c0 c1
  have e0 := h.ow
  have e1 := w1.ow
  have e2 := w2.ow
  have e3 := w3.ow
  have e4 := w4.ow
  have e5 := w5.ow
  have e6 := w6.ow
  refine ⟨o1 ++ (o2 ++ (o3 ++ (o4 ++ (o5 ++ (o6 ++ tkO (s ++ o1 ++ o2 ++ o3 ++ o4 ++ o5 ++ o6) p wt pt asks))))), ?_⟩
  generalize hX : tkO (s ++ o1 ++ o2 ++ o3 ++ o4 ++ o5 ++ o6) p wt pt asks = X7 at *
  have hS : s ++ (o1 ++ (o2 ++ (o3 ++ (o4 ++ (o5 ++ (o6 ++ X7)))))) = s ++ o1 ++ o2 ++ o3 ++ o4 ++ o5 ++ o6 ++ X7 := by simp
  rw [hS]
  generalize s ++ o1 = s1 at *
  generalize s1 ++ o2 = s2 at *
  generalize s2 ++ o3 = s3 at *
  generalize s3 ++ o4 = s4 at *
  generalize s4 ++ o5 = s5 at *
  generalize s5 ++ o6 = s6 at *
  generalize s6 ++ X7 = s7 at *
  generalize zipD asks reps = Z at *
  have h00 : (0 : Int) ≤ reps.length := by omega
  have h63 := lt63 (i := reps.length) (by omega)
  generalize hrl : (reps.length : Int) = rl at *
  generalize ((L.filter (fun a => a.2.1 = 0)).length : Int) = k0 at *
  generalize ((L.filter (fun a => a.2.1 = 1)).length : Int) = k1 at *
  simp -implicitDefEqProofs [F_law_stands, g_law_stands, F_OneCuts_hands, g_OneCuts_hands, e0, e1, e2, e3, e4, e5, e6, f1, f2, f3, f4, f5, f6, f7, fl, z1, n1, n2, hge, hix, hmin, hr, lcGo, lcStep, c0, c1, hb, sub_NotEnded, neB, ne2I, q_ce_law_stands_4, isT_b, hrl, h63, h00, bo3]
end
theorem span_ce5 {st : Sto} {m : Nat} {L : List (Rat × Rat)} (h : st[m]? = some (shr L)) (v0 v1 v2 v3 v4 v5 v6 v7 v8 v9 v10 v12 v13 v14 : SL) :
    ce_law_stands_5 ⟨[v0, v1, v2, v3, v4, v5, v6, v7, v8, v9, v10, .val (.ptr m), v12, v13, v14], st⟩ = .val .N (.lst (L.map dPair)) st := by
  have f := spans_eq h
  unfold shr at h
  generalize L.map dPair = Q at *
  rw [q_ce_law_stands_5]
  simp -implicitDefEqProofs [f, h]
theorem span_ce6 {st : Sto} {x : Rat × Rat} {n : Nat} (hn : n ≤ 4000) (h1 : Sz n x.1) (h2 : Sz n x.2) (v0 v1 v2 v3 v4 v5 v6 v7 v8 v9 v10 v11 v13 v14 : SL) :
    ce_law_stands_6 ⟨[v0, v1, v2, v3, v4, v5, v6, v7, v8, v9, v10, v11, .val (.tup [dF x.1, dF x.2]), v13, v14], st⟩ = .val .N (.lst ((spn x).map dPair)) st := by
  have f := law_less_eq h1 h2 (by omega) st
  rw [q_ce_law_stands_6]
  by_cases c : x.1 < x.2
  · have e : (spn x).map dPair = [.tup [dF x.1, dF x.2]] := by unfold spn; rw [if_pos c]; rfl
    rw [e]
    simp -implicitDefEqProofs [f, c, atc0, at1c]
  · have e : (spn x).map dPair = [] := by unfold spn; rw [if_neg c]; rfl
    rw [e]
    simp -implicitDefEqProofs [f, c, atc0, at1c]
theorem pur_spn (x : Rat × Rat) : pur (.lst ((spn x).map dPair)) = true ∧ dep (.lst ((spn x).map dPair)) ≤ 10 := by
  unfold spn
  split <;> simp [pur, purL, dep, depL, dPair, dF]
section
variable {s : Sto} {w p : Nat} {mk : Int} {reps asks : List D}
/-- the look, at the end -/
theorem stands_end {x y : Rat × Rat} {n : Nat} (hn : n ≤ 3900) (x1 : Sz n x.1) (x2 : Sz n x.2) (xi : InL x) (y1 : Sz n y.1) (y2 : Sz n y.2) (yi : InL y) {L : List (D × Int × List D)} (hL : asks = L.map askD) (hl : asks.length = reps.length) (hs : reps.length ≤ 1000)
    (T : TkAt w p mk reps asks .non (.lst [.lst [.tup [dF x.1, dF x.2]], .lst [.tup [dF y.1, dF y.2]]])) (h : WayAt s w p mk reps) (tb : TbOk s)
    (pz : pur (.lst (zipD asks reps)) = true) (dz : dep (.lst (zipD asks reps)) ≤ 64) :
    ∃ o, F_law_stands [.ptr w, .lst asks, .lst reps, .lst [.tup [dF x.1, dF x.2], .tup [dF y.1, dF y.2]]] s = .val .P (.bl true) (s ++ o) := by
  obtain ⟨o1, w1, f1⟩ := due_st T h
  obtain ⟨o2, w2, f2⟩ := ended_st (b := true) rfl T w1
  obtain ⟨o3, w3, f3⟩ := ended_st (b := true) rfl T w2
  obtain ⟨o4, w4, f4⟩ := log_st (by omega) T w3
  obtain ⟨o5, w5, f5⟩ := asked_st hL (by omega) T w4
  obtain ⟨o6, w6, f6⟩ := asked_st hL (by omega) T w5
  have t6 : TbOk (s ++ o1 ++ o2 ++ o3 ++ o4 ++ o5 ++ o6) := (((((tb.app o1).app o2).app o3).app o4).app o5).app o6
  have f7 := shares_end hn x1 x2 xi y1 y2 yi T w6 t6 rfl
  have fl := len_eq w4
  have n2 := ne_self pz dz
  have hge : ¬ ((asks.length : Int) > reps.length) := by omega
  have hmin : min asks.length reps.length ≤ 1000000 := by omega
  have hr : rangeD 0 2 = [.int 0, .int 1] := rfl
  have hLl : L.length = reps.length := by rw [← hl, hL]; simp
  have c0 := fun v0 v3 v4 v5 v6 v7 v8 v9 v11 v12 v14 => lcount (st := s ++ o1 ++ o2 ++ o3 ++ o4) (h := 0) (more := []) hLl hs (v0 := v0) (v3 := v3) (v4 := v4) (v5 := v5) (v6 := v6) (v7 := v7) (v8 := v8) (v9 := v9) (v11 := v11) (v12 := v12) (v14 := v14)
  have c1 := fun v0 v3 v4 v5 v6 v7 v8 v9 v11 v12 v14 => lcount (st := s ++ o1 ++ o2 ++ o3 ++ o4) (h := 1) (more := []) hLl hs (v0 := v0) (v3 := v3) (v4 := v4) (v5 := v5) (v6 := v6) (v7 := v7) (v8 := v8) (v9 := v9) (v11 := v11) (v12 := v12) (v14 := v14)
  rw [List.append_nil, ← hL] at c0 c1
  have e0 := h.ow
  have e1 := w1.ow
  have e2 := w2.ow
  have e3 := w3.ow
  have e4 := w4.ow
  have e5 := w5.ow
  have e6 := w6.ow
  generalize hX : tkO (s ++ o1 ++ o2 ++ o3 ++ o4 ++ o5 ++ o6) p .non (.lst [.lst [.tup [dF x.1, dF x.2]], .lst [.tup [dF y.1, dF y.2]]]) asks = X7 at *
  refine ⟨o1 ++ (o2 ++ (o3 ++ (o4 ++ (o5 ++ (o6 ++ (X7 ++ [shr (spn x), shr (spn y)])))))), ?_⟩
  have hS : s ++ (o1 ++ (o2 ++ (o3 ++ (o4 ++ (o5 ++ (o6 ++ (X7 ++ [shr (spn x), shr (spn y)]))))))) = s ++ o1 ++ o2 ++ o3 ++ o4 ++ o5 ++ o6 ++ X7 ++ [shr (spn x), shr (spn y)] := by simp
  rw [hS]
  generalize s ++ o1 = s1 at *
  generalize s1 ++ o2 = s2 at *
  generalize s2 ++ o3 = s3 at *
  generalize s3 ++ o4 = s4 at *
  generalize s4 ++ o5 = s5 at *
  generalize s5 ++ o6 = s6 at *
  generalize s6 ++ X7 = s7 at *
  have a0 := span_ce5 (st := s7 ++ [shr (spn x), shr (spn y)]) (m := s7.length) get_app0
  have a1 := span_ce5 (st := s7 ++ [shr (spn x), shr (spn y)]) (m := s7.length + 1) get_app1
  generalize hs8 : s7 ++ [shr (spn x), shr (spn y)] = s8 at *
  have b0 := span_ce6 (st := s8) (by omega) x1 x2
  have b1 := span_ce6 (st := s8) (by omega) y1 y2
  have eq := eq_self (d := .lst [.lst ((spn x).map dPair), .lst ((spn y).map dPair)]) (by have := (pur_spn x).1; have := (pur_spn y).1; simp_all [pur, purL]) (by have := (pur_spn x).2; have := (pur_spn y).2; simp only [dep, depL] at *; omega) s8
  generalize (spn x).map dPair = PX at *
  generalize (spn y).map dPair = PY at *
  generalize s7.length = m7 at *
  generalize hZ : zipD asks reps = Z at *
  have h00 : (0 : Int) ≤ reps.length := by omega
  have h63 := lt63 (i := reps.length) (by omega)
  generalize hrl : (reps.length : Int) = rl at *
  generalize hal : (asks.length : Int) = al at *
  generalize ((L.filter (fun a => a.2.1 = 0)).length : Int) = k0 at *
  generalize ((L.filter (fun a => a.2.1 = 1)).length : Int) = k1 at *
  have nn : ∀ st, oNe .non .non st = .val .P (.bl false) st := fun st => rfl
  simp -implicitDefEqProofs [F_law_stands, g_law_stands, F_OneCuts_hands, g_OneCuts_hands, e0, e1, e2, e3, e4, e5, e6, f1, f2, f3, f4, f5, f6, f7, fl, nn, n2, hge, hmin, hr, lcGo, lcStep, c0, c1, sub_NotEnded, neB, ne2I, q_ce_law_stands_4, isT_b, hrl, hal, h63, h00, bo3, a0, a1, b0, b1, eq, hZ]
end
theorem q01 {t b : Int} (h0 : 0 ≤ t) (h1 : t ≤ b) (hb : 0 < b) : 0 ≤ Rat.divInt t b ∧ Rat.divInt t b ≤ 1 := by
  have hb' : (0 : Rat) < (b : Rat) := Rat.intCast_pos.mpr hb
  refine ⟨Rat.divInt_nonneg h0 (by omega), ?_⟩
  rw [← Rat.not_lt, show (1 : Rat) = Rat.divInt 1 1 from rfl, q_ltP (by decide) hb]
  omega
theorem sz_low {t b : Int} {n : Nat} (h0 : 0 ≤ t) (h1 : t ≤ b) (hb : 0 < b) (h : b.natAbs < 2 ^ n) : Sz n (Rat.divInt t b) := Sz.mk (Nat.lt_of_le_of_lt (by omega) h) h (by omega)
theorem pick4 {i : Int} (h0 : 0 ≤ i) (h1 : i < 4) : ∃ n : Int, atI [D.int 2, .int 6, .int 30, .int 1000] i = some (.int n) ∧ 1 ≤ n ∧ n ≤ 1000 := by
  have : i = 0 ∨ i = 1 ∨ i = 2 ∨ i = 3 := by omega
  rcases this with rfl | rfl | rfl | rfl
  · exact ⟨2, rfl, by decide, by decide⟩
  · exact ⟨6, rfl, by decide, by decide⟩
  · exact ⟨30, rfl, by decide, by decide⟩
  · exact ⟨1000, rfl, by decide, by decide⟩
theorem lt_1000 {n : Int} (h : n ≤ 1002) : n < 2 ^ 1000 := Int.lt_of_le_of_lt h (by decide)
theorem ne_trim2 : ¬ (Str.ofString "cut" = Str.ofString "trim") := by decide +kernel
theorem ne_choose2 : ¬ (Str.ofString "cut" = Str.ofString "choose") := by decide +kernel
theorem reply_run {b bp : Nat} {mk : Int} {st st1 st2 st3 st4 : Sto} {r1 r2 n r3 r4 : Int} {q : Rat} (hbp : st1[bp]? = some (.lst []))
    (t1 : F_law_take [.ptr b, .int 6] st = .val .P (.int r1) st1) (t2 : F_law_take [.ptr b, .int 4] st1 = .val .P (.int r2) st2) (hn : atI [D.int 2, .int 6, .int 30, .int 1000] r2 = some (.int n)) (t3 : F_law_take [.ptr b, .int n] st2 = .val .P (.int r3) st3)
    (t4 : F_law_take [.ptr b, .int (1 + r3 + 1)] st3 = .val .P (.int r4) st4) (l1 : F_law_low [.int r4, .int (1 + r3)] st4 = .val .P (dF q) st4) (p1 : F_law_plus [dF 1, dF 0] st4 = .val .P (dF 1) st4) (l2 : F_law_low [.int q.num, .int q.den] st4 = .val .P (dF q) st4) (p2 : F_law_plus [dF 0, dF q] st4 = .val .P (dF q) st4)
    (hr1 : 0 ≤ r1 ∧ r1 < 6) (hd : (q.den : Int) < 1000000000000000000000000000000000000) (m1 : Nat.log2 1 + q.num.natAbs.log2 < 1000000) (m2 : Nat.log2 1 + q.den.log2 < 1000000) : F_law_reply [.ptr b, cutA mk, .ptr bp] st = .val .P (if r1 = 0 then dF 0 else if r1 = 1 then dF 1 else dF q) st4 := by
  have hc0 : cutG [D.str (Str.ofString "cut"), .int mk, dF 0, dF 1, dF 1, .tup [.int 1, .int 2]] (some 2) (some 4) = [dF 0, dF 1] := rfl
  have hc : oSl (cutA mk) (some 2) (some 4) st = .val .P (.tup [dF 0, dF 1]) st := by rw [e_slT, hc0] <;> rfl
  have a0 : atI [D.int q.num, .int q.den] 0 = some (.int q.num) := rfl
  have a1 : atI [D.int q.num, .int q.den] 1 = some (.int q.den) := rfl
  have x0 : ∀ st, oIx (dF 0) (.int 0) st = .val .P (.int 0) st := fun _ => rfl
  have x1 : ∀ st, oIx (dF 0) (.int 1) st = .val .P (.int 1) st := fun _ => rfl
  have y0 : ∀ st, oIx (dF 1) (.int 0) st = .val .P (.int 1) st := fun _ => rfl
  have y1 : ∀ st, oIx (dF 1) (.int 1) st = .val .P (.int 1) st := fun _ => rfl
  have q0 : ∀ st, oIx (dF q) (.int 0) st = .val .P (.int q.num) st := fun _ => rfl
  have q1 : ∀ st, oIx (dF q) (.int 1) st = .val .P (.int q.den) st := fun _ => rfl
  by_cases c0 : r1 = 0
  · subst c0
    simp -implicitDefEqProofs [F_law_reply, g_law_reply, atc0, ne_trim2, ne_choose2, hc, t1, hbp, lcGoC, lcGo, t2, hn, t3, t4, l1, at2_0]
  · by_cases c1 : r1 = 1
    · subst c1
      simp -implicitDefEqProofs [F_law_reply, g_law_reply, atc0, ne_trim2, ne_choose2, hc, t1, hbp, lcGoC, lcGo, t2, hn, t3, t4, l1, at2_1]
    · have c2 : ¬ r1 < 2 := by omega
      rw [if_neg c0, if_neg c1]
      simp -implicitDefEqProofs [F_law_reply, g_law_reply, atc0, ne_trim2, ne_choose2, hc, t1, hbp, lcGoC, lcGo, t2, hn, t3, t4, l1, c2, x0, x1, y0, y1, q0, q1, p1, l2, p2, hd, m1, m2]
theorem lt_e36 {n : Int} (h : n ≤ 1002) : n < 1000000000000000000000000000000000000 := Int.lt_of_le_of_lt h (by decide)
theorem reply_cut {b c bp N : Nat} {mk : Int} {st : Sto} (B : Box b c N st) (hN : N ≤ 1000) (hbp : st[bp]? = some (.lst [])) (n1 : bp ≠ b) (n2 : bp ≠ c) :
    ∃ q st', F_law_reply [.ptr b, cutA mk, .ptr bp] st = .val .P (dF q) st' ∧ 0 ≤ q ∧ q ≤ 1 ∧ Sz 12 q ∧ Box b c (N + 4) st' ∧ Rest b c st st' := by
  obtain ⟨r1, st1, t1, a1, a2, B1, R1⟩ := take_ok B (n := 6) (by decide) (by decide) (by omega)
  obtain ⟨r2, st2, t2, b1, b2, B2, R2⟩ := take_ok B1 (n := 4) (by decide) (by decide) (by omega)
  obtain ⟨n, hn, h1, h2⟩ := pick4 b1 b2
  obtain ⟨r3, st3, t3, c1, c2, B3, R3⟩ := take_ok B2 (n := n) h1 (lt_1000 (by omega)) (by omega)
  obtain ⟨r4, st4, t4, d1, d2, B4, R4⟩ := take_ok B3 (n := 1 + r3 + 1) (by omega) (lt_1000 (by omega)) (by omega)
  have hbp1 : st1[bp]? = some (.lst []) := by rw [R1.2 bp n1 n2]; exact hbp
  have hb0 : (1 + r3) ≠ 0 := by omega
  have hz : (1 + r3).natAbs < 2 ^ 10 := by simp only [Nat.reducePow]; omega
  have l1 := law_low_eq (t := r4) (b := 1 + r3) hb0 (Nat.lt_of_lt_of_le (log2_lt (by decide) hz) (by decide)) st4
  obtain ⟨q0, q1⟩ := q01 (t := r4) (b := 1 + r3) d1 (by omega) (by omega)
  have sq := sz_low (t := r4) (b := 1 + r3) (n := 10) d1 (by omega) (by omega) hz
  generalize Rat.divInt r4 (1 + r3) = q at *
  have p1 := law_plus_eq (a := 1) (b := 0) (sz1 (n := 0)) (sz0 (n := 0)) (by decide) st4
  have p2 := law_plus_eq (a := 0) (b := q) (sz0 (n := 0)) sq (by decide) st4
  rw [show (1 : Rat) + 0 = 1 by grind] at p1
  rw [show (0 : Rat) + q = q by grind] at p2
  have l2 := law_low_eq (t := q.num) (b := q.den) (by have := q.den_pos; omega) (Nat.lt_of_lt_of_le (log2_lt (k := 10) (by decide) (by simpa using sq.2)) (by decide)) st4
  rw [Rat.num_divInt_den] at l2
  have hd : (q.den : Int) ≤ 1002 ∨ (q.den : Int) ≤ 1024 := .inr (by have := sq.2; simp only [Nat.reducePow] at this; omega)
  have hd : (q.den : Int) < 1000000000000000000000000000000000000 := by
    have h : (q.den : Int) ≤ 1024 := by omega
    exact Int.lt_of_le_of_lt h (by decide)
  have m1 : Nat.log2 1 + q.num.natAbs.log2 < 1000000 := by have := log2_lt (by decide : 0 < 10) sq.1; have : Nat.log2 1 = 0 := by decide
                                                           omega
  have m2 : Nat.log2 1 + q.den.log2 < 1000000 := by have := log2_lt (by decide : 0 < 10) sq.2; have : Nat.log2 1 = 0 := by decide
                                                    omega
  have run := reply_run (mk := mk) hbp1 t1 t2 hn t3 t4 l1 p1 l2 p2 ⟨a1, a2⟩ hd m1 m2
  have RR := ((R1.trans R2).trans R3).trans R4
  by_cases e0 : r1 = 0
  · rw [if_pos e0] at run
    exact ⟨0, st4, run, by decide, by decide, sz0 (n := 11), B4, RR⟩
  · rw [if_neg e0] at run
    by_cases e1 : r1 = 1
    · rw [if_pos e1] at run
      exact ⟨1, st4, run, by decide, by decide, sz1 (n := 11), B4, RR⟩
    · rw [if_neg e1] at run
      exact ⟨q, st4, run, q0, q1, sq.up (by decide), B4, RR⟩
theorem choose_is : Str.ofString "choose" = Str.ofString "choose" := rfl
theorem reply_choose {b c bp N : Nat} {ch : Int} {r : D} {st : Sto} (B : Box b c N st) (hN : N ≤ 1000) : ∃ k st', F_law_reply [.ptr b, choA ch r, .ptr bp] st = .val .P (.int k) st' ∧ (k = 0 ∨ k = 1) ∧ Box b c (N + 1) st' ∧ Rest b c st st' := by
  obtain ⟨r1, st1, t1, a1, a2, B1, R1⟩ := take_ok B (n := 2) (by decide) (by decide) (by omega)
  refine ⟨r1, st1, ?_, by omega, B1, R1⟩
  simp -implicitDefEqProofs [F_law_reply, g_law_reply, atc0, atc2, ne_trim, t1]
theorem one_0 {st : Sto} {rp : Nat} {mk : Int} (h : st[rp]? = some (.lst [])) : F_law_onecuts [.int mk, .ptr rp] st = .val .P (.tup [.lst [cutA mk], .non]) st := by
  simp -implicitDefEqProofs [F_law_onecuts, g_law_onecuts, h]
theorem at1_0 {x : D} : atI [x] 0 = some x := rfl
theorem one_1 {st : Sto} {rp : Nat} {mk ch : Int} {r : D} (hc : 1 - mk = ch) (h : st[rp]? = some (.lst [r])) : F_law_onecuts [.int mk, .ptr rp] st = .val .P (.tup [.lst [cutA mk, choA ch r], .non]) st := by
  simp -implicitDefEqProofs [F_law_onecuts, g_law_onecuts, h, at1_0, hc]
abbrev prD (x : Rat × Rat) : D := .tup [dF x.1, dF x.2]
def xyO (mk k : Int) (q : Rat) : (Rat × Rat) × (Rat × Rat) := if mk = 0 then (if k = 0 then ((q, 1), (0, q)) else ((0, q), (q, 1))) else (if k = 0 then ((0, q), (q, 1)) else ((q, 1), (0, q)))
theorem one_2 {st : Sto} {rp : Nat} {mk ch k : Int} {q : Rat} (hm : (mk = 0 ∧ ch = 1) ∨ (mk = 1 ∧ ch = 0)) (hk : k = 0 ∨ k = 1) (h : st[rp]? = some (.lst [dF q, .int k])) :
    F_law_onecuts [.int mk, .ptr rp] st = .val .P (.tup [.lst [cutA mk, choA ch (dF q)], .lst [prD (xyO mk k q).1, prD (xyO mk k q).2]]) st := by
  rcases hm with ⟨rfl, rfl⟩ | ⟨rfl, rfl⟩ <;> rcases hk with rfl | rfl <;> simp -implicitDefEqProofs [F_law_onecuts, g_law_onecuts, h, at2_0, at2_1, ix2_0, ix2_1, xyO]
theorem prt_xy {mk k : Int} {q : Rat} : prt mk (dF q) k = [.lst [prD (xyO mk k q).1], .lst [prD (xyO mk k q).2]] := by
  unfold prt xyO
  split <;> split <;> rfl
theorem xy_ok {mk k : Int} {q : Rat} (h0 : 0 ≤ q) (h1 : q ≤ 1) (hs : Sz 12 q) : InL (xyO mk k q).1 ∧ InL (xyO mk k q).2 ∧ Sz 12 (xyO mk k q).1.1 ∧ Sz 12 (xyO mk k q).1.2 ∧ Sz 12 (xyO mk k q).2.1 ∧ Sz 12 (xyO mk k q).2.2 := by
  have a : InL (q, 1) := ⟨h0, h1, by show (1 : Rat) ≤ 1; decide⟩
  have b : InL (0, q) := ⟨by show (0 : Rat) ≤ 0; decide, h0, h1⟩
  have z : Sz 12 (0 : Rat) := sz0 (n := 11)
  have o : Sz 12 (1 : Rat) := sz1 (n := 11)
  unfold xyO
  split <;> split
  · exact ⟨a, b, hs, o, z, hs⟩
  · exact ⟨b, a, z, hs, hs, o⟩
  · exact ⟨b, a, z, hs, hs, o⟩
  · exact ⟨a, b, hs, o, z, hs⟩
theorem body_wait {st st1 st2 st3 : Sto} {b w rp : Nat} {mk : Int} {asks reps : List D} {wt sp r : D} {v0 v3 v6 v7 v8 v9 : SL} (cw : ∃ l, st[w]? = some (.ins 11 l)) (c2 : ∃ l, st2[w]? = some (.ins 11 l)) (hr : st[rp]? = some (.lst reps)) (h1 : st1[rp]? = some (.lst reps)) (h3 : st3[rp]? = some (.lst reps)) (hl : asks.length = reps.length) (hs : reps.length ≤ 1000)
    (o : F_law_onecuts [.int mk, .ptr rp] st = .val .P (.tup [.lst (asks ++ [wt]), sp]) st) (f : F_law_stands [.ptr w, .lst (asks ++ [wt]), .lst reps, sp] st = .val .P (.bl true) st1) (rr : F_law_reply [.ptr b, wt, .ptr rp] st1 = .val .P r st2) (aa : F_Way_answer [.ptr w, r] st2 = .val .P .non st3) :
    fb_law_1 ⟨[v0, .val (.ptr b), .val (.int mk), v3, .val (.ptr w), .val (.ptr rp), v6, v7, v8, v9], st⟩ = .nx ⟨[v0, .val (.ptr b), .val (.int mk), v3, .val (.ptr w), .val (.ptr rp), v6, .val r, .val (.lst (asks ++ [wt])), .val sp], st3.set rp (.lst (reps ++ [r]))⟩ := by
  obtain ⟨l, cw⟩ := cw
  obtain ⟨l2, c2⟩ := c2
  have hne : ¬ ((asks.length : Int) + 1 = reps.length) := by omega
  have hat : atI (asks ++ [wt]) (-1) = some wt := at_last
  have hb : reps.length < 1000000 := by omega
  have hb2 : reps.length ≤ 1000000 := by omega
  rw [q_fb_law_1]
  simp -implicitDefEqProofs [o, cw, F_OneCuts_hands, g_OneCuts_hands, hr, f, h1, hne, hat, rr, c2, aa, h3, hb, hb2]
theorem body_end {st st1 : Sto} {b w rp : Nat} {mk : Int} {asks reps : List D} {sp : D} {v0 v3 v6 v7 v8 v9 : SL} (cw : ∃ l, st[w]? = some (.ins 11 l)) (hr : st[rp]? = some (.lst reps)) (h1 : st1[rp]? = some (.lst reps)) (ha : asks.length = 2) (hl : reps.length = 2)
    (o : F_law_onecuts [.int mk, .ptr rp] st = .val .P (.tup [.lst asks, sp]) st) (f : F_law_stands [.ptr w, .lst asks, .lst reps, sp] st = .val .P (.bl true) st1) :
    ∃ E, fb_law_1 ⟨[v0, .val (.ptr b), .val (.int mk), v3, .val (.ptr w), .val (.ptr rp), v6, v7, v8, v9], st⟩ = .rt .P (.bl true) E := by
  obtain ⟨l, cw⟩ := cw
  rw [q_fb_law_1]
  refine ⟨st1, ?_⟩
  simp -implicitDefEqProofs [o, cw, F_OneCuts_hands, g_OneCuts_hands, hr, f, h1, ha, hl]
theorem Box.same {b c N : Nat} {st st' : Sto} (h : Box b c N st) (h1 : st'[b]? = st[b]?) (h2 : st'[c]? = st[c]?) : Box b c N st' := by
  unfold Box at *
  simp only [h1, h2]
  exact h
theorem tb_same {st st' : Sto} (h : TbOk st) (k : ∀ i, i < tbls.length → st'[i]? = st[i]?) : TbOk st' := fun i x e => by
  rw [k i (List.getElem?_eq_some_iff.mp e).1]
  exact h i x e
/-- the pointers lie apart -/
structure Ap (b c w p rp : Nat) : Prop where
  bw : b ≠ w
  bp : b ≠ p
  cw : c ≠ w
  cp : c ≠ p
  br : b ≠ rp
  cr : c ≠ rp
  wr : w ≠ rp
  pr : p ≠ rp
  tb : tbls.length ≤ b
  tc : tbls.length ≤ c
  tp : tbls.length ≤ p
  tr : tbls.length ≤ rp
structure J17 (b c w p rp N : Nat) (mk : Int) (reps : List D) (st : Sto) : Prop where
  bx : Box b c N st
  wy : WayAt st w p mk reps
  tb : TbOk st
  rl : st[rp]? = some (.lst reps)
theorem J17.app {b c w p rp N : Nat} {mk : Int} {reps : List D} {st : Sto} (h : J17 b c w p rp N mk reps st) (o : Sto) : J17 b c w p rp N mk reps (st ++ o) :=
  ⟨h.bx.appX o, h.wy.app o, h.tb.app o, by rw [List.getElem?_append_left (List.getElem?_eq_some_iff.mp h.rl).1]; exact h.rl⟩
theorem J17.rest {b c w p rp N M : Nat} {mk : Int} {reps : List D} {st st' : Sto} (A : Ap b c w p rp) (h : J17 b c w p rp N mk reps st) (R : Rest b c st st') (B : Box b c M st') : J17 b c w p rp M mk reps st' :=
  ⟨B, ⟨by rw [R.2 w (Ne.symm A.bw) (Ne.symm A.cw)]; exact h.wy.ow, by rw [R.2 p (Ne.symm A.bp) (Ne.symm A.cp)]; exact h.wy.ol⟩, tb_same h.tb fun i hi => R.2 i (by have := A.tb; omega) (by have := A.tc; omega), by rw [R.2 rp (Ne.symm A.br) (Ne.symm A.cr)]; exact h.rl⟩
theorem J17.ans {b c w p rp N : Nat} {mk : Int} {reps reps' : List D} {st st' : Sto} (A : Ap b c w p rp) (h : J17 b c w p rp N mk reps st) (W : WayAt st' w p mk reps') (k : ∀ i, i < st.length → i ≠ p → st'[i]? = st[i]?) (hl : st.length ≤ st'.length) :
    st'[rp]? = some (.lst reps) ∧ J17 b c w p rp N mk reps' (st'.set rp (.lst reps')) := by
  have hr : rp < st.length := (List.getElem?_eq_some_iff.mp h.rl).1
  have e1 : st'[rp]? = some (.lst reps) := by rw [k rp hr (Ne.symm A.pr)]; exact h.rl
  have hb : b < st.length := by
    obtain ⟨_, _, _, _, _, _, hb, _⟩ := h.bx
    exact (List.getElem?_eq_some_iff.mp hb).1
  have hc : c < st.length := by
    obtain ⟨_, _, _, _, _, hc, _⟩ := h.bx
    exact (List.getElem?_eq_some_iff.mp hc).1
  refine ⟨e1, ⟨h.bx.same ?_ ?_, ⟨?_, ?_⟩, tb_same h.tb fun i hi => ?_, List.getElem?_set_self (by omega)⟩⟩
  · rw [List.getElem?_set_ne (Ne.symm A.br)]; exact k b hb A.bp
  · rw [List.getElem?_set_ne (Ne.symm A.cr)]; exact k c hc A.cp
  · rw [List.getElem?_set_ne (Ne.symm A.wr)]; exact W.ow
  · rw [List.getElem?_set_ne (Ne.symm A.pr)]; exact W.ol
  · have h1 := A.tr; have h2 := A.tp; have h3 := A.tb
    rw [List.getElem?_set_ne (by omega)]; exact k i (by omega) (by omega)
theorem T0 {w p : Nat} {mk : Int} : TkAt w p mk [] [] (cutA mk) .non := ⟨fun _ h => talk_0 h⟩
theorem T1 {w p : Nat} {mk ch : Int} {r : D} (hc : 1 - mk = ch) : TkAt w p mk [r] [cutA mk] (choA ch r) .non := ⟨fun _ h => talk_1 hc h⟩
theorem T2 {w p : Nat} {mk ch k : Int} {q : Rat} (hm : (mk = 0 ∧ ch = 1) ∨ (mk = 1 ∧ ch = 0)) (hk : k = 0 ∨ k = 1) : TkAt w p mk [dF q, .int k] [cutA mk, choA ch (dF q)] .non (.lst [.lst [prD (xyO mk k q).1], .lst [prD (xyO mk k q).2]]) := ⟨fun _ h => by rw [← prt_xy]; exact talk_2 hm hk h⟩
abbrev aC (mk : Int) : D × Int × List D := (.str "cut", mk, [dF 0, dF 1, dF 1, .tup [.int 1, .int 2]])
abbrev aH (ch : Int) (r : D) : D × Int × List D := (.str "choose", ch, [.tup (pc2 r)])
theorem dep_F (q : Rat) : dep (dF q) = 1 := rfl
theorem ok_cut : PyData.strOk (Str.ofString "cut") = true := by decide +kernel
theorem ok_cho : PyData.strOk (Str.ofString "choose") = true := by decide +kernel
theorem pur_cut (mk : Int) : pur (cutA mk) = true ∧ dep (cutA mk) ≤ 10 := by
  constructor
  · simp only [pur, purL, pur_dF, ok_cut, Bool.and_true]
  · simp only [dep, depL, dep_F]; decide
theorem pur_cho (ch : Int) (q : Rat) : pur (choA ch (dF q)) = true ∧ dep (choA ch (dF q)) ≤ 10 := by
  constructor
  · simp only [pur, purL, pur_dF, ok_cho, Bool.and_true]
  · simp only [dep, depL, dep_F]; decide
theorem pur_z1 (mk : Int) (q : Rat) : pur (.lst (zipD [cutA mk] [dF q])) = true ∧ dep (.lst (zipD [cutA mk] [dF q])) ≤ 64 := by
  constructor
  · simp only [zipD, pur, purL, pur_dF, ok_cut, Bool.and_true]
  · simp only [zipD, dep, depL, dep_F]; decide
theorem pur_z2 (mk ch k : Int) (q : Rat) : pur (.lst (zipD [cutA mk, choA ch (dF q)] [dF q, .int k])) = true ∧ dep (.lst (zipD [cutA mk, choA ch (dF q)] [dF q, .int k])) ≤ 64 := by
  constructor
  · simp only [zipD, pur, purL, pur_dF, ok_cut, ok_cho, Bool.and_true]
  · simp only [zipD, dep, depL, dep_F]; decide
/-- the three turns -/
theorem turns {b c w p rp N : Nat} {mk ch : Int} {st : Sto} {v0 v3 v7 v8 v9 : SL} (hm : (mk = 0 ∧ ch = 1) ∨ (mk = 1 ∧ ch = 0)) (hN : N ≤ 100) (A : Ap b c w p rp) (J : J17 b c w p rp N mk [] st) (i0 i1 i2 v6 : SL) :
    ∃ r1 q1 e1 y1 y2 y3 s1 s2 S, fb_law_1 ⟨[v0, .val (.ptr b), .val (.int mk), v3, .val (.ptr w), .val (.ptr rp), i0, v7, v8, v9], st⟩ = .nx ⟨[v0, .val (.ptr b), .val (.int mk), v3, .val (.ptr w), .val (.ptr rp), i0, r1, q1, e1], s1⟩ ∧
      fb_law_1 ⟨[v0, .val (.ptr b), .val (.int mk), v3, .val (.ptr w), .val (.ptr rp), i1, r1, q1, e1], s1⟩ = .nx ⟨[v0, .val (.ptr b), .val (.int mk), v3, .val (.ptr w), .val (.ptr rp), i1, y1, y2, y3], s2⟩ ∧
      fb_law_1 ⟨[v0, .val (.ptr b), .val (.int mk), v3, .val (.ptr w), .val (.ptr rp), i2, y1, y2, y3], s2⟩ = .rt .P (.bl true) S := by
  have hc : 1 - mk = ch := by omega
  obtain ⟨o1, f1⟩ := stands_due (asks := []) (reps := []) (L := []) (sp := .non) rfl rfl (by simp) T0 J.wy rfl (pur_cut mk).1 (Nat.le_trans (pur_cut mk).2 (by decide)) (by simp [zipD, pur, purL]) (by simp [zipD, dep, depL])
  have J1 := J.app o1
  obtain ⟨q, sa, r1, h0, h1, hz, B1, R1⟩ := reply_cut (mk := mk) J1.bx (by omega) J1.rl (Ne.symm A.br) (Ne.symm A.cr)
  have J2 := J1.rest A R1 B1
  obtain ⟨sb, a1, W1, k1, l1⟩ := answer_ok (r := dF q) T0 J2.wy rfl (by simp) (fun st => legal_cut hz (by decide) h0 h1 st)
  obtain ⟨x1, J3⟩ := J2.ans A W1 k1 l1
  have g1 := body_wait (b := b) (asks := []) (v0 := v0) (v3 := v3) (v6 := i0) (v7 := v7) (v8 := v8) (v9 := v9) ⟨_, J.wy.ow⟩ ⟨_, J2.wy.ow⟩ J.rl J1.rl x1 rfl (by simp) (one_0 J.rl) f1 r1 a1
  generalize sb.set rp (.lst ([] ++ [dF q])) = s1 at *
  have J3 : J17 b c w p rp (N + 4) mk [dF q] s1 := J3
  obtain ⟨o2, f2⟩ := stands_due (asks := [cutA mk]) (reps := [dF q]) (L := [aC mk]) (sp := .non) rfl rfl (by simp) (T1 (r := dF q) hc) J3.wy rfl (pur_cho ch q).1 (Nat.le_trans (pur_cho ch q).2 (by decide)) (pur_z1 mk q).1 (pur_z1 mk q).2
  have J4 := J3.app o2
  obtain ⟨k, sc, r2, hk, B2, R2⟩ := reply_choose (bp := rp) (ch := ch) (r := dF q) J4.bx (by omega)
  have J5 := J4.rest A R2 B2
  obtain ⟨sd, a2, W2, k2, l2⟩ := answer_ok (r := .int k) (T1 (r := dF q) hc) J5.wy rfl (by simp) (fun st => legal_choose (by omega) st)
  obtain ⟨x2, J6⟩ := J5.ans A W2 k2 l2
  have g2 := body_wait (b := b) (asks := [cutA mk]) (v0 := v0) (v3 := v3) (v6 := i1) (v7 := .val (dF q)) (v8 := .val (.lst ([] ++ [cutA mk]))) (v9 := .val .non) ⟨_, J3.wy.ow⟩ ⟨_, J5.wy.ow⟩ J3.rl J4.rl x2 rfl (by simp) (one_1 hc J3.rl) f2 r2 a2
  generalize sd.set rp (.lst ([dF q] ++ [.int k])) = s2 at *
  have J6 : J17 b c w p rp (N + 4 + 1) mk [dF q, .int k] s2 := J6
  obtain ⟨xi, yi, z1, z2, z3, z4⟩ := xy_ok (mk := mk) (k := k) h0 h1 hz
  obtain ⟨o3, f3⟩ := stands_end (asks := [cutA mk, choA ch (dF q)]) (reps := [dF q, .int k]) (L := [aC mk, aH ch (dF q)]) (n := 12) (by decide) z1 z2 xi z3 z4 yi rfl rfl (by simp) (T2 hm hk) J6.wy J6.tb (pur_z2 mk ch k q).1 (pur_z2 mk ch k q).2
  have J7 := J6.app o3
  obtain ⟨S, g3⟩ := body_end (b := b) (v0 := v0) (v3 := v3) (v6 := i2) (v7 := .val (.int k)) (v8 := .val (.lst ([cutA mk] ++ [choA ch (dF q)]))) (v9 := .val .non) ⟨_, J6.wy.ow⟩ J6.rl J7.rl rfl rfl (one_2 hm hk J6.rl) f3
  exact ⟨_, _, _, _, _, _, s1, s2, S, g1, g2, g3⟩
theorem way_init {st : Sto} {mk : Int} (hm : mk = 0 ∨ mk = 1) : F_OneCuts___init__ [.ptr st.length, .int mk] (st ++ [.ins 11 []]) = .val .P .non (st ++ [.ins 11 [.int mk, .ptr (st.length + 1), .lst [], .lst []], .lst []]) := by
  have w : F_Way___init__ [.ptr st.length, .int mk] (st ++ [.ins 11 []]) = .val .P .non (st ++ [.ins 11 [.int mk, .ptr (st.length + 1), .lst [], .lst []], .lst []]) := by
    simp -implicitDefEqProofs [F_Way___init__, g_Way___init__]
  have hi : inV (.int mk) [V.int 0, V.int 1] = true := by rcases hm with rfl | rfl <;> decide +kernel
  have hq : ∀ s : Sto, oNotInF (.int mk) (dF 0) s = .val .P (.bl false) s := fun s => by
    show (if flat (.int mk) = true ∧ ([.int 0, .int 1] : List D).all flat = true then ER.val .P (.bl (!inV (toV (.int mk)) ([.int 0, .int 1].map toV))) s else .bad) = _
    rw [if_pos ⟨rfl, rfl⟩]
    show ER.val .P (.bl (!inV (.int mk) [V.int 0, V.int 1])) s = _
    rw [hi]; rfl
  simp -implicitDefEqProofs [F_OneCuts___init__, g_OneCuts___init__, w, hq]
theorem law_6 {b c w p N : Nat} {mk ch : Int} {st : Sto} {v0 v3 v5 v6 v7 v8 v9 : SL} (hm : (mk = 0 ∧ ch = 1) ∨ (mk = 1 ∧ ch = 0)) (hN : N ≤ 100) (hb : tbls.length ≤ b) (hc : tbls.length ≤ c) (hbw : b < w) (hcw : c < w) (hp : p = w + 1) (hl : w + 1 < st.length) (B : Box b c N st) (W : WayAt st w p mk []) (T : TbOk st) :
    ∃ S, k_law_6 ⟨[v0, .val (.ptr b), .val (.int mk), v3, .val (.ptr w), v5, v6, v7, v8, v9], st⟩ = .rt .P (.bl true) S := by
  have A : Ap b c w p st.length := ⟨by omega, by omega, by omega, by omega, by omega, by omega, by omega, by omega, hb, hc, by omega, by omega⟩
  have J : J17 b c w p st.length N mk [] (st ++ [.lst []]) := ⟨B.appX _, W.app _, T.app _, app_new⟩
  obtain ⟨r1, q1, e1, y1, y2, y3, s1, s2, S, g1, g2, g3⟩ := turns (v0 := v0) (v3 := v3) (v7 := v7) (v8 := v8) (v9 := v9) hm hN A J (.val (.int 0)) (.val (.int 1)) (.val (.int 2)) v6
  refine ⟨S, ?_⟩
  have hr : ∃ rest, rangeD 0 12 = .int 0 :: .int 1 :: .int 2 :: rest := ⟨_, rfl⟩
  obtain ⟨rest, hr⟩ := hr
  rw [q_k_law_6]
  simp -implicitDefEqProofs [q_k_law_7, hr, forD, tgB, g1, g2, g3]
theorem law_3 {b c N : Nat} {mk ch left : Int} {st : Sto} {v0 v4 v5 v6 v7 v8 v9 : SL} (hm : (mk = 0 ∧ ch = 1) ∨ (mk = 1 ∧ ch = 0)) (hN : N ≤ 100) (hb : tbls.length ≤ b) (hc : tbls.length ≤ c) (hbw : b < st.length) (hcw : c < st.length) (B : Box b c N st) (T : TbOk st) :
    ∃ S, k_law_3 ⟨[v0, .val (.ptr b), .val (.int mk), .val (.int left), v4, v5, v6, v7, v8, v9], st⟩ = .rt .P (.bl true) S := by
  have hm01 : mk = 0 ∨ mk = 1 := by omega
  have i1 := way_init (st := st) hm01
  let X : Sto := [.ins 11 [.int mk, .ptr (st.length + 1), .lst [], .lst []], .lst []]
  have W1 : WayAt (st ++ X) st.length (st.length + 1) mk [] := ⟨get_app0, get_app1⟩
  have i2 := way_init (st := st ++ X) hm01
  let Y : Sto := [.ins 11 [.int mk, .ptr ((st ++ X).length + 1), .lst [], .lst []], .lst []]
  have W2 : WayAt (st ++ X ++ Y) (st ++ X).length ((st ++ X).length + 1) mk [] := ⟨get_app0, get_app1⟩
  have B1 := B.appX X
  have T1 := T.app X
  have B2 := B1.appX Y
  have T2 := T1.app Y
  have l1 : (st ++ X).length = st.length + 2 := by simp [X]
  have l2 : (st ++ X ++ Y).length = st.length + 4 := by simp [X, Y]
  have i1 : F_OneCuts___init__ [.ptr st.length, .int mk] (st ++ [.ins 11 []]) = .val .P .non (st ++ X) := i1
  have i2 : F_OneCuts___init__ [.ptr (st ++ X).length, .int mk] (st ++ X ++ [.ins 11 []]) = .val .P .non (st ++ X ++ Y) := i2
  generalize X = X at *
  generalize Y = Y at *
  have end1 := fun (v0 v3 v5 v6 v7 v8 v9 : SL) => law_6 (v0 := v0) (v3 := v3) (v5 := v5) (v6 := v6) (v7 := v7) (v8 := v8) (v9 := v9) hm hN hb hc hbw hcw rfl (by omega) B1 W1 T1
  have end2 := fun (v0 v3 v5 v6 v7 v8 v9 : SL) => law_6 (v0 := v0) (v3 := v3) (v5 := v5) (v6 := v6) (v7 := v7) (v8 := v8) (v9 := v9) hm hN hb hc (by omega) (by omega) rfl (by omega) B2 W2 T2
  generalize hS1 : st ++ X = S1 at *
  generalize hS2 : S1 ++ Y = S2 at *
  by_cases c0 : left = 0
  · subst c0
    obtain ⟨S, e⟩ := end2 v0 (.val (.int 0)) v5 v6 v7 v8 v9
    refine ⟨S, ?_⟩
    rw [q_k_law_3]
    simp -implicitDefEqProofs [i1, i2, q_k_law_4, q_k_law_5, e]
  · by_cases c1 : left = 1 ∧ mk = 0
    · obtain ⟨rfl, rfl⟩ := c1
      obtain ⟨S, e⟩ := end2 v0 (.val (.int 1)) v5 v6 v7 v8 v9
      refine ⟨S, ?_⟩
      rw [q_k_law_3]
      simp -implicitDefEqProofs [i1, i2, q_k_law_4, q_k_law_5, e]
    · obtain ⟨S, e⟩ := end1 v0 (.val (.int left)) v5 v6 v7 v8 v9
      refine ⟨S, ?_⟩
      have c1' : left = 1 → ¬ mk = 0 := fun a b => c1 ⟨a, b⟩
      rw [q_k_law_3]
      by_cases cl : left = 1
      · have := c1' cl
        simp -implicitDefEqProofs [i1, q_k_law_4, q_k_law_5, e, c0, cl, this]
        subst cl; exact e
      · simp -implicitDefEqProofs [i1, q_k_law_4, q_k_law_5, e, c0, cl]
theorem law_true : ∀ ns : List Int, ns.length ≤ 63 → (∀ z ∈ ns, Builtin.Int.intBits z ≤ 1048576) → Yes (F_law [.scr ns] tbls) := by
  intro ns hl _
  obtain ⟨st, hb, B, len, kp⟩ := box_okG ns hl tbls
  have T : TbOk st := fun i x e => by
    rw [kp i (List.getElem?_eq_some_iff.mp e).1]; exact e
  obtain ⟨r1, s1, t1, a1, a2, B1, R1⟩ := take_ok B (n := 2) (by decide) (by decide) (by decide)
  obtain ⟨r2, s2, t2, b1, b2, B2, R2⟩ := take_ok B1 (n := 3) (by decide) (by decide) (by decide)
  have R := R1.trans R2
  have T2 : TbOk s2 := tb_same T fun i hi => R.2 i (by omega) (by omega)
  have hm : (r1 = 0 ∧ 1 - r1 = 1) ∨ (r1 = 1 ∧ 1 - r1 = 0) := by omega
  have len2 : s2.length = tbls.length + 2 := by rw [R.1]; exact len
  obtain ⟨S, e⟩ := law_3 (v0 := .val (.scr ns)) (v4 := .emp) (v5 := .emp) (v6 := .emp) (v7 := .emp) (v8 := .emp) (v9 := .emp) (left := r2) hm (by decide) (Nat.le_succ _) (Nat.le_refl _) (by omega) (by omega) B2 T2
  have e : k_law_3 ⟨[.val (.scr ns), .val (.ptr (tbls.length + 1)), .val (.int r1), .val (.int r2), .emp, .emp, .emp, .emp, .emp, .emp], s2⟩ = .rt .P (.bl true) S := e
  clear R R1 R2 B B1 B2 len len2 kp T T2
  generalize tbls.length + 1 = bb at *
  have run : F_law [.scr ns] tbls = .val .P (.bl true) S := by
    simp -implicitDefEqProofs [F_law, g_law, hb, q_k_law_1, q_k_law_2, t1, t2, e]
  exact ⟨_, run⟩
end Dn
namespace Dn
open PySem PySem.Spec PyProof.Rows L2
def top (i : Nat) : Stmt := PySem.Challenge.pw_halfcrumb_k17_onecuts.main.body.getD i (.Pass ⟨0, 0, 0, 0⟩)
def clsStmts : Stmt → List Stmt
  | .ClassDef _ _ _ b _ _ _ _ _ _ _ => b
  | _ => []
def mth (i j : Nat) : Stmt := (clsStmts (top i)).getD j (.Pass ⟨0, 0, 0, 0⟩)
structure Adr where
  f_NoReply___init__ : Addr
  d_NoReply___init__ : FuncData
  f_NotEnded___init__ : Addr
  d_NotEnded___init__ : FuncData
  f_divisor : Addr
  d_divisor : FuncData
  f_is_less : Addr
  d_is_less : FuncData
  f_spans_where : Addr
  d_spans_where : FuncData
  f_Share_spans : Addr
  d_Share_spans : FuncData
  f_Share___len__ : Addr
  d_Share___len__ : FuncData
  f_Share___eq__ : Addr
  d_Share___eq__ : FuncData
  f_Talk___init__ : Addr
  d_Talk___init__ : FuncData
  f_Talk_hear : Addr
  d_Talk_hear : FuncData
  f_is_whole : Addr
  d_is_whole : FuncData
  f_Way___init__ : Addr
  d_Way___init__ : FuncData
  f_Way___len__ : Addr
  d_Way___len__ : FuncData
  f_OneCuts_hands : Addr
  d_OneCuts_hands : FuncData
  f_OneCuts_alike : Addr
  d_OneCuts_alike : FuncData
  f_law_box : Addr
  d_law_box : FuncData
  f_law_mixed : Addr
  d_law_mixed : FuncData
  f_law_low : Addr
  d_law_low : FuncData
  f_law_less : Addr
  d_law_less : FuncData
  f_law_onecuts : Addr
  d_law_onecuts : FuncData
  f_fraction_of : Addr
  d_fraction_of : FuncData
  f_ask_span : Addr
  d_ask_span : FuncData
  f_rising_places : Addr
  d_rising_places : FuncData
  f_covers : Addr
  d_covers : FuncData
  f_Way_told_all : Addr
  d_Way_told_all : FuncData
  f_Way___eq__ : Addr
  d_Way___eq__ : FuncData
  f_OneCuts___init__ : Addr
  d_OneCuts___init__ : FuncData
  f_OneCuts_parted : Addr
  d_OneCuts_parted : FuncData
  f_law_take : Addr
  d_law_take : FuncData
  f_law_plus : Addr
  d_law_plus : FuncData
  f_is_fraction : Addr
  d_is_fraction : FuncData
  f_law_reply : Addr
  d_law_reply : FuncData
  f_is_legal : Addr
  d_is_legal : FuncData
  f_Share___init__ : Addr
  d_Share___init__ : FuncData
  q_Share___init__ : Addr
  p_Share___init__ : Addr
  f_Share_both : Addr
  d_Share_both : FuncData
  q_Share_both : Addr
  p_Share_both : Addr
  f_Share_parted : Addr
  d_Share_parted : FuncData
  f_Way_talk : Addr
  d_Way_talk : FuncData
  f_Way_due : Addr
  d_Way_due : FuncData
  f_Way_log : Addr
  d_Way_log : FuncData
  f_Way_asked : Addr
  d_Way_asked : FuncData
  f_Way_shares : Addr
  d_Way_shares : FuncData
  f_Way_ended : Addr
  d_Way_ended : FuncData
  f_Way_answer : Addr
  d_Way_answer : FuncData
  f_law_stands : Addr
  d_law_stands : FuncData
  f_law : Addr
  d_law : FuncData
  c_NoFraction : Addr
  c_NoSpan : Addr
  c_NoHands : Addr
  c_Ended : Addr
  c_NoReply : Addr
  c_NotEnded : Addr
  c_Share : Addr
  c_Due : Addr
  c_Talk : Addr
  c_Way : Addr
  c_OneCuts : Addr
  a_ALL : Addr
  a_BEGIN : Addr
  a_END : Addr
  a_NONE : Addr
def caOf (A : Adr) : Nat → Addr
  | 1 => A.c_NoFraction
  | 2 => A.c_NoSpan
  | 3 => A.c_NoHands
  | 4 => A.c_Ended
  | 5 => A.c_NoReply
  | 6 => A.c_NotEnded
  | 7 => A.c_Share
  | 8 => A.c_Due
  | 9 => A.c_Talk
  | 10 => A.c_Way
  | 11 => A.c_OneCuts
  | _ => 0
def fnOf : Nat → List Str
  | 5 => ["ask"]
  | 6 => ["many"]
  | 7 => ["parts"]
  | 9 => ["replies", "asks", "waits", "parts"]
  | 10 => ["made", "said", "unsaid", "ears"]
  | 11 => ["made", "said", "unsaid", "ears"]
  | _ => []
theorem nf_OneCuts___eq__ : ("__eq__" : Str) ∉ fnOf 11 := by decide +kernel
theorem nf_OneCuts___len__ : ("__len__" : Str) ∉ fnOf 11 := by decide +kernel
theorem nf_OneCuts_alike : ("alike" : Str) ∉ fnOf 11 := by decide +kernel
theorem nf_OneCuts_answer : ("answer" : Str) ∉ fnOf 11 := by decide +kernel
theorem nf_OneCuts_asked : ("asked" : Str) ∉ fnOf 11 := by decide +kernel
theorem nf_OneCuts_due : ("due" : Str) ∉ fnOf 11 := by decide +kernel
theorem nf_OneCuts_ended : ("ended" : Str) ∉ fnOf 11 := by decide +kernel
theorem nf_OneCuts_hands : ("hands" : Str) ∉ fnOf 11 := by decide +kernel
theorem nf_OneCuts_log : ("log" : Str) ∉ fnOf 11 := by decide +kernel
theorem nf_OneCuts_parted : ("parted" : Str) ∉ fnOf 11 := by decide +kernel
theorem nf_OneCuts_shares : ("shares" : Str) ∉ fnOf 11 := by decide +kernel
theorem nf_OneCuts_talk : ("talk" : Str) ∉ fnOf 11 := by decide +kernel
theorem nf_OneCuts_told_all : ("told_all" : Str) ∉ fnOf 11 := by decide +kernel
theorem nf_Share___eq__ : ("__eq__" : Str) ∉ fnOf 7 := by decide +kernel
theorem nf_Share___len__ : ("__len__" : Str) ∉ fnOf 7 := by decide +kernel
theorem nf_Share_both : ("both" : Str) ∉ fnOf 7 := by decide +kernel
theorem nf_Share_parted : ("parted" : Str) ∉ fnOf 7 := by decide +kernel
theorem nf_Share_spans : ("spans" : Str) ∉ fnOf 7 := by decide +kernel
theorem nf_Talk_hear : ("hear" : Str) ∉ fnOf 9 := by decide +kernel
theorem nd_NoReply : (fnOf 5).Nodup := by decide +kernel
theorem nl_NoReply : (fnOf 5).length < 1000 := by decide +kernel
theorem nd_NotEnded : (fnOf 6).Nodup := by decide +kernel
theorem nl_NotEnded : (fnOf 6).length < 1000 := by decide +kernel
theorem nd_Share : (fnOf 7).Nodup := by decide +kernel
theorem nl_Share : (fnOf 7).length < 1000 := by decide +kernel
theorem nd_Talk : (fnOf 9).Nodup := by decide +kernel
theorem nl_Talk : (fnOf 9).length < 1000 := by decide +kernel
theorem nd_Way : (fnOf 10).Nodup := by decide +kernel
theorem nl_Way : (fnOf 10).length < 1000 := by decide +kernel
theorem nd_OneCuts : (fnOf 11).Nodup := by decide +kernel
theorem nl_OneCuts : (fnOf 11).length < 1000 := by decide +kernel
def GG (K : PySem.W.Frag) (A : Adr) : Gm := { K := K, ca := caOf A, fn := fnOf, ea := 0, tb := [A.p_Share___init__, A.p_Share_both] }
abbrev s_NoReply___init__ : Stmt := mth 7 0
abbrev n_NoReply___init__ : List Str := ["self", "ask"]
abbrev p_NoReply___init__ : List Str := ["self", "ask"]
theorem sc_NoReply___init__ : FnScope n_NoReply___init__ p_NoReply___init__ (defScope s_NoReply___init__) := ⟨rfl, rfl, rfl, by decide +kernel, rfl, by decide +kernel, by decide +kernel⟩
abbrev s_NotEnded___init__ : Stmt := mth 8 0
abbrev n_NotEnded___init__ : List Str := ["self", "many"]
abbrev p_NotEnded___init__ : List Str := ["self", "many"]
theorem sc_NotEnded___init__ : FnScope n_NotEnded___init__ p_NotEnded___init__ (defScope s_NotEnded___init__) := ⟨rfl, rfl, rfl, by decide +kernel, rfl, by decide +kernel, by decide +kernel⟩
abbrev s_divisor : Stmt := top 10
abbrev n_divisor : List Str := ["one", "other"]
abbrev p_divisor : List Str := ["one", "other"]
theorem sc_divisor : FnScope n_divisor p_divisor (defScope s_divisor) := ⟨rfl, rfl, rfl, by decide +kernel, rfl, by decide +kernel, by decide +kernel⟩
abbrev s_is_less : Stmt := top 12
abbrev n_is_less : List Str := ["one", "other"]
abbrev p_is_less : List Str := ["one", "other"]
theorem sc_is_less : FnScope n_is_less p_is_less (defScope s_is_less) := ⟨rfl, rfl, rfl, by decide +kernel, rfl, by decide +kernel, by decide +kernel⟩
abbrev s_spans_where : Stmt := top 20
abbrev n_spans_where : List Str := ["places", "is_held", "found", "here", "there"]
abbrev p_spans_where : List Str := ["places", "is_held"]
theorem sc_spans_where : FnScope n_spans_where p_spans_where (defScope s_spans_where) := ⟨rfl, rfl, rfl, by decide +kernel, rfl, by decide +kernel, by decide +kernel⟩
abbrev s_Share_spans : Stmt := mth 21 1
abbrev n_Share_spans : List Str := ["self"]
abbrev p_Share_spans : List Str := ["self"]
theorem sc_Share_spans : FnScope n_Share_spans p_Share_spans (defScope s_Share_spans) := ⟨rfl, rfl, rfl, by decide +kernel, rfl, by decide +kernel, by decide +kernel⟩
abbrev s_Share___len__ : Stmt := mth 21 8
abbrev n_Share___len__ : List Str := ["self"]
abbrev p_Share___len__ : List Str := ["self"]
theorem sc_Share___len__ : FnScope n_Share___len__ p_Share___len__ (defScope s_Share___len__) := ⟨rfl, rfl, rfl, by decide +kernel, rfl, by decide +kernel, by decide +kernel⟩
abbrev s_Share___eq__ : Stmt := mth 21 9
abbrev n_Share___eq__ : List Str := ["self", "other"]
abbrev p_Share___eq__ : List Str := ["self", "other"]
theorem sc_Share___eq__ : FnScope n_Share___eq__ p_Share___eq__ (defScope s_Share___eq__) := ⟨rfl, rfl, rfl, by decide +kernel, rfl, by decide +kernel, by decide +kernel⟩
abbrev s_Talk___init__ : Stmt := mth 24 0
abbrev n_Talk___init__ : List Str := ["self", "replies"]
abbrev p_Talk___init__ : List Str := ["self", "replies"]
theorem sc_Talk___init__ : FnScope n_Talk___init__ p_Talk___init__ (defScope s_Talk___init__) := ⟨rfl, rfl, rfl, by decide +kernel, rfl, by decide +kernel, by decide +kernel⟩
abbrev s_Talk_hear : Stmt := mth 24 1
abbrev n_Talk_hear : List Str := ["self", "ask", "at"]
abbrev p_Talk_hear : List Str := ["self", "ask"]
theorem sc_Talk_hear : FnScope n_Talk_hear p_Talk_hear (defScope s_Talk_hear) := ⟨rfl, rfl, rfl, by decide +kernel, rfl, by decide +kernel, by decide +kernel⟩
abbrev s_is_whole : Stmt := top 25
abbrev n_is_whole : List Str := ["thing"]
abbrev p_is_whole : List Str := ["thing"]
theorem sc_is_whole : FnScope n_is_whole p_is_whole (defScope s_is_whole) := ⟨rfl, rfl, rfl, by decide +kernel, rfl, by decide +kernel, by decide +kernel⟩
abbrev s_Way___init__ : Stmt := mth 30 0
abbrev n_Way___init__ : List Str := ["self", "made"]
abbrev p_Way___init__ : List Str := ["self", "made"]
theorem sc_Way___init__ : FnScope n_Way___init__ p_Way___init__ (defScope s_Way___init__) := ⟨rfl, rfl, rfl, by decide +kernel, rfl, by decide +kernel, by decide +kernel⟩
abbrev s_Way___len__ : Stmt := mth 30 20
abbrev n_Way___len__ : List Str := ["self"]
abbrev p_Way___len__ : List Str := ["self"]
theorem sc_Way___len__ : FnScope n_Way___len__ p_Way___len__ (defScope s_Way___len__) := ⟨rfl, rfl, rfl, by decide +kernel, rfl, by decide +kernel, by decide +kernel⟩
abbrev s_OneCuts_hands : Stmt := mth 34 2
abbrev n_OneCuts_hands : List Str := ["self"]
abbrev p_OneCuts_hands : List Str := ["self"]
theorem sc_OneCuts_hands : FnScope n_OneCuts_hands p_OneCuts_hands (defScope s_OneCuts_hands) := ⟨rfl, rfl, rfl, by decide +kernel, rfl, by decide +kernel, by decide +kernel⟩
abbrev s_OneCuts_alike : Stmt := mth 34 4
abbrev n_OneCuts_alike : List Str := ["self", "other"]
abbrev p_OneCuts_alike : List Str := ["self", "other"]
theorem sc_OneCuts_alike : FnScope n_OneCuts_alike p_OneCuts_alike (defScope s_OneCuts_alike) := ⟨rfl, rfl, rfl, by decide +kernel, rfl, by decide +kernel, by decide +kernel⟩
abbrev s_law_box : Stmt := top 36
abbrev n_law_box : List Str := ["_law_script", "_law_great", "_law_cell"]
abbrev p_law_box : List Str := ["_law_script"]
theorem sc_law_box : FnScope n_law_box p_law_box (defScope s_law_box) := ⟨rfl, rfl, rfl, by decide +kernel, rfl, by decide +kernel, by decide +kernel⟩
abbrev s_law_mixed : Stmt := top 37
abbrev n_law_mixed : List Str := ["_law_cell", "_law_k", "_law_whole"]
abbrev p_law_mixed : List Str := ["_law_cell", "_law_k"]
theorem sc_law_mixed : FnScope n_law_mixed p_law_mixed (defScope s_law_mixed) := ⟨rfl, rfl, rfl, by decide +kernel, rfl, by decide +kernel, by decide +kernel⟩
abbrev s_law_low : Stmt := top 39
abbrev n_law_low : List Str := ["_law_top", "_law_bottom", "_law_one", "_law_two"]
abbrev p_law_low : List Str := ["_law_top", "_law_bottom"]
theorem sc_law_low : FnScope n_law_low p_law_low (defScope s_law_low) := ⟨rfl, rfl, rfl, by decide +kernel, rfl, by decide +kernel, by decide +kernel⟩
abbrev s_law_less : Stmt := top 41
abbrev n_law_less : List Str := ["_law_one", "_law_two"]
abbrev p_law_less : List Str := ["_law_one", "_law_two"]
theorem sc_law_less : FnScope n_law_less p_law_less (defScope s_law_less) := ⟨rfl, rfl, rfl, by decide +kernel, rfl, by decide +kernel, by decide +kernel⟩
abbrev s_law_onecuts : Stmt := top 44
abbrev n_law_onecuts : List Str := ["_law_maker", "_law_replies", "_law_asks", "_law_pieces", "_law_spans"]
abbrev p_law_onecuts : List Str := ["_law_maker", "_law_replies"]
theorem sc_law_onecuts : FnScope n_law_onecuts p_law_onecuts (defScope s_law_onecuts) := ⟨rfl, rfl, rfl, by decide +kernel, rfl, by decide +kernel, by decide +kernel⟩
abbrev s_fraction_of : Stmt := top 11
abbrev n_fraction_of : List Str := ["top", "bottom", "size"]
abbrev p_fraction_of : List Str := ["top", "bottom"]
theorem sc_fraction_of : FnScope n_fraction_of p_fraction_of (defScope s_fraction_of) := ⟨rfl, rfl, rfl, by decide +kernel, rfl, by decide +kernel, by decide +kernel⟩
abbrev s_ask_span : Stmt := top 17
abbrev n_ask_span : List Str := ["here", "there"]
abbrev p_ask_span : List Str := ["here", "there"]
theorem sc_ask_span : FnScope n_ask_span p_ask_span (defScope s_ask_span) := ⟨rfl, rfl, rfl, by decide +kernel, rfl, by decide +kernel, by decide +kernel⟩
abbrev s_rising_places : Stmt := top 18
abbrev n_rising_places : List Str := ["spans", "found", "span", "place", "at"]
abbrev p_rising_places : List Str := ["spans"]
theorem sc_rising_places : FnScope n_rising_places p_rising_places (defScope s_rising_places) := ⟨rfl, rfl, rfl, by decide +kernel, rfl, by decide +kernel, by decide +kernel⟩
abbrev s_covers : Stmt := top 19
abbrev n_covers : List Str := ["spans", "here", "there", "low", "high"]
abbrev p_covers : List Str := ["spans", "here", "there"]
theorem sc_covers : FnScope n_covers p_covers (defScope s_covers) := ⟨rfl, rfl, rfl, by decide +kernel, rfl, by decide +kernel, by decide +kernel⟩
abbrev s_Way_told_all : Stmt := mth 30 18
abbrev n_Way_told_all : List Str := ["self", "deed", "reply", "watcher", "word"]
abbrev p_Way_told_all : List Str := ["self", "deed", "reply"]
theorem sc_Way_told_all : FnScope n_Way_told_all p_Way_told_all (defScope s_Way_told_all) := ⟨rfl, rfl, rfl, by decide +kernel, rfl, by decide +kernel, by decide +kernel⟩
abbrev s_Way___eq__ : Stmt := mth 30 19
abbrev n_Way___eq__ : List Str := ["self", "other"]
abbrev p_Way___eq__ : List Str := ["self", "other"]
theorem sc_Way___eq__ : FnScope n_Way___eq__ p_Way___eq__ (defScope s_Way___eq__) := ⟨rfl, rfl, rfl, by decide +kernel, rfl, by decide +kernel, by decide +kernel⟩
abbrev s_OneCuts___init__ : Stmt := mth 34 0
abbrev n_OneCuts___init__ : List Str := ["self", "cutter"]
abbrev p_OneCuts___init__ : List Str := ["self", "cutter"]
theorem sc_OneCuts___init__ : FnScope n_OneCuts___init__ p_OneCuts___init__ (defScope s_OneCuts___init__) := ⟨rfl, rfl, rfl, by decide +kernel, rfl, by decide +kernel, by decide +kernel⟩
abbrev s_OneCuts_parted : Stmt := mth 34 5
abbrev n_OneCuts_parted : List Str := ["self", "talk", "cutter", "chooser", "place", "pieces", "chosen", "parts"]
abbrev p_OneCuts_parted : List Str := ["self", "talk"]
theorem sc_OneCuts_parted : FnScope n_OneCuts_parted p_OneCuts_parted (defScope s_OneCuts_parted) := ⟨rfl, rfl, rfl, by decide +kernel, rfl, by decide +kernel, by decide +kernel⟩
abbrev s_law_take : Stmt := top 38
abbrev n_law_take : List Str := ["_law_box_here", "_law_size", "_law_cell", "_law_found", "_law_reach"]
abbrev p_law_take : List Str := ["_law_box_here", "_law_size"]
theorem sc_law_take : FnScope n_law_take p_law_take (defScope s_law_take) := ⟨rfl, rfl, rfl, by decide +kernel, rfl, by decide +kernel, by decide +kernel⟩
abbrev s_law_plus : Stmt := top 40
abbrev n_law_plus : List Str := ["_law_one", "_law_two"]
abbrev p_law_plus : List Str := ["_law_one", "_law_two"]
theorem sc_law_plus : FnScope n_law_plus p_law_plus (defScope s_law_plus) := ⟨rfl, rfl, rfl, by decide +kernel, rfl, by decide +kernel, by decide +kernel⟩
abbrev s_is_fraction : Stmt := top 26
abbrev n_is_fraction : List Str := ["thing"]
abbrev p_is_fraction : List Str := ["thing"]
theorem sc_is_fraction : FnScope n_is_fraction p_is_fraction (defScope s_is_fraction) := ⟨rfl, rfl, rfl, by decide +kernel, rfl, by decide +kernel, by decide +kernel⟩
abbrev s_law_reply : Stmt := top 42
abbrev n_law_reply : List Str := ["_law_box_here", "_law_ask", "_law_before", "_law_way", "_law_known", "_law_bottom", "_law_part", "_law_wide", "_law_found", "_law_here", "_law_there", "_law_place"]
abbrev p_law_reply : List Str := ["_law_box_here", "_law_ask", "_law_before"]
theorem sc_law_reply : FnScope n_law_reply p_law_reply (defScope s_law_reply) := ⟨rfl, rfl, rfl, by decide +kernel, rfl, by decide +kernel, by decide +kernel⟩
abbrev s_is_legal : Stmt := top 27
abbrev n_is_legal : List Str := ["ask", "reply", "most"]
abbrev p_is_legal : List Str := ["ask", "reply"]
theorem sc_is_legal : FnScope n_is_legal p_is_legal (defScope s_is_legal) := ⟨rfl, rfl, rfl, by decide +kernel, rfl, by decide +kernel, by decide +kernel⟩
abbrev s_Share___init__ : Stmt := mth 21 0
abbrev n_Share___init__ : List Str := ["self", "spans", "here", "there"]
abbrev p_Share___init__ : List Str := ["self", "spans"]
theorem sc_Share___init__ : FnScope n_Share___init__ p_Share___init__ (defScope s_Share___init__) := ⟨rfl, rfl, rfl, by decide +kernel, rfl, by decide +kernel, by decide +kernel⟩
abbrev s_Share_both : Stmt := mth 21 4
abbrev n_Share_both : List Str := ["self", "other", "kept", "places", "a", "b"]
abbrev p_Share_both : List Str := ["self", "other"]
theorem sc_Share_both : FnScope n_Share_both p_Share_both (defScope s_Share_both) := ⟨rfl, rfl, rfl, by decide +kernel, rfl, by decide +kernel, by decide +kernel⟩
abbrev s_Share_parted : Stmt := mth 21 5
abbrev n_Share_parted : List Str := ["self", "place"]
abbrev p_Share_parted : List Str := ["self", "place"]
theorem sc_Share_parted : FnScope n_Share_parted p_Share_parted (defScope s_Share_parted) := ⟨rfl, rfl, rfl, by decide +kernel, rfl, by decide +kernel, by decide +kernel⟩
abbrev s_Way_talk : Stmt := mth 30 6
abbrev n_Way_talk : List Str := ["self", "talk"]
abbrev p_Way_talk : List Str := ["self"]
theorem sc_Way_talk : FnScope n_Way_talk p_Way_talk (defScope s_Way_talk) := ⟨rfl, rfl, rfl, by decide +kernel, rfl, by decide +kernel, by decide +kernel⟩
abbrev s_Way_due : Stmt := mth 30 7
abbrev n_Way_due : List Str := ["self"]
abbrev p_Way_due : List Str := ["self"]
theorem sc_Way_due : FnScope n_Way_due p_Way_due (defScope s_Way_due) := ⟨rfl, rfl, rfl, by decide +kernel, rfl, by decide +kernel, by decide +kernel⟩
abbrev s_Way_log : Stmt := mth 30 9
abbrev n_Way_log : List Str := ["self"]
abbrev p_Way_log : List Str := ["self"]
theorem sc_Way_log : FnScope n_Way_log p_Way_log (defScope s_Way_log) := ⟨rfl, rfl, rfl, by decide +kernel, rfl, by decide +kernel, by decide +kernel⟩
abbrev s_Way_asked : Stmt := mth 30 10
abbrev n_Way_asked : List Str := ["self", "asks", "hand", "ask"]
abbrev p_Way_asked : List Str := ["self"]
theorem sc_Way_asked : FnScope n_Way_asked p_Way_asked (defScope s_Way_asked) := ⟨rfl, rfl, rfl, by decide +kernel, rfl, by decide +kernel, by decide +kernel⟩
abbrev s_Way_shares : Stmt := mth 30 11
abbrev n_Way_shares : List Str := ["self", "talk", "spans"]
abbrev p_Way_shares : List Str := ["self"]
theorem sc_Way_shares : FnScope n_Way_shares p_Way_shares (defScope s_Way_shares) := ⟨rfl, rfl, rfl, by decide +kernel, rfl, by decide +kernel, by decide +kernel⟩
abbrev s_Way_ended : Stmt := mth 30 8
abbrev n_Way_ended : List Str := ["self"]
abbrev p_Way_ended : List Str := ["self"]
theorem sc_Way_ended : FnScope n_Way_ended p_Way_ended (defScope s_Way_ended) := ⟨rfl, rfl, rfl, by decide +kernel, rfl, by decide +kernel, by decide +kernel⟩
abbrev s_Way_answer : Stmt := mth 30 12
abbrev n_Way_answer : List Str := ["self", "reply", "ask"]
abbrev p_Way_answer : List Str := ["self", "reply"]
theorem sc_Way_answer : FnScope n_Way_answer p_Way_answer (defScope s_Way_answer) := ⟨rfl, rfl, rfl, by decide +kernel, rfl, by decide +kernel, by decide +kernel⟩
abbrev s_law_stands : Stmt := top 43
abbrev n_law_stands : List Str := ["_law_way", "_law_asks", "_law_replies", "_law_spans", "_law_due", "_law_count", "_law_log", "_law_counts", "_law_told", "e", "_law_hand", "_law_share", "_law_span", "_law_ask", "_law_one"]
abbrev p_law_stands : List Str := ["_law_way", "_law_asks", "_law_replies", "_law_spans"]
theorem sc_law_stands : FnScope n_law_stands p_law_stands (defScope s_law_stands) := ⟨rfl, rfl, rfl, by decide +kernel, rfl, by decide +kernel, by decide +kernel⟩
abbrev s_law : Stmt := top 45
abbrev n_law : List Str := ["_law_script", "_law_box_here", "_law_number", "_law_left", "_law_way", "_law_replies", "_law_turn", "_law_reply_here", "_law_asks", "_law_spans"]
abbrev p_law : List Str := ["_law_script"]
theorem sc_law : FnScope n_law p_law (defScope s_law) := ⟨rfl, rfl, rfl, by decide +kernel, rfl, by decide +kernel, by decide +kernel⟩
structure Txt (K : PySem.W.Frag) (mg : Str → Option Value) (base : Heap) (A : Adr) : Prop where
  F_NoReply___init__ : Fun K "__init__" "NoReply.__init__" s_NoReply___init__ A.f_NoReply___init__ A.d_NoReply___init__
  b_NoReply___init__ : Binds K A.d_NoReply___init__ p_NoReply___init__ []
  F_NotEnded___init__ : Fun K "__init__" "NotEnded.__init__" s_NotEnded___init__ A.f_NotEnded___init__ A.d_NotEnded___init__
  b_NotEnded___init__ : Binds K A.d_NotEnded___init__ p_NotEnded___init__ []
  F_divisor : Fun K "divisor" "divisor" s_divisor A.f_divisor A.d_divisor
  b_divisor : Binds K A.d_divisor p_divisor []
  F_is_less : Fun K "is_less" "is_less" s_is_less A.f_is_less A.d_is_less
  b_is_less : Binds K A.d_is_less p_is_less []
  F_spans_where : Fun K "spans_where" "spans_where" s_spans_where A.f_spans_where A.d_spans_where
  b_spans_where : Binds K A.d_spans_where p_spans_where []
  F_Share_spans : Fun K "spans" "Share.spans" s_Share_spans A.f_Share_spans A.d_Share_spans
  b_Share_spans : Binds K A.d_Share_spans p_Share_spans []
  F_Share___len__ : Fun K "__len__" "Share.__len__" s_Share___len__ A.f_Share___len__ A.d_Share___len__
  b_Share___len__ : Binds K A.d_Share___len__ p_Share___len__ []
  F_Share___eq__ : Fun K "__eq__" "Share.__eq__" s_Share___eq__ A.f_Share___eq__ A.d_Share___eq__
  b_Share___eq__ : Binds K A.d_Share___eq__ p_Share___eq__ []
  F_Talk___init__ : Fun K "__init__" "Talk.__init__" s_Talk___init__ A.f_Talk___init__ A.d_Talk___init__
  b_Talk___init__ : Binds K A.d_Talk___init__ p_Talk___init__ []
  F_Talk_hear : Fun K "hear" "Talk.hear" s_Talk_hear A.f_Talk_hear A.d_Talk_hear
  b_Talk_hear : Binds K A.d_Talk_hear p_Talk_hear []
  F_is_whole : Fun K "is_whole" "is_whole" s_is_whole A.f_is_whole A.d_is_whole
  b_is_whole : Binds K A.d_is_whole p_is_whole []
  F_Way___init__ : Fun K "__init__" "Way.__init__" s_Way___init__ A.f_Way___init__ A.d_Way___init__
  b_Way___init__ : Binds K A.d_Way___init__ p_Way___init__ []
  F_Way___len__ : Fun K "__len__" "Way.__len__" s_Way___len__ A.f_Way___len__ A.d_Way___len__
  b_Way___len__ : Binds K A.d_Way___len__ p_Way___len__ []
  F_OneCuts_hands : Fun K "hands" "OneCuts.hands" s_OneCuts_hands A.f_OneCuts_hands A.d_OneCuts_hands
  b_OneCuts_hands : Binds K A.d_OneCuts_hands p_OneCuts_hands []
  F_OneCuts_alike : Fun K "alike" "OneCuts.alike" s_OneCuts_alike A.f_OneCuts_alike A.d_OneCuts_alike
  b_OneCuts_alike : Binds K A.d_OneCuts_alike p_OneCuts_alike []
  F_law_box : Fun K "_law_box" "_law_box" s_law_box A.f_law_box A.d_law_box
  b_law_box : Binds K A.d_law_box p_law_box []
  F_law_mixed : Fun K "_law_mixed" "_law_mixed" s_law_mixed A.f_law_mixed A.d_law_mixed
  b_law_mixed : Binds K A.d_law_mixed p_law_mixed []
  F_law_low : Fun K "_law_low" "_law_low" s_law_low A.f_law_low A.d_law_low
  b_law_low : Binds K A.d_law_low p_law_low []
  F_law_less : Fun K "_law_less" "_law_less" s_law_less A.f_law_less A.d_law_less
  b_law_less : Binds K A.d_law_less p_law_less []
  F_law_onecuts : Fun K "_law_onecuts" "_law_onecuts" s_law_onecuts A.f_law_onecuts A.d_law_onecuts
  b_law_onecuts : Binds K A.d_law_onecuts p_law_onecuts []
  F_fraction_of : FunD K "fraction_of" "fraction_of" (defArgs s_fraction_of) (defBody s_fraction_of) (defScope s_fraction_of) (([(.int 1)] : List D).map toV) [] A.f_fraction_of A.d_fraction_of
  F_ask_span : Fun K "ask_span" "ask_span" s_ask_span A.f_ask_span A.d_ask_span
  b_ask_span : Binds K A.d_ask_span p_ask_span []
  F_rising_places : Fun K "rising_places" "rising_places" s_rising_places A.f_rising_places A.d_rising_places
  b_rising_places : Binds K A.d_rising_places p_rising_places []
  F_covers : Fun K "covers" "covers" s_covers A.f_covers A.d_covers
  b_covers : Binds K A.d_covers p_covers []
  F_Way_told_all : Fun K "told_all" "Way.told_all" s_Way_told_all A.f_Way_told_all A.d_Way_told_all
  b_Way_told_all : Binds K A.d_Way_told_all p_Way_told_all []
  F_Way___eq__ : Fun K "__eq__" "Way.__eq__" s_Way___eq__ A.f_Way___eq__ A.d_Way___eq__
  b_Way___eq__ : Binds K A.d_Way___eq__ p_Way___eq__ []
  F_OneCuts___init__ : FunD K "__init__" "OneCuts.__init__" (defArgs s_OneCuts___init__) (defBody s_OneCuts___init__) (defScope s_OneCuts___init__) (([(.int 0)] : List D).map toV) [] A.f_OneCuts___init__ A.d_OneCuts___init__
  F_OneCuts_parted : Fun K "parted" "OneCuts.parted" s_OneCuts_parted A.f_OneCuts_parted A.d_OneCuts_parted
  b_OneCuts_parted : Binds K A.d_OneCuts_parted p_OneCuts_parted []
  F_law_take : Fun K "_law_take" "_law_take" s_law_take A.f_law_take A.d_law_take
  b_law_take : Binds K A.d_law_take p_law_take []
  F_law_plus : Fun K "_law_plus" "_law_plus" s_law_plus A.f_law_plus A.d_law_plus
  b_law_plus : Binds K A.d_law_plus p_law_plus []
  F_is_fraction : Fun K "is_fraction" "is_fraction" s_is_fraction A.f_is_fraction A.d_is_fraction
  b_is_fraction : Binds K A.d_is_fraction p_is_fraction []
  F_law_reply : Fun K "_law_reply" "_law_reply" s_law_reply A.f_law_reply A.d_law_reply
  b_law_reply : Binds K A.d_law_reply p_law_reply []
  F_is_legal : Fun K "is_legal" "is_legal" s_is_legal A.f_is_legal A.d_is_legal
  b_is_legal : Binds K A.d_is_legal p_is_legal []
  F_Share___init__ : FunC K "__init__" "Share.__init__" s_Share___init__ A.f_Share___init__ A.d_Share___init__ A.q_Share___init__
  tb_Share___init__ : LamX.TabB base mg A.q_Share___init__ A.p_Share___init__
  b_Share___init__ : Binds K A.d_Share___init__ p_Share___init__ []
  F_Share_both : FunC K "both" "Share.both" s_Share_both A.f_Share_both A.d_Share_both A.q_Share_both
  tb_Share_both : LamX.TabB base mg A.q_Share_both A.p_Share_both
  b_Share_both : Binds K A.d_Share_both p_Share_both []
  F_Share_parted : Fun K "parted" "Share.parted" s_Share_parted A.f_Share_parted A.d_Share_parted
  b_Share_parted : Binds K A.d_Share_parted p_Share_parted []
  F_Way_talk : Fun K "talk" "Way.talk" s_Way_talk A.f_Way_talk A.d_Way_talk
  b_Way_talk : Binds K A.d_Way_talk p_Way_talk []
  F_Way_due : Fun K "due" "Way.due" s_Way_due A.f_Way_due A.d_Way_due
  b_Way_due : Binds K A.d_Way_due p_Way_due []
  F_Way_log : Fun K "log" "Way.log" s_Way_log A.f_Way_log A.d_Way_log
  b_Way_log : Binds K A.d_Way_log p_Way_log []
  F_Way_asked : Fun K "asked" "Way.asked" s_Way_asked A.f_Way_asked A.d_Way_asked
  b_Way_asked : Binds K A.d_Way_asked p_Way_asked []
  F_Way_shares : Fun K "shares" "Way.shares" s_Way_shares A.f_Way_shares A.d_Way_shares
  b_Way_shares : Binds K A.d_Way_shares p_Way_shares []
  F_Way_ended : Fun K "ended" "Way.ended" s_Way_ended A.f_Way_ended A.d_Way_ended
  b_Way_ended : Binds K A.d_Way_ended p_Way_ended []
  F_Way_answer : Fun K "answer" "Way.answer" s_Way_answer A.f_Way_answer A.d_Way_answer
  b_Way_answer : Binds K A.d_Way_answer p_Way_answer []
  F_law_stands : Fun K "_law_stands" "_law_stands" s_law_stands A.f_law_stands A.d_law_stands
  b_law_stands : Binds K A.d_law_stands p_law_stands []
  F_law : Fun K "law" "law" s_law A.f_law A.d_law
  b_law : Binds K A.d_law p_law []
  g_law_box : mg "_law_box" = some (.ref A.f_law_box)
  g_law_less : mg "_law_less" = some (.ref A.f_law_less)
  g_law_low : mg "_law_low" = some (.ref A.f_law_low)
  g_law_mixed : mg "_law_mixed" = some (.ref A.f_law_mixed)
  g_law_onecuts : mg "_law_onecuts" = some (.ref A.f_law_onecuts)
  g_law_plus : mg "_law_plus" = some (.ref A.f_law_plus)
  g_law_reply : mg "_law_reply" = some (.ref A.f_law_reply)
  g_law_stands : mg "_law_stands" = some (.ref A.f_law_stands)
  g_law_take : mg "_law_take" = some (.ref A.f_law_take)
  g_ask_span : mg "ask_span" = some (.ref A.f_ask_span)
  g_covers : mg "covers" = some (.ref A.f_covers)
  g_divisor : mg "divisor" = some (.ref A.f_divisor)
  g_fraction_of : mg "fraction_of" = some (.ref A.f_fraction_of)
  g_is_fraction : mg "is_fraction" = some (.ref A.f_is_fraction)
  g_is_legal : mg "is_legal" = some (.ref A.f_is_legal)
  g_is_less : mg "is_less" = some (.ref A.f_is_less)
  g_is_whole : mg "is_whole" = some (.ref A.f_is_whole)
  g_law : mg "law" = some (.ref A.f_law)
  g_rising_places : mg "rising_places" = some (.ref A.f_rising_places)
  g_spans_where : mg "spans_where" = some (.ref A.f_spans_where)
  cl_Share : Cls K A.c_Share
  cl_Talk : Cls K A.c_Talk
  cl_Way : Cls K A.c_Way
  cl_OneCuts : Cls K A.c_OneCuts
  mk_Share : Mk K A.c_Share A.f_Share___init__
  mk_Talk : Mk K A.c_Talk A.f_Talk___init__
  mk_OneCuts : Mk K A.c_OneCuts A.f_OneCuts___init__
  mt_OneCuts___eq__ : Meth K A.c_OneCuts "__eq__" A.f_Way___eq__
  mt_OneCuts___len__ : Meth K A.c_OneCuts "__len__" A.f_Way___len__
  mt_OneCuts_alike : Meth K A.c_OneCuts "alike" A.f_OneCuts_alike
  mt_OneCuts_answer : Meth K A.c_OneCuts "answer" A.f_Way_answer
  mt_OneCuts_asked : Meth K A.c_OneCuts "asked" A.f_Way_asked
  mt_OneCuts_due : Meth K A.c_OneCuts "due" A.f_Way_due
  mt_OneCuts_ended : Meth K A.c_OneCuts "ended" A.f_Way_ended
  mt_OneCuts_hands : Meth K A.c_OneCuts "hands" A.f_OneCuts_hands
  mt_OneCuts_log : Meth K A.c_OneCuts "log" A.f_Way_log
  mt_OneCuts_parted : Meth K A.c_OneCuts "parted" A.f_OneCuts_parted
  mt_OneCuts_shares : Meth K A.c_OneCuts "shares" A.f_Way_shares
  mt_OneCuts_talk : Meth K A.c_OneCuts "talk" A.f_Way_talk
  mt_OneCuts_told_all : Meth K A.c_OneCuts "told_all" A.f_Way_told_all
  mt_Share___eq__ : Meth K A.c_Share "__eq__" A.f_Share___eq__
  mt_Share___len__ : Meth K A.c_Share "__len__" A.f_Share___len__
  mt_Share_both : Meth K A.c_Share "both" A.f_Share_both
  mt_Share_parted : Meth K A.c_Share "parted" A.f_Share_parted
  mt_Share_spans : Meth K A.c_Share "spans" A.f_Share_spans
  mt_Talk_hear : Meth K A.c_Talk "hear" A.f_Talk_hear
  fo_asks : FldOk (GG K A) "asks" ix_asks
  fo_ears : FldOk (GG K A) "ears" ix_ears
  fo_made : FldOk (GG K A) "made" ix_made
  fo_parts : FldOk (GG K A) "parts" ix_parts
  fo_replies : FldOk (GG K A) "replies" ix_replies
  fo_said : FldOk (GG K A) "said" ix_said
  fo_unsaid : FldOk (GG K A) "unsaid" ix_unsaid
  fo_waits : FldOk (GG K A) "waits" ix_waits
  neqs : ∀ x ∈ ([(7, Dn.F_Share___eq__), (11, Dn.F_Way___eq__)] : OwnL), NeC K (caOf A x.1)
  eqok : EqOk (GG K A) [(7, Dn.F_Share___eq__), (11, Dn.F_Way___eq__)] [7, 11]
  io_OneCuts : IsOk (GG K A) A.c_OneCuts isc_OneCuts
  io_Share : IsOk (GG K A) A.c_Share isc_Share
  B_OneCuts___init___1_ : CallB K A.d_OneCuts___init__ p_OneCuts___init__ 1 [] [0, 1] (([(.int 0)] : List D).map toV)
  B_OneCuts___init___1_cutter : CallB K A.d_OneCuts___init__ p_OneCuts___init__ 1 ["cutter"] [0, 1] (([(.int 0)] : List D).map toV)
  B_OneCuts___init___2_ : CallB K A.d_OneCuts___init__ p_OneCuts___init__ 2 [] [0, 1] (([(.int 0)] : List D).map toV)
  B_OneCuts_alike_2_ : CallB K A.d_OneCuts_alike p_OneCuts_alike 2 [] [0, 1] (([] : List D).map toV)
  B_OneCuts_hands_1_ : CallB K A.d_OneCuts_hands p_OneCuts_hands 1 [] [0] (([] : List D).map toV)
  B_OneCuts_parted_2_ : CallB K A.d_OneCuts_parted p_OneCuts_parted 2 [] [0, 1] (([] : List D).map toV)
  B_Share___init___2_ : CallB K A.d_Share___init__ p_Share___init__ 2 [] [0, 1] (([] : List D).map toV)
  B_Share_both_2_ : CallB K A.d_Share_both p_Share_both 2 [] [0, 1] (([] : List D).map toV)
  B_Share_parted_2_ : CallB K A.d_Share_parted p_Share_parted 2 [] [0, 1] (([] : List D).map toV)
  B_Share_spans_1_ : CallB K A.d_Share_spans p_Share_spans 1 [] [0] (([] : List D).map toV)
  B_Talk___init___2_ : CallB K A.d_Talk___init__ p_Talk___init__ 2 [] [0, 1] (([] : List D).map toV)
  B_Talk_hear_2_ : CallB K A.d_Talk_hear p_Talk_hear 2 [] [0, 1] (([] : List D).map toV)
  B_Way___init___2_ : CallB K A.d_Way___init__ p_Way___init__ 2 [] [0, 1] (([] : List D).map toV)
  B_Way_answer_2_ : CallB K A.d_Way_answer p_Way_answer 2 [] [0, 1] (([] : List D).map toV)
  B_Way_asked_1_ : CallB K A.d_Way_asked p_Way_asked 1 [] [0] (([] : List D).map toV)
  B_Way_due_1_ : CallB K A.d_Way_due p_Way_due 1 [] [0] (([] : List D).map toV)
  B_Way_ended_1_ : CallB K A.d_Way_ended p_Way_ended 1 [] [0] (([] : List D).map toV)
  B_Way_log_1_ : CallB K A.d_Way_log p_Way_log 1 [] [0] (([] : List D).map toV)
  B_Way_shares_1_ : CallB K A.d_Way_shares p_Way_shares 1 [] [0] (([] : List D).map toV)
  B_Way_talk_1_ : CallB K A.d_Way_talk p_Way_talk 1 [] [0] (([] : List D).map toV)
  B_Way_told_all_3_ : CallB K A.d_Way_told_all p_Way_told_all 3 [] [0, 1, 2] (([] : List D).map toV)
  B_fraction_of_2_ : CallB K A.d_fraction_of p_fraction_of 2 [] [0, 1] (([(.int 1)] : List D).map toV)
  z_abs : mg "abs" = none
  z_any : mg "any" = none
  z_bool : mg "bool" = none
  z_int : mg "int" = none
  z_isinstance : mg "isinstance" = none
  z_len : mg "len" = none
  z_list : mg "list" = none
  z_range : mg "range" = none
  z_tuple : mg "tuple" = none
  z_zip : mg "zip" = none
  m_ALL : mg "ALL" = some (.ref A.a_ALL)
  i_ALL : ∀ as H, Is (GG K A) as H (.ref A.a_ALL) (.tup [(.int 1), (.int 1)])
  m_BEGIN : mg "BEGIN" = some (.ref A.a_BEGIN)
  i_BEGIN : ∀ as H, Is (GG K A) as H (.ref A.a_BEGIN) (.tup [(.int 0), (.int 1)])
  m_END : mg "END" = some (.ref A.a_END)
  i_END : ∀ as H, Is (GG K A) as H (.ref A.a_END) (.tup [(.int 1), (.int 1)])
  m_NONE : mg "NONE" = some (.ref A.a_NONE)
  i_NONE : ∀ as H, Is (GG K A) as H (.ref A.a_NONE) (.tup [(.int 0), (.int 1)])
  g_NoFraction : mg "NoFraction" = some (.ref A.c_NoFraction)
  g_NoSpan : mg "NoSpan" = some (.ref A.c_NoSpan)
  g_NoHands : mg "NoHands" = some (.ref A.c_NoHands)
  g_Ended : mg "Ended" = some (.ref A.c_Ended)
  g_NoReply : mg "NoReply" = some (.ref A.c_NoReply)
  g_NotEnded : mg "NotEnded" = some (.ref A.c_NotEnded)
  g_Share : mg "Share" = some (.ref A.c_Share)
  g_Due : mg "Due" = some (.ref A.c_Due)
  g_Talk : mg "Talk" = some (.ref A.c_Talk)
  g_Way : mg "Way" = some (.ref A.c_Way)
  g_OneCuts : mg "OneCuts" = some (.ref A.c_OneCuts)
  x_Due : PySem.W.excIn K A.c_Due [.type "Exception", .type "BaseException", .type "object"] "Exception.__new__" = true
  k_Due : PySem.W.keepIn K (.ref A.c_Due) = true
  sb_Due : PySem.W.subIn K (.ref A.c_Due) (.type "BaseException") = some true
  t_Due : PySem.W.typeIn K (.ref A.c_Due) = some (.type "type")
  x_Ended : PySem.W.excIn K A.c_Ended [.type "ValueError", .type "Exception", .type "BaseException", .type "object"] "ValueError.__new__" = true
  k_Ended : PySem.W.keepIn K (.ref A.c_Ended) = true
  sb_Ended : PySem.W.subIn K (.ref A.c_Ended) (.type "BaseException") = some true
  t_Ended : PySem.W.typeIn K (.ref A.c_Ended) = some (.type "type")
  x_NoFraction : PySem.W.excIn K A.c_NoFraction [.type "ValueError", .type "Exception", .type "BaseException", .type "object"] "ValueError.__new__" = true
  k_NoFraction : PySem.W.keepIn K (.ref A.c_NoFraction) = true
  sb_NoFraction : PySem.W.subIn K (.ref A.c_NoFraction) (.type "BaseException") = some true
  t_NoFraction : PySem.W.typeIn K (.ref A.c_NoFraction) = some (.type "type")
  x_NoHands : PySem.W.excIn K A.c_NoHands [.type "ValueError", .type "Exception", .type "BaseException", .type "object"] "ValueError.__new__" = true
  k_NoHands : PySem.W.keepIn K (.ref A.c_NoHands) = true
  sb_NoHands : PySem.W.subIn K (.ref A.c_NoHands) (.type "BaseException") = some true
  t_NoHands : PySem.W.typeIn K (.ref A.c_NoHands) = some (.type "type")
  x_NoSpan : PySem.W.excIn K A.c_NoSpan [.type "ValueError", .type "Exception", .type "BaseException", .type "object"] "ValueError.__new__" = true
  k_NoSpan : PySem.W.keepIn K (.ref A.c_NoSpan) = true
  sb_NoSpan : PySem.W.subIn K (.ref A.c_NoSpan) (.type "BaseException") = some true
  t_NoSpan : PySem.W.typeIn K (.ref A.c_NoSpan) = some (.type "type")
  oex_NoReply : OexC K A.c_NoReply
  ini_NoReply : PySem.W.findIn K (.ref A.c_NoReply) "__init__" = some (some (.ref A.f_NoReply___init__))
  tin_NoReply : PySem.W.typeIn K (.ref A.f_NoReply___init__) = some (.type "function")
  xno_NoReply : PySem.W.findIn K (.ref A.c_NoReply) "ask" = some none
  xf_NoReply : XfC K A.c_NoReply
  oex_NotEnded : OexC K A.c_NotEnded
  ini_NotEnded : PySem.W.findIn K (.ref A.c_NotEnded) "__init__" = some (some (.ref A.f_NotEnded___init__))
  tin_NotEnded : PySem.W.typeIn K (.ref A.f_NotEnded___init__) = some (.type "function")
  xno_NotEnded : PySem.W.findIn K (.ref A.c_NotEnded) "many" = some none
  xf_NotEnded : XfC K A.c_NotEnded
  cr_Way : ClX.CRead K A.c_Way (.type "type")
  cv_Way___init__ : ClX.CVal K A.c_Way (.type "type") "__init__" (.ref A.f_Way___init__) (.ref A.f_Way___init__)
  ex_Due : ∀ c b, sub_Due c = some b → PySem.W.exmOne K (.ref ((GG K A).ca c)) (.ref A.c_Due) = some b
  ec_Due : ∀ c, sub_Due c = some true → ExcC K ((GG K A).ca c)
  ex_NotEnded : ∀ c b, sub_NotEnded c = some b → PySem.W.exmOne K (.ref ((GG K A).ca c)) (.ref A.c_NotEnded) = some b
  ec_NotEnded : ∀ c, sub_NotEnded c = some true → ExcC K ((GG K A).ca c)
section
variable {P : Program} {w : World} {K : PySem.W.Frag} {mg : Str → Option Value} {base : Heap} {A : Adr}
theorem ok_NoReply___init__ (T : Txt K mg base A) : FnOk P w K mg base CX0 1 A.f_NoReply___init__ A.d_NoReply___init__ p_NoReply___init__ (spEx K "ask") :=
  fn_exI rfl T.F_NoReply___init__ sc_NoReply___init__ fun cdv Ar outer s H E => pss_one (ps_ost (pv 0) (pv 1))
theorem ok_NotEnded___init__ (T : Txt K mg base A) : FnOk P w K mg base CX0 1 A.f_NotEnded___init__ A.d_NotEnded___init__ p_NotEnded___init__ (spEx K "many") :=
  fn_exI rfl T.F_NotEnded___init__ sc_NotEnded___init__ fun cdv Ar outer s H E => pss_one (ps_ost (pv 0) (pv 1))
theorem ok_divisor (T : Txt K mg base A) : FnOk P w K mg base (L2.CX P w) 1 A.f_divisor A.d_divisor p_divisor (spF (GG K A) F_divisor) :=
  fn_ok (k := 0) rfl rfl T.F_divisor sc_divisor fun cdv Ar outer s H E hr => ⟨_,
    (pss_cons (ps_set (i := 0) sc_divisor.nd rfl (by first | exact Or.inl rfl | exact Or.inr rfl) (pe_callB call_abs (by rfl) T.z_abs (by decide +kernel) (pa_cons (pv 0) pa_nil)))
    (pss_cons (ps_set (i := 1) sc_divisor.nd rfl (by first | exact Or.inl rfl | exact Or.inr rfl) (pe_callB call_abs (by rfl) T.z_abs (by decide +kernel) (pa_cons (pv 1) pa_nil)))
    (pss_cons (ps_while (passes_of rfl) (pt_cmpR op_gt (pv 1) pe_int (nomark _)) (pss_one (ps_par rfl sc_divisor.nd rfl rfl (by decide) rfl rfl (pa_cons (pv 1) (pa_cons (pe_op op_modN (pv 0) (pv 1)) pa_nil)) rfl)))
    (pss_one (ps_ret (pv 0)))))),
    (s_seq (s_setF (v_cb c_abs (a_cons v_var a_nil)))
    (s_seq (s_setF (v_cb c_abs (a_cons v_var a_nil)))
    (s_seq (s_while (t_test (v_op d_gt v_var v_int)) (s_par (a_cons v_var (a_cons (v_op d_mod v_var v_var) a_nil))))
    s_retV)))⟩
theorem ok_is_less (T : Txt K mg base A) : FnOk P w K mg base (L2.CX P w) 1 A.f_is_less A.d_is_less p_is_less (spF (GG K A) F_is_less) :=
  fn_ok (k := 0) rfl rfl T.F_is_less sc_is_less fun cdv Ar outer s H E hr => ⟨_,
    (pss_one (ps_ret (pe_cmpR op_lt (pe_op or_mul (pe_ix ix_seq (pv 0) pe_int (fun _ _ => rfl)) (pe_ix ix_seq (pv 1) pe_int (fun _ _ => rfl))) (pe_op or_mul (pe_ix ix_seq (pv 1) pe_int (fun _ _ => rfl)) (pe_ix ix_seq (pv 0) pe_int (fun _ _ => rfl))) (nomark _)))),
    (s_ret (v_op d_lt (v_op d_mul (v_op d_ix v_var v_int) (v_op d_ix v_var v_int)) (v_op d_mul (v_op d_ix v_var v_int) (v_op d_ix v_var v_int))))⟩
theorem ok_Share_spans (T : Txt K mg base A) : FnOk P w K mg base (L2.CX P w) 1 A.f_Share_spans A.d_Share_spans p_Share_spans (spF (GG K A) F_Share_spans) :=
  fn_ok (k := 0) rfl rfl T.F_Share_spans sc_Share_spans fun cdv Ar outer s H E hr => ⟨_,
    (pss_one (ps_ret (pe_callTy call_list_of (by rfl) T.z_list (by decide +kernel) (pa_cons (pe_fld (pv 0) rfl) pa_nil)))),
    (s_ret (v_cb c_list (a_cons (v_fld T.fo_parts v_var) a_nil)))⟩
theorem ok_Share___len__ (T : Txt K mg base A) : FnOk P w K mg base (L2.CX P w) 1 A.f_Share___len__ A.d_Share___len__ p_Share___len__ (spF (GG K A) F_Share___len__) :=
  fn_ok (k := 0) rfl rfl T.F_Share___len__ sc_Share___len__ fun cdv Ar outer s H E hr => ⟨_,
    (pss_one (ps_ret (pe_callB call_len (by rfl) T.z_len (by decide +kernel) (pa_cons (pe_fld (pv 0) rfl) pa_nil)))),
    (s_ret (v_cb c_len (a_cons (v_fld T.fo_parts v_var) a_nil)))⟩
theorem ok_Share___eq__ (T : Txt K mg base A) : FnOk P w K mg base (L2.CX P w) 1 A.f_Share___eq__ A.d_Share___eq__ p_Share___eq__ (spF (GG K A) F_Share___eq__) :=
  fn_ok (k := 0) rfl rfl T.F_Share___eq__ sc_Share___eq__ fun cdv Ar outer s H E hr => ⟨_,
    (pss_one (ps_ret (pe_and (pe_callB call_isi (by rfl) T.z_isinstance (by decide +kernel) (pa_cons (pv 1) (pa_cons (pe_glob (v := .ref A.c_Share) rfl T.g_Share rfl) pa_nil))) (pe_one (pe_cmpR (or_eq hr.units) (pe_fld (pv 0) rfl) (pe_fld (pv 1) rfl) (nomark _)))))),
    (s_ret (v_and (v_isO T.io_Share v_var) (v_op d_eq (v_fld T.fo_parts v_var) (v_fld T.fo_parts v_var))))⟩
theorem ok_Talk___init__ (T : Txt K mg base A) : FnOk P w K mg base (L2.CX P w) 1 A.f_Talk___init__ A.d_Talk___init__ p_Talk___init__ (spF (GG K A) F_Talk___init__) :=
  fn_ok (k := 0) rfl rfl T.F_Talk___init__ sc_Talk___init__ fun cdv Ar outer s H E hr => ⟨_,
    (pss_cons (ps_fld (pv 0) (pv 1) (by first | rfl | exact sw_any rfl))
    (pss_cons (ps_fld (pv 0) (pe_lst pa_nil) (by first | rfl | exact sw_any rfl))
    (pss_cons (ps_fld (pv 0) pe_non (by first | rfl | exact sw_any rfl))
    (pss_one (ps_fld (pv 0) pe_non (by first | rfl | exact sw_any rfl)))))),
    (s_seq (s_fldS T.fo_replies v_var v_var)
    (s_seq (s_fldS T.fo_asks v_var (v_put (v_lst a_nil)))
    (s_seq (s_fldS T.fo_waits v_var v_non)
    (s_fldS T.fo_parts v_var v_non))))⟩
theorem ok_Talk_hear (T : Txt K mg base A) : FnOk P w K mg base (L2.CX P w) 1 A.f_Talk_hear A.d_Talk_hear p_Talk_hear (spF (GG K A) F_Talk_hear) :=
  fn_ok (k := 0) rfl rfl T.F_Talk_hear sc_Talk_hear fun cdv Ar outer s H E hr => ⟨_,
    (pss_cons (ps_set (i := 2) sc_Talk_hear.nd rfl (by first | exact Or.inl rfl | exact Or.inr rfl) (pe_callB call_len (by rfl) T.z_len (by decide +kernel) (pa_cons (pe_fld (pv 0) rfl) pa_nil)))
    (pss_cons (ps_if (pt_cmpR (or_eq hr.units) (pv 2) (pe_callB call_len (by rfl) T.z_len (by decide +kernel) (pa_cons (pe_fld (pv 0) rfl) pa_nil)) (nomark _)) (pss_cons (ps_fld (pv 0) (pv 1) (by first | rfl | exact sw_any rfl))
    (pss_one (ps_raise rfl (takes_of rfl rfl rfl rfl) (pmk_own0 PySem.F.excBase_Exception T.x_Due T.g_Due T.k_Due (raises_own T.sb_Due T.t_Due) rfl)))) pss_nil)
    (pss_cons (ps_expr (pe_bm PySem.F.plainAttrs_list PySem.F.slot_list_append PySem.F.type_list_append mt_append (pe_fld (pv 0) rfl) (pa_cons (pv 1) pa_nil)))
    (pss_one (ps_ret (pe_ix ix_seq (pe_fld (pv 0) rfl) (pv 2) (fun _ _ => rfl))))))),
    (s_seq (s_setF (v_cb c_len (a_cons (v_fld T.fo_asks v_var) a_nil)))
    (s_seq (s_if (t_test (v_op d_eq v_var (v_cb c_len (a_cons (v_fld T.fo_replies v_var) a_nil)))) (s_seq (s_fldS T.fo_waits v_var v_var)
    (s_raise rfl)) s_skip)
    (s_seq (s_drop (v_mtX m_append (v_fld T.fo_asks v_var) (a_cons v_var a_nil)))
    (s_ret (v_op d_ix (v_fld T.fo_replies v_var) v_var)))))⟩
theorem ok_is_whole (T : Txt K mg base A) : FnOk P w K mg base (L2.CX P w) 1 A.f_is_whole A.d_is_whole p_is_whole (spF (GG K A) F_is_whole) :=
  fn_ok (k := 0) rfl rfl T.F_is_whole sc_is_whole fun cdv Ar outer s H E hr => ⟨_,
    (pss_one (ps_ret (pe_and (pe_callB call_isi (by rfl) T.z_isinstance (by decide +kernel) (pa_cons (pv 0) (pa_cons (pe_bltn (v := .ty "int") (by rfl) T.z_int (by decide +kernel) rfl) pa_nil))) (pe_one (pe_not (pe_callB call_isi (by rfl) T.z_isinstance (by decide +kernel) (pa_cons (pv 0) (pa_cons (pe_bltn (v := .ty "bool") (by rfl) T.z_bool (by decide +kernel) rfl) pa_nil)))))))),
    (s_ret (v_and (v_isi v_var) (v_not (v_isi v_var))))⟩
theorem ok_Way___init__ (T : Txt K mg base A) : FnOk P w K mg base (L2.CX P w) 1 A.f_Way___init__ A.d_Way___init__ p_Way___init__ (spF (GG K A) F_Way___init__) :=
  fn_ok (k := 0) rfl rfl T.F_Way___init__ sc_Way___init__ fun cdv Ar outer s H E hr => ⟨_,
    (pss_cons (ps_fld (pv 0) (pv 1) (by first | rfl | exact sw_any rfl))
    (pss_cons (ps_fld (pv 0) (pe_lst pa_nil) (by first | rfl | exact sw_any rfl))
    (pss_cons (ps_fld (pv 0) (pe_lst pa_nil) (by first | rfl | exact sw_any rfl))
    (pss_one (ps_fld (pv 0) (pe_lst pa_nil) (by first | rfl | exact sw_any rfl)))))),
    (s_seq (s_fldS T.fo_made v_var v_var)
    (s_seq (s_fldS T.fo_said v_var (v_put (v_lst a_nil)))
    (s_seq (s_fldS T.fo_unsaid v_var (v_lst a_nil))
    (s_fldS T.fo_ears v_var (v_lst a_nil)))))⟩
theorem ok_Way___len__ (T : Txt K mg base A) : FnOk P w K mg base (L2.CX P w) 1 A.f_Way___len__ A.d_Way___len__ p_Way___len__ (spF (GG K A) F_Way___len__) :=
  fn_ok (k := 0) rfl rfl T.F_Way___len__ sc_Way___len__ fun cdv Ar outer s H E hr => ⟨_,
    (pss_one (ps_ret (pe_callB call_len (by rfl) T.z_len (by decide +kernel) (pa_cons (pe_fld (pv 0) rfl) pa_nil)))),
    (s_ret (v_cb c_len (a_cons (v_fld T.fo_said v_var) a_nil)))⟩
theorem ok_OneCuts_hands (T : Txt K mg base A) : FnOk P w K mg base (L2.CX P w) 1 A.f_OneCuts_hands A.d_OneCuts_hands p_OneCuts_hands (spF (GG K A) F_OneCuts_hands) :=
  fn_ok (k := 0) rfl rfl T.F_OneCuts_hands sc_OneCuts_hands fun cdv Ar outer s H E hr => ⟨_,
    (pss_one (ps_ret pe_int)),
    (s_ret v_int)⟩
theorem ok_OneCuts_alike (T : Txt K mg base A) : FnOk P w K mg base (L2.CX P w) 1 A.f_OneCuts_alike A.d_OneCuts_alike p_OneCuts_alike (spF (GG K A) F_OneCuts_alike) :=
  fn_ok (k := 0) rfl rfl T.F_OneCuts_alike sc_OneCuts_alike fun cdv Ar outer s H E hr => ⟨_,
    (pss_one (ps_ret (pe_and (pe_callB call_isi (by rfl) T.z_isinstance (by decide +kernel) (pa_cons (pv 1) (pa_cons (pe_glob (v := .ref A.c_OneCuts) rfl T.g_OneCuts rfl) pa_nil))) (pe_one (pe_cmpR (or_eq hr.units) (pe_fld (pv 1) rfl) (pe_fld (pv 0) rfl) (nomark _)))))),
    (s_ret (v_and (v_isO T.io_OneCuts v_var) (v_op d_eq (v_fld T.fo_made v_var) (v_fld T.fo_made v_var))))⟩
theorem ok_law_box (T : Txt K mg base A) : FnOk P w K mg base (L2.CX P w) 1 A.f_law_box A.d_law_box p_law_box (spF (GG K A) F_law_box) :=
  fn_ok (k := 0) rfl rfl T.F_law_box sc_law_box fun cdv Ar outer s H E hr => ⟨_,
    (pss_cons (ps_setLc (i := 1) (own := [("_law_cell", 2)]) rfl sc_law_box.nd rfl rfl (sw_true rfl rfl rfl (by decide +kernel)) (pi_any (pv 0)) (blkOk_by (N := n_law_box) (sc := defScope (s_law_box)) (by decide +kernel)) (fun _ _ _ _ _ => (pg_name (i := 2) sc_law_box.nd rfl (by first | exact Or.inl rfl | exact Or.inr rfl))) (fun _ _ _ _ _ => (pts_one (pt_cmpR op_ge (pv 2) (pe_op op_pow pe_int pe_int) (nomark _)))) (fun _ _ _ _ _ => (pv 2)))
    (pss_one (ps_ret (pe_lst (pa_cons (pv 1) (pa_cons pe_int (pa_cons (pe_lc (own := [("_law_cell", 2)]) rfl sc_law_box.nd (pi_any (pv 0)) (blkOk_by (N := n_law_box) (sc := defScope (s_law_box)) (by decide +kernel)) (fun _ _ _ _ _ => (pg_name (i := 2) sc_law_box.nd rfl (by first | exact Or.inl rfl | exact Or.inr rfl))) (fun _ _ _ _ _ => (pts_one (pt_cmpR op_lt (pv 2) (pe_op op_pow pe_int pe_int) (nomark _)))) (fun _ _ _ _ _ => (pv 2))) (pa_cons pe_int pa_nil)))))))),
    (s_seq (s_setF (v_put (v_lc (vs := [2]) (js := [2]) (i_any v_var) g_name (by decide) (t_test (v_op d_ge v_var (v_op d_pow v_int v_int))) v_var)))
    (s_ret (v_put (v_lst (a_cons v_var (a_cons v_int (a_cons (v_lc (vs := [2]) (js := [2]) (i_any v_var) g_name (by decide) (t_test (v_op d_lt v_var (v_op d_pow v_int v_int))) v_var) (a_cons v_int a_nil))))))))⟩
theorem ok_law_mixed (T : Txt K mg base A) : FnOk P w K mg base (L2.CX P w) 1 A.f_law_mixed A.d_law_mixed p_law_mixed (spF (GG K A) F_law_mixed) :=
  fn_ok (k := 0) rfl rfl T.F_law_mixed sc_law_mixed fun cdv Ar outer s H E hr => ⟨_,
    (pss_cons (ps_set (i := 2) sc_law_mixed.nd rfl (by first | exact Or.inl rfl | exact Or.inr rfl) (pe_op op_modN (pe_op op_pow (pe_op or_add (pe_op or_add (pe_op or_add (pe_op op_modN (pv 0) pe_int) (pe_op or_mul (pe_op or_mul pe_int (pv 1)) (pv 1))) (pe_op or_mul pe_int (pv 1))) pe_int) pe_int) pe_int))
    (pss_one (ps_ret (pe_op op_modN (pe_op or_add (pe_op or_mul (pv 2) pe_int) (pe_op or_mul pe_int (pv 1))) pe_int)))),
    (s_seq (s_setF (v_op d_mod (v_op d_pow (v_op d_add (v_op d_add (v_op d_add (v_op d_mod v_var v_int) (v_op d_mul (v_op d_mul v_int v_var) v_var)) (v_op d_mul v_int v_var)) v_int) v_int) v_int))
    (s_ret (v_op d_mod (v_op d_add (v_op d_mul v_var v_int) (v_op d_mul v_int v_var)) v_int)))⟩
theorem ok_law_low (T : Txt K mg base A) : FnOk P w K mg base (L2.CX P w) 1 A.f_law_low A.d_law_low p_law_low (spF (GG K A) F_law_low) :=
  fn_ok (k := 0) rfl rfl T.F_law_low sc_law_low fun cdv Ar outer s H E hr => ⟨_,
    (pss_cons (ps_set (i := 2) sc_law_low.nd rfl (by first | exact Or.inl rfl | exact Or.inr rfl) (pe_callB call_abs (by rfl) T.z_abs (by decide +kernel) (pa_cons (pv 0) pa_nil)))
    (pss_cons (ps_set (i := 3) sc_law_low.nd rfl (by first | exact Or.inl rfl | exact Or.inr rfl) (pe_callB call_abs (by rfl) T.z_abs (by decide +kernel) (pa_cons (pv 1) pa_nil)))
    (pss_cons (ps_while (passes_of rfl) (pt_cmpR op_gt (pv 3) pe_int (nomark _)) (pss_one (ps_par rfl sc_law_low.nd rfl rfl (by decide) rfl rfl (pa_cons (pv 3) (pa_cons (pe_op op_modN (pv 2) (pv 3)) pa_nil)) rfl)))
    (pss_cons (ps_if (pt_cmpR op_lt (pv 1) pe_int (nomark _)) (pss_one (ps_set (i := 2) sc_law_low.nd rfl (by first | exact Or.inl rfl | exact Or.inr rfl) (pe_un un_neg (pv 2)))) pss_nil)
    (pss_one (ps_ret (pe_tup (pa_cons (pe_op or_div (pv 0) (pv 2)) (pa_cons (pe_op or_div (pv 1) (pv 2)) pa_nil))))))))),
    (s_seq (s_setF (v_cb c_abs (a_cons v_var a_nil)))
    (s_seq (s_setF (v_cb c_abs (a_cons v_var a_nil)))
    (s_seq (s_while (t_test (v_op d_gt v_var v_int)) (s_par (a_cons v_var (a_cons (v_op d_mod v_var v_var) a_nil))))
    (s_seq (s_if (t_test (v_op d_lt v_var v_int)) (s_setF (v_un d_neg v_var)) s_skip)
    (s_ret (v_tup (a_cons (v_op d_div v_var v_var) (a_cons (v_op d_div v_var v_var) a_nil))))))))⟩
theorem ok_law_less (T : Txt K mg base A) : FnOk P w K mg base (L2.CX P w) 1 A.f_law_less A.d_law_less p_law_less (spF (GG K A) F_law_less) :=
  fn_ok (k := 0) rfl rfl T.F_law_less sc_law_less fun cdv Ar outer s H E hr => ⟨_,
    (pss_one (ps_ret (pe_cmpR op_lt (pe_op or_mul (pe_ix ix_seq (pv 0) pe_int (fun _ _ => rfl)) (pe_ix ix_seq (pv 1) pe_int (fun _ _ => rfl))) (pe_op or_mul (pe_ix ix_seq (pv 1) pe_int (fun _ _ => rfl)) (pe_ix ix_seq (pv 0) pe_int (fun _ _ => rfl))) (nomark _)))),
    (s_ret (v_op d_lt (v_op d_mul (v_op d_ix v_var v_int) (v_op d_ix v_var v_int)) (v_op d_mul (v_op d_ix v_var v_int) (v_op d_ix v_var v_int))))⟩
theorem ok_law_onecuts (T : Txt K mg base A) : FnOk P w K mg base (L2.CX P w) 1 A.f_law_onecuts A.d_law_onecuts p_law_onecuts (spF (GG K A) F_law_onecuts) :=
  fn_ok (k := 0) rfl rfl T.F_law_onecuts sc_law_onecuts fun cdv Ar outer s H E hr => ⟨_,
    (pss_cons (ps_set (i := 2) sc_law_onecuts.nd rfl (by first | exact Or.inl rfl | exact Or.inr rfl) (pe_lst (pa_cons (pe_tup (pa_cons pe_str (pa_cons (pv 0) (pa_cons (pe_tup (pa_cons pe_int (pa_cons pe_int pa_nil))) (pa_cons (pe_tup (pa_cons pe_int (pa_cons pe_int pa_nil))) (pa_cons (pe_tup (pa_cons pe_int (pa_cons pe_int pa_nil))) (pa_cons (pe_tup (pa_cons pe_int (pa_cons pe_int pa_nil))) pa_nil))))))) pa_nil)))
    (pss_cons (ps_if (pt_cmpR (or_eq hr.units) (pe_callB call_len (by rfl) T.z_len (by decide +kernel) (pa_cons (pv 1) pa_nil)) pe_int (nomark _)) (pss_one (ps_ret (pe_tup (pa_cons (pv 2) (pa_cons pe_non pa_nil))))) pss_nil)
    (pss_cons (ps_set (i := 3) sc_law_onecuts.nd rfl (by first | exact Or.inl rfl | exact Or.inr rfl) (pe_tup (pa_cons (pe_tup (pa_cons (pe_tup (pa_cons pe_int (pa_cons pe_int pa_nil))) (pa_cons (pe_ix ix_seq (pv 1) pe_int (fun _ _ => rfl)) pa_nil))) (pa_cons (pe_tup (pa_cons (pe_ix ix_seq (pv 1) pe_int (fun _ _ => rfl)) (pa_cons (pe_tup (pa_cons pe_int (pa_cons pe_int pa_nil))) pa_nil))) pa_nil))))
    (pss_cons (ps_expr (pe_bm PySem.F.plainAttrs_list PySem.F.slot_list_append PySem.F.type_list_append mt_append (pv 2) (pa_cons (pe_tup (pa_cons pe_str (pa_cons (pe_op op_sub pe_int (pv 0)) (pa_cons (pv 3) pa_nil)))) pa_nil)))
    (pss_cons (ps_if (pt_cmpR (or_eq hr.units) (pe_callB call_len (by rfl) T.z_len (by decide +kernel) (pa_cons (pv 1) pa_nil)) pe_int (nomark _)) (pss_one (ps_ret (pe_tup (pa_cons (pv 2) (pa_cons pe_non pa_nil))))) pss_nil)
    (pss_cons (ps_set (i := 4) sc_law_onecuts.nd rfl (by first | exact Or.inl rfl | exact Or.inr rfl) (pe_lst (pa_cons (pe_ix ix_seq (pv 3) (pe_ix ix_seq (pv 1) pe_int (fun _ _ => rfl)) (fun _ _ => rfl)) (pa_cons (pe_ix ix_seq (pv 3) (pe_ix ix_seq (pv 1) pe_int (fun _ _ => rfl)) (fun _ _ => rfl)) pa_nil))))
    (pss_cons (ps_asg (pe_ix ix_seq (pv 3) (pe_op op_sub pe_int (pe_ix ix_seq (pv 1) pe_int (fun _ _ => rfl))) (fun _ _ => rfl)) (pg_sub (pv 4) (pv 0) set_list))
    (pss_one (ps_ret (pe_tup (pa_cons (pv 2) (pa_cons (pv 4) pa_nil)))))))))))),
    (s_seq (s_set (v_lst (a_cons (v_tup (a_cons v_str (a_cons v_var (a_cons (v_tup (a_cons v_int (a_cons v_int a_nil))) (a_cons (v_tup (a_cons v_int (a_cons v_int a_nil))) (a_cons (v_tup (a_cons v_int (a_cons v_int a_nil))) (a_cons (v_tup (a_cons v_int (a_cons v_int a_nil))) a_nil))))))) a_nil)))
    (s_seq (s_if (t_test (v_op d_eq (v_cb c_len (a_cons v_var a_nil)) v_int)) (s_frz (s_ret (v_tup (a_cons v_var (a_cons v_non a_nil))))) s_skip)
    (s_seq (s_setF (v_tup (a_cons (v_tup (a_cons (v_tup (a_cons v_int (a_cons v_int a_nil))) (a_cons (v_op d_ix v_var v_int) a_nil))) (a_cons (v_tup (a_cons (v_op d_ix v_var v_int) (a_cons (v_tup (a_cons v_int (a_cons v_int a_nil))) a_nil))) a_nil))))
    (s_seq (s_mt m_append (a_cons (v_tup (a_cons v_str (a_cons (v_op d_sub v_int v_var) (a_cons v_var a_nil)))) a_nil))
    (s_frz (s_seq (s_if (t_test (v_op d_eq (v_cb c_len (a_cons v_var a_nil)) v_int)) (s_frz (s_ret (v_tup (a_cons v_var (a_cons v_non a_nil))))) s_skip)
    (s_seq (s_set (v_lst (a_cons (v_op d_ix v_var (v_op d_ix v_var v_int)) (a_cons (v_op d_ix v_var (v_op d_ix v_var v_int)) a_nil))))
    (s_seq (s_setI (v_op d_ix v_var (v_op d_sub v_int (v_op d_ix v_var v_int))) v_var)
    (s_frz (s_frz (s_ret (v_tup (a_cons v_var (a_cons v_var a_nil))))))))))))))⟩
theorem ok_fraction_of (T : Txt K mg base A) : FnOk P w K mg base (L2.CX P w) 2 A.f_fraction_of A.d_fraction_of p_fraction_of (spF (GG K A) F_fraction_of) :=
  fn_okD (k := 1) rfl rfl T.F_fraction_of sc_fraction_of fun cdv Ar outer s H E hr => ⟨_,
    (pss_cons (ps_if (pt_cmpR (or_eq hr.units) (pv 1) pe_int (nomark _)) (pss_one (ps_raise rfl (takes_of rfl rfl rfl rfl) (pmk_own PySem.F.excBase_ValueError T.x_NoFraction T.g_NoFraction T.k_NoFraction (raises_own T.sb_NoFraction T.t_NoFraction) rfl))) pss_nil)
    (pss_cons (ps_set (i := 2) sc_fraction_of.nd rfl (by first | exact Or.inl rfl | exact Or.inr rfl) (pe_callS (ok_divisor T) hr rfl T.g_divisor T.F_divisor.kp T.b_divisor (fun σ => passAt (takes_of rfl rfl rfl rfl) σ) (by exact (pa_cons (pv 0) (pa_cons (pv 1) pa_nil)))))
    (pss_cons (ps_if (pt_cmpR op_lt (pv 1) pe_int (nomark _)) (pss_one (ps_set (i := 2) sc_fraction_of.nd rfl (by first | exact Or.inl rfl | exact Or.inr rfl) (pe_un un_neg (pv 2)))) pss_nil)
    (pss_one (ps_ret (pe_tup (pa_cons (pe_op or_div (pv 0) (pv 2)) (pa_cons (pe_op or_div (pv 1) (pv 2)) pa_nil)))))))),
    (s_seq (s_if (t_test (v_op d_eq v_var v_int)) (s_raise rfl) s_skip)
    (s_seq (s_setF (v_call (a_cons v_var (a_cons v_var a_nil))))
    (s_seq (s_if (t_test (v_op d_lt v_var v_int)) (s_setF (v_un d_neg v_var)) s_skip)
    (s_ret (v_tup (a_cons (v_op d_div v_var v_var) (a_cons (v_op d_div v_var v_var) a_nil)))))))⟩
theorem ok_ask_span (T : Txt K mg base A) : FnOk P w K mg base (L2.CX P w) 2 A.f_ask_span A.d_ask_span p_ask_span (spF (GG K A) F_ask_span) :=
  fn_ok (k := 1) rfl rfl T.F_ask_span sc_ask_span fun cdv Ar outer s H E hr => ⟨_,
    (pss_one (ps_if (PW.pt (pw_or (pt_val (pe_callS (ok_is_less T) hr rfl T.g_is_less T.F_is_less.kp T.b_is_less (fun σ => passAt (takes_of rfl rfl rfl rfl) σ) (by exact (pa_cons (pv 0) (pa_cons (pe_glob (v := .ref A.a_BEGIN) rfl T.m_BEGIN rfl) pa_nil))))) (pw_or (pt_val (pe_callS (ok_is_less T) hr rfl T.g_is_less T.F_is_less.kp T.b_is_less (fun σ => passAt (takes_of rfl rfl rfl rfl) σ) (by exact (pa_cons (pe_glob (v := .ref A.a_END) rfl T.m_END rfl) (pa_cons (pv 1) pa_nil))))) (pw_or1 (pt_val (pe_callS (ok_is_less T) hr rfl T.g_is_less T.F_is_less.kp T.b_is_less (fun σ => passAt (takes_of rfl rfl rfl rfl) σ) (by exact (pa_cons (pv 1) (pa_cons (pv 0) pa_nil))))))))) (pss_one (ps_raise rfl (takes_of rfl rfl rfl rfl) (pmk_own PySem.F.excBase_ValueError T.x_NoSpan T.g_NoSpan T.k_NoSpan (raises_own T.sb_NoSpan T.t_NoSpan) rfl))) pss_nil)),
    (s_if (t_or (t_val (v_call (a_cons v_var (a_cons (v_const T.i_BEGIN) a_nil)))) (t_or (t_val (v_call (a_cons (v_const T.i_END) (a_cons v_var a_nil)))) (t_val (v_call (a_cons v_var (a_cons v_var a_nil)))))) (s_raise rfl) s_skip)⟩
theorem ok_rising_places (T : Txt K mg base A) : FnOk P w K mg base (L2.CX P w) 2 A.f_rising_places A.d_rising_places p_rising_places (spF (GG K A) F_rising_places) :=
  fn_ok (k := 1) rfl rfl T.F_rising_places sc_rising_places fun cdv Ar outer s H E hr => ⟨_,
    (pss_cons (ps_set (i := 1) sc_rising_places.nd rfl (by first | exact Or.inl rfl | exact Or.inr rfl) (pe_lst pa_nil))
    (pss_cons (ps_for (passes_of rfl) rfl (pi_any (pv 0)) (pg_name (i := 2) sc_rising_places.nd rfl (by first | exact Or.inl rfl | exact Or.inr rfl)) (pss_one (ps_for (passes_of rfl) rfl (pi_any (pv 2)) (pg_name (i := 3) sc_rising_places.nd rfl (by first | exact Or.inl rfl | exact Or.inr rfl)) (pss_cons (ps_set (i := 4) sc_rising_places.nd rfl (by first | exact Or.inl rfl | exact Or.inr rfl) (pe_callB call_len (by rfl) T.z_len (by decide +kernel) (pa_cons (pv 1) pa_nil)))
    (pss_cons (ps_while (passes_of rfl) (PW.pt (pw_and (pt_cmpR op_gt (pv 4) pe_int (nomark _)) (pw_and1 (pt_val (pe_callS (ok_is_less T) hr rfl T.g_is_less T.F_is_less.kp T.b_is_less (fun σ => passAt (takes_of rfl rfl rfl rfl) σ) (by exact (pa_cons (pv 3) (pa_cons (pe_ix ix_seq (pv 1) (pe_op op_sub (pv 4) pe_int) (fun _ _ => rfl)) pa_nil)))))))) (pss_one (ps_set (i := 4) sc_rising_places.nd rfl (by first | exact Or.inl rfl | exact Or.inr rfl) (pe_op op_sub (pv 4) pe_int))))
    (pss_one (ps_if (PW.pt (pw_or (pt_cmpR (or_eq hr.units) (pv 4) pe_int (nomark _)) (pw_or1 (pt_cmpR (or_ne hr.units) (pe_ix ix_seq (pv 1) (pe_op op_sub (pv 4) pe_int) (fun _ _ => rfl)) (pv 3) (nomark _))))) (pss_one (ps_expr (pe_bm PySem.F.plainAttrs_list PySem.F.slot_list_insert PySem.F.type_list_insert mt_insert (pv 1) (pa_cons (pv 4) (pa_cons (pv 3) pa_nil))))) pss_nil)))))))
    (pss_one (ps_ret (pv 1))))),
    (s_seq (s_set (v_lst a_nil))
    (s_seq (s_for (i_any v_var) g_name (s_for (i_any v_var) g_name (s_seq (s_setF (v_cb c_len (a_cons v_var a_nil)))
    (s_seq (s_while (t_and (t_test (v_op d_gt v_var v_int)) (t_val (v_call (a_cons v_var (a_cons (v_op d_ix v_var (v_op d_sub v_var v_int)) a_nil))))) (s_setF (v_op d_sub v_var v_int)))
    (s_if (t_or (t_test (v_op d_eq v_var v_int)) (t_test (v_op d_ne (v_op d_ix v_var (v_op d_sub v_var v_int)) v_var))) (s_mt m_insert (a_cons v_var (a_cons v_var a_nil))) s_skip)))))
    s_retV))⟩
theorem ok_covers (T : Txt K mg base A) : FnOk P w K mg base (L2.CX P w) 2 A.f_covers A.d_covers p_covers (spF (GG K A) F_covers) :=
  fn_ok (k := 1) rfl rfl T.F_covers sc_covers fun cdv Ar outer s H E hr => ⟨_,
    (pss_cons (ps_for (passes_of rfl) rfl (pi_any (pv 0)) (pg_tl rfl (pgs_cons (pg_name (i := 3) sc_covers.nd rfl (by first | exact Or.inl rfl | exact Or.inr rfl)) (pgs_cons (pg_name (i := 4) sc_covers.nd rfl (by first | exact Or.inl rfl | exact Or.inr rfl)) pgs_nil))) (pss_one (ps_if (PW.pt (pw_and (pt_not (pt_val (pe_callS (ok_is_less T) hr rfl T.g_is_less T.F_is_less.kp T.b_is_less (fun σ => passAt (takes_of rfl rfl rfl rfl) σ) (by exact (pa_cons (pv 1) (pa_cons (pv 3) pa_nil)))))) (pw_and1 (pt_not (pt_val (pe_callS (ok_is_less T) hr rfl T.g_is_less T.F_is_less.kp T.b_is_less (fun σ => passAt (takes_of rfl rfl rfl rfl) σ) (by exact (pa_cons (pv 4) (pa_cons (pv 2) pa_nil))))))))) (pss_one (ps_ret pe_bl)) pss_nil)))
    (pss_one (ps_ret pe_bl))),
    (s_seq (s_for (i_any v_var) (g_tl (gs_cons g_name (gs_cons g_name gs_nil))) (s_if (t_and (t_not (t_val (v_call (a_cons v_var (a_cons v_var a_nil))))) (t_not (t_val (v_call (a_cons v_var (a_cons v_var a_nil)))))) (s_ret v_bl) s_skip))
    (s_ret v_bl))⟩
theorem ok_Way_told_all (T : Txt K mg base A) : FnOk P w K mg base (L2.CX P w) 2 A.f_Way_told_all A.d_Way_told_all p_Way_told_all (spF (GG K A) F_Way_told_all) :=
  fn_ok (k := 1) rfl rfl T.F_Way_told_all sc_Way_told_all fun cdv Ar outer s H E hr => ⟨_,
    (pss_one (ps_for (passes_of rfl) rfl (pi_any (pe_fld (pv 0) rfl)) (pg_tl rfl (pgs_cons (pg_name (i := 3) sc_Way_told_all.nd rfl (by first | exact Or.inl rfl | exact Or.inr rfl)) (pgs_cons (pg_name (i := 4) sc_Way_told_all.nd rfl (by first | exact Or.inl rfl | exact Or.inr rfl)) pgs_nil))) (pss_one ps_never))),
    (s_for (i_any (v_fld T.fo_ears v_var)) (g_tl (gs_cons g_name (gs_cons g_name gs_nil))) s_never)⟩
theorem ok_Way___eq__ (T : Txt K mg base A) : FnOk P w K mg base (L2.CX P w) 2 A.f_Way___eq__ A.d_Way___eq__ p_Way___eq__ (spF (GG K A) F_Way___eq__) :=
  fn_ok (k := 1) rfl rfl T.F_Way___eq__ sc_Way___eq__ fun cdv Ar outer s H E hr => ⟨_,
    (pss_one (ps_ret (pe_and (by exact (pe_mN (pv 0) T.cl_OneCuts T.mt_OneCuts_alike (ok_OneCuts_alike T) hr T.B_OneCuts_alike_2_ (fun σ => passAt (takes_of rfl rfl rfl rfl) σ) (by exact (pa_cons (pv 1) pa_nil)))) (pe_one (pe_cmpR (or_eq hr.units) (pe_fld (pv 0) rfl) (pe_fld (pv 1) rfl) (nomark _)))))),
    (s_ret (v_and (v_meth (c := 11) (m := "alike") (dd := []) nf_OneCuts_alike rfl v_var (a_cons v_var a_nil) a_nil) (v_op d_eqX (v_fld T.fo_said v_var) (v_fld T.fo_said v_var))))⟩
theorem ok_OneCuts___init__ (T : Txt K mg base A) : FnOk P w K mg base (L2.CX P w) 2 A.f_OneCuts___init__ A.d_OneCuts___init__ p_OneCuts___init__ (spF (GG K A) F_OneCuts___init__) :=
  fn_okD (k := 1) rfl rfl T.F_OneCuts___init__ sc_OneCuts___init__ fun cdv Ar outer s H E hr => ⟨_,
    (pss_cons (ps_if (pt_cmpR op_notIn_seq (pv 1) (pe_tup (pa_cons pe_int (pa_cons pe_int pa_nil))) (by with_unfolding_all rfl)) (pss_one (ps_raise rfl (takes_of rfl rfl rfl rfl) (pmk_own PySem.F.excBase_ValueError T.x_NoHands T.g_NoHands T.k_NoHands (raises_own T.sb_NoHands T.t_NoHands) rfl))) pss_nil)
    (pss_one (ps_expr (by exact (pe_cfn T.cr_Way T.cv_Way___init__ (ok_Way___init__ T) hr rfl T.g_Way T.F_Way___init__.kp T.B_Way___init___2_ (fun σ => passAt (takes_of rfl rfl rfl rfl) σ) (by exact (pa_cons (pv 0) (pa_cons (pv 1) pa_nil)))))))),
    (s_seq (s_if (t_test (v_op d_notInF v_var (v_tup (a_cons v_int (a_cons v_int a_nil))))) (s_raise rfl) s_skip)
    (s_drop (v_callG (dd := []) rfl (a_cons v_var (a_cons v_var a_nil)) a_nil)))⟩
theorem ok_OneCuts_parted (T : Txt K mg base A) : FnOk P w K mg base (L2.CX P w) 2 A.f_OneCuts_parted A.d_OneCuts_parted p_OneCuts_parted (spF (GG K A) F_OneCuts_parted) :=
  fn_ok (k := 1) rfl rfl T.F_OneCuts_parted sc_OneCuts_parted fun cdv Ar outer s H E hr => ⟨_,
    (pss_cons (ps_set (i := 2) sc_OneCuts_parted.nd rfl (by first | exact Or.inl rfl | exact Or.inr rfl) (pe_fld (pv 0) rfl))
    (pss_cons (ps_set (i := 3) sc_OneCuts_parted.nd rfl (by first | exact Or.inl rfl | exact Or.inr rfl) (pe_op op_sub pe_int (pv 2)))
    (pss_cons (ps_set (i := 4) sc_OneCuts_parted.nd rfl (by first | exact Or.inl rfl | exact Or.inr rfl) (by exact (pe_mN (pv 1) T.cl_Talk T.mt_Talk_hear (ok_Talk_hear T) hr T.B_Talk_hear_2_ (fun σ => passAt (takes_of rfl rfl rfl rfl) σ) (by exact (pa_cons (pe_tup (pa_cons pe_str (pa_cons (pv 2) (pa_cons (pe_glob (v := .ref A.a_NONE) rfl T.m_NONE rfl) (pa_cons (pe_glob (v := .ref A.a_ALL) rfl T.m_ALL rfl) (pa_cons (pe_glob (v := .ref A.a_ALL) rfl T.m_ALL rfl) (pa_cons (pe_tup (pa_cons pe_int (pa_cons pe_int pa_nil))) pa_nil))))))) pa_nil)))))
    (pss_cons (ps_set (i := 5) sc_OneCuts_parted.nd rfl (by first | exact Or.inl rfl | exact Or.inr rfl) (pe_tup (pa_cons (pe_tup (pa_cons (pe_glob (v := .ref A.a_NONE) rfl T.m_NONE rfl) (pa_cons (pv 4) pa_nil))) (pa_cons (pe_tup (pa_cons (pv 4) (pa_cons (pe_glob (v := .ref A.a_ALL) rfl T.m_ALL rfl) pa_nil))) pa_nil))))
    (pss_cons (ps_set (i := 6) sc_OneCuts_parted.nd rfl (by first | exact Or.inl rfl | exact Or.inr rfl) (by exact (pe_mN (pv 1) T.cl_Talk T.mt_Talk_hear (ok_Talk_hear T) hr T.B_Talk_hear_2_ (fun σ => passAt (takes_of rfl rfl rfl rfl) σ) (by exact (pa_cons (pe_tup (pa_cons pe_str (pa_cons (pv 3) (pa_cons (pv 5) pa_nil)))) pa_nil)))))
    (pss_cons (ps_set (i := 7) sc_OneCuts_parted.nd rfl (by first | exact Or.inl rfl | exact Or.inr rfl) (pe_lst (pa_cons (pe_lst pa_nil) (pa_cons (pe_lst pa_nil) pa_nil))))
    (pss_cons (ps_asg (pe_lst (pa_cons (pe_ix ix_seq (pv 5) (pv 6) (fun _ _ => rfl)) pa_nil)) (pg_sub (pv 7) (pv 3) set_list))
    (pss_cons (ps_asg (pe_lst (pa_cons (pe_ix ix_seq (pv 5) (pe_op op_sub pe_int (pv 6)) (fun _ _ => rfl)) pa_nil)) (pg_sub (pv 7) (pv 2) set_list))
    (pss_one (ps_ret (pv 7))))))))))),
    (s_seq (s_setF (v_fld T.fo_made v_var))
    (s_seq (s_setF (v_op d_sub v_int v_var))
    (s_seq (s_setF (v_meth (c := 9) (m := "hear") (dd := []) nf_Talk_hear rfl v_var (a_cons (v_tup (a_cons v_str (a_cons v_var (a_cons (v_const T.i_NONE) (a_cons (v_const T.i_ALL) (a_cons (v_const T.i_ALL) (a_cons (v_tup (a_cons v_int (a_cons v_int a_nil))) a_nil))))))) a_nil) a_nil))
    (s_seq (s_setF (v_tup (a_cons (v_tup (a_cons (v_const T.i_NONE) (a_cons v_var a_nil))) (a_cons (v_tup (a_cons v_var (a_cons (v_const T.i_ALL) a_nil))) a_nil))))
    (s_seq (s_setF (v_meth (c := 9) (m := "hear") (dd := []) nf_Talk_hear rfl v_var (a_cons (v_tup (a_cons v_str (a_cons v_var (a_cons v_var a_nil)))) a_nil) a_nil))
    (s_seq (s_set (v_lst (a_cons (v_lst a_nil) (a_cons (v_lst a_nil) a_nil))))
    (s_seq (s_setI (v_lst (a_cons (v_op d_ix v_var v_var) a_nil)) v_var)
    (s_seq (s_setI (v_lst (a_cons (v_op d_ix v_var (v_op d_sub v_int v_var)) a_nil)) v_var)
    s_retV))))))))⟩
theorem ok_law_take (T : Txt K mg base A) : FnOk P w K mg base (L2.CX P w) 2 A.f_law_take A.d_law_take p_law_take (spF (GG K A) F_law_take) :=
  fn_ok (k := 1) rfl rfl T.F_law_take sc_law_take fun cdv Ar outer s H E hr => ⟨_,
    (pss_cons (ps_asg (pe_op or_add (pe_ix ix_seq (pv 0) pe_int (fun _ _ => rfl)) pe_int) (pg_sub (pv 0) pe_int set_list))
    (pss_cons (ps_if (PW.pt (pw_and (pt_cmpR (or_eq hr.units) (pe_ix ix_seq (pv 0) pe_int (fun _ _ => rfl)) pe_int (nomark _)) (pw_and1 (pt_cmpR op_gt (pe_callB call_len (by rfl) T.z_len (by decide +kernel) (pa_cons (pe_ix ix_seq (pv 0) pe_int (fun _ _ => rfl)) pa_nil)) pe_int (nomark _))))) (pss_one (ps_asg (pe_bm PySem.F.plainAttrs_list PySem.F.slot_list_pop PySem.F.type_list_pop mt_popAt (pe_ix ix_seq (pv 0) pe_int (fun _ _ => rfl)) (pa_cons pe_int pa_nil)) (pg_sub (pv 0) pe_int set_list))) pss_nil)
    (pss_cons (ps_if (pt_cmpR op_gt (pe_ix ix_seq (pv 0) pe_int (fun _ _ => rfl)) pe_int (nomark _)) (pss_cons (ps_set (i := 3) sc_law_take.nd rfl (by first | exact Or.inl rfl | exact Or.inr rfl) (pe_op op_modN (pe_ix ix_seq (pv 0) pe_int (fun _ _ => rfl)) (pv 1)))
    (pss_cons (ps_asg (pe_op or_div (pe_ix ix_seq (pv 0) pe_int (fun _ _ => rfl)) (pv 1)) (pg_sub (pv 0) pe_int set_list))
    (pss_one (ps_ret (pv 3))))) pss_nil)
    (pss_cons (ps_set (i := 2) sc_law_take.nd rfl (by first | exact Or.inl rfl | exact Or.inr rfl) (pe_op or_mul pe_int (pe_ix ix_seq (pv 0) pe_int (fun _ _ => rfl))))
    (pss_cons (ps_if (pt_cmpR op_gt (pe_callB call_len (by rfl) T.z_len (by decide +kernel) (pa_cons (pe_ix ix_seq (pv 0) pe_int (fun _ _ => rfl)) pa_nil)) pe_int (nomark _)) (pss_one (ps_set (i := 2) sc_law_take.nd rfl (by first | exact Or.inl rfl | exact Or.inr rfl) (pe_ix ix_seq (pe_ix ix_seq (pv 0) pe_int (fun _ _ => rfl)) (pe_op op_modN (pe_ix ix_seq (pv 0) pe_int (fun _ _ => rfl)) (pe_callB call_len (by rfl) T.z_len (by decide +kernel) (pa_cons (pe_ix ix_seq (pv 0) pe_int (fun _ _ => rfl)) pa_nil))) (fun _ _ => rfl)))) pss_nil)
    (pss_cons (ps_set (i := 3) sc_law_take.nd rfl (by first | exact Or.inl rfl | exact Or.inr rfl) pe_int)
    (pss_cons (ps_set (i := 4) sc_law_take.nd rfl (by first | exact Or.inl rfl | exact Or.inr rfl) pe_int)
    (pss_cons (ps_while (passes_of rfl) (pt_cmpR op_lt (pv 4) (pv 1) (nomark _)) (pss_cons (ps_set (i := 3) sc_law_take.nd rfl (by first | exact Or.inl rfl | exact Or.inr rfl) (pe_op or_add (pe_op or_mul (pv 3) pe_int) (pe_callS (ok_law_mixed T) hr rfl T.g_law_mixed T.F_law_mixed.kp T.b_law_mixed (fun σ => passAt (takes_of rfl rfl rfl rfl) σ) (by exact (pa_cons (pv 2) (pa_cons (pe_op or_add (pe_ix ix_seq (pv 0) pe_int (fun _ _ => rfl)) (pe_op or_mul pe_int (pe_op op_modN (pv 3) pe_int))) pa_nil))))))
    (pss_one (ps_set (i := 4) sc_law_take.nd rfl (by first | exact Or.inl rfl | exact Or.inr rfl) (pe_op or_mul (pv 4) pe_int)))))
    (pss_one (ps_ret (pe_op op_modN (pv 3) (pv 1)))))))))))),
    (s_seq (s_setI (v_op d_add (v_op d_ix v_var v_int) v_int) v_int)
    (s_seq (s_if (t_and (t_test (v_op d_eq (v_op d_ix v_var v_int) v_int)) (t_test (v_op d_gt (v_cb c_len (a_cons (v_op d_ix v_var v_int) a_nil)) v_int))) (s_setI (v_mtX m_popAt (v_op d_ix v_var v_int) (a_cons v_int a_nil)) v_int) s_skip)
    (s_seq (s_if (t_test (v_op d_gt (v_op d_ix v_var v_int) v_int)) (s_seq (s_setF (v_op d_mod (v_op d_ix v_var v_int) v_var))
    (s_seq (s_setI (v_op d_div (v_op d_ix v_var v_int) v_var) v_int)
    s_retV)) s_skip)
    (s_seq (s_setF (v_op d_mul v_int (v_op d_ix v_var v_int)))
    (s_seq (s_if (t_test (v_op d_gt (v_cb c_len (a_cons (v_op d_ix v_var v_int) a_nil)) v_int)) (s_setF (v_op d_ix (v_op d_ix v_var v_int) (v_op d_mod (v_op d_ix v_var v_int) (v_cb c_len (a_cons (v_op d_ix v_var v_int) a_nil))))) s_skip)
    (s_seq (s_setF v_int)
    (s_seq (s_setF v_int)
    (s_seq (s_while (t_test (v_op d_lt v_var v_var)) (s_seq (s_setF (v_op d_add (v_op d_mul v_var v_int) (v_call (a_cons v_var (a_cons (v_op d_add (v_op d_ix v_var v_int) (v_op d_mul v_int (v_op d_mod v_var v_int))) a_nil)))))
    (s_setF (v_op d_mul v_var v_int))))
    (s_ret (v_op d_mod v_var v_var))))))))))⟩
theorem ok_law_plus (T : Txt K mg base A) : FnOk P w K mg base (L2.CX P w) 2 A.f_law_plus A.d_law_plus p_law_plus (spF (GG K A) F_law_plus) :=
  fn_ok (k := 1) rfl rfl T.F_law_plus sc_law_plus fun cdv Ar outer s H E hr => ⟨_,
    (pss_one (ps_ret (pe_callS (ok_law_low T) hr rfl T.g_law_low T.F_law_low.kp T.b_law_low (fun σ => passAt (takes_of rfl rfl rfl rfl) σ) (by exact (pa_cons (pe_op or_add (pe_op or_mul (pe_ix ix_seq (pv 0) pe_int (fun _ _ => rfl)) (pe_ix ix_seq (pv 1) pe_int (fun _ _ => rfl))) (pe_op or_mul (pe_ix ix_seq (pv 1) pe_int (fun _ _ => rfl)) (pe_ix ix_seq (pv 0) pe_int (fun _ _ => rfl)))) (pa_cons (pe_op or_mul (pe_ix ix_seq (pv 0) pe_int (fun _ _ => rfl)) (pe_ix ix_seq (pv 1) pe_int (fun _ _ => rfl))) pa_nil)))))),
    (s_ret (v_call (a_cons (v_op d_add (v_op d_mul (v_op d_ix v_var v_int) (v_op d_ix v_var v_int)) (v_op d_mul (v_op d_ix v_var v_int) (v_op d_ix v_var v_int))) (a_cons (v_op d_mul (v_op d_ix v_var v_int) (v_op d_ix v_var v_int)) a_nil))))⟩
theorem ok_is_fraction (T : Txt K mg base A) : FnOk P w K mg base (L2.CX P w) 3 A.f_is_fraction A.d_is_fraction p_is_fraction (spF (GG K A) F_is_fraction) :=
  fn_ok (k := 2) rfl rfl T.F_is_fraction sc_is_fraction fun cdv Ar outer s H E hr => ⟨_,
    (pss_cons (ps_if (PW.pt (pw_or (pt_not (pt_val (pe_callB call_isi (by rfl) T.z_isinstance (by decide +kernel) (pa_cons (pv 0) (pa_cons (pe_bltn (v := .ty "tuple") (by rfl) T.z_tuple (by decide +kernel) rfl) pa_nil))))) (pw_or1 (pt_cmpR (or_ne hr.units) (pe_callB call_len (by rfl) T.z_len (by decide +kernel) (pa_cons (pv 0) pa_nil)) pe_int (nomark _))))) (pss_one (ps_ret pe_bl)) pss_nil)
    (pss_cons (ps_if (PW.pt (pw_or (pt_not (pt_val (pe_callS (ok_is_whole T) (hr.mono (by decide)) rfl T.g_is_whole T.F_is_whole.kp T.b_is_whole (fun σ => passAt (takes_of rfl rfl rfl rfl) σ) (by exact (pa_cons (pe_ix ix_seq (pv 0) pe_int (fun _ _ => rfl)) pa_nil))))) (pw_or (pt_not (pt_val (pe_callS (ok_is_whole T) (hr.mono (by decide)) rfl T.g_is_whole T.F_is_whole.kp T.b_is_whole (fun σ => passAt (takes_of rfl rfl rfl rfl) σ) (by exact (pa_cons (pe_ix ix_seq (pv 0) pe_int (fun _ _ => rfl)) pa_nil))))) (pw_or1 (pt_cmpR op_lt (pe_ix ix_seq (pv 0) pe_int (fun _ _ => rfl)) pe_int (nomark _)))))) (pss_one (ps_ret pe_bl)) pss_nil)
    (pss_one (ps_ret (pe_cmpR (or_eq hr.units) (by exact (pe_gN (ok_fraction_of T) hr rfl T.g_fraction_of T.F_fraction_of.kp T.B_fraction_of_2_ (fun σ => passAt (takes_of rfl rfl rfl rfl) σ) (by exact (pa_cons (pe_ix ix_seq (pv 0) pe_int (fun _ _ => rfl)) (pa_cons (pe_ix ix_seq (pv 0) pe_int (fun _ _ => rfl)) pa_nil))))) (pv 0) (nomark _)))))),
    (s_seq (s_if (t_or (t_not (t_val (v_isi v_var))) (t_test (v_op d_ne (v_cb c_len (a_cons v_var a_nil)) v_int))) (s_ret v_bl) s_skip)
    (s_seq (s_if (t_or (t_not (t_val (v_call (a_cons (v_op d_ix v_var v_int) a_nil)))) (t_or (t_not (t_val (v_call (a_cons (v_op d_ix v_var v_int) a_nil)))) (t_test (v_op d_lt (v_op d_ix v_var v_int) v_int)))) (s_ret v_bl) s_skip)
    (s_ret (v_op d_eq (v_callG (dd := [(.int 1)]) rfl (a_cons (v_op d_ix v_var v_int) (a_cons (v_op d_ix v_var v_int) a_nil)) a_nil) v_var))))⟩
theorem ok_law_reply (T : Txt K mg base A) : FnOk P w K mg base (L2.CX P w) 3 A.f_law_reply A.d_law_reply p_law_reply (spF (GG K A) F_law_reply) :=
  fn_ok (k := 2) rfl rfl T.F_law_reply sc_law_reply fun cdv Ar outer s H E hr => ⟨_,
    (pss_cons (ps_if (pt_cmpR (or_eq hr.units) (pe_ix ix_seq (pv 1) pe_int (fun _ _ => rfl)) pe_str (nomark _)) (pss_one (ps_ret (pe_callS (ok_law_take T) hr rfl T.g_law_take T.F_law_take.kp T.b_law_take (fun σ => passAt (takes_of rfl rfl rfl rfl) σ) (by exact (pa_cons (pv 0) (pa_cons pe_int pa_nil)))))) pss_nil)
    (pss_cons (ps_if (pt_cmpR (or_eq hr.units) (pe_ix ix_seq (pv 1) pe_int (fun _ _ => rfl)) pe_str (nomark _)) (pss_one (ps_ret (pe_callS (ok_law_take T) hr rfl T.g_law_take T.F_law_take.kp T.b_law_take (fun σ => passAt (takes_of rfl rfl rfl rfl) σ) (by exact (pa_cons (pv 0) (pa_cons (pe_callB call_len (by rfl) T.z_len (by decide +kernel) (pa_cons (pe_ix ix_seq (pv 1) pe_int (fun _ _ => rfl)) pa_nil)) pa_nil)))))) pss_nil)
    (pss_cons (ps_asg (pe_slice sl_any (pv 1) (po_some pe_int) (po_some pe_int)) (pg_tl rfl (pgs_cons (pg_name (i := 9) sc_law_reply.nd rfl (by first | exact Or.inl rfl | exact Or.inr rfl)) (pgs_cons (pg_name (i := 10) sc_law_reply.nd rfl (by first | exact Or.inl rfl | exact Or.inr rfl)) pgs_nil))))
    (pss_cons (ps_set (i := 3) sc_law_reply.nd rfl (by first | exact Or.inl rfl | exact Or.inr rfl) (pe_callS (ok_law_take T) hr rfl T.g_law_take T.F_law_take.kp T.b_law_take (fun σ => passAt (takes_of rfl rfl rfl rfl) σ) (by exact (pa_cons (pv 0) (pa_cons pe_int pa_nil)))))
    (pss_cons (ps_setLc (i := 4) (own := [("_law_place", 11)]) rfl sc_law_reply.nd rfl rfl (sw_true rfl rfl rfl (by decide +kernel)) (pi_any (pv 2)) (blkOk_by (N := n_law_reply) (sc := defScope (s_law_reply)) (by decide +kernel)) (fun _ _ _ _ _ => (pg_name (i := 11) sc_law_reply.nd rfl (by first | exact Or.inl rfl | exact Or.inr rfl))) (fun _ _ _ _ _ => (pts_one (pt_val (pe_callB call_isi (by rfl) T.z_isinstance (by decide +kernel) (pa_cons (pv 11) (pa_cons (pe_bltn (v := .ty "tuple") (by rfl) T.z_tuple (by decide +kernel) rfl) pa_nil)))))) (fun _ _ _ _ _ => (pv 11)))
    (pss_cons (ps_setLc (i := 4) (own := [("_law_place", 11)]) rfl sc_law_reply.nd rfl rfl (sw_true rfl rfl rfl (by decide +kernel)) (pi_any (pv 4)) (blkOk_by (N := n_law_reply) (sc := defScope (s_law_reply)) (by decide +kernel)) (fun _ _ _ _ _ => (pg_name (i := 11) sc_law_reply.nd rfl (by first | exact Or.inl rfl | exact Or.inr rfl))) (fun _ _ _ _ _ => (pts_one (PW.pt (pw_and (pt_not (pt_val (pe_callS (ok_law_less T) (hr.mono (by decide)) rfl T.g_law_less T.F_law_less.kp T.b_law_less (fun σ => passAt takes0 σ) (by exact (pa_cons (pv 11) (pa_cons (pv 9) pa_nil)))))) (pw_and1 (pt_not (pt_val (pe_callS (ok_law_less T) (hr.mono (by decide)) rfl T.g_law_less T.F_law_less.kp T.b_law_less (fun σ => passAt takes0 σ) (by exact (pa_cons (pv 10) (pa_cons (pv 11) pa_nil))))))))))) (fun _ _ _ _ _ => (pv 11)))
    (pss_cons (ps_set (i := 5) sc_law_reply.nd rfl (by first | exact Or.inl rfl | exact Or.inr rfl) (pe_op or_add pe_int (pe_callS (ok_law_take T) hr rfl T.g_law_take T.F_law_take.kp T.b_law_take (fun σ => passAt (takes_of rfl rfl rfl rfl) σ) (by exact (pa_cons (pv 0) (pa_cons (pe_ix ix_seq (pe_lst (pa_cons pe_int (pa_cons pe_int (pa_cons pe_int (pa_cons pe_int pa_nil))))) (pe_callS (ok_law_take T) hr rfl T.g_law_take T.F_law_take.kp T.b_law_take (fun σ => passAt (takes_of rfl rfl rfl rfl) σ) (by exact (pa_cons (pv 0) (pa_cons pe_int pa_nil)))) (fun _ _ => rfl)) pa_nil))))))
    (pss_cons (ps_set (i := 6) sc_law_reply.nd rfl (by first | exact Or.inl rfl | exact Or.inr rfl) (pe_callS (ok_law_low T) (hr.mono (by decide)) rfl T.g_law_low T.F_law_low.kp T.b_law_low (fun σ => passAt (takes_of rfl rfl rfl rfl) σ) (by exact (pa_cons (pe_callS (ok_law_take T) hr rfl T.g_law_take T.F_law_take.kp T.b_law_take (fun σ => passAt (takes_of rfl rfl rfl rfl) σ) (by exact (pa_cons (pv 0) (pa_cons (pe_op or_add (pv 5) pe_int) pa_nil)))) (pa_cons (pv 5) pa_nil)))))
    (pss_cons (ps_if (pt_cmpR op_lt (pv 3) pe_int (nomark _)) (pss_one (ps_ret (pe_ix ix_seq (pe_lst (pa_cons (pv 9) (pa_cons (pv 10) pa_nil))) (pv 3) (fun _ _ => rfl)))) pss_nil)
    (pss_cons (ps_if (PW.pt (pw_and (pt_cmpR (opOr (or_eq hr.units) (op_eqO (G := GG K A) (k := 2) (Os := [(7, F_Share___eq__), (11, F_Way___eq__)]) rfl (List.forall_mem_cons.mpr ⟨⟨⟨_, _, _, T.mt_Share___eq__, (ok_Share___eq__ T).mono (by decide), T.b_Share___eq__, rfl⟩⟩, (List.forall_mem_cons.mpr ⟨⟨⟨_, _, _, T.mt_OneCuts___eq__, (ok_Way___eq__ T).mono (by decide), T.b_Way___eq__, rfl⟩⟩, (fun _ h => nomatch h)⟩)⟩) hr)) (pv 3) pe_int (nomark _)) (pw_and1 (pt_cmpR op_gt (pe_callB call_len (by rfl) T.z_len (by decide +kernel) (pa_cons (pv 4) pa_nil)) pe_int (nomark _))))) (pss_one (ps_ret (pe_ix ix_seq (pv 4) (pe_callS (ok_law_take T) hr rfl T.g_law_take T.F_law_take.kp T.b_law_take (fun σ => passAt (takes_of rfl rfl rfl rfl) σ) (by exact (pa_cons (pv 0) (pa_cons (pe_callB call_len (by rfl) T.z_len (by decide +kernel) (pa_cons (pv 4) pa_nil)) pa_nil)))) (fun _ _ => rfl)))) pss_nil)
    (pss_cons (ps_set (i := 7) sc_law_reply.nd rfl (by first | exact Or.inl rfl | exact Or.inr rfl) (pe_callS (ok_law_plus T) hr rfl T.g_law_plus T.F_law_plus.kp T.b_law_plus (fun σ => passAt (takes_of rfl rfl rfl rfl) σ) (by exact (pa_cons (pv 10) (pa_cons (pe_tup (pa_cons (pe_un un_neg (pe_ix ix_seq (pv 9) pe_int (fun _ _ => rfl))) (pa_cons (pe_ix ix_seq (pv 9) pe_int (fun _ _ => rfl)) pa_nil))) pa_nil)))))
    (pss_cons (ps_set (i := 8) sc_law_reply.nd rfl (by first | exact Or.inl rfl | exact Or.inr rfl) (pe_callS (ok_law_plus T) hr rfl T.g_law_plus T.F_law_plus.kp T.b_law_plus (fun σ => passAt (takes_of rfl rfl rfl rfl) σ) (by exact (pa_cons (pv 9) (pa_cons (pe_callS (ok_law_low T) (hr.mono (by decide)) rfl T.g_law_low T.F_law_low.kp T.b_law_low (fun σ => passAt (takes_of rfl rfl rfl rfl) σ) (by exact (pa_cons (pe_op or_mul (pe_ix ix_seq (pv 7) pe_int (fun _ _ => rfl)) (pe_ix ix_seq (pv 6) pe_int (fun _ _ => rfl))) (pa_cons (pe_op or_mul (pe_ix ix_seq (pv 7) pe_int (fun _ _ => rfl)) (pe_ix ix_seq (pv 6) pe_int (fun _ _ => rfl))) pa_nil)))) pa_nil)))))
    (pss_one (ps_ret (pe_ifExp (pt_cmpR op_lt (pe_ix ix_seq (pv 8) pe_int (fun _ _ => rfl)) (pe_op op_pow pe_int pe_int) (nomark _)) (pv 8) (pv 9)))))))))))))))),
    (s_seq (s_if (t_test (v_op d_eq (v_op d_ix v_var v_int) v_str)) (s_ret (v_call (a_cons v_var (a_cons v_int a_nil)))) s_skip)
    (s_seq (s_if (t_test (v_op d_eq (v_op d_ix v_var v_int) v_str)) (s_ret (v_call (a_cons v_var (a_cons (v_cb c_len (a_cons (v_op d_ix v_var v_int) a_nil)) a_nil)))) s_skip)
    (s_seq (s_asg (v_sl d_sl v_var (o_some v_int) (o_some v_int)) (g_tl (gs_cons g_name (gs_cons g_name gs_nil))))
    (s_seq (s_setF (v_call (a_cons v_var (a_cons v_int a_nil))))
    (s_seq (s_setF (v_lcX (vs := [11]) v_var g_name (by decide) (t_val (v_isi v_var)) v_var))
    (s_seq (s_setF (v_lc (vs := [11]) (js := [11]) (i_any v_var) g_name (by decide) (t_and (t_not (t_val (v_call (a_cons v_var (a_cons v_var a_nil))))) (t_not (t_val (v_call (a_cons v_var (a_cons v_var a_nil)))))) v_var))
    (s_seq (s_setF (v_op d_add v_int (v_call (a_cons v_var (a_cons (v_op d_ix (v_lst (a_cons v_int (a_cons v_int (a_cons v_int (a_cons v_int a_nil))))) (v_call (a_cons v_var (a_cons v_int a_nil)))) a_nil)))))
    (s_seq (s_setF (v_call (a_cons (v_call (a_cons v_var (a_cons (v_op d_add v_var v_int) a_nil))) (a_cons v_var a_nil))))
    (s_seq (s_if (t_test (v_op d_lt v_var v_int)) (s_ret (v_op d_ix (v_lst (a_cons v_var (a_cons v_var a_nil))) v_var)) s_skip)
    (s_seq (s_if (t_and (t_test (v_eqO d_eq T.eqok v_var v_int)) (t_test (v_op d_gt (v_cb c_len (a_cons v_var a_nil)) v_int))) (s_ret (v_op d_ix v_var (v_call (a_cons v_var (a_cons (v_cb c_len (a_cons v_var a_nil)) a_nil))))) s_skip)
    (s_seq (s_setF (v_call (a_cons v_var (a_cons (v_tup (a_cons (v_un d_neg (v_op d_ix v_var v_int)) (a_cons (v_op d_ix v_var v_int) a_nil))) a_nil))))
    (s_seq (s_setF (v_call (a_cons v_var (a_cons (v_call (a_cons (v_op d_mul (v_op d_ix v_var v_int) (v_op d_ix v_var v_int)) (a_cons (v_op d_mul (v_op d_ix v_var v_int) (v_op d_ix v_var v_int)) a_nil))) a_nil))))
    (s_ret (v_if (t_test (v_op d_lt (v_op d_ix v_var v_int) (v_op d_pow v_int v_int))) v_var v_var))))))))))))))⟩
theorem ok_is_legal (T : Txt K mg base A) : FnOk P w K mg base (L2.CX P w) 4 A.f_is_legal A.d_is_legal p_is_legal (spF (GG K A) F_is_legal) :=
  fn_ok (k := 3) rfl rfl T.F_is_legal sc_is_legal fun cdv Ar outer s H E hr => ⟨_,
    (pss_cons (ps_if (pt_cmpR op_in_seq (pe_ix ix_seq (pv 0) pe_int (fun _ _ => rfl)) (pe_tup (pa_cons pe_str (pa_cons pe_str pa_nil))) (by with_unfolding_all rfl)) (pss_one (ps_ret (pe_and (pe_callS (ok_is_fraction T) hr rfl T.g_is_fraction T.F_is_fraction.kp T.b_is_fraction (fun σ => passAt (takes_of rfl rfl rfl rfl) σ) (by exact (pa_cons (pv 1) pa_nil))) (pe_and (pe_not (pe_callS (ok_is_less T) (hr.mono (by decide)) rfl T.g_is_less T.F_is_less.kp T.b_is_less (fun σ => passAt (takes_of rfl rfl rfl rfl) σ) (by exact (pa_cons (pv 1) (pa_cons (pe_ix ix_seq (pv 0) pe_int (fun _ _ => rfl)) pa_nil))))) (pe_one (pe_not (pe_callS (ok_is_less T) (hr.mono (by decide)) rfl T.g_is_less T.F_is_less.kp T.b_is_less (fun σ => passAt (takes_of rfl rfl rfl rfl) σ) (by exact (pa_cons (pe_ix ix_seq (pv 0) pe_int (fun _ _ => rfl)) (pa_cons (pv 1) pa_nil)))))))))) pss_nil)
    (pss_cons (ps_set (i := 2) sc_is_legal.nd rfl (by first | exact Or.inl rfl | exact Or.inr rfl) (pe_op op_sub (pe_callB call_len (by rfl) T.z_len (by decide +kernel) (pa_cons (pe_ix ix_seq (pv 0) pe_int (fun _ _ => rfl)) pa_nil)) pe_int))
    (pss_cons (ps_if (pt_cmpR (or_eq hr.units) (pe_ix ix_seq (pv 0) pe_int (fun _ _ => rfl)) pe_str (nomark _)) (pss_one (ps_set (i := 2) sc_is_legal.nd rfl (by first | exact Or.inl rfl | exact Or.inr rfl) pe_int)) pss_nil)
    (pss_one (ps_ret (pe_and (pe_callS (ok_is_whole T) (hr.mono (by decide)) rfl T.g_is_whole T.F_is_whole.kp T.b_is_whole (fun σ => passAt (takes_of rfl rfl rfl rfl) σ) (by exact (pa_cons (pv 1) pa_nil))) (pe_one (pe_chain op_le op_le pe_int (pv 1) (pv 2))))))))),
    (s_seq (s_if (t_test (v_op d_inT (v_op d_ix v_var v_int) (v_tup (a_cons v_str (a_cons v_str a_nil))))) (s_ret (v_and (v_call (a_cons v_var a_nil)) (v_and (v_not (v_call (a_cons v_var (a_cons (v_op d_ix v_var v_int) a_nil)))) (v_not (v_call (a_cons (v_op d_ix v_var v_int) (a_cons v_var a_nil))))))) s_skip)
    (s_seq (s_setF (v_op d_sub (v_cb c_len (a_cons (v_op d_ix v_var v_int) a_nil)) v_int))
    (s_seq (s_if (t_test (v_op d_eq (v_op d_ix v_var v_int) v_str)) (s_setF v_int) s_skip)
    (s_ret (v_and (v_call (a_cons v_var a_nil)) (v_chain d_le d_le v_int v_var v_var))))))⟩
theorem ok_Share___init__ (T : Txt K mg base A) : FnOk P w K mg base (L2.CX P w) 5 A.f_Share___init__ A.d_Share___init__ p_Share___init__ (spF (GG K A) F_Share___init__) :=
  fn_okC (k := 4) rfl rfl T.F_Share___init__ sc_Share___init__ fun Ar outer s H E hr => ⟨_,
    (pss_cons (ps_for (passes_of rfl) rfl (pi_any (pv 1)) (pg_tl rfl (pgs_cons (pg_name (i := 2) sc_Share___init__.nd rfl (by first | exact Or.inl rfl | exact Or.inr rfl)) (pgs_cons (pg_name (i := 3) sc_Share___init__.nd rfl (by first | exact Or.inl rfl | exact Or.inr rfl)) pgs_nil))) (pss_one (ps_expr (pe_callS (ok_ask_span T) (hr.mono (by decide)) rfl T.g_ask_span T.F_ask_span.kp T.b_ask_span (fun σ => passAt (takes_of rfl rfl rfl rfl) σ) (by exact (pa_cons (pv 2) (pa_cons (pv 3) pa_nil)))))))
    (pss_one (ps_fld (pv 0) (lamcallF (k := 2) (Ng := n_spans_where) (a := "here") (b := "there") (TT := TTd (GG K A) ("Share.__init__" ++ ".<locals>." ++ "<lambda>") 5 (g_spans_where (fun ds x y st => lb_Share___init___2 ⟨cloE ds 2 3 x y, st⟩))) rfl T.g_spans_where T.F_spans_where T.b_spans_where sc_spans_where (pe_callS (ok_rising_places T) (hr.mono (by decide)) rfl T.g_rising_places T.F_rising_places.kp T.b_rising_places (fun σ => passAt (takes_of rfl rfl rfl rfl) σ) (by exact (pa_cons (pv 1) pa_nil))) T.tb_Share___init__ rfl hr (LamP.lamN_by (sc := defScope s_Share___init__) (by decide +kernel)) rfl (fun cdg pins s' σ H1 f c' pm ctv v1 Q I hf hfn hfr hr tt => ⟨_, (pss_cons (ps_set (i := 2) sc_spans_where.nd rfl (by first | exact Or.inl rfl | exact Or.inr rfl) (pe_lst pa_nil))
    (pss_cons (ps_for (passes_of rfl) rfl (pi_zip (by rfl) T.z_zip (pa_cons (pv 0) (pa_cons (pe_slice sl_any (pv 0) (po_some pe_int) po_none) pa_nil))) (pg_tl rfl (pgs_cons (pg_name (i := 3) sc_spans_where.nd rfl (by first | exact Or.inl rfl | exact Or.inr rfl)) (pgs_cons (pg_name (i := 4) sc_spans_where.nd rfl (by first | exact Or.inl rfl | exact Or.inr rfl)) pgs_nil))) (pss_one (ps_if (pt_val (LamP.act3 (a := "here") (b := "there") (ja := 2) (jb := 3) (k := 2) (i := 1) (CXg := L2.CX P w) (Eg := fun _ _ _ => False) (pn := []) (E := fun _ _ _ => False) I (LamP.lamN_by (sc := defScope s_Share___init__) (by decide +kernel)) sc_Share___init__.nd rfl rfl hf hfn hfr (fun _ _ => rfl) takes0 (fun _ _ _ _ z => z) hr (fun A' o' s2 H2 hr => (pe_callS (ok_covers T) hr rfl T.g_covers T.F_covers.kp T.b_covers (fun σ => passAt takes0 σ) (by exact (pa_cons (pv 1) (pa_cons (pv 2) (pa_cons (pv 3) pa_nil)))))) (pa_cons (pv 3) (pa_cons (pv 4) pa_nil)) rfl (by first | exact Or.inl rfl | exact Or.inr (Or.inl rfl)))) (pss_one (ps_if (PW.pt (pw_and (pt_cmpR op_gt (pe_callB call_len (by rfl) T.z_len (by decide +kernel) (pa_cons (pv 2) pa_nil)) pe_int (nomark _)) (pw_and1 (pt_cmpR (or_eq hr.units) (pe_ix ix_seq (pe_ix ix_seq (pv 2) (pe_un un_neg pe_int) (fun _ _ => rfl)) pe_int (fun _ _ => rfl)) (pv 3) (nomark _))))) (pss_one (ps_asg (pe_tup (pa_cons (pe_ix ix_seq (pe_ix ix_seq (pv 2) (pe_un un_neg pe_int) (fun _ _ => rfl)) pe_int (fun _ _ => rfl)) (pa_cons (pv 4) pa_nil))) (pg_sub (pv 2) (pe_un un_neg pe_int) set_list))) (pss_one (ps_expr (pe_bm PySem.F.plainAttrs_list PySem.F.slot_list_append PySem.F.type_list_append mt_append (pv 2) (pa_cons (pe_tup (pa_cons (pv 3) (pa_cons (pv 4) pa_nil))) pa_nil)))))) pss_nil)))
    (pss_one (ps_ret (pv 2))))), lam_body (by decide) (s_seq (s_set (v_lst a_nil))
    (s_seq (s_for (i_zip (a_cons v_var (a_cons (v_sl d_sl v_var (o_some v_int) o_none) a_nil))) (g_tl (gs_cons g_name (gs_cons g_name gs_nil))) (s_if (t_val (v_held (ja := 2) (jb := 3) (a_cons v_var (a_cons v_var a_nil)) (v_call (a_cons v_var (a_cons v_var (a_cons v_var a_nil)))))) (s_if (t_and (t_test (v_op d_gt (v_cb c_len (a_cons v_var a_nil)) v_int)) (t_test (v_op d_eq (v_op d_ix (v_op d_ix v_var (v_un d_neg v_int)) v_int) v_var))) (s_setI (v_tup (a_cons (v_op d_ix (v_op d_ix v_var (v_un d_neg v_int)) v_int) (a_cons v_var a_nil))) (v_un d_neg v_int)) (s_mt m_append (a_cons (v_tup (a_cons v_var (a_cons v_var a_nil))) a_nil))) s_skip))
    s_retV)) rfl rfl tt⟩)) (by first | rfl | exact sw_any rfl)))),
    (s_seq (s_for (i_any v_var) (g_tl (gs_cons g_name (gs_cons g_name gs_nil))) (s_drop (v_call (a_cons v_var (a_cons v_var a_nil)))))
    (s_fldS T.fo_parts v_var (v_lamC (np := np_Share___init__) rfl (v_call (a_cons v_var a_nil)))))⟩
theorem ok_Share_both (T : Txt K mg base A) : FnOk P w K mg base (L2.CX P w) 7 A.f_Share_both A.d_Share_both p_Share_both (spF (GG K A) F_Share_both) :=
  fn_okC (k := 6) rfl rfl T.F_Share_both sc_Share_both fun Ar outer s H E hr => ⟨_,
    (pss_cons (ps_set (i := 2) sc_Share_both.nd rfl (by first | exact Or.inl rfl | exact Or.inr rfl) (by exact (pe_m0 (pv 1) T.cl_Share T.mt_Share_spans (ok_Share_spans T) (hr.mono (by decide)) T.B_Share_spans_1_ (fun σ => passAt (takes_of rfl rfl rfl rfl) σ))))
    (pss_cons (ps_set (i := 3) sc_Share_both.nd rfl (by first | exact Or.inl rfl | exact Or.inr rfl) (pe_callS (ok_rising_places T) (hr.mono (by decide)) rfl T.g_rising_places T.F_rising_places.kp T.b_rising_places (fun σ => passAt (takes_of rfl rfl rfl rfl) σ) (by exact (pa_cons (pe_op or_add (pe_fld (pv 0) rfl) (pv 2)) pa_nil))))
    (pss_one (ps_ret (by exact (pe_kN T.mk_Share (ok_Share___init__ T) hr rfl T.g_Share T.B_Share___init___2_ (fun σ => passAt (takes_of rfl rfl rfl rfl) σ) (by exact (pa_cons (lamcallF (k := 2) (Ng := n_spans_where) (a := "a") (b := "b") (TT := TTd (GG K A) ("Share.both" ++ ".<locals>." ++ "<lambda>") 5 (g_spans_where (fun ds x y st => lb_Share_both_1 ⟨cloE ds 4 5 x y, st⟩))) rfl T.g_spans_where T.F_spans_where T.b_spans_where sc_spans_where (pv 3) T.tb_Share_both rfl (hr.mono (by decide)) (LamP.lamN_by (sc := defScope s_Share_both) (by decide +kernel)) rfl (fun cdg pins s' σ H1 f c' pm ctv v1 Q I hf hfn hfr hr tt => ⟨_, (pss_cons (ps_set (i := 2) sc_spans_where.nd rfl (by first | exact Or.inl rfl | exact Or.inr rfl) (pe_lst pa_nil))
    (pss_cons (ps_for (passes_of rfl) rfl (pi_zip (by rfl) T.z_zip (pa_cons (pv 0) (pa_cons (pe_slice sl_any (pv 0) (po_some pe_int) po_none) pa_nil))) (pg_tl rfl (pgs_cons (pg_name (i := 3) sc_spans_where.nd rfl (by first | exact Or.inl rfl | exact Or.inr rfl)) (pgs_cons (pg_name (i := 4) sc_spans_where.nd rfl (by first | exact Or.inl rfl | exact Or.inr rfl)) pgs_nil))) (pss_one (ps_if (pt_val (LamP.act3 (a := "a") (b := "b") (ja := 4) (jb := 5) (k := 2) (i := 1) (CXg := L2.CX P w) (Eg := fun _ _ _ => False) (pn := []) (E := fun _ _ _ => False) I (LamP.lamN_by (sc := defScope s_Share_both) (by decide +kernel)) sc_Share_both.nd rfl rfl hf hfn hfr (fun _ _ => rfl) takes0 (fun _ _ _ _ z => z) hr (fun A' o' s2 H2 hr => (pe_and (pe_callS (ok_covers T) hr rfl T.g_covers T.F_covers.kp T.b_covers (fun σ => passAt takes0 σ) (by exact (pa_cons (pe_fld (pv 0) rfl) (pa_cons (pv 4) (pa_cons (pv 5) pa_nil))))) (pe_one (pe_callS (ok_covers T) hr rfl T.g_covers T.F_covers.kp T.b_covers (fun σ => passAt takes0 σ) (by exact (pa_cons (pv 2) (pa_cons (pv 4) (pa_cons (pv 5) pa_nil)))))))) (pa_cons (pv 3) (pa_cons (pv 4) pa_nil)) rfl (by first | exact Or.inl rfl | exact Or.inr (Or.inl rfl)))) (pss_one (ps_if (PW.pt (pw_and (pt_cmpR op_gt (pe_callB call_len (by rfl) T.z_len (by decide +kernel) (pa_cons (pv 2) pa_nil)) pe_int (nomark _)) (pw_and1 (pt_cmpR (or_eq hr.units) (pe_ix ix_seq (pe_ix ix_seq (pv 2) (pe_un un_neg pe_int) (fun _ _ => rfl)) pe_int (fun _ _ => rfl)) (pv 3) (nomark _))))) (pss_one (ps_asg (pe_tup (pa_cons (pe_ix ix_seq (pe_ix ix_seq (pv 2) (pe_un un_neg pe_int) (fun _ _ => rfl)) pe_int (fun _ _ => rfl)) (pa_cons (pv 4) pa_nil))) (pg_sub (pv 2) (pe_un un_neg pe_int) set_list))) (pss_one (ps_expr (pe_bm PySem.F.plainAttrs_list PySem.F.slot_list_append PySem.F.type_list_append mt_append (pv 2) (pa_cons (pe_tup (pa_cons (pv 3) (pa_cons (pv 4) pa_nil))) pa_nil)))))) pss_nil)))
    (pss_one (ps_ret (pv 2))))), lam_body (by decide) (s_seq (s_set (v_lst a_nil))
    (s_seq (s_for (i_zip (a_cons v_var (a_cons (v_sl d_sl v_var (o_some v_int) o_none) a_nil))) (g_tl (gs_cons g_name (gs_cons g_name gs_nil))) (s_if (t_val (v_held (ja := 4) (jb := 5) (a_cons v_var (a_cons v_var a_nil)) (v_and (v_call (a_cons (v_fld T.fo_parts v_var) (a_cons v_var (a_cons v_var a_nil)))) (v_call (a_cons v_var (a_cons v_var (a_cons v_var a_nil))))))) (s_if (t_and (t_test (v_op d_gt (v_cb c_len (a_cons v_var a_nil)) v_int)) (t_test (v_op d_eq (v_op d_ix (v_op d_ix v_var (v_un d_neg v_int)) v_int) v_var))) (s_setI (v_tup (a_cons (v_op d_ix (v_op d_ix v_var (v_un d_neg v_int)) v_int) (a_cons v_var a_nil))) (v_un d_neg v_int)) (s_mt m_append (a_cons (v_tup (a_cons v_var (a_cons v_var a_nil))) a_nil))) s_skip))
    s_retV)) rfl rfl tt⟩)) pa_nil)))))))),
    (s_seq (s_setF (v_meth (c := 7) (m := "spans") (dd := []) nf_Share_spans rfl v_var a_nil a_nil))
    (s_seq (s_setF (v_call (a_cons (v_op d_add (v_fld T.fo_parts v_var) v_var) a_nil)))
    (s_ret (v_make (c := 7) (dd := []) rfl (a_cons (v_lamC (np := np_Share_both) rfl v_var) a_nil) a_nil))))⟩
theorem ok_Share_parted (T : Txt K mg base A) : FnOk P w K mg base (L2.CX P w) 8 A.f_Share_parted A.d_Share_parted p_Share_parted (spF (GG K A) F_Share_parted) :=
  fn_ok (k := 7) rfl rfl T.F_Share_parted sc_Share_parted fun cdv Ar outer s H E hr => ⟨_,
    (pss_cons (ps_expr (pe_callS (ok_ask_span T) (hr.mono (by decide)) rfl T.g_ask_span T.F_ask_span.kp T.b_ask_span (fun σ => passAt (takes_of rfl rfl rfl rfl) σ) (by exact (pa_cons (pv 1) (pa_cons (pv 1) pa_nil)))))
    (pss_one (ps_ret (pe_tup (pa_cons (by exact (pe_mN (pv 0) T.cl_Share T.mt_Share_both (ok_Share_both T) hr T.B_Share_both_2_ (fun σ => passAt (takes_of rfl rfl rfl rfl) σ) (by exact (pa_cons (by exact (pe_kN T.mk_Share (ok_Share___init__ T) (hr.mono (by decide)) rfl T.g_Share T.B_Share___init___2_ (fun σ => passAt (takes_of rfl rfl rfl rfl) σ) (by exact (pa_cons (pe_lst (pa_cons (pe_tup (pa_cons (pe_glob (v := .ref A.a_BEGIN) rfl T.m_BEGIN rfl) (pa_cons (pv 1) pa_nil))) pa_nil)) pa_nil)))) pa_nil)))) (pa_cons (by exact (pe_mN (pv 0) T.cl_Share T.mt_Share_both (ok_Share_both T) hr T.B_Share_both_2_ (fun σ => passAt (takes_of rfl rfl rfl rfl) σ) (by exact (pa_cons (by exact (pe_kN T.mk_Share (ok_Share___init__ T) (hr.mono (by decide)) rfl T.g_Share T.B_Share___init___2_ (fun σ => passAt (takes_of rfl rfl rfl rfl) σ) (by exact (pa_cons (pe_lst (pa_cons (pe_tup (pa_cons (pv 1) (pa_cons (pe_glob (v := .ref A.a_END) rfl T.m_END rfl) pa_nil))) pa_nil)) pa_nil)))) pa_nil)))) pa_nil)))))),
    (s_seq (s_drop (v_call (a_cons v_var (a_cons v_var a_nil))))
    (s_ret (v_tup (a_cons (v_meth (c := 7) (m := "both") (dd := []) nf_Share_both rfl v_var (a_cons (v_make (c := 7) (dd := []) rfl (a_cons (v_lst (a_cons (v_tup (a_cons (v_const T.i_BEGIN) (a_cons v_var a_nil))) a_nil)) a_nil) a_nil) a_nil) a_nil) (a_cons (v_meth (c := 7) (m := "both") (dd := []) nf_Share_both rfl v_var (a_cons (v_make (c := 7) (dd := []) rfl (a_cons (v_lst (a_cons (v_tup (a_cons v_var (a_cons (v_const T.i_END) a_nil))) a_nil)) a_nil) a_nil) a_nil) a_nil) a_nil)))))⟩
theorem ok_Way_talk (T : Txt K mg base A) : FnOk P w K mg base (L2.CX P w) 9 A.f_Way_talk A.d_Way_talk p_Way_talk (spF (GG K A) F_Way_talk) :=
  fn_ok (k := 8) rfl rfl T.F_Way_talk sc_Way_talk fun cdv Ar outer s H E hr => ⟨_,
    (pss_cons (ps_set (i := 1) sc_Way_talk.nd rfl (by first | exact Or.inl rfl | exact Or.inr rfl) (by exact (pe_kN T.mk_Talk (ok_Talk___init__ T) (hr.mono (by decide)) rfl T.g_Talk T.B_Talk___init___2_ (fun σ => passAt (takes_of rfl rfl rfl rfl) σ) (by exact (pa_cons (pe_fld (pv 0) rfl) pa_nil)))))
    (pss_cons (ps_try_only rfl rfl ⟨rfl, by decide, Or.inl T.g_Due⟩ (takes_of rfl rfl rfl rfl) (fun W pn xe tk po => (pss_one (ps_fldK (K := K) rfl (pv 1) (PE.or (by exact (pe_mN (pv 0) T.cl_Share T.mt_Share_parted (ok_Share_parted T) hr T.B_Share_parted_2_ (fun σ => passAt tk σ) (by exact (pa_cons (pv 1) pa_nil)))) (by exact (pe_mN (pv 0) T.cl_OneCuts T.mt_OneCuts_parted (ok_OneCuts_parted T) (hr.mono (by decide)) T.B_OneCuts_parted_2_ (fun σ => passAt tk σ) (by exact (pa_cons (pv 1) pa_nil))))) (by first | rfl | exact sw_any rfl)))) (fun a oe cls d pn hz hf => (pss_one (ps_fldK (K := K) rfl (pv 1) pe_non (by first | rfl | exact sw_any rfl)))))
    (pss_one (ps_ret (pv 1))))),
    (s_seq (s_setF (v_make (c := 9) (dd := []) rfl (a_cons (v_fld T.fo_said v_var) a_nil) a_nil))
    (s_seq (s_tryO (G := GG K A) (fun W => (s_fldS T.fo_parts v_var (v_alt (v_meth (c := 7) (m := "parted") (dd := []) nf_Share_parted rfl v_var (a_cons v_var a_nil) a_nil) (v_meth (c := 11) (m := "parted") (dd := []) nf_OneCuts_parted rfl v_var (a_cons v_var a_nil) a_nil)))) T.ex_Due (fun a cls d => (s_fldS (FldOk.sw T.fo_parts) v_var v_non)) :)
    s_retV))⟩
theorem ok_Way_due (T : Txt K mg base A) : FnOk P w K mg base (L2.CX P w) 10 A.f_Way_due A.d_Way_due p_Way_due (spF (GG K A) F_Way_due) :=
  fn_ok (k := 9) rfl rfl T.F_Way_due sc_Way_due fun cdv Ar outer s H E hr => ⟨_,
    (pss_one (ps_ret (pe_fld (by exact (pe_m0 (pv 0) T.cl_OneCuts T.mt_OneCuts_talk (ok_Way_talk T) hr T.B_Way_talk_1_ (fun σ => passAt (takes_of rfl rfl rfl rfl) σ))) rfl))),
    (s_ret (v_fld T.fo_waits (v_meth (c := 11) (m := "talk") (dd := []) nf_OneCuts_talk rfl v_var a_nil a_nil)))⟩
theorem ok_Way_log (T : Txt K mg base A) : FnOk P w K mg base (L2.CX P w) 10 A.f_Way_log A.d_Way_log p_Way_log (spF (GG K A) F_Way_log) :=
  fn_ok (k := 9) rfl rfl T.F_Way_log sc_Way_log fun cdv Ar outer s H E hr => ⟨_,
    (pss_one (ps_ret (pe_listZip rfl (by rfl) T.z_list (by rfl) T.z_zip (pa_cons (pe_fld (by exact (pe_m0 (pv 0) T.cl_OneCuts T.mt_OneCuts_talk (ok_Way_talk T) hr T.B_Way_talk_1_ (fun σ => passAt (takes_of rfl rfl rfl rfl) σ))) rfl) (pa_cons (pe_fld (pv 0) rfl) pa_nil))))),
    (s_ret (v_lz (a_cons (v_fld T.fo_asks (v_meth (c := 11) (m := "talk") (dd := []) nf_OneCuts_talk rfl v_var a_nil a_nil)) (a_cons (v_fld T.fo_said v_var) a_nil))))⟩
theorem ok_Way_asked (T : Txt K mg base A) : FnOk P w K mg base (L2.CX P w) 10 A.f_Way_asked A.d_Way_asked p_Way_asked (spF (GG K A) F_Way_asked) :=
  fn_ok (k := 9) rfl rfl T.F_Way_asked sc_Way_asked fun cdv Ar outer s H E hr => ⟨_,
    (pss_cons (ps_set (i := 1) sc_Way_asked.nd rfl (by first | exact Or.inl rfl | exact Or.inr rfl) (pe_fld (by exact (pe_m0 (pv 0) T.cl_OneCuts T.mt_OneCuts_talk (ok_Way_talk T) hr T.B_Way_talk_1_ (fun σ => passAt (takes_of rfl rfl rfl rfl) σ))) rfl))
    (pss_one (ps_ret (pe_lc (own := [("hand", 2)]) rfl sc_Way_asked.nd (pi_range1 (by rfl) T.z_range (pa_cons (by exact (pe_m0 (pv 0) T.cl_OneCuts T.mt_OneCuts_hands (ok_OneCuts_hands T) (hr.mono (by decide)) T.B_OneCuts_hands_1_ (fun σ => passAt (takes_of rfl rfl rfl rfl) σ))) pa_nil)) (blkOk_by (N := n_Way_asked) (sc := defScope (s_Way_asked)) (by decide +kernel)) (fun _ _ _ _ _ => (pg_name (i := 2) sc_Way_asked.nd rfl (by first | exact Or.inl rfl | exact Or.inr rfl))) (fun _ _ _ _ _ => pts_nil) (fun _ _ _ _ _ => (pe_callB call_len (by rfl) T.z_len (by decide +kernel) (pa_cons (pe_lc (own := [("ask", 3)]) rfl sc_Way_asked.nd (pi_any (pv 1)) (blkOk_by (by first | decide +kernel | kernel_rfl | rfl)) (fun _ _ _ _ _ => (pg_name (i := 3) sc_Way_asked.nd rfl (by first | exact Or.inl rfl | exact Or.inr rfl))) (fun _ _ _ _ _ => (pts_one (pt_cmpR (or_eq hr.units) (pe_ix ix_seq (pv 3) pe_int (fun _ _ => rfl)) (pv 2) (nomark _)))) (fun _ _ _ _ _ => (pv 3))) pa_nil))))))),
    (s_seq (s_setF (v_fld T.fo_asks (v_meth (c := 11) (m := "talk") (dd := []) nf_OneCuts_talk rfl v_var a_nil a_nil)))
    (s_ret (v_lc (vs := [2]) (js := [2]) (i_range1 (a_cons (v_meth (c := 11) (m := "hands") (dd := []) nf_OneCuts_hands rfl v_var a_nil a_nil) a_nil)) g_name (by decide) t_yes (v_cb c_len (a_cons (v_lcX (vs := [3]) v_var g_name (by decide) (t_test (v_op d_eq (v_op d_ix v_var v_int) v_var)) v_var) a_nil)))))⟩
theorem ok_Way_shares (T : Txt K mg base A) : FnOk P w K mg base (L2.CX P w) 10 A.f_Way_shares A.d_Way_shares p_Way_shares (spF (GG K A) F_Way_shares) :=
  fn_ok (k := 9) rfl rfl T.F_Way_shares sc_Way_shares fun cdv Ar outer s H E hr => ⟨_,
    (pss_cons (ps_set (i := 1) sc_Way_shares.nd rfl (by first | exact Or.inl rfl | exact Or.inr rfl) (by exact (pe_m0 (pv 0) T.cl_OneCuts T.mt_OneCuts_talk (ok_Way_talk T) hr T.B_Way_talk_1_ (fun σ => passAt (takes_of rfl rfl rfl rfl) σ))))
    (pss_cons (ps_if (pt_cmpR op_notN (pe_fld (pv 1) rfl) pe_non (nomark _)) (pss_one (ps_raise rfl (takes_of rfl rfl rfl rfl) (pmk_oex T.oex_NotEnded T.ini_NotEnded T.tin_NotEnded (ok_NotEnded___init__ T) (hr.mono (by decide)) T.b_NotEnded___init__ .nil L2.pass0 rfl T.g_NotEnded (by exact (pa_cons (pe_callB call_len (by rfl) T.z_len (by decide +kernel) (pa_cons (pe_fld (pv 0) rfl) pa_nil)) pa_nil))))) pss_nil)
    (pss_one (ps_ret (pe_lc (own := [("spans", 2)]) rfl sc_Way_shares.nd (pi_any (pe_fld (pv 1) rfl)) (blkOk_by (N := n_Way_shares) (sc := defScope (s_Way_shares)) (by decide +kernel)) (fun _ _ _ _ _ => (pg_name (i := 2) sc_Way_shares.nd rfl (by first | exact Or.inl rfl | exact Or.inr rfl))) (fun _ _ _ _ _ => pts_nil) (fun _ _ _ _ _ => (by exact (pe_kN T.mk_Share (ok_Share___init__ T) (hr.mono (by decide)) rfl T.g_Share T.B_Share___init___2_ (fun σ => passAt takes0 σ) (by exact (pa_cons (pv 2) pa_nil)))))))))),
    (s_seq (s_setF (v_meth (c := 11) (m := "talk") (dd := []) nf_OneCuts_talk rfl v_var a_nil a_nil))
    (s_seq (s_if (t_test (v_op d_notN (v_fld T.fo_waits v_var) v_non)) (s_raiseF rfl rfl T.oex_NotEnded T.xno_NotEnded (a_cons (v_cb c_len (a_cons (v_fld T.fo_said v_var) a_nil)) a_nil)) s_skip)
    (s_ret (v_lc (vs := [2]) (js := [2]) (i_any (v_fld T.fo_parts v_var)) g_name (by decide) t_yes (v_make (c := 7) (dd := []) rfl (a_cons v_var a_nil) a_nil)))))⟩
theorem ok_Way_ended (T : Txt K mg base A) : FnOk P w K mg base (L2.CX P w) 11 A.f_Way_ended A.d_Way_ended p_Way_ended (spF (GG K A) F_Way_ended) :=
  fn_ok (k := 10) rfl rfl T.F_Way_ended sc_Way_ended fun cdv Ar outer s H E hr => ⟨_,
    (pss_one (ps_ret (pe_cmpR op_isN (by exact (pe_m0 (pv 0) T.cl_OneCuts T.mt_OneCuts_due (ok_Way_due T) hr T.B_Way_due_1_ (fun σ => passAt (takes_of rfl rfl rfl rfl) σ))) pe_non (nomark _)))),
    (s_ret (v_op d_isN (v_meth (c := 11) (m := "due") (dd := []) nf_OneCuts_due rfl v_var a_nil a_nil) v_non))⟩
theorem ok_Way_answer (T : Txt K mg base A) : FnOk P w K mg base (L2.CX P w) 11 A.f_Way_answer A.d_Way_answer p_Way_answer (spF (GG K A) F_Way_answer) :=
  fn_ok (k := 10) rfl rfl T.F_Way_answer sc_Way_answer fun cdv Ar outer s H E hr => ⟨_,
    (pss_cons (ps_set (i := 2) sc_Way_answer.nd rfl (by first | exact Or.inl rfl | exact Or.inr rfl) (by exact (pe_m0 (pv 0) T.cl_OneCuts T.mt_OneCuts_due (ok_Way_due T) hr T.B_Way_due_1_ (fun σ => passAt (takes_of rfl rfl rfl rfl) σ))))
    (pss_cons (ps_if (pt_cmpR op_isN (pv 2) pe_non (nomark _)) (pss_one (ps_raise rfl (takes_of rfl rfl rfl rfl) (pmk_own PySem.F.excBase_ValueError T.x_Ended T.g_Ended T.k_Ended (raises_own T.sb_Ended T.t_Ended) rfl))) pss_nil)
    (pss_cons (ps_if (pt_not (pt_val (pe_callS (ok_is_legal T) (hr.mono (by decide)) rfl T.g_is_legal T.F_is_legal.kp T.b_is_legal (fun σ => passAt (takes_of rfl rfl rfl rfl) σ) (by exact (pa_cons (pv 2) (pa_cons (pv 1) pa_nil)))))) (pss_one (ps_raise rfl (takes_of rfl rfl rfl rfl) (pmk_oex T.oex_NoReply T.ini_NoReply T.tin_NoReply (ok_NoReply___init__ T) (hr.mono (by decide)) T.b_NoReply___init__ .nil L2.pass0 rfl T.g_NoReply (by exact (pa_cons (pv 2) pa_nil))))) pss_nil)
    (pss_cons (ps_expr (pe_bm PySem.F.plainAttrs_list PySem.F.slot_list_append PySem.F.type_list_append mt_append (pe_fld (pv 0) rfl) (pa_cons (pv 1) pa_nil)))
    (pss_cons (ps_fld (pv 0) (pe_lst pa_nil) (by first | rfl | exact sw_any rfl))
    (pss_one (ps_expr (by exact (pe_mN (pv 0) T.cl_OneCuts T.mt_OneCuts_told_all (ok_Way_told_all T) (hr.mono (by decide)) T.B_Way_told_all_3_ (fun σ => passAt (takes_of rfl rfl rfl rfl) σ) (by exact (pa_cons pe_str (pa_cons (pv 1) pa_nil)))))))))))),
    (s_seq (s_setF (v_meth (c := 11) (m := "due") (dd := []) nf_OneCuts_due rfl v_var a_nil a_nil))
    (s_seq (s_if (t_test (v_op d_isN v_var v_non)) (s_raise rfl) s_skip)
    (s_seq (s_if (t_not (t_val (v_call (a_cons v_var (a_cons v_var a_nil))))) (s_raiseF rfl rfl T.oex_NoReply T.xno_NoReply (a_cons v_var a_nil)) s_skip)
    (s_seq (s_drop (v_mtX m_append (v_fld T.fo_said v_var) (a_cons v_var a_nil)))
    (s_seq (s_fldS T.fo_unsaid v_var (v_lst a_nil))
    (s_drop (v_meth (c := 11) (m := "told_all") (dd := []) nf_OneCuts_told_all rfl v_var (a_cons v_str (a_cons v_var a_nil)) a_nil)))))))⟩
theorem ok_law_stands (T : Txt K mg base A) : FnOk P w K mg base (L2.CX P w) 12 A.f_law_stands A.d_law_stands p_law_stands (spF (GG K A) F_law_stands) :=
  fn_ok (k := 11) rfl rfl T.F_law_stands sc_law_stands fun cdv Ar outer s H E hr => ⟨_,
    (pss_cons (ps_set (i := 4) sc_law_stands.nd rfl (by first | exact Or.inl rfl | exact Or.inr rfl) pe_non)
    (pss_cons (ps_set (i := 5) sc_law_stands.nd rfl (by first | exact Or.inl rfl | exact Or.inr rfl) (by exact (pe_m0 (pv 0) T.cl_OneCuts T.mt_OneCuts_hands (ok_OneCuts_hands T) (hr.mono (by decide)) T.B_OneCuts_hands_1_ (fun σ => passAt (takes_of rfl rfl rfl rfl) σ))))
    (pss_cons (ps_if (pt_cmpR op_gt (pe_callB call_len (by rfl) T.z_len (by decide +kernel) (pa_cons (pv 1) pa_nil)) (pe_callB call_len (by rfl) T.z_len (by decide +kernel) (pa_cons (pv 2) pa_nil)) (nomark _)) (pss_one (ps_set (i := 4) sc_law_stands.nd rfl (by first | exact Or.inl rfl | exact Or.inr rfl) (pe_ix ix_seq (pv 1) (pe_callB call_len (by rfl) T.z_len (by decide +kernel) (pa_cons (pv 2) pa_nil)) (fun _ _ => rfl)))) pss_nil)
    (pss_cons (ps_if (PW.pt (pw_or (pt_cmpR (or_ne hr.units) (by exact (pe_m0 (pv 0) T.cl_OneCuts T.mt_OneCuts_due (ok_Way_due T) (hr.mono (by decide)) T.B_Way_due_1_ (fun σ => passAt (takes_of rfl rfl rfl rfl) σ))) (pv 4) (nomark _)) (pw_or (pt_cmpR (or_ne hr.units) (by exact (pe_m0 (pv 0) T.cl_OneCuts T.mt_OneCuts_ended (ok_Way_ended T) hr T.B_Way_ended_1_ (fun σ => passAt (takes_of rfl rfl rfl rfl) σ))) (pe_cmpR op_isN (pv 4) pe_non (nomark _)) (nomark _)) (pw_or1 (pt_not (pt_val (pe_callB call_isi (by rfl) T.z_isinstance (by decide +kernel) (pa_cons (by exact (pe_m0 (pv 0) T.cl_OneCuts T.mt_OneCuts_ended (ok_Way_ended T) hr T.B_Way_ended_1_ (fun σ => passAt (takes_of rfl rfl rfl rfl) σ))) (pa_cons (pe_bltn (v := .ty "bool") (by rfl) T.z_bool (by decide +kernel) rfl) pa_nil))))))))) (pss_one (ps_ret pe_bl)) pss_nil)
    (pss_cons (ps_set (i := 6) sc_law_stands.nd rfl (by first | exact Or.inl rfl | exact Or.inr rfl) (by exact (pe_m0 (pv 0) T.cl_OneCuts T.mt_OneCuts_log (ok_Way_log T) (hr.mono (by decide)) T.B_Way_log_1_ (fun σ => passAt (takes_of rfl rfl rfl rfl) σ))))
    (pss_cons (ps_if (PW.pt (pw_or (pt_not (pt_val (pe_callB call_isi (by rfl) T.z_isinstance (by decide +kernel) (pa_cons (pv 6) (pa_cons (pe_bltn (v := .ty "list") (by rfl) T.z_list (by decide +kernel) rfl) pa_nil))))) (pw_or (pt_cmpR (or_ne hr.units) (pv 6) (pe_listZip rfl (by rfl) T.z_list (by rfl) T.z_zip (pa_cons (pv 1) (pa_cons (pv 2) pa_nil))) (nomark _)) (pw_or1 (pt_cmpR (or_ne hr.units) (pe_callB (CallR.or call_len (call_lenO (G := GG K A) (k := 1) (Os := [(7, F_Share___len__), (11, F_Way___len__)]) (List.forall_mem_cons.mpr ⟨⟨⟨_, _, _, T.mt_Share___len__, (ok_Share___len__ T).mono (by decide), T.b_Share___len__, rfl⟩⟩, (List.forall_mem_cons.mpr ⟨⟨⟨_, _, _, T.mt_OneCuts___len__, (ok_Way___len__ T).mono (by decide), T.b_Way___len__, rfl⟩⟩, (fun _ h => nomatch h)⟩)⟩) (hr.mono (by decide)))) (by rfl) T.z_len (by decide +kernel) (pa_cons (pv 0) pa_nil)) (pe_callB call_len (by rfl) T.z_len (by decide +kernel) (pa_cons (pv 2) pa_nil)) (nomark _)))))) (pss_one (ps_ret pe_bl)) pss_nil)
    (pss_cons (ps_setLc (i := 7) (own := [("_law_hand", 10)]) rfl sc_law_stands.nd rfl rfl (sw_true rfl rfl rfl (by decide +kernel)) (pi_range1 (by rfl) T.z_range (pa_cons (pv 5) pa_nil)) (blkOk_by (N := n_law_stands) (sc := defScope (s_law_stands)) (by decide +kernel)) (fun _ _ _ _ _ => (pg_name (i := 10) sc_law_stands.nd rfl (by first | exact Or.inl rfl | exact Or.inr rfl))) (fun _ _ _ _ _ => pts_nil) (fun _ _ _ _ _ => (pe_callB call_len (by rfl) T.z_len (by decide +kernel) (pa_cons (pe_lc (own := [("_law_ask", 13)]) rfl sc_law_stands.nd (pi_any (pe_slice sl_any (pv 1) po_none (po_some (pe_callB call_len (by rfl) T.z_len (by decide +kernel) (pa_cons (pv 2) pa_nil))))) (blkOk_by (by first | decide +kernel | kernel_rfl | rfl)) (fun _ _ _ _ _ => (pg_name (i := 13) sc_law_stands.nd rfl (by first | exact Or.inl rfl | exact Or.inr rfl))) (fun _ _ _ _ _ => (pts_one (pt_cmpR (or_eq hr.units) (pe_ix ix_seq (pv 13) pe_int (fun _ _ => rfl)) (pv 10) (nomark _)))) (fun _ _ _ _ _ => (pv 13))) pa_nil))))
    (pss_cons (ps_if (PW.pt (pw_or (pt_cmpR (or_ne hr.units) (by exact (pe_m0 (pv 0) T.cl_OneCuts T.mt_OneCuts_asked (ok_Way_asked T) (hr.mono (by decide)) T.B_Way_asked_1_ (fun σ => passAt (takes_of rfl rfl rfl rfl) σ))) (pv 7) (nomark _)) (pw_or1 (pt_val (pe_callB (cr_any rfl) (by rfl) T.z_any (by decide +kernel) (pa_cons (pe_lc (own := [("_law_one", 14)]) rfl sc_law_stands.nd (pi_any (pe_op or_add (by exact (pe_m0 (pv 0) T.cl_OneCuts T.mt_OneCuts_asked (ok_Way_asked T) (hr.mono (by decide)) T.B_Way_asked_1_ (fun σ => passAt (takes_of rfl rfl rfl rfl) σ))) (pe_lst (pa_cons (pv 5) pa_nil)))) (blkOk_by (N := n_law_stands) (sc := defScope (s_law_stands)) (by decide +kernel)) (fun _ _ _ _ _ => (pg_name (i := 14) sc_law_stands.nd rfl (by first | exact Or.inl rfl | exact Or.inr rfl))) (fun _ _ _ _ _ => pts_nil) (fun _ _ _ _ _ => (pe_callB call_isi (by rfl) T.z_isinstance (by decide +kernel) (pa_cons (pv 14) (pa_cons (pe_bltn (v := .ty "bool") (by rfl) T.z_bool (by decide +kernel) rfl) pa_nil))))) pa_nil)))))) (pss_one (ps_ret pe_bl)) pss_nil)
    (pss_cons (ps_set (i := 8) sc_law_stands.nd rfl (by first | exact Or.inl rfl | exact Or.inr rfl) pe_non)
    (pss_cons (ps_try_as (i := 9) rfl rfl sc_law_stands.nd rfl rfl ⟨rfl, by decide, Or.inl T.g_NotEnded⟩ (takes_of rfl rfl rfl rfl) (fun W pn xe tk po => (pss_one (ps_setLc (i := 8) (own := [("_law_share", 11)]) rfl sc_law_stands.nd rfl rfl (sw_true rfl rfl rfl (by decide +kernel)) (pi_anyK (K := K) rfl (by exact (pe_m0 (pv 0) T.cl_OneCuts T.mt_OneCuts_shares (ok_Way_shares T) (hr.mono (by decide)) T.B_Way_shares_1_ (fun σ => passAt tk σ)))) (blkOk_by (N := n_law_stands) (sc := defScope (s_law_stands)) (by decide +kernel)) (fun _ _ _ _ _ => (pg_name (i := 11) sc_law_stands.nd rfl (by first | exact Or.inl rfl | exact Or.inr rfl))) (fun _ _ _ _ _ => pts_nil) (fun _ _ _ _ _ => (by exact (pe_m0 (pv 11) T.cl_Share T.mt_Share_spans (ok_Share_spans T) (hr.mono (by decide)) T.B_Share_spans_1_ (fun σ => passAt takes0 σ))))))) (fun a oe cls d pn hz hf => (pss_one (ps_set (i := 8) sc_law_stands.nd rfl (by first | exact Or.inl rfl | exact Or.inr rfl) (pe_xf T.xf_NotEnded T.xno_NotEnded hz hf (pv 9))))))
    (pss_cons (ps_if (pt_cmpR op_notN (pv 4) pe_non (nomark _)) (pss_one (ps_ret (pe_cmpR (or_eq hr.units) (pv 8) (pe_callB call_len (by rfl) T.z_len (by decide +kernel) (pa_cons (pv 2) pa_nil)) (nomark _)))) pss_nil)
    (pss_one (ps_ret (pe_cmpR (or_eq hr.units) (pv 8) (pe_lc (own := [("_law_span", 12)]) rfl sc_law_stands.nd (pi_any (pv 3)) (blkOk_by (N := n_law_stands) (sc := defScope (s_law_stands)) (by decide +kernel)) (fun _ _ _ _ _ => (pg_name (i := 12) sc_law_stands.nd rfl (by first | exact Or.inl rfl | exact Or.inr rfl))) (fun _ _ _ _ _ => pts_nil) (fun _ _ _ _ _ => (pe_ifExp (pt_val (pe_callS (ok_law_less T) (hr.mono (by decide)) rfl T.g_law_less T.F_law_less.kp T.b_law_less (fun σ => passAt takes0 σ) (by exact (pa_cons (pe_ix ix_seq (pv 12) pe_int (fun _ _ => rfl)) (pa_cons (pe_ix ix_seq (pv 12) pe_int (fun _ _ => rfl)) pa_nil))))) (pe_lst (pa_cons (pv 12) pa_nil)) (pe_lst pa_nil)))) (nomark _))))))))))))))),
    (s_seq (s_setF v_non)
    (s_seq (s_setF (v_meth (c := 11) (m := "hands") (dd := []) nf_OneCuts_hands rfl v_var a_nil a_nil))
    (s_seq (s_if (t_test (v_op d_gt (v_cb c_len (a_cons v_var a_nil)) (v_cb c_len (a_cons v_var a_nil)))) (s_setF (v_op d_ix v_var (v_cb c_len (a_cons v_var a_nil)))) s_skip)
    (s_seq (s_if (t_or (t_test (v_op d_ne (v_meth (c := 11) (m := "due") (dd := []) nf_OneCuts_due rfl v_var a_nil a_nil) v_var)) (t_or (t_test (v_op d_ne (v_meth (c := 11) (m := "ended") (dd := []) nf_OneCuts_ended rfl v_var a_nil a_nil) (v_op d_isN v_var v_non))) (t_not (t_val (v_isi (v_meth (c := 11) (m := "ended") (dd := []) nf_OneCuts_ended rfl v_var a_nil a_nil)))))) (s_ret v_bl) s_skip)
    (s_seq (s_setF (v_meth (c := 11) (m := "log") (dd := []) nf_OneCuts_log rfl v_var a_nil a_nil))
    (s_seq (s_if (t_or (t_not (t_val (v_isi v_var))) (t_or (t_test (v_op d_ne v_var (v_lz (a_cons v_var (a_cons v_var a_nil))))) (t_test (v_op d_ne (v_lenX v_var) (v_cb c_len (a_cons v_var a_nil)))))) (s_ret v_bl) s_skip)
    (s_seq (s_setF (v_lc (vs := [10]) (js := [10]) (i_range1 (a_cons v_var a_nil)) g_name (by decide) t_yes (v_cb c_len (a_cons (v_lc (vs := [13]) (js := [13]) (i_any (v_sl d_sl v_var o_none (o_some (v_cb c_len (a_cons v_var a_nil))))) g_name (by decide) (t_test (v_op d_eq (v_op d_ix v_var v_int) v_var)) v_var) a_nil))))
    (s_seq (s_if (t_or (t_test (v_op d_ne (v_meth (c := 11) (m := "asked") (dd := []) nf_OneCuts_asked rfl v_var a_nil a_nil) v_var)) (t_val (v_cb c_any (a_cons (v_lc (vs := [14]) (js := [14]) (i_any (v_op d_add (v_meth (c := 11) (m := "asked") (dd := []) nf_OneCuts_asked rfl v_var a_nil a_nil) (v_lst (a_cons v_var a_nil)))) g_name (by decide) t_yes (v_isi v_var)) a_nil)))) (s_ret v_bl) s_skip)
    (s_seq (s_setF v_non)
    (s_seq (s_tryX (G := GG K A) (h := fun c l => (sSetF 8 (dXf 9 l[0]?))) (fun W => (s_setF (v_lc (vs := [11]) (js := [11]) (i_any (v_meth (c := 11) (m := "shares") (dd := []) nf_OneCuts_shares rfl v_var a_nil a_nil)) g_name (by decide) t_yes (v_meth (c := 7) (m := "spans") (dd := []) nf_Share_spans rfl v_var a_nil a_nil)))) T.ex_NotEnded (fun c l a x cls d hc hx hx' hcls hdd => (s_setF (v_xf hx hcls hdd (by rw [only_NotEnded c hc] <;> rfl) (by rw [only_NotEnded c hc] <;> rfl)))) :)
    (s_seq (s_if (t_test (v_op d_notN v_var v_non)) (s_ret (v_op d_eq v_var (v_cb c_len (a_cons v_var a_nil)))) s_skip)
    (s_ret (v_op d_eq v_var (v_lc (vs := [12]) (js := [12]) (i_any v_var) g_name (by decide) t_yes (v_if (t_val (v_call (a_cons (v_op d_ix v_var v_int) (a_cons (v_op d_ix v_var v_int) a_nil)))) (v_lst (a_cons v_var a_nil)) (v_lst a_nil))))))))))))))))⟩
theorem ok_law (T : Txt K mg base A) : FnOk P w K mg base (L2.CX P w) 13 A.f_law A.d_law p_law (spF (GG K A) F_law) :=
  fn_ok (k := 12) rfl rfl T.F_law sc_law fun cdv Ar outer s H E hr => ⟨_,
    (pss_cons (ps_set (i := 1) sc_law.nd rfl (by first | exact Or.inl rfl | exact Or.inr rfl) (pe_callS (ok_law_box T) (hr.mono (by decide)) rfl T.g_law_box T.F_law_box.kp T.b_law_box (fun σ => passAt (takes_of rfl rfl rfl rfl) σ) (by exact (pa_cons (pv 0) pa_nil))))
    (pss_cons (ps_set (i := 2) sc_law.nd rfl (by first | exact Or.inl rfl | exact Or.inr rfl) (pe_callS (ok_law_take T) (hr.mono (by decide)) rfl T.g_law_take T.F_law_take.kp T.b_law_take (fun σ => passAt (takes_of rfl rfl rfl rfl) σ) (by exact (pa_cons (pv 1) (pa_cons pe_int pa_nil)))))
    (pss_cons (ps_set (i := 3) sc_law.nd rfl (by first | exact Or.inl rfl | exact Or.inr rfl) (pe_callS (ok_law_take T) (hr.mono (by decide)) rfl T.g_law_take T.F_law_take.kp T.b_law_take (fun σ => passAt (takes_of rfl rfl rfl rfl) σ) (by exact (pa_cons (pv 1) (pa_cons pe_int pa_nil)))))
    (pss_cons (ps_set (i := 4) sc_law.nd rfl (by first | exact Or.inl rfl | exact Or.inr rfl) (by exact (pe_kK0 T.mk_OneCuts (ok_OneCuts___init__ T) (hr.mono (by decide)) rfl T.g_OneCuts T.B_OneCuts___init___1_cutter (fun σ => passAt (takes_of rfl rfl rfl rfl) σ) (by exact (pk_cons (pv 2) pk_nil)))))
    (pss_cons (ps_if (pt_cmpR (or_eq hr.units) (pv 3) pe_int (nomark _)) (pss_one (ps_set (i := 4) sc_law.nd rfl (by first | exact Or.inl rfl | exact Or.inr rfl) (by exact (pe_kN T.mk_OneCuts (ok_OneCuts___init__ T) (hr.mono (by decide)) rfl T.g_OneCuts T.B_OneCuts___init___2_ (fun σ => passAt (takes_of rfl rfl rfl rfl) σ) (by exact (pa_cons (pv 2) pa_nil)))))) pss_nil)
    (pss_cons (ps_if (PW.pt (pw_and (pt_cmpR (or_eq hr.units) (pv 3) pe_int (nomark _)) (pw_and1 (pt_cmpR (or_eq hr.units) (pv 2) pe_int (nomark _))))) (pss_one (ps_set (i := 4) sc_law.nd rfl (by first | exact Or.inl rfl | exact Or.inr rfl) (by exact (pe_k0 T.mk_OneCuts (ok_OneCuts___init__ T) (hr.mono (by decide)) rfl T.g_OneCuts T.B_OneCuts___init___1_ (fun σ => passAt (takes_of rfl rfl rfl rfl) σ))))) pss_nil)
    (pss_cons (ps_set (i := 5) sc_law.nd rfl (by first | exact Or.inl rfl | exact Or.inr rfl) (pe_lst pa_nil))
    (pss_cons (ps_for (passes_of rfl) rfl (pi_range1 (by rfl) T.z_range (pa_cons pe_int pa_nil)) (pg_name (i := 6) sc_law.nd rfl (by first | exact Or.inl rfl | exact Or.inr rfl)) (pss_cons (ps_asg (pe_callS (ok_law_onecuts T) (hr.mono (by decide)) rfl T.g_law_onecuts T.F_law_onecuts.kp T.b_law_onecuts (fun σ => passAt (takes_of rfl rfl rfl rfl) σ) (by exact (pa_cons (pv 2) (pa_cons (pv 5) pa_nil)))) (pg_tl rfl (pgs_cons (pg_name (i := 8) sc_law.nd rfl (by first | exact Or.inl rfl | exact Or.inr rfl)) (pgs_cons (pg_name (i := 9) sc_law.nd rfl (by first | exact Or.inl rfl | exact Or.inr rfl)) pgs_nil))))
    (pss_cons (ps_if (PW.pt (pw_or (pt_cmpR (or_ne hr.units) (by exact (pe_m0 (pv 4) T.cl_OneCuts T.mt_OneCuts_hands (ok_OneCuts_hands T) (hr.mono (by decide)) T.B_OneCuts_hands_1_ (fun σ => passAt (takes_of rfl rfl rfl rfl) σ))) pe_int (nomark _)) (pw_or1 (pt_not (pt_val (pe_callS (ok_law_stands T) hr rfl T.g_law_stands T.F_law_stands.kp T.b_law_stands (fun σ => passAt (takes_of rfl rfl rfl rfl) σ) (by exact (pa_cons (pv 4) (pa_cons (pv 8) (pa_cons (pe_callTy call_list_of (by rfl) T.z_list (by decide +kernel) (pa_cons (pv 5) pa_nil)) (pa_cons (pv 9) pa_nil))))))))))) (pss_one (ps_ret pe_bl)) pss_nil)
    (pss_cons (ps_if (pt_cmpR (or_eq hr.units) (pe_callB call_len (by rfl) T.z_len (by decide +kernel) (pa_cons (pv 8) pa_nil)) (pe_callB call_len (by rfl) T.z_len (by decide +kernel) (pa_cons (pv 5) pa_nil)) (nomark _)) (pss_one (ps_ret (pe_cmpR (or_eq hr.units) (pe_callB call_len (by rfl) T.z_len (by decide +kernel) (pa_cons (pv 5) pa_nil)) pe_int (nomark _)))) pss_nil)
    (pss_cons (ps_set (i := 7) sc_law.nd rfl (by first | exact Or.inl rfl | exact Or.inr rfl) (pe_callS (ok_law_reply T) (hr.mono (by decide)) rfl T.g_law_reply T.F_law_reply.kp T.b_law_reply (fun σ => passAt (takes_of rfl rfl rfl rfl) σ) (by exact (pa_cons (pv 1) (pa_cons (pe_ix ix_seq (pv 8) (pe_un un_neg pe_int) (fun _ _ => rfl)) (pa_cons (pv 5) pa_nil))))))
    (pss_cons (ps_if (pt_cmpR op_notN (by exact (pe_mN (pv 4) T.cl_OneCuts T.mt_OneCuts_answer (ok_Way_answer T) (hr.mono (by decide)) T.B_Way_answer_2_ (fun σ => passAt (takes_of rfl rfl rfl rfl) σ) (by exact (pa_cons (pv 7) pa_nil)))) pe_non (nomark _)) (pss_one (ps_ret pe_bl)) pss_nil)
    (pss_one (ps_expr (pe_bm PySem.F.plainAttrs_list PySem.F.slot_list_append PySem.F.type_list_append mt_append (pv 5) (pa_cons (pv 7) pa_nil))))))))))
    (pss_one (ps_ret pe_bl)))))))))),
    (s_seq (s_setF (v_call (a_cons v_var a_nil)))
    (s_seq (s_setF (v_call (a_cons v_var (a_cons v_int a_nil))))
    (s_seq (s_setF (v_call (a_cons v_var (a_cons v_int a_nil))))
    (s_seq (s_setF (v_make (c := 11) (dd := [(.int 0)]) rfl a_nil (a_cons v_var a_nil)))
    (s_seq (s_if (t_test (v_op d_eq v_var v_int)) (s_setF (v_make (c := 11) (dd := [(.int 0)]) rfl (a_cons v_var a_nil) a_nil)) s_skip)
    (s_seq (s_if (t_and (t_test (v_op d_eq v_var v_int)) (t_test (v_op d_eq v_var v_int))) (s_setF (v_make (c := 11) (dd := [(.int 0)]) rfl a_nil a_nil)) s_skip)
    (s_seq (s_setF (v_put (v_lst a_nil)))
    (s_seq (s_for (i_range1 (a_cons v_int a_nil)) g_name (s_seq (s_asg (v_call (a_cons v_var (a_cons v_var a_nil))) (g_tl (gs_cons g_name (gs_cons g_name gs_nil))))
    (s_seq (s_if (t_or (t_test (v_op d_ne (v_meth (c := 11) (m := "hands") (dd := []) nf_OneCuts_hands rfl v_var a_nil a_nil) v_int)) (t_not (t_val (v_call (a_cons v_var (a_cons v_var (a_cons (v_cb c_list (a_cons v_var a_nil)) (a_cons v_var a_nil)))))))) (s_ret v_bl) s_skip)
    (s_seq (s_if (t_test (v_op d_eq (v_cb c_len (a_cons v_var a_nil)) (v_cb c_len (a_cons v_var a_nil)))) (s_ret (v_op d_eq (v_cb c_len (a_cons v_var a_nil)) v_int)) s_skip)
    (s_seq (s_setF (v_call (a_cons v_var (a_cons (v_op d_ix v_var (v_un d_neg v_int)) (a_cons v_var a_nil)))))
    (s_seq (s_if (t_test (v_op d_notN (v_meth (c := 11) (m := "answer") (dd := []) nf_OneCuts_answer rfl v_var (a_cons v_var a_nil) a_nil) v_non)) (s_ret v_bl) s_skip)
    (s_mt m_append (a_cons v_var a_nil))))))))
    (s_ret v_bl)))))))))⟩
end
end Dn
namespace Dn
open PySem PySem.Spec PyProof.Rows L2
theorem all_mk {l : PySem.W.OpenLaw} {w : World} {K : PySem.W.Frag} {h : Heap} {mg : Str → Option Value} {fa : Addr} (X : K.In h) (G : h.Ns mainGlobals mg) (hfa : mg "law" = some (.ref fa))
    {c_NoFraction : Addr}
    {c_NoSpan : Addr}
    {c_NoHands : Addr}
    {c_Ended : Addr}
    {c_NoReply : Addr}
    {c_NotEnded : Addr}
    {c_Share : Addr}
    {c_Due : Addr}
    {c_Talk : Addr}
    {c_Way : Addr}
    {c_OneCuts : Addr}
    {f0 : Addr} {od0 an0 : Option Addr} {sl0 : Array (Option Value)} {oc0 kV0 dc0 pm0 ct0 : Value}
    {cd0 : Value}
    {f1 : Addr} {od1 an1 : Option Addr} {sl1 : Array (Option Value)} {oc1 kV1 dc1 pm1 ct1 : Value}
    {cd1 : Value}
    {f2 : Addr} {od2 an2 : Option Addr} {sl2 : Array (Option Value)} {oc2 kV2 dc2 pm2 ct2 : Value}
    {cd2 : Value}
    {f3 : Addr} {od3 an3 : Option Addr} {sl3 : Array (Option Value)} {oc3 kV3 dc3 pm3 ct3 : Value}
    {cd3 : Value}
    {f4 : Addr} {od4 an4 : Option Addr} {sl4 : Array (Option Value)} {oc4 kV4 dc4 pm4 ct4 : Value}
    {cd4 : Value}
    {f5 : Addr} {od5 an5 : Option Addr} {sl5 : Array (Option Value)} {oc5 kV5 dc5 pm5 ct5 : Value}
    {cd5 : Value}
    {f6 : Addr} {od6 an6 : Option Addr} {sl6 : Array (Option Value)} {oc6 kV6 dc6 pm6 ct6 : Value}
    {cd6 : Value}
    {f7 : Addr} {od7 an7 : Option Addr} {sl7 : Array (Option Value)} {oc7 kV7 dc7 pm7 ct7 : Value}
    {cd7 : Value}
    {f8 : Addr} {od8 an8 : Option Addr} {sl8 : Array (Option Value)} {oc8 kV8 dc8 pm8 ct8 : Value}
    {cd8 : Value}
    {f9 : Addr} {od9 an9 : Option Addr} {sl9 : Array (Option Value)} {oc9 kV9 dc9 pm9 ct9 : Value}
    {cd9 : Value}
    {f10 : Addr} {od10 an10 : Option Addr} {sl10 : Array (Option Value)} {oc10 kV10 dc10 pm10 ct10 : Value}
    {cd10 : Value}
    {f11 : Addr} {od11 an11 : Option Addr} {sl11 : Array (Option Value)} {oc11 kV11 dc11 pm11 ct11 : Value}
    {cd11 : Value}
    {f12 : Addr} {od12 an12 : Option Addr} {sl12 : Array (Option Value)} {oc12 kV12 dc12 pm12 ct12 : Value}
    {cd12 : Value}
    {f13 : Addr} {od13 an13 : Option Addr} {sl13 : Array (Option Value)} {oc13 kV13 dc13 pm13 ct13 : Value}
    {cd13 : Value}
    {f14 : Addr} {od14 an14 : Option Addr} {sl14 : Array (Option Value)} {oc14 kV14 dc14 pm14 ct14 : Value}
    {cd14 : Value}
    {f15 : Addr} {od15 an15 : Option Addr} {sl15 : Array (Option Value)} {oc15 kV15 dc15 pm15 ct15 : Value}
    {cd15 : Value}
    {f16 : Addr} {od16 an16 : Option Addr} {sl16 : Array (Option Value)} {oc16 kV16 dc16 pm16 ct16 : Value}
    {cd16 : Value}
    {f17 : Addr} {od17 an17 : Option Addr} {sl17 : Array (Option Value)} {oc17 kV17 dc17 pm17 ct17 : Value}
    {cd17 : Value}
    {f18 : Addr} {od18 an18 : Option Addr} {sl18 : Array (Option Value)} {oc18 kV18 dc18 pm18 ct18 : Value}
    {cd18 : Value}
    {f19 : Addr} {od19 an19 : Option Addr} {sl19 : Array (Option Value)} {oc19 kV19 dc19 pm19 ct19 : Value}
    {cd19 : Value}
    {f20 : Addr} {od20 an20 : Option Addr} {sl20 : Array (Option Value)} {oc20 kV20 dc20 pm20 ct20 : Value}
    {cd20 : Value}
    {T20 : Addr} {q20 : Value} {qd20 : Option Addr} {qn20 : Nat} {qs20 : Array (Option Value)}
    {tt20_0 : Tok}
    {f21 : Addr} {od21 an21 : Option Addr} {sl21 : Array (Option Value)} {oc21 kV21 dc21 pm21 ct21 : Value}
    {cd21 : Value}
    {f22 : Addr} {od22 an22 : Option Addr} {sl22 : Array (Option Value)} {oc22 kV22 dc22 pm22 ct22 : Value}
    {cd22 : Value}
    {f23 : Addr} {od23 an23 : Option Addr} {sl23 : Array (Option Value)} {oc23 kV23 dc23 pm23 ct23 : Value}
    {cd23 : Value}
    {f24 : Addr} {od24 an24 : Option Addr} {sl24 : Array (Option Value)} {oc24 kV24 dc24 pm24 ct24 : Value}
    {cd24 : Value}
    {f25 : Addr} {od25 an25 : Option Addr} {sl25 : Array (Option Value)} {oc25 kV25 dc25 pm25 ct25 : Value}
    {cd25 : Value}
    {f26 : Addr} {od26 an26 : Option Addr} {sl26 : Array (Option Value)} {oc26 kV26 dc26 pm26 ct26 : Value}
    {cd26 : Value}
    {T26 : Addr} {q26 : Value} {qd26 : Option Addr} {qn26 : Nat} {qs26 : Array (Option Value)}
    {tt26_0 : Tok}
    {f27 : Addr} {od27 an27 : Option Addr} {sl27 : Array (Option Value)} {oc27 kV27 dc27 pm27 ct27 : Value}
    {cd27 : Value}
    {f28 : Addr} {od28 an28 : Option Addr} {sl28 : Array (Option Value)} {oc28 kV28 dc28 pm28 ct28 : Value}
    {cd28 : Value}
    {f29 : Addr} {od29 an29 : Option Addr} {sl29 : Array (Option Value)} {oc29 kV29 dc29 pm29 ct29 : Value}
    {cd29 : Value}
    {f30 : Addr} {od30 an30 : Option Addr} {sl30 : Array (Option Value)} {oc30 kV30 dc30 pm30 ct30 : Value}
    {cd30 : Value}
    {f31 : Addr} {od31 an31 : Option Addr} {sl31 : Array (Option Value)} {oc31 kV31 dc31 pm31 ct31 : Value}
    {cd31 : Value}
    {f32 : Addr} {od32 an32 : Option Addr} {sl32 : Array (Option Value)} {oc32 kV32 dc32 pm32 ct32 : Value}
    {cd32 : Value}
    {f33 : Addr} {od33 an33 : Option Addr} {sl33 : Array (Option Value)} {oc33 kV33 dc33 pm33 ct33 : Value}
    {zq_Share___init__ zp_Share___init__ : Addr} {qo_Share___init__ : Option Addr} {qv_Share___init__ : Array Value} {qs_Share___init__ : Array (Option Value)}
    {f34 : Addr} {od34 an34 : Option Addr} {sl34 : Array (Option Value)} {oc34 kV34 dc34 pm34 ct34 : Value}
    {zq_Share_both zp_Share_both : Addr} {qo_Share_both : Option Addr} {qv_Share_both : Array Value} {qs_Share_both : Array (Option Value)}
    {f35 : Addr} {od35 an35 : Option Addr} {sl35 : Array (Option Value)} {oc35 kV35 dc35 pm35 ct35 : Value}
    {cd35 : Value}
    {f36 : Addr} {od36 an36 : Option Addr} {sl36 : Array (Option Value)} {oc36 kV36 dc36 pm36 ct36 : Value}
    {cd36 : Value}
    {f37 : Addr} {od37 an37 : Option Addr} {sl37 : Array (Option Value)} {oc37 kV37 dc37 pm37 ct37 : Value}
    {cd37 : Value}
    {f38 : Addr} {od38 an38 : Option Addr} {sl38 : Array (Option Value)} {oc38 kV38 dc38 pm38 ct38 : Value}
    {cd38 : Value}
    {f39 : Addr} {od39 an39 : Option Addr} {sl39 : Array (Option Value)} {oc39 kV39 dc39 pm39 ct39 : Value}
    {cd39 : Value}
    {f40 : Addr} {od40 an40 : Option Addr} {sl40 : Array (Option Value)} {oc40 kV40 dc40 pm40 ct40 : Value}
    {cd40 : Value}
    {f41 : Addr} {od41 an41 : Option Addr} {sl41 : Array (Option Value)} {oc41 kV41 dc41 pm41 ct41 : Value}
    {cd41 : Value}
    {f42 : Addr} {od42 an42 : Option Addr} {sl42 : Array (Option Value)} {oc42 kV42 dc42 pm42 ct42 : Value}
    {cd42 : Value}
    {f43 : Addr} {od43 an43 : Option Addr} {sl43 : Array (Option Value)} {oc43 kV43 dc43 pm43 ct43 : Value}
    {cd43 : Value}
    {f44 : Addr} {od44 an44 : Option Addr} {sl44 : Array (Option Value)} {oc44 kV44 dc44 pm44 ct44 : Value}
    {cd44 : Value}
    {a_ALL_0 : Addr} {a_ALL_0d : Option Addr} {a_ALL_0n : Nat} {a_ALL_0s : Array (Option Value)}
    {a_ALL_0t0 : Tok}
    {a_ALL_0t1 : Tok}
    {a_BEGIN_0 : Addr} {a_BEGIN_0d : Option Addr} {a_BEGIN_0n : Nat} {a_BEGIN_0s : Array (Option Value)}
    {a_BEGIN_0t0 : Tok}
    {a_BEGIN_0t1 : Tok}
    {a_END_0 : Addr} {a_END_0d : Option Addr} {a_END_0n : Nat} {a_END_0s : Array (Option Value)}
    {a_END_0t0 : Tok}
    {a_END_0t1 : Tok}
    {a_NONE_0 : Addr} {a_NONE_0d : Option Addr} {a_NONE_0n : Nat} {a_NONE_0s : Array (Option Value)}
    {a_NONE_0t0 : Tok}
    {a_NONE_0t1 : Tok}
    {xnm_NoReply xq_NoReply : Str} {xN_NoReply : Addr} {xbs_NoReply xbm_NoReply : List Value} {xsn_NoReply : List Str} {xsub_NoReply : List Value} {xab_NoReply : Bool} {xcol_NoReply : Option Bool} {xdd_NoReply : Option Addr} {xk0_NoReply xk1_NoReply xk2_NoReply xk3_NoReply xk5_NoReply : Option Value}
    {xnm_NotEnded xq_NotEnded : Str} {xN_NotEnded : Addr} {xbs_NotEnded xbm_NotEnded : List Value} {xsn_NotEnded : List Str} {xsub_NotEnded : List Value} {xab_NotEnded : Bool} {xcol_NotEnded : Option Bool} {xdd_NotEnded : Option Addr} {xk0_NotEnded xk1_NotEnded xk2_NotEnded xk3_NotEnded xk5_NotEnded : Option Value}
    (g_NoFraction : PySem.W.nsIn K mainGlobals "NoFraction" = some (some (.ref c_NoFraction)))
    (g_NoSpan : PySem.W.nsIn K mainGlobals "NoSpan" = some (some (.ref c_NoSpan)))
    (g_NoHands : PySem.W.nsIn K mainGlobals "NoHands" = some (some (.ref c_NoHands)))
    (g_Ended : PySem.W.nsIn K mainGlobals "Ended" = some (some (.ref c_Ended)))
    (g_NoReply : PySem.W.nsIn K mainGlobals "NoReply" = some (some (.ref c_NoReply)))
    (g_NotEnded : PySem.W.nsIn K mainGlobals "NotEnded" = some (some (.ref c_NotEnded)))
    (g_Share : PySem.W.nsIn K mainGlobals "Share" = some (some (.ref c_Share)))
    (g_Due : PySem.W.nsIn K mainGlobals "Due" = some (some (.ref c_Due)))
    (g_Talk : PySem.W.nsIn K mainGlobals "Talk" = some (some (.ref c_Talk)))
    (g_Way : PySem.W.nsIn K mainGlobals "Way" = some (some (.ref c_Way)))
    (g_OneCuts : PySem.W.nsIn K mainGlobals "OneCuts" = some (some (.ref c_OneCuts)))
    (a0 : PySem.W.findIn K (.ref c_NoReply) "__init__" = some (some (.ref f0)))
    (l0 : K.lookup f0 = some ⟨oc0, od0, .func (PySem.W.fnOf "__init__" "NoReply.__init__" (defArgs s_NoReply___init__) (defBody s_NoReply___init__) (defScope s_NoReply___init__) .none kV0 dc0 pm0 an0 cd0 ct0), sl0⟩)
    (c0 : PySem.W.codeIn K cd0 "NoReply.__init__" = true)
    (k0 : PySem.W.keepIn K (.ref f0) = true)
    (a1 : PySem.W.findIn K (.ref c_NotEnded) "__init__" = some (some (.ref f1)))
    (l1 : K.lookup f1 = some ⟨oc1, od1, .func (PySem.W.fnOf "__init__" "NotEnded.__init__" (defArgs s_NotEnded___init__) (defBody s_NotEnded___init__) (defScope s_NotEnded___init__) .none kV1 dc1 pm1 an1 cd1 ct1), sl1⟩)
    (c1 : PySem.W.codeIn K cd1 "NotEnded.__init__" = true)
    (k1 : PySem.W.keepIn K (.ref f1) = true)
    (a2 : PySem.W.nsIn K mainGlobals "divisor" = some (some (.ref f2)))
    (l2 : K.lookup f2 = some ⟨oc2, od2, .func (PySem.W.fnOf "divisor" "divisor" (defArgs s_divisor) (defBody s_divisor) (defScope s_divisor) .none kV2 dc2 pm2 an2 cd2 ct2), sl2⟩)
    (c2 : PySem.W.codeIn K cd2 "divisor" = true)
    (k2 : PySem.W.keepIn K (.ref f2) = true)
    (a3 : PySem.W.nsIn K mainGlobals "is_less" = some (some (.ref f3)))
    (l3 : K.lookup f3 = some ⟨oc3, od3, .func (PySem.W.fnOf "is_less" "is_less" (defArgs s_is_less) (defBody s_is_less) (defScope s_is_less) .none kV3 dc3 pm3 an3 cd3 ct3), sl3⟩)
    (c3 : PySem.W.codeIn K cd3 "is_less" = true)
    (k3 : PySem.W.keepIn K (.ref f3) = true)
    (a4 : PySem.W.nsIn K mainGlobals "spans_where" = some (some (.ref f4)))
    (l4 : K.lookup f4 = some ⟨oc4, od4, .func (PySem.W.fnOf "spans_where" "spans_where" (defArgs s_spans_where) (defBody s_spans_where) (defScope s_spans_where) .none kV4 dc4 pm4 an4 cd4 ct4), sl4⟩)
    (c4 : PySem.W.codeIn K cd4 "spans_where" = true)
    (k4 : PySem.W.keepIn K (.ref f4) = true)
    (a5 : PySem.W.findIn K (.ref c_Share) "spans" = some (some (.ref f5)))
    (l5 : K.lookup f5 = some ⟨oc5, od5, .func (PySem.W.fnOf "spans" "Share.spans" (defArgs s_Share_spans) (defBody s_Share_spans) (defScope s_Share_spans) .none kV5 dc5 pm5 an5 cd5 ct5), sl5⟩)
    (c5 : PySem.W.codeIn K cd5 "Share.spans" = true)
    (k5 : PySem.W.keepIn K (.ref f5) = true)
    (a6 : PySem.W.findIn K (.ref c_Share) "__len__" = some (some (.ref f6)))
    (l6 : K.lookup f6 = some ⟨oc6, od6, .func (PySem.W.fnOf "__len__" "Share.__len__" (defArgs s_Share___len__) (defBody s_Share___len__) (defScope s_Share___len__) .none kV6 dc6 pm6 an6 cd6 ct6), sl6⟩)
    (c6 : PySem.W.codeIn K cd6 "Share.__len__" = true)
    (k6 : PySem.W.keepIn K (.ref f6) = true)
    (a7 : PySem.W.findIn K (.ref c_Share) "__eq__" = some (some (.ref f7)))
    (l7 : K.lookup f7 = some ⟨oc7, od7, .func (PySem.W.fnOf "__eq__" "Share.__eq__" (defArgs s_Share___eq__) (defBody s_Share___eq__) (defScope s_Share___eq__) .none kV7 dc7 pm7 an7 cd7 ct7), sl7⟩)
    (c7 : PySem.W.codeIn K cd7 "Share.__eq__" = true)
    (k7 : PySem.W.keepIn K (.ref f7) = true)
    (a8 : PySem.W.findIn K (.ref c_Talk) "__init__" = some (some (.ref f8)))
    (l8 : K.lookup f8 = some ⟨oc8, od8, .func (PySem.W.fnOf "__init__" "Talk.__init__" (defArgs s_Talk___init__) (defBody s_Talk___init__) (defScope s_Talk___init__) .none kV8 dc8 pm8 an8 cd8 ct8), sl8⟩)
    (c8 : PySem.W.codeIn K cd8 "Talk.__init__" = true)
    (k8 : PySem.W.keepIn K (.ref f8) = true)
    (a9 : PySem.W.findIn K (.ref c_Talk) "hear" = some (some (.ref f9)))
    (l9 : K.lookup f9 = some ⟨oc9, od9, .func (PySem.W.fnOf "hear" "Talk.hear" (defArgs s_Talk_hear) (defBody s_Talk_hear) (defScope s_Talk_hear) .none kV9 dc9 pm9 an9 cd9 ct9), sl9⟩)
    (c9 : PySem.W.codeIn K cd9 "Talk.hear" = true)
    (k9 : PySem.W.keepIn K (.ref f9) = true)
    (a10 : PySem.W.nsIn K mainGlobals "is_whole" = some (some (.ref f10)))
    (l10 : K.lookup f10 = some ⟨oc10, od10, .func (PySem.W.fnOf "is_whole" "is_whole" (defArgs s_is_whole) (defBody s_is_whole) (defScope s_is_whole) .none kV10 dc10 pm10 an10 cd10 ct10), sl10⟩)
    (c10 : PySem.W.codeIn K cd10 "is_whole" = true)
    (k10 : PySem.W.keepIn K (.ref f10) = true)
    (a11 : PySem.W.findIn K (.ref c_Way) "__init__" = some (some (.ref f11)))
    (l11 : K.lookup f11 = some ⟨oc11, od11, .func (PySem.W.fnOf "__init__" "Way.__init__" (defArgs s_Way___init__) (defBody s_Way___init__) (defScope s_Way___init__) .none kV11 dc11 pm11 an11 cd11 ct11), sl11⟩)
    (c11 : PySem.W.codeIn K cd11 "Way.__init__" = true)
    (k11 : PySem.W.keepIn K (.ref f11) = true)
    (a12 : PySem.W.findIn K (.ref c_Way) "__len__" = some (some (.ref f12)))
    (l12 : K.lookup f12 = some ⟨oc12, od12, .func (PySem.W.fnOf "__len__" "Way.__len__" (defArgs s_Way___len__) (defBody s_Way___len__) (defScope s_Way___len__) .none kV12 dc12 pm12 an12 cd12 ct12), sl12⟩)
    (c12 : PySem.W.codeIn K cd12 "Way.__len__" = true)
    (k12 : PySem.W.keepIn K (.ref f12) = true)
    (a13 : PySem.W.findIn K (.ref c_OneCuts) "hands" = some (some (.ref f13)))
    (l13 : K.lookup f13 = some ⟨oc13, od13, .func (PySem.W.fnOf "hands" "OneCuts.hands" (defArgs s_OneCuts_hands) (defBody s_OneCuts_hands) (defScope s_OneCuts_hands) .none kV13 dc13 pm13 an13 cd13 ct13), sl13⟩)
    (c13 : PySem.W.codeIn K cd13 "OneCuts.hands" = true)
    (k13 : PySem.W.keepIn K (.ref f13) = true)
    (a14 : PySem.W.findIn K (.ref c_OneCuts) "alike" = some (some (.ref f14)))
    (l14 : K.lookup f14 = some ⟨oc14, od14, .func (PySem.W.fnOf "alike" "OneCuts.alike" (defArgs s_OneCuts_alike) (defBody s_OneCuts_alike) (defScope s_OneCuts_alike) .none kV14 dc14 pm14 an14 cd14 ct14), sl14⟩)
    (c14 : PySem.W.codeIn K cd14 "OneCuts.alike" = true)
    (k14 : PySem.W.keepIn K (.ref f14) = true)
    (a15 : PySem.W.nsIn K mainGlobals "_law_box" = some (some (.ref f15)))
    (l15 : K.lookup f15 = some ⟨oc15, od15, .func (PySem.W.fnOf "_law_box" "_law_box" (defArgs s_law_box) (defBody s_law_box) (defScope s_law_box) .none kV15 dc15 pm15 an15 cd15 ct15), sl15⟩)
    (c15 : PySem.W.codeIn K cd15 "_law_box" = true)
    (k15 : PySem.W.keepIn K (.ref f15) = true)
    (a16 : PySem.W.nsIn K mainGlobals "_law_mixed" = some (some (.ref f16)))
    (l16 : K.lookup f16 = some ⟨oc16, od16, .func (PySem.W.fnOf "_law_mixed" "_law_mixed" (defArgs s_law_mixed) (defBody s_law_mixed) (defScope s_law_mixed) .none kV16 dc16 pm16 an16 cd16 ct16), sl16⟩)
    (c16 : PySem.W.codeIn K cd16 "_law_mixed" = true)
    (k16 : PySem.W.keepIn K (.ref f16) = true)
    (a17 : PySem.W.nsIn K mainGlobals "_law_low" = some (some (.ref f17)))
    (l17 : K.lookup f17 = some ⟨oc17, od17, .func (PySem.W.fnOf "_law_low" "_law_low" (defArgs s_law_low) (defBody s_law_low) (defScope s_law_low) .none kV17 dc17 pm17 an17 cd17 ct17), sl17⟩)
    (c17 : PySem.W.codeIn K cd17 "_law_low" = true)
    (k17 : PySem.W.keepIn K (.ref f17) = true)
    (a18 : PySem.W.nsIn K mainGlobals "_law_less" = some (some (.ref f18)))
    (l18 : K.lookup f18 = some ⟨oc18, od18, .func (PySem.W.fnOf "_law_less" "_law_less" (defArgs s_law_less) (defBody s_law_less) (defScope s_law_less) .none kV18 dc18 pm18 an18 cd18 ct18), sl18⟩)
    (c18 : PySem.W.codeIn K cd18 "_law_less" = true)
    (k18 : PySem.W.keepIn K (.ref f18) = true)
    (a19 : PySem.W.nsIn K mainGlobals "_law_onecuts" = some (some (.ref f19)))
    (l19 : K.lookup f19 = some ⟨oc19, od19, .func (PySem.W.fnOf "_law_onecuts" "_law_onecuts" (defArgs s_law_onecuts) (defBody s_law_onecuts) (defScope s_law_onecuts) .none kV19 dc19 pm19 an19 cd19 ct19), sl19⟩)
    (c19 : PySem.W.codeIn K cd19 "_law_onecuts" = true)
    (k19 : PySem.W.keepIn K (.ref f19) = true)
    (a20 : PySem.W.nsIn K mainGlobals "fraction_of" = some (some (.ref f20)))
    (l20 : K.lookup f20 = some ⟨oc20, od20, .func (PySem.W.fnOf "fraction_of" "fraction_of" (defArgs s_fraction_of) (defBody s_fraction_of) (defScope s_fraction_of) (.ref T20) kV20 dc20 pm20 an20 cd20 ct20), sl20⟩)
    (c20 : PySem.W.codeIn K cd20 "fraction_of" = true)
    (k20 : PySem.W.keepIn K (.ref f20) = true)
    (lT20 : K.lookup T20 = some ⟨q20, qd20, .seq ([(.int 1 tt20_0)] : List Value).toArray qn20, qs20⟩)
    (a21 : PySem.W.nsIn K mainGlobals "ask_span" = some (some (.ref f21)))
    (l21 : K.lookup f21 = some ⟨oc21, od21, .func (PySem.W.fnOf "ask_span" "ask_span" (defArgs s_ask_span) (defBody s_ask_span) (defScope s_ask_span) .none kV21 dc21 pm21 an21 cd21 ct21), sl21⟩)
    (c21 : PySem.W.codeIn K cd21 "ask_span" = true)
    (k21 : PySem.W.keepIn K (.ref f21) = true)
    (a22 : PySem.W.nsIn K mainGlobals "rising_places" = some (some (.ref f22)))
    (l22 : K.lookup f22 = some ⟨oc22, od22, .func (PySem.W.fnOf "rising_places" "rising_places" (defArgs s_rising_places) (defBody s_rising_places) (defScope s_rising_places) .none kV22 dc22 pm22 an22 cd22 ct22), sl22⟩)
    (c22 : PySem.W.codeIn K cd22 "rising_places" = true)
    (k22 : PySem.W.keepIn K (.ref f22) = true)
    (a23 : PySem.W.nsIn K mainGlobals "covers" = some (some (.ref f23)))
    (l23 : K.lookup f23 = some ⟨oc23, od23, .func (PySem.W.fnOf "covers" "covers" (defArgs s_covers) (defBody s_covers) (defScope s_covers) .none kV23 dc23 pm23 an23 cd23 ct23), sl23⟩)
    (c23 : PySem.W.codeIn K cd23 "covers" = true)
    (k23 : PySem.W.keepIn K (.ref f23) = true)
    (a24 : PySem.W.findIn K (.ref c_Way) "told_all" = some (some (.ref f24)))
    (l24 : K.lookup f24 = some ⟨oc24, od24, .func (PySem.W.fnOf "told_all" "Way.told_all" (defArgs s_Way_told_all) (defBody s_Way_told_all) (defScope s_Way_told_all) .none kV24 dc24 pm24 an24 cd24 ct24), sl24⟩)
    (c24 : PySem.W.codeIn K cd24 "Way.told_all" = true)
    (k24 : PySem.W.keepIn K (.ref f24) = true)
    (a25 : PySem.W.findIn K (.ref c_Way) "__eq__" = some (some (.ref f25)))
    (l25 : K.lookup f25 = some ⟨oc25, od25, .func (PySem.W.fnOf "__eq__" "Way.__eq__" (defArgs s_Way___eq__) (defBody s_Way___eq__) (defScope s_Way___eq__) .none kV25 dc25 pm25 an25 cd25 ct25), sl25⟩)
    (c25 : PySem.W.codeIn K cd25 "Way.__eq__" = true)
    (k25 : PySem.W.keepIn K (.ref f25) = true)
    (a26 : PySem.W.findIn K (.ref c_OneCuts) "__init__" = some (some (.ref f26)))
    (l26 : K.lookup f26 = some ⟨oc26, od26, .func (PySem.W.fnOf "__init__" "OneCuts.__init__" (defArgs s_OneCuts___init__) (defBody s_OneCuts___init__) (defScope s_OneCuts___init__) (.ref T26) kV26 dc26 pm26 an26 cd26 ct26), sl26⟩)
    (c26 : PySem.W.codeIn K cd26 "OneCuts.__init__" = true)
    (k26 : PySem.W.keepIn K (.ref f26) = true)
    (lT26 : K.lookup T26 = some ⟨q26, qd26, .seq ([(.int 0 tt26_0)] : List Value).toArray qn26, qs26⟩)
    (a27 : PySem.W.findIn K (.ref c_OneCuts) "parted" = some (some (.ref f27)))
    (l27 : K.lookup f27 = some ⟨oc27, od27, .func (PySem.W.fnOf "parted" "OneCuts.parted" (defArgs s_OneCuts_parted) (defBody s_OneCuts_parted) (defScope s_OneCuts_parted) .none kV27 dc27 pm27 an27 cd27 ct27), sl27⟩)
    (c27 : PySem.W.codeIn K cd27 "OneCuts.parted" = true)
    (k27 : PySem.W.keepIn K (.ref f27) = true)
    (a28 : PySem.W.nsIn K mainGlobals "_law_take" = some (some (.ref f28)))
    (l28 : K.lookup f28 = some ⟨oc28, od28, .func (PySem.W.fnOf "_law_take" "_law_take" (defArgs s_law_take) (defBody s_law_take) (defScope s_law_take) .none kV28 dc28 pm28 an28 cd28 ct28), sl28⟩)
    (c28 : PySem.W.codeIn K cd28 "_law_take" = true)
    (k28 : PySem.W.keepIn K (.ref f28) = true)
    (a29 : PySem.W.nsIn K mainGlobals "_law_plus" = some (some (.ref f29)))
    (l29 : K.lookup f29 = some ⟨oc29, od29, .func (PySem.W.fnOf "_law_plus" "_law_plus" (defArgs s_law_plus) (defBody s_law_plus) (defScope s_law_plus) .none kV29 dc29 pm29 an29 cd29 ct29), sl29⟩)
    (c29 : PySem.W.codeIn K cd29 "_law_plus" = true)
    (k29 : PySem.W.keepIn K (.ref f29) = true)
    (a30 : PySem.W.nsIn K mainGlobals "is_fraction" = some (some (.ref f30)))
    (l30 : K.lookup f30 = some ⟨oc30, od30, .func (PySem.W.fnOf "is_fraction" "is_fraction" (defArgs s_is_fraction) (defBody s_is_fraction) (defScope s_is_fraction) .none kV30 dc30 pm30 an30 cd30 ct30), sl30⟩)
    (c30 : PySem.W.codeIn K cd30 "is_fraction" = true)
    (k30 : PySem.W.keepIn K (.ref f30) = true)
    (a31 : PySem.W.nsIn K mainGlobals "_law_reply" = some (some (.ref f31)))
    (l31 : K.lookup f31 = some ⟨oc31, od31, .func (PySem.W.fnOf "_law_reply" "_law_reply" (defArgs s_law_reply) (defBody s_law_reply) (defScope s_law_reply) .none kV31 dc31 pm31 an31 cd31 ct31), sl31⟩)
    (c31 : PySem.W.codeIn K cd31 "_law_reply" = true)
    (k31 : PySem.W.keepIn K (.ref f31) = true)
    (a32 : PySem.W.nsIn K mainGlobals "is_legal" = some (some (.ref f32)))
    (l32 : K.lookup f32 = some ⟨oc32, od32, .func (PySem.W.fnOf "is_legal" "is_legal" (defArgs s_is_legal) (defBody s_is_legal) (defScope s_is_legal) .none kV32 dc32 pm32 an32 cd32 ct32), sl32⟩)
    (c32 : PySem.W.codeIn K cd32 "is_legal" = true)
    (k32 : PySem.W.keepIn K (.ref f32) = true)
    (a33 : PySem.W.findIn K (.ref c_Share) "__init__" = some (some (.ref f33)))
    (l33 : K.lookup f33 = some ⟨oc33, od33, .func (PySem.W.fnOf "__init__" "Share.__init__" (defArgs s_Share___init__) (defBody s_Share___init__) (defScope s_Share___init__) .none kV33 dc33 pm33 an33 (.ref zq_Share___init__) ct33), sl33⟩)
    (c33 : PySem.W.codeIn K (.ref zq_Share___init__) "Share.__init__" = true)
    (lq33 : K.lookup zq_Share___init__ = some ⟨.type "code", qo_Share___init__, .fields qv_Share___init__, qs_Share___init__⟩)
    (lp33 : qv_Share___init__[11]? = some (.ref zp_Share___init__))
    (lh33 : PySem.W.codeHdIn K zq_Share___init__ zp_Share___init__ = true)
    (ln33 : K.lookup zp_Share___init__ = none)
    (lt33 : h.get? zp_Share___init__ = some { cls := .none, data := .fields #[] })
    (k33 : PySem.W.keepIn K (.ref f33) = true)
    (a34 : PySem.W.findIn K (.ref c_Share) "both" = some (some (.ref f34)))
    (l34 : K.lookup f34 = some ⟨oc34, od34, .func (PySem.W.fnOf "both" "Share.both" (defArgs s_Share_both) (defBody s_Share_both) (defScope s_Share_both) .none kV34 dc34 pm34 an34 (.ref zq_Share_both) ct34), sl34⟩)
    (c34 : PySem.W.codeIn K (.ref zq_Share_both) "Share.both" = true)
    (lq34 : K.lookup zq_Share_both = some ⟨.type "code", qo_Share_both, .fields qv_Share_both, qs_Share_both⟩)
    (lp34 : qv_Share_both[11]? = some (.ref zp_Share_both))
    (lh34 : PySem.W.codeHdIn K zq_Share_both zp_Share_both = true)
    (ln34 : K.lookup zp_Share_both = none)
    (lt34 : h.get? zp_Share_both = some { cls := .none, data := .fields #[] })
    (k34 : PySem.W.keepIn K (.ref f34) = true)
    (a35 : PySem.W.findIn K (.ref c_Share) "parted" = some (some (.ref f35)))
    (l35 : K.lookup f35 = some ⟨oc35, od35, .func (PySem.W.fnOf "parted" "Share.parted" (defArgs s_Share_parted) (defBody s_Share_parted) (defScope s_Share_parted) .none kV35 dc35 pm35 an35 cd35 ct35), sl35⟩)
    (c35 : PySem.W.codeIn K cd35 "Share.parted" = true)
    (k35 : PySem.W.keepIn K (.ref f35) = true)
    (a36 : PySem.W.findIn K (.ref c_Way) "talk" = some (some (.ref f36)))
    (l36 : K.lookup f36 = some ⟨oc36, od36, .func (PySem.W.fnOf "talk" "Way.talk" (defArgs s_Way_talk) (defBody s_Way_talk) (defScope s_Way_talk) .none kV36 dc36 pm36 an36 cd36 ct36), sl36⟩)
    (c36 : PySem.W.codeIn K cd36 "Way.talk" = true)
    (k36 : PySem.W.keepIn K (.ref f36) = true)
    (a37 : PySem.W.findIn K (.ref c_Way) "due" = some (some (.ref f37)))
    (l37 : K.lookup f37 = some ⟨oc37, od37, .func (PySem.W.fnOf "due" "Way.due" (defArgs s_Way_due) (defBody s_Way_due) (defScope s_Way_due) .none kV37 dc37 pm37 an37 cd37 ct37), sl37⟩)
    (c37 : PySem.W.codeIn K cd37 "Way.due" = true)
    (k37 : PySem.W.keepIn K (.ref f37) = true)
    (a38 : PySem.W.findIn K (.ref c_Way) "log" = some (some (.ref f38)))
    (l38 : K.lookup f38 = some ⟨oc38, od38, .func (PySem.W.fnOf "log" "Way.log" (defArgs s_Way_log) (defBody s_Way_log) (defScope s_Way_log) .none kV38 dc38 pm38 an38 cd38 ct38), sl38⟩)
    (c38 : PySem.W.codeIn K cd38 "Way.log" = true)
    (k38 : PySem.W.keepIn K (.ref f38) = true)
    (a39 : PySem.W.findIn K (.ref c_Way) "asked" = some (some (.ref f39)))
    (l39 : K.lookup f39 = some ⟨oc39, od39, .func (PySem.W.fnOf "asked" "Way.asked" (defArgs s_Way_asked) (defBody s_Way_asked) (defScope s_Way_asked) .none kV39 dc39 pm39 an39 cd39 ct39), sl39⟩)
    (c39 : PySem.W.codeIn K cd39 "Way.asked" = true)
    (k39 : PySem.W.keepIn K (.ref f39) = true)
    (a40 : PySem.W.findIn K (.ref c_Way) "shares" = some (some (.ref f40)))
    (l40 : K.lookup f40 = some ⟨oc40, od40, .func (PySem.W.fnOf "shares" "Way.shares" (defArgs s_Way_shares) (defBody s_Way_shares) (defScope s_Way_shares) .none kV40 dc40 pm40 an40 cd40 ct40), sl40⟩)
    (c40 : PySem.W.codeIn K cd40 "Way.shares" = true)
    (k40 : PySem.W.keepIn K (.ref f40) = true)
    (a41 : PySem.W.findIn K (.ref c_Way) "ended" = some (some (.ref f41)))
    (l41 : K.lookup f41 = some ⟨oc41, od41, .func (PySem.W.fnOf "ended" "Way.ended" (defArgs s_Way_ended) (defBody s_Way_ended) (defScope s_Way_ended) .none kV41 dc41 pm41 an41 cd41 ct41), sl41⟩)
    (c41 : PySem.W.codeIn K cd41 "Way.ended" = true)
    (k41 : PySem.W.keepIn K (.ref f41) = true)
    (a42 : PySem.W.findIn K (.ref c_Way) "answer" = some (some (.ref f42)))
    (l42 : K.lookup f42 = some ⟨oc42, od42, .func (PySem.W.fnOf "answer" "Way.answer" (defArgs s_Way_answer) (defBody s_Way_answer) (defScope s_Way_answer) .none kV42 dc42 pm42 an42 cd42 ct42), sl42⟩)
    (c42 : PySem.W.codeIn K cd42 "Way.answer" = true)
    (k42 : PySem.W.keepIn K (.ref f42) = true)
    (a43 : PySem.W.nsIn K mainGlobals "_law_stands" = some (some (.ref f43)))
    (l43 : K.lookup f43 = some ⟨oc43, od43, .func (PySem.W.fnOf "_law_stands" "_law_stands" (defArgs s_law_stands) (defBody s_law_stands) (defScope s_law_stands) .none kV43 dc43 pm43 an43 cd43 ct43), sl43⟩)
    (c43 : PySem.W.codeIn K cd43 "_law_stands" = true)
    (k43 : PySem.W.keepIn K (.ref f43) = true)
    (a44 : PySem.W.nsIn K mainGlobals "law" = some (some (.ref f44)))
    (l44 : K.lookup f44 = some ⟨oc44, od44, .func (PySem.W.fnOf "law" "law" (defArgs s_law) (defBody s_law) (defScope s_law) .none kV44 dc44 pm44 an44 cd44 ct44), sl44⟩)
    (c44 : PySem.W.codeIn K cd44 "law" = true)
    (k44 : PySem.W.keepIn K (.ref f44) = true)
    (pg_Share : PySem.W.plainGet K c_Share Str.empty = true)
    (hD_Share : PySem.W.hasDictIn K c_Share = true)
    (po_Share : PySem.W.plainOver K c_Share = true)
    (sa_Share : PySem.W.findIn K (.ref c_Share) "__setattr__" = some (some (.builtin "object.__setattr__")))
    (pg_Talk : PySem.W.plainGet K c_Talk Str.empty = true)
    (hD_Talk : PySem.W.hasDictIn K c_Talk = true)
    (po_Talk : PySem.W.plainOver K c_Talk = true)
    (sa_Talk : PySem.W.findIn K (.ref c_Talk) "__setattr__" = some (some (.builtin "object.__setattr__")))
    (pg_Way : PySem.W.plainGet K c_Way Str.empty = true)
    (hD_Way : PySem.W.hasDictIn K c_Way = true)
    (po_Way : PySem.W.plainOver K c_Way = true)
    (sa_Way : PySem.W.findIn K (.ref c_Way) "__setattr__" = some (some (.builtin "object.__setattr__")))
    (pg_OneCuts : PySem.W.plainGet K c_OneCuts Str.empty = true)
    (hD_OneCuts : PySem.W.hasDictIn K c_OneCuts = true)
    (po_OneCuts : PySem.W.plainOver K c_OneCuts = true)
    (sa_OneCuts : PySem.W.findIn K (.ref c_OneCuts) "__setattr__" = some (some (.builtin "object.__setattr__")))
    (mm_Share : PySem.W.makesIn K c_Share = true)
    (mi_Share : PySem.W.findIn K (.ref c_Share) "__init__" = some (some (.ref f33)))
    (mf_Share : PySem.W.isFn K (.ref f33) = true)
    (mp_Share : PySem.W.keepIn K (.ref c_Share) = true)
    (mm_Talk : PySem.W.makesIn K c_Talk = true)
    (mi_Talk : PySem.W.findIn K (.ref c_Talk) "__init__" = some (some (.ref f8)))
    (mf_Talk : PySem.W.isFn K (.ref f8) = true)
    (mp_Talk : PySem.W.keepIn K (.ref c_Talk) = true)
    (mm_OneCuts : PySem.W.makesIn K c_OneCuts = true)
    (mi_OneCuts : PySem.W.findIn K (.ref c_OneCuts) "__init__" = some (some (.ref f26)))
    (mf_OneCuts : PySem.W.isFn K (.ref f26) = true)
    (mp_OneCuts : PySem.W.keepIn K (.ref c_OneCuts) = true)
    (ta_OneCuts___eq__ : PySem.W.findIn K (.ref c_OneCuts) "__eq__" = some (some (.ref f25)))
    (tf_OneCuts___eq__ : PySem.W.isFn K (.ref f25) = true)
    (ta_OneCuts___len__ : PySem.W.findIn K (.ref c_OneCuts) "__len__" = some (some (.ref f12)))
    (tf_OneCuts___len__ : PySem.W.isFn K (.ref f12) = true)
    (ta_OneCuts_alike : PySem.W.findIn K (.ref c_OneCuts) "alike" = some (some (.ref f14)))
    (tf_OneCuts_alike : PySem.W.isFn K (.ref f14) = true)
    (ta_OneCuts_answer : PySem.W.findIn K (.ref c_OneCuts) "answer" = some (some (.ref f42)))
    (tf_OneCuts_answer : PySem.W.isFn K (.ref f42) = true)
    (ta_OneCuts_asked : PySem.W.findIn K (.ref c_OneCuts) "asked" = some (some (.ref f39)))
    (tf_OneCuts_asked : PySem.W.isFn K (.ref f39) = true)
    (ta_OneCuts_due : PySem.W.findIn K (.ref c_OneCuts) "due" = some (some (.ref f37)))
    (tf_OneCuts_due : PySem.W.isFn K (.ref f37) = true)
    (ta_OneCuts_ended : PySem.W.findIn K (.ref c_OneCuts) "ended" = some (some (.ref f41)))
    (tf_OneCuts_ended : PySem.W.isFn K (.ref f41) = true)
    (ta_OneCuts_hands : PySem.W.findIn K (.ref c_OneCuts) "hands" = some (some (.ref f13)))
    (tf_OneCuts_hands : PySem.W.isFn K (.ref f13) = true)
    (ta_OneCuts_log : PySem.W.findIn K (.ref c_OneCuts) "log" = some (some (.ref f38)))
    (tf_OneCuts_log : PySem.W.isFn K (.ref f38) = true)
    (ta_OneCuts_parted : PySem.W.findIn K (.ref c_OneCuts) "parted" = some (some (.ref f27)))
    (tf_OneCuts_parted : PySem.W.isFn K (.ref f27) = true)
    (ta_OneCuts_shares : PySem.W.findIn K (.ref c_OneCuts) "shares" = some (some (.ref f40)))
    (tf_OneCuts_shares : PySem.W.isFn K (.ref f40) = true)
    (ta_OneCuts_talk : PySem.W.findIn K (.ref c_OneCuts) "talk" = some (some (.ref f36)))
    (tf_OneCuts_talk : PySem.W.isFn K (.ref f36) = true)
    (ta_OneCuts_told_all : PySem.W.findIn K (.ref c_OneCuts) "told_all" = some (some (.ref f24)))
    (tf_OneCuts_told_all : PySem.W.isFn K (.ref f24) = true)
    (ta_Share___eq__ : PySem.W.findIn K (.ref c_Share) "__eq__" = some (some (.ref f7)))
    (tf_Share___eq__ : PySem.W.isFn K (.ref f7) = true)
    (ta_Share___len__ : PySem.W.findIn K (.ref c_Share) "__len__" = some (some (.ref f6)))
    (tf_Share___len__ : PySem.W.isFn K (.ref f6) = true)
    (ta_Share_both : PySem.W.findIn K (.ref c_Share) "both" = some (some (.ref f34)))
    (tf_Share_both : PySem.W.isFn K (.ref f34) = true)
    (ta_Share_parted : PySem.W.findIn K (.ref c_Share) "parted" = some (some (.ref f35)))
    (tf_Share_parted : PySem.W.isFn K (.ref f35) = true)
    (ta_Share_spans : PySem.W.findIn K (.ref c_Share) "spans" = some (some (.ref f5)))
    (tf_Share_spans : PySem.W.isFn K (.ref f5) = true)
    (ta_Talk_hear : PySem.W.findIn K (.ref c_Talk) "hear" = some (some (.ref f9)))
    (tf_Talk_hear : PySem.W.isFn K (.ref f9) = true)
    (ka_Share : PySem.W.findIn K (.ref c_Share) "__class__" = some (some (.builtin "object.__class__")))
    (kn_Share : PySem.W.specialIn K (.builtin "object.__class__") "__get__" = some (some (.builtin "getset_descriptor.__get__")))
    (kt_Share : PySem.W.takesIn K (.builtin "object.__class__") = some true)
    (km_Share : PySem.W.mroIn K c_Share (.type "object") = some true)
    (ka_Talk : PySem.W.findIn K (.ref c_Talk) "__class__" = some (some (.builtin "object.__class__")))
    (kn_Talk : PySem.W.specialIn K (.builtin "object.__class__") "__get__" = some (some (.builtin "getset_descriptor.__get__")))
    (kt_Talk : PySem.W.takesIn K (.builtin "object.__class__") = some true)
    (km_Talk : PySem.W.mroIn K c_Talk (.type "object") = some true)
    (ka_Way : PySem.W.findIn K (.ref c_Way) "__class__" = some (some (.builtin "object.__class__")))
    (kn_Way : PySem.W.specialIn K (.builtin "object.__class__") "__get__" = some (some (.builtin "getset_descriptor.__get__")))
    (kt_Way : PySem.W.takesIn K (.builtin "object.__class__") = some true)
    (km_Way : PySem.W.mroIn K c_Way (.type "object") = some true)
    (ka_OneCuts : PySem.W.findIn K (.ref c_OneCuts) "__class__" = some (some (.builtin "object.__class__")))
    (kn_OneCuts : PySem.W.specialIn K (.builtin "object.__class__") "__get__" = some (some (.builtin "getset_descriptor.__get__")))
    (kt_OneCuts : PySem.W.takesIn K (.builtin "object.__class__") = some true)
    (km_OneCuts : PySem.W.mroIn K c_OneCuts (.type "object") = some true)
    (ko_Share_OneCuts : PySem.W.kitOne K (.ref c_Share) (.ref c_OneCuts) = some false)
    (ko_Talk_OneCuts : PySem.W.kitOne K (.ref c_Talk) (.ref c_OneCuts) = some false)
    (ko_Way_OneCuts : PySem.W.kitOne K (.ref c_Way) (.ref c_OneCuts) = some false)
    (ko_OneCuts_OneCuts : PySem.W.kitOne K (.ref c_OneCuts) (.ref c_OneCuts) = some true)
    (kp_NoneType_OneCuts : PySem.W.kitOne K (.type "NoneType") (.ref c_OneCuts) = some false)
    (kp_bool_OneCuts : PySem.W.kitOne K (.type "bool") (.ref c_OneCuts) = some false)
    (kp_int_OneCuts : PySem.W.kitOne K (.type "int") (.ref c_OneCuts) = some false)
    (kp_str_OneCuts : PySem.W.kitOne K (.type "str") (.ref c_OneCuts) = some false)
    (kp_tuple_OneCuts : PySem.W.kitOne K (.type "tuple") (.ref c_OneCuts) = some false)
    (kp_list_OneCuts : PySem.W.kitOne K (.type "list") (.ref c_OneCuts) = some false)
    (ko_Share_Share : PySem.W.kitOne K (.ref c_Share) (.ref c_Share) = some true)
    (ko_Talk_Share : PySem.W.kitOne K (.ref c_Talk) (.ref c_Share) = some false)
    (ko_Way_Share : PySem.W.kitOne K (.ref c_Way) (.ref c_Share) = some false)
    (ko_OneCuts_Share : PySem.W.kitOne K (.ref c_OneCuts) (.ref c_Share) = some false)
    (kp_NoneType_Share : PySem.W.kitOne K (.type "NoneType") (.ref c_Share) = some false)
    (kp_bool_Share : PySem.W.kitOne K (.type "bool") (.ref c_Share) = some false)
    (kp_int_Share : PySem.W.kitOne K (.type "int") (.ref c_Share) = some false)
    (kp_str_Share : PySem.W.kitOne K (.type "str") (.ref c_Share) = some false)
    (kp_tuple_Share : PySem.W.kitOne K (.type "tuple") (.ref c_Share) = some false)
    (kp_list_Share : PySem.W.kitOne K (.type "list") (.ref c_Share) = some false)
    (nq_Share : PySem.W.findIn K (.ref c_Share) "__ne__" = some (some (.builtin "object.__ne__")))
    (nf_Share_NoneType : PySem.W.notFirst K c_Share (.type "NoneType") = true)
    (nf_Share_bool : PySem.W.notFirst K c_Share (.type "bool") = true)
    (nf_Share_int : PySem.W.notFirst K c_Share (.type "int") = true)
    (nf_Share_str : PySem.W.notFirst K c_Share (.type "str") = true)
    (nf_Share_tuple : PySem.W.notFirst K c_Share (.type "tuple") = true)
    (nf_Share_list : PySem.W.notFirst K c_Share (.type "list") = true)
    (ng_Share_Share : PySem.W.notFirst K c_Share (.ref c_Share) = true)
    (ng_Share_OneCuts : PySem.W.notFirst K c_Share (.ref c_OneCuts) = true)
    (nq_OneCuts : PySem.W.findIn K (.ref c_OneCuts) "__ne__" = some (some (.builtin "object.__ne__")))
    (nf_OneCuts_NoneType : PySem.W.notFirst K c_OneCuts (.type "NoneType") = true)
    (nf_OneCuts_bool : PySem.W.notFirst K c_OneCuts (.type "bool") = true)
    (nf_OneCuts_int : PySem.W.notFirst K c_OneCuts (.type "int") = true)
    (nf_OneCuts_str : PySem.W.notFirst K c_OneCuts (.type "str") = true)
    (nf_OneCuts_tuple : PySem.W.notFirst K c_OneCuts (.type "tuple") = true)
    (nf_OneCuts_list : PySem.W.notFirst K c_OneCuts (.type "list") = true)
    (ng_OneCuts_Share : PySem.W.notFirst K c_OneCuts (.ref c_Share) = true)
    (ng_OneCuts_OneCuts : PySem.W.notFirst K c_OneCuts (.ref c_OneCuts) = true)
    (na_Talk_asks : PySem.W.findIn K (.ref c_Talk) "asks" = some none)
    (na_Way_ears : PySem.W.findIn K (.ref c_Way) "ears" = some none)
    (na_OneCuts_ears : PySem.W.findIn K (.ref c_OneCuts) "ears" = some none)
    (na_Way_made : PySem.W.findIn K (.ref c_Way) "made" = some none)
    (na_OneCuts_made : PySem.W.findIn K (.ref c_OneCuts) "made" = some none)
    (na_Share_parts : PySem.W.findIn K (.ref c_Share) "parts" = some none)
    (na_Talk_parts : PySem.W.findIn K (.ref c_Talk) "parts" = some none)
    (na_Talk_replies : PySem.W.findIn K (.ref c_Talk) "replies" = some none)
    (na_Way_said : PySem.W.findIn K (.ref c_Way) "said" = some none)
    (na_OneCuts_said : PySem.W.findIn K (.ref c_OneCuts) "said" = some none)
    (na_Way_unsaid : PySem.W.findIn K (.ref c_Way) "unsaid" = some none)
    (na_OneCuts_unsaid : PySem.W.findIn K (.ref c_OneCuts) "unsaid" = some none)
    (na_Talk_waits : PySem.W.findIn K (.ref c_Talk) "waits" = some none)
    (z_abs : PySem.W.nsIn K mainGlobals "abs" = some none)
    (z_any : PySem.W.nsIn K mainGlobals "any" = some none)
    (z_bool : PySem.W.nsIn K mainGlobals "bool" = some none)
    (z_int : PySem.W.nsIn K mainGlobals "int" = some none)
    (z_isinstance : PySem.W.nsIn K mainGlobals "isinstance" = some none)
    (z_len : PySem.W.nsIn K mainGlobals "len" = some none)
    (z_list : PySem.W.nsIn K mainGlobals "list" = some none)
    (z_range : PySem.W.nsIn K mainGlobals "range" = some none)
    (z_tuple : PySem.W.nsIn K mainGlobals "tuple" = some none)
    (z_zip : PySem.W.nsIn K mainGlobals "zip" = some none)
    (m_ALL : PySem.W.nsIn K mainGlobals "ALL" = some (some (.ref a_ALL_0)))
    (l_a_ALL_0 : K.lookup a_ALL_0 = some ⟨.type "tuple", a_ALL_0d, .seq ([(.int 1 a_ALL_0t0), (.int 1 a_ALL_0t1)] : List Value).toArray a_ALL_0n, a_ALL_0s⟩)
    (m_BEGIN : PySem.W.nsIn K mainGlobals "BEGIN" = some (some (.ref a_BEGIN_0)))
    (l_a_BEGIN_0 : K.lookup a_BEGIN_0 = some ⟨.type "tuple", a_BEGIN_0d, .seq ([(.int 0 a_BEGIN_0t0), (.int 1 a_BEGIN_0t1)] : List Value).toArray a_BEGIN_0n, a_BEGIN_0s⟩)
    (m_END : PySem.W.nsIn K mainGlobals "END" = some (some (.ref a_END_0)))
    (l_a_END_0 : K.lookup a_END_0 = some ⟨.type "tuple", a_END_0d, .seq ([(.int 1 a_END_0t0), (.int 1 a_END_0t1)] : List Value).toArray a_END_0n, a_END_0s⟩)
    (m_NONE : PySem.W.nsIn K mainGlobals "NONE" = some (some (.ref a_NONE_0)))
    (l_a_NONE_0 : K.lookup a_NONE_0 = some ⟨.type "tuple", a_NONE_0d, .seq ([(.int 0 a_NONE_0t0), (.int 1 a_NONE_0t1)] : List Value).toArray a_NONE_0n, a_NONE_0s⟩)
    (x_Due : PySem.W.excIn K c_Due [.type "Exception", .type "BaseException", .type "object"] "Exception.__new__" = true)
    (k_Due : PySem.W.keepIn K (.ref c_Due) = true)
    (x_Ended : PySem.W.excIn K c_Ended [.type "ValueError", .type "Exception", .type "BaseException", .type "object"] "ValueError.__new__" = true)
    (k_Ended : PySem.W.keepIn K (.ref c_Ended) = true)
    (x_NoFraction : PySem.W.excIn K c_NoFraction [.type "ValueError", .type "Exception", .type "BaseException", .type "object"] "ValueError.__new__" = true)
    (k_NoFraction : PySem.W.keepIn K (.ref c_NoFraction) = true)
    (x_NoHands : PySem.W.excIn K c_NoHands [.type "ValueError", .type "Exception", .type "BaseException", .type "object"] "ValueError.__new__" = true)
    (k_NoHands : PySem.W.keepIn K (.ref c_NoHands) = true)
    (x_NoSpan : PySem.W.excIn K c_NoSpan [.type "ValueError", .type "Exception", .type "BaseException", .type "object"] "ValueError.__new__" = true)
    (k_NoSpan : PySem.W.keepIn K (.ref c_NoSpan) = true)
    (sb_NoFraction : PySem.W.subIn K (.ref c_NoFraction) (.type "BaseException") = some true)
    (t_NoFraction : PySem.W.typeIn K (.ref c_NoFraction) = some (.type "type"))
    (sb_NoSpan : PySem.W.subIn K (.ref c_NoSpan) (.type "BaseException") = some true)
    (t_NoSpan : PySem.W.typeIn K (.ref c_NoSpan) = some (.type "type"))
    (sb_NoHands : PySem.W.subIn K (.ref c_NoHands) (.type "BaseException") = some true)
    (t_NoHands : PySem.W.typeIn K (.ref c_NoHands) = some (.type "type"))
    (sb_Ended : PySem.W.subIn K (.ref c_Ended) (.type "BaseException") = some true)
    (t_Ended : PySem.W.typeIn K (.ref c_Ended) = some (.type "type"))
    (sb_NotEnded : PySem.W.subIn K (.ref c_NotEnded) (.type "BaseException") = some true)
    (t_NotEnded : PySem.W.typeIn K (.ref c_NotEnded) = some (.type "type"))
    (sb_Due : PySem.W.subIn K (.ref c_Due) (.type "BaseException") = some true)
    (t_Due : PySem.W.typeIn K (.ref c_Due) = some (.type "type"))
    (hd_Due : PySem.W.hasDictIn K c_Due = true)
    (su_NoFraction_Due : PySem.W.subIn K (.ref c_NoFraction) (.ref c_Due) = some false)
    (su_NoSpan_Due : PySem.W.subIn K (.ref c_NoSpan) (.ref c_Due) = some false)
    (su_NoHands_Due : PySem.W.subIn K (.ref c_NoHands) (.ref c_Due) = some false)
    (su_Ended_Due : PySem.W.subIn K (.ref c_Ended) (.ref c_Due) = some false)
    (su_NoReply_Due : PySem.W.subIn K (.ref c_NoReply) (.ref c_Due) = some false)
    (su_NotEnded_Due : PySem.W.subIn K (.ref c_NotEnded) (.ref c_Due) = some false)
    (su_Due_Due : PySem.W.subIn K (.ref c_Due) (.ref c_Due) = some true)
    (hd_NotEnded : PySem.W.hasDictIn K c_NotEnded = true)
    (su_NoFraction_NotEnded : PySem.W.subIn K (.ref c_NoFraction) (.ref c_NotEnded) = some false)
    (su_NoSpan_NotEnded : PySem.W.subIn K (.ref c_NoSpan) (.ref c_NotEnded) = some false)
    (su_NoHands_NotEnded : PySem.W.subIn K (.ref c_NoHands) (.ref c_NotEnded) = some false)
    (su_Ended_NotEnded : PySem.W.subIn K (.ref c_Ended) (.ref c_NotEnded) = some false)
    (su_NoReply_NotEnded : PySem.W.subIn K (.ref c_NoReply) (.ref c_NotEnded) = some false)
    (su_NotEnded_NotEnded : PySem.W.subIn K (.ref c_NotEnded) (.ref c_NotEnded) = some true)
    (su_Due_NotEnded : PySem.W.subIn K (.ref c_Due) (.ref c_NotEnded) = some false)
    (hg_NotEnded : PySem.W.findIn K (.ref c_NotEnded) "__getattribute__" = some (some (.builtin "BaseException.__getattribute__")))
    (hk_NotEnded : PySem.W.findIn K (.ref c_NotEnded) "__getattr__" = some none)
    (hs_NotEnded : PySem.W.subIn K (.ref c_NotEnded) (.type "BaseException") = some true)
    (hh_NotEnded : PySem.W.hasDictIn K c_NotEnded = true)
    (ha_NotEnded : PySem.W.findIn K (.ref c_NotEnded) "__class__" = some (some (.builtin "object.__class__")))
    (hn_NotEnded : PySem.W.specialIn K (.builtin "object.__class__") "__get__" = some (some (.builtin "getset_descriptor.__get__")))
    (ht_NotEnded : PySem.W.takesIn K (.builtin "object.__class__") = some true)
    (hm_NotEnded : PySem.W.mroIn K c_NotEnded (.type "object") = some true)
    (hg_Due : PySem.W.findIn K (.ref c_Due) "__getattribute__" = some (some (.builtin "BaseException.__getattribute__")))
    (hk_Due : PySem.W.findIn K (.ref c_Due) "__getattr__" = some none)
    (hs_Due : PySem.W.subIn K (.ref c_Due) (.type "BaseException") = some true)
    (hh_Due : PySem.W.hasDictIn K c_Due = true)
    (ha_Due : PySem.W.findIn K (.ref c_Due) "__class__" = some (some (.builtin "object.__class__")))
    (hn_Due : PySem.W.specialIn K (.builtin "object.__class__") "__get__" = some (some (.builtin "getset_descriptor.__get__")))
    (ht_Due : PySem.W.takesIn K (.builtin "object.__class__") = some true)
    (hm_Due : PySem.W.mroIn K c_Due (.type "object") = some true)
    (xl_NoReply : K.lookup c_NoReply = some (excClassObj xnm_NoReply xq_NoReply c_NoReply xN_NoReply xbs_NoReply xbm_NoReply true xsn_NoReply xsub_NoReply xab_NoReply xcol_NoReply xdd_NoReply xk0_NoReply xk1_NoReply xk2_NoReply xk3_NoReply xk5_NoReply "ValueError.__new__"))
    (xr_NoReply : PySem.HandSPX.refsVE xbm_NoReply = true)
    (xsa_NoReply : PySem.W.findIn K (.ref c_NoReply) "__setattr__" = some (some (.builtin "object.__setattr__")))
    (xsb_NoReply : PySem.W.subIn K (.ref c_NoReply) (.type "BaseException") = some true)
    (xty_NoReply : PySem.W.typeIn K (.ref c_NoReply) = some (.type "type"))
    (xkp_NoReply : PySem.W.keepIn K (.ref c_NoReply) = true)
    (xtf_NoReply : PySem.W.typeIn K (.ref f0) = some (.type "function"))
    (xno_NoReply : PySem.W.findIn K (.ref c_NoReply) "ask" = some none)
    (xga_NoReply : PySem.W.findIn K (.ref c_NoReply) "__getattribute__" = some (some (.builtin "BaseException.__getattribute__")))
    (xgg_NoReply : PySem.W.findIn K (.ref c_NoReply) "__getattr__" = some none)
    (xhd_NoReply : PySem.W.hasDictIn K c_NoReply = true)
    (xl_NotEnded : K.lookup c_NotEnded = some (excClassObj xnm_NotEnded xq_NotEnded c_NotEnded xN_NotEnded xbs_NotEnded xbm_NotEnded true xsn_NotEnded xsub_NotEnded xab_NotEnded xcol_NotEnded xdd_NotEnded xk0_NotEnded xk1_NotEnded xk2_NotEnded xk3_NotEnded xk5_NotEnded "ValueError.__new__"))
    (xr_NotEnded : PySem.HandSPX.refsVE xbm_NotEnded = true)
    (xsa_NotEnded : PySem.W.findIn K (.ref c_NotEnded) "__setattr__" = some (some (.builtin "object.__setattr__")))
    (xsb_NotEnded : PySem.W.subIn K (.ref c_NotEnded) (.type "BaseException") = some true)
    (xty_NotEnded : PySem.W.typeIn K (.ref c_NotEnded) = some (.type "type"))
    (xkp_NotEnded : PySem.W.keepIn K (.ref c_NotEnded) = true)
    (xtf_NotEnded : PySem.W.typeIn K (.ref f1) = some (.type "function"))
    (xno_NotEnded : PySem.W.findIn K (.ref c_NotEnded) "many" = some none)
    (xga_NotEnded : PySem.W.findIn K (.ref c_NotEnded) "__getattribute__" = some (some (.builtin "BaseException.__getattribute__")))
    (xgg_NotEnded : PySem.W.findIn K (.ref c_NotEnded) "__getattr__" = some none)
    (xhd_NotEnded : PySem.W.hasDictIn K c_NotEnded = true)
    (crd_Way : PySem.W.readsIn K c_Way (.type "type") = true)
    (crg_Way : PySem.W.specialIn K (.ref c_Way) "__getattribute__" = some (some (.builtin "type.__getattribute__")))
    (cvf_Way___init__ : PySem.W.findCls K (.ref c_Way) (.type "type") "__init__" = some (.val (.ref f11)))
    (nd : ([(zq_Share___init__, zp_Share___init__), (zq_Share_both, zp_Share_both)] : List (Addr × Addr)).map (·.2) |>.Nodup) :
    ∃ (fd : FuncData) (cs : List (Addr × Addr)), (∀ p ∈ cs, h.get? p.2 = some { cls := .none, data := .fields #[] }) ∧ (∀ p ∈ cs, K.lookup p.2 = none) ∧ (∀ p ∈ cs, PySem.W.CodeHd h p.1 p.2) ∧ (∀ (s : Shared) (v : Value), BindsTo s fd ⟨[v], []⟩ [("_law_script", v)]) ∧ ∀ base : Heap, K.In base → base.Ns mainGlobals mg → (∀ p ∈ cs, LamX.TabB base mg p.1 p.2) → FnOk l.prog w K mg base (L2.CX l.prog w) 13 fa fd ["_law_script"] (spLawT K (cs.map (·.2))) := by
  have e := hfa.symm.trans (PySem.W.mg_of X G a44)
  cases e
  have ecNotEnded : ExcC K c_NotEnded := ⟨hg_NotEnded, hk_NotEnded, hs_NotEnded, hh_NotEnded, ha_NotEnded, hn_NotEnded, ht_NotEnded, hm_NotEnded⟩
  have ecDue : ExcC K c_Due := ⟨hg_Due, hk_Due, hs_Due, hh_Due, ha_Due, hn_Due, ht_Due, hm_Due⟩
  let A : Adr := { c_NoFraction := c_NoFraction, c_NoSpan := c_NoSpan, c_NoHands := c_NoHands, c_Ended := c_Ended, c_NoReply := c_NoReply, c_NotEnded := c_NotEnded, c_Share := c_Share, c_Due := c_Due, c_Talk := c_Talk, c_Way := c_Way, c_OneCuts := c_OneCuts, f_NoReply___init__ := f0, d_NoReply___init__ := (PySem.W.fnOf "__init__" "NoReply.__init__" (defArgs s_NoReply___init__) (defBody s_NoReply___init__) (defScope s_NoReply___init__) .none kV0 dc0 pm0 an0 cd0 ct0), f_NotEnded___init__ := f1, d_NotEnded___init__ := (PySem.W.fnOf "__init__" "NotEnded.__init__" (defArgs s_NotEnded___init__) (defBody s_NotEnded___init__) (defScope s_NotEnded___init__) .none kV1 dc1 pm1 an1 cd1 ct1), f_divisor := f2, d_divisor := (PySem.W.fnOf "divisor" "divisor" (defArgs s_divisor) (defBody s_divisor) (defScope s_divisor) .none kV2 dc2 pm2 an2 cd2 ct2), f_is_less := f3, d_is_less := (PySem.W.fnOf "is_less" "is_less" (defArgs s_is_less) (defBody s_is_less) (defScope s_is_less) .none kV3 dc3 pm3 an3 cd3 ct3), f_spans_where := f4, d_spans_where := (PySem.W.fnOf "spans_where" "spans_where" (defArgs s_spans_where) (defBody s_spans_where) (defScope s_spans_where) .none kV4 dc4 pm4 an4 cd4 ct4), f_Share_spans := f5, d_Share_spans := (PySem.W.fnOf "spans" "Share.spans" (defArgs s_Share_spans) (defBody s_Share_spans) (defScope s_Share_spans) .none kV5 dc5 pm5 an5 cd5 ct5), f_Share___len__ := f6, d_Share___len__ := (PySem.W.fnOf "__len__" "Share.__len__" (defArgs s_Share___len__) (defBody s_Share___len__) (defScope s_Share___len__) .none kV6 dc6 pm6 an6 cd6 ct6), f_Share___eq__ := f7, d_Share___eq__ := (PySem.W.fnOf "__eq__" "Share.__eq__" (defArgs s_Share___eq__) (defBody s_Share___eq__) (defScope s_Share___eq__) .none kV7 dc7 pm7 an7 cd7 ct7), f_Talk___init__ := f8, d_Talk___init__ := (PySem.W.fnOf "__init__" "Talk.__init__" (defArgs s_Talk___init__) (defBody s_Talk___init__) (defScope s_Talk___init__) .none kV8 dc8 pm8 an8 cd8 ct8), f_Talk_hear := f9, d_Talk_hear := (PySem.W.fnOf "hear" "Talk.hear" (defArgs s_Talk_hear) (defBody s_Talk_hear) (defScope s_Talk_hear) .none kV9 dc9 pm9 an9 cd9 ct9), f_is_whole := f10, d_is_whole := (PySem.W.fnOf "is_whole" "is_whole" (defArgs s_is_whole) (defBody s_is_whole) (defScope s_is_whole) .none kV10 dc10 pm10 an10 cd10 ct10), f_Way___init__ := f11, d_Way___init__ := (PySem.W.fnOf "__init__" "Way.__init__" (defArgs s_Way___init__) (defBody s_Way___init__) (defScope s_Way___init__) .none kV11 dc11 pm11 an11 cd11 ct11), f_Way___len__ := f12, d_Way___len__ := (PySem.W.fnOf "__len__" "Way.__len__" (defArgs s_Way___len__) (defBody s_Way___len__) (defScope s_Way___len__) .none kV12 dc12 pm12 an12 cd12 ct12), f_OneCuts_hands := f13, d_OneCuts_hands := (PySem.W.fnOf "hands" "OneCuts.hands" (defArgs s_OneCuts_hands) (defBody s_OneCuts_hands) (defScope s_OneCuts_hands) .none kV13 dc13 pm13 an13 cd13 ct13), f_OneCuts_alike := f14, d_OneCuts_alike := (PySem.W.fnOf "alike" "OneCuts.alike" (defArgs s_OneCuts_alike) (defBody s_OneCuts_alike) (defScope s_OneCuts_alike) .none kV14 dc14 pm14 an14 cd14 ct14), f_law_box := f15, d_law_box := (PySem.W.fnOf "_law_box" "_law_box" (defArgs s_law_box) (defBody s_law_box) (defScope s_law_box) .none kV15 dc15 pm15 an15 cd15 ct15), f_law_mixed := f16, d_law_mixed := (PySem.W.fnOf "_law_mixed" "_law_mixed" (defArgs s_law_mixed) (defBody s_law_mixed) (defScope s_law_mixed) .none kV16 dc16 pm16 an16 cd16 ct16), f_law_low := f17, d_law_low := (PySem.W.fnOf "_law_low" "_law_low" (defArgs s_law_low) (defBody s_law_low) (defScope s_law_low) .none kV17 dc17 pm17 an17 cd17 ct17), f_law_less := f18, d_law_less := (PySem.W.fnOf "_law_less" "_law_less" (defArgs s_law_less) (defBody s_law_less) (defScope s_law_less) .none kV18 dc18 pm18 an18 cd18 ct18), f_law_onecuts := f19, d_law_onecuts := (PySem.W.fnOf "_law_onecuts" "_law_onecuts" (defArgs s_law_onecuts) (defBody s_law_onecuts) (defScope s_law_onecuts) .none kV19 dc19 pm19 an19 cd19 ct19), f_fraction_of := f20, d_fraction_of := (PySem.W.fnOf "fraction_of" "fraction_of" (defArgs s_fraction_of) (defBody s_fraction_of) (defScope s_fraction_of) (.ref T20) kV20 dc20 pm20 an20 cd20 ct20), f_ask_span := f21, d_ask_span := (PySem.W.fnOf "ask_span" "ask_span" (defArgs s_ask_span) (defBody s_ask_span) (defScope s_ask_span) .none kV21 dc21 pm21 an21 cd21 ct21), f_rising_places := f22, d_rising_places := (PySem.W.fnOf "rising_places" "rising_places" (defArgs s_rising_places) (defBody s_rising_places) (defScope s_rising_places) .none kV22 dc22 pm22 an22 cd22 ct22), f_covers := f23, d_covers := (PySem.W.fnOf "covers" "covers" (defArgs s_covers) (defBody s_covers) (defScope s_covers) .none kV23 dc23 pm23 an23 cd23 ct23), f_Way_told_all := f24, d_Way_told_all := (PySem.W.fnOf "told_all" "Way.told_all" (defArgs s_Way_told_all) (defBody s_Way_told_all) (defScope s_Way_told_all) .none kV24 dc24 pm24 an24 cd24 ct24), f_Way___eq__ := f25, d_Way___eq__ := (PySem.W.fnOf "__eq__" "Way.__eq__" (defArgs s_Way___eq__) (defBody s_Way___eq__) (defScope s_Way___eq__) .none kV25 dc25 pm25 an25 cd25 ct25), f_OneCuts___init__ := f26, d_OneCuts___init__ := (PySem.W.fnOf "__init__" "OneCuts.__init__" (defArgs s_OneCuts___init__) (defBody s_OneCuts___init__) (defScope s_OneCuts___init__) (.ref T26) kV26 dc26 pm26 an26 cd26 ct26), f_OneCuts_parted := f27, d_OneCuts_parted := (PySem.W.fnOf "parted" "OneCuts.parted" (defArgs s_OneCuts_parted) (defBody s_OneCuts_parted) (defScope s_OneCuts_parted) .none kV27 dc27 pm27 an27 cd27 ct27), f_law_take := f28, d_law_take := (PySem.W.fnOf "_law_take" "_law_take" (defArgs s_law_take) (defBody s_law_take) (defScope s_law_take) .none kV28 dc28 pm28 an28 cd28 ct28), f_law_plus := f29, d_law_plus := (PySem.W.fnOf "_law_plus" "_law_plus" (defArgs s_law_plus) (defBody s_law_plus) (defScope s_law_plus) .none kV29 dc29 pm29 an29 cd29 ct29), f_is_fraction := f30, d_is_fraction := (PySem.W.fnOf "is_fraction" "is_fraction" (defArgs s_is_fraction) (defBody s_is_fraction) (defScope s_is_fraction) .none kV30 dc30 pm30 an30 cd30 ct30), f_law_reply := f31, d_law_reply := (PySem.W.fnOf "_law_reply" "_law_reply" (defArgs s_law_reply) (defBody s_law_reply) (defScope s_law_reply) .none kV31 dc31 pm31 an31 cd31 ct31), f_is_legal := f32, d_is_legal := (PySem.W.fnOf "is_legal" "is_legal" (defArgs s_is_legal) (defBody s_is_legal) (defScope s_is_legal) .none kV32 dc32 pm32 an32 cd32 ct32), q_Share___init__ := zq_Share___init__, p_Share___init__ := zp_Share___init__, f_Share___init__ := f33, d_Share___init__ := (PySem.W.fnOf "__init__" "Share.__init__" (defArgs s_Share___init__) (defBody s_Share___init__) (defScope s_Share___init__) .none kV33 dc33 pm33 an33 (.ref zq_Share___init__) ct33), q_Share_both := zq_Share_both, p_Share_both := zp_Share_both, f_Share_both := f34, d_Share_both := (PySem.W.fnOf "both" "Share.both" (defArgs s_Share_both) (defBody s_Share_both) (defScope s_Share_both) .none kV34 dc34 pm34 an34 (.ref zq_Share_both) ct34), f_Share_parted := f35, d_Share_parted := (PySem.W.fnOf "parted" "Share.parted" (defArgs s_Share_parted) (defBody s_Share_parted) (defScope s_Share_parted) .none kV35 dc35 pm35 an35 cd35 ct35), f_Way_talk := f36, d_Way_talk := (PySem.W.fnOf "talk" "Way.talk" (defArgs s_Way_talk) (defBody s_Way_talk) (defScope s_Way_talk) .none kV36 dc36 pm36 an36 cd36 ct36), f_Way_due := f37, d_Way_due := (PySem.W.fnOf "due" "Way.due" (defArgs s_Way_due) (defBody s_Way_due) (defScope s_Way_due) .none kV37 dc37 pm37 an37 cd37 ct37), f_Way_log := f38, d_Way_log := (PySem.W.fnOf "log" "Way.log" (defArgs s_Way_log) (defBody s_Way_log) (defScope s_Way_log) .none kV38 dc38 pm38 an38 cd38 ct38), f_Way_asked := f39, d_Way_asked := (PySem.W.fnOf "asked" "Way.asked" (defArgs s_Way_asked) (defBody s_Way_asked) (defScope s_Way_asked) .none kV39 dc39 pm39 an39 cd39 ct39), f_Way_shares := f40, d_Way_shares := (PySem.W.fnOf "shares" "Way.shares" (defArgs s_Way_shares) (defBody s_Way_shares) (defScope s_Way_shares) .none kV40 dc40 pm40 an40 cd40 ct40), f_Way_ended := f41, d_Way_ended := (PySem.W.fnOf "ended" "Way.ended" (defArgs s_Way_ended) (defBody s_Way_ended) (defScope s_Way_ended) .none kV41 dc41 pm41 an41 cd41 ct41), f_Way_answer := f42, d_Way_answer := (PySem.W.fnOf "answer" "Way.answer" (defArgs s_Way_answer) (defBody s_Way_answer) (defScope s_Way_answer) .none kV42 dc42 pm42 an42 cd42 ct42), f_law_stands := f43, d_law_stands := (PySem.W.fnOf "_law_stands" "_law_stands" (defArgs s_law_stands) (defBody s_law_stands) (defScope s_law_stands) .none kV43 dc43 pm43 an43 cd43 ct43), f_law := fa, d_law := (PySem.W.fnOf "law" "law" (defArgs s_law) (defBody s_law) (defScope s_law) .none kV44 dc44 pm44 an44 cd44 ct44), a_ALL := a_ALL_0, a_BEGIN := a_BEGIN_0, a_END := a_END_0, a_NONE := a_NONE_0 }
  have T : ∀ base : Heap, (∀ p ∈ ([(zq_Share___init__, zp_Share___init__), (zq_Share_both, zp_Share_both)] : List (Addr × Addr)), LamX.TabB base mg p.1 p.2) → Txt K mg base A := fun base hT => {
    g_NoFraction := PySem.W.mg_of X G g_NoFraction
    g_NoSpan := PySem.W.mg_of X G g_NoSpan
    g_NoHands := PySem.W.mg_of X G g_NoHands
    g_Ended := PySem.W.mg_of X G g_Ended
    g_NoReply := PySem.W.mg_of X G g_NoReply
    g_NotEnded := PySem.W.mg_of X G g_NotEnded
    g_Share := PySem.W.mg_of X G g_Share
    g_Due := PySem.W.mg_of X G g_Due
    g_Talk := PySem.W.mg_of X G g_Talk
    g_Way := PySem.W.mg_of X G g_Way
    g_OneCuts := PySem.W.mg_of X G g_OneCuts
    F_NoReply___init__ := fun_mk (st := s_NoReply___init__) l0 c0 k0
    b_NoReply___init__ := (fun_mk (st := s_NoReply___init__) l0 c0 k0).binds (ps := p_NoReply___init__) fun _ _ _ _ _ _ us hl => match us, hl with | [_, _], _ => rfl
    F_NotEnded___init__ := fun_mk (st := s_NotEnded___init__) l1 c1 k1
    b_NotEnded___init__ := (fun_mk (st := s_NotEnded___init__) l1 c1 k1).binds (ps := p_NotEnded___init__) fun _ _ _ _ _ _ us hl => match us, hl with | [_, _], _ => rfl
    g_divisor := PySem.W.mg_of X G a2
    F_divisor := fun_mk (st := s_divisor) l2 c2 k2
    b_divisor := (fun_mk (st := s_divisor) l2 c2 k2).binds (ps := p_divisor) fun _ _ _ _ _ _ us hl => match us, hl with | [_, _], _ => rfl
    g_is_less := PySem.W.mg_of X G a3
    F_is_less := fun_mk (st := s_is_less) l3 c3 k3
    b_is_less := (fun_mk (st := s_is_less) l3 c3 k3).binds (ps := p_is_less) fun _ _ _ _ _ _ us hl => match us, hl with | [_, _], _ => rfl
    g_spans_where := PySem.W.mg_of X G a4
    F_spans_where := fun_mk (st := s_spans_where) l4 c4 k4
    b_spans_where := (fun_mk (st := s_spans_where) l4 c4 k4).binds (ps := p_spans_where) fun _ _ _ _ _ _ us hl => match us, hl with | [_, _], _ => rfl
    F_Share_spans := fun_mk (st := s_Share_spans) l5 c5 k5
    b_Share_spans := (fun_mk (st := s_Share_spans) l5 c5 k5).binds (ps := p_Share_spans) fun _ _ _ _ _ _ us hl => match us, hl with | [_], _ => rfl
    F_Share___len__ := fun_mk (st := s_Share___len__) l6 c6 k6
    b_Share___len__ := (fun_mk (st := s_Share___len__) l6 c6 k6).binds (ps := p_Share___len__) fun _ _ _ _ _ _ us hl => match us, hl with | [_], _ => rfl
    F_Share___eq__ := fun_mk (st := s_Share___eq__) l7 c7 k7
    b_Share___eq__ := (fun_mk (st := s_Share___eq__) l7 c7 k7).binds (ps := p_Share___eq__) fun _ _ _ _ _ _ us hl => match us, hl with | [_, _], _ => rfl
    F_Talk___init__ := fun_mk (st := s_Talk___init__) l8 c8 k8
    b_Talk___init__ := (fun_mk (st := s_Talk___init__) l8 c8 k8).binds (ps := p_Talk___init__) fun _ _ _ _ _ _ us hl => match us, hl with | [_, _], _ => rfl
    F_Talk_hear := fun_mk (st := s_Talk_hear) l9 c9 k9
    b_Talk_hear := (fun_mk (st := s_Talk_hear) l9 c9 k9).binds (ps := p_Talk_hear) fun _ _ _ _ _ _ us hl => match us, hl with | [_, _], _ => rfl
    g_is_whole := PySem.W.mg_of X G a10
    F_is_whole := fun_mk (st := s_is_whole) l10 c10 k10
    b_is_whole := (fun_mk (st := s_is_whole) l10 c10 k10).binds (ps := p_is_whole) fun _ _ _ _ _ _ us hl => match us, hl with | [_], _ => rfl
    F_Way___init__ := fun_mk (st := s_Way___init__) l11 c11 k11
    b_Way___init__ := (fun_mk (st := s_Way___init__) l11 c11 k11).binds (ps := p_Way___init__) fun _ _ _ _ _ _ us hl => match us, hl with | [_, _], _ => rfl
    F_Way___len__ := fun_mk (st := s_Way___len__) l12 c12 k12
    b_Way___len__ := (fun_mk (st := s_Way___len__) l12 c12 k12).binds (ps := p_Way___len__) fun _ _ _ _ _ _ us hl => match us, hl with | [_], _ => rfl
    F_OneCuts_hands := fun_mk (st := s_OneCuts_hands) l13 c13 k13
    b_OneCuts_hands := (fun_mk (st := s_OneCuts_hands) l13 c13 k13).binds (ps := p_OneCuts_hands) fun _ _ _ _ _ _ us hl => match us, hl with | [_], _ => rfl
    F_OneCuts_alike := fun_mk (st := s_OneCuts_alike) l14 c14 k14
    b_OneCuts_alike := (fun_mk (st := s_OneCuts_alike) l14 c14 k14).binds (ps := p_OneCuts_alike) fun _ _ _ _ _ _ us hl => match us, hl with | [_, _], _ => rfl
    g_law_box := PySem.W.mg_of X G a15
    F_law_box := fun_mk (st := s_law_box) l15 c15 k15
    b_law_box := (fun_mk (st := s_law_box) l15 c15 k15).binds (ps := p_law_box) fun _ _ _ _ _ _ us hl => match us, hl with | [_], _ => rfl
    g_law_mixed := PySem.W.mg_of X G a16
    F_law_mixed := fun_mk (st := s_law_mixed) l16 c16 k16
    b_law_mixed := (fun_mk (st := s_law_mixed) l16 c16 k16).binds (ps := p_law_mixed) fun _ _ _ _ _ _ us hl => match us, hl with | [_, _], _ => rfl
    g_law_low := PySem.W.mg_of X G a17
    F_law_low := fun_mk (st := s_law_low) l17 c17 k17
    b_law_low := (fun_mk (st := s_law_low) l17 c17 k17).binds (ps := p_law_low) fun _ _ _ _ _ _ us hl => match us, hl with | [_, _], _ => rfl
    g_law_less := PySem.W.mg_of X G a18
    F_law_less := fun_mk (st := s_law_less) l18 c18 k18
    b_law_less := (fun_mk (st := s_law_less) l18 c18 k18).binds (ps := p_law_less) fun _ _ _ _ _ _ us hl => match us, hl with | [_, _], _ => rfl
    g_law_onecuts := PySem.W.mg_of X G a19
    F_law_onecuts := fun_mk (st := s_law_onecuts) l19 c19 k19
    b_law_onecuts := (fun_mk (st := s_law_onecuts) l19 c19 k19).binds (ps := p_law_onecuts) fun _ _ _ _ _ _ us hl => match us, hl with | [_, _], _ => rfl
    g_fraction_of := PySem.W.mg_of X G a20
    F_fraction_of := ⟨⟨_, _, _, _, _, _, _, _, _, _, rfl, l20, c20, .inr ⟨by simp, _, _, _, _, rfl, lT20, rfl, (.cons ⟨_, rfl⟩ .nil)⟩, .inl rfl⟩, k20⟩
    g_ask_span := PySem.W.mg_of X G a21
    F_ask_span := fun_mk (st := s_ask_span) l21 c21 k21
    b_ask_span := (fun_mk (st := s_ask_span) l21 c21 k21).binds (ps := p_ask_span) fun _ _ _ _ _ _ us hl => match us, hl with | [_, _], _ => rfl
    g_rising_places := PySem.W.mg_of X G a22
    F_rising_places := fun_mk (st := s_rising_places) l22 c22 k22
    b_rising_places := (fun_mk (st := s_rising_places) l22 c22 k22).binds (ps := p_rising_places) fun _ _ _ _ _ _ us hl => match us, hl with | [_], _ => rfl
    g_covers := PySem.W.mg_of X G a23
    F_covers := fun_mk (st := s_covers) l23 c23 k23
    b_covers := (fun_mk (st := s_covers) l23 c23 k23).binds (ps := p_covers) fun _ _ _ _ _ _ us hl => match us, hl with | [_, _, _], _ => rfl
    F_Way_told_all := fun_mk (st := s_Way_told_all) l24 c24 k24
    b_Way_told_all := (fun_mk (st := s_Way_told_all) l24 c24 k24).binds (ps := p_Way_told_all) fun _ _ _ _ _ _ us hl => match us, hl with | [_, _, _], _ => rfl
    F_Way___eq__ := fun_mk (st := s_Way___eq__) l25 c25 k25
    b_Way___eq__ := (fun_mk (st := s_Way___eq__) l25 c25 k25).binds (ps := p_Way___eq__) fun _ _ _ _ _ _ us hl => match us, hl with | [_, _], _ => rfl
    F_OneCuts___init__ := ⟨⟨_, _, _, _, _, _, _, _, _, _, rfl, l26, c26, .inr ⟨by simp, _, _, _, _, rfl, lT26, rfl, (.cons ⟨_, rfl⟩ .nil)⟩, .inl rfl⟩, k26⟩
    F_OneCuts_parted := fun_mk (st := s_OneCuts_parted) l27 c27 k27
    b_OneCuts_parted := (fun_mk (st := s_OneCuts_parted) l27 c27 k27).binds (ps := p_OneCuts_parted) fun _ _ _ _ _ _ us hl => match us, hl with | [_, _], _ => rfl
    g_law_take := PySem.W.mg_of X G a28
    F_law_take := fun_mk (st := s_law_take) l28 c28 k28
    b_law_take := (fun_mk (st := s_law_take) l28 c28 k28).binds (ps := p_law_take) fun _ _ _ _ _ _ us hl => match us, hl with | [_, _], _ => rfl
    g_law_plus := PySem.W.mg_of X G a29
    F_law_plus := fun_mk (st := s_law_plus) l29 c29 k29
    b_law_plus := (fun_mk (st := s_law_plus) l29 c29 k29).binds (ps := p_law_plus) fun _ _ _ _ _ _ us hl => match us, hl with | [_, _], _ => rfl
    g_is_fraction := PySem.W.mg_of X G a30
    F_is_fraction := fun_mk (st := s_is_fraction) l30 c30 k30
    b_is_fraction := (fun_mk (st := s_is_fraction) l30 c30 k30).binds (ps := p_is_fraction) fun _ _ _ _ _ _ us hl => match us, hl with | [_], _ => rfl
    g_law_reply := PySem.W.mg_of X G a31
    F_law_reply := fun_mk (st := s_law_reply) l31 c31 k31
    b_law_reply := (fun_mk (st := s_law_reply) l31 c31 k31).binds (ps := p_law_reply) fun _ _ _ _ _ _ us hl => match us, hl with | [_, _, _], _ => rfl
    g_is_legal := PySem.W.mg_of X G a32
    F_is_legal := fun_mk (st := s_is_legal) l32 c32 k32
    b_is_legal := (fun_mk (st := s_is_legal) l32 c32 k32).binds (ps := p_is_legal) fun _ _ _ _ _ _ us hl => match us, hl with | [_, _], _ => rfl
    tb_Share___init__ := hT (zq_Share___init__, zp_Share___init__) (by simp)
    F_Share___init__ := ⟨⟨_, _, _, _, _, _, _, _, rfl, l33, c33⟩, k33⟩
    b_Share___init__ := (fun_mk (st := s_Share___init__) l33 c33 k33).binds (ps := p_Share___init__) fun _ _ _ _ _ _ us hl => match us, hl with | [_, _], _ => rfl
    tb_Share_both := hT (zq_Share_both, zp_Share_both) (by simp)
    F_Share_both := ⟨⟨_, _, _, _, _, _, _, _, rfl, l34, c34⟩, k34⟩
    b_Share_both := (fun_mk (st := s_Share_both) l34 c34 k34).binds (ps := p_Share_both) fun _ _ _ _ _ _ us hl => match us, hl with | [_, _], _ => rfl
    F_Share_parted := fun_mk (st := s_Share_parted) l35 c35 k35
    b_Share_parted := (fun_mk (st := s_Share_parted) l35 c35 k35).binds (ps := p_Share_parted) fun _ _ _ _ _ _ us hl => match us, hl with | [_, _], _ => rfl
    F_Way_talk := fun_mk (st := s_Way_talk) l36 c36 k36
    b_Way_talk := (fun_mk (st := s_Way_talk) l36 c36 k36).binds (ps := p_Way_talk) fun _ _ _ _ _ _ us hl => match us, hl with | [_], _ => rfl
    F_Way_due := fun_mk (st := s_Way_due) l37 c37 k37
    b_Way_due := (fun_mk (st := s_Way_due) l37 c37 k37).binds (ps := p_Way_due) fun _ _ _ _ _ _ us hl => match us, hl with | [_], _ => rfl
    F_Way_log := fun_mk (st := s_Way_log) l38 c38 k38
    b_Way_log := (fun_mk (st := s_Way_log) l38 c38 k38).binds (ps := p_Way_log) fun _ _ _ _ _ _ us hl => match us, hl with | [_], _ => rfl
    F_Way_asked := fun_mk (st := s_Way_asked) l39 c39 k39
    b_Way_asked := (fun_mk (st := s_Way_asked) l39 c39 k39).binds (ps := p_Way_asked) fun _ _ _ _ _ _ us hl => match us, hl with | [_], _ => rfl
    F_Way_shares := fun_mk (st := s_Way_shares) l40 c40 k40
    b_Way_shares := (fun_mk (st := s_Way_shares) l40 c40 k40).binds (ps := p_Way_shares) fun _ _ _ _ _ _ us hl => match us, hl with | [_], _ => rfl
    F_Way_ended := fun_mk (st := s_Way_ended) l41 c41 k41
    b_Way_ended := (fun_mk (st := s_Way_ended) l41 c41 k41).binds (ps := p_Way_ended) fun _ _ _ _ _ _ us hl => match us, hl with | [_], _ => rfl
    F_Way_answer := fun_mk (st := s_Way_answer) l42 c42 k42
    b_Way_answer := (fun_mk (st := s_Way_answer) l42 c42 k42).binds (ps := p_Way_answer) fun _ _ _ _ _ _ us hl => match us, hl with | [_, _], _ => rfl
    g_law_stands := PySem.W.mg_of X G a43
    F_law_stands := fun_mk (st := s_law_stands) l43 c43 k43
    b_law_stands := (fun_mk (st := s_law_stands) l43 c43 k43).binds (ps := p_law_stands) fun _ _ _ _ _ _ us hl => match us, hl with | [_, _, _, _], _ => rfl
    g_law := PySem.W.mg_of X G a44
    F_law := fun_mk (st := s_law) l44 c44 k44
    b_law := (fun_mk (st := s_law) l44 c44 k44).binds (ps := p_law) fun _ _ _ _ _ _ us hl => match us, hl with | [_], _ => rfl
    cl_Share := ⟨pg_Share, hD_Share, po_Share, sa_Share⟩
    cl_Talk := ⟨pg_Talk, hD_Talk, po_Talk, sa_Talk⟩
    cl_Way := ⟨pg_Way, hD_Way, po_Way, sa_Way⟩
    cl_OneCuts := ⟨pg_OneCuts, hD_OneCuts, po_OneCuts, sa_OneCuts⟩
    mk_Share := ⟨mm_Share, mi_Share, mf_Share, mp_Share⟩
    mk_Talk := ⟨mm_Talk, mi_Talk, mf_Talk, mp_Talk⟩
    mk_OneCuts := ⟨mm_OneCuts, mi_OneCuts, mf_OneCuts, mp_OneCuts⟩
    mt_OneCuts___eq__ := ⟨ta_OneCuts___eq__, tf_OneCuts___eq__, k25⟩
    mt_OneCuts___len__ := ⟨ta_OneCuts___len__, tf_OneCuts___len__, k12⟩
    mt_OneCuts_alike := ⟨ta_OneCuts_alike, tf_OneCuts_alike, k14⟩
    mt_OneCuts_answer := ⟨ta_OneCuts_answer, tf_OneCuts_answer, k42⟩
    mt_OneCuts_asked := ⟨ta_OneCuts_asked, tf_OneCuts_asked, k39⟩
    mt_OneCuts_due := ⟨ta_OneCuts_due, tf_OneCuts_due, k37⟩
    mt_OneCuts_ended := ⟨ta_OneCuts_ended, tf_OneCuts_ended, k41⟩
    mt_OneCuts_hands := ⟨ta_OneCuts_hands, tf_OneCuts_hands, k13⟩
    mt_OneCuts_log := ⟨ta_OneCuts_log, tf_OneCuts_log, k38⟩
    mt_OneCuts_parted := ⟨ta_OneCuts_parted, tf_OneCuts_parted, k27⟩
    mt_OneCuts_shares := ⟨ta_OneCuts_shares, tf_OneCuts_shares, k40⟩
    mt_OneCuts_talk := ⟨ta_OneCuts_talk, tf_OneCuts_talk, k36⟩
    mt_OneCuts_told_all := ⟨ta_OneCuts_told_all, tf_OneCuts_told_all, k24⟩
    mt_Share___eq__ := ⟨ta_Share___eq__, tf_Share___eq__, k7⟩
    mt_Share___len__ := ⟨ta_Share___len__, tf_Share___len__, k6⟩
    mt_Share_both := ⟨ta_Share_both, tf_Share_both, k34⟩
    mt_Share_parted := ⟨ta_Share_parted, tf_Share_parted, k35⟩
    mt_Share_spans := ⟨ta_Share_spans, tf_Share_spans, k5⟩
    mt_Talk_hear := ⟨ta_Talk_hear, tf_Talk_hear, k9⟩
    io_OneCuts := ⟨fun c b h => match c, h with
      | 7, h => by cases h; exact ko_Share_OneCuts
      | 9, h => by cases h; exact ko_Talk_OneCuts
      | 10, h => by cases h; exact ko_Way_OneCuts
      | 11, h => by cases h; exact ko_OneCuts_OneCuts,
    fun c b h => match c, h with
      | 7, h => ⟨⟨pg_Share, hD_Share, po_Share, sa_Share⟩, ka_Share, kn_Share, kt_Share, km_Share⟩
      | 9, h => ⟨⟨pg_Talk, hD_Talk, po_Talk, sa_Talk⟩, ka_Talk, kn_Talk, kt_Talk, km_Talk⟩
      | 10, h => ⟨⟨pg_Way, hD_Way, po_Way, sa_Way⟩, ka_Way, kn_Way, kt_Way, km_Way⟩
      | 11, h => ⟨⟨pg_OneCuts, hD_OneCuts, po_OneCuts, sa_OneCuts⟩, ka_OneCuts, kn_OneCuts, kt_OneCuts, km_OneCuts⟩, (List.forall_mem_cons.mpr ⟨kp_NoneType_OneCuts, (List.forall_mem_cons.mpr ⟨kp_bool_OneCuts, (List.forall_mem_cons.mpr ⟨kp_int_OneCuts, (List.forall_mem_cons.mpr ⟨kp_str_OneCuts, (List.forall_mem_cons.mpr ⟨kp_tuple_OneCuts, (List.forall_mem_cons.mpr ⟨kp_list_OneCuts, (fun _ h => nomatch h)⟩)⟩)⟩)⟩)⟩)⟩)⟩
    io_Share := ⟨fun c b h => match c, h with
      | 7, h => by cases h; exact ko_Share_Share
      | 9, h => by cases h; exact ko_Talk_Share
      | 10, h => by cases h; exact ko_Way_Share
      | 11, h => by cases h; exact ko_OneCuts_Share,
    fun c b h => match c, h with
      | 7, h => ⟨⟨pg_Share, hD_Share, po_Share, sa_Share⟩, ka_Share, kn_Share, kt_Share, km_Share⟩
      | 9, h => ⟨⟨pg_Talk, hD_Talk, po_Talk, sa_Talk⟩, ka_Talk, kn_Talk, kt_Talk, km_Talk⟩
      | 10, h => ⟨⟨pg_Way, hD_Way, po_Way, sa_Way⟩, ka_Way, kn_Way, kt_Way, km_Way⟩
      | 11, h => ⟨⟨pg_OneCuts, hD_OneCuts, po_OneCuts, sa_OneCuts⟩, ka_OneCuts, kn_OneCuts, kt_OneCuts, km_OneCuts⟩, (List.forall_mem_cons.mpr ⟨kp_NoneType_Share, (List.forall_mem_cons.mpr ⟨kp_bool_Share, (List.forall_mem_cons.mpr ⟨kp_int_Share, (List.forall_mem_cons.mpr ⟨kp_str_Share, (List.forall_mem_cons.mpr ⟨kp_tuple_Share, (List.forall_mem_cons.mpr ⟨kp_list_Share, (fun _ h => nomatch h)⟩)⟩)⟩)⟩)⟩)⟩)⟩
    neqs := (List.forall_mem_cons.mpr ⟨⟨nq_Share, km_Share⟩, (List.forall_mem_cons.mpr ⟨⟨nq_OneCuts, km_OneCuts⟩, (fun _ h => nomatch h)⟩)⟩)
    eqok := ⟨(List.forall_mem_cons.mpr ⟨(List.forall_mem_cons.mpr ⟨nf_Share_NoneType, (List.forall_mem_cons.mpr ⟨nf_Share_bool, (List.forall_mem_cons.mpr ⟨nf_Share_int, (List.forall_mem_cons.mpr ⟨nf_Share_str, (List.forall_mem_cons.mpr ⟨nf_Share_tuple, (List.forall_mem_cons.mpr ⟨nf_Share_list, (fun _ h => nomatch h)⟩)⟩)⟩)⟩)⟩)⟩), (List.forall_mem_cons.mpr ⟨(List.forall_mem_cons.mpr ⟨nf_OneCuts_NoneType, (List.forall_mem_cons.mpr ⟨nf_OneCuts_bool, (List.forall_mem_cons.mpr ⟨nf_OneCuts_int, (List.forall_mem_cons.mpr ⟨nf_OneCuts_str, (List.forall_mem_cons.mpr ⟨nf_OneCuts_tuple, (List.forall_mem_cons.mpr ⟨nf_OneCuts_list, (fun _ h => nomatch h)⟩)⟩)⟩)⟩)⟩)⟩), (fun _ h => nomatch h)⟩)⟩), (List.forall_mem_cons.mpr ⟨(List.forall_mem_cons.mpr ⟨ng_Share_Share, (List.forall_mem_cons.mpr ⟨ng_Share_OneCuts, (fun _ h => nomatch h)⟩)⟩), (List.forall_mem_cons.mpr ⟨(List.forall_mem_cons.mpr ⟨ng_OneCuts_Share, (List.forall_mem_cons.mpr ⟨ng_OneCuts_OneCuts, (fun _ h => nomatch h)⟩)⟩), (fun _ h => nomatch h)⟩)⟩), (List.forall_mem_cons.mpr ⟨⟨⟨pg_Share, hD_Share, po_Share, sa_Share⟩, ka_Share, kn_Share, kt_Share, km_Share⟩, (List.forall_mem_cons.mpr ⟨⟨⟨pg_OneCuts, hD_OneCuts, po_OneCuts, sa_OneCuts⟩, ka_OneCuts, kn_OneCuts, kt_OneCuts, km_OneCuts⟩, (fun _ h => nomatch h)⟩)⟩)⟩
    fo_asks := ⟨fun c i h => match c, h with
      | 9, h => by cases h; exact ⟨rfl, nd_Talk, nl_Talk, ⟨pg_Talk, hD_Talk, po_Talk, sa_Talk⟩, na_Talk_asks⟩⟩
    fo_ears := ⟨fun c i h => match c, h with
      | 10, h => by cases h; exact ⟨rfl, nd_Way, nl_Way, ⟨pg_Way, hD_Way, po_Way, sa_Way⟩, na_Way_ears⟩
      | 11, h => by cases h; exact ⟨rfl, nd_OneCuts, nl_OneCuts, ⟨pg_OneCuts, hD_OneCuts, po_OneCuts, sa_OneCuts⟩, na_OneCuts_ears⟩⟩
    fo_made := ⟨fun c i h => match c, h with
      | 10, h => by cases h; exact ⟨rfl, nd_Way, nl_Way, ⟨pg_Way, hD_Way, po_Way, sa_Way⟩, na_Way_made⟩
      | 11, h => by cases h; exact ⟨rfl, nd_OneCuts, nl_OneCuts, ⟨pg_OneCuts, hD_OneCuts, po_OneCuts, sa_OneCuts⟩, na_OneCuts_made⟩⟩
    fo_parts := ⟨fun c i h => match c, h with
      | 7, h => by cases h; exact ⟨rfl, nd_Share, nl_Share, ⟨pg_Share, hD_Share, po_Share, sa_Share⟩, na_Share_parts⟩
      | 9, h => by cases h; exact ⟨rfl, nd_Talk, nl_Talk, ⟨pg_Talk, hD_Talk, po_Talk, sa_Talk⟩, na_Talk_parts⟩⟩
    fo_replies := ⟨fun c i h => match c, h with
      | 9, h => by cases h; exact ⟨rfl, nd_Talk, nl_Talk, ⟨pg_Talk, hD_Talk, po_Talk, sa_Talk⟩, na_Talk_replies⟩⟩
    fo_said := ⟨fun c i h => match c, h with
      | 10, h => by cases h; exact ⟨rfl, nd_Way, nl_Way, ⟨pg_Way, hD_Way, po_Way, sa_Way⟩, na_Way_said⟩
      | 11, h => by cases h; exact ⟨rfl, nd_OneCuts, nl_OneCuts, ⟨pg_OneCuts, hD_OneCuts, po_OneCuts, sa_OneCuts⟩, na_OneCuts_said⟩⟩
    fo_unsaid := ⟨fun c i h => match c, h with
      | 10, h => by cases h; exact ⟨rfl, nd_Way, nl_Way, ⟨pg_Way, hD_Way, po_Way, sa_Way⟩, na_Way_unsaid⟩
      | 11, h => by cases h; exact ⟨rfl, nd_OneCuts, nl_OneCuts, ⟨pg_OneCuts, hD_OneCuts, po_OneCuts, sa_OneCuts⟩, na_OneCuts_unsaid⟩⟩
    fo_waits := ⟨fun c i h => match c, h with
      | 9, h => by cases h; exact ⟨rfl, nd_Talk, nl_Talk, ⟨pg_Talk, hD_Talk, po_Talk, sa_Talk⟩, na_Talk_waits⟩⟩
    B_OneCuts___init___1_ := callB_d lT26 rfl (.cons ⟨_, rfl⟩ .nil) fun us ws h1 h2 => match us, h1, ws, h2 with | [_], _, [], _ => ⟨_, rfl, rfl⟩
    B_OneCuts___init___1_cutter := callB_d lT26 rfl (.cons ⟨_, rfl⟩ .nil) fun us ws h1 h2 => match us, h1, ws, h2 with | [_], _, [_], _ => ⟨_, rfl, rfl⟩
    B_OneCuts___init___2_ := callB_d lT26 rfl (.cons ⟨_, rfl⟩ .nil) fun us ws h1 h2 => match us, h1, ws, h2 with | [_, _], _, [], _ => ⟨_, rfl, rfl⟩
    B_OneCuts_alike_2_ := callB_n fun us ws h1 h2 => match us, h1, ws, h2 with | [_, _], _, [], _ => rfl
    B_OneCuts_hands_1_ := callB_n fun us ws h1 h2 => match us, h1, ws, h2 with | [_], _, [], _ => rfl
    B_OneCuts_parted_2_ := callB_n fun us ws h1 h2 => match us, h1, ws, h2 with | [_, _], _, [], _ => rfl
    B_Share___init___2_ := callB_n fun us ws h1 h2 => match us, h1, ws, h2 with | [_, _], _, [], _ => rfl
    B_Share_both_2_ := callB_n fun us ws h1 h2 => match us, h1, ws, h2 with | [_, _], _, [], _ => rfl
    B_Share_parted_2_ := callB_n fun us ws h1 h2 => match us, h1, ws, h2 with | [_, _], _, [], _ => rfl
    B_Share_spans_1_ := callB_n fun us ws h1 h2 => match us, h1, ws, h2 with | [_], _, [], _ => rfl
    B_Talk___init___2_ := callB_n fun us ws h1 h2 => match us, h1, ws, h2 with | [_, _], _, [], _ => rfl
    B_Talk_hear_2_ := callB_n fun us ws h1 h2 => match us, h1, ws, h2 with | [_, _], _, [], _ => rfl
    B_Way___init___2_ := callB_n fun us ws h1 h2 => match us, h1, ws, h2 with | [_, _], _, [], _ => rfl
    B_Way_answer_2_ := callB_n fun us ws h1 h2 => match us, h1, ws, h2 with | [_, _], _, [], _ => rfl
    B_Way_asked_1_ := callB_n fun us ws h1 h2 => match us, h1, ws, h2 with | [_], _, [], _ => rfl
    B_Way_due_1_ := callB_n fun us ws h1 h2 => match us, h1, ws, h2 with | [_], _, [], _ => rfl
    B_Way_ended_1_ := callB_n fun us ws h1 h2 => match us, h1, ws, h2 with | [_], _, [], _ => rfl
    B_Way_log_1_ := callB_n fun us ws h1 h2 => match us, h1, ws, h2 with | [_], _, [], _ => rfl
    B_Way_shares_1_ := callB_n fun us ws h1 h2 => match us, h1, ws, h2 with | [_], _, [], _ => rfl
    B_Way_talk_1_ := callB_n fun us ws h1 h2 => match us, h1, ws, h2 with | [_], _, [], _ => rfl
    B_Way_told_all_3_ := callB_n fun us ws h1 h2 => match us, h1, ws, h2 with | [_, _, _], _, [], _ => rfl
    B_fraction_of_2_ := callB_d lT20 rfl (.cons ⟨_, rfl⟩ .nil) fun us ws h1 h2 => match us, h1, ws, h2 with | [_, _], _, [], _ => ⟨_, rfl, rfl⟩
    z_abs := PySem.W.mg_none_of X G z_abs
    z_any := PySem.W.mg_none_of X G z_any
    z_bool := PySem.W.mg_none_of X G z_bool
    z_int := PySem.W.mg_none_of X G z_int
    z_isinstance := PySem.W.mg_none_of X G z_isinstance
    z_len := PySem.W.mg_none_of X G z_len
    z_list := PySem.W.mg_none_of X G z_list
    z_range := PySem.W.mg_none_of X G z_range
    z_tuple := PySem.W.mg_none_of X G z_tuple
    z_zip := PySem.W.mg_none_of X G z_zip
    m_ALL := PySem.W.mg_of X G m_ALL
    i_ALL := fun as H => (.tup (xs := [(.int 1), (.int 1)]) (.inr ⟨_, _, _, l_a_ALL_0, rfl, rfl, show 2 ≤ sizeLine by decide, (.cons ⟨_, rfl⟩ (.cons ⟨_, rfl⟩ .nil))⟩) (.cons (.int _) (.cons (.int _) .nil)))
    m_BEGIN := PySem.W.mg_of X G m_BEGIN
    i_BEGIN := fun as H => (.tup (xs := [(.int 0), (.int 1)]) (.inr ⟨_, _, _, l_a_BEGIN_0, rfl, rfl, show 2 ≤ sizeLine by decide, (.cons ⟨_, rfl⟩ (.cons ⟨_, rfl⟩ .nil))⟩) (.cons (.int _) (.cons (.int _) .nil)))
    m_END := PySem.W.mg_of X G m_END
    i_END := fun as H => (.tup (xs := [(.int 1), (.int 1)]) (.inr ⟨_, _, _, l_a_END_0, rfl, rfl, show 2 ≤ sizeLine by decide, (.cons ⟨_, rfl⟩ (.cons ⟨_, rfl⟩ .nil))⟩) (.cons (.int _) (.cons (.int _) .nil)))
    m_NONE := PySem.W.mg_of X G m_NONE
    i_NONE := fun as H => (.tup (xs := [(.int 0), (.int 1)]) (.inr ⟨_, _, _, l_a_NONE_0, rfl, rfl, show 2 ≤ sizeLine by decide, (.cons ⟨_, rfl⟩ (.cons ⟨_, rfl⟩ .nil))⟩) (.cons (.int _) (.cons (.int _) .nil)))
    x_Due := x_Due
    k_Due := k_Due
    x_Ended := x_Ended
    k_Ended := k_Ended
    x_NoFraction := x_NoFraction
    k_NoFraction := k_NoFraction
    x_NoHands := x_NoHands
    k_NoHands := k_NoHands
    x_NoSpan := x_NoSpan
    k_NoSpan := k_NoSpan
    sb_NoFraction := sb_NoFraction
    t_NoFraction := t_NoFraction
    sb_NoSpan := sb_NoSpan
    t_NoSpan := t_NoSpan
    sb_NoHands := sb_NoHands
    t_NoHands := t_NoHands
    sb_Ended := sb_Ended
    t_Ended := t_Ended
    sb_Due := sb_Due
    t_Due := t_Due
    ex_Due := fun c b h => match c, h with
      | 1, h => by cases h; exact PySem.W.exm_ref sb_Due hd_Due t_Due su_NoFraction_Due
      | 2, h => by cases h; exact PySem.W.exm_ref sb_Due hd_Due t_Due su_NoSpan_Due
      | 3, h => by cases h; exact PySem.W.exm_ref sb_Due hd_Due t_Due su_NoHands_Due
      | 4, h => by cases h; exact PySem.W.exm_ref sb_Due hd_Due t_Due su_Ended_Due
      | 5, h => by cases h; exact PySem.W.exm_ref sb_Due hd_Due t_Due su_NoReply_Due
      | 6, h => by cases h; exact PySem.W.exm_ref sb_Due hd_Due t_Due su_NotEnded_Due
      | 8, h => by cases h; exact PySem.W.exm_ref sb_Due hd_Due t_Due su_Due_Due
    ec_Due := fun c h => match c, h with
      | 1, h => by cases h
      | 2, h => by cases h
      | 3, h => by cases h
      | 4, h => by cases h
      | 5, h => by cases h
      | 6, h => by cases h
      | 8, h => ecDue
    ex_NotEnded := fun c b h => match c, h with
      | 1, h => by cases h; exact PySem.W.exm_ref sb_NotEnded hd_NotEnded t_NotEnded su_NoFraction_NotEnded
      | 2, h => by cases h; exact PySem.W.exm_ref sb_NotEnded hd_NotEnded t_NotEnded su_NoSpan_NotEnded
      | 3, h => by cases h; exact PySem.W.exm_ref sb_NotEnded hd_NotEnded t_NotEnded su_NoHands_NotEnded
      | 4, h => by cases h; exact PySem.W.exm_ref sb_NotEnded hd_NotEnded t_NotEnded su_Ended_NotEnded
      | 5, h => by cases h; exact PySem.W.exm_ref sb_NotEnded hd_NotEnded t_NotEnded su_NoReply_NotEnded
      | 6, h => by cases h; exact PySem.W.exm_ref sb_NotEnded hd_NotEnded t_NotEnded su_NotEnded_NotEnded
      | 8, h => by cases h; exact PySem.W.exm_ref sb_NotEnded hd_NotEnded t_NotEnded su_Due_NotEnded
    ec_NotEnded := fun c h => match c, h with
      | 1, h => by cases h
      | 2, h => by cases h
      | 3, h => by cases h
      | 4, h => by cases h
      | 5, h => by cases h
      | 6, h => ecNotEnded
      | 8, h => by cases h
    oex_NoReply := ⟨⟨_, _, _, _, _, _, _, _, _, _, _, _, _, _, _, xl_NoReply, xr_NoReply⟩, xsa_NoReply, xsb_NoReply, xty_NoReply, xkp_NoReply⟩
    ini_NoReply := a0
    tin_NoReply := xtf_NoReply
    xno_NoReply := xno_NoReply
    xf_NoReply := ⟨xga_NoReply, xgg_NoReply, xsb_NoReply, xhd_NoReply⟩
    oex_NotEnded := ⟨⟨_, _, _, _, _, _, _, _, _, _, _, _, _, _, _, xl_NotEnded, xr_NotEnded⟩, xsa_NotEnded, xsb_NotEnded, xty_NotEnded, xkp_NotEnded⟩
    ini_NotEnded := a1
    tin_NotEnded := xtf_NotEnded
    xno_NotEnded := xno_NotEnded
    xf_NotEnded := ⟨xga_NotEnded, xgg_NotEnded, xsb_NotEnded, xhd_NotEnded⟩
    cr_Way := ⟨crd_Way, crg_Way⟩
    cv_Way___init__ := ⟨cvf_Way___init__, rfl⟩ }
  refine ⟨A.d_law, [(zq_Share___init__, zp_Share___init__), (zq_Share_both, zp_Share_both)], (List.forall_mem_cons.mpr ⟨lt33, (List.forall_mem_cons.mpr ⟨lt34, (fun _ h => nomatch h)⟩)⟩), (List.forall_mem_cons.mpr ⟨ln33, (List.forall_mem_cons.mpr ⟨ln34, (fun _ h => nomatch h)⟩)⟩), (List.forall_mem_cons.mpr ⟨PySem.W.codeHd_of_K X lh33, (List.forall_mem_cons.mpr ⟨PySem.W.codeHd_of_K X lh34, (fun _ h => nomatch h)⟩)⟩), fun s v => .of_eq rfl, fun base _ _ hT => (ok_law (T base hT)).imp fun vs H Q E q => law_impT (G := GG K A) ["Share.__init__" ++ ".<locals>." ++ "<lambda>", "Share.both" ++ ".<locals>." ++ "<lambda>"] rfl nd law_true vs H Q E q⟩
end Dn
open PySem PySem.W PyProof.Rows
set_option maxRecDepth 100000 in
set_option maxHeartbeats 0 in
theorem PySem.Challenge.cw_halfcrumb_k17_onecuts_holds : PySem.Challenge.rw_halfcrumb_k17_onecuts.Holds := by
  w_on; o_law; k_head; (case hw => w_witness2)
  k_fill
  refine Dn.walkT (k := 13) (x := "_law_script") ⟨rfl, by decide, by decide⟩ (l := PySem.Challenge.rw_halfcrumb_k17_onecuts) rfl rfl (fun w h Y => PySem.W.km_in_of Y) ?F
  case F =>
    intro w mg fa h Y KX G hmg
    refine' Dn.all_mk KX G hmg ?g_NoFraction ?g_NoSpan ?g_NoHands ?g_Ended ?g_NoReply ?g_NotEnded ?g_Share ?g_Due ?g_Talk ?g_Way ?g_OneCuts ?a0 ?l0 ?c0 ?k0 ?a1 ?l1 ?c1 ?k1 ?a2 ?l2 ?c2 ?k2 ?a3 ?l3 ?c3 ?k3 ?a4 ?l4 ?c4 ?k4 ?a5 ?l5 ?c5 ?k5 ?a6 ?l6 ?c6 ?k6 ?a7 ?l7 ?c7 ?k7 ?a8 ?l8 ?c8 ?k8 ?a9 ?l9 ?c9 ?k9 ?a10 ?l10 ?c10 ?k10 ?a11 ?l11 ?c11 ?k11 ?a12 ?l12 ?c12 ?k12 ?a13 ?l13 ?c13 ?k13 ?a14 ?l14 ?c14 ?k14 ?a15 ?l15 ?c15 ?k15 ?a16 ?l16 ?c16 ?k16 ?a17 ?l17 ?c17 ?k17 ?a18 ?l18 ?c18 ?k18 ?a19 ?l19 ?c19 ?k19 ?a20 ?l20 ?c20 ?k20 ?lT20 ?a21 ?l21 ?c21 ?k21 ?a22 ?l22 ?c22 ?k22 ?a23 ?l23 ?c23 ?k23 ?a24 ?l24 ?c24 ?k24 ?a25 ?l25 ?c25 ?k25 ?a26 ?l26 ?c26 ?k26 ?lT26 ?a27 ?l27 ?c27 ?k27 ?a28 ?l28 ?c28 ?k28 ?a29 ?l29 ?c29 ?k29 ?a30 ?l30 ?c30 ?k30 ?a31 ?l31 ?c31 ?k31 ?a32 ?l32 ?c32 ?k32 ?a33 ?l33 ?c33 ?lq33 ?lp33 ?lh33 ?ln33 ?lt33 ?k33 ?a34 ?l34 ?c34 ?lq34 ?lp34 ?lh34 ?ln34 ?lt34 ?k34 ?a35 ?l35 ?c35 ?k35 ?a36 ?l36 ?c36 ?k36 ?a37 ?l37 ?c37 ?k37 ?a38 ?l38 ?c38 ?k38 ?a39 ?l39 ?c39 ?k39 ?a40 ?l40 ?c40 ?k40 ?a41 ?l41 ?c41 ?k41 ?a42 ?l42 ?c42 ?k42 ?a43 ?l43 ?c43 ?k43 ?a44 ?l44 ?c44 ?k44 ?pg_Share ?hD_Share ?po_Share ?sa_Share ?pg_Talk ?hD_Talk ?po_Talk ?sa_Talk ?pg_Way ?hD_Way ?po_Way ?sa_Way ?pg_OneCuts ?hD_OneCuts ?po_OneCuts ?sa_OneCuts ?mm_Share ?mi_Share ?mf_Share ?mp_Share ?mm_Talk ?mi_Talk ?mf_Talk ?mp_Talk ?mm_OneCuts ?mi_OneCuts ?mf_OneCuts ?mp_OneCuts ?ta_OneCuts___eq__ ?tf_OneCuts___eq__ ?ta_OneCuts___len__ ?tf_OneCuts___len__ ?ta_OneCuts_alike ?tf_OneCuts_alike ?ta_OneCuts_answer ?tf_OneCuts_answer ?ta_OneCuts_asked ?tf_OneCuts_asked ?ta_OneCuts_due ?tf_OneCuts_due ?ta_OneCuts_ended ?tf_OneCuts_ended ?ta_OneCuts_hands ?tf_OneCuts_hands ?ta_OneCuts_log ?tf_OneCuts_log ?ta_OneCuts_parted ?tf_OneCuts_parted ?ta_OneCuts_shares ?tf_OneCuts_shares ?ta_OneCuts_talk ?tf_OneCuts_talk ?ta_OneCuts_told_all ?tf_OneCuts_told_all ?ta_Share___eq__ ?tf_Share___eq__ ?ta_Share___len__ ?tf_Share___len__ ?ta_Share_both ?tf_Share_both ?ta_Share_parted ?tf_Share_parted ?ta_Share_spans ?tf_Share_spans ?ta_Talk_hear ?tf_Talk_hear ?ka_Share ?kn_Share ?kt_Share ?km_Share ?ka_Talk ?kn_Talk ?kt_Talk ?km_Talk ?ka_Way ?kn_Way ?kt_Way ?km_Way ?ka_OneCuts ?kn_OneCuts ?kt_OneCuts ?km_OneCuts ?ko_Share_OneCuts ?ko_Talk_OneCuts ?ko_Way_OneCuts ?ko_OneCuts_OneCuts ?kp_NoneType_OneCuts ?kp_bool_OneCuts ?kp_int_OneCuts ?kp_str_OneCuts ?kp_tuple_OneCuts ?kp_list_OneCuts ?ko_Share_Share ?ko_Talk_Share ?ko_Way_Share ?ko_OneCuts_Share ?kp_NoneType_Share ?kp_bool_Share ?kp_int_Share ?kp_str_Share ?kp_tuple_Share ?kp_list_Share ?nq_Share ?nf_Share_NoneType ?nf_Share_bool ?nf_Share_int ?nf_Share_str ?nf_Share_tuple ?nf_Share_list ?ng_Share_Share ?ng_Share_OneCuts ?nq_OneCuts ?nf_OneCuts_NoneType ?nf_OneCuts_bool ?nf_OneCuts_int ?nf_OneCuts_str ?nf_OneCuts_tuple ?nf_OneCuts_list ?ng_OneCuts_Share ?ng_OneCuts_OneCuts ?na_Talk_asks ?na_Way_ears ?na_OneCuts_ears ?na_Way_made ?na_OneCuts_made ?na_Share_parts ?na_Talk_parts ?na_Talk_replies ?na_Way_said ?na_OneCuts_said ?na_Way_unsaid ?na_OneCuts_unsaid ?na_Talk_waits ?z_abs ?z_any ?z_bool ?z_int ?z_isinstance ?z_len ?z_list ?z_range ?z_tuple ?z_zip ?m_ALL ?l_a_ALL_0 ?m_BEGIN ?l_a_BEGIN_0 ?m_END ?l_a_END_0 ?m_NONE ?l_a_NONE_0 ?x_Due ?k_Due ?x_Ended ?k_Ended ?x_NoFraction ?k_NoFraction ?x_NoHands ?k_NoHands ?x_NoSpan ?k_NoSpan ?sb_NoFraction ?t_NoFraction ?sb_NoSpan ?t_NoSpan ?sb_NoHands ?t_NoHands ?sb_Ended ?t_Ended ?sb_NotEnded ?t_NotEnded ?sb_Due ?t_Due ?hd_Due ?su_NoFraction_Due ?su_NoSpan_Due ?su_NoHands_Due ?su_Ended_Due ?su_NoReply_Due ?su_NotEnded_Due ?su_Due_Due ?hd_NotEnded ?su_NoFraction_NotEnded ?su_NoSpan_NotEnded ?su_NoHands_NotEnded ?su_Ended_NotEnded ?su_NoReply_NotEnded ?su_NotEnded_NotEnded ?su_Due_NotEnded ?hg_NotEnded ?hk_NotEnded ?hs_NotEnded ?hh_NotEnded ?ha_NotEnded ?hn_NotEnded ?ht_NotEnded ?hm_NotEnded ?hg_Due ?hk_Due ?hs_Due ?hh_Due ?ha_Due ?hn_Due ?ht_Due ?hm_Due ?xl_NoReply ?xr_NoReply ?xsa_NoReply ?xsb_NoReply ?xty_NoReply ?xkp_NoReply ?xtf_NoReply ?xno_NoReply ?xga_NoReply ?xgg_NoReply ?xhd_NoReply ?xl_NotEnded ?xr_NotEnded ?xsa_NotEnded ?xsb_NotEnded ?xty_NotEnded ?xkp_NotEnded ?xtf_NotEnded ?xno_NotEnded ?xga_NotEnded ?xgg_NotEnded ?xhd_NotEnded ?crd_Way ?crg_Way ?cvf_Way___init__ ?nd
    (case g_NoFraction => k_is)
    (case g_NoSpan => k_is)
    (case g_NoHands => k_is)
    (case g_Ended => k_is)
    (case g_NoReply => k_is)
    (case g_NotEnded => k_is)
    (case g_Share => k_is)
    (case g_Due => k_is)
    (case g_Talk => k_is)
    (case g_Way => k_is)
    (case g_OneCuts => k_is)
    (case a0 => k_is)
    (case l0 => k_is)
    (case c0 => k_is)
    (case k0 => k_is)
    (case a1 => k_is)
    (case l1 => k_is)
    (case c1 => k_is)
    (case k1 => k_is)
    (case a2 => k_is)
    (case l2 => k_is)
    (case c2 => k_is)
    (case k2 => k_is)
    (case a3 => k_is)
    (case l3 => k_is)
    (case c3 => k_is)
    (case k3 => k_is)
    (case a4 => k_is)
    (case l4 => k_is)
    (case c4 => k_is)
    (case k4 => k_is)
    (case a5 => k_is)
    (case l5 => k_is)
    (case c5 => k_is)
    (case k5 => k_is)
    (case a6 => k_is)
    (case l6 => k_is)
    (case c6 => k_is)
    (case k6 => k_is)
    (case a7 => k_is)
    (case l7 => k_is)
    (case c7 => k_is)
    (case k7 => k_is)
    (case a8 => k_is)
    (case l8 => k_is)
    (case c8 => k_is)
    (case k8 => k_is)
    (case a9 => k_is)
    (case l9 => k_is)
    (case c9 => k_is)
    (case k9 => k_is)
    (case a10 => k_is)
    (case l10 => k_is)
    (case c10 => k_is)
    (case k10 => k_is)
    (case a11 => k_is)
    (case l11 => k_is)
    (case c11 => k_is)
    (case k11 => k_is)
    (case a12 => k_is)
    (case l12 => k_is)
    (case c12 => k_is)
    (case k12 => k_is)
    (case a13 => k_is)
    (case l13 => k_is)
    (case c13 => k_is)
    (case k13 => k_is)
    (case a14 => k_is)
    (case l14 => k_is)
    (case c14 => k_is)
    (case k14 => k_is)
    (case a15 => k_is)
    (case l15 => k_is)
    (case c15 => k_is)
    (case k15 => k_is)
    (case a16 => k_is)
    (case l16 => k_is)
    (case c16 => k_is)
    (case k16 => k_is)
    (case a17 => k_is)
    (case l17 => k_is)
    (case c17 => k_is)
    (case k17 => k_is)
    (case a18 => k_is)
    (case l18 => k_is)
    (case c18 => k_is)
    (case k18 => k_is)
    (case a19 => k_is)
    (case l19 => k_is)
    (case c19 => k_is)
    (case k19 => k_is)
    (case a20 => k_is)
    (case l20 => k_is)
    (case c20 => k_is)
    (case k20 => k_is)
    (case lT20 => k_is)
    (case a21 => k_is)
    (case l21 => k_is)
    (case c21 => k_is)
    (case k21 => k_is)
    (case a22 => k_is)
    (case l22 => k_is)
    (case c22 => k_is)
    (case k22 => k_is)
    (case a23 => k_is)
    (case l23 => k_is)
    (case c23 => k_is)
    (case k23 => k_is)
    (case a24 => k_is)
    (case l24 => k_is)
    (case c24 => k_is)
    (case k24 => k_is)
    (case a25 => k_is)
    (case l25 => k_is)
    (case c25 => k_is)
    (case k25 => k_is)
    (case a26 => k_is)
    (case l26 => k_is)
    (case c26 => k_is)
    (case k26 => k_is)
    (case lT26 => k_is)
    (case a27 => k_is)
    (case l27 => k_is)
    (case c27 => k_is)
    (case k27 => k_is)
    (case a28 => k_is)
    (case l28 => k_is)
    (case c28 => k_is)
    (case k28 => k_is)
    (case a29 => k_is)
    (case l29 => k_is)
    (case c29 => k_is)
    (case k29 => k_is)
    (case a30 => k_is)
    (case l30 => k_is)
    (case c30 => k_is)
    (case k30 => k_is)
    (case a31 => k_is)
    (case l31 => k_is)
    (case c31 => k_is)
    (case k31 => k_is)
    (case a32 => k_is)
    (case l32 => k_is)
    (case c32 => k_is)
    (case k32 => k_is)
    (case a33 => k_is)
    (case l33 => k_is)
    (case c33 => k_is)
    (case lq33 => k_is)
    (case lp33 => rfl)
    (case lh33 => kernel_rfl)
    (case ln33 => kernel_rfl)
    (case lt33 => exact PySem.W.km_tabs_of Y _ (by k_mem))
    (case k33 => k_is)
    (case a34 => k_is)
    (case l34 => k_is)
    (case c34 => k_is)
    (case lq34 => k_is)
    (case lp34 => rfl)
    (case lh34 => kernel_rfl)
    (case ln34 => kernel_rfl)
    (case lt34 => exact PySem.W.km_tabs_of Y _ (by k_mem))
    (case k34 => k_is)
    (case a35 => k_is)
    (case l35 => k_is)
    (case c35 => k_is)
    (case k35 => k_is)
    (case a36 => k_is)
    (case l36 => k_is)
    (case c36 => k_is)
    (case k36 => k_is)
    (case a37 => k_is)
    (case l37 => k_is)
    (case c37 => k_is)
    (case k37 => k_is)
    (case a38 => k_is)
    (case l38 => k_is)
    (case c38 => k_is)
    (case k38 => k_is)
    (case a39 => k_is)
    (case l39 => k_is)
    (case c39 => k_is)
    (case k39 => k_is)
    (case a40 => k_is)
    (case l40 => k_is)
    (case c40 => k_is)
    (case k40 => k_is)
    (case a41 => k_is)
    (case l41 => k_is)
    (case c41 => k_is)
    (case k41 => k_is)
    (case a42 => k_is)
    (case l42 => k_is)
    (case c42 => k_is)
    (case k42 => k_is)
    (case a43 => k_is)
    (case l43 => k_is)
    (case c43 => k_is)
    (case k43 => k_is)
    (case a44 => k_is)
    (case l44 => k_is)
    (case c44 => k_is)
    (case k44 => k_is)
    (case pg_Share => k_is)
    (case hD_Share => k_is)
    (case po_Share => k_is)
    (case sa_Share => k_is)
    (case pg_Talk => k_is)
    (case hD_Talk => k_is)
    (case po_Talk => k_is)
    (case sa_Talk => k_is)
    (case pg_Way => k_is)
    (case hD_Way => k_is)
    (case po_Way => k_is)
    (case sa_Way => k_is)
    (case pg_OneCuts => k_is)
    (case hD_OneCuts => k_is)
    (case po_OneCuts => k_is)
    (case sa_OneCuts => k_is)
    (case mm_Share => k_is)
    (case mi_Share => k_is)
    (case mf_Share => k_is)
    (case mp_Share => k_is)
    (case mm_Talk => k_is)
    (case mi_Talk => k_is)
    (case mf_Talk => k_is)
    (case mp_Talk => k_is)
    (case mm_OneCuts => k_is)
    (case mi_OneCuts => k_is)
    (case mf_OneCuts => k_is)
    (case mp_OneCuts => k_is)
    (case ta_OneCuts___eq__ => k_is)
    (case tf_OneCuts___eq__ => k_is)
    (case ta_OneCuts___len__ => k_is)
    (case tf_OneCuts___len__ => k_is)
    (case ta_OneCuts_alike => k_is)
    (case tf_OneCuts_alike => k_is)
    (case ta_OneCuts_answer => k_is)
    (case tf_OneCuts_answer => k_is)
    (case ta_OneCuts_asked => k_is)
    (case tf_OneCuts_asked => k_is)
    (case ta_OneCuts_due => k_is)
    (case tf_OneCuts_due => k_is)
    (case ta_OneCuts_ended => k_is)
    (case tf_OneCuts_ended => k_is)
    (case ta_OneCuts_hands => k_is)
    (case tf_OneCuts_hands => k_is)
    (case ta_OneCuts_log => k_is)
    (case tf_OneCuts_log => k_is)
    (case ta_OneCuts_parted => k_is)
    (case tf_OneCuts_parted => k_is)
    (case ta_OneCuts_shares => k_is)
    (case tf_OneCuts_shares => k_is)
    (case ta_OneCuts_talk => k_is)
    (case tf_OneCuts_talk => k_is)
    (case ta_OneCuts_told_all => k_is)
    (case tf_OneCuts_told_all => k_is)
    (case ta_Share___eq__ => k_is)
    (case tf_Share___eq__ => k_is)
    (case ta_Share___len__ => k_is)
    (case tf_Share___len__ => k_is)
    (case ta_Share_both => k_is)
    (case tf_Share_both => k_is)
    (case ta_Share_parted => k_is)
    (case tf_Share_parted => k_is)
    (case ta_Share_spans => k_is)
    (case tf_Share_spans => k_is)
    (case ta_Talk_hear => k_is)
    (case tf_Talk_hear => k_is)
    (case ka_Share => first | rfl | k_is)
    (case kn_Share => first | rfl | k_is)
    (case kt_Share => first | rfl | k_is)
    (case km_Share => first | rfl | k_is)
    (case ka_Talk => first | rfl | k_is)
    (case kn_Talk => first | rfl | k_is)
    (case kt_Talk => first | rfl | k_is)
    (case km_Talk => first | rfl | k_is)
    (case ka_Way => first | rfl | k_is)
    (case kn_Way => first | rfl | k_is)
    (case kt_Way => first | rfl | k_is)
    (case km_Way => first | rfl | k_is)
    (case ka_OneCuts => first | rfl | k_is)
    (case kn_OneCuts => first | rfl | k_is)
    (case kt_OneCuts => first | rfl | k_is)
    (case km_OneCuts => first | rfl | k_is)
    (case ko_Share_OneCuts => first | rfl | k_is)
    (case ko_Talk_OneCuts => first | rfl | k_is)
    (case ko_Way_OneCuts => first | rfl | k_is)
    (case ko_OneCuts_OneCuts => first | rfl | k_is)
    (case kp_NoneType_OneCuts => first | rfl | k_is)
    (case kp_bool_OneCuts => first | rfl | k_is)
    (case kp_int_OneCuts => first | rfl | k_is)
    (case kp_str_OneCuts => first | rfl | k_is)
    (case kp_tuple_OneCuts => first | rfl | k_is)
    (case kp_list_OneCuts => first | rfl | k_is)
    (case ko_Share_Share => first | rfl | k_is)
    (case ko_Talk_Share => first | rfl | k_is)
    (case ko_Way_Share => first | rfl | k_is)
    (case ko_OneCuts_Share => first | rfl | k_is)
    (case kp_NoneType_Share => first | rfl | k_is)
    (case kp_bool_Share => first | rfl | k_is)
    (case kp_int_Share => first | rfl | k_is)
    (case kp_str_Share => first | rfl | k_is)
    (case kp_tuple_Share => first | rfl | k_is)
    (case kp_list_Share => first | rfl | k_is)
    (case nq_Share => k_is)
    (case nf_Share_NoneType => first | rfl | k_is | kernel_rfl)
    (case nf_Share_bool => first | rfl | k_is | kernel_rfl)
    (case nf_Share_int => first | rfl | k_is | kernel_rfl)
    (case nf_Share_str => first | rfl | k_is | kernel_rfl)
    (case nf_Share_tuple => first | rfl | k_is | kernel_rfl)
    (case nf_Share_list => first | rfl | k_is | kernel_rfl)
    (case ng_Share_Share => first | rfl | k_is | kernel_rfl)
    (case ng_Share_OneCuts => first | rfl | k_is | kernel_rfl)
    (case nq_OneCuts => k_is)
    (case nf_OneCuts_NoneType => first | rfl | k_is | kernel_rfl)
    (case nf_OneCuts_bool => first | rfl | k_is | kernel_rfl)
    (case nf_OneCuts_int => first | rfl | k_is | kernel_rfl)
    (case nf_OneCuts_str => first | rfl | k_is | kernel_rfl)
    (case nf_OneCuts_tuple => first | rfl | k_is | kernel_rfl)
    (case nf_OneCuts_list => first | rfl | k_is | kernel_rfl)
    (case ng_OneCuts_Share => first | rfl | k_is | kernel_rfl)
    (case ng_OneCuts_OneCuts => first | rfl | k_is | kernel_rfl)
    (case na_Talk_asks => k_is)
    (case na_Way_ears => k_is)
    (case na_OneCuts_ears => k_is)
    (case na_Way_made => k_is)
    (case na_OneCuts_made => k_is)
    (case na_Share_parts => k_is)
    (case na_Talk_parts => k_is)
    (case na_Talk_replies => k_is)
    (case na_Way_said => k_is)
    (case na_OneCuts_said => k_is)
    (case na_Way_unsaid => k_is)
    (case na_OneCuts_unsaid => k_is)
    (case na_Talk_waits => k_is)
    (case z_abs => k_is)
    (case z_any => k_is)
    (case z_bool => k_is)
    (case z_int => k_is)
    (case z_isinstance => k_is)
    (case z_len => k_is)
    (case z_list => k_is)
    (case z_range => k_is)
    (case z_tuple => k_is)
    (case z_zip => k_is)
    (case m_ALL => k_is)
    (case l_a_ALL_0 => k_is)
    (case m_BEGIN => k_is)
    (case l_a_BEGIN_0 => k_is)
    (case m_END => k_is)
    (case l_a_END_0 => k_is)
    (case m_NONE => k_is)
    (case l_a_NONE_0 => k_is)
    (case x_Due => k_exc)
    (case k_Due => k_is)
    (case x_Ended => k_exc)
    (case k_Ended => k_is)
    (case x_NoFraction => k_exc)
    (case k_NoFraction => k_is)
    (case x_NoHands => k_exc)
    (case k_NoHands => k_is)
    (case x_NoSpan => k_exc)
    (case k_NoSpan => k_is)
    (case sb_NoFraction => k_is)
    (case t_NoFraction => k_is)
    (case sb_NoSpan => k_is)
    (case t_NoSpan => k_is)
    (case sb_NoHands => k_is)
    (case t_NoHands => k_is)
    (case sb_Ended => k_is)
    (case t_Ended => k_is)
    (case sb_NotEnded => k_is)
    (case t_NotEnded => k_is)
    (case sb_Due => k_is)
    (case t_Due => k_is)
    (case hd_Due => k_is)
    (case su_NoFraction_Due => first | rfl | k_is)
    (case su_NoSpan_Due => first | rfl | k_is)
    (case su_NoHands_Due => first | rfl | k_is)
    (case su_Ended_Due => first | rfl | k_is)
    (case su_NoReply_Due => first | rfl | k_is)
    (case su_NotEnded_Due => first | rfl | k_is)
    (case su_Due_Due => first | rfl | k_is)
    (case hd_NotEnded => k_is)
    (case su_NoFraction_NotEnded => first | rfl | k_is)
    (case su_NoSpan_NotEnded => first | rfl | k_is)
    (case su_NoHands_NotEnded => first | rfl | k_is)
    (case su_Ended_NotEnded => first | rfl | k_is)
    (case su_NoReply_NotEnded => first | rfl | k_is)
    (case su_NotEnded_NotEnded => first | rfl | k_is)
    (case su_Due_NotEnded => first | rfl | k_is)
    (case hg_NotEnded => first | rfl | k_is)
    (case hk_NotEnded => first | rfl | k_is)
    (case hs_NotEnded => first | rfl | k_is)
    (case hh_NotEnded => first | rfl | k_is)
    (case ha_NotEnded => first | rfl | k_is)
    (case hn_NotEnded => first | rfl | k_is)
    (case ht_NotEnded => first | rfl | k_is)
    (case hm_NotEnded => first | rfl | k_is)
    (case hg_Due => first | rfl | k_is)
    (case hk_Due => first | rfl | k_is)
    (case hs_Due => first | rfl | k_is)
    (case hh_Due => first | rfl | k_is)
    (case ha_Due => first | rfl | k_is)
    (case hn_Due => first | rfl | k_is)
    (case ht_Due => first | rfl | k_is)
    (case hm_Due => first | rfl | k_is)
    (case xl_NoReply => k_is)
    (case xr_NoReply => first | rfl | kernel_rfl | decide +kernel)
    (case xsa_NoReply => k_is)
    (case xsb_NoReply => k_is)
    (case xty_NoReply => k_is)
    (case xkp_NoReply => k_is)
    (case xtf_NoReply => k_is)
    (case xno_NoReply => k_is)
    (case xga_NoReply => k_is)
    (case xgg_NoReply => k_is)
    (case xhd_NoReply => k_is)
    (case xl_NotEnded => k_is)
    (case xr_NotEnded => first | rfl | kernel_rfl | decide +kernel)
    (case xsa_NotEnded => k_is)
    (case xsb_NotEnded => k_is)
    (case xty_NotEnded => k_is)
    (case xkp_NotEnded => k_is)
    (case xtf_NotEnded => k_is)
    (case xno_NotEnded => k_is)
    (case xga_NotEnded => k_is)
    (case xgg_NotEnded => k_is)
    (case xhd_NotEnded => k_is)
    (case crd_Way => first | rfl | k_is | kernel_rfl)
    (case crg_Way => first | rfl | k_is | kernel_rfl)
    (case cvf_Way___init__ => first | rfl | k_is | kernel_rfl)
    (case nd => decide)
