import PyProof.Rows.All
import HandS.Words
import HandS.WordsList
import HandS.WordsDict
import HandS.WordsExc
import HandS.Comp
import HandS.Codes
import HandS.Wide
import HandS.Iter
import HandS.TupAny
import HandS.IsInst
import HandS.Defaults
import HandS.HeadEnd
import KE.KExcSuper
import KE.KExcIs
import HandS.ExcInit
import HandS.ExcField
import HandS.ExcIs
import HandS.ExcValue
import HandS.HeadHook4
import HandS.DictComp
import HandS.Style
import Lean
import HandS.Head0
import HandS.Head1
import HandS.Head2
import HandS.Walk
import HandS.HeadHook1
import HandS.HeadHook2
import HandS.HeadHook3
import PySem.Challenge.RW_veilpost_k00_errors_and_their_fields
set_option Elab.async false
set_option linter.all false
set_option maxRecDepth 100000
set_option maxHeartbeats 0
namespace Gl
open PySem PySem.Spec PyProof.Rows L2
structure Fn (P : Program) (w : World) (K : PySem.W.Frag) (mg : Str → Option Value) (base : Heap) (k : Nat) (f : Addr) (fd : FuncData) (ps : List Str) (sp : Sp) : Prop where
  many : ∀ vs H Q E, sp vs H Q E → vs.length = ps.length
  go : ∀ (A : Around) (outer : List Env) (s : Shared) (H : Hp) (args : Args) (us : List Value) (vs : List V) (Q : VK) (E : XK),
    Room k A → A.guards = some [] → Env0 P w K mg base A outer s H → BindsTo s fd args (ps.zip us) → Vals vs us →
    sp vs H Q E → codeAny (model P w) A (.call (.ref f) args) (CR (L2.CX P w) outer P w H s Q E) s
section
variable {P : Program} {w : World} {K : PySem.W.Frag} {mg : Str → Option Value} {base : Heap}
theorem Fn.up {j k : Nat} {f : Addr} {fd : FuncData} {ps : List Str} {sp : Sp} (F : Fn P w K mg base j f fd ps sp) (h : j ≤ k) : Fn P w K mg base k f fd ps sp :=
  ⟨F.many, fun A outer s H args us vs Q E r g => F.go A outer s H args us vs Q E (r.mono h) g⟩
/-- a def by its body: what stands at f, and the reading of the body -/
theorem fn_body {x qual : Str} {pa : Arguments} {bd : List Stmt} {sc : Scope} {dvs : List V} {kws : List (Str × V)} {f : Addr} {fd : FuncData} {N ps : List Str} {k : Nat} {sp : Sp}
    (F : FunD K x qual pa bd sc dvs kws f fd) (S : FnScope N ps sc) (many : ∀ vs H Q E, sp vs H Q E → vs.length = ps.length)
    (body : ∀ (cv : Value) (A : Around) (outer : List Env) (s : Shared) (H : Hp) (vs : List V) (Q : VK) (E : XK),
      Room k (A.deeper (envOfC qual sc s.heap.objs.size f cv)) → A.guards = some [] → sp vs H Q E →
      ∃ t, PSs (cxOf (L2.CX P w) P w K mg base N qual sc f cv A outer s H E) bd t ∧ t ⟨fun _ H' => Q .non H', Q, fun _ _ => False, fun _ _ => False⟩ (L2.start N vs) H) :
    Fn P w K mg base (k + 1) f fd ps sp := by
  obtain ⟨oc, od, dV, kV, doc, pm, an, cv, ct, osl, rfl, at_f, code, _, _⟩ := F.ex
  refine ⟨many, fun A outer s H args us vs Q E room gd e0 binds rel pre => ?_⟩
  have KX : K.In s.heap := e0.mod.kin.keeps fun b o e => (e0.bs b o e).1
  have noLim : s.heap.NoLimit := e0.mod.nolimit.keeps fun b o e => (e0.bs b o e).1
  have par : ∀ y ∈ ps.zip us, sc.names.lookup y.1 = some .local ∨ (sc.names.lookup y.1 = some .cell ∧ ((cellsFrom (s.heap.objs.size + 1) sc.names []).lookup y.1).isSome = true) := by
    rintro ⟨n, v⟩ hy
    rcases S.par n (List.of_mem_zip hy).1 with q | q
    · exact Or.inl q
    · exact Or.inr ⟨q, PySem.W.cellsFrom_some _ _ _ (Or.inl q)⟩
  refine codeAny_call_function room.depth (KX _ _ at_f) rfl S.co S.gen rfl (PySem.W.codeRec_of KX code) (binds _ _ _ _ ?_)
  refine wpAny_newFunctionEnv_cells S.kind par fun env he s1 inCall => ?_
  subst he
  obtain ⟨t, der, rd⟩ := body cv A outer s H vs Q E (room.deeper _) gd pre
  have I := inv_start (CX := L2.CX P w) (qual := qual) (f := f) (cd := cv) (A := A) (E := E) S room.hd e0 (many _ _ _ _ pre) rel inCall
  refine ⟨noLim.keeps inCall.toInCall.keep, codeAny_func (wpAny_mono (der.run [] s1 (L2.start N vs) H _ I rd) (fun fl s' hs => ?_) fun e s' hs => hs)⟩
  cases fl with
  | ret u =>
    obtain ⟨v, σ', H', J, rv, q⟩ := hs
    exact ⟨v, H', J.os, J.bare, J.base, J.hok, rv, q⟩
  | next =>
    obtain ⟨σ', H', J, q⟩ := hs
    exact ⟨V.non, H', J.os, J.bare, J.base, J.hok, rfl, q⟩
  | brk => obtain ⟨_, _, _, q⟩ := hs; exact q.elim
  | cont => obtain ⟨_, _, _, q⟩ := hs; exact q.elim
/-- a def of the module that may be called by its name -/
structure Df (P : Program) (w : World) (K : PySem.W.Frag) (mg : Str → Option Value) (base : Heap) (k : Nat) (x : Str) (sp : Sp) : Prop where
  ex : ∃ (f : Addr) (fd : FuncData) (ps : List Str), Fn P w K mg base k f fd ps sp ∧ mg x = some (.ref f) ∧ PySem.W.keepIn K (.ref f) = true ∧ Binds K fd ps []
theorem Df.up {j k : Nat} {x : Str} {sp : Sp} (F : Df P w K mg base j x sp) (h : j ≤ k) : Df P w K mg base k x sp := by
  obtain ⟨f, fd, ps, a, b⟩ := F.ex
  exact ⟨f, fd, ps, a.up h, b⟩
end
theorem own_pass {X : Cx} {E : XK} (tk : Takes X (fun cls d _ H => E cls d H)) (σ : L2.St) : PassesAt (L2.CX X.prog X.w) X σ E := fun pins H s e s' I c =>
  tk e s' (XE.of_call I (fun _ _ _ h => h) c)
theorem no_pass {X : Cx} (σ : L2.St) : PassesAt (L2.CX X.prog X.w) X σ E0 := fun pins H s e s' I c => passL pins σ H s e s' I c
/-- f(..): E what is wished of an exception, by the slots -/
def tDf (sp : Sp) (E : L2.St → XK) (t : TA) : TE := fun σ H Q => t σ H fun vs H1 => sp vs H1 Q (E σ)
section
variable {X : Cx} {k j : Nat} {f C : Addr} {fd : FuncData} {ps : List Str} {sp : Sp} {E : L2.St → XK} {x m : Str} {p pos apos : Pos} {e o : Expr} {es : List Expr} {ta : TE} {t : TA}
theorem run_df {pins : List (Addr × Obj)} {σ : L2.St} {H : Hp} {s : Shared} {Q : VK} {us : List Value} {vs : List V} {E' : XK} (F : Fn X.prog X.w X.K X.mg X.base k f fd ps sp) (hr : Room k X.A) (hG : X.A.guards = some []) (hb : Binds X.K fd ps [])
    (hx : PassesAt (L2.CX X.prog X.w) X σ E') (I : Inv X pins σ H s) (r : Vals vs us) (h : sp vs H Q E') : wpAny (model X.prog X.w) X.A (call (.ref f) us) (EP X pins σ Q) X.xe s := by
  have len : (us ++ []).length = ps.length := by rw [List.append_nil, ← r.length]; exact F.many _ _ _ _ h
  have b := hb s us I.kIn len
  rw [List.append_nil] at b
  refine wpAny_call (codeAny_mono (F.go X.A X.stack s H ⟨us, []⟩ us vs Q E' hr hG I.env0 b r h) fun res s' hq => ?_)
  match res, hq with
  | .error err, hq => exact hx pins H s err s' I hq
  | .ok (.ret u), hq => exact I.after hq
theorem pe_df (F : Df X.prog X.w X.K X.mg X.base k x sp) (hr : Room j X.A) (hk : k ≤ j) (hG : X.A.guards = some []) (hg : Gl X x) (hx : ∀ σ, PassesAt (L2.CX X.prog X.w) X σ (E σ)) (ha : PA X (e :: es) t)
    (hd : (x == ("__debug__" : Str)) = false := by decide) (he : starEach (e :: es) X.env = (false, eval e X.env) :: starEach es X.env := by rfl) (hp : (backTo pos (starEach es X.env)).any (·.1) = false := by rfl) : PE X (.Call (.Name x p) (e :: es) [] pos) (tDf sp E t) := by
  obtain ⟨f, fd, ps, F, hm, kp, hb⟩ := F.ex
  refine ⟨fun pins s σ H Q I h => wpAny_Call_Name_kw (ld_glob I hg hm ?_ hd)⟩
  exact PySem.W.callWith_K (h₀ := X.base) I.ok.mod.kin kp (thn (ha.run pos pins s σ H _ I h) fun us s1 ⟨vs, H1, I1, r, q⟩ => ⟨I1.kIn, run_df F (hr.mono hk) hG hb (hx σ) I1 r q⟩) he hp
theorem pe_df0 (F : Df X.prog X.w X.K X.mg X.base k x sp) (hr : Room j X.A) (hk : k ≤ j) (hG : X.A.guards = some []) (hg : Gl X x) (hx : ∀ σ, PassesAt (L2.CX X.prog X.w) X σ (E σ))
    (hd : (x == ("__debug__" : Str)) = false := by decide) : PE X (.Call (.Name x p) [] [] pos) (tDf sp E tNil) := by
  obtain ⟨f, fd, ps, F, hm, kp, hb⟩ := F.ex
  refine ⟨fun pins s σ H Q I h => wpAny_Call_Name_kw (ld_glob I hg hm ?_ hd)⟩
  exact PySem.W.callWith_K0 I.kIn kp (run_df (us := []) F (hr.mono hk) hG hb (hx σ) I .nil h)
end
/-- the law's own call at its heap h: H tells of the script alone -/
theorem call_at {P : Program} {w : World} {K : PySem.W.Frag} {mg mb : Str → Option Value} {k : Nat} {f a : Addr} {fd : FuncData} {x : Str} {sp : Sp} {s : Shared} {us : List Value} {H : Hp}
    (KX : K.In s.heap) (glob : s.heap.Ns mainGlobals mg) (bl : s.heap.Ns builtinsNs mb) (boot : ∀ y : Str, y ≠ "__name__" → mb y = bootBuiltins y) (lim : s.heap.NoLimit) (gens : s.gens = #[])
    (at_a : s.heap.get? a = some { cls := .type "list", data := .seq us.toArray }) (room : Room k callerA) (go : ∀ base : Heap, K.In base → base.Ns mainGlobals mg → Fn P w K mg base k f fd [x] sp)
    (bind : ∀ (s : Shared) (u : Value), BindsTo s fd ⟨[u], []⟩ [(x, u)]) (pre : sp [.ref a] H (fun v _ => v = .bl true) fun _ _ _ => False)
    (only : ∀ b, H b = none ∨ (b = a ∧ K.lookup a = none ∧ ∃ o xs, H b = some (.frz o (.lst xs)))) (ok : HOk P w H s.heap) :
    codeAny (model P w) callerA (.call (.ref f) ⟨[.ref a], []⟩) (fun r t => r = .ok (.ret (.bool true)) ∧ OldK s.heap t.heap ∧ t.os = s.os ∧ AllBare t.gens) s := by
  have free : ∀ {b : Addr}, b ≠ a → H b = none := fun {b} nb => (only b).elim id fun q => absurd q.1 nb
  have stay : ∀ {b : Addr} {o : Obj}, s.heap.get? b = some o → b ≠ a → (hidT s.heap H).get? b = some o := fun e nb => hidT_get e (free nb)
  have noDict : ∀ {b : Addr} {m : Str → Option Value}, s.heap.Ns b m → b ≠ a := by
    rintro b m ⟨o, es, ep, e, d, _⟩ rfl
    rw [at_a] at e
    cases e
    cases d
  have nsIn : ∀ {b : Addr} {m : Str → Option Value}, s.heap.Ns b m → (hidT s.heap H).Ns b m := fun {b m} q => by
    have nb := noDict q
    obtain ⟨o, es, ep, e, r⟩ := q
    exact ⟨o, es, ep, stay e nb, r⟩
  have kin : K.In (hidT s.heap H) := fun b o e => by
    refine hidT_get (KX b o e) ?_
    rcases only b with q | ⟨q, l, _⟩
    · exact q
    · rw [q, l] at e
      cases e
  obtain ⟨mc, l1, l2⟩ := lim
  have e0 : Env0 P w K mg (hidT s.heap H) callerA [] s H :=
    { frames := rfl, mod := ⟨kin, nsIn glob, ⟨mb, nsIn bl, boot⟩, ⟨mc, nsIn l1, l2⟩⟩, bs := fun b o e => of_hidT e, bsz := Nat.le_of_eq (hidT_size _ _), funs := trivial, frf := fun b z => (by cases z), hok := ok, bare := AllBare.of_eq gens }
  refine codeAny_mono ((go _ kin (nsIn glob)).go callerA [] s H ⟨[.ref a], []⟩ [.ref a] [.ref a] _ _ room rfl e0 (bind s (.ref a)) (.cons rfl .nil) pre) fun r t done => ?_
  match r, done with
  | .error e, done =>
    obtain ⟨_, _, _, _, _, _, _, _, _, _, _, _, z⟩ := done
    exact z.elim
  | .ok (.ret u), done =>
    obtain ⟨v, H', os, bare, un, ok', rv, q⟩ := done
    have qv : v = .bl true := q
    subst qv
    obtain rfl : u = Value.bool true := rv
    refine ⟨rfl, OldK.of_keep fun b o e => ?_, os, bare⟩
    rcases only b with q | ⟨_, _, ob, xs, q⟩
    · exact un.keep b o e q (fun z => nomatch z) (fun z => nomatch z)
    · have h1 := (ok b _ q).1
      have h2 := (ok' b _ (un.frzs b ob _ q)).1
      rw [e] at h1
      cases h1
      exact h2
/-- the law itself: how it is called at the end -/
theorem law_end {l : PySem.W.OpenLaw} {n k : Nat} {q : Program} {loose : List Str} {XP : (Str → Option Value) → Heap → Prop} {YP : World → Heap → Prop} {d : DefRec} {x : Str}
    (hn : l.most = some n) (hn2 : n ≤ sizeLine) (hdf : d.params.defaults = []) (hr : Room k callerA)
    (F : ∀ (w : World) (mg : Str → Option Value) (fa : Addr) (h : Heap), YP w h → h.Ns mainGlobals mg → mg d.name = some (.ref fa) →
      ∃ (K : PySem.W.Frag) (fd : FuncData) (sp : Sp), K.In h ∧ (∀ (s : Shared) (u : Value), BindsTo s fd ⟨[u], []⟩ [(x, u)]) ∧
        (∀ (H : Hp) (a : Addr) (ns : List Int), ns.length ≤ n → Only H → SqL K H a (ns.map V.int) → sp [.ref a] H (fun v _ => v = .bl true) fun _ _ _ => False) ∧
        ∀ base : Heap, K.In base → base.Ns mainGlobals mg → Fn l.prog w K mg base k fa fd [x] sp) :
    PySem.W.WalkO q loose XP YP l.row.toRowW d [] (fun f vs => PySem.call f vs) := by
  refine Att.attach_call hn hdf fun w s₀ s mg mb f o pm cd doc a us ns G Y _ _ _ hmg at_a nums short gens => ?_
  obtain ⟨K, fd, sp, KX, bind, pre, go⟩ := F w mg f _ Y G.T.g hmg
  have rv := vals_ints nums
  have size : us.length ≤ sizeLine := by rw [nums.length]; exact Nat.le_trans short hn2
  cases look : K.lookup a with
  | some ob =>
    have e := KX a ob look
    rw [at_a] at e
    cases e
    exact call_at (H := fun _ => none) (x := x) KX G.T.g G.T.b G.T.builtins G.T.nolimit gens at_a hr go bind
      (pre _ a ns short (fun _ => Or.inl rfl) (Or.inr ⟨_, us.toArray, _, look, rfl, rfl, rfl, by rw [List.size_toArray]; exact size, by simpa using rv⟩)) (fun _ => Or.inl rfl) (fun b u z => nomatch z)
  | none =>
    have one : ∀ b, (if b = a then some (HO.frz { cls := .type "list", data := .seq us.toArray } (.lst (ns.map V.int))) else none) = none ∨
        (b = a ∧ K.lookup a = none ∧ ∃ ob xs, (if b = a then some (HO.frz { cls := .type "list", data := .seq us.toArray } (.lst (ns.map V.int))) else none) = some (.frz ob (.lst xs))) := fun b => by
      by_cases hb : b = a
      · exact Or.inr ⟨hb, look, _, _, if_pos hb⟩
      · exact Or.inl (if_neg hb)
    refine call_at (x := x) (H := fun b => if b = a then some (HO.frz { cls := .type "list", data := .seq us.toArray } (.lst (ns.map V.int))) else none) KX G.T.g G.T.b G.T.builtins G.T.nolimit gens at_a hr go bind
      (pre _ a ns short (fun b => (one b).elim Or.inl fun z => Or.inr z.2.2) (Or.inl (Or.inr ⟨_, if_pos rfl⟩))) one (fun b u z => ?_)
    rcases one b with q | ⟨rfl, _, _⟩
    · exact absurd (q.symm.trans z) (by simp)
    · have z2 := (if_pos rfl).symm.trans z
      cases z2
      exact ⟨at_a, by rw [rv.length]; exact size, us, _, rv, at_a⟩
end Gl
namespace Ex
open PySem PySem.W PySem.Calls PyProof.Rows PySem.HandSPX
def iA (fld : Str) (p1 p2 : Pos) : Arguments := { posonlyargs := [], args := [{ arg := "self", annotation := none, pos := p1 }, { arg := fld, annotation := none, pos := p2 }], vararg := none, kwonlyargs := [], kw_defaults := [], kwarg := none, defaults := [] }
def iB (fld : Str) (p0 p1 p2 p3 p4 p5 p6 p7 p8 p9 : Pos) : List Stmt :=
  [.Expr (.Call (.Attribute (.Call (.Name "super" p0) [] [] p1) "__init__" p2) [.Name fld p3] [] p4) p5, .Assign [.Attribute (.Name "self" p6) fld p7] (.Name fld p8) p9]
def iS (fld : Str) : Scope := { kind := .function, names := [(PySem.Str.ofString "self", .local), (fld, .local), (PySem.Str.ofString "__class__", .free), (PySem.Str.ofString "super", .globalImplicit)], isGenerator := false, isCoroutine := false, more := [] }
structure BadC (P : Program) (K : Frag) (C : Addr) (fld : Str) : Prop where
  cls : ∃ nm q N bs bm sn sub ab col dd k0 k1 k2 k3 k5, K.lookup C = some (excClassObj nm q C N bs bm true sn sub ab col dd k0 k1 k2 k3 k5 "ValueError.__new__") ∧ refsVE bm = true
  sa : findIn K (.ref C) "__setattr__" = some (some (.builtin "object.__setattr__"))
  noN : findIn K (.ref C) fld = some none
  kC : keepIn K (.ref C) = true
  exC : subIn K (.ref C) (.type "BaseException") = some true
  tyC : typeIn K (.ref C) = some (.type "type")
  subV : subIn K (.ref C) (.type "ValueError") = some true
  mro : mroIn K C (.ref C) = some true
  sup : ks_superIn K C C "__init__" = some (some (.builtin "ValueError.__init__"))
  opq : nsIn K cStatics "thirdparty.any" = some none
  top : (P.main.scope.names.lookup ("super" : Str)).isSome = false
  fne : (fld == ("self" : Str)) = false
  fnc : (fld == ("__class__" : Str)) = false
  fns : (fld == ("super" : Str)) = false
  fnd : (fld == ("__debug__" : Str)) = false
  init : ∃ (fI cc cda : Addr) (oc kV doc pm ct ccl cl : Value) (od an cdd cld : Option Addr) (osl ccs csl : Array (Option Value)) (p1 p2 q0 q1 q2 q3 q4 q5 q6 q7 q8 q9 : Pos) (q : Str) (vs : Array Value) (file : Str) (tf : Tok),
    findIn K (.ref C) "__init__" = some (some (.ref fI)) ∧ typeIn K (.ref fI) = some (.type "function") ∧
    K.lookup fI = some ⟨oc, od, .func (ksFn "__init__" q (iA fld p1 p2) (iB fld q0 q1 q2 q3 q4 q5 q6 q7 q8 q9) (iS fld) .none kV doc pm an (.ref cda) ct cc), osl⟩ ∧ codeIn K (.ref cda) q = true ∧
    K.lookup cc = some ⟨cl, cld, .cell (some (.ref C)), csl⟩ ∧ K.lookup cda = some ⟨ccl, cdd, .fields vs, ccs⟩ ∧ vs[2]? = some (.str file tf) ∧ ((P.main.file : Str) == file) = true ∧
    (∀ env : Env, ∃ pl : Sem Bool, eval (.Call (.Attribute (.Call (.Name "super" q0) [] [] q1) "__init__" q2) [.Name fld q3] [] q4) env = (do
      let ov ← attributeBase (.Call (.Name "super" q0) [] [] q1) "__init__" env (eval (.Call (.Name "super" q0) [] [] q1) env)
      standAt q2.atName
      let (f, first) ← holding [ov] (getMethod ov "__init__" pl)
      callWith q4 f first (backTo q4 (starEach [.Name fld q3] env)) [])) ∧
    ∀ (s : Shared) (x v : Value), BindsTo s (ksFn "__init__" q (iA fld p1 p2) (iB fld q0 q1 q2 q3 q4 q5 q6 q7 q8 q9) (iS fld) .none kV doc pm an (.ref cda) ct cc) ⟨[x, v], []⟩ [("self", x), (fld, v)]
theorem lk_self {fld : Str} {x v : Value} (h : (fld == ("self" : Str)) = false) : ([("self", x), (fld, v)] : List (Str × Value)).reverse.lookup ("self" : Str) = some x := by
  have h2 : (("self" : Str) == fld) = false := by rw [beq_eq_false_iff_ne] at h ⊢; exact fun z => h z.symm
  show List.lookup ("self" : Str) [(fld, v), ("self", x)] = some x
  simp [List.lookup, h2]
theorem lk_fld {fld : Str} {x v : Value} : ([("self", x), (fld, v)] : List (Str × Value)).reverse.lookup fld = some v := by
  show List.lookup fld [(fld, v), ("self", x)] = some v
  simp [List.lookup]
theorem sc_self {fld : Str} : (iS fld).names.lookup ("self" : Str) = some .local := by simp [iS, List.lookup]
theorem sc_fld {fld : Str} : (iS fld).names.lookup fld = some .local := by
  by_cases h : fld = ("self" : Str)
  · subst h; exact sc_self
  · have h2 : (fld == ("self" : Str)) = false := beq_eq_false_iff_ne.mpr h
    have h3 : (fld == PySem.Str.ofString "self") = false := h2
    simp [iS, List.lookup, h3]
theorem sc_cls {fld : Str} (h : (fld == ("__class__" : Str)) = false) : (iS fld).names.lookup ("__class__" : Str) = some .free := by
  have h2 : (("__class__" : Str) == fld) = false := by rw [beq_eq_false_iff_ne] at h ⊢; exact fun z => h z.symm
  have h3 : (("__class__" : Str) == PySem.Str.ofString "self") = false := by decide
  simp [iS, List.lookup, h2, h3]
theorem sc_sup {fld : Str} (h : (fld == ("super" : Str)) = false) : (iS fld).names.lookup ("super" : Str) = some .globalImplicit := by
  have h2 : (("super" : Str) == fld) = false := by rw [beq_eq_false_iff_ne] at h ⊢; exact fun z => h z.symm
  have h3 : (("super" : Str) == PySem.Str.ofString "self") = false := by decide
  have h4 : (("super" : Str) == PySem.Str.ofString "__class__") = false := by decide
  simp [iS, List.lookup, h2, h3, h4]
/-- what the making leaves of a fresh exception at x -/
structure InitEnd (h h' : Heap) (x C dx t1 : Addr) (fld : Str) (v : Value) : Prop where
  keep : ∀ b o, b ≠ x → h.get? b = some o → h'.get? b = some o
  obj : h'.get? x = some { cls := .ref C, dict := some dx, data := .fields #[.ref t1, .none, .none, .none, .bool false, .none] }
  dbig : h.objs.size ≤ dx
  dne : dx ≠ x
  ns : h'.Ns1 dx (fun y => if y = fld then some v else none)
section
variable {prog : Program} {w : World} {A : Around} {E : Value → Shared → Prop} {R : Result → Shared → Prop} {s : Shared} {K : Frag} {mg mb : Str → Option Value} {C fI cc cda : Addr} {fld : Str}
theorem one_size (v : Value) : [v].length ≤ sizeLine := by
  rw [sizeLine_eq]
  exact (by decide : 1 ≤ 16777216)
theorem ld1 {M : Model} {s : Shared} {env : Env} {m : Str → Option Value} {x : Str} {pos : Pos} {v : Value} {Q : Value → Shared → Prop} {A : Around} {E : Value → Shared → Prop} (hk : env.scope.kind = .function) (hl : env.kindOf x = some .local) (hn : s.heap.Ns env.locals m) (hv : m x = some v) (hd : (x == ("__debug__" : Str)) = false) (h : Q v s) :
    wpAny M A (eval (.Name x pos) env) Q E s := wpAny_Name (wpAny_loadName_local hk hl hn hv h) hd
/-- the base's making, bound, called -/
theorem call_mw {u e t0 : Addr} {rest : List Value} {Q : Value → Shared → Prop} {h : Heap} {g : Array GenState} {d : Drawn} {t : Nat} {os : OsState} {nm q : Str} {N : Addr} {bs bm : List Value} {hdct : Bool} {sn : List Str} {sub : List Value} {ab : Bool} {col : Option Bool} {dd : Option Addr} {k0 k1 k2 k3 k5 : Option Value}
    (hC : h.get? C = some (excClassObj nm q C N bs bm hdct sn sub ab col dd k0 k1 k2 k3 k5 "ValueError.__new__")) (he : h.get? e = some (excO C t0)) (hu : h.get? u = some (kxs_mw "ValueError.__init__" e)) (hrest : rest.length ≤ sizeLine)
    (hq : ∀ h' t1, (∀ b o, b ≠ e → h.get? b = some o → h'.get? b = some o) → h.objs.size ≤ h'.objs.size → h'.get? e = some (excO C t1) → Q .none ⟨h', g, d, t, os⟩) :
    wpAny (model prog w) A (call (.ref u) rest) Q E ⟨h, g, d, t, os⟩ := by
  refine wpAny_call (codeAny_of_tree ?_)
  show wpAny _ A.in1 (callAny (.ref u) ⟨rest, []⟩) _ _ _
  simp only [callAny]
  refine wpAny_bind (wpAny_load hu ?_)
  simp only [kxs_mw, show (Value.type "method-wrapper" == Value.type "method" || Value.type "method-wrapper" == Value.type "builtin_function_or_method" || Value.type "method-wrapper" == Value.type "method-wrapper") = true by decide, if_true]
  refine KFB.if_so (by decide) ?_
  refine wpAny_bind (check_bound_init F.excBase_ValueError.toExcCallFacts hC he rfl ?_)
  refine wpAny_bind (wpAny_pure (wpAny_pure ?_))
  refine ⟨plainId_quiet F.excBase_ValueError.init.plain _, codeAny_builtin F.excBase_ValueError.initEntry ?_⟩
  refine exc_init_tree (cls := .ref C) (t0 := t0) (dv := none) (c2 := .none) (c3 := .none) (b4 := .bool false) he hrest (fun h' k e' t' => ?_)
  exact hq h' _ k (Nat.le_of_lt (Heap.lt_size t')) e'
theorem bad_init (T : BadC prog K C fld) {oc kV doc pm ct ccl cl : Value} {od an cdd cld : Option Addr} {osl ccs csl : Array (Option Value)} {p1 p2 q0 q1 q2 q3 q4 q5 q6 q7 q8 q9 : Pos} {q : Str} {vs : Array Value} {file : Str} {tf : Tok}
    (ho : K.lookup fI = some ⟨oc, od, .func (ksFn "__init__" q (iA fld p1 p2) (iB fld q0 q1 q2 q3 q4 q5 q6 q7 q8 q9) (iS fld) .none kV doc pm an (.ref cda) ct cc), osl⟩) (hcd : codeIn K (.ref cda) q = true)
    (hcell : K.lookup cc = some ⟨cl, cld, .cell (some (.ref C)), csl⟩) (hcode : K.lookup cda = some ⟨ccl, cdd, .fields vs, ccs⟩) (hvs : vs[2]? = some (.str file tf)) (hfile : ((prog.main.file : Str) == file) = true)
    (hmc : ∀ env : Env, ∃ pl : Sem Bool, eval (.Call (.Attribute (.Call (.Name "super" q0) [] [] q1) "__init__" q2) [.Name fld q3] [] q4) env = (do
      let ov ← attributeBase (.Call (.Name "super" q0) [] [] q1) "__init__" env (eval (.Call (.Name "super" q0) [] [] q1) env)
      standAt q2.atName
      let (f, first) ← holding [ov] (getMethod ov "__init__" pl)
      callWith q4 f first (backTo q4 (starEach [.Name fld q3] env)) []))
    {x t0 : Addr} {v : Value} (hbind : BindsTo s (ksFn "__init__" q (iA fld p1 p2) (iB fld q0 q1 q2 q3 q4 q5 q6 q7 q8 q9) (iS fld) .none kV doc pm an (.ref cda) ct cc) ⟨[.ref x, v], []⟩ [("self", .ref x), (fld, v)])
    (X : K.In s.heap) (hg : s.heap.Ns mainGlobals mg) (hgs : mg "super" = none) (hb : s.heap.Ns builtinsNs mb) (hbs : mb "super" = some (.type "super")) (hlim : s.heap.NoLimit) (hx : s.heap.get? x = some (excO C t0)) (hnx : K.lookup x = none) (hroom : A.depth < recursionLimit)
    (hq : ∀ h' tk dx t1, InitEnd s.heap h' x C dx t1 fld v → R (.ok (.ret .none)) { s with heap := h', toks := tk }) :
    codeAny (model prog w) A (.call (.ref fI) ⟨[.ref x, v], []⟩) R s := by
  obtain ⟨nm, q', N, bs, bm, sn, sub, ab, col, dd, k0, k1, k2, k3, k5, hC, hbm⟩ := T.cls
  have hcl : clsIn K C = some { name := nm, bases := bs, mro := .ref C :: bm, ns := N, qualname := q', hasDict := true, slotNames := sn, subclasses := sub, abstract := ab, collection := col, hasDel := false } := by unfold clsIn; rw [hC] <;> rfl
  refine ks_codeAny_call_defAt (fd := ksFn "__init__" q (iA fld p1 p2) (iB fld q0 q1 q2 q3 q4 q5 q6 q7 q8 q9) (iS fld) .none kV doc pm an (.ref cda) ct cc) (binds := [("self", .ref x), (fld, v)]) hroom (X _ _ ho) rfl hlim (codeRec_of X hcd) rfl hbind ?_ ?_ (fun h₁ hns k => ?_)
  · intro y hy
    simp only [ksFn, fnX, iS, List.mem_cons, List.not_mem_nil, or_false] at hy
    rcases hy with rfl | rfl | rfl | rfl <;> exact fun z => nomatch z
  · intro y hy
    simp only [List.mem_cons, List.not_mem_nil, or_false] at hy
    rcases hy with rfl | rfl
    · exact sc_self
    · exact sc_fld
  · obtain ⟨hp, g, d, t, os⟩ := s
    have X₁ : K.In h₁ := X.keeps k
    have hx₁ := k _ _ hx
    have hC₁ := X₁ _ _ hC
    obtain ⟨pl, hpl⟩ := hmc (callEnv (ksFn "__init__" q (iA fld p1 p2) (iB fld q0 q1 q2 q3 q4 q5 q6 q7 q8 q9) (iS fld) .none kV doc pm an (.ref cda) ct cc) hp.objs.size fI)
    refine ks_wpAt_execs_cons (ks_wpAt_Expr_any (ks_wpAt_MethodCall ?_ hpl))
    refine ks_wpAt_super_base (f := fI) (cc := cda) (sc_sup T.fns) (sc_cls T.fnc) rfl rfl (X₁ _ _ ho) rfl rfl rfl (X₁ _ _ hcode) rfl hvs hfile T.top ?_
    refine ks_loadName_global rfl (sc_sup T.fns) (loadGlobal_builtin (hg.keeps k) hgs (hb.keeps k) hbs ⟨rfl, ?_⟩)
    refine wpAny_loadName_free rfl (sc_cls T.fnc) rfl ⟨_, X₁ _ _ hcell, rfl⟩ ?_
    refine wpAny_loadName_local rfl sc_self hns (lk_self T.fne) ?_
    refine ks_wpAny_isType_cls hC₁ rfl ⟨rfl, ?_⟩
    refine ks_wpAny_call_super hC₁ rfl hx₁ rfl (fun c e => nomatch e) (looks_mroIn X₁ T.mro) (fun h₂ e₂ k₂ => ?_)
    have X₂ : K.In h₂ := X₁.keeps k₂
    have hx₂ := k₂ _ _ hx₁
    have hsup := T.sup
    unfold ks_superIn at hsup
    rw [hcl] at hsup
    have I₂ : InstAt h₂ x (excO C t0) C none := ⟨hx₂, rfl, rfl, trivial⟩
    refine kxs_getMethod kxs_ValueError e₂ (looks_opaque X₂ T.opq) (l₀ := Value.ref C :: bm) ?_ rfl X₂ hsup (I₂.type.andThen (looks_subIn X₂ T.subV)) (fun z => by rw [z, hC] at hnx; cases hnx) (by decide) ?_
    · exact fun A Q E s k q => wpAny_bind ((looks_clsIn X₂ hcl) A _ E s k (wpAny_pure q))
    · have k₃ : ∀ b o, h₂.get? b = some o → (h₂.push (kxs_mw "ValueError.__init__" x)).get? b = some o := fun b o e => Heap.get?_push_of_some _ e
      refine kxs_callWith (i := "ValueError.__init__") (x := x) rfl (evalArgs_plain (Calls.spliced_cons (ld1 rfl sc_fld ((hns.keeps k₂).keeps k₃) lk_fld T.fnd (Calls.spliced_nil ⟨Heap.get?_push_at rfl rfl, ?_⟩))))
      refine call_mw (X₂.keeps k₃ _ _ hC) (k₃ _ _ hx₂) (Heap.get?_push_at rfl rfl) (one_size v) (fun h₄ t1 k₄ sz₄ hx₄ => ?_)
      have keep₄ : ∀ b o, b ≠ x → h₁.get? b = some o → h₄.get? b = some o := fun b o hb e => k₄ b o hb (k₃ _ _ (k₂ _ _ e))
      have X₄ : K.In h₄ := fun b o e => keep₄ b o (fun z => by rw [z, hnx] at e; cases e) (X₁ b o e)
      have hns₄ := hns.at (fun o e => keep₄ _ o (Nat.ne_of_gt (Heap.lt_size hx)) e)
      refine wpAt_of_wpAny (wpAny_execs_cons (plainObj_wpAny_Assign_Attribute (ld1 rfl sc_fld hns₄ lk_fld T.fnd (ld1 rfl sc_self hns₄ (lk_self T.fne) (by decide) ?_))))
      refine set_plain X₄ (ox := excO C t1) (od := none) ⟨hx₄, rfl, rfl, trivial⟩ T.sa ?_
      refine exc_osa X₄ hx₄ hcl (show refsVE (.ref C :: bm) = true from hbm) rfl T.noN (fun h₅ tk₅ dx k₅ dn dne hx₅ hn₅ => ?_)
      show wpAny _ _ (execs _ _) _ _ _
      refine wpAny_execs_nil (hq h₅ tk₅ dx t1 ⟨fun b o hb e => k₅ b o hb (keep₄ b o hb (k b o e)), hx₅, ?_, dne, hn₅⟩)
      have a1 : hp.objs.size < h₁.objs.size := hns.lt
      have a2 : h₁.objs.size < h₂.objs.size := Heap.lt_size e₂
      have a3 : h₂.objs.size ≤ h₄.objs.size := Nat.le_trans (by rw [Heap.size_push]; omega) sz₄
      have a4 : h₄.objs.size ≤ dx := dn
      exact Nat.le_trans (Nat.le_of_lt a1) (Nat.le_trans (Nat.le_of_lt a2) (Nat.le_trans a3 a4))
/-- a made one -/
structure OwnMade (h h' : Heap) (e C d : Addr) (fld : Str) (v : Value) : Prop where
  keep : ∀ b o, h.get? b = some o → h'.get? b = some o
  new : h.objs.size ≤ e
  obj : ∃ t1 : Addr, h'.get? e = some { cls := .ref C, dict := some d, data := .fields #[.ref t1, .none, .none, .none, .bool false, .none] }
  dbig : h.objs.size ≤ d
  dne : d ≠ e
  ns : h'.Ns1 d (fun y => if y = fld then some v else none)
theorem bad_made (T : BadC prog K C fld) {v : Value} (X : K.In s.heap) (hg : s.heap.Ns mainGlobals mg) (hgs : mg "super" = none) (hb : s.heap.Ns builtinsNs mb) (hbs : mb "super" = some (.type "super")) (hlim : s.heap.NoLimit) (hroom : A.depth + 1 < recursionLimit)
    (hq : ∀ h' tk e d, OwnMade s.heap h' e C d fld v → R (.ok (.ret (.ref e))) { s with heap := h', toks := tk }) :
    codeAny (model prog w) A (.call (.ref C) ⟨[v], []⟩) R s := by
  obtain ⟨nm, q, N, bs, bm, sn, sub, ab, col, dd, k0, k1, k2, k3, k5, hC, hbm⟩ := T.cls
  obtain ⟨fI, cc, cda, oc, kV, doc, pm, ct, ccl, cl, od, an, cdd, cld, osl, ccs, csl, p1, p2, q0, q1, q2, q3, q4, q5, q6, q7, q8, q9, q, vs, file, tf, iC, tI, ho, hcd, hcell, hcode, hvs, hfile, hmc, hbind⟩ := T.init
  obtain ⟨hp, g, dr, tk, os⟩ := s
  have k : ∀ b o, hp.get? b = some o → ((hp.push (kdv_tup [v])).push (excO C hp.objs.size)).get? b = some o := fun b o e => Heap.get?_push_of_some _ (Heap.get?_push_of_some _ e)
  have hget : ((hp.push (kdv_tup [v])).push (excO C hp.objs.size)).get? (hp.objs.size + 1) = some (excO C hp.objs.size) := by heap_get
  have hnx : K.lookup (hp.objs.size + 1) = none := by
    cases e : K.lookup (hp.objs.size + 1) with
    | none => rfl
    | some o =>
      have z : hp.get? (hp.objs.size + 1) = some o := X _ _ e
      exact absurd (Nat.lt_of_succ_lt (Heap.lt_size z)) (Nat.lt_irrefl _)
  refine call_own F.excBase_ValueError (fun X => refsVE_contains X bm hbm) (X _ _ hC) (looks_findIn X iC) (fun self => bind_fn X self tI) (one_size v) ?_
  refine bad_init (s := ⟨(hp.push (kdv_tup [v])).push (excO C hp.objs.size), g, dr, tk, os⟩) T ho hcd hcell hcode hvs hfile hmc (hbind _ _ _) (X.keeps k) (hg.keeps k) hgs (hb.keeps k) hbs (hlim.keeps k) hget hnx ?_ fun h' tk' dx t1 ⟨k', hx, dn, dne, hns⟩ => ?_
  · show A.depth + 1 < recursionLimit
    exact hroom
  · have old : ∀ b o, hp.get? b = some o → h'.get? b = some o := fun b o e => k' b o (Nat.ne_of_lt (Nat.lt_succ_of_lt (Heap.lt_size e))) (k b o e)
    have z : hp.objs.size + 1 + 1 ≤ dx := by
      first
        | (simpa only [Heap.size_push] using dn)
        | exact dn
        | (have q := dn; rw [Heap.size_push, Heap.size_push] at q; exact q)
    exact ⟨rfl, hq h' tk' (hp.objs.size + 1) dx ⟨old, Nat.le_succ _, ⟨t1, hx⟩, Nat.le_trans (Nat.le_trans (Nat.le_succ _) (Nat.le_succ _)) z, dne, hns⟩⟩
end
end Ex
namespace L2
open PySem PySem.Spec PyProof.Rows
section
variable {X : Cx}
/-- C(e), C an own error that keeps its part in the field fld -/
def tMkE (K : PySem.W.Frag) (C : Addr) (fld : Str) (te : TE) : TE := fun σ H Q => te σ H fun v H1 => ∀ a d, H1 d = none → H1 a = none → a ≠ d → Q (.ref a) (upd (upd H1 d (.xd [(fld, v)])) a (exo a C (some d)))
theorem relO_one {fld : Str} {v : V} {v' : Value} (r : RelV v v') (f : Str) : RelO (List.lookup f [(fld, v)]) (if f = fld then some v' else none) := relO_put (fs := []) (mA := fun _ => none) r (fun _ => True.intro) f
theorem pe_mkE {x : Str} {a : Expr} {te : TE} {p pos : Pos} {k : Nat} {C : Addr} {fld : Str} (T : Ex.BadC X.prog X.K C fld) (hm : X.mg x = some (.ref C)) (hs : X.mg "super" = none) (hr : Room k X.A) (hk : 2 ≤ k) (ha : PE X a te) (hg : Gl X x)
    (hd : (x == ("__debug__" : Str)) = false := by decide) (he : starEach (a :: []) X.env = (false, eval a X.env) :: starEach [] X.env := by rfl) (hpl : (backTo pos (starEach [] X.env)).any (·.1) = false := by rfl) :
    PE X (.Call (.Name x p) [a] [] pos) (tMkE X.K C fld te) := by
  refine ⟨fun pins s σ H Q I h => ?_⟩
  refine wpAny_Call_Name_kw (ld_glob I hg hm ?_ hd)
  refine PySem.W.callWith_K (h₀ := X.base) I.ok.mod.kin T.kC ?_ he hpl
  rw [he]
  show wpAny _ _ (spliced ((false, eval a X.env) :: backTo pos (starEach [] X.env))) _ _ s
  refine Calls.spliced_cons (thn (ha.run pins s σ H _ I h) fun u s1 ⟨v, H1, I1, r1, q1⟩ => ?_)
  refine Calls.spliced_nil ⟨I1.kIn, ?_⟩
  show wpAny _ _ (call (.ref C) [u]) _ _ _
  have hlim := I1.nolimit
  have E0 := I1.env0
  obtain ⟨hp, g, dr, tk, os⟩ := s1
  obtain ⟨mb, hb, hbb⟩ := E0.mod.blt
  refine wpAny_call (Ex.bad_made T I1.kIn (E0.mod.glob.keeps fun b o q => (E0.bs b o q).1) hs (hb.keeps fun b o q => (E0.bs b o q).1) ((hbb "super" (by decide)).trans rfl) hlim (by have := hr.dp; omega) fun h' tk' e d M => ?_)
  obtain ⟨t1, hoe⟩ := M.obj
  have hns := M.ns
  obtain ⟨G', g1, g2⟩ := restrict h' fun b => decide (b ≠ e)
  have gk : ∀ b, b ≠ e → G'.get? b = h'.get? b := fun b hb => g1 b (decide_eq_true hb)
  have ge : G'.get? e = none := g2 e (by simp)
  have old : ∀ b o, hp.get? b = some o → G'.get? b = some o := fun b o q => (gk b (Nat.ne_of_lt (Nat.lt_of_lt_of_le (Heap.lt_size q) M.new))).trans (M.keep b o q)
  have ob : ObjOk X.prog X.w (upd H1 d (.xd [(fld, v)])) G' d (.xd [(fld, v)]) :=
    ⟨_, hns.at (fun o q => (gk d M.dne).trans q), fun f => relO_one r1 f⟩
  have J : Inv X pins σ (upd H1 d (.xd [(fld, v)])) ⟨G', g, dr, tk', os⟩ := I1.laid (t' := tk') old M.dbig ob
  have hd1 : H1 d = none := I1.hok.fresh M.dbig
  have he1 : H1 e = none := I1.hok.fresh M.new
  have he2 : upd H1 d (.xd [(fld, v)]) e = none := by rw [upd_ne (Ne.symm M.dne)]; exact he1
  have kk : ∀ b u, G'.get? b = some u → h'.get? b = some u := fun b u q => by
    by_cases hb : b = e
    · rw [hb, ge] at q; cases q
    · rw [← gk b hb]; exact q
  exact ⟨.ref e, _, J.laidN (t' := tk') kk ge he2 (exo_ok hoe), rfl, q1 e d hd1 he1 (Ne.symm M.dne)⟩
/-- C(), C an own error of no own making -/
def tMkN (C : Addr) : TE := fun σ H Q => ∀ a, H a = none → Q (.ref a) (upd H a (exo a C none))
theorem pe_mkN {x : Str} {p pos : Pos} {C : Addr} (q : PySem.W.excIn X.K C He.veBase "ValueError.__new__" = true) (hm : X.mg x = some (.ref C)) (kC : PySem.W.keepIn X.K (.ref C) = true) (hg : Gl X x)
    (hd : (x == ("__debug__" : Str)) = false := by decide) : PE X (.Call (.Name x p) [] [] pos) (tMkN C) := by
  refine ⟨fun pins s σ H Q I h => ?_⟩
  refine wpAny_Call_Name_kw (ld_glob I hg hm ?_ hd)
  refine PySem.W.callWith_K0 I.kIn kC ?_
  obtain ⟨bm, N, nm, qn, bs, hdct, sn, sub, ab, col, dd, k0, k1, k2, k3, k5, mN, hC, hN, hni, T⟩ := exc_obj I.kIn q
  refine wpAny_call_exc_subT PySem.F.excBase_ValueError T hC hN hni (fun h' a hm => ?_) (by show 0 ≤ sizeLine; omega)
  have hn : H a = none := I.hok.gone hm.new
  obtain ⟨t, ht, _, _⟩ := hm.there
  exact ⟨.ref a, upd H a (exo a C none), I.laidN hm.keeps hm.new hn (exo_ok ht), rfl, h a hn⟩
/-- e.fld -/
def tFldE (K : PySem.W.Frag) (n : Str) (te : TE) : TE := fun σ H Q => te σ H fun x H1 => ∃ (a C d : Addr) (v : V), x = .ref a ∧ XfC K C ∧ PySem.W.findIn K (.ref C) n = some none ∧ H1 a = some (exo a C (some d)) ∧ H1 d = some (.xd [(n, v)]) ∧ Q v H1
theorem pe_fldE {e : Expr} {te : TE} {pos : Pos} {n : Str} (he : PE X e te) (hb : attributeBase e n X.env (eval e X.env) = eval e X.env := by rfl) :
    PE X (.Attribute e n pos) (tFldE X.K n te) := by
  refine ⟨fun pins s σ H Q I h => ?_⟩
  refine attr_of hb (thn (he.run pins s σ H _ I h) fun u s1 hh => ?_)
  obtain ⟨x, H1, I1, rx, a, C, dd, v, ex, T, hno, ea, ed, q⟩ := hh
  subst ex
  obtain rfl : u = Value.ref a := rx
  obtain ⟨t1, ha⟩ := exo_at I1.hok ea
  have hx : ObjOk X.prog X.w H1 s1.heap dd (.xd [(n, v)]) := I1.hok dd _ ed
  obtain ⟨mA, hns, hr⟩ := hx
  obtain ⟨od, ho, hl⟩ := lookIn_ns hns
  obtain ⟨u, hu, ru⟩ := RelO.some_of (v := v) (o := mA n) (by rw [← show List.lookup n [(n, v)] = some v by simp [List.lookup]]; exact hr n)
  have J : PySem.W.InstAt s1.heap a _ C (some od) := ⟨ha, rfl, rfl, ho⟩
  exact HandSPX.exc_get I1.kIn J T.ga T.gg T.exC (PySem.W.findObj_own T.hdC hno rfl (by rw [hl, hu])) (handed_of ru) ⟨v, H1, I1.tok _, ru, q⟩
end
/-- isinstance(e, c) of such an error -/
def rIsX (K : PySem.W.Frag) : List V → Hp → VK → Prop := fun xs H Q => ∃ (a C : Addr) (d : Option Addr) (c : V) (cv : Value) (b : Bool), xs = [.ref a, c] ∧ H a = some (exo a C d) ∧ ExcC K C ∧ (∀ u, RelV c u → u = cv) ∧ (∀ dd, d = some dd → ∃ fs, H dd = some (.xd fs)) ∧ PySem.W.kitOne K (.ref C) cv = some b ∧ Q (.bl b) H
theorem call_isX {X : Cx} : CallR X (.builtin "isinstance") (rIsX X.K) := by
  intro pins s σ H xs us Q I r h
  obtain ⟨a, C, d, c, cv, b, rfl, ha, T, hcv, hd, e, q⟩ := h
  cases r with
  | cons rx rr =>
    cases rr with
    | cons rt rr =>
      cases rr
      cases rx
      have ec := hcv _ rt
      subst ec
      obtain ⟨t1, ho⟩ := exo_at I.hok ha
      have hcl : (PySem.W.clsIn X.K C).isSome = true := by
        obtain ⟨cd, hc, _⟩ := PySem.W.any_some T.hd
        rw [hc]
        rfl
      cases d with
      | none =>
        have J : PySem.W.InstAt s.heap a { cls := .ref C, dict := none, data := .fields #[.ref t1, .none, .none, .none, .bool false, .none] } C none := ⟨ho, rfl, rfl, trivial⟩
        exact PySem.W.kia_one (PySem.W.kitx_exc hcl T.hg T.hk T.hs T.ha T.hn T.ht T.hm) I.kIn J e (fun z => nomatch z) fun tk => ⟨.bl b, H, I.kept (t' := tk) fun _ _ z => z, rfl, q⟩
      | some dd =>
        obtain ⟨fs, hdd⟩ := hd dd rfl
        have hx : ObjOk X.prog X.w H s.heap dd (.xd fs) := I.hok dd _ hdd
        obtain ⟨mA, hns, hr⟩ := hx
        obtain ⟨od, hod, hl⟩ := lookIn_ns hns
        have J : PySem.W.InstAt s.heap a { cls := .ref C, dict := some dd, data := .fields #[.ref t1, .none, .none, .none, .bool false, .none] } C (some od) := ⟨ho, rfl, rfl, hod⟩
        exact PySem.W.kia_one (PySem.W.kitx_exc hcl T.hg T.hk T.hs T.ha T.hn T.ht T.hm) I.kIn J e (fun z => nomatch z) fun tk => ⟨.bl b, H, I.kept (t' := tk) fun _ _ z => z, rfl, q⟩
end L2
namespace Rd
open PySem L2
def rLen (K : PySem.W.Frag) : List V → Hp → VK → Prop := fun xs H Q => (∃ p ys, xs = [.ref p] ∧ (SqL K H p ys ∨ SqT K H p ys) ∧ Q (.int ys.length) H) ∨ ∃ z, xs = [.str z] ∧ z.length ≤ sizeLine ∧ Q (.int z.length) H
theorem cr_len {X : Cx} : CallR X (.builtin "len") (rLen X.K) := call_len_seq.or call_len_str
def rInt : List V → Hp → VK → Prop := fun xs H Q => (∃ i, xs = [.int i] ∧ Q (.int i) H) ∨ ∃ k, xs = [.bl k] ∧ Q (.int (if k then 1 else 0)) H
theorem cr_int {X : Cx} : CallR X (.type "int") rInt := call_int1
def rAbs : List V → Hp → VK → Prop := fun xs H Q => ∃ i, xs = [.int i] ∧ Q (.int (if i < 0 then -i else i)) H
theorem cr_abs {X : Cx} : CallR X (.builtin "abs") rAbs := call_abs
def rListOf (K : PySem.W.Frag) : List V → Hp → VK → Prop := fun xs H Q => ∃ p ys, xs = [.ref p] ∧ (SqL K H p ys ∨ SqT K H p ys) ∧ ∀ l, H l = none → Q (.ref l) (upd H l (.lst ys))
theorem cr_list {X : Cx} : CallR X (.type "list") (rListOf X.K) := call_list_of
def rTupOf (K : PySem.W.Frag) : List V → Hp → VK → Prop := fun xs H Q => ∃ p ys, xs = [.ref p] ∧ ((SqL K H p ys ∧ ∀ l, H l = none → Q (.ref l) (upd H l (.tup ys))) ∨ (SqT K H p ys ∧ Q (.ref p) H))
theorem cr_tuple {X : Cx} : CallR X (.type "tuple") (rTupOf X.K) := call_tuple_of
section
variable {σ : L2.St} {H : Hp} {Q : VK} {D : Ends} {K : PySem.W.Frag}
variable {nx bk ct : L2.St → Hp → Prop} {rt : VK}
theorem seq {t u : TS} (h : t ⟨u ⟨nx, rt, bk, ct⟩, rt, bk, ct⟩ σ H) : tSeq t u ⟨nx, rt, bk, ct⟩ σ H := h
theorem next (h : nx σ H) : tNext ⟨nx, rt, bk, ct⟩ σ H := h
theorem brk (h : bk σ H) : tBreak ⟨nx, rt, bk, ct⟩ σ H := h
theorem cont (h : ct σ H) : tCont ⟨nx, rt, bk, ct⟩ σ H := h
theorem asg {te : TE} {g : TG} (h : te σ H fun x H1 => g x σ H1 nx) : tAsg te g ⟨nx, rt, bk, ct⟩ σ H := h
theorem gname {i : Nat} {v : V} {R : L2.St → Hp → Prop} (h : R (σ.set i (some v)) H) : gName i v σ H R := h
theorem gsub {to ti : TE} {t : TSet} {v : V} {R : L2.St → Hp → Prop} (h : to σ H fun o H1 => ti σ H1 fun i H2 => t o i v H2 fun H3 => R σ H3) : gSub to ti t v σ H R := h
theorem gtup {n : Nat} {t : TGs} {a : Addr} {xs : List V} {R : L2.St → Hp → Prop} (h1 : SqT K H a xs) (h2 : xs.length = n) (h : t xs σ H R) : gTup K n t (.ref a) σ H R := ⟨a, xs, rfl, h1, h2, h⟩
theorem gnil {R : L2.St → Hp → Prop} (h : R σ H) : gNil [] σ H R := ⟨rfl, h⟩
theorem gcons {t : TG} {u : TGs} {v : V} {r : List V} {R : L2.St → Hp → Prop} (h : t v σ H fun σ' H' => u r σ' H' R) : gCons t u (v :: r) σ H R := ⟨v, r, rfl, h⟩
theorem ret {te : TE} (h : te σ H rt) : tRet te ⟨nx, rt, bk, ct⟩ σ H := h
theorem retN (h : rt .non H) : tRetN ⟨nx, rt, bk, ct⟩ σ H := h
theorem drop {te : TE} (h : te σ H fun _ H1 => nx σ H1) : tDrop te ⟨nx, rt, bk, ct⟩ σ H := h
theorem ifs {c : TT} {t u : TS} (h : c σ H fun b H1 => if b = true then t D σ H1 else u D σ H1) : tIfS c t u D σ H := h
theorem aug {i : Nat} {te : TE} {ti : TIp} {x : V} (h0 : σ[i]? = some (some x)) (h : te σ H fun y H1 => ti x y H1 fun z H2 => nx (σ.set i (some z)) H2) : tAug i te ti ⟨nx, rt, bk, ct⟩ σ H := ⟨x, h0, h⟩
theorem ipi {f : Int → Int → Int} {i j : Int} (h : Q (.int (f i j)) H) : ipI f (.int i) (.int j) H Q := ⟨i, j, rfl, rfl, h⟩
theorem par {i j : Nat} {ta : TA} (h : ta σ H fun vs H1 => ∃ v w, vs = [v, w] ∧ nx ((σ.set i (some v)).set j (some w)) H1) : tPar i j ta ⟨nx, rt, bk, ct⟩ σ H := h
theorem par2 {i j : Nat} {v w : V} {R : L2.St → Hp → Prop} (h : R ((σ.set i (some v)).set j (some w)) H) : ∃ v' w', [v, w] = [v', w'] ∧ R ((σ.set i (some v')).set j (some w')) H := ⟨v, w, rfl, h⟩
theorem var {i : Nat} {v : V} (h0 : σ[i]? = some (some v)) (h : Q v H) : tVar i σ H Q := ⟨v, h0, h⟩
theorem cst {v : V} (h : Q v H) : tC v σ H Q := h
theorem op {r : R2} {ta tb : TE} (h : ta σ H fun x H1 => tb σ H1 fun y H2 => r x y H2 Q) : tOp r ta tb σ H Q := h
theorem un {r : V → Hp → VK → Prop} {ta : TE} (h : ta σ H fun x H1 => r x H1 Q) : tUn r ta σ H Q := h
theorem cb {r : List V → Hp → VK → Prop} {t : TA} (h : t σ H fun vs H1 => r vs H1 Q) : tCB r t σ H Q := h
theorem anil {R : List V → Hp → Prop} (h : R [] H) : tNil σ H R := h
theorem acons {ta : TE} {tr : TA} {R : List V → Hp → Prop} (h : ta σ H fun x H1 => tr σ H1 fun xs H2 => R (x :: xs) H2) : tCons ta tr σ H R := h
theorem ifx {t : TT} {ta tb : TE} (h : t σ H fun c H1 => if c = true then ta σ H1 Q else tb σ H1 Q) : tIf t ta tb σ H Q := h
theorem notv {ta : TE} (h : ta σ H fun x H1 => ∃ c, x = .bl c ∧ Q (.bl (!c)) H1) : tNotV ta σ H Q := h
theorem andv {ta tb : TE} (h : ta σ H fun x H1 => ∃ c, x = .bl c ∧ if c = true then tb σ H1 Q else Q (.bl false) H1) : tAndV ta tb σ H Q := h
theorem orv {ta tb : TE} (h : ta σ H fun x H1 => ∃ c, x = .bl c ∧ if c = true then Q (.bl true) H1 else tb σ H1 Q) : tOrV ta tb σ H Q := h
theorem chain {r r' : R2} {ta tb tc : TE} (h : ta σ H fun x H1 => tb σ H1 fun y H2 => r x y H2 fun z H3 => ∃ k, z = .bl k ∧ (if k = true then tc σ H3 fun u H4 => r' y u H4 Q else Q (.bl false) H3)) : tChain r r' ta tb tc σ H Q := h
theorem atI0 {x : V} {xs : List V} : atI (x :: xs) 0 = some x := by
  unfold atI ixN
  rw [if_pos (by omega), if_pos (by rw [List.length_cons]; omega)]
  rfl
theorem ixN0 {x : V} {xs : List V} : ixN (x :: xs).length 0 = some 0 := by
  unfold ixN
  rw [if_pos (by omega), if_pos (by rw [List.length_cons]; omega)]
  rfl
theorem test {t : TE} {R : Bool → Hp → Prop} (h : t σ H fun x H' => ∃ k, x = .bl k ∧ R k H') : tTest t σ H R := h
theorem tb {t : TE} {R : Bool → Hp → Prop} (h : t σ H fun x H' => ∃ k, x = .bl k ∧ R k H') : tB t σ H R := h
theorem tand {t u : TT} {R : Bool → Hp → Prop} (h : t σ H fun c H1 => if c = true then u σ H1 R else R false H1) : tAnd t u σ H R := h
theorem tor {t u : TT} {R : Bool → Hp → Prop} (h : t σ H fun c H1 => if c = true then R true H1 else u σ H1 R) : tOr t u σ H R := h
theorem tnot {t : TT} {R : Bool → Hp → Prop} (h : t σ H fun c H1 => R (!c) H1) : tNot t σ H R := h
theorem tyes {R : Bool → Hp → Prop} (h : R true H) : tYes σ H R := h
theorem exbl {b : Bool} {R : Bool → Prop} (h : R b) : ∃ k, V.bl b = .bl k ∧ R k := ⟨b, rfl, h⟩
theorem iteT {A B : Prop} (h : A) : if true = true then A else B := by rw [if_pos rfl]; exact h
theorem iteF {A B : Prop} (h : B) : if false = true then A else B := by rw [if_neg Bool.false_ne_true]; exact h
theorem iteNT {A B : Prop} (h : B) : if (!true) = true then A else B := iteF h
theorem iteNF {A B : Prop} (h : A) : if (!false) = true then A else B := iteT h
theorem iteD {c A B : Prop} [Decidable c] (h1 : c → A) (h2 : ¬ c → B) : if decide c = true then A else B := by
  by_cases h : c
  · rw [decide_eq_true h, if_pos rfl]; exact h1 h
  · rw [decide_eq_false h, if_neg Bool.false_ne_true]; exact h2 h
theorem iteND {c A B : Prop} [Decidable c] (h1 : ¬ c → A) (h2 : c → B) : if (!decide c) = true then A else B := by
  by_cases h : c
  · rw [decide_eq_true h]; exact iteF (h2 h)
  · rw [decide_eq_false h]; exact iteT (h1 h)
theorem iteB {b : Bool} {A B : Prop} (h1 : b = true → A) (h2 : b = false → B) : if b = true then A else B := by
  cases b
  · exact iteF (h2 rfl)
  · exact iteT (h1 rfl)
theorem i0 {g : Int → Int → V} {i j : Int} (h : Q (g i j) H) : rI0 g (.int i) (.int j) H Q := ⟨i, j, rfl, rfl, h⟩
theorem iC {C : Int → Int → Prop} {g : Int → Int → V} {i j : Int} (hc : C i j) (h : Q (g i j) H) : rI C g (.int i) (.int j) H Q := ⟨i, j, rfl, rfl, hc, h⟩
theorem u1 {g : Int → V} {i : Int} (h : Q (g i) H) : rU g (.int i) H Q := ⟨i, rfl, h⟩
theorem eqI {i j : Int} (h : Q (.bl (decide (i = j))) H) : rEq (.int i) (.int j) H Q := ⟨rfl, by rw [show decide (V.int i = V.int j) = decide (i = j) by simp]; exact h⟩
theorem neI {i j : Int} (h : Q (.bl (!decide (i = j))) H) : rNe (.int i) (.int j) H Q := ⟨rfl, by rw [show decide (V.int i = V.int j) = decide (i = j) by simp]; exact h⟩
theorem eqS {i j : Str} (h : Q (.bl (decide (i = j))) H) : rEq (.str i) (.str j) H Q := ⟨rfl, by rw [show decide (V.str i = V.str j) = decide (i = j) by simp]; exact h⟩
theorem neS {i j : Str} (h : Q (.bl (!decide (i = j))) H) : rNe (.str i) (.str j) H Q := ⟨rfl, by rw [show decide (V.str i = V.str j) = decide (i = j) by simp]; exact h⟩
theorem eqB {i j : Bool} (h : Q (.bl (decide (i = j))) H) : rEq (.bl i) (.bl j) H Q := ⟨rfl, by rw [show decide (V.bl i = V.bl j) = decide (i = j) by simp]; exact h⟩
theorem neB {i j : Bool} (h : Q (.bl (!decide (i = j))) H) : rNe (.bl i) (.bl j) H Q := ⟨rfl, by rw [show decide (V.bl i = V.bl j) = decide (i = j) by simp]; exact h⟩
theorem eqX {x y : V} (hs : scal x y = true) (h : Q (.bl (decide (x = y))) H) : rEq x y H Q := ⟨hs, h⟩
theorem neX {x y : V} (hs : scal x y = true) (h : Q (.bl (!decide (x = y))) H) : rNe x y H Q := ⟨hs, h⟩
theorem ixl {p : Addr} {xs : List V} {i : Int} {v : V} (h1 : SqL K H p xs) (h2 : atI xs i = some v) (h : Q v H) : rIxL K (.ref p) (.int i) H Q := ⟨p, xs, i, v, rfl, rfl, h1, h2, h⟩
theorem ixt {p : Addr} {xs : List V} {i : Int} {v : V} (h1 : SqT K H p xs) (h2 : atI xs i = some v) (h : Q v H) : rIxT K (.ref p) (.int i) H Q := ⟨p, xs, i, v, rfl, rfl, h1, h2, h⟩
theorem setl {p : Addr} {xs : List V} {k : Int} {j : Nat} {v : V} {R : Hp → Prop} (h1 : H p = some (.lst xs)) (h2 : ixN xs.length k = some j) (h : R (upd H p (.lst (xs.set j v)))) : rSetL (.ref p) (.int k) v H R := ⟨p, xs, k, j, rfl, rfl, h1, h2, h⟩
theorem lenL {p : Addr} {ys : List V} (h1 : SqL K H p ys) (h : Q (.int ys.length) H) : rLen K [V.ref p] H Q := .inl ⟨p, ys, rfl, .inl h1, h⟩
theorem lenT {p : Addr} {ys : List V} (h1 : SqT K H p ys) (h : Q (.int ys.length) H) : rLen K [V.ref p] H Q := .inl ⟨p, ys, rfl, .inr h1, h⟩
theorem lenS {z : Str} (h1 : z.length ≤ sizeLine) (h : Q (.int z.length) H) : rLen K [V.str z] H Q := .inr ⟨z, rfl, h1, h⟩
theorem int1 {i : Int} (h : Q (.int i) H) : rInt [V.int i] H Q := .inl ⟨i, rfl, h⟩
theorem intb {b : Bool} (h : Q (.int (if b then 1 else 0)) H) : rInt [V.bl b] H Q := .inr ⟨b, rfl, h⟩
theorem abs1 {i : Int} (h : Q (.int (if i < 0 then -i else i)) H) : rAbs [V.int i] H Q := ⟨i, rfl, h⟩
theorem lof {p : Addr} {ys : List V} (h1 : SqL K H p ys ∨ SqT K H p ys) (h : ∀ l, H l = none → Q (.ref l) (upd H l (.lst ys))) : rListOf K [V.ref p] H Q := ⟨p, ys, rfl, h1, h⟩
theorem tof {p : Addr} {ys : List V} (h1 : SqL K H p ys) (h : ∀ l, H l = none → Q (.ref l) (upd H l (.tup ys))) : rTupOf K [V.ref p] H Q := ⟨p, ys, rfl, .inl ⟨h1, h⟩⟩
theorem bm {T : String} {r : V → List V → Hp → VK → Prop} {to : TE} {t : TA} (h : to σ H fun x H1 => tyV K T x H1 ∧ t σ H1 fun xs H2 => r x xs H2 Q) : tBM K T r to t σ H Q := h
theorem bm0 {T : String} {r : V → List V → Hp → VK → Prop} {to : TE} (h : to σ H fun x H1 => tyV K T x H1 ∧ r x [] H1 Q) : tBM0 K T r to σ H Q := h
theorem tyl {p : Addr} {xs : List V} {B : Prop} (h1 : H p = some (.lst xs)) (h : B) : tyV K "list" (.ref p) H ∧ B := ⟨Or.inl ⟨rfl, _, SqL.of h1⟩, h⟩
theorem appl {l : Addr} {xs : List V} {y : V} (h1 : H l = some (.lst xs)) (h2 : xs.length < sizeLine) (h : Q .non (upd H l (.lst (xs ++ [y])))) : rAppend (.ref l) [y] H Q := ⟨l, xs, y, rfl, rfl, h1, h2, h⟩
theorem popat00 {l : Addr} {y : V} {xs : List V} (h1 : H l = some (.lst (y :: xs))) (h : Q y (upd H l (.lst xs))) : rPopAt (.ref l) [.int 0] H Q := ⟨l, y :: xs, 0, 0, y, rfl, rfl, h1, by decide, by decide, by
  unfold seqIndex?
  simp, rfl, h⟩
theorem popat {l : Addr} {xs : List V} {i : Int} {k : Nat} {y : V} (h1 : H l = some (.lst xs)) (a : -(2 ^ 63) ≤ i ∧ i < 2 ^ 63) (h2 : seqIndex? i xs.length = some k) (h3 : xs[k]? = some y) (h : Q y (upd H l (.lst (xs.eraseIdx k)))) : rPopAt (.ref l) [.int i] H Q := ⟨l, xs, i, k, y, rfl, rfl, h1, a.1, a.2, h2, h3, h⟩
theorem pop {l : Addr} {xs : List V} {y : V} (h1 : H l = some (.lst xs)) (h3 : xs[xs.length - 1]? = some y) (h : Q y (upd H l (.lst xs.dropLast))) : rPop (.ref l) [] H Q := ⟨l, xs, y, rfl, rfl, h1, h3, h⟩
theorem lst {t : TA} (h : t σ H fun xs H1 => xs.length ≤ sizeLine ∧ ∀ p, H1 p = none → Q (.ref p) (upd H1 p (.lst xs))) : tLst t σ H Q := h
theorem tup {t : TA} (h : t σ H fun xs H1 => xs.length ≤ sizeLine ∧ ∀ p, H1 p = none → Q (.ref p) (upd H1 p (.tup xs))) : tTup t σ H Q := h
theorem new {n : Nat} {o : HO} {R : V → Hp → Prop} (h1 : n ≤ 1000) (h : ∀ p, H p = none → R (.ref p) (upd H p o)) : n ≤ sizeLine ∧ ∀ p, H p = none → R (.ref p) (upd H p o) := ⟨Nat.le_trans h1 (by decide), h⟩
theorem sl {r : V → Option Int → Option Int → Hp → VK → Prop} {te : TE} {tl th : TO} (h : te σ H fun x H1 => tl σ H1 fun l H2 => th σ H2 fun u H3 => r x l u H3 Q) : tSl r te tl th σ H Q := h
theorem nopart {R : Option Int → Hp → Prop} (h : R none H) : tNoPart σ H R := h
theorem part {t : TE} {R : Option Int → Hp → Prop} (h : t σ H fun x H1 => ∃ i, x = .int i ∧ R (some i) H1) : tPart t σ H R := h
theorem szl {xs : List V} (h : xs.length ≤ 1000) : xs.length ≤ sizeLine := Nat.le_trans h (by decide)
theorem szl2 {n m : Nat} (h : n + m ≤ 1000) : n + m ≤ sizeLine := Nat.le_trans h (by decide)
theorem exint {i : Int} {R : Int → Prop} (h : R i) : ∃ k, V.int i = .int k ∧ R k := ⟨i, rfl, h⟩
theorem sll {a : Addr} {xs : List V} {lo hi : Option Int} (h1 : SqL K H a xs) (h : ∀ p, H p = none → Q (.ref p) (upd H p (.lst (cutV xs lo hi)))) : rSlL K (.ref a) lo hi H Q := ⟨a, xs, rfl, h1, h⟩
theorem call {sp : Sp} {dvs : List V} {E : XK} {t : TA} (h : t σ H fun vs H1 => sp (vs ++ dvs) H1 Q E) : tCall sp dvs E t σ H Q := h
theorem upd_new {q p : Addr} {o u : HO} (hp : H p = none) (h : H q = some u) : upd H p o q = some u := by rw [upd_ne (ne_of_none h hp)]; exact h
theorem upd_off {q p : Addr} {o : HO} {u : Option HO} (hp : q ≠ p) (h : H q = u) : upd H p o q = u := by rw [upd_ne hp]; exact h
theorem upd_off' {q p : Addr} {o : HO} {u : Option HO} (hp : p ≠ q) (h : H q = u) : upd H p o q = u := by rw [upd_ne (Ne.symm hp)]; exact h
end
section
variable {σ : L2.St} {H : Hp} {Q : VK} {K : PySem.W.Frag}
theorem cat {l b : Addr} {xs zs : List V} (h1 : H l = some (.lst xs)) (h2 : H b = some (.lst zs)) (h3 : xs.length + zs.length ≤ sizeLine) (h : ∀ p, H p = none → Q (.ref p) (upd H p (.lst (xs ++ zs)))) : rCat (.ref l) (.ref b) H Q := ⟨l, b, xs, zs, rfl, rfl, h1, h2, h3, h⟩
theorem df {sp : Sp} {E : L2.St → XK} {t : TA} (h : t σ H fun vs H1 => sp vs H1 Q (E σ)) : Gl.tDf sp E t σ H Q := h
theorem par3 {nx bk ct : L2.St → Hp → Prop} {rt : VK} {i j l : Nat} {ta : TA} (h : ta σ H fun vs H1 => ∃ u v w, vs = [u, v, w] ∧ nx (((σ.set i (some u)).set j (some v)).set l (some w)) H1) : tPar3 i j l ta ⟨nx, rt, bk, ct⟩ σ H := h
theorem par33 {i j l : Nat} {u v w : V} {R : L2.St → Hp → Prop} (h : R (((σ.set i (some u)).set j (some v)).set l (some w)) H) : ∃ u' v' w', [u, v, w] = [u', v', w'] ∧ R (((σ.set i (some u')).set j (some v')).set l (some w')) H := ⟨u, v, w, rfl, h⟩
theorem mkN {C : Addr} (h : ∀ a, H a = none → Q (.ref a) (upd H a (exo a C none))) : tMkN C σ H Q := h
theorem mkE {i : Nat} {C : Addr} {f : Str} {v : V} (h0 : σ[i]? = some (some v)) (h : ∀ d, H d = none → ∀ a, upd H d (.xd [(f, v)]) a = none → Q (.ref a) (upd (upd H d (.xd [(f, v)])) a (exo a C (some d)))) : tMkE K C f (tVar i) σ H Q :=
  ⟨v, h0, fun a d hd ha ne => h d hd a (by rw [upd_ne ne]; exact ha)⟩
theorem fldE {i : Nat} {n : Str} {a C d : Addr} {v : V} (h0 : σ[i]? = some (some (.ref a))) (h1 : H a = some (exo a C (some d))) (h2 : H d = some (.xd [(n, v)])) (h3 : XfC K C) (h4 : PySem.W.findIn K (.ref C) n = some none) (h : Q v H) :
    tFldE K n (tVar i) σ H Q := ⟨_, h0, a, C, d, v, rfl, h3, h4, h1, h2, h⟩
def rNeA (K : PySem.W.Frag) : R2 := fun x y H Q => rNe x y H Q ∨ rNeD K x y H Q ∨ rNeDA x y H Q
theorem op_neA {X : Cx} {k : Nat} (hr : Room k X.A) : OpR X (compareOp .NotEq) (rNeA X.K) := op_ne.or ((op_neD hr.units).or (op_ne_dictA (Nat.lt_of_le_of_lt (Nat.le_add_right _ _) hr.units)))
theorem upd_upd {H : Hp} {a : Addr} {o u : HO} : upd (upd H a o) a u = upd H a u := by
  funext b
  by_cases e : b = a
  · rw [e, upd_same, upd_same]
  · rw [upd_ne e, upd_ne e, upd_ne e]
theorem same_new {H : Hp} {a : Addr} {o : HO} (h : H a = none) : Same H (upd H a o) := fun b u e => by rw [upd_ne (ne_of_none e h)]; exact e
theorem lcW {g : TG} {tt : TT} {te : TE} {vs : List Nat} {H1 : Hp} {a : Addr} {xs : List V} (h1 : SqL K H1 a xs) (h2 : xs.length ≤ 1000) {p : V → Bool} {f : V → V}
    (step : ∀ x, x ∈ xs → ∀ (H2 : Hp) (S : VK) (F : Hp → Prop), Same H1 H2 → (p x = true → S (f x) H2) → (p x = false → F H2) → g x (wipe σ vs) H2 fun σ2 H3 => wipe σ2 vs = wipe σ vs ∧ tt σ2 H3 fun b H4 => if b = true then te σ2 H4 S else F H4)
    (last : ∀ D, H1 D = none → Q (.ref D) (upd H1 D (.lst ((xs.filter p).map f)))) (D : Addr) (hD : H1 D = none) :
    ∃ W : Nat → Nat → Hp → Prop, (∃ m, W 0 m (upd H1 D (.lst []))) ∧ ∀ i m H, W i m H →
      ((Itl K a).stop i H ∧ Q (.ref D) H) ∨ ((Itl K a).go i H ∧ ∃ Nx : Hp → Prop, (∀ H', Nx H' → ∃ m', m' < m ∧ W (i + 1) m' H') ∧ ∀ x H', (Itl K a).yld i H x H' → g x (wipe σ vs) H' fun σ2 H2 => wipe σ2 vs = wipe σ vs ∧ tt σ2 H2 fun b H3 =>
        if b = true then te σ2 H3 fun y H4 => ∃ acc, H4 D = some (.lst acc) ∧ acc.length < sizeLine ∧ Nx (upd H4 D (.lst (acc ++ [y]))) else Nx H3) := by
  refine lc_list (xs := xs) (D := D) (fun i H => H = upd H1 D (.lst (((xs.take i).filter p).map f))) (by simp) (fun i H hi e => ?_) (fun i x H e1 e2 => ?_) (fun H e => ?_)
  · subst e
    exact (same_new hD).seq h1
  · subst e2
    have tk : xs.take (i + 1) = xs.take i ++ [x] := by rw [List.take_succ, e1]; rfl
    refine step x (List.mem_of_getElem? e1) _ _ _ (same_new hD) (fun hp => ⟨_, upd_same, ?_, ?_⟩) (fun hp => ?_)
    · rw [List.length_map]
      refine Nat.lt_of_le_of_lt (Nat.le_trans (List.length_filter_le _ _) (Nat.le_trans (List.length_take_le _ _) (Nat.le_refl i))) (small1000 ?_)
      have := (List.getElem?_eq_some_iff.mp e1).1
      omega
    · rw [upd_upd, tk, List.filter_append, List.map_append]
      simp [hp]
    · show upd H1 D _ = upd H1 D _
      rw [tk, List.filter_append, List.map_append]
      simp [hp]
  · subst e
    rw [List.take_length]
    exact last D hD
/-- a comprehension over a list, which changes nothing -/
theorem lcV {i : Nat} {g : TG} {tt : TT} {te : TE} {vs : List Nat} {a : Addr} {xs : List V} (h0 : σ[i]? = some (some (.ref a))) (h1 : SqL K H a xs) (h2 : xs.length ≤ 1000) (p : V → Bool) (f : V → V)
    (step : ∀ x, x ∈ xs → ∀ (H2 : Hp) (S : VK) (F : Hp → Prop), Same H H2 → (p x = true → S (f x) H2) → (p x = false → F H2) → g x (wipe σ vs) H2 fun σ2 H3 => wipe σ2 vs = wipe σ vs ∧ tt σ2 H3 fun b H4 => if b = true then te σ2 H4 S else F H4)
    (last : ∀ D, H D = none → Q (.ref D) (upd H D (.lst ((xs.filter p).map f)))) : tLc (iList K (tVar i)) g tt te vs σ H Q := ⟨_, h0, a, rfl, ⟨xs, h1⟩, lcW h1 h2 step last⟩
theorem lcSl {i : Nat} {lo hi : Option Int} {tlo thi : TO} {g : TG} {tt : TT} {te : TE} {vs : List Nat} {a : Addr} {xs : List V} (h0 : σ[i]? = some (some (.ref a))) (h1 : SqL K H a xs) (h2 : (cutV xs lo hi).length ≤ 1000)
    (hlo : ∀ R : Option Int → Hp → Prop, R lo H → tlo σ H R) (hhi : ∀ R : Option Int → Hp → Prop, R hi H → thi σ H R) (p : V → Bool) (f : V → V)
    (step : ∀ x, x ∈ cutV xs lo hi → ∀ (H2 : Hp) (S : VK) (F : Hp → Prop), Same H H2 → (p x = true → S (f x) H2) → (p x = false → F H2) → g x (wipe σ vs) H2 fun σ2 H3 => wipe σ2 vs = wipe σ vs ∧ tt σ2 H3 fun b H4 => if b = true then te σ2 H4 S else F H4)
    (last : ∀ q, H q = none → ∀ D, upd H q (.lst (cutV xs lo hi)) D = none → Q (.ref D) (upd (upd H q (.lst (cutV xs lo hi))) D (.lst (((cutV xs lo hi).filter p).map f)))) : tLc (iList K (tSl (rSlL K) (tVar i) tlo thi)) g tt te vs σ H Q :=
  ⟨_, h0, hlo _ (hhi _ ⟨a, xs, rfl, h1, fun q hq => ⟨q, rfl, ⟨_, .of upd_same⟩, lcW (.of upd_same) h2 (fun x hx H2 S F hS => step x hx H2 S F ((same_new hq).trans hS)) (last q hq)⟩⟩)⟩
/-- a comprehension over a range, which changes nothing -/
theorem lcR {ta : TA} {g : TG} {tt : TT} {te : TE} {vs : List Nat} {n : Nat} (f : Nat → V) (hn : n ≤ 1000) (ha : ∀ R : List V → Hp → Prop, R [.int (n : Int)] H → ta σ H R)
    (step : ∀ i, i < n → ∀ (H2 : Hp) (S : VK) (F : Hp → Prop), Same H H2 → S (f i) H2 → g (.int (i : Nat)) (wipe σ vs) H2 fun σ2 H3 => wipe σ2 vs = wipe σ vs ∧ tt σ2 H3 fun b H4 => if b = true then te σ2 H4 S else F H4)
    (last : ∀ D, H D = none → Q (.ref D) (upd H D (.lst ((List.range n).map f)))) : tLc (iRng1 ta) g tt te vs σ H Q := by
  refine ha _ ⟨n, rfl, by omega, by omega, fun D hD => ?_⟩
  rw [Int.toNat_natCast]
  refine lc_range (lo := 0) (n := n) (fun i H' => H' = upd H D (.lst ((List.range i).map f))) (by simp) (fun i H' hi e => ?_) (fun H' e => ?_)
  · subst e
    rw [show ((0 : Int) + (i : Nat)) = (i : Nat) by omega]
    refine step i hi _ _ _ (same_new hD) ⟨_, upd_same, ?_, ?_⟩
    · rw [List.length_map, List.length_range]
      exact small1000 (by omega)
    · rw [upd_upd, List.range_succ, List.map_append]
      rfl
  · subst e
    exact last D hD
end
end Rd
namespace Ex
open PySem PySem.W PySem.Calls PyProof.Rows PySem.HandSPX
theorem ba {a b : Bool} (h : (a && b) = true) : a = true ∧ b = true := Bool.and_eq_true_iff.mp h
def clsB (K : Frag) (C : Addr) : Bool := match K.lookup C with
  | some ⟨.type "type", _, .cls cd, sl⟩ => (match cd.mro, sl.toList with
    | .ref C' :: bm, [_, _, _, _, some (.builtin n), _] => C' == C && n == "ValueError.__new__" && !cd.hasDel && cd.hasDict && refsVE bm
    | _, _ => false)
  | _ => false
theorem clsB_ok {K : Frag} {C : Addr} (q : clsB K C = true) : ∃ nm q N bs bm sn sub ab col dd k0 k1 k2 k3 k5, K.lookup C = some (excClassObj nm q C N bs bm true sn sub ab col dd k0 k1 k2 k3 k5 "ValueError.__new__") ∧ refsVE bm = true := by
  unfold clsB at q
  split at q
  · rename_i dd cd sl ho
    split at q
    · rename_i C' bm k0 k1 k2 k3 n k5 hm hs
      simp only [Bool.and_eq_true, beq_iff_eq, Bool.not_eq_true'] at q
      obtain ⟨⟨⟨⟨rfl, rfl⟩, hdel⟩, hdd⟩, hv⟩ := q
      obtain ⟨nm, bs, mro, ns, qn, hd, sn, sub, ab, col, del⟩ := cd
      dsimp only at hm hdel hdd
      subst hm hdel hdd
      have hsl : sl = #[k0, k1, k2, k3, some (.builtin "ValueError.__new__"), k5] := by
        obtain ⟨l⟩ := sl
        simp only at hs
        rw [hs]
      subst hsl
      exact ⟨nm, qn, ns, bs, bm, sn, sub, ab, col, dd, k0, k1, k2, k3, k5, ho, hv⟩
    · cases q
  · cases q
/-- the making's cell and code -/
def iniB (file : Str) (K : Frag) (C : Addr) (fd : FuncData) : Bool := codeIn K fd.code fd.qualname && ((match fd.defaults with
    | .none => true
    | _ => false) && ((match fd.closure with
    | [(_, cc)] => (match K.lookup cc with
      | some ⟨_, _, .cell (some (.ref D)), _⟩ => D == C
      | _ => false)
    | _ => false) && (match fd.code with
    | .ref cda => (match K.lookup cda with
      | some ⟨_, _, .fields vs, _⟩ => (match (vs[2]? : Option Value) with
        | some (.str f _) => file == f
        | _ => false)
      | _ => false)
    | _ => false)))
def badB (file : Str) (K : Frag) (C : Addr) (f : Str) : Bool := clsB K C && (decide (findIn K (.ref C) "__setattr__" = some (some (.builtin "object.__setattr__"))) && (decide (findIn K (.ref C) f = some none) && (keepIn K (.ref C) &&
  (decide (subIn K (.ref C) (.type "BaseException") = some true) && (decide (typeIn K (.ref C) = some (.type "type")) && (decide (subIn K (.ref C) (.type "ValueError") = some true) && (decide (mroIn K C (.ref C) = some true) &&
  (decide (ks_superIn K C C "__init__" = some (some (.builtin "ValueError.__init__"))) && (decide (nsIn K cStatics "thirdparty.any" = some none) && (decide (findIn K (.ref C) "__init__" = some (some (.ref (He.ma K C "__init__")))) &&
  (decide (typeIn K (.ref (He.ma K C "__init__")) = some (.type "function")) && (match K.lookup (He.ma K C "__init__") with
    | some ⟨_, _, .func fd, _⟩ => iniB file K C fd
    | _ => false))))))))))))
abbrev FnM : Type := Option (Str × Str × Arguments × FuncBody × Scope × Addr × List Str × Addr)
def obsM (K : Frag) (x : Str) : FnM := match K.lookup (He.ma K (He.ga K x) "__init__") with
  | some ⟨_, _, .func fd, _⟩ => some (fd.name, fd.qualname, fd.params, fd.body, fd.scope, fd.globals, fd.closure.map (·.1), fd.builtins)
  | _ => none
def valM (q : Str) (st : Stmt) : FnM := some ("__init__", q, L2.defArgs st, .stmts (L2.defBody st), L2.defScope st, mainGlobals, ["__class__"], builtinsNs)
theorem badC_of {P : Program} {K : Frag} {x f q : Str} {st : Stmt} (b : badB P.main.file K (He.ga K x) f = true) (o : obsM K x = valM q st) {p1 p2 q0 q1 q2 q3 q4 q5 q6 q7 q8 q9 : Pos}
    (ha : L2.defArgs st = iA f p1 p2) (hb : L2.defBody st = iB f q0 q1 q2 q3 q4 q5 q6 q7 q8 q9) (hs : L2.defScope st = iS f) (top : (P.main.scope.names.lookup ("super" : Str)).isSome = false)
    (f1 : (f == ("self" : Str)) = false) (f2 : (f == ("__class__" : Str)) = false) (f3 : (f == ("super" : Str)) = false) (f4 : (f == ("__debug__" : Str)) = false)
    (hmc : ∀ env : Env, ∃ pl : Sem Bool, eval (.Call (.Attribute (.Call (.Name "super" q0) [] [] q1) "__init__" q2) [.Name f q3] [] q4) env = (do
      let ov ← attributeBase (.Call (.Name "super" q0) [] [] q1) "__init__" env (eval (.Call (.Name "super" q0) [] [] q1) env)
      standAt q2.atName
      let (m, first) ← holding [ov] (getMethod ov "__init__" pl)
      callWith q4 m first (backTo q4 (starEach [.Name f q3] env)) []))
    (hbind : ∀ (kV doc pm ct cdv : Value) (an : Option Addr) (cc : Addr) (s : Shared) (x v : Value), BindsTo s (ksFn "__init__" q (iA f p1 p2) (iB f q0 q1 q2 q3 q4 q5 q6 q7 q8 q9) (iS f) .none kV doc pm an cdv ct cc) ⟨[x, v], []⟩ [("self", x), (f, v)]) :
    BadC P K (He.ga K x) f := by
  obtain ⟨b1, b⟩ := ba b
  obtain ⟨b2, b⟩ := ba b
  obtain ⟨b3, b⟩ := ba b
  obtain ⟨b4, b⟩ := ba b
  obtain ⟨b5, b⟩ := ba b
  obtain ⟨b6, b⟩ := ba b
  obtain ⟨b7, b⟩ := ba b
  obtain ⟨b8, b⟩ := ba b
  obtain ⟨b9, b⟩ := ba b
  obtain ⟨b10, b⟩ := ba b
  obtain ⟨b11, b⟩ := ba b
  obtain ⟨b12, b⟩ := ba b
  refine ⟨clsB_ok b1, of_decide_eq_true b2, of_decide_eq_true b3, b4, of_decide_eq_true b5, of_decide_eq_true b6, of_decide_eq_true b7, of_decide_eq_true b8, of_decide_eq_true b9, of_decide_eq_true b10, top, f1, f2, f3, f4, ?_⟩
  unfold obsM at o
  cases e : K.lookup (He.ma K (He.ga K x) "__init__") with
  | none =>
    rw [e] at b
    cases b
  | some ob =>
    obtain ⟨oc, od, dt, osl⟩ := ob
    rw [e] at b o
    cases dt with
    | func fd =>
      obtain ⟨n1, n2, n3, n4, n5, n6, cl, n8, n9, n10, n11, n12, n13, n14, n15⟩ := fd
      have e2 : (some (n1, n2, n3, n4, n5, n6, cl.map (·.1), n15) : FnM) = some (("__init__" : Str), q, L2.defArgs st, FuncBody.stmts (L2.defBody st), L2.defScope st, mainGlobals, [("__class__" : Str)], builtinsNs) := o
      simp only [Option.some.injEq, Prod.mk.injEq] at e2
      obtain ⟨h1, h2, h3, h4, h5, h6, h7, h8⟩ := e2
      rw [ha] at h3
      rw [hb] at h4
      rw [hs] at h5
      subst h1 h2 h3 h4 h5 h6 h8
      have b' : iniB P.main.file K (He.ga K x) _ = true := b
      unfold iniB at b'
      obtain ⟨c1, b'⟩ := ba b'
      obtain ⟨c2, b'⟩ := ba b'
      obtain ⟨c3, c4⟩ := ba b'
      dsimp only at c1 c2 c3 c4
      cases n8 with
      | none =>
        match cl, h7, c3 with
        | [(y, cc)], h7, c3 =>
          have hy : y = "__class__" := by simpa using h7
          subst hy
          cases ec : K.lookup cc with
          | none =>
            simp only [ec] at c3
            cases c3
          | some oc' =>
            obtain ⟨cl1, cl2, cdt, cl3⟩ := oc'
            simp only [ec] at c3
            cases cdt with
            | cell v =>
              cases v with
              | none => cases c3
              | some v =>
                cases v with
                | ref D =>
                  have hD : D = He.ga K x := by simpa using c3
                  subst hD
                  cases n13 with
                  | ref cda =>
                    dsimp only at c4
                    cases ed : K.lookup cda with
                    | none =>
                      simp only [ed] at c4
                      cases c4
                    | some od' =>
                      obtain ⟨d1, d2, ddt, d3⟩ := od'
                      simp only [ed] at c4
                      cases ddt with
                      | fields vs =>
                        dsimp only at c4
                        cases ev : vs[2]? with
                        | none =>
                          simp only [ev] at c4
                          cases c4
                        | some v =>
                          simp only [ev] at c4
                          cases v with
                          | str fl tf =>
                            exact ⟨_, cc, cda, oc, n9, n10, n11, n14, d1, cl1, od, n12, d2, cl2, osl, d3, cl3, p1, p2, q0, q1, q2, q3, q4, q5, q6, q7, q8, q9, n2, vs, fl, tf, of_decide_eq_true b11, of_decide_eq_true b12, e, c1, ec, ed, ev, c4, hmc, fun s x v => hbind _ _ _ _ _ _ _ s x v⟩
                          | _ => cases c4
                      | _ => cases c4
                  | _ => cases c4
                | _ => cases c3
            | _ => cases c3
      | _ => cases c2
    | _ => cases b
end Ex
namespace Law
open PySem L2 Gl
local macro_rules | `(tactic| walk_at "hp") => `(tactic| first
  | with_reducible assumption
  | with_reducible exact upd_same
  | ((with_reducible apply Rd.upd_new); (with_reducible assumption); (walk_at "hp"))
  | ((with_reducible apply Rd.upd_off); (with_reducible assumption); (walk_at "hp"))
  | ((with_reducible apply Rd.upd_off'); (with_reducible assumption); (walk_at "hp"))
  | exact upd_same)
local macro_rules | `(tactic| walk_at "sq") => `(tactic| first
  | assumption
  | (apply SqL.of; walk_at "hp")
  | (apply SqT.of; walk_at "hp"))
local macro_rules | `(tactic| walk_at "rd1") => `(tactic| first
  | with_reducible refine Rd.seq ?_
  | with_reducible refine Rd.asg ?_
  | with_reducible refine Rd.gname ?_
  | ((with_reducible apply Rd.var); rfl)
  | with_reducible refine Rd.cst ?_
  | with_reducible refine Rd.op ?_
  | with_reducible refine Rd.i0 ?_
  | ((with_reducible apply Rd.iC); (first | (show _ < _; omega) | exact ⟨by omega, by omega⟩ | exact .inl ⟨by omega, by omega⟩ | exact .inr ⟨by omega, by omega⟩ | exact ⟨by decide, by decide, by decide⟩); skip)
  | ((with_reducible apply Rd.ixl); (walk_at "sq"); (first | rfl | exact Rd.atI0 | assumption))
  | ((with_reducible apply Rd.ixt); (walk_at "sq"); (first | rfl | exact Rd.atI0 | assumption))
  | with_reducible refine Rd.ret ?_
  | with_reducible refine Rd.drop ?_
  | with_reducible refine Rd.next ?_
  | with_reducible refine Rd.ifs ?_
  | with_reducible refine Rd.test ?_
  | with_reducible refine Rd.tb ?_
  | with_reducible refine Rd.tnot ?_
  | with_reducible refine Rd.tor ?_
  | with_reducible refine Rd.tand ?_
  | with_reducible refine Rd.tyes ?_
  | with_reducible refine Rd.exbl ?_
  | with_reducible refine Rd.exint ?_
  | with_reducible refine Rd.eqI ?_
  | with_reducible refine Rd.neI ?_
  | with_reducible refine Rd.eqS ?_
  | with_reducible refine Rd.neS ?_
  | with_reducible refine Rd.cb ?_
  | with_reducible refine Rd.acons ?_
  | with_reducible refine Rd.anil ?_
  | with_reducible refine Rd.un ?_
  | with_reducible refine Rd.u1 ?_
  | ((with_reducible apply Rd.lenL); (walk_at "sq"))
  | ((with_reducible apply Rd.lenT); (walk_at "sq"))
  | with_reducible refine Rd.int1 ?_
  | with_reducible refine Rd.intb ?_
  | with_reducible refine Rd.abs1 ?_
  | with_reducible refine Rd.gsub ?_
  | ((with_reducible apply Rd.setl); (walk_at "hp"); (first | rfl | exact Rd.ixN0))
  | with_reducible refine Rd.bm ?_
  | with_reducible refine Rd.bm0 ?_
  | (apply Rd.tyl; (walk_at "hp"))
  | ((with_reducible apply Rd.appl); (walk_at "hp"))
  | ((with_reducible apply Rd.popat00); walk_at "hp")
  | with_reducible refine Rd.iteT ?_
  | with_reducible refine Rd.iteF ?_
  | with_reducible refine Rd.iteNT ?_
  | with_reducible refine Rd.iteNF ?_
  | with_reducible refine Rd.df ?_
  | (with_reducible (refine Rd.mkN ?_)); intro _ _
  | ((with_reducible apply Rd.mkE); rfl; intro _ _ _ _)
  | with_reducible refine Rd.lst ?_
  | with_reducible refine Rd.tup ?_
  | ((with_reducible (refine And.intro (Rd.szl (by simp)) ?_)); intro _ _)
  | ((with_reducible apply Rd.cat); (walk_at "hp"); (walk_at "hp"); exact Rd.szl2 (by simp); intro _ _)
  | ((with_reducible apply Rd.gtup); (walk_at "sq"); rfl)
  | with_reducible refine Rd.gcons ?_
  | with_reducible refine Rd.gnil ?_
  | with_reducible refine Rd.par ?_
  | with_reducible refine Rd.par2 ?_
  | with_reducible refine Rd.par3 ?_
  | with_reducible refine Rd.par33 ?_
  | ((with_reducible apply Rd.fldE); rfl; (walk_at "hp"); (walk_at "hp")))
def top (i : Nat) : Stmt := PySem.Challenge.pw_veilpost_k00_errors_and_their_fields.main.body.getD i (.Pass ⟨0, 0, 0, 0⟩)
def cn : List Str := ["NoKind", "NoParts", "NoTerm", "NoTerms", "NoBag", "NoBags", "NoName", "NoLock", "NoLeaf", "NoNode", "Named", "TreeFull", "NoLocks", "NoRoom", "NoWords", "NoLetter", "Unknown", "NoLot", "NoFact", "NoTheft", "NoEpoch", "BadTerm", "TooLong", "BadTree", "BadWorld", "BadWish", "BadRule", "TooMany", "BadImage", "Unsound", "BadLine", "BadRows"]
def fn : List Str := ["at", "most", "part", "part", "at", "part", "most", "line", "sentence", "line", "at"]
/-- what the top has written, by names -/
structure Tx (P : Program) (K : PySem.W.Frag) (mg : Str → Option Value) : Prop where
  len : mg "len" = none
  int : mg "int" = none
  abs : mg "abs" = none
  isinstance : mg "isinstance" = none
  range : mg "range" = none
  enumerate : mg "enumerate" = none
  bool : mg "bool" = none
  ValueError : mg "ValueError" = none
  super : mg "super" = none
  v : ∀ (i : Nat) {x : Str}, cn[i]? = some x → mg x = some (.ref (He.ga K x))
  kc : ∀ (i : Nat) {x : Str}, cn[i]? = some x → PySem.W.keepIn K (.ref (He.ga K x)) = true
  exn : ∀ (i : Nat) {x : Str}, cn[i]? = some x → i < 21 → PySem.W.excIn K (He.ga K x) He.veBase "ValueError.__new__" = true
  bad : ∀ (i : Nat) {x f : Str}, cn[i]? = some x → 21 ≤ i → fn[i - 21]? = some f → Ex.BadC P K (He.ga K x) f
  xf : ∀ (i : Nat) {x : Str}, cn[i]? = some x → XfC K (He.ga K x)
  xc : ∀ (i : Nat) {x : Str}, cn[i]? = some x → ExcC K (He.ga K x)
  kit : ∀ (i j : Nat) {x y : Str}, cn[i]? = some x → cn[j]? = some y → PySem.W.kitOne K (.ref (He.ga K x)) (.ref (He.ga K y)) = some (decide (i = j))
  post : mg "PostError" = some (.ref (He.ga K "PostError"))
  kitP : ∀ (i : Nat) {x : Str}, cn[i]? = some x → PySem.W.kitOne K (.ref (He.ga K x)) (.ref (He.ga K "PostError")) = some true
  kitV : ∀ (i : Nat) {x : Str}, cn[i]? = some x → PySem.W.kitOne K (.ref (He.ga K x)) (.type "ValueError") = some true
/-- the hand that numbers are drawn of stands at p, its great numbers at g -/
structure BagAt (H : Hp) (p g : Addr) : Prop where
  ne : p ≠ g
  hp : ∃ seed len cnt : Int, H p = some (.lst [.ref g, .int seed, .int len, .int cnt]) ∧ 0 ≤ seed ∧ seed < 2147483629
  hg : ∃ ns : List Int, H g = some (.lst (ns.map V.int)) ∧ ns.length ≤ 63 ∧ ∀ n ∈ ns, 0 ≤ n
def Off (p g : Addr) (H H' : Hp) : Prop := ∀ a, a ≠ p → a ≠ g → H' a = H a
theorem Off.seq {p g q : Addr} {H H' : Hp} {K : PySem.W.Frag} {xs : List V} (e : Off p g H H') (h1 : q ≠ p) (h2 : q ≠ g) (h : SqL K H q xs) : SqL K H' q xs := by
  have z := e q h1 h2
  rcases h with (h | ⟨o, h⟩) | h
  · exact .inl (.inl (by rw [z]; exact h))
  · exact .inl (.inr ⟨o, by rw [z]; exact h⟩)
  · exact .inr h
/-- an error of the i-th kind stands at a -/
def Er (K : PySem.W.Frag) (H : Hp) (a : Addr) (i : Nat) : Prop := ∃ (x : Str) (d : Option Addr), cn[i]? = some x ∧ H a = some (exo a (He.ga K x) d) ∧ ∀ dd, d = some dd → ∃ fs, H dd = some (.xd fs)
def ErL (K : PySem.W.Frag) (H : Hp) : Nat → List V → Prop
  | _, [] => True
  | n, v :: r => (∃ a, v = .ref a ∧ Er K H a n) ∧ ErL K H (n + 1) r
theorem Er.same {K : PySem.W.Frag} {H H' : Hp} {a : Addr} {i : Nat} (h : Er K H a i) (s : Same H H') : Er K H' a i := by
  obtain ⟨x, d, h1, h2, h3⟩ := h
  exact ⟨x, d, h1, s _ _ h2, fun dd e => by obtain ⟨fs, q⟩ := h3 dd e; exact ⟨fs, s _ _ q⟩⟩
theorem ErL.same {K : PySem.W.Frag} {H H' : Hp} (s : Same H H') : ∀ {n : Nat} {vs : List V}, ErL K H n vs → ErL K H' n vs
  | _, [], _ => True.intro
  | _, _ :: _, ⟨⟨a, e, h⟩, t⟩ => ⟨⟨a, e, h.same s⟩, ErL.same s t⟩
theorem ErL.app {K : PySem.W.Frag} {H : Hp} : ∀ {n : Nat} {vs us : List V}, ErL K H n vs → ErL K H (n + vs.length) us → ErL K H n (vs ++ us)
  | _, [], _, _, h => h
  | n, v :: r, us, ⟨a, t⟩, h => ⟨a, ErL.app t (by rw [show n + 1 + r.length = n + (v :: r).length by rw [List.length_cons]; omega]; exact h)⟩
theorem ErL.get {K : PySem.W.Frag} {H : Hp} : ∀ {n : Nat} {vs : List V} {i : Nat} {v : V}, ErL K H n vs → vs[i]? = some v → ∃ a, v = .ref a ∧ Er K H a (n + i)
  | n, v :: r, 0, w, ⟨h, _⟩, e => by
    cases e
    exact h
  | n, v :: r, i + 1, w, ⟨_, t⟩, e => by
    obtain ⟨a, e1, e2⟩ := ErL.get t (show r[i]? = some w from e)
    exact ⟨a, e1, by rw [show n + (i + 1) = n + 1 + i by omega]; exact e2⟩
def spBag (K : PySem.W.Frag) : Sp := fun vs H Q _ => ∃ (a : Addr) (ns : List Int), vs = [.ref a] ∧ SqL K H a (ns.map V.int) ∧ ns.length ≤ 1000 ∧ ∀ (p g : Addr) (H' : Hp), BagAt H' p g → Same H H' → Q (.ref p) H'
def spPick : Sp := fun vs H Q _ => ∃ (p g : Addr) (many : Int), vs = [.ref p, .int many] ∧ BagAt H p g ∧ 0 < many ∧ many < 1073741824 ∧
  ∀ (r : Int) (H' : Hp), 0 ≤ r → r < many → BagAt H' p g → Off p g H H' → Q (.int r) H'
def spSome (K : PySem.W.Frag) : Sp := fun vs H Q _ => ∃ (p g q : Addr) (xs : List V), vs = [.ref p, .ref q] ∧ BagAt H p g ∧ SqL K H q xs ∧ q ≠ p ∧ q ≠ g ∧ 0 < xs.length ∧ xs.length ≤ 1000 ∧
  ∀ (x : V) (H' : Hp), x ∈ xs → BagAt H' p g → Off p g H H' → Q x H'
def spPlain (K : PySem.W.Frag) : Sp := fun vs H Q _ => vs = [] ∧ ∀ (p : Addr) (H' : Hp) (es : List V), Same H H' → H' p = some (.lst es) → es.length = 21 → ErL K H' 0 es → Q (.ref p) H'
def spTold (K : PySem.W.Frag) : Sp := fun vs H Q _ => ∃ v, vs = [v] ∧ ∀ (t p q : Addr) (H' : Hp) (es : List V), Same H H' → H' t = some (.tup [.ref p, .ref q]) → H' p = some (.lst es) → es.length = 11 → ErL K H' 21 es →
  H' q = some (.lst [v, v, v, v, v, v, v, v, v, v, v]) → Q (.ref t) H'
def spFlags (K : PySem.W.Frag) : Sp := fun vs H Q _ => ∃ (a : Addr) (i : Nat), vs = [.ref a] ∧ Er K H a i ∧ ∀ (p : Addr) (H' : Hp), Same H H' → H' p = some (.lst ((List.range 32).map fun j => V.bl (decide (i = j)))) → Q (.ref p) H'
abbrev s__law_pick : Stmt := top 36
abbrev N__law_pick : List Str := ["bag", "many", "number"]
theorem sc__law_pick : FnScope N__law_pick ["bag", "many"] (defScope s__law_pick) := ⟨rfl, rfl, rfl, by decide +kernel, rfl, by decide +kernel, by decide +kernel⟩
abbrev s__law_some : Stmt := top 37
abbrev N__law_some : List Str := ["bag", "things"]
theorem sc__law_some : FnScope N__law_some ["bag", "things"] (defScope s__law_some) := ⟨rfl, rfl, rfl, by decide +kernel, rfl, by decide +kernel, by decide +kernel⟩
abbrev s__law_plain : Stmt := top 38
abbrev N__law_plain : List Str := ["one", "two"]
theorem sc__law_plain : FnScope N__law_plain [] (defScope s__law_plain) := ⟨rfl, rfl, rfl, by decide +kernel, rfl, by decide +kernel, by decide +kernel⟩
abbrev s__law_told : Stmt := top 39
abbrev N__law_told : List Str := ["thing", "one", "two", "three", "four", "five", "six", "seven", "eight", "nine", "ten", "last", "fields"]
theorem sc__law_told : FnScope N__law_told ["thing"] (defScope s__law_told) := ⟨rfl, rfl, rfl, by decide +kernel, rfl, by decide +kernel, by decide +kernel⟩
abbrev s__law_flags : Stmt := top 40
abbrev N__law_flags : List Str := ["e", "found"]
theorem sc__law_flags : FnScope N__law_flags ["e"] (defScope s__law_flags) := ⟨rfl, rfl, rfl, by decide +kernel, rfl, by decide +kernel, by decide +kernel⟩
abbrev FD (K : PySem.W.Frag) (x : Str) (st : Stmt) (f : Addr) (fd : FuncData) : Prop := FunD K x x (defArgs st) (defBody st) (defScope st) [] [] f fd
section
variable {P : Program} {w : World} {K : PySem.W.Frag} {mg : Str → Option Value} {base : Heap}
theorem ok_pick (T : Tx P K mg) {f : Addr} {fd : FuncData} (F : FD K "_law_pick" s__law_pick f fd) : Fn P w K mg base 1 f fd ["bag", "many"] spPick := by
  refine fn_body F sc__law_pick (fun vs H Q E h => ?_) (fun cv A outer s H vs Q E hr gd h => ?_)
  · obtain ⟨p, g, many, rfl, _⟩ := h
    rfl
  · obtain ⟨p, g, many, rfl, B, hm, hm2, k⟩ := h
    refine ⟨_, (pss_cons (ps_if (pt_cmpR op_eq (pe_ix ix_list (pv 0) pe_int (fun _ _ => rfl)) pe_int (nomark _)) (pss_one (ps_ret pe_int)) pss_nil)
    (pss_cons (ps_if (pt_cmpR op_gt (pe_callB Rd.cr_len (by rfl) T.len (by decide +kernel) (pa_cons (pe_ix ix_list (pv 0) pe_int (fun _ _ => rfl)) pa_nil)) pe_int (nomark _)) (pss_cons (ps_set (i := 2) sc__law_pick.nd rfl (Or.inl rfl) (pe_ix ix_list (pe_ix ix_list (pv 0) pe_int (fun _ _ => rfl)) pe_int (fun _ _ => rfl)))
    (pss_cons (ps_asg (pe_op op_fdiv (pv 2) (pv 1)) (pg_sub (pe_ix ix_list (pv 0) pe_int (fun _ _ => rfl)) pe_int set_list))
    (pss_cons (ps_if (pt_cmpR op_lt (pv 2) (pv 1) (nomark _)) (pss_one (ps_expr (pe_bm PySem.F.plainAttrs_list PySem.F.slot_list_pop PySem.F.type_list_pop mt_popAt (pe_ix ix_list (pv 0) pe_int (fun _ _ => rfl)) (pa_cons pe_int pa_nil)))) pss_nil)
    (pss_one (ps_ret (pe_op op_mod (pe_callTy Rd.cr_int (by rfl) T.int (by decide +kernel) (pa_cons (pv 2) pa_nil)) (pv 1))))))) pss_nil)
    (pss_cons (ps_asg (pe_op op_add (pe_ix ix_list (pv 0) pe_int (fun _ _ => rfl)) pe_int) (pg_sub (pv 0) pe_int set_list))
    (pss_cons (ps_set (i := 2) sc__law_pick.nd rfl (Or.inl rfl) (pe_op op_mod (pe_callTy Rd.cr_int (by rfl) T.int (by decide +kernel) (pa_cons (pe_op op_add (pe_op op_mul (pe_op op_add (pe_ix ix_list (pv 0) pe_int (fun _ _ => rfl)) (pe_op op_mul pe_int (pe_ix ix_list (pv 0) pe_int (fun _ _ => rfl)))) pe_int) pe_int) pa_nil)) pe_int))
    (pss_cons (ps_set (i := 2) sc__law_pick.nd rfl (Or.inl rfl) (pe_op op_mod (pe_callTy Rd.cr_int (by rfl) T.int (by decide +kernel) (pa_cons (pe_op op_add (pe_op op_mul (pv 2) (pe_op op_add (pe_op op_fdiv (pv 2) pe_int) pe_int)) (pe_ix ix_list (pv 0) pe_int (fun _ _ => rfl))) pa_nil)) pe_int))
    (pss_cons (ps_asg (pe_op op_mod (pe_callTy Rd.cr_int (by rfl) T.int (by decide +kernel) (pa_cons (pe_op op_add (pe_ix ix_list (pv 0) pe_int (fun _ _ => rfl)) (pv 2)) pa_nil)) pe_int) (pg_sub (pv 0) pe_int set_list))
    (pss_one (ps_ret (pe_op op_mod (pe_callTy Rd.cr_int (by rfl) T.int (by decide +kernel) (pa_cons (pe_op op_fdiv (pv 2) pe_int) pa_nil)) (pv 1)))))))))), ?_⟩
    obtain ⟨npg, ⟨seed, len, cnt, hp, hs0, hs1⟩, ⟨ns, hg, hn, h0⟩⟩ := B
    repeat walk_at "rd1"
    apply Rd.iteD <;> intro c
    · repeat walk_at "rd1"
      exact k 0 H (by omega) (by omega) ⟨npg, ⟨seed, len, cnt, hp, hs0, hs1⟩, ⟨ns, hg, hn, h0⟩⟩ (fun a _ _ => rfl)
    · repeat walk_at "rd1"
      apply Rd.iteD <;> intro c2
      · cases ns with
        | nil => simp at c2
        | cons n ns =>
          rw [List.map_cons] at hg
          repeat walk_at "rd1"
          have hn0 : 0 ≤ n := h0 n (by simp)
          apply Rd.iteD <;> intro c3
          · repeat walk_at "rd1"
            refine k _ _ (Int.emod_nonneg _ (by omega)) (Int.emod_lt_of_pos _ hm) ⟨npg, ⟨seed, len, cnt, by rw [upd_ne npg, upd_ne npg]; exact hp, hs0, hs1⟩, ⟨ns, by rw [upd_same], by simp at hn; omega, fun m hm' => h0 m (by simp [hm'])⟩⟩ (fun a h1 h2 => by rw [upd_ne h2, upd_ne h2])
          · repeat walk_at "rd1"
            refine k _ _ (Int.emod_nonneg _ (by omega)) (Int.emod_lt_of_pos _ hm) ⟨npg, ⟨seed, len, cnt, by rw [upd_ne npg]; exact hp, hs0, hs1⟩, ⟨n / many :: ns, by rw [upd_same]; rfl, hn, fun m hm' => ?_⟩⟩ (fun a h1 h2 => by rw [upd_ne h2])
            rcases List.mem_cons.mp hm' with rfl | hm'
            · exact Int.ediv_nonneg hn0 (by omega)
            · exact h0 m (by simp [hm'])
      · repeat walk_at "rd1"
        refine k _ _ (Int.emod_nonneg _ (by omega)) (Int.emod_lt_of_pos _ hm) ⟨npg, ⟨_, len, cnt + 1, upd_same, Int.emod_nonneg _ (by decide), Int.emod_lt_of_pos _ (by decide)⟩, ⟨ns, by rw [upd_ne npg.symm, upd_ne npg.symm]; exact hg, hn, h0⟩⟩ (fun a h1 h2 => by rw [upd_ne h1, upd_ne h1])
theorem ok_some (T : Tx P K mg) (f_pick : Df P w K mg base 1 "_law_pick" spPick) {f : Addr} {fd : FuncData} (F : FD K "_law_some" s__law_some f fd) : Fn P w K mg base 2 f fd ["bag", "things"] (spSome K) := by
  refine fn_body F sc__law_some (fun vs H Q E h => ?_) (fun cv A outer s H vs Q E hr gd h => ?_)
  · obtain ⟨p, g, q, xs, rfl, _⟩ := h
    rfl
  · obtain ⟨p, g, q, xs, rfl, B, hq, n1, n2, l0, l1, k⟩ := h
    refine ⟨_, (pss_one (ps_ret (pe_ix ix_list (pv 1) (pe_df f_pick hr (by decide) gd rfl (fun σ => Gl.no_pass σ) (pa_cons (pv 0) (pa_cons (pe_callB Rd.cr_len (by rfl) T.len (by decide +kernel) (pa_cons (pv 1) pa_nil)) pa_nil))) (fun _ _ => rfl)))), ?_⟩
    repeat walk_at "rd1"
    refine ⟨p, g, _, rfl, B, by omega, by omega, fun r H' r0 r1 B' o => ?_⟩
    obtain ⟨v, hv⟩ : ∃ v, xs[r.toNat]? = some v := ⟨xs[r.toNat]'(by omega), List.getElem?_eq_getElem _⟩
    exact ⟨q, xs, r, v, rfl, rfl, o.seq n1 n2 hq, at_of (by omega) hv, k v H' (List.mem_of_getElem? hv) B' o⟩
theorem ok_plain (T : Tx P K mg) {f : Addr} {fd : FuncData} (F : FD K "_law_plain" s__law_plain f fd) : Fn P w K mg base 1 f fd [] (spPlain K) := by
  refine fn_body F sc__law_plain (fun vs H Q E h => ?_) (fun cv A outer s H vs Q E hr gd h => ?_)
  · obtain ⟨rfl, _⟩ := h
    rfl
  · obtain ⟨rfl, k⟩ := h
    refine ⟨_, (pss_cons (ps_set (i := 0) sc__law_plain.nd rfl (Or.inl rfl) (pe_lst (pa_cons (pe_mkN (T.exn 0 rfl (by decide)) (T.v 0 rfl) (T.kc 0 rfl) rfl) (pa_cons (pe_mkN (T.exn 1 rfl (by decide)) (T.v 1 rfl) (T.kc 1 rfl) rfl) (pa_cons (pe_mkN (T.exn 2 rfl (by decide)) (T.v 2 rfl) (T.kc 2 rfl) rfl) (pa_cons (pe_mkN (T.exn 3 rfl (by decide)) (T.v 3 rfl) (T.kc 3 rfl) rfl) (pa_cons (pe_mkN (T.exn 4 rfl (by decide)) (T.v 4 rfl) (T.kc 4 rfl) rfl) (pa_cons (pe_mkN (T.exn 5 rfl (by decide)) (T.v 5 rfl) (T.kc 5 rfl) rfl) (pa_cons (pe_mkN (T.exn 6 rfl (by decide)) (T.v 6 rfl) (T.kc 6 rfl) rfl) (pa_cons (pe_mkN (T.exn 7 rfl (by decide)) (T.v 7 rfl) (T.kc 7 rfl) rfl) (pa_cons (pe_mkN (T.exn 8 rfl (by decide)) (T.v 8 rfl) (T.kc 8 rfl) rfl) (pa_cons (pe_mkN (T.exn 9 rfl (by decide)) (T.v 9 rfl) (T.kc 9 rfl) rfl) pa_nil))))))))))))
    (pss_cons (ps_set (i := 1) sc__law_plain.nd rfl (Or.inl rfl) (pe_lst (pa_cons (pe_mkN (T.exn 10 rfl (by decide)) (T.v 10 rfl) (T.kc 10 rfl) rfl) (pa_cons (pe_mkN (T.exn 11 rfl (by decide)) (T.v 11 rfl) (T.kc 11 rfl) rfl) (pa_cons (pe_mkN (T.exn 12 rfl (by decide)) (T.v 12 rfl) (T.kc 12 rfl) rfl) (pa_cons (pe_mkN (T.exn 13 rfl (by decide)) (T.v 13 rfl) (T.kc 13 rfl) rfl) (pa_cons (pe_mkN (T.exn 14 rfl (by decide)) (T.v 14 rfl) (T.kc 14 rfl) rfl) (pa_cons (pe_mkN (T.exn 15 rfl (by decide)) (T.v 15 rfl) (T.kc 15 rfl) rfl) (pa_cons (pe_mkN (T.exn 16 rfl (by decide)) (T.v 16 rfl) (T.kc 16 rfl) rfl) (pa_cons (pe_mkN (T.exn 17 rfl (by decide)) (T.v 17 rfl) (T.kc 17 rfl) rfl) (pa_cons (pe_mkN (T.exn 18 rfl (by decide)) (T.v 18 rfl) (T.kc 18 rfl) rfl) (pa_cons (pe_mkN (T.exn 19 rfl (by decide)) (T.v 19 rfl) (T.kc 19 rfl) rfl) pa_nil))))))))))))
    (pss_one (ps_ret (pe_op op_cat (pe_op op_cat (pv 0) (pv 1)) (pe_lst (pa_cons (pe_mkN (T.exn 20 rfl (by decide)) (T.v 20 rfl) (T.kc 20 rfl) rfl) pa_nil))))))), ?_⟩
    repeat walk_at "rd1"
    refine k _ _ _ ?_ upd_same ?_ ?_
    · intro b u hb
      walk_at "hp"
    · rfl
    · repeat (first | exact True.intro | refine ⟨⟨_, rfl, _, _, rfl, by walk_at "hp", by intro dd e; cases e⟩, ?_⟩)
theorem ok_told (T : Tx P K mg) {f : Addr} {fd : FuncData} (F : FD K "_law_told" s__law_told f fd) : Fn P w K mg base 3 f fd ["thing"] (spTold K) := by
  refine fn_body F sc__law_told (fun vs H Q E h => ?_) (fun cv A outer s H vs Q E hr gd h => ?_)
  · obtain ⟨v, rfl, _⟩ := h
    rfl
  · obtain ⟨v, rfl, k⟩ := h
    refine ⟨_, (pss_cons (ps_par3 (i := 1) (j := 2) (l := 3) (by rfl) sc__law_told.nd rfl rfl rfl (by decide) (by decide) (by decide) rfl rfl rfl (pa_cons (pe_mkE (T.bad 21 rfl (by decide) rfl) (T.v 21 rfl) T.super hr (by decide) (pv 0) rfl) (pa_cons (pe_mkE (T.bad 22 rfl (by decide) rfl) (T.v 22 rfl) T.super hr (by decide) (pv 0) rfl) (pa_cons (pe_mkE (T.bad 23 rfl (by decide) rfl) (T.v 23 rfl) T.super hr (by decide) (pv 0) rfl) pa_nil))) (by rfl))
    (pss_cons (ps_par3 (i := 4) (j := 5) (l := 6) (by rfl) sc__law_told.nd rfl rfl rfl (by decide) (by decide) (by decide) rfl rfl rfl (pa_cons (pe_mkE (T.bad 24 rfl (by decide) rfl) (T.v 24 rfl) T.super hr (by decide) (pv 0) rfl) (pa_cons (pe_mkE (T.bad 25 rfl (by decide) rfl) (T.v 25 rfl) T.super hr (by decide) (pv 0) rfl) (pa_cons (pe_mkE (T.bad 26 rfl (by decide) rfl) (T.v 26 rfl) T.super hr (by decide) (pv 0) rfl) pa_nil))) (by rfl))
    (pss_cons (ps_par3 (i := 7) (j := 8) (l := 9) (by rfl) sc__law_told.nd rfl rfl rfl (by decide) (by decide) (by decide) rfl rfl rfl (pa_cons (pe_mkE (T.bad 27 rfl (by decide) rfl) (T.v 27 rfl) T.super hr (by decide) (pv 0) rfl) (pa_cons (pe_mkE (T.bad 28 rfl (by decide) rfl) (T.v 28 rfl) T.super hr (by decide) (pv 0) rfl) (pa_cons (pe_mkE (T.bad 29 rfl (by decide) rfl) (T.v 29 rfl) T.super hr (by decide) (pv 0) rfl) pa_nil))) (by rfl))
    (pss_cons (ps_par (i := 10) (j := 11) (by rfl) sc__law_told.nd rfl rfl (by decide) rfl rfl (pa_cons (pe_mkE (T.bad 30 rfl (by decide) rfl) (T.v 30 rfl) T.super hr (by decide) (pv 0) rfl) (pa_cons (pe_mkE (T.bad 31 rfl (by decide) rfl) (T.v 31 rfl) T.super hr (by decide) (pv 0) rfl) pa_nil)) (by rfl))
    (pss_cons (ps_set (i := 12) sc__law_told.nd rfl (Or.inl rfl) (pe_lst (pa_cons (pe_fldE (pv 1)) (pa_cons (pe_fldE (pv 2)) (pa_cons (pe_fldE (pv 3)) (pa_cons (pe_fldE (pv 4)) (pa_cons (pe_fldE (pv 5)) (pa_cons (pe_fldE (pv 6)) (pa_cons (pe_fldE (pv 7)) (pa_cons (pe_fldE (pv 8)) (pa_cons (pe_fldE (pv 9)) pa_nil)))))))))))
    (pss_one (ps_ret (pe_tup (pa_cons (pe_lst (pa_cons (pv 1) (pa_cons (pv 2) (pa_cons (pv 3) (pa_cons (pv 4) (pa_cons (pv 5) (pa_cons (pv 6) (pa_cons (pv 7) (pa_cons (pv 8) (pa_cons (pv 9) (pa_cons (pv 10) (pa_cons (pv 11) pa_nil)))))))))))) (pa_cons (pe_op op_cat (pv 12) (pe_lst (pa_cons (pe_fldE (pv 10)) (pa_cons (pe_fldE (pv 11)) pa_nil)))) pa_nil)))))))))), ?_⟩
    repeat walk_at "rd1"
    · exact T.xf 21 rfl
    · exact (T.bad 21 rfl (by decide) rfl).noN
    repeat walk_at "rd1"
    · exact T.xf 22 rfl
    · exact (T.bad 22 rfl (by decide) rfl).noN
    repeat walk_at "rd1"
    · exact T.xf 23 rfl
    · exact (T.bad 23 rfl (by decide) rfl).noN
    repeat walk_at "rd1"
    · exact T.xf 24 rfl
    · exact (T.bad 24 rfl (by decide) rfl).noN
    repeat walk_at "rd1"
    · exact T.xf 25 rfl
    · exact (T.bad 25 rfl (by decide) rfl).noN
    repeat walk_at "rd1"
    · exact T.xf 26 rfl
    · exact (T.bad 26 rfl (by decide) rfl).noN
    repeat walk_at "rd1"
    · exact T.xf 27 rfl
    · exact (T.bad 27 rfl (by decide) rfl).noN
    repeat walk_at "rd1"
    · exact T.xf 28 rfl
    · exact (T.bad 28 rfl (by decide) rfl).noN
    repeat walk_at "rd1"
    · exact T.xf 29 rfl
    · exact (T.bad 29 rfl (by decide) rfl).noN
    repeat walk_at "rd1"
    · exact T.xf 30 rfl
    · exact (T.bad 30 rfl (by decide) rfl).noN
    repeat walk_at "rd1"
    · exact T.xf 31 rfl
    · exact (T.bad 31 rfl (by decide) rfl).noN
    repeat walk_at "rd1"
    refine k _ _ _ _ _ ?_ upd_same (by walk_at "hp") ?_ ?_ (by walk_at "hp")
    · intro b u hb
      walk_at "hp"
    · rfl
    · repeat (first | exact True.intro | refine ⟨⟨_, rfl, _, _, rfl, by walk_at "hp", by intro dd e; cases e; exact ⟨_, by walk_at "hp"⟩⟩, ?_⟩)
/-- isinstance(e, c): are they of one kind? -/
theorem isx (T : Tx P K mg) {H : Hp} {Q : VK} {a : Addr} {i j : Nat} {y : Str} (he : Er K H a i) (hy : cn[j]? = some y) (h : Q (.bl (decide (i = j))) H) : rIsX K [.ref a, .ref (He.ga K y)] H Q := by
  obtain ⟨x, d, hx, ha, hd⟩ := he
  exact ⟨a, _, d, _, .ref (He.ga K y), _, rfl, ha, T.xc i hx, fun u r => r, hd, T.kit i j hx hy, h⟩
theorem ok_flags (T : Tx P K mg) {f : Addr} {fd : FuncData} (F : FD K "_law_flags" s__law_flags f fd) : Fn P w K mg base 1 f fd ["e"] (spFlags K) := by
  refine fn_body F sc__law_flags (fun vs H Q E h => ?_) (fun cv A outer s H vs Q E hr gd h => ?_)
  · obtain ⟨a, i, rfl, _⟩ := h
    rfl
  · obtain ⟨a, i, rfl, he, k⟩ := h
    refine ⟨_, (pss_cons (ps_set (i := 1) sc__law_flags.nd rfl (Or.inl rfl) (pe_lst (pa_cons (pe_callB call_isX (by rfl) T.isinstance (by decide +kernel) (pa_cons (pv 0) (pa_cons (pe_glob (v := .ref _) rfl (T.v 0 rfl) rfl) pa_nil))) (pa_cons (pe_callB call_isX (by rfl) T.isinstance (by decide +kernel) (pa_cons (pv 0) (pa_cons (pe_glob (v := .ref _) rfl (T.v 1 rfl) rfl) pa_nil))) (pa_cons (pe_callB call_isX (by rfl) T.isinstance (by decide +kernel) (pa_cons (pv 0) (pa_cons (pe_glob (v := .ref _) rfl (T.v 2 rfl) rfl) pa_nil))) (pa_cons (pe_callB call_isX (by rfl) T.isinstance (by decide +kernel) (pa_cons (pv 0) (pa_cons (pe_glob (v := .ref _) rfl (T.v 3 rfl) rfl) pa_nil))) pa_nil))))))
    (pss_cons (ps_set (i := 1) sc__law_flags.nd rfl (Or.inl rfl) (pe_op op_cat (pv 1) (pe_lst (pa_cons (pe_callB call_isX (by rfl) T.isinstance (by decide +kernel) (pa_cons (pv 0) (pa_cons (pe_glob (v := .ref _) rfl (T.v 4 rfl) rfl) pa_nil))) (pa_cons (pe_callB call_isX (by rfl) T.isinstance (by decide +kernel) (pa_cons (pv 0) (pa_cons (pe_glob (v := .ref _) rfl (T.v 5 rfl) rfl) pa_nil))) (pa_cons (pe_callB call_isX (by rfl) T.isinstance (by decide +kernel) (pa_cons (pv 0) (pa_cons (pe_glob (v := .ref _) rfl (T.v 6 rfl) rfl) pa_nil))) (pa_cons (pe_callB call_isX (by rfl) T.isinstance (by decide +kernel) (pa_cons (pv 0) (pa_cons (pe_glob (v := .ref _) rfl (T.v 7 rfl) rfl) pa_nil))) pa_nil)))))))
    (pss_cons (ps_set (i := 1) sc__law_flags.nd rfl (Or.inl rfl) (pe_op op_cat (pv 1) (pe_lst (pa_cons (pe_callB call_isX (by rfl) T.isinstance (by decide +kernel) (pa_cons (pv 0) (pa_cons (pe_glob (v := .ref _) rfl (T.v 8 rfl) rfl) pa_nil))) (pa_cons (pe_callB call_isX (by rfl) T.isinstance (by decide +kernel) (pa_cons (pv 0) (pa_cons (pe_glob (v := .ref _) rfl (T.v 9 rfl) rfl) pa_nil))) (pa_cons (pe_callB call_isX (by rfl) T.isinstance (by decide +kernel) (pa_cons (pv 0) (pa_cons (pe_glob (v := .ref _) rfl (T.v 10 rfl) rfl) pa_nil))) (pa_cons (pe_callB call_isX (by rfl) T.isinstance (by decide +kernel) (pa_cons (pv 0) (pa_cons (pe_glob (v := .ref _) rfl (T.v 11 rfl) rfl) pa_nil))) pa_nil)))))))
    (pss_cons (ps_set (i := 1) sc__law_flags.nd rfl (Or.inl rfl) (pe_op op_cat (pv 1) (pe_lst (pa_cons (pe_callB call_isX (by rfl) T.isinstance (by decide +kernel) (pa_cons (pv 0) (pa_cons (pe_glob (v := .ref _) rfl (T.v 12 rfl) rfl) pa_nil))) (pa_cons (pe_callB call_isX (by rfl) T.isinstance (by decide +kernel) (pa_cons (pv 0) (pa_cons (pe_glob (v := .ref _) rfl (T.v 13 rfl) rfl) pa_nil))) (pa_cons (pe_callB call_isX (by rfl) T.isinstance (by decide +kernel) (pa_cons (pv 0) (pa_cons (pe_glob (v := .ref _) rfl (T.v 14 rfl) rfl) pa_nil))) (pa_cons (pe_callB call_isX (by rfl) T.isinstance (by decide +kernel) (pa_cons (pv 0) (pa_cons (pe_glob (v := .ref _) rfl (T.v 15 rfl) rfl) pa_nil))) pa_nil)))))))
    (pss_cons (ps_set (i := 1) sc__law_flags.nd rfl (Or.inl rfl) (pe_op op_cat (pv 1) (pe_lst (pa_cons (pe_callB call_isX (by rfl) T.isinstance (by decide +kernel) (pa_cons (pv 0) (pa_cons (pe_glob (v := .ref _) rfl (T.v 16 rfl) rfl) pa_nil))) (pa_cons (pe_callB call_isX (by rfl) T.isinstance (by decide +kernel) (pa_cons (pv 0) (pa_cons (pe_glob (v := .ref _) rfl (T.v 17 rfl) rfl) pa_nil))) (pa_cons (pe_callB call_isX (by rfl) T.isinstance (by decide +kernel) (pa_cons (pv 0) (pa_cons (pe_glob (v := .ref _) rfl (T.v 18 rfl) rfl) pa_nil))) (pa_cons (pe_callB call_isX (by rfl) T.isinstance (by decide +kernel) (pa_cons (pv 0) (pa_cons (pe_glob (v := .ref _) rfl (T.v 19 rfl) rfl) pa_nil))) pa_nil)))))))
    (pss_cons (ps_set (i := 1) sc__law_flags.nd rfl (Or.inl rfl) (pe_op op_cat (pv 1) (pe_lst (pa_cons (pe_callB call_isX (by rfl) T.isinstance (by decide +kernel) (pa_cons (pv 0) (pa_cons (pe_glob (v := .ref _) rfl (T.v 20 rfl) rfl) pa_nil))) (pa_cons (pe_callB call_isX (by rfl) T.isinstance (by decide +kernel) (pa_cons (pv 0) (pa_cons (pe_glob (v := .ref _) rfl (T.v 21 rfl) rfl) pa_nil))) (pa_cons (pe_callB call_isX (by rfl) T.isinstance (by decide +kernel) (pa_cons (pv 0) (pa_cons (pe_glob (v := .ref _) rfl (T.v 22 rfl) rfl) pa_nil))) (pa_cons (pe_callB call_isX (by rfl) T.isinstance (by decide +kernel) (pa_cons (pv 0) (pa_cons (pe_glob (v := .ref _) rfl (T.v 23 rfl) rfl) pa_nil))) pa_nil)))))))
    (pss_cons (ps_set (i := 1) sc__law_flags.nd rfl (Or.inl rfl) (pe_op op_cat (pv 1) (pe_lst (pa_cons (pe_callB call_isX (by rfl) T.isinstance (by decide +kernel) (pa_cons (pv 0) (pa_cons (pe_glob (v := .ref _) rfl (T.v 24 rfl) rfl) pa_nil))) (pa_cons (pe_callB call_isX (by rfl) T.isinstance (by decide +kernel) (pa_cons (pv 0) (pa_cons (pe_glob (v := .ref _) rfl (T.v 25 rfl) rfl) pa_nil))) (pa_cons (pe_callB call_isX (by rfl) T.isinstance (by decide +kernel) (pa_cons (pv 0) (pa_cons (pe_glob (v := .ref _) rfl (T.v 26 rfl) rfl) pa_nil))) (pa_cons (pe_callB call_isX (by rfl) T.isinstance (by decide +kernel) (pa_cons (pv 0) (pa_cons (pe_glob (v := .ref _) rfl (T.v 27 rfl) rfl) pa_nil))) pa_nil)))))))
    (pss_cons (ps_set (i := 1) sc__law_flags.nd rfl (Or.inl rfl) (pe_op op_cat (pv 1) (pe_lst (pa_cons (pe_callB call_isX (by rfl) T.isinstance (by decide +kernel) (pa_cons (pv 0) (pa_cons (pe_glob (v := .ref _) rfl (T.v 28 rfl) rfl) pa_nil))) (pa_cons (pe_callB call_isX (by rfl) T.isinstance (by decide +kernel) (pa_cons (pv 0) (pa_cons (pe_glob (v := .ref _) rfl (T.v 29 rfl) rfl) pa_nil))) (pa_cons (pe_callB call_isX (by rfl) T.isinstance (by decide +kernel) (pa_cons (pv 0) (pa_cons (pe_glob (v := .ref _) rfl (T.v 30 rfl) rfl) pa_nil))) (pa_cons (pe_callB call_isX (by rfl) T.isinstance (by decide +kernel) (pa_cons (pv 0) (pa_cons (pe_glob (v := .ref _) rfl (T.v 31 rfl) rfl) pa_nil))) pa_nil)))))))
    (pss_one (ps_ret (pv 1))))))))))), ?_⟩
    repeat walk_at "rd1"
    refine isx T (j := 0) (he.same (by intro b u hb; walk_at "hp")) rfl ?_
    repeat walk_at "rd1"
    refine isx T (j := 1) (he.same (by intro b u hb; walk_at "hp")) rfl ?_
    repeat walk_at "rd1"
    refine isx T (j := 2) (he.same (by intro b u hb; walk_at "hp")) rfl ?_
    repeat walk_at "rd1"
    refine isx T (j := 3) (he.same (by intro b u hb; walk_at "hp")) rfl ?_
    repeat walk_at "rd1"
    refine isx T (j := 4) (he.same (by intro b u hb; walk_at "hp")) rfl ?_
    repeat walk_at "rd1"
    refine isx T (j := 5) (he.same (by intro b u hb; walk_at "hp")) rfl ?_
    repeat walk_at "rd1"
    refine isx T (j := 6) (he.same (by intro b u hb; walk_at "hp")) rfl ?_
    repeat walk_at "rd1"
    refine isx T (j := 7) (he.same (by intro b u hb; walk_at "hp")) rfl ?_
    repeat walk_at "rd1"
    refine isx T (j := 8) (he.same (by intro b u hb; walk_at "hp")) rfl ?_
    repeat walk_at "rd1"
    refine isx T (j := 9) (he.same (by intro b u hb; walk_at "hp")) rfl ?_
    repeat walk_at "rd1"
    refine isx T (j := 10) (he.same (by intro b u hb; walk_at "hp")) rfl ?_
    repeat walk_at "rd1"
    refine isx T (j := 11) (he.same (by intro b u hb; walk_at "hp")) rfl ?_
    repeat walk_at "rd1"
    refine isx T (j := 12) (he.same (by intro b u hb; walk_at "hp")) rfl ?_
    repeat walk_at "rd1"
    refine isx T (j := 13) (he.same (by intro b u hb; walk_at "hp")) rfl ?_
    repeat walk_at "rd1"
    refine isx T (j := 14) (he.same (by intro b u hb; walk_at "hp")) rfl ?_
    repeat walk_at "rd1"
    refine isx T (j := 15) (he.same (by intro b u hb; walk_at "hp")) rfl ?_
    repeat walk_at "rd1"
    refine isx T (j := 16) (he.same (by intro b u hb; walk_at "hp")) rfl ?_
    repeat walk_at "rd1"
    refine isx T (j := 17) (he.same (by intro b u hb; walk_at "hp")) rfl ?_
    repeat walk_at "rd1"
    refine isx T (j := 18) (he.same (by intro b u hb; walk_at "hp")) rfl ?_
    repeat walk_at "rd1"
    refine isx T (j := 19) (he.same (by intro b u hb; walk_at "hp")) rfl ?_
    repeat walk_at "rd1"
    refine isx T (j := 20) (he.same (by intro b u hb; walk_at "hp")) rfl ?_
    repeat walk_at "rd1"
    refine isx T (j := 21) (he.same (by intro b u hb; walk_at "hp")) rfl ?_
    repeat walk_at "rd1"
    refine isx T (j := 22) (he.same (by intro b u hb; walk_at "hp")) rfl ?_
    repeat walk_at "rd1"
    refine isx T (j := 23) (he.same (by intro b u hb; walk_at "hp")) rfl ?_
    repeat walk_at "rd1"
    refine isx T (j := 24) (he.same (by intro b u hb; walk_at "hp")) rfl ?_
    repeat walk_at "rd1"
    refine isx T (j := 25) (he.same (by intro b u hb; walk_at "hp")) rfl ?_
    repeat walk_at "rd1"
    refine isx T (j := 26) (he.same (by intro b u hb; walk_at "hp")) rfl ?_
    repeat walk_at "rd1"
    refine isx T (j := 27) (he.same (by intro b u hb; walk_at "hp")) rfl ?_
    repeat walk_at "rd1"
    refine isx T (j := 28) (he.same (by intro b u hb; walk_at "hp")) rfl ?_
    repeat walk_at "rd1"
    refine isx T (j := 29) (he.same (by intro b u hb; walk_at "hp")) rfl ?_
    repeat walk_at "rd1"
    refine isx T (j := 30) (he.same (by intro b u hb; walk_at "hp")) rfl ?_
    repeat walk_at "rd1"
    refine isx T (j := 31) (he.same (by intro b u hb; walk_at "hp")) rfl ?_
    repeat walk_at "rd1"
    refine k _ _ ?_ ?_
    · intro b u hb
      walk_at "hp"
    · exact upd_same
end
abbrev s__law_bag : Stmt := top 35
abbrev N__law_bag : List Str := ["script", "great", "cell", "seed"]
theorem sc__law_bag : FnScope N__law_bag ["script"] (defScope s__law_bag) := ⟨rfl, rfl, rfl, by decide +kernel, rfl, by decide +kernel, by decide +kernel⟩
abbrev s_law : Stmt := top 41
abbrev N_law : List Str := ["script", "bag", "thing", "told", "fields", "errors", "at", "e", "other", "field"]
theorem sc_law : FnScope N_law ["script"] (defScope s_law) := ⟨rfl, rfl, rfl, by decide +kernel, rfl, by decide +kernel, by decide +kernel⟩
section
variable {P : Program} {w : World} {K : PySem.W.Frag} {mg : Str → Option Value} {base : Heap}
theorem po_hi {n : Int} : ∀ {σ : L2.St} {H : Hp} (R : Option Int → Hp → Prop), R (some n) H → tPart (tC (.int n)) σ H R := fun R h => ⟨n, rfl, h⟩
theorem po_no : ∀ {σ : L2.St} {H : Hp} (R : Option Int → Hp → Prop), R none H → tNoPart σ H R := fun R h => h
theorem mem_cut {ns : List Int} {lo hi : Option Int} {x : V} (h : x ∈ cutV (ns.map V.int) lo hi) : ∃ z, x = .int z := by
  unfold cutV at h
  obtain ⟨z, _, rfl⟩ := List.mem_map.mp (List.mem_of_mem_drop (List.mem_of_mem_take h))
  exact ⟨z, rfl⟩
theorem len_cut {xs : List V} {n : Nat} : (cutV xs none (some (n : Int))).length ≤ n := by
  unfold cutV
  rw [List.length_take]
  refine Nat.le_trans (Nat.min_le_left _ _) ?_
  show HT.sIx _ _ (some (n : Int)) - 0 ≤ n
  rw [HT.sIx_nat]
  omega
def gp : V → Bool
  | .int z => decide (10 ^ 18 ≤ (if z < 0 then -z else z))
  | _ => false
def gf : V → V
  | .int z => .int (if z < 0 then -z else z)
  | v => v
def absI (z : Int) : Int := if z < 0 then -z else z
theorem great_is : ∀ xs : List V, (∀ x ∈ xs, ∃ z, x = V.int z) → ∃ ms : List Int, (xs.filter gp).map gf = ms.map V.int ∧ ms.length ≤ xs.length ∧ ∀ m ∈ ms, 0 ≤ m
  | [], _ => ⟨[], rfl, Nat.le_refl _, fun m h => nomatch h⟩
  | x :: xs, h => by
    obtain ⟨z, rfl⟩ := h x (by simp)
    obtain ⟨ms, e, l, p⟩ := great_is xs fun y hy => h y (by simp [hy])
    by_cases c : gp (.int z) = true
    · refine ⟨(if z < 0 then -z else z) :: ms, by rw [List.filter_cons_of_pos c, List.map_cons, e]; rfl, by simp; omega, fun m hm => ?_⟩
      rcases List.mem_cons.mp hm with rfl | hm
      · split <;> omega
      · exact p m hm
    · exact ⟨ms, by rw [List.filter_cons_of_neg c, e], by simp; omega, p⟩
theorem ok_bag (T : Tx P K mg) {f : Addr} {fd : FuncData} (F : FD K "_law_bag" s__law_bag f fd) : Fn P w K mg base 1 f fd ["script"] (spBag K) := by
  refine fn_body F sc__law_bag (fun vs H Q E h => ?_) (fun cv A outer s H vs Q E hr gd h => ?_)
  · obtain ⟨a, ns, rfl, _⟩ := h
    rfl
  · obtain ⟨a, ns, rfl, hS, hl, k⟩ := h
    refine ⟨_, (pss_cons (ps_setLc (i := 1) (y := "great") (own := [("cell", 2)]) (g := gName 2) (by rfl) sc__law_bag.nd rfl rfl (sw_true rfl rfl rfl (by decide +kernel)) (pi_list (pe_slice sl_list (pv 0) po_none (po_some pe_int))) (blkOk_by (own := [("cell", 2)]) (N := N__law_bag) (sc := defScope s__law_bag) (by decide +kernel)) (fun _ _ _ _ _ => pg_name (i := 2) sc__law_bag.nd rfl (Or.inl rfl)) (fun _ _ _ _ _ => (pts_one (pt_cmpR op_ge (pe_callB Rd.cr_abs (by rfl) T.abs (by decide +kernel) (pa_cons (pe_callTy Rd.cr_int (by rfl) T.int (by decide +kernel) (pa_cons (pv 2) pa_nil)) pa_nil)) (pe_op op_pow pe_int pe_int) (nomark _)))) (fun _ _ _ _ _ => (pe_callB Rd.cr_abs (by rfl) T.abs (by decide +kernel) (pa_cons (pe_callTy Rd.cr_int (by rfl) T.int (by decide +kernel) (pa_cons (pv 2) pa_nil)) pa_nil))))
    (pss_cons (ps_set (i := 3) sc__law_bag.nd rfl (Or.inl rfl) pe_int)
    (pss_cons (ps_for (passes_of rfl) rfl (pi_list (pe_slice sl_list (pv 0) po_none (po_some pe_int))) (pg_name (i := 2) sc__law_bag.nd rfl (Or.inl rfl))
      (pss_one (ps_set (i := 3) sc__law_bag.nd rfl (Or.inl rfl) (pe_op op_mod (pe_callTy Rd.cr_int (by rfl) T.int (by decide +kernel) (pa_cons (pe_op op_add (pe_op op_add (pe_op op_add (pe_op op_mul (pv 3) pe_int) (pe_op op_mul (pe_callB Rd.cr_abs (by rfl) T.abs (by decide +kernel) (pa_cons (pe_callTy Rd.cr_int (by rfl) T.int (by decide +kernel) (pa_cons (pv 2) pa_nil)) pa_nil)) pe_int)) (pe_callTy Rd.cr_int (by rfl) T.int (by decide +kernel) (pa_cons (pe_cmpR op_lt (pe_callTy Rd.cr_int (by rfl) T.int (by decide +kernel) (pa_cons (pv 2) pa_nil)) pe_int (nomark _)) pa_nil))) pe_int) pa_nil)) pe_int))))
    (pss_one (ps_ret (pe_lst (pa_cons (pv 1) (pa_cons (pv 3) (pa_cons (pe_callB Rd.cr_len (by rfl) T.len (by decide +kernel) (pa_cons (pv 0) pa_nil)) (pa_cons pe_int pa_nil)))))))))), ?_⟩
    refine Rd.seq (Rd.asg (Rd.lcSl (i := 0) (lo := none) (hi := some ((63 : Nat) : Int)) rfl hS (Nat.le_trans len_cut (by decide)) po_no po_hi gp gf ?_ ?_))
    · intro x hx H2 S F hs h1 h2
      obtain ⟨z, rfl⟩ := mem_cut hx
      refine Rd.gname ⟨rfl, ?_⟩
      refine Rd.test ?_
      repeat walk_at "rd1"
      apply Rd.iteD <;> intro c
      · repeat walk_at "rd1"
        exact h1 (decide_eq_true c)
      · exact h2 (decide_eq_false c)
    · intro q hq D hD
      obtain ⟨ms, em, lm, pm⟩ := great_is (cutV (ns.map V.int) none (some ((63 : Nat) : Int))) fun x hx => mem_cut hx
      have hG : upd (upd H q (.lst (cutV (ns.map V.int) none (some ((63 : Nat) : Int))))) D (.lst ((List.filter gp (cutV (ns.map V.int) none (some ((63 : Nat) : Int)))).map gf)) D = some (.lst (ms.map V.int)) := by rw [upd_same, em]
      have sm := (Rd.same_new (o := .lst (cutV (ns.map V.int) none (some ((63 : Nat) : Int)))) hq).trans (Rd.same_new (o := .lst ((List.filter gp (cutV (ns.map V.int) none (some ((63 : Nat) : Int)))).map gf)) hD)
      have hS1 := sm.seq hS
      revert hG hS1 sm
      generalize upd (upd H q _) D _ = H1
      intro hG sm hS1
      repeat walk_at "rd1"
      refine ⟨_, rfl, po_no _ (po_hi (n := ((63 : Nat) : Int)) _ ⟨a, ns.map V.int, rfl, hS1, fun q2 hq2 => ⟨q2, rfl, ⟨_, .of upd_same⟩, for_it (walk_list (xs := cutV (ns.map V.int) none (some ((63 : Nat) : Int))))
        (fun i σ' H' => ∃ (v : Option V) (sd : Int), σ' = [some (.ref a), some (.ref D), v, some (.int sd)] ∧ 0 ≤ sd ∧ sd < 2147483629 ∧ H' = upd H1 q2 (.lst (cutV (ns.map V.int) none (some ((63 : Nat) : Int)))))
        ⟨none, 300, rfl, by decide, by decide, rfl⟩ (fun i σ' H' _ hp => ?_) (fun i x σ' H' H'' hi hp hy => ?_) (fun σ' H' hp => ?_)⟩⟩)⟩
      · obtain ⟨_, _, _, _, _, rfl⟩ := hp
        exact .of upd_same
      · obtain ⟨v, sd, rfl, s0, s1, rfl⟩ := hp
        obtain ⟨rfl, hx⟩ := hy
        obtain ⟨z, rfl⟩ := mem_cut (List.mem_of_getElem? hx)
        repeat walk_at "rd1"
        exact ⟨_, _, rfl, Int.emod_nonneg _ (by decide), Int.emod_lt_of_pos _ (by decide), rfl⟩
      · obtain ⟨v, sd, rfl, s0, s1, rfl⟩ := hp
        have hS2 := (Rd.same_new (o := .lst (cutV (ns.map V.int) none (some ((63 : Nat) : Int)))) hq2).seq hS1
        repeat walk_at "rd1"
        refine k _ D _ ⟨?_, ⟨sd, _, 0, upd_same, s0, s1⟩, ⟨ms, by walk_at "hp", Nat.le_trans lm len_cut, pm⟩⟩ (fun b u hb => ?_)
        · rename_i hp
          rintro rfl
          rw [upd_ne (ne_of_none hG hq2), hG] at hp
          cases hp
        · have := sm b u hb
          walk_at "hp"
end
theorem BagAt.same {H H' : Hp} {p g : Addr} (B : BagAt H p g) (s : Same H H') : BagAt H' p g := by
  obtain ⟨h1, ⟨a, b, c, e, h2⟩, ⟨ns, e2, h3⟩⟩ := B
  exact ⟨h1, ⟨a, b, c, s _ _ e, h2⟩, ⟨ns, s _ _ e2, h3⟩⟩
theorem BagAt.off {H : Hp} {p g q : Addr} (B : BagAt H p g) (h : H q = none) : q ≠ p ∧ q ≠ g := by
  obtain ⟨h1, ⟨a, b, c, e, h2⟩, ⟨ns, e2, h3⟩⟩ := B
  constructor
  · intro z
    rw [z, e] at h
    cases h
  · intro z
    rw [z, e2] at h
    cases h
/-- one of the kinds of things that are told -/
inductive Th (H : Hp) : V → Prop
  | non : Th H .non
  | int (i : Int) : Th H (.int i)
  | bl (b : Bool) : Th H (.bl b)
  | str : Th H (.str "part")
  | tup {t : Addr} (i : Int) (h : H t = some (.tup [.str "ground", .int i])) : Th H (.ref t)
  | lst {t : Addr} (i : Int) (h : H t = some (.lst [.int i])) : Th H (.ref t)
  | dct {t : Addr} (h : H t = some (.dK [])) : Th H (.ref t)
theorem Th.same {H H' : Hp} {v : V} (h : Th H v) (s : Same H H') : Th H' v := by
  cases h with
  | non => exact .non
  | int i => exact .int i
  | bl b => exact .bl b
  | str => exact .str
  | tup i h => exact .tup i (s _ _ h)
  | lst i h => exact .lst i (s _ _ h)
  | dct h => exact .dct (s _ _ h)
section
variable {P : Program} {w : World} {K : PySem.W.Frag} {mg : Str → Option Value} {base : Heap}
def spLaw (K : PySem.W.Frag) : Sp := fun vs H Q _ => ∃ (a : Addr) (ns : List Int), vs = [.ref a] ∧ ns.length ≤ 1000 ∧ SqL K H a (ns.map V.int) ∧ ∀ H', Q (.bl true) H'
theorem Th.bool {H : Hp} {v : V} (h : Th H v) : ∃ (t : Value) (b : Bool), TyX K H v t ∧ PySem.W.kitOne K t (.type "bool") = some b := by
  cases h with
  | non => exact ⟨_, _, .base .non, rfl⟩
  | int i => exact ⟨_, _, .base (.int i), rfl⟩
  | bl b => exact ⟨_, _, .base (.bl b), rfl⟩
  | str => exact ⟨_, _, .base (.str _), rfl⟩
  | tup i h => exact ⟨_, _, .base (.tup h), rfl⟩
  | lst i h => exact ⟨_, _, .base (.lst h), rfl⟩
  | dct h => exact ⟨_, _, .base (.dK h), rfl⟩
theorem Th.ne {H : Hp} {v : V} {Q : VK} (h : Th H v) (q : Q (.bl false) H) : Rd.rNeA K v v H Q := by
  have key : ∀ d : PyData, Dp K H v d → SeqAt.shaped d = true → Rd.rNeA K v v H Q := fun d hd hs => .inr (.inl ⟨d, d, hd, hd, hs, hs, by
    rw [SeqAt.eqv_refl d (SeqAt.canLay_of_shaped hs)]; exact q⟩)
  cases h with
  | non => exact key _ .non rfl
  | int i => exact key _ (.int i) rfl
  | bl b => exact key _ (.bl b) rfl
  | str => exact key _ (.str _) (by decide +kernel)
  | tup i h => exact key (.tuple [.str "ground", .int i]) (.tup (.of h) (.cons (.str _) (.cons (.int i) .nil))) (by rw [show SeqAt.shaped (PyData.tuple [.str "ground", .int i]) = SeqAt.shaped (PyData.tuple [.str "ground", .int 0]) from rfl]; decide +kernel)
  | lst i h => exact key (.list [.int i]) (.lst (.of h) (.cons (.int i) .nil)) rfl
  | dct h => exact .inr (.inr ⟨_, _, [], [], rfl, rfl, h, h, rfl, fun p hp => by simp at hp, q⟩)
theorem isxP (T : Tx P K mg) {H : Hp} {Q : VK} {a : Addr} {i : Nat} (he : Er K H a i) (h : Q (.bl true) H) : rIsX K [.ref a, .ref (He.ga K "PostError")] H Q := by
  obtain ⟨x, d, hx, ha, hd⟩ := he
  exact ⟨a, _, d, _, .ref (He.ga K "PostError"), _, rfl, ha, T.xc i hx, fun u r => r, hd, T.kitP i hx, h⟩
theorem isxV (T : Tx P K mg) {H : Hp} {Q : VK} {a : Addr} {i : Nat} (he : Er K H a i) (h : Q (.bl true) H) : rIsX K [.ref a, .ty "ValueError"] H Q := by
  obtain ⟨x, d, hx, ha, hd⟩ := he
  exact ⟨a, _, d, _, .type "ValueError", _, rfl, ha, T.xc i hx, fun u r => r, hd, T.kitV i hx, h⟩
theorem dp_bools {H : Hp} : ∀ bs : List Bool, DpAll K H (bs.map V.bl) (bs.map PyData.bool)
  | [] => .nil
  | b :: bs => .cons (.bl b) (dp_bools bs)
theorem ne_flags {H : Hp} {Q : VK} {a b : Addr} {i : Nat} (ha : H a = some (.lst ((List.range 32).map fun j => V.bl (decide (i = j))))) (hb : H b = some (.lst ((List.range 32).map fun j => V.bl (decide (i = j))))) (q : Q (.bl false) H) : Rd.rNeA K (.ref a) (.ref b) H Q := by
  have e : ((List.range 32).map fun j => V.bl (decide (i = j))) = ((List.range 32).map fun j => decide (i = j)).map V.bl := by rw [List.map_map]; rfl
  rw [e] at ha hb
  have hs : SeqAt.shaped (.list (((List.range 32).map fun j => decide (i = j)).map PyData.bool)) = true := rfl
  exact .inr (.inl ⟨_, _, .lst (.of ha) (dp_bools _), .lst (.of hb) (dp_bools _), hs, hs, by rw [SeqAt.eqv_refl _ (SeqAt.canLay_of_shaped hs)]; exact q⟩)
theorem ok_law (T : Tx P K mg) (f_bag : Df P w K mg base 1 "_law_bag" (spBag K)) (f_pick : Df P w K mg base 1 "_law_pick" spPick) (f_some : Df P w K mg base 2 "_law_some" (spSome K)) (f_told : Df P w K mg base 3 "_law_told" (spTold K)) (f_plain : Df P w K mg base 1 "_law_plain" (spPlain K)) (f_flags : Df P w K mg base 1 "_law_flags" (spFlags K))
    {f : Addr} {fd : FuncData} (F : FD K "law" s_law f fd) : Fn P w K mg base 4 f fd ["script"] (spLaw K) := by
  refine fn_body F sc_law (fun vs H Q E h => ?_) (fun cv A outer s H vs Q E hr gd h => ?_)
  · obtain ⟨a, ns, rfl, _⟩ := h
    rfl
  · obtain ⟨a, ns, rfl, hl, hS, k⟩ := h
    refine ⟨_, (pss_cons (ps_set (i := 1) sc_law.nd rfl (Or.inl rfl) (pe_df f_bag hr (by decide) gd rfl (fun σ => Gl.no_pass σ) (pa_cons (pv 0) pa_nil)))
    (pss_cons (ps_set (i := 2) sc_law.nd rfl (Or.inl rfl) (pe_df f_some hr (by decide) gd rfl (fun σ => Gl.no_pass σ) (pa_cons (pv 1) (pa_cons (pe_lst (pa_cons pe_int (pa_cons (pe_df f_pick hr (by decide) gd rfl (fun σ => Gl.no_pass σ) (pa_cons (pv 1) (pa_cons (pe_op op_pow pe_int pe_int) pa_nil))) (pa_cons (pe_un un_neg pe_int) (pa_cons pe_non (pa_cons pe_bl (pa_cons pe_str (pa_cons (pe_tup (pa_cons pe_str (pa_cons pe_int pa_nil))) (pa_cons (pe_lst (pa_cons pe_int pa_nil)) (pa_cons pe_dnewK pa_nil)))))))))) pa_nil))))
    (pss_cons (ps_asg (pe_df f_told hr (by decide) gd rfl (fun σ => Gl.no_pass σ) (pa_cons (pv 2) pa_nil)) (pg_tup rfl (pgs_cons (pg_name (i := 3) sc_law.nd rfl (Or.inl rfl)) (pgs_cons (pg_name (i := 4) sc_law.nd rfl (Or.inl rfl)) pgs_nil))))
    (pss_cons (ps_set (i := 5) sc_law.nd rfl (Or.inl rfl) (pe_op op_cat (pe_df0 f_plain hr (by decide) gd rfl (fun σ => Gl.no_pass σ)) (pv 3)))
    (pss_cons (ps_for (passes_of rfl) rfl (pi_enum rfl T.enumerate (pa_cons (pv 5) pa_nil)) (pg_tup rfl (pgs_cons (pg_name (i := 6) sc_law.nd rfl (Or.inr rfl)) (pgs_cons (pg_name (i := 7) sc_law.nd rfl (Or.inl rfl)) pgs_nil)))
      (pss_cons (ps_if (PW.pt (pw_or (pt_not (pt_val (pe_callB call_isX (by rfl) T.isinstance (by decide +kernel) (pa_cons (pv 7) (pa_cons (pe_glob (v := .ref _) rfl T.post rfl) pa_nil))))) (pw_or1 (pt_not (pt_val (pe_callB call_isX (by rfl) T.isinstance (by decide +kernel) (pa_cons (pv 7) (pa_cons (pe_bltn (v := .ty "ValueError") (by rfl) T.ValueError (by decide +kernel) rfl) pa_nil)))))))) (pss_one (ps_ret pe_bl)) pss_nil)
    (pss_one (ps_if (pt_cmpR (Rd.op_neA hr) (pe_df f_flags hr (by decide) gd rfl (fun σ => Gl.no_pass σ) (pa_cons (pv 7) pa_nil)) (pe_lc (own := [("other", 8)]) (g := gName 8) (by rfl) sc_law.nd (pi_range1 rfl T.range (pa_cons (pe_callB Rd.cr_len (by rfl) T.len (by decide +kernel) (pa_cons (pv 5) pa_nil)) pa_nil)) (blkOk_by (own := [("other", 8)]) (N := N_law) (sc := defScope s_law) (by decide +kernel)) (fun _ _ _ _ _ => pg_name (i := 8) sc_law.nd rfl (Or.inl rfl)) (fun _ _ _ _ _ => pts_nil) (fun _ _ _ _ _ => (pe_cmpR op_eq (pv 6) (pv 8) (nomark _)))) (nomark _)) (pss_one (ps_ret pe_bl)) pss_nil))))
    (pss_cons (ps_for (passes_of rfl) rfl (pi_list (pv 4)) (pg_name (i := 9) sc_law.nd rfl (Or.inl rfl))
      (pss_one (ps_if (PW.pt (pw_or (pt_cmpR op_ne (pe_callB call_isi (by rfl) T.isinstance (by decide +kernel) (pa_cons (pv 9) (pa_cons (pe_bltn (v := .ty "bool") (by rfl) T.bool (by decide +kernel) rfl) pa_nil))) (pe_callB call_isi (by rfl) T.isinstance (by decide +kernel) (pa_cons (pv 2) (pa_cons (pe_bltn (v := .ty "bool") (by rfl) T.bool (by decide +kernel) rfl) pa_nil))) (nomark _)) (pw_or1 (pt_cmpR (Rd.op_neA hr) (pv 9) (pv 2) (nomark _))))) (pss_one (ps_ret pe_bl)) pss_nil)))
    (pss_one (ps_ret (pe_cmpR op_eq (pe_callB Rd.cr_len (by rfl) T.len (by decide +kernel) (pa_cons (pv 5) pa_nil)) pe_int (nomark _)))))))))), ?_⟩
    repeat walk_at "rd1"
    refine ⟨a, ns, rfl, hS, hl, fun p g H1 B1 s1 => ?_⟩
    repeat walk_at "rd1"
    refine ⟨p, g, _, rfl, B1, by decide, by decide, fun r H2 r0 r1 B2 o2 => ?_⟩
    repeat walk_at "rd1"
    rename_i t ht l hl2
    intro d hd
    repeat walk_at "rd1"
    rename_i m hm
    refine ⟨p, g, m, _, rfl, B2.same (fun b u hb => by walk_at "hp"), .of upd_same, ((B2.same (fun b u hb => by walk_at "hp")).off hm).1, ((B2.same (fun b u hb => by walk_at "hp")).off hm).2, by simp, by simp, fun x H3 hx B3 o3 => ?_⟩
    have ot := B2.off ht
    have ol := (B2.same (fun b u hb => by walk_at "hp")).off hl2
    have od := (B2.same (fun b u hb => by walk_at "hp")).off hd
    have hx3 : Th H3 x := by
      simp only [List.mem_cons, List.not_mem_nil, or_false] at hx
      rcases hx with rfl | rfl | rfl | rfl | rfl | rfl | rfl | rfl | rfl
      · exact .int _
      · exact .int _
      · exact .int _
      · exact .non
      · exact .bl _
      · exact .str
      · exact .tup 3 (by rw [o3 _ ot.1 ot.2]; walk_at "hp")
      · exact .lst 1 (by rw [o3 _ ol.1 ol.2]; walk_at "hp")
      · exact .dct (by rw [o3 _ od.1 od.2]; walk_at "hp")
    clear hx o3 B3 ot ol od
    clear hm hd hl2 ht
    repeat walk_at "rd1"
    refine ⟨x, rfl, fun tt pe q H4 es S4 ht4 hp4 hl4 he4 hq4 => ?_⟩
    repeat walk_at "rd1"
    refine ⟨rfl, fun p5 H5 es5 S5 h5 l5 e5 => ?_⟩
    repeat walk_at "rd1"
    refine Rd.cat h5 (S5 _ _ hp4) (Rd.szl2 (by rw [l5, hl4]; decide)) (fun r6 hr6 => ?_)
    repeat walk_at "rd1"
    have hL : (es5 ++ es).length = 32 := by rw [List.length_append, l5, hl4]
    have s6 := Rd.same_new (o := .lst (es5 ++ es)) hr6
    have eL : ErL K (upd H5 r6 (.lst (es5 ++ es))) 0 (es5 ++ es) := .app (e5.same s6) (by rw [l5]; exact (he4.same S5).same s6)
    have h6 : upd H5 r6 (.lst (es5 ++ es)) r6 = some (.lst (es5 ++ es)) := upd_same
    have x6 := ((hx3.same S4).same S5).same s6
    have q6 := s6 _ _ (S5 _ _ hq4)
    revert eL h6 x6 q6
    generalize upd H5 r6 (.lst (es5 ++ es)) = H6
    generalize es5 ++ es = L at hL
    intro eL h6 x6 q6
    refine ⟨_, rfl, r6, L, rfl, .of h6, for_it walk_enum (fun i σ' H' => ∃ u6 u7 : Option V, σ' = [some (.ref a), some (.ref p), some x, some (.ref pe), some (.ref q), some (.ref r6), u6, u7, none, none] ∧ Same H6 H')
      ⟨none, none, rfl, Same.refl _⟩ (fun i σ' H' _ hp => hp.elim fun _ hp => hp.elim fun _ hp => .of (hp.2 _ _ h6)) (fun i y σ' H' H'' hi hp hy => ?_) (fun σ' H' hp => ?_)⟩
    · obtain ⟨u6, u7, rfl, sm⟩ := hp
      obtain ⟨T', x1, y, rfl, hT', rfl, e1, hy⟩ := hy
      cases e1
      obtain ⟨ea, rfl, he⟩ := eL.get hy
      rw [Nat.zero_add] at he
      repeat walk_at "rd1"
      have sm2 := sm.trans (Rd.same_new (o := .tup [.int (i : Nat), .ref ea]) hT')
      refine isxP T (he.same sm2) ?_
      repeat walk_at "rd1"
      refine isxV T (he.same sm2) ?_
      repeat walk_at "rd1"
      refine ⟨ea, i, rfl, he.same sm2, fun pf H8 s8 hf => ?_⟩
      have sm3 := sm2.trans s8
      refine Rd.lcR (n := 32) (fun j => .bl (decide (i = j))) (by decide) (fun R hR => ?_) (fun j hj H9 S F s9 hS9 => ?_) (fun D hD => ?_)
      · repeat walk_at "rd1"
        refine Rd.lenL (.of (sm3 _ _ h6)) ?_
        rw [hL]
        exact hR
      · refine Rd.gname ⟨rfl, ?_⟩
        repeat walk_at "rd1"
        rw [show decide ((i : Int) = (j : Int)) = decide (i = j) from decide_eq_decide.mpr Int.ofNat_inj]
        exact hS9
      · refine ne_flags (Rd.same_new hD _ _ hf) upd_same ?_
        repeat walk_at "rd1"
        exact ⟨_, _, rfl, sm3.trans (Rd.same_new hD)⟩
    · obtain ⟨u6, u7, rfl, sm⟩ := hp
      repeat walk_at "rd1"
      refine ⟨_, rfl, q, rfl, ⟨_, .of (sm _ _ q6)⟩, for_it (walk_list (xs := [x, x, x, x, x, x, x, x, x, x, x])) (fun i σ' H' => ∃ u9 : Option V, σ' = [some (.ref a), some (.ref p), some x, some (.ref pe), some (.ref q), some (.ref r6), u6, u7, none, u9] ∧ Same H6 H')
        ⟨none, rfl, sm⟩ (fun i σ' H' _ hp => hp.elim fun _ hp => .of (hp.2 _ _ q6)) (fun i y σ' H' H'' hi hp hy => ?_) (fun σ' H' hp => ?_)⟩
      · obtain ⟨u9, rfl, sm⟩ := hp
        obtain ⟨rfl, hy⟩ := hy
        have : y = x := by
          have := List.mem_of_getElem? hy
          simpa using this
        subst this
        have x7 := x6.same sm
        obtain ⟨tv, b, tx, kb⟩ := x7.bool (K := K)
        repeat walk_at "rd1"
        refine ⟨y, .ty "bool", tv, .type "bool", b, rfl, .ty "bool", tx, kb, ?_⟩
        repeat walk_at "rd1"
        refine ⟨y, .ty "bool", tv, .type "bool", b, rfl, .ty "bool", tx, kb, ?_⟩
        refine Rd.neB ?_
        repeat walk_at "rd1"
        refine Rd.iteND (fun c => absurd rfl c) (fun _ => ?_)
        repeat walk_at "rd1"
        refine x7.ne ?_
        repeat walk_at "rd1"
        exact ⟨_, rfl, sm⟩
      · obtain ⟨u9, rfl, sm⟩ := hp
        repeat walk_at "rd1"
        refine Rd.lenL (.of (sm _ _ h6)) ?_
        rw [hL]
        repeat walk_at "rd1"
        exact k _
end
end Law
namespace Law
open PySem PySem.Spec PyProof.Rows L2 Gl
abbrev PP : Program := PySem.Challenge.pw_veilpost_k00_errors_and_their_fields
def bn : List (Str × Str) := (cn.drop 21).zip fn
def ms : List (Str × Str × Stmt) := [("BadTerm", "BadTerm.__init__", inClass (top 2) 0), ("TooLong", "TooLong.__init__", inClass (top 3) 0), ("BadTree", "BadTree.__init__", inClass (top 10) 0), ("BadWorld", "BadWorld.__init__", inClass (top 28) 0), ("BadWish", "BadWish.__init__", inClass (top 29) 0), ("BadRule", "BadRule.__init__", inClass (top 18) 0), ("TooMany", "TooMany.__init__", inClass (top 21) 0), ("BadImage", "BadImage.__init__", inClass (top 24) 0), ("Unsound", "Unsound.__init__", inClass (top 25) 0), ("BadLine", "BadLine.__init__", inClass (top 26) 0), ("BadRows", "BadRows.__init__", inClass (top 27) 0)]
def frees : List Str := ["len", "int", "abs", "isinstance", "range", "enumerate", "bool", "ValueError", "super"]
def dd (x : Str) (s : Stmt) : He.DefD := ⟨(x, none), x, x, defArgs s, defBody s, defScope s, [], []⟩
def fns : List He.DefD := [dd "_law_bag" s__law_bag, dd "_law_pick" s__law_pick, dd "_law_some" s__law_some, dd "_law_plain" s__law_plain, dd "_law_told" s__law_told, dd "_law_flags" s__law_flags, dd "law" s_law]
def fas : List He.Fa := [.glo "_law_bag", .glo "_law_pick", .glo "_law_some", .glo "_law_plain", .glo "_law_told", .glo "_law_flags", .glo "law"]
def xcB (K : PySem.W.Frag) (C : Addr) : Bool := decide (PySem.W.findIn K (.ref C) "__class__" = some (some (.builtin "object.__class__"))) && (decide (PySem.W.specialIn K (.builtin "object.__class__") "__get__" = some (some (.builtin "getset_descriptor.__get__"))) &&
  (decide (PySem.W.takesIn K (.builtin "object.__class__") = some true) && decide (PySem.W.mroIn K C (.type "object") = some true)))
def one (K : PySem.W.Frag) (x : Str) : Bool := (He.Fa.glo x).ok K && ((He.Fa.keep x).ok K && (xfB K (He.ga K x) && (xcB K (He.ga K x) && (decide (PySem.W.kitOne K (.ref (He.ga K x)) (.ref (He.ga K "PostError")) = some true) && decide (PySem.W.kitOne K (.ref (He.ga K x)) (.type "ValueError") = some true)))))
def kits (K : PySem.W.Frag) : Bool := (List.range 32).all fun i => (List.range 32).all fun j => decide (PySem.W.kitOne K (.ref (He.ga K (cn.getD i Str.empty))) (.ref (He.ga K (cn.getD j Str.empty))) = some (decide (i = j)))
def exK (K : PySem.W.Frag) : Bool := frees.all (fun x => (He.Fa.free x).ok K) && ((He.Fa.glo "PostError").ok K && (cn.all (one K) && ((cn.take 21).all (fun x => (He.Fa.exc x).ok K) && (bn.all (fun p => Ex.badB PP.main.file K (He.ga K p.1) p.2) && kits K))))
def obM (K : PySem.W.Frag) : List Ex.FnM := ms.map fun m => Ex.obsM K m.1
def vaM : List Ex.FnM := ms.map fun m => Ex.valM m.2.1 m.2.2
def KK (g : Addr → Option Obj) : PySem.W.Frag := He.frG g (cStatics :: He.asD g 5)
abbrev AlM : Type := He.AlD × Bool × List Ex.FnM
def obK (K : PySem.W.Frag) : AlM := (He.obsD fas fns K, exK K, obM K)
def vaK : AlM := (He.valD fns, true, vaM)
def hk : PySem.W.Hook where
  α := AlM
  obs := fun s => obK (KK s.heap.get?)
  val := fun _ => vaK
  says := fun _ h => ∃ K : PySem.W.Frag, K.In h ∧ obK K = vaK
  of := fun _ _ e => ⟨_, He.frG_in, e⟩
  keeps := fun _ _ _ ⟨K, hK, c⟩ k => ⟨K, PySem.W.Frag.In.keeps hK k, c⟩
abbrev R : PySem.W.OpenRow := PySem.W.OpenLaw.row PySem.Challenge.rw_veilpost_k00_errors_and_their_fields
def ob (s : PySem.W.SharedT) : AlM := obK (KK (HandSHeadRun.getT s))
theorem ob_eq (s : PySem.W.SharedT) : ob s = hk.obs s.abs := by
  have e : HandSHeadRun.getT s = s.abs.heap.get? := funext (HandSHeadRun.getT_eq s)
  unfold ob
  rw [e] <;> rfl
def names : List PySem.Str := (["PostError", "BadTerm", "TooLong", "NoKind", "NoParts", "NoTerm", "NoTerms", "NoBag", "NoBags", "BadTree", "NoLeaf", "NoNode", "NoName", "NoLock", "Named", "TreeFull", "NoLocks", "BadRule", "NoLot", "NoFact"] : List PySem.Str) ++ (["TooMany", "NoTheft", "NoEpoch", "BadImage", "Unsound", "BadLine", "BadRows", "BadWorld", "BadWish", "NoRoom", "NoLetter", "NoWords", "Unknown", "_law_bag", "_law_pick", "_law_some", "_law_plain", "_law_told", "_law_flags"] : List PySem.Str)
theorem run (w : World) : HandSHeadRun.RunEq R (PySem.W.view R.prog [41]) hk ob 9000 names w := by
  intro os
  kernel_rfl
end Law
namespace Law
open PySem PySem.Spec PyProof.Rows L2 Gl
theorem bad1 {K : PySem.W.Frag} {i : Nat} {x f q : Str} {st : Stmt} (c : exK K = true ∧ obM K = vaM) (hx : cn[i]? = some x) (hf : fn[i - 21]? = some f) (hm : ms[i - 21]? = some (x, q, st)) {p1 p2 q0 q1 q2 q3 q4 q5 q6 q7 q8 q9 : Pos}
    (ha : defArgs st = Ex.iA f p1 p2) (hb : defBody st = Ex.iB f q0 q1 q2 q3 q4 q5 q6 q7 q8 q9) (hs : defScope st = Ex.iS f)
    (f1 : (f == ("self" : Str)) = false) (f2 : (f == ("__class__" : Str)) = false) (f3 : (f == ("super" : Str)) = false) (f4 : (f == ("__debug__" : Str)) = false)
    (hmc : ∀ env : Env, ∃ pl : Sem Bool, eval (.Call (.Attribute (.Call (.Name "super" q0) [] [] q1) "__init__" q2) [.Name f q3] [] q4) env = (do
      let ov ← attributeBase (.Call (.Name "super" q0) [] [] q1) "__init__" env (eval (.Call (.Name "super" q0) [] [] q1) env)
      standAt q2.atName
      let (m, first) ← holding [ov] (getMethod ov "__init__" pl)
      callWith q4 m first (backTo q4 (starEach [.Name f q3] env)) []))
    (hbind : ∀ (kV doc pm ct cdv : Value) (an : Option Addr) (cc : Addr) (s : Shared) (x v : Value), BindsTo s (PySem.W.ksFn "__init__" q (Ex.iA f p1 p2) (Ex.iB f q0 q1 q2 q3 q4 q5 q6 q7 q8 q9) (Ex.iS f) .none kV doc pm an cdv ct cc) ⟨[x, v], []⟩ [("self", x), (f, v)])
    (hbn : (x, f) ∈ bn) : Ex.BadC PP K (He.ga K x) f := by
  obtain ⟨e, o⟩ := c
  obtain ⟨_, e⟩ := Ex.ba e
  obtain ⟨_, e⟩ := Ex.ba e
  obtain ⟨_, e⟩ := Ex.ba e
  obtain ⟨_, e⟩ := Ex.ba e
  obtain ⟨e, _⟩ := Ex.ba e
  have h1 := List.all_eq_true.mp e (x, f) hbn
  have h2 : Ex.obsM K x = Ex.valM q st := by
    have z : (obM K)[i - 21]? = vaM[i - 21]? := by rw [o]
    unfold obM vaM at z
    rw [List.getElem?_map, List.getElem?_map, hm] at z
    exact Option.some.inj z
  exact Ex.badC_of h1 h2 ha hb hs (by kernel_rfl) f1 f2 f3 f4 hmc hbind
theorem bad_all {K : PySem.W.Frag} (c : exK K = true ∧ obM K = vaM) (i : Nat) {x f : Str} (hx : cn[i]? = some x) (hi : 21 ≤ i) (hf : fn[i - 21]? = some f) : Ex.BadC PP K (He.ga K x) f :=
  match i, hi, hx, hf with
  | 21, _, hx, hf => by
    cases hx
    cases hf
    exact bad1 (i := 21) (q := "BadTerm.__init__") (st := inClass (top 2) 0) c rfl rfl rfl rfl rfl rfl rfl rfl rfl rfl (fun env => ⟨_, rfl⟩) (fun kV doc pm ct cdv an cc s x v => .of_eq rfl) (List.mem_of_getElem? (i := 0) rfl)
  | 22, _, hx, hf => by
    cases hx
    cases hf
    exact bad1 (i := 22) (q := "TooLong.__init__") (st := inClass (top 3) 0) c rfl rfl rfl rfl rfl rfl rfl rfl rfl rfl (fun env => ⟨_, rfl⟩) (fun kV doc pm ct cdv an cc s x v => .of_eq rfl) (List.mem_of_getElem? (i := 1) rfl)
  | 23, _, hx, hf => by
    cases hx
    cases hf
    exact bad1 (i := 23) (q := "BadTree.__init__") (st := inClass (top 10) 0) c rfl rfl rfl rfl rfl rfl rfl rfl rfl rfl (fun env => ⟨_, rfl⟩) (fun kV doc pm ct cdv an cc s x v => .of_eq rfl) (List.mem_of_getElem? (i := 2) rfl)
  | 24, _, hx, hf => by
    cases hx
    cases hf
    exact bad1 (i := 24) (q := "BadWorld.__init__") (st := inClass (top 28) 0) c rfl rfl rfl rfl rfl rfl rfl rfl rfl rfl (fun env => ⟨_, rfl⟩) (fun kV doc pm ct cdv an cc s x v => .of_eq rfl) (List.mem_of_getElem? (i := 3) rfl)
  | 25, _, hx, hf => by
    cases hx
    cases hf
    exact bad1 (i := 25) (q := "BadWish.__init__") (st := inClass (top 29) 0) c rfl rfl rfl rfl rfl rfl rfl rfl rfl rfl (fun env => ⟨_, rfl⟩) (fun kV doc pm ct cdv an cc s x v => .of_eq rfl) (List.mem_of_getElem? (i := 4) rfl)
  | 26, _, hx, hf => by
    cases hx
    cases hf
    exact bad1 (i := 26) (q := "BadRule.__init__") (st := inClass (top 18) 0) c rfl rfl rfl rfl rfl rfl rfl rfl rfl rfl (fun env => ⟨_, rfl⟩) (fun kV doc pm ct cdv an cc s x v => .of_eq rfl) (List.mem_of_getElem? (i := 5) rfl)
  | 27, _, hx, hf => by
    cases hx
    cases hf
    exact bad1 (i := 27) (q := "TooMany.__init__") (st := inClass (top 21) 0) c rfl rfl rfl rfl rfl rfl rfl rfl rfl rfl (fun env => ⟨_, rfl⟩) (fun kV doc pm ct cdv an cc s x v => .of_eq rfl) (List.mem_of_getElem? (i := 6) rfl)
  | 28, _, hx, hf => by
    cases hx
    cases hf
    exact bad1 (i := 28) (q := "BadImage.__init__") (st := inClass (top 24) 0) c rfl rfl rfl rfl rfl rfl rfl rfl rfl rfl (fun env => ⟨_, rfl⟩) (fun kV doc pm ct cdv an cc s x v => .of_eq rfl) (List.mem_of_getElem? (i := 7) rfl)
  | 29, _, hx, hf => by
    cases hx
    cases hf
    exact bad1 (i := 29) (q := "Unsound.__init__") (st := inClass (top 25) 0) c rfl rfl rfl rfl rfl rfl rfl rfl rfl rfl (fun env => ⟨_, rfl⟩) (fun kV doc pm ct cdv an cc s x v => .of_eq rfl) (List.mem_of_getElem? (i := 8) rfl)
  | 30, _, hx, hf => by
    cases hx
    cases hf
    exact bad1 (i := 30) (q := "BadLine.__init__") (st := inClass (top 26) 0) c rfl rfl rfl rfl rfl rfl rfl rfl rfl rfl (fun env => ⟨_, rfl⟩) (fun kV doc pm ct cdv an cc s x v => .of_eq rfl) (List.mem_of_getElem? (i := 9) rfl)
  | 31, _, hx, hf => by
    cases hx
    cases hf
    exact bad1 (i := 31) (q := "BadRows.__init__") (st := inClass (top 27) 0) c rfl rfl rfl rfl rfl rfl rfl rfl rfl rfl (fun env => ⟨_, rfl⟩) (fun kV doc pm ct cdv an cc s x v => .of_eq rfl) (List.mem_of_getElem? (i := 10) rfl)
  | n + 32, _, hx, _ => by cases hx
theorem tx {K : PySem.W.Frag} {h : Heap} {mg : Str → Option Value} (X : K.In h) (G : h.Ns mainGlobals mg) (c : exK K = true ∧ obM K = vaM) : Tx PP K mg := by
  have cc := c.1
  unfold exK at cc
  obtain ⟨e1, cc⟩ := Ex.ba cc
  obtain ⟨e2, cc⟩ := Ex.ba cc
  obtain ⟨e3, cc⟩ := Ex.ba cc
  obtain ⟨e4, cc⟩ := Ex.ba cc
  obtain ⟨e5, e6⟩ := Ex.ba cc
  have fr : ∀ (i : Nat) {x : Str}, frees[i]? = some x → mg x = none := fun i x hx => He.free_ok X G (List.all_eq_true.mp e1 x (List.mem_of_getElem? hx))
  have on : ∀ (i : Nat) {x : Str}, cn[i]? = some x → one K x = true := fun i x hx => List.all_eq_true.mp e3 x (List.mem_of_getElem? hx)
  refine ⟨fr 0 rfl, fr 1 rfl, fr 2 rfl, fr 3 rfl, fr 4 rfl, fr 5 rfl, fr 6 rfl, fr 7 rfl, fr 8 rfl, fun i x hx => ?_, fun i x hx => ?_, fun i x hx hi => ?_, fun i x f hx hi hf => bad_all c i hx hi hf, fun i x hx => ?_, fun i x hx => ?_, fun i j x y hx hy => ?_, He.glo_ok X G e2, fun i x hx => ?_, fun i x hx => ?_⟩
  · obtain ⟨a1, a⟩ := Ex.ba (on i hx)
    exact He.glo_ok X G a1
  · obtain ⟨a1, a⟩ := Ex.ba (on i hx)
    obtain ⟨a2, a⟩ := Ex.ba a
    exact He.keep_ok a2
  · have hm : x ∈ cn.take 21 := List.mem_of_getElem? (i := i) (by rw [List.getElem?_take_of_lt hi]; exact hx)
    exact (He.exc_ok (List.all_eq_true.mp e4 x hm)).1
  · obtain ⟨a1, a⟩ := Ex.ba (on i hx)
    obtain ⟨a2, a⟩ := Ex.ba a
    obtain ⟨a3, a⟩ := Ex.ba a
    exact xfB_ok a3
  · obtain ⟨a1, a⟩ := Ex.ba (on i hx)
    obtain ⟨a2, a⟩ := Ex.ba a
    obtain ⟨a3, a⟩ := Ex.ba a
    obtain ⟨a4, a⟩ := Ex.ba a
    have xf := xfB_ok a3
    obtain ⟨b1, b⟩ := Ex.ba a4
    obtain ⟨b2, b⟩ := Ex.ba b
    obtain ⟨b3, b4⟩ := Ex.ba b
    exact ⟨xf.ga, xf.gg, xf.exC, xf.hdC, of_decide_eq_true b1, of_decide_eq_true b2, of_decide_eq_true b3, of_decide_eq_true b4⟩
  · have hi : i < 32 := (List.getElem?_eq_some_iff.mp hx).1
    have hj : j < 32 := (List.getElem?_eq_some_iff.mp hy).1
    have z := of_decide_eq_true (List.all_eq_true.mp (List.all_eq_true.mp e6 i (List.mem_range.mpr hi)) j (List.mem_range.mpr hj))
    rw [List.getD_eq_getElem?_getD, List.getD_eq_getElem?_getD, hx, hy] at z
    exact z
  · obtain ⟨a1, a⟩ := Ex.ba (on i hx)
    obtain ⟨a2, a⟩ := Ex.ba a
    obtain ⟨a3, a⟩ := Ex.ba a
    obtain ⟨a4, a⟩ := Ex.ba a
    obtain ⟨a5, a6⟩ := Ex.ba a
    exact of_decide_eq_true a5
  · obtain ⟨a1, a⟩ := Ex.ba (on i hx)
    obtain ⟨a2, a⟩ := Ex.ba a
    obtain ⟨a3, a⟩ := Ex.ba a
    obtain ⟨a4, a⟩ := Ex.ba a
    obtain ⟨a5, a6⟩ := Ex.ba a
    exact of_decide_eq_true a6
/-- a def that stands may be called by its name -/
theorem df_of {P : Program} {w : World} {K : PySem.W.Frag} {mg : Str → Option Value} {base : Heap} {x : Str} {st : Stmt} {f : Addr} {fd : FuncData} {k : Nat} {ps : List Str} {sp : Sp} (F : FD K x st f fd) (hm : mg x = some (.ref f)) (G : Fn P w K mg base k f fd ps sp) (hb : ∀ (s : Shared) (us : List Value), us.length = ps.length → BindsTo s fd ⟨us, []⟩ (ps.zip us)) : Df P w K mg base k x sp :=
  ⟨f, fd, ps, G, hm, F.kp, fun s us _ hl => by rw [List.append_nil] at hl ⊢; exact hb s us hl⟩
theorem facts {w : World} {K : PySem.W.Frag} {h : Heap} {mg : Str → Option Value} {f : Addr} (X : K.In h) (G : h.Ns mainGlobals mg) (hfa : mg ("law" : Str) = some (.ref f)) (c : obK K = vaK) :
    ∃ fd : FuncData, (∀ (s : Shared) (v : Value), BindsTo s fd ⟨[v], []⟩ [("script", v)]) ∧ ∀ base : Heap, K.In base → base.Ns mainGlobals mg → Fn PP w K mg base 4 f fd ["script"] (spLaw K) := by
  have c0 : He.SaysD fas fns K := congrArg (fun z : AlM => z.1) c
  have T : Tx PP K mg := tx X G ⟨congrArg (fun z : AlM => z.2.1) c, congrArg (fun z : AlM => z.2.2) c⟩
  obtain ⟨fd0, F0⟩ := c0.def_ 0 (d := dd "_law_bag" s__law_bag) rfl
  have F0 : FD K "_law_bag" s__law_bag (He.ga K "_law_bag") fd0 := F0
  obtain ⟨fd1, F1⟩ := c0.def_ 1 (d := dd "_law_pick" s__law_pick) rfl
  have F1 : FD K "_law_pick" s__law_pick (He.ga K "_law_pick") fd1 := F1
  obtain ⟨fd2, F2⟩ := c0.def_ 2 (d := dd "_law_some" s__law_some) rfl
  have F2 : FD K "_law_some" s__law_some (He.ga K "_law_some") fd2 := F2
  obtain ⟨fd3, F3⟩ := c0.def_ 3 (d := dd "_law_plain" s__law_plain) rfl
  have F3 : FD K "_law_plain" s__law_plain (He.ga K "_law_plain") fd3 := F3
  obtain ⟨fd4, F4⟩ := c0.def_ 4 (d := dd "_law_told" s__law_told) rfl
  have F4 : FD K "_law_told" s__law_told (He.ga K "_law_told") fd4 := F4
  obtain ⟨fd5, F5⟩ := c0.def_ 5 (d := dd "_law_flags" s__law_flags) rfl
  have F5 : FD K "_law_flags" s__law_flags (He.ga K "_law_flags") fd5 := F5
  obtain ⟨fd, F⟩ := c0.def_ 6 (d := dd "law" s_law) rfl
  have F : FD K "law" s_law (He.ga K "law") fd := F
  have e := hfa.symm.trans (He.glo_ok X G (c0.fact 6 (f := .glo "law") rfl))
  cases e
  have b0 := FunD.bindsA (ps := ["script"]) F0 fun _ _ _ _ _ _ us hl => match us, hl with | [_], _ => rfl
  have b1 := FunD.bindsA (ps := ["bag", "many"]) F1 fun _ _ _ _ _ _ us hl => match us, hl with | [_, _], _ => rfl
  have b2 := FunD.bindsA (ps := ["bag", "things"]) F2 fun _ _ _ _ _ _ us hl => match us, hl with | [_, _], _ => rfl
  have b3 := FunD.bindsA (ps := []) F3 fun _ _ _ _ _ _ us hl => match us, hl with | [], _ => rfl
  have b4 := FunD.bindsA (ps := ["thing"]) F4 fun _ _ _ _ _ _ us hl => match us, hl with | [_], _ => rfl
  have b5 := FunD.bindsA (ps := ["e"]) F5 fun _ _ _ _ _ _ us hl => match us, hl with | [_], _ => rfl
  have b := FunD.bindsA (ps := ["script"]) F fun _ _ _ _ _ _ us hl => match us, hl with | [_], _ => rfl
  refine ⟨fd, fun s v => b s [v] rfl, fun base _ _ => ?_⟩
  have p := df_of F1 (He.glo_ok X G (c0.fact 1 (f := .glo "_law_pick") rfl)) (ok_pick (w := w) (base := base) T F1) b1
  exact ok_law T (df_of F0 (He.glo_ok X G (c0.fact 0 (f := .glo "_law_bag") rfl)) (ok_bag T F0) b0) p
    (df_of F2 (He.glo_ok X G (c0.fact 2 (f := .glo "_law_some") rfl)) (ok_some T p F2) b2)
    (df_of F4 (He.glo_ok X G (c0.fact 4 (f := .glo "_law_told") rfl)) (ok_told T F4) b4)
    (df_of F3 (He.glo_ok X G (c0.fact 3 (f := .glo "_law_plain") rfl)) (ok_plain T F3) b3)
    (df_of F5 (He.glo_ok X G (c0.fact 5 (f := .glo "_law_flags") rfl)) (ok_flags T F5) b5) F
end Law
open PySem PySem.W PySem.Calls PyProof.Rows
theorem PySem.Challenge.cw_veilpost_k00_errors_and_their_fields_holds : PySem.Challenge.rw_veilpost_k00_errors_and_their_fields.Holds := by
  w_on; o_law
  refine HandSHeadRun.head_any (r := Law.R) (q := view Law.R.prog [41]) (H := Law.hk) (ob := Law.ob) (M := 9000) (loose := Law.names) (d := HandSHeadRun.topDef Law.R.prog 41) (kwd := []) Law.ob_eq
    (by kernel_rfl) (fun s => by kernel_rfl) Law.run (by kernel_rfl) (by kernel_rfl) (by kernel_rfl) (by rfl) (by first | assumption | decide +kernel) (by decide +kernel) ⟨rfl, rfl, rfl, rfl, rfl, by decide +kernel⟩ ?hw ?hc
  case hw => w_witness2
  case hc =>
    refine Gl.law_end (l := PySem.Challenge.rw_veilpost_k00_errors_and_their_fields) (n := 63) (k := 4) (x := "script") rfl (by decide) (by kernel_rfl) ⟨rfl, by decide, by decide⟩ ?F
    intro w mg fa h Y G hmg0
    obtain ⟨K, KX, c⟩ := Y
    have hmg : mg ("law" : PySem.Str) = some (.ref fa) := by
      have e : (HandSHeadRun.topDef Law.R.prog 41).name = ("law" : PySem.Str) := by kernel_rfl
      rw [← e]
      exact hmg0
    obtain ⟨fd, hb, hF⟩ := Law.facts (w := w) KX G hmg c
    exact ⟨K, fd, Law.spLaw K, KX, hb, fun H a ns hl _ hS => ⟨a, ns, rfl, Nat.le_trans hl (by decide), hS, fun _ => rfl⟩, hF⟩
