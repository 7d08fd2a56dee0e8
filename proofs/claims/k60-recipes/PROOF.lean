import PyProof.Rows.All
import Wide.All
import OpenK.AllK
import Wide.FinOn
import HandS.Words
import HandS.WordsList
import HandS.WordsDict
import HandS.WordsExc
import HandS.Comp
import HandS.Codes
import HandS.Wide
import HandS.Iter
import HandS.TupAny
import HandS.IsInst
import HandS.Defaults
import HandS.HeadEnd
import KE.KExcSuper
import KE.KExcIs
import HandS.ExcInit
import HandS.ExcField
import HandS.ExcIs
import HandS.ExcValue
import HandS.HeadHook4
import HandS.DictComp
import HandS.Style
import PyProof.ReprRoads
import PyProof.CallFns
import HandS.Text
import HandS.TupMul
import HandS.Walk
import PyProof.StrOps2
import HandS.Small
import Lean
import HandS.Head0
import HandS.Head1
import HandS.Head2
import HandS.HeadHook1
import HandS.HeadHook2
import HandS.HeadHook3
import PySem.Challenge.RW_veilpost_k60_whole_recipes_judged
set_option Elab.async false
set_option maxRecDepth 100000
set_option maxHeartbeats 4000000
set_option linter.unusedVariables false
/-! Gl: promises of defs where it is known that no repr is under way around them. -/
namespace Gl
open PySem PySem.Spec PyProof.Rows L2

structure Fn (P : Program) (w : World) (K : PySem.W.Frag) (mg : Str → Option Value) (base : Heap) (k : Nat) (f : Addr) (fd : FuncData) (ps : List Str) (sp : Sp) : Prop where
  many : ∀ vs H Q E, sp vs H Q E → vs.length = ps.length
  go : ∀ (A : Around) (outer : List Env) (s : Shared) (H : Hp) (args : Args) (us : List Value) (vs : List V) (Q : VK) (E : XK),
    Room k A → A.guards = some [] → Env0 P w K mg base A outer s H → BindsTo s fd args (ps.zip us) → Vals vs us →
    sp vs H Q E → codeAny (model P w) A (.call (.ref f) args) (CR (L2.CX P w) outer P w H s Q E) s

section
variable {P : Program} {w : World} {K : PySem.W.Frag} {mg : Str → Option Value} {base : Heap}
theorem Fn.up {j k : Nat} {f : Addr} {fd : FuncData} {ps : List Str} {sp : Sp} (F : Fn P w K mg base j f fd ps sp) (h : j ≤ k) : Fn P w K mg base k f fd ps sp :=
  ⟨F.many, fun A outer s H args us vs Q E r g => F.go A outer s H args us vs Q E (r.mono h) g⟩

/-- a def by its body: what stands at f, and the reading of the body -/
theorem fn_body {x qual : Str} {pa : Arguments} {bd : List Stmt} {sc : Scope} {dvs : List V} {kws : List (Str × V)} {f : Addr} {fd : FuncData} {N ps : List Str} {k : Nat} {sp : Sp}
    (F : FunD K x qual pa bd sc dvs kws f fd) (S : FnScope N ps sc) (many : ∀ vs H Q E, sp vs H Q E → vs.length = ps.length)
    (body : ∀ (cv : Value) (A : Around) (outer : List Env) (s : Shared) (H : Hp) (vs : List V) (Q : VK) (E : XK),
      Room k (A.deeper (envOfC qual sc s.heap.objs.size f cv)) → A.guards = some [] → sp vs H Q E →
      ∃ t, PSs (cxOf (L2.CX P w) P w K mg base N qual sc f cv A outer s H E) bd t ∧ t ⟨fun _ H' => Q .non H', Q, fun _ _ => False, fun _ _ => False⟩ (L2.start N vs) H) :
    Fn P w K mg base (k + 1) f fd ps sp := by
  obtain ⟨oc, od, dV, kV, doc, pm, an, cv, ct, osl, rfl, at_f, code, _, _⟩ := F.ex
  refine ⟨many, fun A outer s H args us vs Q E room gd e0 binds rel pre => ?_⟩
  have KX : K.In s.heap := e0.mod.kin.keeps fun b o e => (e0.bs b o e).1
  have noLim : s.heap.NoLimit := e0.mod.nolimit.keeps fun b o e => (e0.bs b o e).1
  have par : ∀ y ∈ ps.zip us, sc.names.lookup y.1 = some .local ∨ (sc.names.lookup y.1 = some .cell ∧ ((cellsFrom (s.heap.objs.size + 1) sc.names []).lookup y.1).isSome = true) := by
    rintro ⟨n, v⟩ hy
    rcases S.par n (List.of_mem_zip hy).1 with q | q
    · exact Or.inl q
    · exact Or.inr ⟨q, PySem.W.cellsFrom_some _ _ _ (Or.inl q)⟩
  refine codeAny_call_function room.depth (KX _ _ at_f) rfl S.co S.gen rfl (PySem.W.codeRec_of KX code) (binds _ _ _ _ ?_)
  refine wpAny_newFunctionEnv_cells S.kind par fun env he s1 inCall => ?_
  subst he
  obtain ⟨t, der, rd⟩ := body cv A outer s H vs Q E (room.deeper _) gd pre
  have I := inv_start (CX := L2.CX P w) (qual := qual) (f := f) (cd := cv) (A := A) (E := E) S room.hd e0 (many _ _ _ _ pre) rel inCall
  refine ⟨noLim.keeps inCall.toInCall.keep, codeAny_func (wpAny_mono (der.run [] s1 (L2.start N vs) H _ I rd) (fun fl s' hs => ?_) fun e s' hs => hs)⟩
  cases fl with
  | ret u =>
    obtain ⟨v, σ', H', J, rv, q⟩ := hs
    exact ⟨v, H', J.os, J.bare, J.base, J.hok, rv, q⟩
  | next =>
    obtain ⟨σ', H', J, q⟩ := hs
    exact ⟨V.non, H', J.os, J.bare, J.base, J.hok, rfl, q⟩
  | brk => obtain ⟨_, _, _, q⟩ := hs; exact q.elim
  | cont => obtain ⟨_, _, _, q⟩ := hs; exact q.elim

/-- a def of the module that may be called by its name -/
structure Df (P : Program) (w : World) (K : PySem.W.Frag) (mg : Str → Option Value) (base : Heap) (k : Nat) (x : Str) (sp : Sp) : Prop where
  ex : ∃ (f : Addr) (fd : FuncData) (ps : List Str), Fn P w K mg base k f fd ps sp ∧ mg x = some (.ref f) ∧ PySem.W.keepIn K (.ref f) = true ∧ Binds K fd ps []
theorem Df.up {j k : Nat} {x : Str} {sp : Sp} (F : Df P w K mg base j x sp) (h : j ≤ k) : Df P w K mg base k x sp := by
  obtain ⟨f, fd, ps, a, b⟩ := F.ex
  exact ⟨f, fd, ps, a.up h, b⟩
end

/-! what of an exception is wished where: in a def's own body; in a try's body -/
theorem own_pass {X : Cx} {E : XK} (tk : Takes X (fun cls d _ H => E cls d H)) (σ : L2.St) : PassesAt (L2.CX X.prog X.w) X σ E := fun pins H s e s' I c =>
  tk e s' (XE.of_call I (fun _ _ _ h => h) c)
theorem no_pass {X : Cx} (σ : L2.St) : PassesAt (L2.CX X.prog X.w) X σ E0 := fun pins H s e s' I c => passL pins σ H s e s' I c

/-- f(..): E what is wished of an exception, by the slots -/
def tDf (sp : Sp) (E : L2.St → XK) (t : TA) : TE := fun σ H Q => t σ H fun vs H1 => sp vs H1 Q (E σ)
section
variable {X : Cx} {k j : Nat} {f C : Addr} {fd : FuncData} {ps : List Str} {sp : Sp} {E : L2.St → XK} {x m : Str} {p pos apos : Pos} {e o : Expr} {es : List Expr} {ta : TE} {t : TA}
theorem run_df {pins : List (Addr × Obj)} {σ : L2.St} {H : Hp} {s : Shared} {Q : VK} {us : List Value} {vs : List V} {E' : XK} (F : Fn X.prog X.w X.K X.mg X.base k f fd ps sp) (hr : Room k X.A) (hG : X.A.guards = some []) (hb : Binds X.K fd ps [])
    (hx : PassesAt (L2.CX X.prog X.w) X σ E') (I : Inv X pins σ H s) (r : Vals vs us) (h : sp vs H Q E') : wpAny (model X.prog X.w) X.A (call (.ref f) us) (EP X pins σ Q) X.xe s := by
  have len : (us ++ []).length = ps.length := by rw [List.append_nil, ← r.length]; exact F.many _ _ _ _ h
  have b := hb s us I.kIn len
  rw [List.append_nil] at b
  refine wpAny_call (codeAny_mono (F.go X.A X.stack s H ⟨us, []⟩ us vs Q E' hr hG I.env0 b r h) fun res s' hq => ?_)
  match res, hq with
  | .error err, hq => exact hx pins H s err s' I hq
  | .ok (.ret u), hq => exact I.after hq
theorem pe_df (F : Df X.prog X.w X.K X.mg X.base k x sp) (hr : Room j X.A) (hk : k ≤ j) (hG : X.A.guards = some []) (hg : Gl X x) (hx : ∀ σ, PassesAt (L2.CX X.prog X.w) X σ (E σ)) (ha : PA X (e :: es) t)
    (hd : (x == ("__debug__" : Str)) = false := by decide) (he : starEach (e :: es) X.env = (false, eval e X.env) :: starEach es X.env := by rfl) (hp : (backTo pos (starEach es X.env)).any (·.1) = false := by rfl) : PE X (.Call (.Name x p) (e :: es) [] pos) (tDf sp E t) := by
  obtain ⟨f, fd, ps, F, hm, kp, hb⟩ := F.ex
  refine ⟨fun pins s σ H Q I h => wpAny_Call_Name_kw (ld_glob I hg hm ?_ hd)⟩
  exact PySem.W.callWith_K (h₀ := X.base) I.ok.mod.kin kp (thn (ha.run pos pins s σ H _ I h) fun us s1 ⟨vs, H1, I1, r, q⟩ => ⟨I1.kIn, run_df F (hr.mono hk) hG hb (hx σ) I1 r q⟩) he hp
theorem pe_df0 (F : Df X.prog X.w X.K X.mg X.base k x sp) (hr : Room j X.A) (hk : k ≤ j) (hG : X.A.guards = some []) (hg : Gl X x) (hx : ∀ σ, PassesAt (L2.CX X.prog X.w) X σ (E σ))
    (hd : (x == ("__debug__" : Str)) = false := by decide) : PE X (.Call (.Name x p) [] [] pos) (tDf sp E tNil) := by
  obtain ⟨f, fd, ps, F, hm, kp, hb⟩ := F.ex
  refine ⟨fun pins s σ H Q I h => wpAny_Call_Name_kw (ld_glob I hg hm ?_ hd)⟩
  exact PySem.W.callWith_K0 I.kIn kp (run_df (us := []) F (hr.mono hk) hG hb (hx σ) I .nil h)
end

/-- the law's own call at its heap h: H tells of the script alone -/
theorem call_at {P : Program} {w : World} {K : PySem.W.Frag} {mg mb : Str → Option Value} {k : Nat} {f a : Addr} {fd : FuncData} {x : Str} {sp : Sp} {s : Shared} {us : List Value} {H : Hp}
    (KX : K.In s.heap) (glob : s.heap.Ns mainGlobals mg) (bl : s.heap.Ns builtinsNs mb) (boot : ∀ y : Str, y ≠ "__name__" → mb y = bootBuiltins y) (lim : s.heap.NoLimit) (gens : s.gens = #[])
    (at_a : s.heap.get? a = some { cls := .type "list", data := .seq us.toArray }) (room : Room k callerA) (go : ∀ base : Heap, K.In base → base.Ns mainGlobals mg → Fn P w K mg base k f fd [x] sp)
    (bind : ∀ (s : Shared) (u : Value), BindsTo s fd ⟨[u], []⟩ [(x, u)]) (pre : sp [.ref a] H (fun v _ => v = .bl true) fun _ _ _ => False)
    (only : ∀ b, H b = none ∨ (b = a ∧ K.lookup a = none ∧ ∃ o xs, H b = some (.frz o (.lst xs)))) (ok : HOk P w H s.heap) :
    codeAny (model P w) callerA (.call (.ref f) ⟨[.ref a], []⟩) (fun r t => r = .ok (.ret (.bool true)) ∧ OldK s.heap t.heap ∧ t.os = s.os ∧ AllBare t.gens) s := by
  have free : ∀ {b : Addr}, b ≠ a → H b = none := fun {b} nb => (only b).elim id fun q => absurd q.1 nb
  have stay : ∀ {b : Addr} {o : Obj}, s.heap.get? b = some o → b ≠ a → (hidT s.heap H).get? b = some o := fun e nb => hidT_get e (free nb)
  have noDict : ∀ {b : Addr} {m : Str → Option Value}, s.heap.Ns b m → b ≠ a := by
    rintro b m ⟨o, es, ep, e, d, _⟩ rfl
    rw [at_a] at e
    cases e
    cases d
  have nsIn : ∀ {b : Addr} {m : Str → Option Value}, s.heap.Ns b m → (hidT s.heap H).Ns b m := fun {b m} q => by
    have nb := noDict q
    obtain ⟨o, es, ep, e, r⟩ := q
    exact ⟨o, es, ep, stay e nb, r⟩
  have kin : K.In (hidT s.heap H) := fun b o e => by
    refine hidT_get (KX b o e) ?_
    rcases only b with q | ⟨q, l, _⟩
    · exact q
    · rw [q, l] at e
      cases e
  obtain ⟨mc, l1, l2⟩ := lim
  have e0 : Env0 P w K mg (hidT s.heap H) callerA [] s H :=
    { frames := rfl, mod := ⟨kin, nsIn glob, ⟨mb, nsIn bl, boot⟩, ⟨mc, nsIn l1, l2⟩⟩, bs := fun b o e => of_hidT e, bsz := Nat.le_of_eq (hidT_size _ _), funs := trivial, frf := fun b z => (by cases z), hok := ok, bare := AllBare.of_eq gens }
  refine codeAny_mono ((go _ kin (nsIn glob)).go callerA [] s H ⟨[.ref a], []⟩ [.ref a] [.ref a] _ _ room rfl e0 (bind s (.ref a)) (.cons rfl .nil) pre) fun r t done => ?_
  match r, done with
  | .error e, done =>
    obtain ⟨_, _, _, _, _, _, _, _, _, _, _, _, z⟩ := done
    exact z.elim
  | .ok (.ret u), done =>
    obtain ⟨v, H', os, bare, un, ok', rv, q⟩ := done
    have qv : v = .bl true := q
    subst qv
    obtain rfl : u = Value.bool true := rv
    refine ⟨rfl, OldK.of_keep fun b o e => ?_, os, bare⟩
    rcases only b with q | ⟨_, _, ob, xs, q⟩
    · exact un.keep b o e q (fun z => nomatch z) (fun z => nomatch z)
    · have h1 := (ok b _ q).1
      have h2 := (ok' b _ (un.frzs b ob _ q)).1
      rw [e] at h1
      cases h1
      exact h2

/-- the law itself: how it is called at the end -/
theorem law_end {l : PySem.W.OpenLaw} {n k : Nat} {q : Program} {loose : List Str} {XP : (Str → Option Value) → Heap → Prop} {YP : World → Heap → Prop} {d : DefRec} {x : Str}
    (hn : l.most = some n) (hn2 : n ≤ sizeLine) (hdf : d.params.defaults = []) (hr : Room k callerA)
    (F : ∀ (w : World) (mg : Str → Option Value) (fa : Addr) (h : Heap), YP w h → h.Ns mainGlobals mg → mg d.name = some (.ref fa) →
      ∃ (K : PySem.W.Frag) (fd : FuncData) (sp : Sp), K.In h ∧ (∀ (s : Shared) (u : Value), BindsTo s fd ⟨[u], []⟩ [(x, u)]) ∧
        (∀ (H : Hp) (a : Addr) (ns : List Int), ns.length ≤ n → Only H → SqL K H a (ns.map V.int) → sp [.ref a] H (fun v _ => v = .bl true) fun _ _ _ => False) ∧
        ∀ base : Heap, K.In base → base.Ns mainGlobals mg → Fn l.prog w K mg base k fa fd [x] sp) :
    PySem.W.WalkO q loose XP YP l.row.toRowW d [] (fun f vs => PySem.call f vs) := by
  refine Att.attach_call hn hdf fun w s₀ s mg mb f o pm cd doc a us ns G Y _ _ _ hmg at_a nums short gens => ?_
  obtain ⟨K, fd, sp, KX, bind, pre, go⟩ := F w mg f _ Y G.T.g hmg
  have rv := vals_ints nums
  have size : us.length ≤ sizeLine := by rw [nums.length]; exact Nat.le_trans short hn2
  cases look : K.lookup a with
  | some ob =>
    have e := KX a ob look
    rw [at_a] at e
    cases e
    exact call_at (H := fun _ => none) (x := x) KX G.T.g G.T.b G.T.builtins G.T.nolimit gens at_a hr go bind
      (pre _ a ns short (fun _ => Or.inl rfl) (Or.inr ⟨_, us.toArray, _, look, rfl, rfl, rfl, by rw [List.size_toArray]; exact size, by simpa using rv⟩)) (fun _ => Or.inl rfl) (fun b u z => nomatch z)
  | none =>
    have one : ∀ b, (if b = a then some (HO.frz { cls := .type "list", data := .seq us.toArray } (.lst (ns.map V.int))) else none) = none ∨
        (b = a ∧ K.lookup a = none ∧ ∃ ob xs, (if b = a then some (HO.frz { cls := .type "list", data := .seq us.toArray } (.lst (ns.map V.int))) else none) = some (.frz ob (.lst xs))) := fun b => by
      by_cases hb : b = a
      · exact Or.inr ⟨hb, look, _, _, if_pos hb⟩
      · exact Or.inl (if_neg hb)
    refine call_at (x := x) (H := fun b => if b = a then some (HO.frz { cls := .type "list", data := .seq us.toArray } (.lst (ns.map V.int))) else none) KX G.T.g G.T.b G.T.builtins G.T.nolimit gens at_a hr go bind
      (pre _ a ns short (fun b => (one b).elim Or.inl fun z => Or.inr z.2.2) (Or.inl (Or.inr ⟨_, if_pos rfl⟩))) one (fun b u z => ?_)
    rcases one b with q | ⟨rfl, _, _⟩
    · exact absurd (q.symm.trans z) (by simp)
    · have z2 := (if_pos rfl).symm.trans z
      cases z2
      exact ⟨at_a, by rw [rv.length]; exact size, us, _, rv, at_a⟩
end Gl
set_option Elab.async false
set_option linter.all false
set_option maxRecDepth 100000
set_option maxHeartbeats 4000000
/-! Ex: own errors whose making hands the part on to the base's making and keeps it as a field. -/
namespace Ex
open PySem PySem.W PySem.Calls PyProof.Rows PySem.HandSPX
def iA (fld : Str) (p1 p2 : Pos) : Arguments := { posonlyargs := [], args := [{ arg := "self", annotation := none, pos := p1 }, { arg := fld, annotation := none, pos := p2 }], vararg := none, kwonlyargs := [], kw_defaults := [], kwarg := none, defaults := [] }
def iB (fld : Str) (p0 p1 p2 p3 p4 p5 p6 p7 p8 p9 : Pos) : List Stmt :=
  [.Expr (.Call (.Attribute (.Call (.Name "super" p0) [] [] p1) "__init__" p2) [.Name fld p3] [] p4) p5, .Assign [.Attribute (.Name "self" p6) fld p7] (.Name fld p8) p9]
def iS (fld : Str) : Scope := { kind := .function, names := [(PySem.Str.ofString "self", .local), (fld, .local), (PySem.Str.ofString "__class__", .free), (PySem.Str.ofString "super", .globalImplicit)], isGenerator := false, isCoroutine := false, more := [] }
structure BadC (P : Program) (K : Frag) (C : Addr) (fld : Str) : Prop where
  cls : ∃ nm q N bs bm sn sub ab col dd k0 k1 k2 k3 k5, K.lookup C = some (excClassObj nm q C N bs bm true sn sub ab col dd k0 k1 k2 k3 k5 "ValueError.__new__") ∧ refsVE bm = true
  sa : findIn K (.ref C) "__setattr__" = some (some (.builtin "object.__setattr__"))
  noN : findIn K (.ref C) fld = some none
  kC : keepIn K (.ref C) = true
  exC : subIn K (.ref C) (.type "BaseException") = some true
  tyC : typeIn K (.ref C) = some (.type "type")
  subV : subIn K (.ref C) (.type "ValueError") = some true
  mro : mroIn K C (.ref C) = some true
  sup : ks_superIn K C C "__init__" = some (some (.builtin "ValueError.__init__"))
  opq : nsIn K cStatics "thirdparty.any" = some none
  top : (P.main.scope.names.lookup ("super" : Str)).isSome = false
  fne : (fld == ("self" : Str)) = false
  fnc : (fld == ("__class__" : Str)) = false
  fns : (fld == ("super" : Str)) = false
  fnd : (fld == ("__debug__" : Str)) = false
  init : ∃ (fI cc cda : Addr) (oc kV doc pm ct ccl cl : Value) (od an cdd cld : Option Addr) (osl ccs csl : Array (Option Value)) (p1 p2 q0 q1 q2 q3 q4 q5 q6 q7 q8 q9 : Pos) (q : Str) (vs : Array Value) (file : Str) (tf : Tok),
    findIn K (.ref C) "__init__" = some (some (.ref fI)) ∧ typeIn K (.ref fI) = some (.type "function") ∧
    K.lookup fI = some ⟨oc, od, .func (ksFn "__init__" q (iA fld p1 p2) (iB fld q0 q1 q2 q3 q4 q5 q6 q7 q8 q9) (iS fld) .none kV doc pm an (.ref cda) ct cc), osl⟩ ∧ codeIn K (.ref cda) q = true ∧
    K.lookup cc = some ⟨cl, cld, .cell (some (.ref C)), csl⟩ ∧ K.lookup cda = some ⟨ccl, cdd, .fields vs, ccs⟩ ∧ vs[2]? = some (.str file tf) ∧ ((P.main.file : Str) == file) = true ∧
    (∀ env : Env, ∃ pl : Sem Bool, eval (.Call (.Attribute (.Call (.Name "super" q0) [] [] q1) "__init__" q2) [.Name fld q3] [] q4) env = (do
      let ov ← attributeBase (.Call (.Name "super" q0) [] [] q1) "__init__" env (eval (.Call (.Name "super" q0) [] [] q1) env)
      standAt q2.atName
      let (f, first) ← holding [ov] (getMethod ov "__init__" pl)
      callWith q4 f first (backTo q4 (starEach [.Name fld q3] env)) [])) ∧
    ∀ (s : Shared) (x v : Value), BindsTo s (ksFn "__init__" q (iA fld p1 p2) (iB fld q0 q1 q2 q3 q4 q5 q6 q7 q8 q9) (iS fld) .none kV doc pm an (.ref cda) ct cc) ⟨[x, v], []⟩ [("self", x), (fld, v)]
theorem lk_self {fld : Str} {x v : Value} (h : (fld == ("self" : Str)) = false) : ([("self", x), (fld, v)] : List (Str × Value)).reverse.lookup ("self" : Str) = some x := by
  have h2 : (("self" : Str) == fld) = false := by rw [beq_eq_false_iff_ne] at h ⊢; exact fun z => h z.symm
  show List.lookup ("self" : Str) [(fld, v), ("self", x)] = some x
  simp [List.lookup, h2]
theorem lk_fld {fld : Str} {x v : Value} : ([("self", x), (fld, v)] : List (Str × Value)).reverse.lookup fld = some v := by
  show List.lookup fld [(fld, v), ("self", x)] = some v
  simp [List.lookup]
theorem sc_self {fld : Str} : (iS fld).names.lookup ("self" : Str) = some .local := by simp [iS, List.lookup]
theorem sc_fld {fld : Str} : (iS fld).names.lookup fld = some .local := by
  by_cases h : fld = ("self" : Str)
  · subst h; exact sc_self
  · have h2 : (fld == ("self" : Str)) = false := beq_eq_false_iff_ne.mpr h
    have h3 : (fld == PySem.Str.ofString "self") = false := h2
    simp [iS, List.lookup, h3]
theorem sc_cls {fld : Str} (h : (fld == ("__class__" : Str)) = false) : (iS fld).names.lookup ("__class__" : Str) = some .free := by
  have h2 : (("__class__" : Str) == fld) = false := by rw [beq_eq_false_iff_ne] at h ⊢; exact fun z => h z.symm
  have h3 : (("__class__" : Str) == PySem.Str.ofString "self") = false := by decide
  simp [iS, List.lookup, h2, h3]
theorem sc_sup {fld : Str} (h : (fld == ("super" : Str)) = false) : (iS fld).names.lookup ("super" : Str) = some .globalImplicit := by
  have h2 : (("super" : Str) == fld) = false := by rw [beq_eq_false_iff_ne] at h ⊢; exact fun z => h z.symm
  have h3 : (("super" : Str) == PySem.Str.ofString "self") = false := by decide
  have h4 : (("super" : Str) == PySem.Str.ofString "__class__") = false := by decide
  simp [iS, List.lookup, h2, h3, h4]
/-- what the making leaves of a fresh exception at x -/
structure InitEnd (h h' : Heap) (x C dx t1 : Addr) (fld : Str) (v : Value) : Prop where
  keep : ∀ b o, b ≠ x → h.get? b = some o → h'.get? b = some o
  obj : h'.get? x = some { cls := .ref C, dict := some dx, data := .fields #[.ref t1, .none, .none, .none, .bool false, .none] }
  dbig : h.objs.size ≤ dx
  dne : dx ≠ x
  ns : h'.Ns1 dx (fun y => if y = fld then some v else none)
section
variable {prog : Program} {w : World} {A : Around} {E : Value → Shared → Prop} {R : Result → Shared → Prop} {s : Shared} {K : Frag} {mg mb : Str → Option Value} {C fI cc cda : Addr} {fld : Str}
theorem one_size (v : Value) : [v].length ≤ sizeLine := by
  rw [sizeLine_eq]
  exact (by decide : 1 ≤ 16777216)
theorem ld1 {M : Model} {s : Shared} {env : Env} {m : Str → Option Value} {x : Str} {pos : Pos} {v : Value} {Q : Value → Shared → Prop} {A : Around} {E : Value → Shared → Prop} (hk : env.scope.kind = .function) (hl : env.kindOf x = some .local) (hn : s.heap.Ns env.locals m) (hv : m x = some v) (hd : (x == ("__debug__" : Str)) = false) (h : Q v s) :
    wpAny M A (eval (.Name x pos) env) Q E s := wpAny_Name (wpAny_loadName_local hk hl hn hv h) hd
/-- the base's making, bound, called -/
theorem call_mw {u e t0 : Addr} {rest : List Value} {Q : Value → Shared → Prop} {h : Heap} {g : Array GenState} {d : Drawn} {t : Nat} {os : OsState} {nm q : Str} {N : Addr} {bs bm : List Value} {hdct : Bool} {sn : List Str} {sub : List Value} {ab : Bool} {col : Option Bool} {dd : Option Addr} {k0 k1 k2 k3 k5 : Option Value}
    (hC : h.get? C = some (excClassObj nm q C N bs bm hdct sn sub ab col dd k0 k1 k2 k3 k5 "ValueError.__new__")) (he : h.get? e = some (excO C t0)) (hu : h.get? u = some (kxs_mw "ValueError.__init__" e)) (hrest : rest.length ≤ sizeLine)
    (hq : ∀ h' t1, (∀ b o, b ≠ e → h.get? b = some o → h'.get? b = some o) → h.objs.size ≤ h'.objs.size → h'.get? e = some (excO C t1) → Q .none ⟨h', g, d, t, os⟩) :
    wpAny (model prog w) A (call (.ref u) rest) Q E ⟨h, g, d, t, os⟩ := by
  refine wpAny_call (codeAny_of_tree ?_)
  show wpAny _ A.in1 (callAny (.ref u) ⟨rest, []⟩) _ _ _
  simp only [callAny]
  refine wpAny_bind (wpAny_load hu ?_)
  simp only [kxs_mw, show (Value.type "method-wrapper" == Value.type "method" || Value.type "method-wrapper" == Value.type "builtin_function_or_method" || Value.type "method-wrapper" == Value.type "method-wrapper") = true by decide, if_true]
  refine KFB.if_so (by decide) ?_
  refine wpAny_bind (check_bound_init F.excBase_ValueError.toExcCallFacts hC he rfl ?_)
  refine wpAny_bind (wpAny_pure (wpAny_pure ?_))
  refine ⟨plainId_quiet F.excBase_ValueError.init.plain _, codeAny_builtin F.excBase_ValueError.initEntry ?_⟩
  refine exc_init_tree (cls := .ref C) (t0 := t0) (dv := none) (c2 := .none) (c3 := .none) (b4 := .bool false) he hrest (fun h' k e' t' => ?_)
  exact hq h' _ k (Nat.le_of_lt (Heap.lt_size t')) e'
theorem bad_init (T : BadC prog K C fld) {oc kV doc pm ct ccl cl : Value} {od an cdd cld : Option Addr} {osl ccs csl : Array (Option Value)} {p1 p2 q0 q1 q2 q3 q4 q5 q6 q7 q8 q9 : Pos} {q : Str} {vs : Array Value} {file : Str} {tf : Tok}
    (ho : K.lookup fI = some ⟨oc, od, .func (ksFn "__init__" q (iA fld p1 p2) (iB fld q0 q1 q2 q3 q4 q5 q6 q7 q8 q9) (iS fld) .none kV doc pm an (.ref cda) ct cc), osl⟩) (hcd : codeIn K (.ref cda) q = true)
    (hcell : K.lookup cc = some ⟨cl, cld, .cell (some (.ref C)), csl⟩) (hcode : K.lookup cda = some ⟨ccl, cdd, .fields vs, ccs⟩) (hvs : vs[2]? = some (.str file tf)) (hfile : ((prog.main.file : Str) == file) = true)
    (hmc : ∀ env : Env, ∃ pl : Sem Bool, eval (.Call (.Attribute (.Call (.Name "super" q0) [] [] q1) "__init__" q2) [.Name fld q3] [] q4) env = (do
      let ov ← attributeBase (.Call (.Name "super" q0) [] [] q1) "__init__" env (eval (.Call (.Name "super" q0) [] [] q1) env)
      standAt q2.atName
      let (f, first) ← holding [ov] (getMethod ov "__init__" pl)
      callWith q4 f first (backTo q4 (starEach [.Name fld q3] env)) []))
    {x t0 : Addr} {v : Value} (hbind : BindsTo s (ksFn "__init__" q (iA fld p1 p2) (iB fld q0 q1 q2 q3 q4 q5 q6 q7 q8 q9) (iS fld) .none kV doc pm an (.ref cda) ct cc) ⟨[.ref x, v], []⟩ [("self", .ref x), (fld, v)])
    (X : K.In s.heap) (hg : s.heap.Ns mainGlobals mg) (hgs : mg "super" = none) (hb : s.heap.Ns builtinsNs mb) (hbs : mb "super" = some (.type "super")) (hlim : s.heap.NoLimit) (hx : s.heap.get? x = some (excO C t0)) (hnx : K.lookup x = none) (hroom : A.depth < recursionLimit)
    (hq : ∀ h' tk dx t1, InitEnd s.heap h' x C dx t1 fld v → R (.ok (.ret .none)) { s with heap := h', toks := tk }) :
    codeAny (model prog w) A (.call (.ref fI) ⟨[.ref x, v], []⟩) R s := by
  obtain ⟨nm, q', N, bs, bm, sn, sub, ab, col, dd, k0, k1, k2, k3, k5, hC, hbm⟩ := T.cls
  have hcl : clsIn K C = some { name := nm, bases := bs, mro := .ref C :: bm, ns := N, qualname := q', hasDict := true, slotNames := sn, subclasses := sub, abstract := ab, collection := col, hasDel := false } := by unfold clsIn; rw [hC] <;> rfl
  refine ks_codeAny_call_defAt (fd := ksFn "__init__" q (iA fld p1 p2) (iB fld q0 q1 q2 q3 q4 q5 q6 q7 q8 q9) (iS fld) .none kV doc pm an (.ref cda) ct cc) (binds := [("self", .ref x), (fld, v)]) hroom (X _ _ ho) rfl hlim (codeRec_of X hcd) rfl hbind ?_ ?_ (fun h₁ hns k => ?_)
  · intro y hy
    simp only [ksFn, fnX, iS, List.mem_cons, List.not_mem_nil, or_false] at hy
    rcases hy with rfl | rfl | rfl | rfl <;> exact fun z => nomatch z
  · intro y hy
    simp only [List.mem_cons, List.not_mem_nil, or_false] at hy
    rcases hy with rfl | rfl
    · exact sc_self
    · exact sc_fld
  · obtain ⟨hp, g, d, t, os⟩ := s
    have X₁ : K.In h₁ := X.keeps k
    have hx₁ := k _ _ hx
    have hC₁ := X₁ _ _ hC
    obtain ⟨pl, hpl⟩ := hmc (callEnv (ksFn "__init__" q (iA fld p1 p2) (iB fld q0 q1 q2 q3 q4 q5 q6 q7 q8 q9) (iS fld) .none kV doc pm an (.ref cda) ct cc) hp.objs.size fI)
    refine ks_wpAt_execs_cons (ks_wpAt_Expr_any (ks_wpAt_MethodCall ?_ hpl))
    refine ks_wpAt_super_base (f := fI) (cc := cda) (sc_sup T.fns) (sc_cls T.fnc) rfl rfl (X₁ _ _ ho) rfl rfl rfl (X₁ _ _ hcode) rfl hvs hfile T.top ?_
    refine ks_loadName_global rfl (sc_sup T.fns) (loadGlobal_builtin (hg.keeps k) hgs (hb.keeps k) hbs ⟨rfl, ?_⟩)
    refine wpAny_loadName_free rfl (sc_cls T.fnc) rfl ⟨_, X₁ _ _ hcell, rfl⟩ ?_
    refine wpAny_loadName_local rfl sc_self hns (lk_self T.fne) ?_
    refine ks_wpAny_isType_cls hC₁ rfl ⟨rfl, ?_⟩
    refine ks_wpAny_call_super hC₁ rfl hx₁ rfl (fun c e => nomatch e) (looks_mroIn X₁ T.mro) (fun h₂ e₂ k₂ => ?_)
    have X₂ : K.In h₂ := X₁.keeps k₂
    have hx₂ := k₂ _ _ hx₁
    have hsup := T.sup
    unfold ks_superIn at hsup
    rw [hcl] at hsup
    have I₂ : InstAt h₂ x (excO C t0) C none := ⟨hx₂, rfl, rfl, trivial⟩
    refine kxs_getMethod kxs_ValueError e₂ (looks_opaque X₂ T.opq) (l₀ := Value.ref C :: bm) ?_ rfl X₂ hsup (I₂.type.andThen (looks_subIn X₂ T.subV)) (fun z => by rw [z, hC] at hnx; cases hnx) (by decide) ?_
    · exact fun A Q E s k q => wpAny_bind ((looks_clsIn X₂ hcl) A _ E s k (wpAny_pure q))
    · have k₃ : ∀ b o, h₂.get? b = some o → (h₂.push (kxs_mw "ValueError.__init__" x)).get? b = some o := fun b o e => Heap.get?_push_of_some _ e
      refine kxs_callWith (i := "ValueError.__init__") (x := x) rfl (evalArgs_plain (Calls.spliced_cons (ld1 rfl sc_fld ((hns.keeps k₂).keeps k₃) lk_fld T.fnd (Calls.spliced_nil ⟨Heap.get?_push_at rfl rfl, ?_⟩))))
      refine call_mw (X₂.keeps k₃ _ _ hC) (k₃ _ _ hx₂) (Heap.get?_push_at rfl rfl) (one_size v) (fun h₄ t1 k₄ sz₄ hx₄ => ?_)
      have keep₄ : ∀ b o, b ≠ x → h₁.get? b = some o → h₄.get? b = some o := fun b o hb e => k₄ b o hb (k₃ _ _ (k₂ _ _ e))
      have X₄ : K.In h₄ := fun b o e => keep₄ b o (fun z => by rw [z, hnx] at e; cases e) (X₁ b o e)
      have hns₄ := hns.at (fun o e => keep₄ _ o (Nat.ne_of_gt (Heap.lt_size hx)) e)
      refine wpAt_of_wpAny (wpAny_execs_cons (plainObj_wpAny_Assign_Attribute (ld1 rfl sc_fld hns₄ lk_fld T.fnd (ld1 rfl sc_self hns₄ (lk_self T.fne) (by decide) ?_))))
      refine set_plain X₄ (ox := excO C t1) (od := none) ⟨hx₄, rfl, rfl, trivial⟩ T.sa ?_
      refine exc_osa X₄ hx₄ hcl (show refsVE (.ref C :: bm) = true from hbm) rfl T.noN (fun h₅ tk₅ dx k₅ dn dne hx₅ hn₅ => ?_)
      show wpAny _ _ (execs _ _) _ _ _
      refine wpAny_execs_nil (hq h₅ tk₅ dx t1 ⟨fun b o hb e => k₅ b o hb (keep₄ b o hb (k b o e)), hx₅, ?_, dne, hn₅⟩)
      have a1 : hp.objs.size < h₁.objs.size := hns.lt
      have a2 : h₁.objs.size < h₂.objs.size := Heap.lt_size e₂
      have a3 : h₂.objs.size ≤ h₄.objs.size := Nat.le_trans (by rw [Heap.size_push]; omega) sz₄
      have a4 : h₄.objs.size ≤ dx := dn
      exact Nat.le_trans (Nat.le_of_lt a1) (Nat.le_trans (Nat.le_of_lt a2) (Nat.le_trans a3 a4))
/-- a made one -/
structure OwnMade (h h' : Heap) (e C d : Addr) (fld : Str) (v : Value) : Prop where
  keep : ∀ b o, h.get? b = some o → h'.get? b = some o
  new : h.objs.size ≤ e
  obj : ∃ t1 : Addr, h'.get? e = some { cls := .ref C, dict := some d, data := .fields #[.ref t1, .none, .none, .none, .bool false, .none] }
  dbig : h.objs.size ≤ d
  dne : d ≠ e
  ns : h'.Ns1 d (fun y => if y = fld then some v else none)
theorem bad_made (T : BadC prog K C fld) {v : Value} (X : K.In s.heap) (hg : s.heap.Ns mainGlobals mg) (hgs : mg "super" = none) (hb : s.heap.Ns builtinsNs mb) (hbs : mb "super" = some (.type "super")) (hlim : s.heap.NoLimit) (hroom : A.depth + 1 < recursionLimit)
    (hq : ∀ h' tk e d, OwnMade s.heap h' e C d fld v → R (.ok (.ret (.ref e))) { s with heap := h', toks := tk }) :
    codeAny (model prog w) A (.call (.ref C) ⟨[v], []⟩) R s := by
  obtain ⟨nm, q, N, bs, bm, sn, sub, ab, col, dd, k0, k1, k2, k3, k5, hC, hbm⟩ := T.cls
  obtain ⟨fI, cc, cda, oc, kV, doc, pm, ct, ccl, cl, od, an, cdd, cld, osl, ccs, csl, p1, p2, q0, q1, q2, q3, q4, q5, q6, q7, q8, q9, q, vs, file, tf, iC, tI, ho, hcd, hcell, hcode, hvs, hfile, hmc, hbind⟩ := T.init
  obtain ⟨hp, g, dr, tk, os⟩ := s
  have k : ∀ b o, hp.get? b = some o → ((hp.push (kdv_tup [v])).push (excO C hp.objs.size)).get? b = some o := fun b o e => Heap.get?_push_of_some _ (Heap.get?_push_of_some _ e)
  have hget : ((hp.push (kdv_tup [v])).push (excO C hp.objs.size)).get? (hp.objs.size + 1) = some (excO C hp.objs.size) := by heap_get
  have hnx : K.lookup (hp.objs.size + 1) = none := by
    cases e : K.lookup (hp.objs.size + 1) with
    | none => rfl
    | some o =>
      have z : hp.get? (hp.objs.size + 1) = some o := X _ _ e
      exact absurd (Nat.lt_of_succ_lt (Heap.lt_size z)) (Nat.lt_irrefl _)
  refine call_own F.excBase_ValueError (fun X => refsVE_contains X bm hbm) (X _ _ hC) (looks_findIn X iC) (fun self => bind_fn X self tI) (one_size v) ?_
  refine bad_init (s := ⟨(hp.push (kdv_tup [v])).push (excO C hp.objs.size), g, dr, tk, os⟩) T ho hcd hcell hcode hvs hfile hmc (hbind _ _ _) (X.keeps k) (hg.keeps k) hgs (hb.keeps k) hbs (hlim.keeps k) hget hnx ?_ fun h' tk' dx t1 ⟨k', hx, dn, dne, hns⟩ => ?_
  · show A.depth + 1 < recursionLimit
    exact hroom
  · have old : ∀ b o, hp.get? b = some o → h'.get? b = some o := fun b o e => k' b o (Nat.ne_of_lt (Nat.lt_succ_of_lt (Heap.lt_size e))) (k b o e)
    have z : hp.objs.size + 1 + 1 ≤ dx := by
      first
        | (simpa only [Heap.size_push] using dn)
        | exact dn
        | (have q := dn; rw [Heap.size_push, Heap.size_push] at q; exact q)
    exact ⟨rfl, hq h' tk' (hp.objs.size + 1) dx ⟨old, Nat.le_succ _, ⟨t1, hx⟩, Nat.le_trans (Nat.le_trans (Nat.le_succ _) (Nat.le_succ _)) z, dne, hns⟩⟩
end
end Ex

namespace L2
open PySem PySem.Spec PyProof.Rows
section
variable {X : Cx}
/-- C(e), C an own error that keeps its part in the field fld -/
def tMkE (K : PySem.W.Frag) (C : Addr) (fld : Str) (te : TE) : TE := fun σ H Q => te σ H fun v H1 => ∀ a d, H1 d = none → H1 a = none → a ≠ d → Q (.ref a) (upd (upd H1 d (.xd [(fld, v)])) a (exo a C (some d)))
theorem relO_one {fld : Str} {v : V} {v' : Value} (r : RelV v v') (f : Str) : RelO (List.lookup f [(fld, v)]) (if f = fld then some v' else none) := relO_put (fs := []) (mA := fun _ => none) r (fun _ => True.intro) f
theorem pe_mkE {x : Str} {a : Expr} {te : TE} {p pos : Pos} {k : Nat} {C : Addr} {fld : Str} (T : Ex.BadC X.prog X.K C fld) (hm : X.mg x = some (.ref C)) (hs : X.mg "super" = none) (hr : Room k X.A) (hk : 2 ≤ k) (ha : PE X a te) (hg : Gl X x)
    (hd : (x == ("__debug__" : Str)) = false := by decide) (he : starEach (a :: []) X.env = (false, eval a X.env) :: starEach [] X.env := by rfl) (hpl : (backTo pos (starEach [] X.env)).any (·.1) = false := by rfl) :
    PE X (.Call (.Name x p) [a] [] pos) (tMkE X.K C fld te) := by
  refine ⟨fun pins s σ H Q I h => ?_⟩
  refine wpAny_Call_Name_kw (ld_glob I hg hm ?_ hd)
  refine PySem.W.callWith_K (h₀ := X.base) I.ok.mod.kin T.kC ?_ he hpl
  rw [he]
  show wpAny _ _ (spliced ((false, eval a X.env) :: backTo pos (starEach [] X.env))) _ _ s
  refine Calls.spliced_cons (thn (ha.run pins s σ H _ I h) fun u s1 ⟨v, H1, I1, r1, q1⟩ => ?_)
  refine Calls.spliced_nil ⟨I1.kIn, ?_⟩
  show wpAny _ _ (call (.ref C) [u]) _ _ _
  have hlim := I1.nolimit
  have E0 := I1.env0
  obtain ⟨hp, g, dr, tk, os⟩ := s1
  obtain ⟨mb, hb, hbb⟩ := E0.mod.blt
  refine wpAny_call (Ex.bad_made T I1.kIn (E0.mod.glob.keeps fun b o q => (E0.bs b o q).1) hs (hb.keeps fun b o q => (E0.bs b o q).1) ((hbb "super" (by decide)).trans rfl) hlim (by have := hr.dp; omega) fun h' tk' e d M => ?_)
  obtain ⟨t1, hoe⟩ := M.obj
  have hns := M.ns
  obtain ⟨G', g1, g2⟩ := restrict h' fun b => decide (b ≠ e)
  have gk : ∀ b, b ≠ e → G'.get? b = h'.get? b := fun b hb => g1 b (decide_eq_true hb)
  have ge : G'.get? e = none := g2 e (by simp)
  have old : ∀ b o, hp.get? b = some o → G'.get? b = some o := fun b o q => (gk b (Nat.ne_of_lt (Nat.lt_of_lt_of_le (Heap.lt_size q) M.new))).trans (M.keep b o q)
  have ob : ObjOk X.prog X.w (upd H1 d (.xd [(fld, v)])) G' d (.xd [(fld, v)]) :=
    ⟨_, hns.at (fun o q => (gk d M.dne).trans q), fun f => relO_one r1 f⟩
  have J : Inv X pins σ (upd H1 d (.xd [(fld, v)])) ⟨G', g, dr, tk', os⟩ := I1.laid (t' := tk') old M.dbig ob
  have hd1 : H1 d = none := I1.hok.fresh M.dbig
  have he1 : H1 e = none := I1.hok.fresh M.new
  have he2 : upd H1 d (.xd [(fld, v)]) e = none := by rw [upd_ne (Ne.symm M.dne)]; exact he1
  have kk : ∀ b u, G'.get? b = some u → h'.get? b = some u := fun b u q => by
    by_cases hb : b = e
    · rw [hb, ge] at q; cases q
    · rw [← gk b hb]; exact q
  exact ⟨.ref e, _, J.laidN (t' := tk') kk ge he2 (exo_ok hoe), rfl, q1 e d hd1 he1 (Ne.symm M.dne)⟩
/-- C(), C an own error of no own making -/
def tMkN (C : Addr) : TE := fun σ H Q => ∀ a, H a = none → Q (.ref a) (upd H a (exo a C none))
theorem pe_mkN {x : Str} {p pos : Pos} {C : Addr} (q : PySem.W.excIn X.K C He.veBase "ValueError.__new__" = true) (hm : X.mg x = some (.ref C)) (kC : PySem.W.keepIn X.K (.ref C) = true) (hg : Gl X x)
    (hd : (x == ("__debug__" : Str)) = false := by decide) : PE X (.Call (.Name x p) [] [] pos) (tMkN C) := by
  refine ⟨fun pins s σ H Q I h => ?_⟩
  refine wpAny_Call_Name_kw (ld_glob I hg hm ?_ hd)
  refine PySem.W.callWith_K0 I.kIn kC ?_
  obtain ⟨bm, N, nm, qn, bs, hdct, sn, sub, ab, col, dd, k0, k1, k2, k3, k5, mN, hC, hN, hni, T⟩ := exc_obj I.kIn q
  refine wpAny_call_exc_subT PySem.F.excBase_ValueError T hC hN hni (fun h' a hm => ?_) (by show 0 ≤ sizeLine; omega)
  have hn : H a = none := I.hok.gone hm.new
  obtain ⟨t, ht, _, _⟩ := hm.there
  exact ⟨.ref a, upd H a (exo a C none), I.laidN hm.keeps hm.new hn (exo_ok ht), rfl, h a hn⟩
/-- e.fld -/
def tFldE (K : PySem.W.Frag) (n : Str) (te : TE) : TE := fun σ H Q => te σ H fun x H1 => ∃ (a C d : Addr) (v : V), x = .ref a ∧ XfC K C ∧ PySem.W.findIn K (.ref C) n = some none ∧ H1 a = some (exo a C (some d)) ∧ H1 d = some (.xd [(n, v)]) ∧ Q v H1
theorem pe_fldE {e : Expr} {te : TE} {pos : Pos} {n : Str} (he : PE X e te) (hb : attributeBase e n X.env (eval e X.env) = eval e X.env := by rfl) :
    PE X (.Attribute e n pos) (tFldE X.K n te) := by
  refine ⟨fun pins s σ H Q I h => ?_⟩
  refine attr_of hb (thn (he.run pins s σ H _ I h) fun u s1 hh => ?_)
  obtain ⟨x, H1, I1, rx, a, C, dd, v, ex, T, hno, ea, ed, q⟩ := hh
  subst ex
  obtain rfl : u = Value.ref a := rx
  obtain ⟨t1, ha⟩ := exo_at I1.hok ea
  have hx : ObjOk X.prog X.w H1 s1.heap dd (.xd [(n, v)]) := I1.hok dd _ ed
  obtain ⟨mA, hns, hr⟩ := hx
  obtain ⟨od, ho, hl⟩ := lookIn_ns hns
  obtain ⟨u, hu, ru⟩ := RelO.some_of (v := v) (o := mA n) (by rw [← show List.lookup n [(n, v)] = some v by simp [List.lookup]]; exact hr n)
  have J : PySem.W.InstAt s1.heap a _ C (some od) := ⟨ha, rfl, rfl, ho⟩
  exact HandSPX.exc_get I1.kIn J T.ga T.gg T.exC (PySem.W.findObj_own T.hdC hno rfl (by rw [hl, hu])) (handed_of ru) ⟨v, H1, I1.tok _, ru, q⟩
end
/-- isinstance(e, c) of such an error -/
def rIsX (K : PySem.W.Frag) : List V → Hp → VK → Prop := fun xs H Q => ∃ (a C : Addr) (d : Option Addr) (c : V) (cv : Value) (b : Bool), xs = [.ref a, c] ∧ H a = some (exo a C d) ∧ ExcC K C ∧ (∀ u, RelV c u → u = cv) ∧ (∀ dd, d = some dd → ∃ fs, H dd = some (.xd fs)) ∧ PySem.W.kitOne K (.ref C) cv = some b ∧ Q (.bl b) H
theorem call_isX {X : Cx} : CallR X (.builtin "isinstance") (rIsX X.K) := by
  intro pins s σ H xs us Q I r h
  obtain ⟨a, C, d, c, cv, b, rfl, ha, T, hcv, hd, e, q⟩ := h
  cases r with
  | cons rx rr =>
    cases rr with
    | cons rt rr =>
      cases rr
      cases rx
      have ec := hcv _ rt
      subst ec
      obtain ⟨t1, ho⟩ := exo_at I.hok ha
      have hcl : (PySem.W.clsIn X.K C).isSome = true := by
        obtain ⟨cd, hc, _⟩ := PySem.W.any_some T.hd
        rw [hc]
        rfl
      cases d with
      | none =>
        have J : PySem.W.InstAt s.heap a { cls := .ref C, dict := none, data := .fields #[.ref t1, .none, .none, .none, .bool false, .none] } C none := ⟨ho, rfl, rfl, trivial⟩
        exact PySem.W.kia_one (PySem.W.kitx_exc hcl T.hg T.hk T.hs T.ha T.hn T.ht T.hm) I.kIn J e (fun z => nomatch z) fun tk => ⟨.bl b, H, I.kept (t' := tk) fun _ _ z => z, rfl, q⟩
      | some dd =>
        obtain ⟨fs, hdd⟩ := hd dd rfl
        have hx : ObjOk X.prog X.w H s.heap dd (.xd fs) := I.hok dd _ hdd
        obtain ⟨mA, hns, hr⟩ := hx
        obtain ⟨od, hod, hl⟩ := lookIn_ns hns
        have J : PySem.W.InstAt s.heap a { cls := .ref C, dict := some dd, data := .fields #[.ref t1, .none, .none, .none, .bool false, .none] } C (some od) := ⟨ho, rfl, rfl, hod⟩
        exact PySem.W.kia_one (PySem.W.kitx_exc hcl T.hg T.hk T.hs T.ha T.hn T.ht T.hm) I.kIn J e (fun z => nomatch z) fun tk => ⟨.bl b, H, I.kept (t' := tk) fun _ _ z => z, rfl, q⟩
end L2
set_option Elab.async false
set_option maxRecDepth 100000
set_option maxHeartbeats 4000000
/-! Rd: readings, one lemma a construct; the tactic walk_at "rd" goes along a reading as far as it is plain. -/
namespace Rd
open PySem L2

/-! built-in calls by names of our own -/
def rLen (K : PySem.W.Frag) : List V → Hp → VK → Prop := fun xs H Q => (∃ p ys, xs = [.ref p] ∧ (SqL K H p ys ∨ SqT K H p ys) ∧ Q (.int ys.length) H) ∨ ∃ z, xs = [.str z] ∧ z.length ≤ sizeLine ∧ Q (.int z.length) H
theorem cr_len {X : Cx} : CallR X (.builtin "len") (rLen X.K) := call_len_seq.or call_len_str
def rInt : List V → Hp → VK → Prop := fun xs H Q => (∃ i, xs = [.int i] ∧ Q (.int i) H) ∨ ∃ k, xs = [.bl k] ∧ Q (.int (if k then 1 else 0)) H
theorem cr_int {X : Cx} : CallR X (.type "int") rInt := call_int1
def rAbs : List V → Hp → VK → Prop := fun xs H Q => ∃ i, xs = [.int i] ∧ Q (.int (if i < 0 then -i else i)) H
theorem cr_abs {X : Cx} : CallR X (.builtin "abs") rAbs := call_abs
def rListOf (K : PySem.W.Frag) : List V → Hp → VK → Prop := fun xs H Q => ∃ p ys, xs = [.ref p] ∧ (SqL K H p ys ∨ SqT K H p ys) ∧ ∀ l, H l = none → Q (.ref l) (upd H l (.lst ys))
theorem cr_list {X : Cx} : CallR X (.type "list") (rListOf X.K) := call_list_of
def rTupOf (K : PySem.W.Frag) : List V → Hp → VK → Prop := fun xs H Q => ∃ p ys, xs = [.ref p] ∧ ((SqL K H p ys ∧ ∀ l, H l = none → Q (.ref l) (upd H l (.tup ys))) ∨ (SqT K H p ys ∧ Q (.ref p) H))
theorem cr_tuple {X : Cx} : CallR X (.type "tuple") (rTupOf X.K) := call_tuple_of

section
variable {σ : L2.St} {H : Hp} {Q : VK} {D : Ends} {K : PySem.W.Frag}
variable {nx bk ct : L2.St → Hp → Prop} {rt : VK}
theorem seq {t u : TS} (h : t ⟨u ⟨nx, rt, bk, ct⟩, rt, bk, ct⟩ σ H) : tSeq t u ⟨nx, rt, bk, ct⟩ σ H := h
theorem next (h : nx σ H) : tNext ⟨nx, rt, bk, ct⟩ σ H := h
theorem brk (h : bk σ H) : tBreak ⟨nx, rt, bk, ct⟩ σ H := h
theorem cont (h : ct σ H) : tCont ⟨nx, rt, bk, ct⟩ σ H := h
theorem asg {te : TE} {g : TG} (h : te σ H fun x H1 => g x σ H1 nx) : tAsg te g ⟨nx, rt, bk, ct⟩ σ H := h
theorem gname {i : Nat} {v : V} {R : L2.St → Hp → Prop} (h : R (σ.set i (some v)) H) : gName i v σ H R := h
theorem gsub {to ti : TE} {t : TSet} {v : V} {R : L2.St → Hp → Prop} (h : to σ H fun o H1 => ti σ H1 fun i H2 => t o i v H2 fun H3 => R σ H3) : gSub to ti t v σ H R := h
theorem gtup {n : Nat} {t : TGs} {a : Addr} {xs : List V} {R : L2.St → Hp → Prop} (h1 : SqT K H a xs) (h2 : xs.length = n) (h : t xs σ H R) : gTup K n t (.ref a) σ H R := ⟨a, xs, rfl, h1, h2, h⟩
theorem gnil {R : L2.St → Hp → Prop} (h : R σ H) : gNil [] σ H R := ⟨rfl, h⟩
theorem gcons {t : TG} {u : TGs} {v : V} {r : List V} {R : L2.St → Hp → Prop} (h : t v σ H fun σ' H' => u r σ' H' R) : gCons t u (v :: r) σ H R := ⟨v, r, rfl, h⟩
theorem ret {te : TE} (h : te σ H rt) : tRet te ⟨nx, rt, bk, ct⟩ σ H := h
theorem retN (h : rt .non H) : tRetN ⟨nx, rt, bk, ct⟩ σ H := h
theorem drop {te : TE} (h : te σ H fun _ H1 => nx σ H1) : tDrop te ⟨nx, rt, bk, ct⟩ σ H := h
theorem ifs {c : TT} {t u : TS} (h : c σ H fun b H1 => if b = true then t D σ H1 else u D σ H1) : tIfS c t u D σ H := h
theorem aug {i : Nat} {te : TE} {ti : TIp} {x : V} (h0 : σ[i]? = some (some x)) (h : te σ H fun y H1 => ti x y H1 fun z H2 => nx (σ.set i (some z)) H2) : tAug i te ti ⟨nx, rt, bk, ct⟩ σ H := ⟨x, h0, h⟩
theorem ipi {f : Int → Int → Int} {i j : Int} (h : Q (.int (f i j)) H) : ipI f (.int i) (.int j) H Q := ⟨i, j, rfl, rfl, h⟩
theorem par {i j : Nat} {ta : TA} (h : ta σ H fun vs H1 => ∃ v w, vs = [v, w] ∧ nx ((σ.set i (some v)).set j (some w)) H1) : tPar i j ta ⟨nx, rt, bk, ct⟩ σ H := h
theorem par2 {i j : Nat} {v w : V} {R : L2.St → Hp → Prop} (h : R ((σ.set i (some v)).set j (some w)) H) : ∃ v' w', [v, w] = [v', w'] ∧ R ((σ.set i (some v')).set j (some w')) H := ⟨v, w, rfl, h⟩
/-! expressions -/
theorem var {i : Nat} {v : V} (h0 : σ[i]? = some (some v)) (h : Q v H) : tVar i σ H Q := ⟨v, h0, h⟩
theorem cst {v : V} (h : Q v H) : tC v σ H Q := h
theorem op {r : R2} {ta tb : TE} (h : ta σ H fun x H1 => tb σ H1 fun y H2 => r x y H2 Q) : tOp r ta tb σ H Q := h
theorem un {r : V → Hp → VK → Prop} {ta : TE} (h : ta σ H fun x H1 => r x H1 Q) : tUn r ta σ H Q := h
theorem cb {r : List V → Hp → VK → Prop} {t : TA} (h : t σ H fun vs H1 => r vs H1 Q) : tCB r t σ H Q := h
theorem anil {R : List V → Hp → Prop} (h : R [] H) : tNil σ H R := h
theorem acons {ta : TE} {tr : TA} {R : List V → Hp → Prop} (h : ta σ H fun x H1 => tr σ H1 fun xs H2 => R (x :: xs) H2) : tCons ta tr σ H R := h
theorem ifx {t : TT} {ta tb : TE} (h : t σ H fun c H1 => if c = true then ta σ H1 Q else tb σ H1 Q) : tIf t ta tb σ H Q := h
theorem notv {ta : TE} (h : ta σ H fun x H1 => ∃ c, x = .bl c ∧ Q (.bl (!c)) H1) : tNotV ta σ H Q := h
theorem andv {ta tb : TE} (h : ta σ H fun x H1 => ∃ c, x = .bl c ∧ if c = true then tb σ H1 Q else Q (.bl false) H1) : tAndV ta tb σ H Q := h
theorem orv {ta tb : TE} (h : ta σ H fun x H1 => ∃ c, x = .bl c ∧ if c = true then Q (.bl true) H1 else tb σ H1 Q) : tOrV ta tb σ H Q := h
theorem chain {r r' : R2} {ta tb tc : TE} (h : ta σ H fun x H1 => tb σ H1 fun y H2 => r x y H2 fun z H3 => ∃ k, z = .bl k ∧ (if k = true then tc σ H3 fun u H4 => r' y u H4 Q else Q (.bl false) H3)) : tChain r r' ta tb tc σ H Q := h
theorem atI0 {x : V} {xs : List V} : atI (x :: xs) 0 = some x := by
  unfold atI ixN
  rw [if_pos (by omega), if_pos (by rw [List.length_cons]; omega)]
  rfl
theorem ixN0 {x : V} {xs : List V} : ixN (x :: xs).length 0 = some 0 := by
  unfold ixN
  rw [if_pos (by omega), if_pos (by rw [List.length_cons]; omega)]
  rfl
/-! tests -/
theorem test {t : TE} {R : Bool → Hp → Prop} (h : t σ H fun x H' => ∃ k, x = .bl k ∧ R k H') : tTest t σ H R := h
theorem tb {t : TE} {R : Bool → Hp → Prop} (h : t σ H fun x H' => ∃ k, x = .bl k ∧ R k H') : tB t σ H R := h
theorem tand {t u : TT} {R : Bool → Hp → Prop} (h : t σ H fun c H1 => if c = true then u σ H1 R else R false H1) : tAnd t u σ H R := h
theorem tor {t u : TT} {R : Bool → Hp → Prop} (h : t σ H fun c H1 => if c = true then R true H1 else u σ H1 R) : tOr t u σ H R := h
theorem tnot {t : TT} {R : Bool → Hp → Prop} (h : t σ H fun c H1 => R (!c) H1) : tNot t σ H R := h
theorem tyes {R : Bool → Hp → Prop} (h : R true H) : tYes σ H R := h
theorem exbl {b : Bool} {R : Bool → Prop} (h : R b) : ∃ k, V.bl b = .bl k ∧ R k := ⟨b, rfl, h⟩
theorem iteT {A B : Prop} (h : A) : if true = true then A else B := by rw [if_pos rfl]; exact h
theorem iteF {A B : Prop} (h : B) : if false = true then A else B := by rw [if_neg Bool.false_ne_true]; exact h
theorem iteNT {A B : Prop} (h : B) : if (!true) = true then A else B := iteF h
theorem iteNF {A B : Prop} (h : A) : if (!false) = true then A else B := iteT h
theorem iteD {c A B : Prop} [Decidable c] (h1 : c → A) (h2 : ¬ c → B) : if decide c = true then A else B := by
  by_cases h : c
  · rw [decide_eq_true h, if_pos rfl]; exact h1 h
  · rw [decide_eq_false h, if_neg Bool.false_ne_true]; exact h2 h
theorem iteND {c A B : Prop} [Decidable c] (h1 : ¬ c → A) (h2 : c → B) : if (!decide c) = true then A else B := by
  by_cases h : c
  · rw [decide_eq_true h]; exact iteF (h2 h)
  · rw [decide_eq_false h]; exact iteT (h1 h)
theorem iteB {b : Bool} {A B : Prop} (h1 : b = true → A) (h2 : b = false → B) : if b = true then A else B := by
  cases b
  · exact iteF (h2 rfl)
  · exact iteT (h1 rfl)
theorem iteNB {b : Bool} {A B : Prop} (h1 : b = false → A) (h2 : b = true → B) : if (!b) = true then A else B := by
  cases b
  · exact iteT (h1 rfl)
  · exact iteF (h2 rfl)
/-! operators by values -/
theorem i0 {g : Int → Int → V} {i j : Int} (h : Q (g i j) H) : rI0 g (.int i) (.int j) H Q := ⟨i, j, rfl, rfl, h⟩
theorem iC {C : Int → Int → Prop} {g : Int → Int → V} {i j : Int} (hc : C i j) (h : Q (g i j) H) : rI C g (.int i) (.int j) H Q := ⟨i, j, rfl, rfl, hc, h⟩
theorem u1 {g : Int → V} {i : Int} (h : Q (g i) H) : rU g (.int i) H Q := ⟨i, rfl, h⟩
theorem eqI {i j : Int} (h : Q (.bl (decide (i = j))) H) : rEq (.int i) (.int j) H Q := ⟨rfl, by rw [show decide (V.int i = V.int j) = decide (i = j) by simp]; exact h⟩
theorem neI {i j : Int} (h : Q (.bl (!decide (i = j))) H) : rNe (.int i) (.int j) H Q := ⟨rfl, by rw [show decide (V.int i = V.int j) = decide (i = j) by simp]; exact h⟩
theorem eqS {i j : Str} (h : Q (.bl (decide (i = j))) H) : rEq (.str i) (.str j) H Q := ⟨rfl, by rw [show decide (V.str i = V.str j) = decide (i = j) by simp]; exact h⟩
theorem neS {i j : Str} (h : Q (.bl (!decide (i = j))) H) : rNe (.str i) (.str j) H Q := ⟨rfl, by rw [show decide (V.str i = V.str j) = decide (i = j) by simp]; exact h⟩
theorem eqB {i j : Bool} (h : Q (.bl (decide (i = j))) H) : rEq (.bl i) (.bl j) H Q := ⟨rfl, by rw [show decide (V.bl i = V.bl j) = decide (i = j) by simp]; exact h⟩
theorem neB {i j : Bool} (h : Q (.bl (!decide (i = j))) H) : rNe (.bl i) (.bl j) H Q := ⟨rfl, by rw [show decide (V.bl i = V.bl j) = decide (i = j) by simp]; exact h⟩
theorem eqX {x y : V} (hs : scal x y = true) (h : Q (.bl (decide (x = y))) H) : rEq x y H Q := ⟨hs, h⟩
theorem neX {x y : V} (hs : scal x y = true) (h : Q (.bl (!decide (x = y))) H) : rNe x y H Q := ⟨hs, h⟩
theorem ixl {p : Addr} {xs : List V} {i : Int} {v : V} (h1 : SqL K H p xs) (h2 : atI xs i = some v) (h : Q v H) : rIxL K (.ref p) (.int i) H Q := ⟨p, xs, i, v, rfl, rfl, h1, h2, h⟩
theorem ixt {p : Addr} {xs : List V} {i : Int} {v : V} (h1 : SqT K H p xs) (h2 : atI xs i = some v) (h : Q v H) : rIxT K (.ref p) (.int i) H Q := ⟨p, xs, i, v, rfl, rfl, h1, h2, h⟩
theorem setl {p : Addr} {xs : List V} {k : Int} {j : Nat} {v : V} {R : Hp → Prop} (h1 : H p = some (.lst xs)) (h2 : ixN xs.length k = some j) (h : R (upd H p (.lst (xs.set j v)))) : rSetL (.ref p) (.int k) v H R := ⟨p, xs, k, j, rfl, rfl, h1, h2, h⟩
theorem lenL {p : Addr} {ys : List V} (h1 : SqL K H p ys) (h : Q (.int ys.length) H) : rLen K [V.ref p] H Q := .inl ⟨p, ys, rfl, .inl h1, h⟩
theorem lenT {p : Addr} {ys : List V} (h1 : SqT K H p ys) (h : Q (.int ys.length) H) : rLen K [V.ref p] H Q := .inl ⟨p, ys, rfl, .inr h1, h⟩
theorem lenS {z : Str} (h1 : z.length ≤ sizeLine) (h : Q (.int z.length) H) : rLen K [V.str z] H Q := .inr ⟨z, rfl, h1, h⟩
theorem int1 {i : Int} (h : Q (.int i) H) : rInt [V.int i] H Q := .inl ⟨i, rfl, h⟩
theorem intb {b : Bool} (h : Q (.int (if b then 1 else 0)) H) : rInt [V.bl b] H Q := .inr ⟨b, rfl, h⟩
theorem abs1 {i : Int} (h : Q (.int (if i < 0 then -i else i)) H) : rAbs [V.int i] H Q := ⟨i, rfl, h⟩
theorem lof {p : Addr} {ys : List V} (h1 : SqL K H p ys ∨ SqT K H p ys) (h : ∀ l, H l = none → Q (.ref l) (upd H l (.lst ys))) : rListOf K [V.ref p] H Q := ⟨p, ys, rfl, h1, h⟩
theorem tof {p : Addr} {ys : List V} (h1 : SqL K H p ys) (h : ∀ l, H l = none → Q (.ref l) (upd H l (.tup ys))) : rTupOf K [V.ref p] H Q := ⟨p, ys, rfl, .inl ⟨h1, h⟩⟩
theorem bm {T : String} {r : V → List V → Hp → VK → Prop} {to : TE} {t : TA} (h : to σ H fun x H1 => tyV K T x H1 ∧ t σ H1 fun xs H2 => r x xs H2 Q) : tBM K T r to t σ H Q := h
theorem bm0 {T : String} {r : V → List V → Hp → VK → Prop} {to : TE} (h : to σ H fun x H1 => tyV K T x H1 ∧ r x [] H1 Q) : tBM0 K T r to σ H Q := h
theorem tyl {p : Addr} {xs : List V} {B : Prop} (h1 : H p = some (.lst xs)) (h : B) : tyV K "list" (.ref p) H ∧ B := ⟨Or.inl ⟨rfl, _, SqL.of h1⟩, h⟩
theorem appl {l : Addr} {xs : List V} {y : V} (h1 : H l = some (.lst xs)) (h2 : xs.length < sizeLine) (h : Q .non (upd H l (.lst (xs ++ [y])))) : rAppend (.ref l) [y] H Q := ⟨l, xs, y, rfl, rfl, h1, h2, h⟩
theorem popat00 {l : Addr} {y : V} {xs : List V} (h1 : H l = some (.lst (y :: xs))) (h : Q y (upd H l (.lst xs))) : rPopAt (.ref l) [.int 0] H Q := ⟨l, y :: xs, 0, 0, y, rfl, rfl, h1, by decide, by decide, by
  unfold seqIndex?
  simp, rfl, h⟩
theorem popat {l : Addr} {xs : List V} {i : Int} {k : Nat} {y : V} (h1 : H l = some (.lst xs)) (a : -(2 ^ 63) ≤ i ∧ i < 2 ^ 63) (h2 : seqIndex? i xs.length = some k) (h3 : xs[k]? = some y) (h : Q y (upd H l (.lst (xs.eraseIdx k)))) : rPopAt (.ref l) [.int i] H Q := ⟨l, xs, i, k, y, rfl, rfl, h1, a.1, a.2, h2, h3, h⟩
theorem pop {l : Addr} {xs : List V} {y : V} (h1 : H l = some (.lst xs)) (h3 : xs[xs.length - 1]? = some y) (h : Q y (upd H l (.lst xs.dropLast))) : rPop (.ref l) [] H Q := ⟨l, xs, y, rfl, rfl, h1, h3, h⟩
theorem lst {t : TA} (h : t σ H fun xs H1 => xs.length ≤ sizeLine ∧ ∀ p, H1 p = none → Q (.ref p) (upd H1 p (.lst xs))) : tLst t σ H Q := h
theorem tup {t : TA} (h : t σ H fun xs H1 => xs.length ≤ sizeLine ∧ ∀ p, H1 p = none → Q (.ref p) (upd H1 p (.tup xs))) : tTup t σ H Q := h
theorem new {n : Nat} {o : HO} {R : V → Hp → Prop} (h1 : n ≤ 1000) (h : ∀ p, H p = none → R (.ref p) (upd H p o)) : n ≤ sizeLine ∧ ∀ p, H p = none → R (.ref p) (upd H p o) := ⟨Nat.le_trans h1 (by decide), h⟩
theorem sl {r : V → Option Int → Option Int → Hp → VK → Prop} {te : TE} {tl th : TO} (h : te σ H fun x H1 => tl σ H1 fun l H2 => th σ H2 fun u H3 => r x l u H3 Q) : tSl r te tl th σ H Q := h
theorem nopart {R : Option Int → Hp → Prop} (h : R none H) : tNoPart σ H R := h
theorem part {t : TE} {R : Option Int → Hp → Prop} (h : t σ H fun x H1 => ∃ i, x = .int i ∧ R (some i) H1) : tPart t σ H R := h
theorem szl {xs : List V} (h : xs.length ≤ 1000) : xs.length ≤ sizeLine := Nat.le_trans h (by decide)
theorem szl2 {n m : Nat} (h : n + m ≤ 1000) : n + m ≤ sizeLine := Nat.le_trans h (by decide)
theorem szl2' {n m : Nat} (h : n + m ≤ 100000) : n + m ≤ sizeLine := Nat.le_trans h (by decide)
theorem exint {i : Int} {R : Int → Prop} (h : R i) : ∃ k, V.int i = .int k ∧ R k := ⟨i, rfl, h⟩
theorem sll {a : Addr} {xs : List V} {lo hi : Option Int} (h1 : SqL K H a xs) (h : ∀ p, H p = none → Q (.ref p) (upd H p (.lst (cutV xs lo hi)))) : rSlL K (.ref a) lo hi H Q := ⟨a, xs, rfl, h1, h⟩
theorem call {sp : Sp} {dvs : List V} {E : XK} {t : TA} (h : t σ H fun vs H1 => sp (vs ++ dvs) H1 Q E) : tCall sp dvs E t σ H Q := h
theorem upd_new {q p : Addr} {o u : HO} (hp : H p = none) (h : H q = some u) : upd H p o q = some u := by rw [upd_ne (ne_of_none h hp)]; exact h
theorem upd_off {q p : Addr} {o : HO} {u : Option HO} (hp : q ≠ p) (h : H q = u) : upd H p o q = u := by rw [upd_ne hp]; exact h
theorem upd_off' {q p : Addr} {o : HO} {u : Option HO} (hp : p ≠ q) (h : H q = u) : upd H p o q = u := by rw [upd_ne (Ne.symm hp)]; exact h
end
/-! own calls, own errors, joined lists, unequal things -/
section
variable {σ : L2.St} {H : Hp} {Q : VK} {K : PySem.W.Frag}
theorem cat {l b : Addr} {xs zs : List V} (h1 : H l = some (.lst xs)) (h2 : H b = some (.lst zs)) (h3 : xs.length + zs.length ≤ sizeLine) (h : ∀ p, H p = none → Q (.ref p) (upd H p (.lst (xs ++ zs)))) : rCat (.ref l) (.ref b) H Q := ⟨l, b, xs, zs, rfl, rfl, h1, h2, h3, h⟩
theorem df {sp : Sp} {E : L2.St → XK} {t : TA} (h : t σ H fun vs H1 => sp vs H1 Q (E σ)) : Gl.tDf sp E t σ H Q := h
theorem par3 {nx bk ct : L2.St → Hp → Prop} {rt : VK} {i j l : Nat} {ta : TA} (h : ta σ H fun vs H1 => ∃ u v w, vs = [u, v, w] ∧ nx (((σ.set i (some u)).set j (some v)).set l (some w)) H1) : tPar3 i j l ta ⟨nx, rt, bk, ct⟩ σ H := h
theorem par33 {i j l : Nat} {u v w : V} {R : L2.St → Hp → Prop} (h : R (((σ.set i (some u)).set j (some v)).set l (some w)) H) : ∃ u' v' w', [u, v, w] = [u', v', w'] ∧ R (((σ.set i (some u')).set j (some v')).set l (some w')) H := ⟨u, v, w, rfl, h⟩
theorem mkN {C : Addr} (h : ∀ a, H a = none → Q (.ref a) (upd H a (exo a C none))) : tMkN C σ H Q := h
theorem mkE {i : Nat} {C : Addr} {f : Str} {v : V} (h0 : σ[i]? = some (some v)) (h : ∀ d, H d = none → ∀ a, upd H d (.xd [(f, v)]) a = none → Q (.ref a) (upd (upd H d (.xd [(f, v)])) a (exo a C (some d)))) : tMkE K C f (tVar i) σ H Q :=
  ⟨v, h0, fun a d hd ha ne => h d hd a (by rw [upd_ne ne]; exact ha)⟩
theorem fldE {i : Nat} {n : Str} {a C d : Addr} {v : V} (h0 : σ[i]? = some (some (.ref a))) (h1 : H a = some (exo a C (some d))) (h2 : H d = some (.xd [(n, v)])) (h3 : XfC K C) (h4 : PySem.W.findIn K (.ref C) n = some none) (h : Q v H) :
    tFldE K n (tVar i) σ H Q := ⟨_, h0, a, C, d, v, rfl, h3, h4, h1, h2, h⟩
def rNeA (K : PySem.W.Frag) : R2 := fun x y H Q => rNe x y H Q ∨ rNeD K x y H Q ∨ rNeDA x y H Q
theorem op_neA {X : Cx} {k : Nat} (hr : Room k X.A) : OpR X (compareOp .NotEq) (rNeA X.K) := op_ne.or ((op_neD hr.units).or (op_ne_dictA (Nat.lt_of_le_of_lt (Nat.le_add_right _ _) hr.units)))
theorem upd_upd {H : Hp} {a : Addr} {o u : HO} : upd (upd H a o) a u = upd H a u := by
  funext b
  by_cases e : b = a
  · rw [e, upd_same, upd_same]
  · rw [upd_ne e, upd_ne e, upd_ne e]
theorem same_new {H : Hp} {a : Addr} {o : HO} (h : H a = none) : Same H (upd H a o) := fun b u e => by rw [upd_ne (ne_of_none e h)]; exact e
theorem lcW {g : TG} {tt : TT} {te : TE} {vs : List Nat} {H1 : Hp} {a : Addr} {xs : List V} (h1 : SqL K H1 a xs) (h2 : xs.length ≤ 1000) {p : V → Bool} {f : V → V}
    (step : ∀ x, x ∈ xs → ∀ (H2 : Hp) (S : VK) (F : Hp → Prop), Same H1 H2 → (p x = true → S (f x) H2) → (p x = false → F H2) → g x (wipe σ vs) H2 fun σ2 H3 => wipe σ2 vs = wipe σ vs ∧ tt σ2 H3 fun b H4 => if b = true then te σ2 H4 S else F H4)
    (last : ∀ D, H1 D = none → Q (.ref D) (upd H1 D (.lst ((xs.filter p).map f)))) (D : Addr) (hD : H1 D = none) :
    ∃ W : Nat → Nat → Hp → Prop, (∃ m, W 0 m (upd H1 D (.lst []))) ∧ ∀ i m H, W i m H →
      ((Itl K a).stop i H ∧ Q (.ref D) H) ∨ ((Itl K a).go i H ∧ ∃ Nx : Hp → Prop, (∀ H', Nx H' → ∃ m', m' < m ∧ W (i + 1) m' H') ∧ ∀ x H', (Itl K a).yld i H x H' → g x (wipe σ vs) H' fun σ2 H2 => wipe σ2 vs = wipe σ vs ∧ tt σ2 H2 fun b H3 =>
        if b = true then te σ2 H3 fun y H4 => ∃ acc, H4 D = some (.lst acc) ∧ acc.length < sizeLine ∧ Nx (upd H4 D (.lst (acc ++ [y]))) else Nx H3) := by
  refine lc_list (xs := xs) (D := D) (fun i H => H = upd H1 D (.lst (((xs.take i).filter p).map f))) (by simp) (fun i H hi e => ?_) (fun i x H e1 e2 => ?_) (fun H e => ?_)
  · subst e
    exact (same_new hD).seq h1
  · subst e2
    have tk : xs.take (i + 1) = xs.take i ++ [x] := by rw [List.take_succ, e1]; rfl
    refine step x (List.mem_of_getElem? e1) _ _ _ (same_new hD) (fun hp => ⟨_, upd_same, ?_, ?_⟩) (fun hp => ?_)
    · rw [List.length_map]
      refine Nat.lt_of_le_of_lt (Nat.le_trans (List.length_filter_le _ _) (Nat.le_trans (List.length_take_le _ _) (Nat.le_refl i))) (small1000 ?_)
      have := (List.getElem?_eq_some_iff.mp e1).1
      omega
    · rw [upd_upd, tk, List.filter_append, List.map_append]
      simp [hp]
    · show upd H1 D _ = upd H1 D _
      rw [tk, List.filter_append, List.map_append]
      simp [hp]
  · subst e
    rw [List.take_length]
    exact last D hD
/-- a comprehension over a list, which changes nothing -/
theorem lcV {i : Nat} {g : TG} {tt : TT} {te : TE} {vs : List Nat} {a : Addr} {xs : List V} (h0 : σ[i]? = some (some (.ref a))) (h1 : SqL K H a xs) (h2 : xs.length ≤ 1000) (p : V → Bool) (f : V → V)
    (step : ∀ x, x ∈ xs → ∀ (H2 : Hp) (S : VK) (F : Hp → Prop), Same H H2 → (p x = true → S (f x) H2) → (p x = false → F H2) → g x (wipe σ vs) H2 fun σ2 H3 => wipe σ2 vs = wipe σ vs ∧ tt σ2 H3 fun b H4 => if b = true then te σ2 H4 S else F H4)
    (last : ∀ D, H D = none → Q (.ref D) (upd H D (.lst ((xs.filter p).map f)))) : tLc (iList K (tVar i)) g tt te vs σ H Q := ⟨_, h0, a, rfl, ⟨xs, h1⟩, lcW h1 h2 step last⟩
theorem lcSl {i : Nat} {lo hi : Option Int} {tlo thi : TO} {g : TG} {tt : TT} {te : TE} {vs : List Nat} {a : Addr} {xs : List V} (h0 : σ[i]? = some (some (.ref a))) (h1 : SqL K H a xs) (h2 : (cutV xs lo hi).length ≤ 1000)
    (hlo : ∀ R : Option Int → Hp → Prop, R lo H → tlo σ H R) (hhi : ∀ R : Option Int → Hp → Prop, R hi H → thi σ H R) (p : V → Bool) (f : V → V)
    (step : ∀ x, x ∈ cutV xs lo hi → ∀ (H2 : Hp) (S : VK) (F : Hp → Prop), Same H H2 → (p x = true → S (f x) H2) → (p x = false → F H2) → g x (wipe σ vs) H2 fun σ2 H3 => wipe σ2 vs = wipe σ vs ∧ tt σ2 H3 fun b H4 => if b = true then te σ2 H4 S else F H4)
    (last : ∀ q, H q = none → ∀ D, upd H q (.lst (cutV xs lo hi)) D = none → Q (.ref D) (upd (upd H q (.lst (cutV xs lo hi))) D (.lst (((cutV xs lo hi).filter p).map f)))) : tLc (iList K (tSl (rSlL K) (tVar i) tlo thi)) g tt te vs σ H Q :=
  ⟨_, h0, hlo _ (hhi _ ⟨a, xs, rfl, h1, fun q hq => ⟨q, rfl, ⟨_, .of upd_same⟩, lcW (.of upd_same) h2 (fun x hx H2 S F hS => step x hx H2 S F ((same_new hq).trans hS)) (last q hq)⟩⟩)⟩
/-- a comprehension over a range, which changes nothing -/
theorem lcR {ta : TA} {g : TG} {tt : TT} {te : TE} {vs : List Nat} {n : Nat} (f : Nat → V) (hn : n ≤ 1000) (ha : ∀ R : List V → Hp → Prop, R [.int (n : Int)] H → ta σ H R)
    (step : ∀ i, i < n → ∀ (H2 : Hp) (S : VK) (F : Hp → Prop), Same H H2 → S (f i) H2 → g (.int (i : Nat)) (wipe σ vs) H2 fun σ2 H3 => wipe σ2 vs = wipe σ vs ∧ tt σ2 H3 fun b H4 => if b = true then te σ2 H4 S else F H4)
    (last : ∀ D, H D = none → Q (.ref D) (upd H D (.lst ((List.range n).map f)))) : tLc (iRng1 ta) g tt te vs σ H Q := by
  refine ha _ ⟨n, rfl, by omega, by omega, fun D hD => ?_⟩
  rw [Int.toNat_natCast]
  refine lc_range (lo := 0) (n := n) (fun i H' => H' = upd H D (.lst ((List.range i).map f))) (by simp) (fun i H' hi e => ?_) (fun H' e => ?_)
  · subst e
    rw [show ((0 : Int) + (i : Nat)) = (i : Nat) by omega]
    refine step i hi _ _ _ (same_new hD) ⟨_, upd_same, ?_, ?_⟩
    · rw [List.length_map, List.length_range]
      exact small1000 (by omega)
    · rw [upd_upd, List.range_succ, List.map_append]
      rfl
  · subst e
    exact last D hD
end
end Rd
set_option Elab.async false
set_option linter.all false
set_option maxRecDepth 100000
set_option maxHeartbeats 4000000
/-! Dt: data that stand on the heap away from the places in B, which alone may change. -/
namespace Dt
open PySem PySem.Spec PyProof.Rows L2
def kD : Key → PyData
  | .inl i => .int i
  | .inr x => .str x
mutual
inductive Da (B : Addr → Prop) (H : Hp) : V → PyData → Prop
  | non : Da B H .non .none
  | bl (b : Bool) : Da B H (.bl b) (.bool b)
  | int (i : Int) : Da B H (.int i) (.int i)
  | str {x : Str} (h : x.length ≤ 1000) : Da B H (.str x) (.str x)
  | lst {a : Addr} {xs : List V} {ds : List PyData} : H a = some (.lst xs) → ¬ B a → DaL B H xs ds → Da B H (.ref a) (.list ds)
  | tup {a : Addr} {xs : List V} {ds : List PyData} : H a = some (.tup xs) → ¬ B a → DaL B H xs ds → Da B H (.ref a) (.tuple ds)
  | dc0 {a : Addr} : H a = some (.dK []) → ¬ B a → Da B H (.ref a) (.dict [])
  | dc1 {a : Addr} {k : Key} {v : V} {d : PyData} : H a = some (.dK [(k, v)]) → ¬ B a → Da B H v d → Da B H (.ref a) (.dict [(kD k, d)])
inductive DaL (B : Addr → Prop) (H : Hp) : List V → List PyData → Prop
  | nil : DaL B H [] []
  | cons {v : V} {vs : List V} {d : PyData} {ds : List PyData} : Da B H v d → DaL B H vs ds → DaL B H (v :: vs) (d :: ds)
end
/-- all that was tracked away from B is as it was -/
def Kp (B : Addr → Prop) (H H' : Hp) : Prop := ∀ b o, H b = some o → ¬ B b → H' b = some o
theorem Kp.refl (B : Addr → Prop) (H : Hp) : Kp B H H := fun _ _ h _ => h
theorem Kp.trans {B : Addr → Prop} {H H1 H2 : Hp} (a : Kp B H H1) (b : Kp B H1 H2) : Kp B H H2 := fun c o h n => b c o (a c o h n) n
theorem Kp.of {B : Addr → Prop} {H H' : Hp} (s : Same H H') : Kp B H H' := fun b o h _ => s b o h
theorem Kp.new {B : Addr → Prop} {H H' : Hp} {a : Addr} {o : HO} (s : Kp B H H') (h : H' a = none) : Kp B H (upd H' a o) := fun b u e n => by
  have z := s b u e n
  rw [upd_ne (ne_of_none z h)]
  exact z
mutual
theorem Da.keep {B : Addr → Prop} {H H' : Hp} (s : Kp B H H') : ∀ {v : V} {d : PyData}, Da B H v d → Da B H' v d
  | _, _, .non => .non
  | _, _, .bl b => .bl b
  | _, _, .int i => .int i
  | _, _, .str h => .str h
  | _, _, .lst e n h => .lst (s _ _ e n) n (h.keep s)
  | _, _, .tup e n h => .tup (s _ _ e n) n (h.keep s)
  | _, _, .dc0 e n => .dc0 (s _ _ e n) n
  | _, _, .dc1 e n h => .dc1 (s _ _ e n) n (h.keep s)
theorem DaL.keep {B : Addr → Prop} {H H' : Hp} (s : Kp B H H') : ∀ {vs : List V} {ds : List PyData}, DaL B H vs ds → DaL B H' vs ds
  | _, _, .nil => .nil
  | _, _, .cons h t => .cons (h.keep s) (t.keep s)
end
theorem DaL.len {B : Addr → Prop} {H : Hp} : ∀ {vs : List V} {ds : List PyData}, DaL B H vs ds → vs.length = ds.length
  | _, _, .nil => rfl
  | _, _, .cons _ t => by rw [List.length_cons, List.length_cons, t.len]
theorem DaL.get {B : Addr → Prop} {H : Hp} : ∀ {vs : List V} {ds : List PyData} {i : Nat} {v : V}, DaL B H vs ds → vs[i]? = some v → ∃ d, ds[i]? = some d ∧ Da B H v d
  | _, _, 0, _, .cons h _, e => by
    cases e
    exact ⟨_, rfl, h⟩
  | _, _, i + 1, w, .cons _ t, e => t.get (i := i) (v := w) (by simpa using e)
  | _, _, _, _, .nil, e => by cases e
theorem DaL.get' {B : Addr → Prop} {H : Hp} : ∀ {vs : List V} {ds : List PyData} {i : Nat} {d : PyData}, DaL B H vs ds → ds[i]? = some d → ∃ v, vs[i]? = some v ∧ Da B H v d
  | _, _, 0, _, .cons h _, e => by
    cases e
    exact ⟨_, rfl, h⟩
  | _, _, i + 1, w, .cons _ t, e => t.get' (i := i) (d := w) (by simpa using e)
  | _, _, _, _, .nil, e => by cases e
theorem DaL.app {B : Addr → Prop} {H : Hp} : ∀ {vs us : List V} {ds es : List PyData}, DaL B H vs ds → DaL B H us es → DaL B H (vs ++ us) (ds ++ es)
  | _, _, _, _, .nil, h => h
  | _, _, _, _, .cons a t, h => .cons a (t.app h)
theorem DaL.drop {B : Addr → Prop} {H : Hp} : ∀ {vs : List V} {ds : List PyData} (n : Nat), DaL B H vs ds → DaL B H (vs.drop n) (ds.drop n)
  | _, _, 0, h => h
  | _, _, n + 1, .nil => .nil
  | _, _, n + 1, .cons _ t => t.drop n
theorem DaL.take {B : Addr → Prop} {H : Hp} : ∀ {vs : List V} {ds : List PyData} (n : Nat), DaL B H vs ds → DaL B H (vs.take n) (ds.take n)
  | _, _, 0, _ => .nil
  | _, _, n + 1, .nil => .nil
  | _, _, n + 1, .cons a t => .cons a (t.take n)
theorem DaL.mem {B : Addr → Prop} {H : Hp} {vs : List V} {ds : List PyData} {v : V} (h : DaL B H vs ds) (hv : v ∈ vs) : ∃ d, d ∈ ds ∧ Da B H v d := by
  obtain ⟨i, hi, e⟩ := List.mem_iff_getElem.mp hv
  obtain ⟨d, e1, e2⟩ := h.get (i := i) (v := v) (by rw [List.getElem?_eq_getElem hi, e])
  exact ⟨d, List.mem_of_getElem? e1, e2⟩
/-- the cut of data, as of values -/
def cutD (ds : List PyData) (lo hi : Option Int) : List PyData := (ds.drop (HT.sIx ds.length 0 lo)).take (HT.sIx ds.length ds.length hi - HT.sIx ds.length 0 lo)
theorem DaL.cut {B : Addr → Prop} {H : Hp} {vs : List V} {ds : List PyData} (h : DaL B H vs ds) (lo hi : Option Int) : DaL B H (cutV vs lo hi) (cutD ds lo hi) := by
  unfold cutV cutD
  rw [h.len]
  exact (h.drop _).take _
/-- a value's type -/
def tyD : PyData → Value
  | .none => .type "NoneType"
  | .bool _ => .type "bool"
  | .int _ => .type "int"
  | .str _ => .type "str"
  | .list _ => .type "list"
  | .tuple _ => .type "tuple"
  | .dict _ => .type "dict"
theorem Da.ty {B : Addr → Prop} {H : Hp} {K : PySem.W.Frag} {v : V} {d : PyData} (h : Da B H v d) : TyX K H v (tyD d) := by
  cases h with
  | non => exact .base .non
  | bl b => exact .base (.bl b)
  | int i => exact .base (.int i)
  | str h => exact .base (.str _)
  | lst e _ _ => exact .base (.lst e)
  | tup e _ _ => exact .base (.tup e)
  | dc0 e _ => exact .base (.dK e)
  | dc1 e _ _ => exact .base (.dK e)
def isT (n : String) (d : PyData) : Bool := match n, d with
  | "tuple", .tuple _ => true
  | "list", .list _ => true
  | "str", .str _ => true
  | "int", .int _ => true
  | "int", .bool _ => true
  | "bool", .bool _ => true
  | _, _ => false
theorem isi {B : Addr → Prop} {H : Hp} {K : PySem.W.Frag} {Q : VK} {v : V} {d : PyData} {n : String} {b : Bool} (h : Da B H v d) (hk : PySem.W.kitOne K (tyD d) (.type n) = some b) (q : Q (.bl b) H) : rIsi K [v, .ty n] H Q :=
  ⟨v, .ty n, tyD d, .type n, b, rfl, .ty n, h.ty, hk, q⟩
theorem isi_tup {B : Addr → Prop} {H : Hp} {K : PySem.W.Frag} {Q : VK} {v : V} {d : PyData} (h : Da B H v d) (q : Q (.bl (isT "tuple" d)) H) : rIsi K [v, .ty "tuple"] H Q := isi h (by cases d <;> rfl) q
theorem isi_str {B : Addr → Prop} {H : Hp} {K : PySem.W.Frag} {Q : VK} {v : V} {d : PyData} (h : Da B H v d) (q : Q (.bl (isT "str" d)) H) : rIsi K [v, .ty "str"] H Q := isi h (by cases d <;> rfl) q
theorem isi_int {B : Addr → Prop} {H : Hp} {K : PySem.W.Frag} {Q : VK} {v : V} {d : PyData} (h : Da B H v d) (q : Q (.bl (isT "int" d)) H) : rIsi K [v, .ty "int"] H Q := isi h (by cases d <;> rfl) q
theorem isi_bool {B : Addr → Prop} {H : Hp} {K : PySem.W.Frag} {Q : VK} {v : V} {d : PyData} (h : Da B H v d) (q : Q (.bl (isT "bool" d)) H) : rIsi K [v, .ty "bool"] H Q := isi h (by cases d <;> rfl) q
theorem isi_list {B : Addr → Prop} {H : Hp} {K : PySem.W.Frag} {Q : VK} {v : V} {d : PyData} (h : Da B H v d) (q : Q (.bl (isT "list" d)) H) : rIsi K [v, .ty "list"] H Q := isi h (by cases d <;> rfl) q

/-! what they read as -/
section
variable {X : Cx} {pins : List (Addr × Obj)} {σ : L2.St} {H : Hp} {s : Shared} {B : Addr → Prop}
theorem key_reads {P : Program} {w : World} {k : Key} {v : Value} {h : Heap} (e : (mixKind P w).is k v = true) : Reads h v (kD k) [] := by
  rcases keyIs_shape e with ⟨i, t, rfl, rfl⟩ | ⟨x, t, rfl, rfl⟩
  · exact .int i t
  · exact .str x t
mutual
theorem Da.reads (I : Inv X pins σ H s) (hm : H sysModules = none) : ∀ {d : PyData} {v : V} {u : Value}, Da B H v d → RelV v u → ∃ as, Reads s.heap u d as ∧ sysModules ∉ as
  | _, _, _, .non, r => by
    cases r
    exact ⟨_, Reads.none, by simp⟩
  | _, _, _, .bl b, r => by
    cases r
    exact ⟨_, Reads.bool b, by simp⟩
  | _, _, _, .int i, r => by
    obtain ⟨t, rfl⟩ := r
    exact ⟨_, Reads.int i t, by simp⟩
  | _, _, _, .str _, r => by
    obtain ⟨t, rfl⟩ := r
    exact ⟨_, Reads.str _ t, by simp⟩
  | _, _, _, .lst (a := a) e n ha, r => by
    cases r
    obtain ⟨its, rv, ⟨o, n, ho, hc, _, hd⟩, _⟩ := I.list (SqL.of e)
    obtain ⟨as, hr, hs⟩ := DaL.reads I hm ha rv
    refine ⟨_, Reads.list ho hc hd hr, fun z => ?_⟩
    rcases List.mem_cons.mp z with z | z
    · rw [← z, hm] at e
      cases e
    · exact hs z
  | _, _, _, .tup e n ha, r => by
    cases r
    obtain ⟨its, rv, ⟨o, ho, hc, n, hd⟩, _⟩ := I.tuple (SqT.of e)
    obtain ⟨as, hr, hs⟩ := DaL.reads I hm ha rv
    exact ⟨_, Reads.tuple ho hc hd hr, hs⟩
  | _, _, _, .dc0 (a := a) e n, r => by
    cases r
    obtain ⟨_, hsm, vs, hk, o, es, ep, ho, hx, hd, _, hp, _⟩ := (show ObjOk X.prog X.w H s.heap a (.dK []) from I.hok a _ e)
    cases hk
    have hp' : Pairs (mixKind X.prog X.w) es.toList [] := hp
    cases hes : es.toList with
    | cons x r => rw [hes] at hp'; cases hp'
    | nil =>
      refine ⟨_, Reads.dict (kvs := []) ho hx.1 hd (by rw [hes]; exact .nil) (by rw [hes]; exact .nil), fun z => ?_⟩
      have z : sysModules = a := by simpa using z
      rw [← z] at hsm
      simp at hsm
  | _, _, _, .dc1 (a := a) (k := k) (v := w) (d := d) e n hv, r => by
    cases r
    obtain ⟨_, hsm, vs, hk, o, es, ep, ho, hx, hd, _, hp, _⟩ := (show ObjOk X.prog X.w H s.heap a (.dK [(k, w)]) from I.hok a _ e)
    cases hk with
    | cons hq hk =>
      cases hk
      rename_i kv
      obtain ⟨h1, h2⟩ := hq
      dsimp only at h1 h2
      cases hes : es.toList with
      | nil => rw [hes] at hp; cases hp
      | cons x r =>
        rw [hes] at hp
        cases hp with
        | cons p1 p2 p3 =>
          cases p3
          rw [← h1] at p1
          rw [← p2] at h2
          obtain ⟨as, hr, hs⟩ := Da.reads I hm hv h2
          refine ⟨_, Reads.dict (kvs := [(kD k, d)]) ho hx.1 hd (by rw [hes]; exact .cons (key_reads p1) .nil) (by rw [hes]; exact .cons hr .nil), fun z => ?_⟩
          have z : sysModules = a ∨ sysModules ∈ as := by simpa using z
          rcases z with z | z
          · rw [← z] at hsm
            simp at hsm
          · exact hs z
theorem DaL.reads (I : Inv X pins σ H s) (hm : H sysModules = none) : ∀ {ds : List PyData} {vs : List V} {us : List Value}, DaL B H vs ds → Vals vs us → ∃ as, ReadsAll s.heap us ds as ∧ sysModules ∉ as
  | _, _, _, .nil, r => by
    cases r
    exact ⟨_, ReadsAll.nil, by simp⟩
  | _, _, _, .cons h1 h2, r => by
    cases r with
    | cons r1 r2 =>
      obtain ⟨as, q1, n1⟩ := Da.reads I hm h1 r1
      obtain ⟨bs, q2, n2⟩ := DaL.reads I hm h2 r2
      exact ⟨_, ReadsAll.cons q1 q2, by rw [List.mem_append]; rintro (z | z); exact n1 z; exact n2 z⟩
end
/-- repr of such data -/
def rRepr (B : Addr → Prop) : List V → Hp → VK → Prop := fun xs H Q => ∃ v d, xs = [v] ∧ Da B H v d ∧ d.showable = true ∧ d.shown.length ≤ sizeLine ∧ d.depth ≤ 190 ∧ Q (.str d.shown) H
theorem call_repr {k : Nat} (hr : Room k X.A) (hG : X.A.guards = some []) (hsm : (X.K.lookup sysModules).isSome = true) : CallR X (.builtin "repr") (rRepr B) := by
  intro pins s σ H xs us Q I r h
  obtain ⟨v, d, rfl, hd, h1, h2, h3, q⟩ := h
  obtain ⟨u, rfl, rv⟩ : ∃ u, us = [u] ∧ RelV v u := by
    cases r with
    | cons a b =>
      cases b
      exact ⟨_, rfl, a⟩
  have hm : H sysModules = none := by
    obtain ⟨o, ho⟩ := Option.isSome_iff_exists.mp hsm
    exact (I.env0.bs _ _ (I.ok.mod.kin _ _ ho)).2
  obtain ⟨as, hR, hns⟩ := hd.reads I hm rv
  have fin : ∀ tk u', EP X pins σ Q (.str d.shown u') { s with toks := tk } := fun tk u' => ⟨.str d.shown, H, I.tok _, ⟨u', rfl⟩, q⟩
  have un := hr.un
  have big : ∀ a, u = Value.ref a → wpAny (model X.prog X.w) X.A (call (.builtin "repr") [u]) (EP X pins σ Q) X.xe s := by
    rintro a rfl
    refine repr_of_reads' hR h1 (fun _ => hns) hG (by omega) (fun _ _ e => e) (fun h' u' tk k => ?_) h2
    exact ⟨.str d.shown, H, I.kept (t' := tk) k, ⟨u', rfl⟩, q⟩
  cases hd with
  | non =>
    cases rv
    exact P.repr_of_none (fin _ _)
  | bl b =>
    cases rv
    refine P.repr_of_bool ?_
    have := fin (s.toks + 1) s.toks
    rw [PyData.shown] at this
    exact this
  | int i =>
    obtain ⟨t, rfl⟩ := rv
    exact P.repr_of_int (by simpa [PyData.showable] using h1) (fin _ _)
  | str _ =>
    obtain ⟨t, rfl⟩ := rv
    exact P.repr_of_str (fin _ _) (by simpa [PyData.shown] using h2)
  | lst _ _ _ => exact big _ rv
  | tup _ _ _ => exact big _ rv
  | dc0 _ _ => exact big _ rv
  | dc1 _ _ _ => exact big _ rv
end
end Dt
set_option Elab.async false
set_option linter.all false
set_option maxRecDepth 100000
set_option maxHeartbeats 4000000
/-! Dg: the readings' words for data. -/
namespace Dt
open PySem PySem.Spec PyProof.Rows L2
/-- d.get(text, x), d a dict of the written part -/
def tKGet2 (K : PySem.W.Frag) (w : World) (td ty tx : TE) : TE := fun σ H Q => td σ H fun x H1 => ∃ a es n, x = .ref a ∧ KDict K w a es n ∧ ty σ H1 fun y H2 => tx σ H2 fun d H3 => ∃ z v, y = .str z ∧ (∀ u0, RelV d u0 → RelV v ((findBy Value.isStrOf es z).getD u0)) ∧ Q v H3
theorem pe_kget2 {X : Cx} {o e f : Expr} {apos cpos : Pos} {td ty tx : TE} (ho : PE X o td) (he : PE X e ty) (hf : PE X f tx) (m : M2 X o "get" apos e f cpos) : PE X (.Call (.Attribute o "get" apos) [e, f] [] cpos) (tKGet2 X.K X.w td ty tx) := by
  refine ⟨fun pins s σ H Q I h => ?_⟩
  refine wpAny_Call_method m.base m.few m.line PySem.F.plainAttrs_dict PySem.F.slot_dict_get PySem.F.type_dict_get (thn (ho.run pins s σ H _ I h) fun u s1 ⟨x, H1, I1, rx, a, es, n, ex, D, q1⟩ => ?_)
  subst ex
  obtain rfl : u = Value.ref a := rx
  obtain ⟨hl, hk, hsm⟩ := D
  have hm1 := PySem.W.mapOf_K (prog := X.prog) (w := X.w) I1.kIn hl hk
  refine ⟨hm1.typeIs, fun b q => ?_, ?_⟩
  · cases q
    exact ⟨_, I1.kIn _ _ hl, rfl⟩
  rw [m.trees]
  refine Calls.callWith_builtin rfl (Calls.evalArgs_plain (Calls.spliced_cons (thn (he.run pins s1 σ H1 _ I1 q1) fun iv s2 ⟨y, H2, I2, ry, q2⟩ =>
    Calls.spliced_cons (thn (hf.run pins s2 σ H2 _ I2 q2) fun fv s3 ⟨d, H3, I3, rd, z, v, ey, rv, q3⟩ => Calls.spliced_nil ?_))))
  subst ey
  obtain ⟨t, rfl⟩ := ry
  have hm3 := PySem.W.mapOf_K (prog := X.prog) (w := X.w) I3.kIn hl hk
  refine call_meetsIn PySem.F.slot_dict_get hm3.typeIs PySem.F.entry_dict_get (PySem.F.args_dict_get_3 _ _ _) (meets_dict_get_default (strKind X.prog X.w) a (strKind_is X.prog X.w z t) hsm fv) ⟨_, hm3, ?_⟩
  exact ⟨v, H3, I3.tok _, rv _ rd, q3⟩
/-- a text times an int -/
def mulT (z : Str) (n : Int) : Str := ⟨(List.replicate n.toNat z.cps).foldl (· ++ ·) #[]⟩
def rMulS : R2 := fun x y H Q => ∃ z n, x = .str z ∧ y = .int n ∧ 2 ≤ n ∧ n ≤ 1000 ∧ (n == 1 || z.length == 0) = false ∧ z.length ≤ 1000 ∧ Builtin.Str.tooLong (z.length * n.toNat) = false ∧ (mulT z n).length ≤ sizeLine ∧ Q (.str (mulT z n)) H
theorem op_mulS {X : Cx} : OpR X (binaryOp .Mult) rMulS := by
  intro pins s σ H x y v u Q I rx ry h
  obtain ⟨z, n, rfl, rfl, h1, h2, h3, h4, h5, h6, q⟩ := h
  obtain ⟨t, rfl⟩ := rx
  obtain ⟨t', rfl⟩ := ry
  refine P.mul_str (by rw [decide_eq_false (by omega), decide_eq_false (by omega)]; rfl) (fun _ _ => ?_) (fun _ _ => h5) ?_
  · have h7 : (1000 : Int) ≤ (2 ^ 63 - 1) / n := by
      rw [Int.le_ediv_iff_mul_le (by omega)]
      omega
    omega
  · rw [if_neg (by omega), if_neg (by rw [h3]; exact Bool.false_ne_true)]
    exact ⟨h6, ⟨.str (mulT z n), H, I.tok _, ⟨_, rfl⟩, q⟩⟩
theorem mulS {H : Hp} {Q : VK} {z : Str} {n : Int} (h1 : 2 ≤ n) (h2 : n ≤ 1000) (h3 : ((n == 1 || z.length == 0) = false) ∧ z.length ≤ 1000) (h5 : Builtin.Str.tooLong (z.length * n.toNat) = false) (h6 : (mulT z n).length ≤ sizeLine) (h : Q (.str (mulT z n)) H) : rMulS (.str z) (.int n) H Q := ⟨z, n, rfl, rfl, h1, h2, h3.1, h3.2, h5, h6, h⟩
theorem dnew {σ : L2.St} {H : Hp} {Q : VK} (h : ∀ p, H p = none → Q (.ref p) (upd H p (.dK []))) : tDNewK σ H Q := h
/-- B stands -/
def Tr (B : Addr → Prop) (H : Hp) : Prop := ∀ a, H a = none → ¬ B a
theorem Tr.same {B : Addr → Prop} {H H' : Hp} (t : Tr B H) (s : Same H H') : Tr B H' := fun a h => t a (s.free h)
theorem Tr.none {H : Hp} : Tr (fun _ => False) H := fun _ _ z => z
theorem Da.same {B : Addr → Prop} {H H' : Hp} {v : V} {d : PyData} (h : Da B H v d) (s : Same H H') : Da B H' v d := h.keep (.of s)
theorem DaL.same {B : Addr → Prop} {H H' : Hp} {v : List V} {d : List PyData} (h : DaL B H v d) (s : Same H H') : DaL B H' v d := h.keep (.of s)
mutual
theorem Da.imp {B B' : Addr → Prop} {H : Hp} (h : ∀ a o, H a = some o → ¬ B a → ¬ B' a) : ∀ {v : V} {d : PyData}, Da B H v d → Da B' H v d
  | _, _, .non => .non
  | _, _, .bl b => .bl b
  | _, _, .int i => .int i
  | _, _, .str x => .str x
  | _, _, .lst e n l => .lst e (h _ _ e n) (l.imp h)
  | _, _, .tup e n l => .tup e (h _ _ e n) (l.imp h)
  | _, _, .dc0 e n => .dc0 e (h _ _ e n)
  | _, _, .dc1 e n l => .dc1 e (h _ _ e n) (l.imp h)
theorem DaL.imp {B B' : Addr → Prop} {H : Hp} (h : ∀ a o, H a = some o → ¬ B a → ¬ B' a) : ∀ {vs : List V} {ds : List PyData}, DaL B H vs ds → DaL B' H vs ds
  | _, _, .nil => .nil
  | _, _, .cons a t => .cons (a.imp h) (t.imp h)
end
section
variable {σ : L2.St} {H : Hp} {Q : VK} {K : PySem.W.Frag} {B : Addr → Prop}
theorem cutV_whole {α : Type} {xs : List α} {lo hi : Option Int} (h : HT.sIx xs.length 0 lo = 0 ∧ HT.sIx xs.length xs.length hi = xs.length) : (xs.drop (HT.sIx xs.length 0 lo)).take (HT.sIx xs.length xs.length hi - HT.sIx xs.length 0 lo) = xs := by
  rw [h.1, h.2]
  simp
/-- a slice of a tuple -/
theorem sl {v : V} {ds : List PyData} {lo hi : Option Int} (h : Da B H v (.tuple ds)) (t : Tr B H) (k : ∀ (u : V) (H' : Hp), Same H H' → Da B H' u (.tuple (cutD ds lo hi)) → Q u H') : rSlA K v lo hi H Q := by
  cases h with
  | @tup a xs _ e n hl =>
    refine ⟨a, xs, rfl, .of e, fun hw => k _ _ (Same.refl _) ?_, fun hw p hp => k _ _ (Rd.same_new hp) ?_⟩
    · have hw' : HT.sIx ds.length 0 lo = 0 ∧ HT.sIx ds.length ds.length hi = ds.length := by rw [hl.len] at hw; exact hw
      unfold cutD
      rw [cutV_whole hw']
      exact .tup e n hl
    · exact .tup upd_same (t _ hp) ((hl.cut lo hi).same (Rd.same_new hp))
/-- tuples joined -/
theorem cat {v u : V} {ds es : List PyData} (h1 : Da B H v (.tuple ds)) (h2 : Da B H u (.tuple es)) (t : Tr B H) (hz : ds.length + es.length ≤ sizeLine) (k : ∀ (u : V) (H' : Hp), Same H H' → Da B H' u (.tuple (ds ++ es)) → Q u H') : rCatA K v u H Q := by
  cases h1 with
  | @tup a xs _ e n hl =>
    cases h2 with
    | @tup b ys _ e2 n2 hl2 =>
      refine ⟨a, b, xs, ys, rfl, rfl, .of e, .of e2, by rw [hl.len, hl2.len]; exact hz, fun hx => ?_, fun hx hy => ?_, fun hx hy p hp => ?_⟩
      · subst hx
        cases hl
        exact k _ _ (Same.refl _) (.tup e2 n2 hl2)
      · subst hy
        cases hl2
        rw [List.append_nil] at k
        exact k _ _ (Same.refl _) (.tup e n hl)
      · exact k _ _ (Rd.same_new hp) (.tup upd_same (t _ hp) ((hl.app hl2).same (Rd.same_new hp)))
/-- a new tuple, a new list, a new dict of data -/
theorem newT {xs : List V} {ds : List PyData} (h : DaL B H xs ds) (t : Tr B H) (hz : ds.length ≤ sizeLine) (k : ∀ (u : V) (H' : Hp), Same H H' → Da B H' u (.tuple ds) → Q u H') : xs.length ≤ sizeLine ∧ ∀ p, H p = none → Q (.ref p) (upd H p (.tup xs)) :=
  ⟨by rw [h.len]; exact hz, fun p hp => k _ _ (Rd.same_new hp) (.tup upd_same (t _ hp) (h.same (Rd.same_new hp)))⟩
theorem newL {xs : List V} {ds : List PyData} (h : DaL B H xs ds) (t : Tr B H) (hz : ds.length ≤ sizeLine) (k : ∀ (u : V) (H' : Hp), Same H H' → Da B H' u (.list ds) → Q u H') : xs.length ≤ sizeLine ∧ ∀ p, H p = none → Q (.ref p) (upd H p (.lst xs)) :=
  ⟨by rw [h.len]; exact hz, fun p hp => k _ _ (Rd.same_new hp) (.lst upd_same (t _ hp) (h.same (Rd.same_new hp)))⟩
theorem d0 (t : Tr B H) (k : ∀ (u : V) (H' : Hp), Same H H' → Da B H' u (.dict []) → Q u H') : tDNewK σ H Q := fun p hp => k _ _ (Rd.same_new hp) (.dc0 upd_same (t _ hp))
/-- a comprehension over a text, which changes nothing -/
theorem lcS {te0 : TE} {g : TG} {tt : TT} {te : TE} {vs : List Nat} {x : Str} (h0 : ∀ S : VK, S (.str x) H → te0 σ H S) (hz : x.length ≤ 1000) (f : Nat → V)
    (step : ∀ c, c ∈ x.cps.toList → ∀ (H2 : Hp) (S : VK) (F : Hp → Prop), Same H H2 → S (f c) H2 → g (.str ⟨#[c]⟩) (wipe σ vs) H2 fun σ2 H3 => wipe σ2 vs = wipe σ vs ∧ tt σ2 H3 fun b H4 => if b = true then te σ2 H4 S else F H4)
    (last : ∀ D, H D = none → Q (.ref D) (upd H D (.lst (x.cps.toList.map f)))) : tLc (iStr te0) g tt te vs σ H Q := by
  refine h0 _ ⟨x, rfl, fun D hD => lc_it walk_str (fun i H' => H' = upd H D (.lst ((x.cps.toList.take i).map f))) (by simp) (fun _ _ _ _ => True.intro) (fun i y H' H'' hi e hy => ?_) (fun H' e => ?_)⟩
  · subst e
    obtain ⟨rfl, c, hc, rfl⟩ := hy
    have hc' : x.cps.toList[i]? = some c := by rw [Array.getElem?_toList]; exact hc
    have tk : x.cps.toList.take (i + 1) = x.cps.toList.take i ++ [c] := by rw [List.take_add_one, hc']; rfl
    refine step c (List.mem_of_getElem? hc') _ _ _ (Rd.same_new hD) ⟨_, upd_same, ?_, ?_⟩
    · rw [List.length_map]
      have hl : i < x.length := hi
      exact Nat.lt_of_le_of_lt (List.length_take_le _ _) (small1000 (by omega))
    · rw [Rd.upd_upd, tk, List.map_append]
      rfl
  · subst e
    rw [show x.cps.size = x.cps.toList.length by simp, List.take_length]
    exact last D hD
/-- a comprehension over a tuple, which may lay new things -/
theorem lcT {te0 : TE} {g : TG} {tt : TT} {te : TE} {vs : List Nat} {a : Addr} {xs : List V} (R : Addr → Nat → List V → Hp → Prop) (hx : ∀ S : VK, S (.ref a) H → te0 σ H S) (h1 : SqT K H a xs) (h2 : xs.length ≤ 1000) (h3 : ∀ H', Same H H' → SqT K H' a xs)
    (r0 : ∀ D H', H D = none → R D 0 [] H') (rr : ∀ D i acc H1 H2, R D i acc H1 → Kp (fun b => b = D) H1 H2 → R D i acc H2)
    (step : ∀ D, H D = none → ∀ i x acc, xs[i]? = some x → ∀ (H1 : Hp) (S : VK) (F : Hp → Prop), Same H H1 → H1 D = some (.lst acc) → R D i acc H1 → (∀ y H2, Same H1 H2 → R D (i + 1) (acc ++ [y]) H2 → S y H2) →
      g x (wipe σ vs) H1 fun σ2 H3 => wipe σ2 vs = wipe σ vs ∧ tt σ2 H3 fun b H4 => if b = true then te σ2 H4 S else F H4)
    (last : ∀ (D : Addr) (acc : List V) (H1 : Hp), acc.length = xs.length → Same H H1 → H D = none → H1 D = some (.lst acc) → R D xs.length acc H1 → Q (.ref D) H1) : tLc (iTup K te0) g tt te vs σ H Q := by
  refine hx _ ⟨a, rfl, ⟨xs, h1⟩, fun D hD => lc_it (walk_tup (xs := xs)) (fun i H' => ∃ acc, acc.length = i ∧ H' D = some (.lst acc) ∧ Same H H' ∧ R D i acc H') ⟨[], rfl, upd_same, Rd.same_new hD, r0 _ _ hD⟩
    (fun i H' _ h => ?_) (fun i x H' H'' hi h hy => ?_) (fun H' h => ?_)⟩
  · obtain ⟨acc, _, _, s, _⟩ := h
    exact h3 _ s
  · obtain ⟨acc, l, e, s, r⟩ := h
    obtain ⟨rfl, hx'⟩ := hy
    refine step D hD i x acc hx' _ _ _ s e r fun y H2 s2 r2 => ⟨acc, s2 _ _ e, small1000 (by omega), acc ++ [y], by simp [l], upd_same, fun b o hb => ?_, rr _ _ _ _ _ r2 fun b o hb n => ?_⟩
    · rw [upd_ne (ne_of_none hb hD)]
      exact s2 _ _ (s _ _ hb)
    · rw [upd_ne n]
      exact hb
  · obtain ⟨acc, l, e, s, r⟩ := h
    exact last D acc H' l s hD e r
end
end Dt
set_option Elab.async false
set_option linter.all false
set_option maxRecDepth 100000
set_option maxHeartbeats 8000000
namespace Law
open PySem L2 Gl Dt
local macro_rules | `(tactic| walk_at "hp") => `(tactic| first
  | with_reducible assumption
  | with_reducible exact upd_same
  | ((with_reducible apply Rd.upd_new); (with_reducible assumption); (walk_at "hp"))
  | ((with_reducible apply Rd.upd_off); (with_reducible assumption); (walk_at "hp"))
  | ((with_reducible apply Rd.upd_off'); (with_reducible assumption); (walk_at "hp"))
  | exact upd_same)
local macro_rules | `(tactic| walk_at "sq") => `(tactic| first
  | assumption
  | (apply SqL.of; walk_at "hp")
  | (apply SqT.of; walk_at "hp"))
local macro_rules | `(tactic| walk_at "rd1") => `(tactic| first
  | with_reducible refine Rd.seq ?_
  | with_reducible refine Rd.asg ?_
  | with_reducible refine Rd.gname ?_
  | ((with_reducible apply Rd.var); rfl)
  | with_reducible refine Rd.cst ?_
  | with_reducible refine Rd.op ?_
  | with_reducible refine Rd.i0 ?_
  | ((with_reducible apply Rd.iC); (first | (show _ < _; omega) | exact ⟨by omega, by omega⟩ | exact .inl ⟨by omega, by omega⟩ | exact .inr ⟨by omega, by omega⟩ | exact ⟨by decide, by decide, by decide⟩); skip)
  | ((with_reducible apply Rd.ixl); (walk_at "sq"); (first | rfl | exact Rd.atI0 | assumption))
  | ((with_reducible apply Rd.ixt); (walk_at "sq"); (first | rfl | exact Rd.atI0 | assumption))
  | with_reducible refine Rd.ret ?_
  | with_reducible refine Rd.drop ?_
  | with_reducible refine Rd.next ?_
  | with_reducible refine Rd.ifs ?_
  | with_reducible refine Rd.test ?_
  | with_reducible refine Rd.tb ?_
  | with_reducible refine Rd.tnot ?_
  | with_reducible refine Rd.tor ?_
  | with_reducible refine Rd.tand ?_
  | with_reducible refine Rd.tyes ?_
  | with_reducible refine Rd.exbl ?_
  | with_reducible refine Rd.exint ?_
  | with_reducible refine Rd.eqI ?_
  | with_reducible refine Rd.neI ?_
  | with_reducible refine Rd.eqS ?_
  | with_reducible refine Rd.neS ?_
  | with_reducible refine Rd.cb ?_
  | with_reducible refine Rd.acons ?_
  | with_reducible refine Rd.anil ?_
  | with_reducible refine Rd.un ?_
  | with_reducible refine Rd.u1 ?_
  | ((with_reducible apply Rd.lenL); (walk_at "sq"))
  | ((with_reducible apply Rd.lenT); (walk_at "sq"))
  | with_reducible refine Rd.int1 ?_
  | with_reducible refine Rd.intb ?_
  | with_reducible refine Rd.abs1 ?_
  | with_reducible refine Rd.gsub ?_
  | ((with_reducible apply Rd.setl); (walk_at "hp"); (first | rfl | exact Rd.ixN0))
  | with_reducible refine Rd.bm ?_
  | with_reducible refine Rd.bm0 ?_
  | (apply Rd.tyl; (walk_at "hp"))
  | ((with_reducible apply Rd.appl); (walk_at "hp"))
  | ((with_reducible apply Rd.popat00); walk_at "hp")
  | with_reducible refine Rd.iteT ?_
  | with_reducible refine Rd.iteF ?_
  | with_reducible refine Rd.iteNT ?_
  | with_reducible refine Rd.iteNF ?_
  | with_reducible refine Rd.df ?_
  | (with_reducible (refine Rd.mkN ?_)); intro _ _
  | ((with_reducible apply Rd.mkE); rfl; intro _ _ _ _)
  | with_reducible refine Rd.lst ?_
  | with_reducible refine Rd.tup ?_
  | ((with_reducible (refine And.intro (Rd.szl (by simp)) ?_)); intro _ _)
  | ((with_reducible apply Rd.cat); (walk_at "hp"); (walk_at "hp"); exact Rd.szl2 (by simp); intro _ _)
  | ((with_reducible apply Rd.gtup); (walk_at "sq"); rfl)
  | with_reducible refine Rd.gcons ?_
  | with_reducible refine Rd.gnil ?_
  | with_reducible refine Rd.par ?_
  | with_reducible refine Rd.par2 ?_
  | with_reducible refine Rd.par3 ?_
  | ((with_reducible (refine Dt.dnew ?_)); intro _ _)
  | ((with_reducible (refine Dt.mulS ?_ ?_ ?_ ?_ ?_ ?_)); decide; decide; exact ⟨by decide, by decide⟩; decide +kernel; decide +kernel)
  | ((with_reducible apply Rd.aug); rfl)
  | with_reducible refine Rd.ipi ?_
  | with_reducible refine Rd.sl ?_
  | with_reducible refine Rd.part ?_
  | with_reducible refine Rd.nopart ?_
  | with_reducible refine Rd.andv ?_
  | with_reducible refine Rd.orv ?_
  | with_reducible refine Rd.notv ?_
  | with_reducible refine Rd.ifx ?_
  | with_reducible refine Rd.chain ?_
  | with_reducible refine Dt.isi_tup (by assumption) ?_
  | with_reducible refine Dt.isi_int (by assumption) ?_
  | with_reducible refine Dt.isi_bool (by assumption) ?_
  | with_reducible refine Dt.isi_str (by assumption) ?_
  | with_reducible refine Rd.par33 ?_
  | ((with_reducible apply Rd.fldE); rfl; (walk_at "hp"); (walk_at "hp")))

def top (i : Nat) : Stmt := PySem.Challenge.pw_veilpost_k60_whole_recipes_judged.main.body.getD i (.Pass ⟨0, 0, 0, 0⟩)
/-! what is asked, in plain words -/
def maxN : Int := 999999999999
def isNum (lo hi : Int) : PyData → Bool
  | .int i => decide (lo ≤ i) && decide (i ≤ hi)
  | _ => false
def signOk (c : Nat) : Bool := decide (32 ≤ c) && decide (c ≤ 126)
def textOk : PyData → Bool
  | .str x => decide (x.length ≤ 40) && x.cps.toList.all signOk
  | _ => false
def isWord (w : Str) : Bool := decide (w = "at") || (decide (w = "name") || decide (w = "number"))
def leafOk (w : Str) (ds : List PyData) : Bool := match ds with
  | [x] => if w = "at" then isNum 0 maxN x else if w = "name" then textOk x else isNum 0 maxN x
  | _ => false
def arity (w : Str) : Option Nat :=
  if w = "unbox" then some 2 else if w = "unchest" then some 2 else if w = "unmark" then some 1 else
  if w = "made" then some 2 else if w = "lock" then some 1 else if w = "box" then some 2 else if w = "chest" then some 2 else if w = "mark" then some 2 else if w = "print" then some 1 else none
def inner : PyData → Option (List PyData)
  | .tuple (.str w :: ds) =>
    if isWord w then (if leafOk w ds then some [] else none)
    else if w = "row" then (if ds.length ≤ 20 then some ds else none)
    else if w = "item" then (match ds with
      | [a, b] => if isNum 0 maxN b then some [a] else none
      | _ => none)
    else match arity w with
      | some n => if ds.length = n then some ds else none
      | none => none
  | _ => none

structure Tx (P : Program) (w : World) (K : PySem.W.Frag) (mg : Str → Option Value) : Prop where
  len : mg "len" = none
  int : mg "int" = none
  abs : mg "abs" = none
  all : mg "all" = none
  sum : mg "sum" = none
  repr : mg "repr" = none
  list : mg "list" = none
  isinstance : mg "isinstance" = none
  range : mg "range" = none
  bool : mg "bool" = none
  str : mg "str" = none
  tuple : mg "tuple" = none
  m_MOST_TEXT : ∃ u, mg "MOST_TEXT" = some u ∧ RelV (.int 40) u
  m_MOST_NUMBER : ∃ u, mg "MOST_NUMBER" = some u ∧ RelV (.int 999999999999) u
  m_NAME : ∃ u, mg "NAME" = some u ∧ RelV (.str "name") u
  m_NUMBER : ∃ u, mg "NUMBER" = some u ∧ RelV (.str "number") u
  m_ROW : ∃ u, mg "ROW" = some u ∧ RelV (.str "row") u
  m_ITEM : ∃ u, mg "ITEM" = some u ∧ RelV (.str "item") u
  m_UNBOX : ∃ u, mg "UNBOX" = some u ∧ RelV (.str "unbox") u
  m_UNCHEST : ∃ u, mg "UNCHEST" = some u ∧ RelV (.str "unchest") u
  m_UNMARK : ∃ u, mg "UNMARK" = some u ∧ RelV (.str "unmark") u
  m_AT : ∃ u, mg "AT" = some u ∧ RelV (.str "at") u
  m_MOST_DEEP : ∃ u, mg "MOST_DEEP" = some u ∧ RelV (.int 30) u
  m_MOST_RECIPES : ∃ u, mg "MOST_RECIPES" = some u ∧ RelV (.int 2000) u
  m_MOST_PARTS : ∃ u, mg "MOST_PARTS" = some u ∧ RelV (.int 20) u
  m_SIZES : ∃ u, mg "SIZES" = some u ∧ RelV (.ref (He.ga K "SIZES")) u
  sizes : ∃ es n, KDict K w (He.ga K "SIZES") es n ∧ ∀ z : Str, ∃ r, findBy Value.isStrOf es z = r ∧
    (z = "made" ∨ z = "box" ∨ z = "chest" ∨ z = "mark" → ∃ u, r = some u ∧ RelV (.int 2) u) ∧ (z = "lock" ∨ z = "print" → ∃ u, r = some u ∧ RelV (.int 1) u) ∧
    (z ≠ "made" → z ≠ "box" → z ≠ "chest" → z ≠ "mark" → z ≠ "lock" → z ≠ "print" → r = none)
  sysm : (K.lookup sysModules).isSome = true
abbrev FD (K : PySem.W.Frag) (x : Str) (st : Stmt) (f : Addr) (fd : FuncData) : Prop := FunD K x x (defArgs st) (defBody st) (defScope st) [] [] f fd
/-- a word about one piece of data, that changes nothing -/
def spT (g : PyData → Bool) : Sp := fun vs H Q _ => ∃ (B : Addr → Prop) (v : V) (d : PyData), vs = [v] ∧ Da B H v d ∧ ∀ H', Same H H' → Q (.bl (g d)) H'
def isInt : PyData → Bool
  | .int _ => true
  | _ => false
def spWithin : Sp := fun vs H Q _ => ∃ (B : Addr → Prop) (v : V) (d : PyData) (lo hi : Int), vs = [v, .int lo, .int hi] ∧ Da B H v d ∧ ∀ H', Same H H' → Q (.bl (isNum lo hi d)) H'
def isTupN (n : Int) : PyData → Bool
  | .tuple ds => decide ((ds.length : Int) = n)
  | _ => false
def spTupleOf : Sp := fun vs H Q _ => ∃ (B : Addr → Prop) (v : V) (d : PyData) (n : Int), vs = [v, .int n] ∧ Da B H v d ∧ ∀ H', Same H H' → Q (.bl (isTupN n d)) H'
def spSign : Sp := fun vs H Q _ => ∃ c : Nat, vs = [.str ⟨#[c]⟩] ∧ Q (.bl (signOk c)) H
def spLeaf : Sp := fun vs H Q _ => ∃ (B : Addr → Prop) (v : V) (w : Str) (ds : List PyData), vs = [v] ∧ Da B H v (.tuple (.str w :: ds)) ∧ ∀ H', Same H H' → Q (.bl (leafOk w ds)) H'
def spInner : Sp := fun vs H Q _ => ∃ (B : Addr → Prop) (v : V) (d : PyData), vs = [v] ∧ Da B H v d ∧ Tr B H ∧ (inner d = none → ∀ H', Same H H' → Q .non H') ∧
  ∀ ps, inner d = some ps → ∀ (u : V) (H' : Hp), Same H H' → Da B H' u (.tuple ps) → Q u H'

abbrev s_is_integer : Stmt := top 1
abbrev N_is_integer : List Str := ["thing"]
theorem sc_is_integer : FnScope N_is_integer ["thing"] (defScope s_is_integer) := ⟨rfl, rfl, rfl, by decide +kernel, rfl, by decide +kernel, by decide +kernel⟩
abbrev s_is_within : Stmt := top 2
abbrev N_is_within : List Str := ["thing", "least", "most"]
theorem sc_is_within : FnScope N_is_within ["thing", "least", "most"] (defScope s_is_within) := ⟨rfl, rfl, rfl, by decide +kernel, rfl, by decide +kernel, by decide +kernel⟩
abbrev s_is_tuple_of : Stmt := top 3
abbrev N_is_tuple_of : List Str := ["thing", "size"]
theorem sc_is_tuple_of : FnScope N_is_tuple_of ["thing", "size"] (defScope s_is_tuple_of) := ⟨rfl, rfl, rfl, by decide +kernel, rfl, by decide +kernel, by decide +kernel⟩
abbrev s_is_sign : Stmt := top 11
abbrev N_is_sign : List Str := ["sign"]
theorem sc_is_sign : FnScope N_is_sign ["sign"] (defScope s_is_sign) := ⟨rfl, rfl, rfl, by decide +kernel, rfl, by decide +kernel, by decide +kernel⟩
abbrev s_is_text : Stmt := top 12
abbrev N_is_text : List Str := ["thing", "sign"]
theorem sc_is_text : FnScope N_is_text ["thing"] (defScope s_is_text) := ⟨rfl, rfl, rfl, by decide +kernel, rfl, by decide +kernel, by decide +kernel⟩
abbrev s_is_leaf : Stmt := top 22
abbrev N_is_leaf : List Str := ["thing"]
theorem sc_is_leaf : FnScope N_is_leaf ["thing"] (defScope s_is_leaf) := ⟨rfl, rfl, rfl, by decide +kernel, rfl, by decide +kernel, by decide +kernel⟩
abbrev s_inner_of : Stmt := top 23
abbrev N_inner_of : List Str := ["thing", "word", "many"]
theorem sc_inner_of : FnScope N_inner_of ["thing"] (defScope s_inner_of) := ⟨rfl, rfl, rfl, by decide +kernel, rfl, by decide +kernel, by decide +kernel⟩
section
variable {P : Program} {w : World} {K : PySem.W.Frag} {mg : Str → Option Value} {base : Heap}
theorem ok_is_integer (T : Tx P w K mg) {f : Addr} {fd : FuncData} (F : FD K "is_integer" s_is_integer f fd) : Fn P w K mg base 1 f fd ["thing"] (spT isInt) := by
  refine fn_body F sc_is_integer (fun vs H Q E h => ?_) (fun cv A outer s H vs Q E hr gd h => ?_)
  · obtain ⟨B, v, d, rfl, _⟩ := h
    rfl
  · obtain ⟨B, v, d, rfl, hd, k⟩ := h
    refine ⟨_, (pss_one (ps_ret (pe_and (pe_callB call_isi (by rfl) T.isinstance (by decide +kernel) (pa_cons (pv 0) (pa_cons (pe_bltn (v := .ty "int") (by rfl) T.int (by decide +kernel) rfl) pa_nil))) (pe_one (pe_not (pe_callB call_isi (by rfl) T.isinstance (by decide +kernel) (pa_cons (pv 0) (pa_cons (pe_bltn (v := .ty "bool") (by rfl) T.bool (by decide +kernel) rfl) pa_nil)))))))), ?_⟩
    repeat walk_at "rd1"
    apply Rd.iteB <;> intro c
    · repeat walk_at "rd1"
      have e : (!isT "bool" d) = isInt d := by cases d <;> first | rfl | cases c
      rw [e]
      exact k _ (Same.refl _)
    · have e : false = isInt d := by cases d <;> first | rfl | cases c
      rw [e]
      exact k _ (Same.refl _)
theorem ok_is_within (T : Tx P w K mg) (f_is_integer : Df P w K mg base 1 "is_integer" (spT isInt)) {f : Addr} {fd : FuncData} (F : FD K "is_within" s_is_within f fd) : Fn P w K mg base 2 f fd ["thing", "least", "most"] spWithin := by
  refine fn_body F sc_is_within (fun vs H Q E h => ?_) (fun cv A outer s H vs Q E hr gd h => ?_)
  · obtain ⟨B, v, d, lo, hi, rfl, _⟩ := h
    rfl
  · obtain ⟨B, v, d, lo, hi, rfl, hd, k⟩ := h
    refine ⟨_, (pss_one (ps_ret (pe_and (pe_df f_is_integer hr (by omega) gd rfl (fun σ => Gl.no_pass σ) (pa_cons (pv 0) pa_nil)) (pe_one (pe_chain op_le op_le (pv 1) (pv 0) (pv 2)))))), ?_⟩
    repeat walk_at "rd1"
    refine ⟨B, v, d, rfl, hd, fun H1 s1 => ?_⟩
    repeat walk_at "rd1"
    apply Rd.iteB <;> intro c
    · cases hd with
      | int i =>
        repeat walk_at "rd1"
        apply Rd.iteD <;> intro c2
        · repeat walk_at "rd1"
          have z := k H1 s1
          rw [show isNum lo hi (.int i) = decide (i ≤ hi) by simp [isNum, c2]] at z
          exact z
        · have z := k H1 s1
          rw [show isNum lo hi (.int i) = false by simp [isNum, c2]] at z
          exact z
      | _ => cases c
    · have z := k H1 s1
      rw [show isNum lo hi d = false by cases d <;> first | rfl | cases c] at z
      exact z
theorem ok_is_tuple_of (T : Tx P w K mg) {f : Addr} {fd : FuncData} (F : FD K "is_tuple_of" s_is_tuple_of f fd) : Fn P w K mg base 1 f fd ["thing", "size"] spTupleOf := by
  refine fn_body F sc_is_tuple_of (fun vs H Q E h => ?_) (fun cv A outer s H vs Q E hr gd h => ?_)
  · obtain ⟨B, v, d, n, rfl, _⟩ := h
    rfl
  · obtain ⟨B, v, d, n, rfl, hd, k⟩ := h
    refine ⟨_, (pss_one (ps_ret (pe_and (pe_callB call_isi (by rfl) T.isinstance (by decide +kernel) (pa_cons (pv 0) (pa_cons (pe_bltn (v := .ty "tuple") (by rfl) T.tuple (by decide +kernel) rfl) pa_nil))) (pe_one (pe_cmpR op_eq (pe_callB Rd.cr_len (by rfl) T.len (by decide +kernel) (pa_cons (pv 0) pa_nil)) (pv 1) (nomark _)))))), ?_⟩
    repeat walk_at "rd1"
    apply Rd.iteB <;> intro c
    · cases hd with
      | tup e nb hl =>
        repeat walk_at "rd1"
        have z := k _ (Same.refl _)
        rw [show isTupN n (.tuple _) = decide ((_ : Int) = n) from rfl, ← hl.len] at z
        exact z
      | _ => cases c
    · have z := k _ (Same.refl _)
      rw [show isTupN n d = false by cases d <;> first | rfl | cases c] at z
      exact z
theorem lt1 (a b : Nat) : ([a] < [b]) ↔ a < b := by rw [List.cons_lt_cons_iff]; simp
theorem ok_is_sign (T : Tx P w K mg) {f : Addr} {fd : FuncData} (F : FD K "is_sign" s_is_sign f fd) : Fn P w K mg base 1 f fd ["sign"] spSign := by
  refine fn_body F sc_is_sign (fun vs H Q E h => ?_) (fun cv A outer s H vs Q E hr gd h => ?_)
  · obtain ⟨c, rfl, _⟩ := h
    rfl
  · obtain ⟨c, rfl, k⟩ := h
    refine ⟨_, (pss_one (ps_ret (pe_chain op_le_str op_le_str pe_str (pv 0) pe_str))), ?_⟩
    repeat walk_at "rd1"
    refine ⟨_, _, rfl, rfl, ?_⟩
    repeat walk_at "rd1"
    rw [show decide ((⟨#[c]⟩ : Str).cps.toList < (" " : Str).cps.toList) = decide (c < 32) from decide_eq_decide.mpr (lt1 c 32)]
    apply Rd.iteND <;> intro c1
    · repeat walk_at "rd1"
      refine ⟨_, _, rfl, rfl, ?_⟩
      rw [show decide (("~" : Str).cps.toList < (⟨#[c]⟩ : Str).cps.toList) = decide (126 < c) from decide_eq_decide.mpr (lt1 126 c)]
      have e : (!decide (126 < c)) = signOk c := by
        unfold signOk
        by_cases h : 126 < c
        · simp [h]
        · simp [h]; omega
      rw [e]
      exact k
    · have e : false = signOk c := by
        unfold signOk
        simp
        omega
      rw [e]
      exact k
theorem ok_is_text (T : Tx P w K mg) (f_is_sign : Df P w K mg base 1 "is_sign" spSign) {f : Addr} {fd : FuncData} (F : FD K "is_text" s_is_text f fd) : Fn P w K mg base 2 f fd ["thing"] (spT textOk) := by
  refine fn_body F sc_is_text (fun vs H Q E h => ?_) (fun cv A outer s H vs Q E hr gd h => ?_)
  · obtain ⟨B, v, d, rfl, _⟩ := h
    rfl
  · obtain ⟨B, v, d, rfl, hd, k⟩ := h
    refine ⟨_, (pss_one (ps_ret (pe_and (pe_callB call_isi (by rfl) T.isinstance (by decide +kernel) (pa_cons (pv 0) (pa_cons (pe_bltn (v := .ty "str") (by rfl) T.str (by decide +kernel) rfl) pa_nil))) (pe_and (pe_cmpR op_le (pe_callB Rd.cr_len (by rfl) T.len (by decide +kernel) (pa_cons (pv 0) pa_nil)) (C8.pe_gc rfl T.m_MOST_TEXT) (nomark _)) (pe_one (pe_callB (cr_all rfl) (by rfl) T.all (by decide +kernel) (pa_cons (pe_lc (own := [("sign", 1)]) (g := gName 1) (by rfl) sc_is_text.nd (pi_str (pv 0)) (blkOk_by (own := [("sign", 1)]) (N := N_is_text) (sc := defScope s_is_text) (by decide +kernel)) (fun _ _ _ _ _ => pg_name (i := 1) sc_is_text.nd rfl (Or.inl rfl)) (fun _ _ _ _ _ => pts_nil) (fun _ _ _ _ _ => (pe_df f_is_sign hr (by omega) gd rfl (fun σ => Gl.no_pass σ) (pa_cons (pv 1) pa_nil)))) pa_nil))))))), ?_⟩
    repeat walk_at "rd1"
    apply Rd.iteB <;> intro c
    · cases hd with
      | @str x hx =>
        repeat walk_at "rd1"
        refine Rd.lenS (Nat.le_trans hx (by decide)) ?_
        repeat walk_at "rd1"
        apply Rd.iteD <;> intro c1
        · repeat walk_at "rd1"
          refine lcS (fun S h => ⟨_, rfl, h⟩) hx (fun c => .bl (signOk c)) (fun c hc H2 S F s2 hS => ?_) (fun D hD => ?_)
          · refine Rd.gname ⟨rfl, Rd.tyes (Rd.iteT ?_)⟩
            repeat walk_at "rd1"
            exact ⟨c, rfl, hS⟩
          · repeat walk_at "rd1"
            refine ⟨D, x.cps.toList.map signOk, rfl, .of (by rw [upd_same, List.map_map]; rfl), ?_⟩
            have e : (x.cps.toList.map signOk).all id = textOk (.str x) := by
              rw [List.all_map]
              have c1' : x.length ≤ 40 := by omega
              simp [textOk, c1']
            rw [e]
            exact k _ (Rd.same_new hD)
        · have e : textOk (.str x) = false := by
            have c1' : ¬ x.length ≤ 40 := by omega
            simp [textOk, c1']
          rw [← e]
          exact k _ (Same.refl _)
      | _ => cases c
    · have z := k _ (Same.refl _)
      rw [show textOk d = false by cases d <;> first | rfl | cases c] at z
      exact z
theorem ok_is_leaf (T : Tx P w K mg) (f_is_tuple_of : Df P w K mg base 1 "is_tuple_of" spTupleOf) (f_is_within : Df P w K mg base 2 "is_within" spWithin) (f_is_text : Df P w K mg base 2 "is_text" (spT textOk)) {f : Addr} {fd : FuncData} (F : FD K "is_leaf" s_is_leaf f fd) : Fn P w K mg base 3 f fd ["thing"] spLeaf := by
  refine fn_body F sc_is_leaf (fun vs H Q E h => ?_) (fun cv A outer s H vs Q E hr gd h => ?_)
  · obtain ⟨B, v, x, ds, rfl, _⟩ := h
    rfl
  · obtain ⟨B, v, x, ds, rfl, hd, k⟩ := h
    refine ⟨_, (pss_cons (ps_if (pt_not (pt_val (pe_df f_is_tuple_of hr (by omega) gd rfl (fun σ => Gl.no_pass σ) (pa_cons (pv 0) (pa_cons pe_int pa_nil))))) (pss_one (ps_ret pe_bl)) pss_nil)
    (pss_cons (ps_if (pt_cmpR op_eq (pe_ix ix_tup (pv 0) pe_int (fun _ _ => rfl)) (C8.pe_gc rfl T.m_AT) (nomark _)) (pss_one (ps_ret (pe_df f_is_within hr (by omega) gd rfl (fun σ => Gl.no_pass σ) (pa_cons (pe_ix ix_tup (pv 0) pe_int (fun _ _ => rfl)) (pa_cons pe_int (pa_cons (C8.pe_gc rfl T.m_MOST_NUMBER) pa_nil)))))) pss_nil)
    (pss_one (ps_ret (pe_ifExp (pt_cmpR op_eq (pe_ix ix_tup (pv 0) pe_int (fun _ _ => rfl)) (C8.pe_gc rfl T.m_NAME) (nomark _)) (pe_df f_is_text hr (by omega) gd rfl (fun σ => Gl.no_pass σ) (pa_cons (pe_ix ix_tup (pv 0) pe_int (fun _ _ => rfl)) pa_nil)) (pe_df f_is_within hr (by omega) gd rfl (fun σ => Gl.no_pass σ) (pa_cons (pe_ix ix_tup (pv 0) pe_int (fun _ _ => rfl)) (pa_cons pe_int (pa_cons (C8.pe_gc rfl T.m_MOST_NUMBER) pa_nil))))))))), ?_⟩
    repeat walk_at "rd1"
    refine ⟨B, v, _, 2, rfl, hd, fun H1 s1 => ?_⟩
    have hd1 := hd.same s1
    repeat walk_at "rd1"
    rw [show isTupN 2 (.tuple (.str x :: ds)) = decide (((PyData.str x :: ds).length : Int) = 2) from rfl]
    apply Rd.iteND <;> intro c
    · repeat walk_at "rd1"
      have z := k _ s1
      rw [show leafOk x ds = false by
        cases ds with
        | nil => rfl
        | cons a r => cases r with
          | nil => simp at c
          | cons b r => rfl] at z
      exact z
    · match ds, hd1, c, k with
      | [y], hd1, c, k =>
        cases hd1 with
        | @tup a xs _ e nb hl =>
          cases hl with
          | @cons v0 vs0 _ _ h1 h2 =>
            cases h1
            cases h2 with
            | @cons v1 vs1 _ _ h3 h4 =>
              cases h4
              repeat walk_at "rd1"
              have at1 : atI [V.str x, v1] 1 = some v1 := rfl
              apply Rd.iteD <;> intro c1
              · repeat walk_at "rd1"
                refine ⟨B, v1, y, 0, 999999999999, rfl, h3, fun H2 s2 => ?_⟩
                have z := k _ (s1.trans s2)
                rw [show leafOk x [y] = isNum 0 maxN y by show (if x = "at" then isNum 0 maxN y else if x = "name" then textOk y else isNum 0 maxN y) = _; rw [if_pos c1]] at z
                exact z
              · repeat walk_at "rd1"
                apply Rd.iteD <;> intro c2
                · repeat walk_at "rd1"
                  refine ⟨B, v1, y, rfl, h3, fun H2 s2 => ?_⟩
                  have z := k _ (s1.trans s2)
                  rw [show leafOk x [y] = textOk y by show (if x = "at" then isNum 0 maxN y else if x = "name" then textOk y else isNum 0 maxN y) = _; rw [if_neg c1, if_pos c2]] at z
                  exact z
                · repeat walk_at "rd1"
                  refine ⟨B, v1, y, 0, 999999999999, rfl, h3, fun H2 s2 => ?_⟩
                  have z := k _ (s1.trans s2)
                  rw [show leafOk x [y] = isNum 0 maxN y by show (if x = "at" then isNum 0 maxN y else if x = "name" then textOk y else isNum 0 maxN y) = _; rw [if_neg c1, if_neg c2]] at z
                  exact z
      | [], _, c, _ => simp at c
      | _ :: _ :: _, _, c, _ => simp at c; omega
theorem inner_word {x : Str} {ds : List PyData} (a : isWord x = true) : inner (.tuple (.str x :: ds)) = if leafOk x ds = true then some [] else none := by
  show (if isWord x = true then _ else _) = _
  rw [if_pos a]
theorem inner_row {x : Str} {ds : List PyData} (a : isWord x = false) (b : x = "row") : inner (.tuple (.str x :: ds)) = if ds.length ≤ 20 then some ds else none := by
  show (if isWord x = true then _ else if x = "row" then _ else _) = _
  rw [if_neg (by rw [a]; exact Bool.false_ne_true), if_pos b]
theorem inner_item {x : Str} {d1 d2 : PyData} (a : isWord x = false) (b : ¬ x = "row") (c : x = "item") : inner (.tuple [.str x, d1, d2]) = if isNum 0 maxN d2 = true then some [d1] else none := by
  show (if isWord x = true then _ else if x = "row" then _ else if x = "item" then _ else _) = _
  rw [if_neg (by rw [a]; exact Bool.false_ne_true), if_neg b, if_pos c]
theorem inner_item' {x : Str} {ds : List PyData} (a : isWord x = false) (b : ¬ x = "row") (c : x = "item") (h : ds.length ≠ 2) : inner (.tuple (.str x :: ds)) = none := by
  show (if isWord x = true then _ else if x = "row" then _ else if x = "item" then _ else _) = _
  rw [if_neg (by rw [a]; exact Bool.false_ne_true), if_neg b, if_pos c]
  match ds, h with
  | [], _ => rfl
  | [_], _ => rfl
  | [_, _], h => exact absurd rfl h
  | _ :: _ :: _ :: _, _ => rfl
theorem inner_ar {x : Str} {ds : List PyData} (a : isWord x = false) (b : ¬ x = "row") (c : ¬ x = "item") : inner (.tuple (.str x :: ds)) = match arity x with
      | some n => if ds.length = n then some ds else none
      | none => none := by
  show (if isWord x = true then _ else if x = "row" then _ else if x = "item" then _ else _) = _
  rw [if_neg (by rw [a]; exact Bool.false_ne_true), if_neg b, if_neg c]
theorem words (x : Str) : (if false = true then !inV (.str x) [.str "at", .str "name", .str "number"] else inV (.str x) [.str "at", .str "name", .str "number"]) = isWord x := by
  rw [if_neg Bool.false_ne_true]
  show ((("at" : Str) == x) || ((("name" : Str) == x) || ((("number" : Str) == x) || false))) = _
  have f : ∀ a b : Str, (a == b) = decide (b = a) := fun a b => by
    by_cases h : b = a
    · subst h
      simp
    · rw [decide_eq_false h]
      simpa using fun z => h z.symm
  rw [f, f, f, Bool.or_false]
  rfl
theorem cut1 {d : PyData} {ds : List PyData} : cutD (d :: ds) (some 1) none = ds := by
  unfold cutD
  rw [show HT.sIx (d :: ds).length 0 (some 1) = 1 by rw [show ((1 : Int)) = ((1 : Nat) : Int) from rfl, HT.sIx_nat, List.length_cons]; omega, HT.sIx_none]
  simp
def szV (x : Str) : V := if x = "made" ∨ x = "box" ∨ x = "chest" ∨ x = "mark" then .int 2 else if x = "lock" ∨ x = "print" then .int 1 else .non
theorem szV_ok {x : Str} {r : Option Value} {u0 : Value} (a : x = "made" ∨ x = "box" ∨ x = "chest" ∨ x = "mark" → ∃ u, r = some u ∧ RelV (.int 2) u) (b : x = "lock" ∨ x = "print" → ∃ u, r = some u ∧ RelV (.int 1) u)
    (c : x ≠ "made" → x ≠ "box" → x ≠ "chest" → x ≠ "mark" → x ≠ "lock" → x ≠ "print" → r = none) (h : RelV .non u0) : RelV (szV x) (r.getD u0) := by
  unfold szV
  by_cases h1 : x = "made" ∨ x = "box" ∨ x = "chest" ∨ x = "mark"
  · rw [if_pos h1]
    obtain ⟨u, rfl, q⟩ := a h1
    exact q
  · rw [if_neg h1]
    by_cases h2 : x = "lock" ∨ x = "print"
    · rw [if_pos h2]
      obtain ⟨u, rfl, q⟩ := b h2
      exact q
    · rw [if_neg h2]
      simp only [not_or] at h1 h2
      rw [c h1.1 h1.2.1 h1.2.2.1 h1.2.2.2 h2.1 h2.2]
      exact h
def arV (x : Str) : V := match arity x with
  | some n => .int (n : Int)
  | none => .non
theorem many_is {x : Str} : (valV (mergeK [] [(.inr "unbox", .int 2), (.inr "unchest", .int 2), (.inr "unmark", .int 1)]) (.inr x)).getD (szV x) = arV x := by
  rw [show mergeK [] [((.inr "unbox" : Key), V.int 2), (.inr "unchest", .int 2), (.inr "unmark", .int 1)] = [(.inr "unbox", .int 2), (.inr "unchest", .int 2), (.inr "unmark", .int 1)] from rfl]
  unfold valV
  simp only [List.find?_cons, key_rr, List.find?_nil]
  by_cases a1 : x = "unbox"
  · subst a1; rfl
  by_cases a2 : x = "unchest"
  · subst a2; rfl
  by_cases a3 : x = "unmark"
  · subst a3; rfl
  rw [decide_eq_false (fun z => a1 z.symm), decide_eq_false (fun z => a2 z.symm), decide_eq_false (fun z => a3 z.symm)]
  show szV x = _
  by_cases b1 : x = "made"
  · subst b1; rfl
  by_cases b2 : x = "lock"
  · subst b2; rfl
  by_cases b3 : x = "box"
  · subst b3; rfl
  by_cases b4 : x = "chest"
  · subst b4; rfl
  by_cases b5 : x = "mark"
  · subst b5; rfl
  by_cases b6 : x = "print"
  · subst b6; rfl
  unfold szV arV arity
  rw [if_neg (by simp [b1, b3, b4, b5]), if_neg (by simp [b2, b6]), if_neg a1, if_neg a2, if_neg a3, if_neg b1, if_neg b2, if_neg b3, if_neg b4, if_neg b5, if_neg b6]
theorem ok_inner_of (T : Tx P w K mg) (f_is_leaf : Df P w K mg base 3 "is_leaf" spLeaf) (f_is_within : Df P w K mg base 2 "is_within" spWithin) {f : Addr} {fd : FuncData} (F : FD K "inner_of" s_inner_of f fd) : Fn P w K mg base 4 f fd ["thing"] spInner := by
  refine fn_body F sc_inner_of (fun vs H Q E h => ?_) (fun cv A outer s H vs Q E hr gd h => ?_)
  · obtain ⟨B, v, d, rfl, _⟩ := h
    rfl
  · obtain ⟨B, v, d, rfl, hd, tr, kn, ks⟩ := h
    have hu : (cxOf (L2.CX P w) P w K mg base N_inner_of "inner_of" (defScope s_inner_of) f cv A outer s H E).A.units + 1 < cLine := by have := hr.un; show (A.deeper _).units + 1 < cLine; omega
    refine ⟨_, (pss_cons (ps_if (PW.pt (pw_or (pt_not (pt_val (pe_callB call_isi (by rfl) T.isinstance (by decide +kernel) (pa_cons (pv 0) (pa_cons (pe_bltn (v := .ty "tuple") (by rfl) T.tuple (by decide +kernel) rfl) pa_nil))))) (pw_or (pt_cmpR op_eq (pe_callB Rd.cr_len (by rfl) T.len (by decide +kernel) (pa_cons (pv 0) pa_nil)) pe_int (nomark _)) (pw_or1 (pt_not (pt_val (pe_callB call_isi (by rfl) T.isinstance (by decide +kernel) (pa_cons (pe_ix ix_tup (pv 0) pe_int (fun _ _ => rfl)) (pa_cons (pe_bltn (v := .ty "str") (by rfl) T.str (by decide +kernel) rfl) pa_nil))))))))) (pss_one (ps_ret pe_non)) pss_nil)
    (pss_cons (ps_set (i := 1) sc_inner_of.nd rfl (Or.inl rfl) (pe_ix ix_tup (pv 0) pe_int (fun _ _ => rfl)))
    (pss_cons (ps_if (pt_cmpR op_in_seq (pv 1) (pe_tup (pa_cons (C8.pe_gc rfl T.m_AT) (pa_cons (C8.pe_gc rfl T.m_NAME) (pa_cons (C8.pe_gc rfl T.m_NUMBER) pa_nil)))) rfl) (pss_one (ps_ret (pe_ifExp (pt_val (pe_df f_is_leaf hr (by omega) gd rfl (fun σ => Gl.no_pass σ) (pa_cons (pv 0) pa_nil))) (pe_tup pa_nil) pe_non))) pss_nil)
    (pss_cons (ps_if (pt_cmpR op_eq (pv 1) (C8.pe_gc rfl T.m_ROW) (nomark _)) (pss_one (ps_ret (pe_ifExp (pt_cmpR op_le (pe_callB Rd.cr_len (by rfl) T.len (by decide +kernel) (pa_cons (pv 0) pa_nil)) (pe_op op_add (C8.pe_gc rfl T.m_MOST_PARTS) pe_int) (nomark _)) (pe_slice sl_tupA (pv 0) (po_some pe_int) po_none) pe_non))) pss_nil)
    (pss_cons (ps_if (pt_cmpR op_eq (pv 1) (C8.pe_gc rfl T.m_ITEM) (nomark _)) (pss_one (ps_ret (pe_ifExp (PW.pt (pw_and (pt_cmpR op_eq (pe_callB Rd.cr_len (by rfl) T.len (by decide +kernel) (pa_cons (pv 0) pa_nil)) pe_int (nomark _)) (pw_and1 (pt_val (pe_df f_is_within hr (by omega) gd rfl (fun σ => Gl.no_pass σ) (pa_cons (pe_ix ix_tup (pv 0) pe_int (fun _ _ => rfl)) (pa_cons pe_int (pa_cons (C8.pe_gc rfl T.m_MOST_NUMBER) pa_nil)))))))) (pe_slice sl_tupA (pv 0) (po_some pe_int) (po_some pe_int)) pe_non))) pss_nil)
    (pss_cons (ps_set (i := 2) sc_inner_of.nd rfl (Or.inl rfl) (pe_dget2 hu (pe_disp (pps_cons (C8.pe_gc rfl T.m_UNBOX) pe_int (pps_cons (C8.pe_gc rfl T.m_UNCHEST) pe_int (pps_cons (C8.pe_gc rfl T.m_UNMARK) pe_int pps_nil))) (by rfl) (by rfl) (fun z => by cases z) (by decide)) (pv 1) (Dt.pe_kget2 (C8.pe_gc rfl T.m_SIZES) (pv 1) pe_non ⟨rfl, rfl, rfl, rfl⟩) ⟨rfl, rfl, rfl, rfl⟩))
    (pss_one (ps_ret (pe_ifExp (PW.pt (pw_and (pt_cmpR op_notN (pv 2) pe_non (nomark _)) (pw_and1 (pt_cmpR op_eq (pe_callB Rd.cr_len (by rfl) T.len (by decide +kernel) (pa_cons (pv 0) pa_nil)) (pe_op op_add (pv 2) pe_int) (nomark _))))) (pe_slice sl_tupA (pv 0) (po_some pe_int) po_none) pe_non))))))))), ?_⟩
    repeat walk_at "rd1"
    apply Rd.iteNB <;> intro c
    · repeat walk_at "rd1"
      exact kn (by cases d <;> first | rfl | cases c) _ (Same.refl _)
    · cases hd with
      | @tup a xs ds e nb hl =>
        repeat walk_at "rd1"
        cases hl with
        | nil =>
          repeat walk_at "rd1"
          exact kn rfl _ (Same.refl _)
        | @cons v0 vs0 x ds h1 h2 =>
          apply Rd.iteD <;> intro c1
          · simp at c1
            omega
          · repeat walk_at "rd1"
            apply Rd.iteNB <;> intro c2
            · repeat walk_at "rd1"
              exact kn (by cases x <;> first | rfl | cases c2) _ (Same.refl _)
            · cases h1 with
              | @str x hx =>
                repeat walk_at "rd1"
                rename_i p hp
                refine ⟨_, _, rfl, .inr (.of upd_same), rfl, rfl, ?_⟩
                rw [words x]
                have s1 : Same H (upd H p (.tup [.str "at", .str "name", .str "number"])) := Rd.same_new hp
                revert s1
                generalize upd H p (.tup [.str "at", .str "name", .str "number"]) = H1
                intro s1
                have e1 := s1 _ _ e
                have h3 := h2.same s1
                have tr1 := tr.same s1
                have hd1 : Da B H1 (.ref a) (.tuple (.str x :: ds)) := .tup e1 nb (.cons (.str hx) h3)
                have l1 : vs0.length = ds.length := h2.len
                repeat walk_at "rd1"
                apply Rd.iteB <;> intro c3
                · repeat walk_at "rd1"
                  refine ⟨B, .ref a, x, ds, rfl, hd1, fun H2 s2 => ?_⟩
                  repeat walk_at "rd1"
                  apply Rd.iteB <;> intro c4
                  · repeat walk_at "rd1"
                    rename_i p2 hp2
                    exact ks [] (by rw [inner_word c3, if_pos c4]) _ _ ((s1.trans s2).trans (Rd.same_new hp2)) (.tup upd_same ((tr1.same s2) _ hp2) .nil)
                  · repeat walk_at "rd1"
                    exact kn (by rw [inner_word c3, c4]; rfl) _ (s1.trans s2)
                · repeat walk_at "rd1"
                  apply Rd.iteD <;> intro c5
                  · repeat walk_at "rd1"
                    apply Rd.iteD <;> intro c6
                    · repeat walk_at "rd1"
                      refine sl hd1 tr1 fun u H3 s3 d3 => ks ds ?_ u H3 (s1.trans s3) (by rw [cut1] at d3; exact d3)
                      have : ds.length ≤ 20 := by simp at c6; omega
                      rw [inner_row c3 c5, if_pos this]
                    · repeat walk_at "rd1"
                      refine kn ?_ _ s1
                      have : ¬ ds.length ≤ 20 := by simp at c6; omega
                      rw [inner_row c3 c5, if_neg this]
                  · repeat walk_at "rd1"
                    apply Rd.iteD <;> intro c6
                    · repeat walk_at "rd1"
                      apply Rd.iteD <;> intro c7
                      · have : ∃ d1 d2, ds = [d1, d2] := by
                          match ds, l1 with
                          | [], l1 => simp [l1] at c7
                          | [_], l1 => simp [l1] at c7
                          | [d1, d2], l1 => exact ⟨d1, d2, rfl⟩
                          | _ :: _ :: _ :: _, l1 => simp [l1] at c7; omega
                        obtain ⟨d1, d2, rfl⟩ := this
                        cases h3 with
                        | @cons v1 vs1 _ _ g1 h4 =>
                          cases h4 with
                          | @cons v2 vs2 _ _ g2 h5 =>
                            cases h5
                            repeat walk_at "rd1"
                            refine ⟨B, v2, d2, 0, 999999999999, rfl, g2, fun H2 s2 => ?_⟩
                            repeat walk_at "rd1"
                            apply Rd.iteB <;> intro c8
                            · repeat walk_at "rd1"
                              refine sl (hd1.same s2) (tr1.same s2) fun u H3 s3 d3 => ks [d1] ?_ u H3 ((s1.trans s2).trans s3) d3
                              have c8' : isNum 0 maxN d2 = true := c8
                              rw [inner_item c3 c5 c6, if_pos c8']
                            · repeat walk_at "rd1"
                              refine kn ?_ _ (s1.trans s2)
                              have c8' : isNum 0 maxN d2 = false := c8
                              rw [inner_item c3 c5 c6, c8']
                              rfl
                      · repeat walk_at "rd1"
                        refine kn ?_ _ s1
                        have : ds.length ≠ 2 := by simp [l1] at c7; omega
                        exact inner_item' c3 c5 c6 this
                    · repeat walk_at "rd1"
                      intro p2 hp2
                      refine ⟨upd_same, [(.inr "unbox", .int 2), (.inr "unchest", .int 2), (.inr "unmark", .int 1)], rfl, by decide, ?_⟩
                      obtain ⟨es, n, KD, hz⟩ := T.sizes
                      obtain ⟨r, hr1, r2, r1, r0⟩ := hz x
                      have s2 : Same H1 (upd (upd H1 p2 (.dK [])) p2 (.dK (mergeK [] [(.inr "unbox", .int 2), (.inr "unchest", .int 2), (.inr "unmark", .int 1)]))) := by
                        rw [Rd.upd_upd]
                        exact Rd.same_new hp2
                      refine ⟨p2, rfl, .inl ⟨_, .inl upd_same⟩, _, rfl, _, es, n, rfl, KD, _, rfl, x, szV x, rfl, ?_, _, .inl ⟨_, .inr x, .inl upd_same, rfl, rfl⟩, ?_⟩
                      · intro u0 hu0
                        rw [hr1]
                        exact szV_ok r2 r1 r0 hu0
                      rw [many_is]
                      revert s2
                      generalize upd (upd H1 p2 (.dK [])) p2 _ = H2
                      intro s2
                      have e2 := s2 _ _ e1
                      have hd2 := hd1.same s2
                      have tr2 := tr1.same s2
                      refine Rd.gname ?_
                      have ar := inner_ar (ds := ds) c3 c5 c6
                      cases hA : arity x with
                      | none =>
                        rw [hA] at ar
                        rw [show arV x = .non by unfold arV; rw [hA]]
                        repeat walk_at "rd1"
                        refine ⟨rfl, ?_⟩
                        repeat walk_at "rd1"
                        refine Rd.iteND (fun z => absurd rfl z) (fun _ => ?_)
                        repeat walk_at "rd1"
                        exact kn ar _ (s1.trans s2)
                      | some m =>
                        rw [hA] at ar
                        rw [show arV x = .int (m : Int) by unfold arV; rw [hA]]
                        repeat walk_at "rd1"
                        refine ⟨rfl, ?_⟩
                        repeat walk_at "rd1"
                        refine Rd.iteND (fun _ => ?_) (fun z => nomatch z)
                        repeat walk_at "rd1"
                        apply Rd.iteD <;> intro c7
                        · repeat walk_at "rd1"
                          refine sl hd2 tr2 fun u H3 s3 d3 => ks ds ?_ u H3 ((s1.trans s2).trans s3) (by rw [cut1] at d3; exact d3)
                          have : ds.length = m := by simp [l1] at c7; omega
                          rw [ar]
                          exact if_pos this
                        · repeat walk_at "rd1"
                          refine kn ?_ _ (s1.trans s2)
                          have : ¬ ds.length = m := by simp [l1] at c7; omega
                          rw [ar]
                          exact if_neg this
              | _ => cases c2
      | _ => cases c
end
end Law
set_option Elab.async false
set_option linter.all false
set_option maxRecDepth 100000
set_option maxHeartbeats 8000000
namespace Law
open PySem L2 Gl Dt
local macro_rules | `(tactic| walk_at "hp") => `(tactic| first
  | with_reducible assumption
  | with_reducible exact upd_same
  | ((with_reducible apply Rd.upd_new); (with_reducible assumption); (walk_at "hp"))
  | ((with_reducible apply Rd.upd_off); (with_reducible assumption); (walk_at "hp"))
  | ((with_reducible apply Rd.upd_off'); (with_reducible assumption); (walk_at "hp"))
  | exact upd_same)
local macro_rules | `(tactic| walk_at "sq") => `(tactic| first
  | assumption
  | (apply SqL.of; walk_at "hp")
  | (apply SqT.of; walk_at "hp"))
local macro_rules | `(tactic| walk_at "rd1") => `(tactic| first
  | with_reducible refine Rd.seq ?_
  | with_reducible refine Rd.asg ?_
  | with_reducible refine Rd.gname ?_
  | ((with_reducible apply Rd.var); rfl)
  | with_reducible refine Rd.cst ?_
  | with_reducible refine Rd.op ?_
  | with_reducible refine Rd.i0 ?_
  | ((with_reducible apply Rd.iC); (first | (show _ < _; omega) | exact ⟨by omega, by omega⟩ | exact .inl ⟨by omega, by omega⟩ | exact .inr ⟨by omega, by omega⟩ | exact ⟨by decide, by decide, by decide⟩); skip)
  | ((with_reducible apply Rd.ixl); (walk_at "sq"); (first | rfl | exact Rd.atI0 | assumption))
  | ((with_reducible apply Rd.ixt); (walk_at "sq"); (first | rfl | exact Rd.atI0 | assumption))
  | with_reducible refine Rd.ret ?_
  | with_reducible refine Rd.drop ?_
  | with_reducible refine Rd.next ?_
  | with_reducible refine Rd.ifs ?_
  | with_reducible refine Rd.test ?_
  | with_reducible refine Rd.tb ?_
  | with_reducible refine Rd.tnot ?_
  | with_reducible refine Rd.tor ?_
  | with_reducible refine Rd.tand ?_
  | with_reducible refine Rd.tyes ?_
  | with_reducible refine Rd.exbl ?_
  | with_reducible refine Rd.exint ?_
  | with_reducible refine Rd.eqI ?_
  | with_reducible refine Rd.neI ?_
  | with_reducible refine Rd.eqS ?_
  | with_reducible refine Rd.neS ?_
  | with_reducible refine Rd.cb ?_
  | with_reducible refine Rd.acons ?_
  | with_reducible refine Rd.anil ?_
  | with_reducible refine Rd.un ?_
  | with_reducible refine Rd.u1 ?_
  | ((with_reducible apply Rd.lenL); (walk_at "sq"))
  | ((with_reducible apply Rd.lenT); (walk_at "sq"))
  | with_reducible refine Rd.int1 ?_
  | with_reducible refine Rd.intb ?_
  | with_reducible refine Rd.abs1 ?_
  | with_reducible refine Rd.gsub ?_
  | ((with_reducible apply Rd.setl); (walk_at "hp"); (first | rfl | exact Rd.ixN0))
  | with_reducible refine Rd.bm ?_
  | with_reducible refine Rd.bm0 ?_
  | (apply Rd.tyl; (walk_at "hp"))
  | ((with_reducible apply Rd.appl); (walk_at "hp"))
  | ((with_reducible apply Rd.popat00); walk_at "hp")
  | with_reducible refine Rd.iteT ?_
  | with_reducible refine Rd.iteF ?_
  | with_reducible refine Rd.iteNT ?_
  | with_reducible refine Rd.iteNF ?_
  | with_reducible refine Rd.df ?_
  | (with_reducible (refine Rd.mkN ?_)); intro _ _
  | ((with_reducible apply Rd.mkE); rfl; intro _ _ _ _)
  | with_reducible refine Rd.lst ?_
  | with_reducible refine Rd.tup ?_
  | ((with_reducible (refine And.intro (Rd.szl (by simp)) ?_)); intro _ _)
  | ((with_reducible apply Rd.cat); (walk_at "hp"); (walk_at "hp"); exact Rd.szl2 (by simp); intro _ _)
  | ((with_reducible apply Rd.gtup); (walk_at "sq"); rfl)
  | with_reducible refine Rd.gcons ?_
  | with_reducible refine Rd.gnil ?_
  | with_reducible refine Rd.par ?_
  | with_reducible refine Rd.par2 ?_
  | with_reducible refine Rd.par3 ?_
  | ((with_reducible (refine Dt.dnew ?_)); intro _ _)
  | ((with_reducible (refine Dt.mulS ?_ ?_ ?_ ?_ ?_ ?_)); decide; decide; exact ⟨by decide, by decide⟩; decide +kernel; decide +kernel)
  | ((with_reducible apply Rd.aug); rfl)
  | with_reducible refine Rd.ipi ?_
  | with_reducible refine Rd.sl ?_
  | with_reducible refine Rd.part ?_
  | with_reducible refine Rd.nopart ?_
  | with_reducible refine Rd.andv ?_
  | with_reducible refine Rd.orv ?_
  | with_reducible refine Rd.notv ?_
  | with_reducible refine Rd.ifx ?_
  | with_reducible refine Rd.chain ?_
  | with_reducible refine Dt.isi_tup (by assumption) ?_
  | with_reducible refine Dt.isi_int (by assumption) ?_
  | with_reducible refine Dt.isi_bool (by assumption) ?_
  | with_reducible refine Dt.isi_str (by assumption) ?_
  | with_reducible refine Rd.par33 ?_
  | ((with_reducible apply Rd.fldE); rfl; (walk_at "hp"); (walk_at "hp")))

/-! how many parts a thing has, where it is a recipe: r more depths are left -/
def sumO : List (Option Nat) → Option Nat
  | [] => some 0
  | none :: _ => none
  | some a :: r => (sumO r).map (a + ·)
def cnt : Nat → PyData → Option Nat
  | 0, _ => none
  | r + 1, d => match inner d with
    | none => none
    | some ps => (sumO (ps.map (cnt r))).map (1 + ·)
def isRec (d : PyData) : Bool := match cnt 30 d with
  | some n => decide (n ≤ 2000)
  | none => false
theorem sumO_app : ∀ xs ys : List (Option Nat), sumO (xs ++ ys) = (sumO xs).bind fun a => (sumO ys).map (a + ·)
  | [], ys => by
    show sumO ys = (sumO ys).map (0 + ·)
    cases sumO ys with
    | none => rfl
    | some b => simp
  | none :: r, ys => rfl
  | some a :: r, ys => by
    show (sumO (r ++ ys)).map (a + ·) = ((sumO r).map (a + ·)).bind fun b => (sumO ys).map (b + ·)
    rw [sumO_app r ys]
    cases sumO r with
    | none => rfl
    | some b =>
      cases sumO ys with
      | none => rfl
      | some c => simp [Nat.add_assoc]
/-- what comes out: c have been counted, these wait -/
def ans (c : Nat) (qs : List (PyData × Nat)) : Bool := match sumO (qs.map fun q => cnt q.2 q.1) with
  | some t => decide (c + t ≤ 2000)
  | none => false
theorem ans_start (d : PyData) : ans 0 [(d, 30)] = isRec d := by
  unfold ans isRec
  show (match sumO [cnt 30 d] with | some t => decide (0 + t ≤ 2000) | none => false) = _
  cases cnt 30 d with
  | none => rfl
  | some n => show decide (0 + (n + 0) ≤ 2000) = _; simp
theorem ans_bad {c : Nat} {qs : List (PyData × Nat)} {q : PyData} {r : Nat} (h : cnt r q = none) : ans c (qs ++ [(q, r)]) = false := by
  unfold ans
  rw [List.map_append, sumO_app]
  show (match (sumO _).bind fun a => (sumO [cnt r q]).map (a + ·) with | some t => decide (c + t ≤ 2000) | none => false) = false
  rw [h]
  cases sumO (qs.map fun q => cnt q.2 q.1) <;> rfl
theorem cnt_pos {r : Nat} {q : PyData} {n : Nat} (h : cnt r q = some n) : 1 ≤ n := by
  cases r with
  | zero => cases h
  | succ r =>
    unfold cnt at h
    cases e : inner q with
    | none => rw [e] at h; cases h
    | some ps =>
      rw [e] at h
      dsimp only at h
      cases e2 : sumO (ps.map (cnt r)) with
      | none => rw [e2] at h; cases h
      | some t =>
        rw [e2] at h
        cases h
        exact Nat.le_add_right 1 t
theorem ans_many {c : Nat} {qs : List (PyData × Nat)} {q : PyData} {r : Nat} (h : 2000 < c + 1) : ans c (qs ++ [(q, r)]) = false := by
  unfold ans
  rw [List.map_append, sumO_app]
  show (match (sumO _).bind fun a => (sumO [cnt r q]).map (a + ·) with | some t => decide (c + t ≤ 2000) | none => false) = false
  cases sumO (qs.map fun q => cnt q.2 q.1) with
  | none => rfl
  | some a =>
    cases e : cnt r q with
    | none => rfl
    | some n =>
      have := cnt_pos e
      show decide (c + (a + (n + 0)) ≤ 2000) = false
      exact decide_eq_false (by omega)
theorem ans_step {c : Nat} {qs : List (PyData × Nat)} {q : PyData} {r : Nat} {ps : List PyData} (h : inner q = some ps) : ans c (qs ++ [(q, r + 1)]) = ans (c + 1) (qs ++ ps.map fun p => (p, r)) := by
  unfold ans
  rw [List.map_append, List.map_append, sumO_app, sumO_app, List.map_map]
  show (match (sumO _).bind fun a => (sumO [cnt (r + 1) q]).map (a + ·) with | some t => decide (c + t ≤ 2000) | none => false) = _
  have e : cnt (r + 1) q = (sumO (ps.map (cnt r))).map (1 + ·) := by
    show (match inner q with | none => none | some ps => (sumO (ps.map (cnt r))).map (1 + ·)) = _
    rw [h]
  rw [e]
  cases sumO (qs.map fun q => cnt q.2 q.1) with
  | none => rfl
  | some a =>
    rw [show ((fun q : PyData × Nat => cnt q.2 q.1) ∘ fun p => (p, r)) = cnt r from rfl]
    cases sumO (ps.map (cnt r)) with
    | none => rfl
    | some b =>
      show decide (c + (a + (1 + b + 0)) ≤ 2000) = decide (c + 1 + (a + b) ≤ 2000)
      exact decide_eq_decide.mpr (by omega)
theorem arity_le {w : Str} {n : Nat} (h : arity w = some n) : n ≤ 2 := by
  unfold arity at h
  repeat (first | (split at h; (first | (cases h; done) | (have := Option.some.inj h; omega) | skip)) | (cases h; done))
theorem inner_len {d : PyData} {ps : List PyData} (h : inner d = some ps) : ps.length ≤ 20 := by
  cases d with
  | tuple ds =>
    cases ds with
    | nil => cases h
    | cons x ds =>
      cases x with
      | str w =>
        by_cases a : isWord w = true
        · rw [inner_word a] at h
          by_cases b : leafOk w ds = true
          · rw [if_pos b] at h
            cases h
            decide
          · rw [if_neg b] at h
            cases h
        · have a' : isWord w = false := by simpa using a
          by_cases b : w = "row"
          · rw [inner_row a' b] at h
            by_cases c : ds.length ≤ 20
            · rw [if_pos c] at h
              cases h
              exact c
            · rw [if_neg c] at h
              cases h
          · by_cases c : w = "item"
            · by_cases l : ds.length = 2
              · match ds, l, h with
                | [d1, d2], _, h =>
                  rw [inner_item a' b c] at h
                  by_cases e : isNum 0 maxN d2 = true
                  · rw [if_pos e] at h
                    cases h
                    exact (by decide : 1 ≤ 20)
                  · rw [if_neg e] at h
                    cases h
              · rw [inner_item' a' b c l] at h
                cases h
            · rw [inner_ar a' b c] at h
              cases e : arity w with
              | none => rw [e] at h; cases h
              | some n =>
                rw [e] at h
                dsimp only at h
                by_cases l : ds.length = n
                · rw [if_pos l] at h
                  cases h
                  have := arity_le e
                  omega
                · rw [if_neg l] at h
                  cases h
      | _ => cases h
  | _ => cases h
/-! things that wait: W the list's place -/
inductive PL (B : Addr → Prop) (H : Hp) : List V → List (PyData × Nat) → Prop
  | nil : PL B H [] []
  | cons {t : Addr} {x : V} {q : PyData} {r : Nat} {vs : List V} {qs : List (PyData × Nat)} : ¬ B t → H t = some (.tup [x, .int (31 - (r : Int))]) → r ≤ 30 → Da B H x q → PL B H vs qs → PL B H (.ref t :: vs) ((q, r) :: qs)
theorem PL.keep {B : Addr → Prop} {H H' : Hp} (s : Kp B H H') : ∀ {vs : List V} {qs : List (PyData × Nat)}, PL B H vs qs → PL B H' vs qs
  | _, _, .nil => .nil
  | _, _, .cons n e l d t => .cons n (s _ _ e n) l (d.keep s) (t.keep s)
theorem PL.app {B : Addr → Prop} {H : Hp} : ∀ {vs us : List V} {qs ps : List (PyData × Nat)}, PL B H vs qs → PL B H us ps → PL B H (vs ++ us) (qs ++ ps)
  | _, _, _, _, .nil, h => h
  | _, _, _, _, .cons n e l d t, h => .cons n e l d (t.app h)
theorem PL.len {B : Addr → Prop} {H : Hp} : ∀ {vs : List V} {qs : List (PyData × Nat)}, PL B H vs qs → vs.length = qs.length
  | _, _, .nil => rfl
  | _, _, .cons _ _ _ _ t => by rw [List.length_cons, List.length_cons, t.len]
theorem PL.imp {B B' : Addr → Prop} {H : Hp} (h : ∀ a o, H a = some o → ¬ B a → ¬ B' a) : ∀ {vs : List V} {qs : List (PyData × Nat)}, PL B H vs qs → PL B' H vs qs
  | _, _, .nil => .nil
  | _, _, .cons n e l d t => .cons (h _ _ e n) e l (d.imp h) (t.imp h)
theorem PL.last {B : Addr → Prop} {H : Hp} : ∀ {vs : List V} {qs : List (PyData × Nat)}, PL B H vs qs → vs ≠ [] → ∃ (vs' : List V) (qs' : List (PyData × Nat)) (t : Addr) (x : V) (q : PyData) (r : Nat), vs = vs' ++ [.ref t] ∧ qs = qs' ++ [(q, r)] ∧ PL B H vs' qs' ∧ H t = some (.tup [x, .int (31 - (r : Int))]) ∧ r ≤ 30 ∧ Da B H x q ∧ ¬ B t
  | _, _, .nil, h => absurd rfl h
  | _, _, .cons (t := t) (x := x) (q := q) (r := r) n e l d .nil, _ => ⟨[], [], t, x, q, r, rfl, rfl, .nil, e, l, d, n⟩
  | _, _, .cons n e l d (.cons n2 e2 l2 d2 t2), _ => by
    obtain ⟨vs', qs', t, x, q, r, a1, a2, a3, a4⟩ := PL.last (.cons n2 e2 l2 d2 t2) (List.cons_ne_nil _ _)
    exact ⟨_ :: vs', _ :: qs', t, x, q, r, by rw [a1, List.cons_append], by rw [a2, List.cons_append], .cons n e l d a3, a4⟩
def spTr (g : PyData → Bool) : Sp := fun vs H Q _ => ∃ (B : Addr → Prop) (v : V) (d : PyData), vs = [v] ∧ Da B H v d ∧ Tr B H ∧ ∀ H', Same H H' → Q (.bl (g d)) H'
abbrev s_is_recipe : Stmt := top 24
abbrev N_is_recipe : List Str := ["thing", "waiting", "count", "one", "deep", "parts", "part"]
theorem sc_is_recipe : FnScope N_is_recipe ["thing"] (defScope s_is_recipe) := ⟨rfl, rfl, rfl, by decide +kernel, rfl, by decide +kernel, by decide +kernel⟩
theorem same_off {H H1 H2 : Hp} {W : Addr} (hW : H W = none) (s : Same H H1) (k : Kp (fun b => b = W) H1 H2) : Same H H2 := fun b o e => k b o (s b o e) (ne_of_none e hW)
section
variable {P : Program} {w : World} {K : PySem.W.Frag} {mg : Str → Option Value} {base : Heap}
theorem ok_is_recipe (T : Tx P w K mg) (f_inner_of : Df P w K mg base 4 "inner_of" spInner) {f : Addr} {fd : FuncData} (F : FD K "is_recipe" s_is_recipe f fd) : Fn P w K mg base 5 f fd ["thing"] (spTr isRec) := by
  refine fn_body F sc_is_recipe (fun vs H Q E h => ?_) (fun cv A outer s H vs Q E hr gd h => ?_)
  · obtain ⟨B, v, d, rfl, _⟩ := h
    rfl
  · obtain ⟨B, v, d, rfl, hd, tr, k⟩ := h
    refine ⟨_, (pss_cons (ps_par (i := 1) (j := 2) (by rfl) sc_is_recipe.nd rfl rfl (by decide) rfl rfl (pa_cons (pe_lst (pa_cons (pe_tup (pa_cons (pv 0) (pa_cons pe_int pa_nil))) pa_nil)) (pa_cons pe_int pa_nil)) (by rfl))
    (pss_cons (ps_while (passes_of rfl) (pt_cmpR op_gt (pe_callB Rd.cr_len (by rfl) T.len (by decide +kernel) (pa_cons (pv 1) pa_nil)) pe_int (nomark _)) (pss_cons (ps_asg (pe_bm0 PySem.F.plainAttrs_list PySem.F.slot_list_pop PySem.F.type_list_pop mt_pop (pv 1)) (pg_tup rfl (pgs_cons (pg_name (i := 3) sc_is_recipe.nd rfl (Or.inl rfl)) (pgs_cons (pg_name (i := 4) sc_is_recipe.nd rfl (Or.inr rfl)) pgs_nil))))
    (pss_cons (ps_aug (i := 2) sc_is_recipe.nd rfl (Or.inl rfl) pe_int ip_add)
    (pss_cons (ps_set (i := 5) sc_is_recipe.nd rfl (Or.inl rfl) (pe_df f_inner_of hr (by omega) gd rfl (fun σ => Gl.no_pass σ) (pa_cons (pv 3) pa_nil)))
    (pss_cons (ps_if (PW.pt (pw_or (pt_cmpR op_isN (pv 5) pe_non (nomark _)) (pw_or (pt_cmpR op_gt (pv 4) (C8.pe_gc rfl T.m_MOST_DEEP) (nomark _)) (pw_or1 (pt_cmpR op_gt (pv 2) (C8.pe_gc rfl T.m_MOST_RECIPES) (nomark _)))))) (pss_one (ps_ret pe_bl)) pss_nil)
    (pss_one (ps_expr (pe_bm PySem.F.plainAttrs_list PySem.F.slot_list_extend PySem.F.type_list_extend mt_extend (pv 1) (pa_cons (pe_lc (own := [("part", 6)]) (g := gName 6) (by rfl) sc_is_recipe.nd (pi_tup (pv 5)) (blkOk_by (own := [("part", 6)]) (N := N_is_recipe) (sc := defScope s_is_recipe) (by decide +kernel)) (fun _ _ _ _ _ => pg_name (i := 6) sc_is_recipe.nd rfl (Or.inl rfl)) (fun _ _ _ _ _ => pts_nil) (fun _ _ _ _ _ => (pe_tup (pa_cons (pv 6) (pa_cons (pe_op op_add (pv 4) pe_int) pa_nil))))) pa_nil)))))))))
    (pss_one (ps_ret pe_bl)))), ?_⟩
    repeat walk_at "rd1"
    rename_i t ht W hW
    have hW0 : H W = none := (Rd.same_new ht).free hW
    have s0 : Same H (upd (upd H t (.tup [v, .int 1])) W (.lst [.ref t])) := (Rd.same_new ht).trans (Rd.same_new hW)
    have hB : ∀ a o, H a = some o → ¬ B a → ¬ (a = W ∨ B a) := fun a o e n z => z.elim (fun z => by rw [z, hW0] at e; cases e) n
    have p0 : PL (fun b => b = W ∨ B b) (upd (upd H t (.tup [v, .int 1])) W (.lst [.ref t])) [.ref t] [(d, 30)] :=
      .cons (fun z => z.elim (fun z => by rw [z, upd_same] at hW; cases hW) (tr t ht)) (by show _ = some (HO.tup [v, V.int (31 - (30 : Int))]); walk_at "hp") (Nat.le_refl _) ((hd.imp hB).same s0) .nil
    have l0 : upd (upd H t (.tup [v, .int 1])) W (.lst [.ref t]) W = some (.lst [.ref t]) := upd_same
    revert s0 p0 l0
    generalize upd (upd H t (.tup [v, .int 1])) W (.lst [.ref t]) = H0
    intro s0 p0 l0
    refine ⟨fun m σ H' => ∃ (c : Nat) (o3 o4 o5 : Option V) (vs : List V) (qs : List (PyData × Nat)), m = 2001 - c ∧ c ≤ 2000 ∧ σ = [some v, some (.ref W), some (.int (c : Int)), o3, o4, o5, none] ∧ Same H H' ∧ H' W = some (.lst vs) ∧
      PL (fun b => b = W ∨ B b) H' vs qs ∧ vs.length ≤ 1 + 20 * c ∧ ans c qs = isRec d, ⟨2001, 0, none, none, none, [.ref t], [(d, 30)], rfl, by decide, rfl, s0, l0, p0, Nat.le_refl 1, ans_start d⟩, ?_⟩
    rintro m σ H' ⟨c, o3, o4, o5, vs, qs, rfl, hc, rfl, s1, l1, p1, z1, a1⟩
    repeat walk_at "rd1"
    apply Rd.iteD <;> intro c1
    · have hne : vs ≠ [] := fun z => by rw [z] at c1; simp at c1
      obtain ⟨vs', qs', t1, x, q, r, rfl, rfl, p2, et, hr30, dq, nt⟩ := p1.last hne
      refine ⟨_, fun σ' H' h => h, ?_⟩
      repeat walk_at "rd1"
      refine Rd.pop (y := .ref t1) l1 (by simp) ?_
      rw [List.dropLast_concat]
      have k1 : Kp (fun b => b = W ∨ B b) H' (upd H' W (.lst vs')) := fun b o e n => by rw [upd_ne (fun z => n (.inl z))]; exact e
      have s2 : Same H (upd H' W (.lst vs')) := same_off hW0 s1 fun b o e n => by rw [upd_ne n]; exact e
      have p3 := p2.keep k1
      have et1 := k1 _ _ et nt
      have dq1 := dq.keep k1
      have l2 : upd H' W (.lst vs') W = some (.lst vs') := upd_same
      revert s2 p3 et1 dq1 l2
      generalize upd H' W (.lst vs') = H1
      intro s2 p3 et1 dq1 l2
      have trW : Tr (fun b => b = W ∨ B b) H1 := fun a h z => z.elim (fun z => by rw [z, l2] at h; cases h) (tr a (s2.free h))
      rw [List.length_append] at z1
      have z2 : vs'.length + 1 ≤ 1 + 20 * c := z1
      repeat walk_at "rd1"
      refine ⟨_, x, q, rfl, dq1, trW, fun hn H2 s3 => ?_, fun ps hp u H2 s3 d3 => ?_⟩
      · repeat walk_at "rd1"
        refine ⟨rfl, ?_⟩
        repeat walk_at "rd1"
        refine Rd.iteD (fun _ => ?_) (fun z => absurd rfl z)
        repeat walk_at "rd1"
        have e : isRec d = false := by
          rw [← a1]
          refine ans_bad ?_
          cases r with
          | zero => rfl
          | succ r =>
            show (match inner q with | none => none | some ps => (sumO (ps.map (cnt r))).map (1 + ·)) = none
            rw [hn]
        have z := k H2 (s2.trans s3)
        rw [e] at z
        exact z
      · cases d3 with
        | @tup b xs _ e3 nb3 hl3 =>
          repeat walk_at "rd1"
          refine ⟨rfl, ?_⟩
          repeat walk_at "rd1"
          refine Rd.iteD (fun z => nomatch z) (fun _ => ?_)
          repeat walk_at "rd1"
          apply Rd.iteD <;> intro c2
          · repeat walk_at "rd1"
            have hr0 : r = 0 := by omega
            subst hr0
            have e : isRec d = false := by
              rw [← a1]
              exact ans_bad rfl
            have z := k H2 (s2.trans s3)
            rw [e] at z
            exact z
          · repeat walk_at "rd1"
            apply Rd.iteD <;> intro c3
            · repeat walk_at "rd1"
              have e : isRec d = false := by
                rw [← a1]
                exact ans_many (by omega)
              have z := k H2 (s2.trans s3)
              rw [e] at z
              exact z
            · obtain ⟨r', rfl⟩ : ∃ r', r = r' + 1 := ⟨r - 1, by omega⟩
              have l3 := s3 _ _ l2
              have tr3 : Tr (fun b => b = W ∨ B b) H2 := trW.same s3
              have hps := inner_len hp
              repeat walk_at "rd1"
              refine lcT (fun D i acc H => PL (fun b => b = D ∨ (b = W ∨ B b)) H acc ((ps.take i).map fun p => (p, r'))) (fun S h => ⟨_, rfl, h⟩) (.of e3) (by rw [hl3.len]; omega) (fun H' s => .of (s _ _ e3))
                (fun D H' hD => .nil) (fun D i acc Ha Hb h kp => h.keep fun b o e n => kp b o e fun z => n (.inl z)) (fun D hD i y acc hy Hc S F sc lD hR hS => ?_) (fun D acc Hc lc sc hD lD hR => ?_)
              · refine Rd.gname ⟨rfl, Rd.tyes (Rd.iteT ?_)⟩
                repeat walk_at "rd1"
                rename_i t2 ht2
                obtain ⟨py, hpy, dy⟩ := hl3.get hy
                have nt2 : ¬ (t2 = D ∨ (t2 = W ∨ B t2)) := fun z => z.elim (fun z => by rw [z, lD] at ht2; cases ht2) fun z => (tr3.same sc) t2 ht2 z
                have wd : ∀ a o, H2 a = some o → ¬ (a = W ∨ B a) → ¬ (a = D ∨ (a = W ∨ B a)) := fun a o e n z => z.elim (fun z => by rw [z, hD] at e; cases e) n
                refine hS _ _ (Rd.same_new ht2) ?_
                have tk : (ps.take (i + 1)).map (fun p => (p, r')) = (ps.take i).map (fun p => (p, r')) ++ [(py, r')] := by rw [List.take_add_one, hpy, List.map_append]; rfl
                show PL _ _ _ _
                rw [tk]
                exact (hR.keep (.of (Rd.same_new ht2))).app (.cons nt2 (by rw [upd_same, show (31 - ((r' + 1 : Nat) : Int) + 1) = 31 - (r' : Int) by omega]) (by omega) (((dy.imp wd).same sc).same (Rd.same_new ht2)) .nil)
              · repeat walk_at "rd1"
                have hl : acc.length = ps.length := by rw [lc, hl3.len]
                refine ⟨W, D, vs', acc, rfl, rfl, sc _ _ l3, lD, Rd.szl2' (by omega), ?_⟩
                have k4 : Kp (fun b => b = W ∨ B b) Hc (upd Hc W (.lst (vs' ++ acc))) := fun b o e n => by rw [upd_ne (fun z => n (.inl z))]; exact e
                refine ⟨2001 - (c + 1), by omega, c + 1, _, _, _, vs' ++ acc, qs' ++ ps.map fun p => (p, r'), rfl, by omega, rfl, ?_, upd_same, ?_, ?_, ?_⟩
                · exact same_off hW0 ((s2.trans s3).trans sc) fun b o e n => by rw [upd_ne n]; exact e
                · have hR' : PL (fun b => b = D ∨ (b = W ∨ B b)) Hc acc (ps.map fun p => (p, r')) := by
                    have z : PL (fun b => b = D ∨ (b = W ∨ B b)) Hc acc ((ps.take xs.length).map fun p => (p, r')) := hR
                    rw [hl3.len, List.take_length] at z
                    exact z
                  exact ((p3.keep (.of (s3.trans sc))).keep k4).app ((hR'.imp fun a o e n z => n (.inr z)).keep k4)
                · rw [List.length_append]
                  omega
                · rw [← a1]
                  exact (ans_step hp).symm
    · have e : vs = [] := by
        cases vs with
        | nil => rfl
        | cons a r => simp at c1
      subst e
      cases p1
      repeat walk_at "rd1"
      have e : isRec d = true := by
        rw [← a1]
        exact decide_eq_true (by omega)
      have z := k H' s1
      rw [e] at z
      exact z
end
end Law
set_option Elab.async false
set_option linter.all false
set_option maxRecDepth 100000
set_option maxHeartbeats 8000000
namespace Law
open PySem L2 Gl Dt
local macro_rules | `(tactic| walk_at "hp") => `(tactic| first
  | with_reducible assumption
  | with_reducible exact upd_same
  | ((with_reducible apply Rd.upd_new); (with_reducible assumption); (walk_at "hp"))
  | ((with_reducible apply Rd.upd_off); (with_reducible assumption); (walk_at "hp"))
  | ((with_reducible apply Rd.upd_off'); (with_reducible assumption); (walk_at "hp"))
  | exact upd_same)
local macro_rules | `(tactic| walk_at "sq") => `(tactic| first
  | assumption
  | (apply SqL.of; walk_at "hp")
  | (apply SqT.of; walk_at "hp"))
local macro_rules | `(tactic| walk_at "rd1") => `(tactic| first
  | with_reducible refine Rd.seq ?_
  | with_reducible refine Rd.asg ?_
  | with_reducible refine Rd.gname ?_
  | ((with_reducible apply Rd.var); rfl)
  | with_reducible refine Rd.cst ?_
  | with_reducible refine Rd.op ?_
  | with_reducible refine Rd.i0 ?_
  | ((with_reducible apply Rd.iC); (first | (show _ < _; omega) | exact ⟨by omega, by omega⟩ | exact .inl ⟨by omega, by omega⟩ | exact .inr ⟨by omega, by omega⟩ | exact ⟨by decide, by decide, by decide⟩); skip)
  | ((with_reducible apply Rd.ixl); (walk_at "sq"); (first | rfl | exact Rd.atI0 | assumption))
  | ((with_reducible apply Rd.ixt); (walk_at "sq"); (first | rfl | exact Rd.atI0 | assumption))
  | with_reducible refine Rd.ret ?_
  | with_reducible refine Rd.drop ?_
  | with_reducible refine Rd.next ?_
  | with_reducible refine Rd.ifs ?_
  | with_reducible refine Rd.test ?_
  | with_reducible refine Rd.tb ?_
  | with_reducible refine Rd.tnot ?_
  | with_reducible refine Rd.tor ?_
  | with_reducible refine Rd.tand ?_
  | with_reducible refine Rd.tyes ?_
  | with_reducible refine Rd.exbl ?_
  | with_reducible refine Rd.exint ?_
  | with_reducible refine Rd.eqI ?_
  | with_reducible refine Rd.neI ?_
  | with_reducible refine Rd.eqS ?_
  | with_reducible refine Rd.neS ?_
  | with_reducible refine Rd.cb ?_
  | with_reducible refine Rd.acons ?_
  | with_reducible refine Rd.anil ?_
  | with_reducible refine Rd.un ?_
  | with_reducible refine Rd.u1 ?_
  | ((with_reducible apply Rd.lenL); (walk_at "sq"))
  | ((with_reducible apply Rd.lenT); (walk_at "sq"))
  | with_reducible refine Rd.int1 ?_
  | with_reducible refine Rd.intb ?_
  | with_reducible refine Rd.abs1 ?_
  | with_reducible refine Rd.gsub ?_
  | ((with_reducible apply Rd.setl); (walk_at "hp"); (first | rfl | exact Rd.ixN0))
  | with_reducible refine Rd.bm ?_
  | with_reducible refine Rd.bm0 ?_
  | (apply Rd.tyl; (walk_at "hp"))
  | ((with_reducible apply Rd.appl); (walk_at "hp"))
  | ((with_reducible apply Rd.popat00); walk_at "hp")
  | with_reducible refine Rd.iteT ?_
  | with_reducible refine Rd.iteF ?_
  | with_reducible refine Rd.iteNT ?_
  | with_reducible refine Rd.iteNF ?_
  | with_reducible refine Rd.df ?_
  | (with_reducible (refine Rd.mkN ?_)); intro _ _
  | ((with_reducible apply Rd.mkE); rfl; intro _ _ _ _)
  | with_reducible refine Rd.lst ?_
  | with_reducible refine Rd.tup ?_
  | ((with_reducible (refine And.intro (Rd.szl (by simp)) ?_)); intro _ _)
  | ((with_reducible apply Rd.cat); (walk_at "hp"); (walk_at "hp"); exact Rd.szl2 (by simp); intro _ _)
  | ((with_reducible apply Rd.gtup); (walk_at "sq"); rfl)
  | with_reducible refine Rd.gcons ?_
  | with_reducible refine Rd.gnil ?_
  | with_reducible refine Rd.par ?_
  | with_reducible refine Rd.par2 ?_
  | with_reducible refine Rd.par3 ?_
  | ((with_reducible (refine Dt.dnew ?_)); intro _ _)
  | ((with_reducible (refine Dt.mulS ?_ ?_ ?_ ?_ ?_ ?_)); decide; decide; exact ⟨by decide, by decide⟩; decide +kernel; decide +kernel)
  | ((with_reducible apply Rd.aug); rfl)
  | with_reducible refine Rd.ipi ?_
  | with_reducible refine Rd.sl ?_
  | with_reducible refine Rd.part ?_
  | with_reducible refine Rd.nopart ?_
  | with_reducible refine Rd.andv ?_
  | with_reducible refine Rd.orv ?_
  | with_reducible refine Rd.notv ?_
  | with_reducible refine Rd.ifx ?_
  | with_reducible refine Rd.chain ?_
  | with_reducible refine Dt.isi_tup (by assumption) ?_
  | with_reducible refine Dt.isi_int (by assumption) ?_
  | with_reducible refine Dt.isi_bool (by assumption) ?_
  | with_reducible refine Dt.isi_str (by assumption) ?_
  | with_reducible refine Rd.par33 ?_
  | ((with_reducible apply Rd.fldE); rfl; (walk_at "hp"); (walk_at "hp")))

def cntV : Option Nat → V
  | some n => .int (n : Int)
  | none => .non
theorem cnt_none {r : Nat} {d : PyData} (h : inner d = none) : cnt (r + 1) d = none := by
  show (match inner d with | none => none | some ps => (sumO (ps.map (cnt r))).map (1 + ·)) = _
  rw [h]
theorem cnt_some {r : Nat} {d : PyData} {ps : List PyData} (h : inner d = some ps) : cnt (r + 1) d = (sumO (ps.map (cnt r))).map (1 + ·) := by
  show (match inner d with | none => none | some ps => (sumO (ps.map (cnt r))).map (1 + ·)) = _
  rw [h]
def spCounted : Nat → Sp
  | 0 => fun _ _ _ _ => False
  | n + 1 => fun vs H Q _ => ∃ (B : Addr → Prop) (v : V) (d : PyData) (r : Nat), vs = [v, .int (31 - (r : Int))] ∧ r ≤ n ∧ r ≤ 30 ∧ Da B H v d ∧ Tr B H ∧ ∀ H', Same H H' → Q (cntV (cnt r d)) H'
abbrev s__law_is_number : Stmt := top 30
abbrev N__law_is_number : List Str := ["thing"]
theorem sc__law_is_number : FnScope N__law_is_number ["thing"] (defScope s__law_is_number) := ⟨rfl, rfl, rfl, by decide +kernel, rfl, by decide +kernel, by decide +kernel⟩
abbrev s__law_counted : Stmt := top 31
abbrev N__law_counted : List Str := ["thing", "deep", "kind", "rest", "sign", "many", "counts", "one"]
theorem sc__law_counted : FnScope N__law_counted ["thing", "deep"] (defScope s__law_counted) := ⟨rfl, rfl, rfl, by decide +kernel, rfl, by decide +kernel, by decide +kernel⟩
section
variable {P : Program} {w : World} {K : PySem.W.Frag} {mg : Str → Option Value} {base : Heap}
theorem ok_is_number (T : Tx P w K mg) {f : Addr} {fd : FuncData} (F : FD K "_law_is_number" s__law_is_number f fd) : Fn P w K mg base 1 f fd ["thing"] (spT (isNum 0 maxN)) := by
  refine fn_body F sc__law_is_number (fun vs H Q E h => ?_) (fun cv A outer s H vs Q E hr gd h => ?_)
  · obtain ⟨B, v, d, rfl, _⟩ := h
    rfl
  · obtain ⟨B, v, d, rfl, hd, k⟩ := h
    refine ⟨_, (pss_one (ps_ret (pe_and (pe_callB call_isi (by rfl) T.isinstance (by decide +kernel) (pa_cons (pv 0) (pa_cons (pe_bltn (v := .ty "int") (by rfl) T.int (by decide +kernel) rfl) pa_nil))) (pe_and (pe_not (pe_callB call_isi (by rfl) T.isinstance (by decide +kernel) (pa_cons (pv 0) (pa_cons (pe_bltn (v := .ty "bool") (by rfl) T.bool (by decide +kernel) rfl) pa_nil)))) (pe_one (pe_chain op_le op_lt pe_int (pv 0) (pe_op op_pow pe_int pe_int))))))), ?_⟩
    have z := k _ (Same.refl _)
    repeat walk_at "rd1"
    apply Rd.iteB <;> intro c
    · repeat walk_at "rd1"
      apply Rd.iteNB <;> intro c2
      · cases hd with
        | int i =>
          repeat walk_at "rd1"
          apply Rd.iteD <;> intro c3
          · repeat walk_at "rd1"
            rw [show isNum 0 maxN (.int i) = decide (i < 10 ^ Int.toNat 12) by
              show (decide (0 ≤ i) && decide (i ≤ 999999999999)) = _
              rw [decide_eq_true c3, Bool.true_and]
              exact decide_eq_decide.mpr (by rw [show ((10 : Int) ^ Int.toNat 12) = 1000000000000 from rfl]; omega)] at z
            exact z
          · rw [show isNum 0 maxN (.int i) = false by simp [isNum, c3]] at z
            exact z
        | bl b => cases c2
        | _ => cases c
      · rw [show isNum 0 maxN d = false by cases d <;> first | rfl | cases c2] at z
        exact z
    · rw [show isNum 0 maxN d = false by cases d <;> first | rfl | cases c] at z
      exact z
theorem flat_cnt : ∀ cs : List (Option Nat), (cs.map cntV).all flatV = true
  | [] => rfl
  | none :: r => flat_cnt r
  | some a :: r => flat_cnt r
theorem in_none : ∀ cs : List (Option Nat), (if false = true then !inV .non (cs.map cntV) else inV .non (cs.map cntV)) = (sumO cs).isNone := fun cs => by
  rw [if_neg Bool.false_ne_true]
  induction cs with
  | nil => rfl
  | cons c r ih =>
    cases c with
    | none => rfl
    | some a =>
      show (false || inV .non (r.map cntV)) = ((sumO r).map (a + ·)).isNone
      rw [ih, Bool.false_or]
      cases sumO r <;> rfl
theorem sum_some : ∀ {cs : List (Option Nat)} {t : Nat}, sumO cs = some t → ∃ ns : List Int, cs.map cntV = ns.map V.int ∧ ns.sum = (t : Int)
  | [], t, h => by
    cases h
    exact ⟨[], rfl, rfl⟩
  | none :: r, t, h => by cases h
  | some a :: r, t, h => by
    have h' : (sumO r).map (a + ·) = some t := h
    cases e : sumO r with
    | none => rw [e] at h'; cases h'
    | some b =>
      rw [e] at h'
      have h2 : a + b = t := Option.some.inj h'
      obtain ⟨ns, e1, e2⟩ := sum_some e
      refine ⟨(a : Int) :: ns, by rw [List.map_cons, e1]; rfl, by rw [List.sum_cons, e2]; omega⟩
theorem counts_end {n r : Nat} {K : PySem.W.Frag} {H : Hp} {Q : VK} {B : Addr → Prop} {ps : List PyData} {b : Addr} {xs : List V} {o0 o2 o5 o6 : Option V} (hrn : r + 1 ≤ n) (hr30 : r + 1 ≤ 30) (e : H b = some (.tup xs)) (hl : DaL B H xs ps) (tr : Tr B H) (hlen : ps.length ≤ 20)
    (k : ∀ H', Same H H' → Q (cntV ((sumO (ps.map (cnt r))).map (1 + ·))) H') :
    (tSeq (tAsg (tLc (iTup K (tVar 3)) (gName 7) tYes (tDf (spCounted n) (fun σ => E0) (tCons (tVar 7) (tCons (tOp (rI0 fun i j => V.int (i + j)) (tVar 1) (tC (V.int 1))) tNil))) [7]) (gName 6))
      (tRet (tIf (tTest (tOp (rIn K false) (tC V.non) (tVar 6))) (tC V.non) (tOp (rI0 fun i j => V.int (i + j)) (tC (V.int 1)) (tCB (rSum K) (tCons (tVar 6) tNil))))))
      ⟨fun _ H' => Q .non H', Q, fun _ _ => False, fun _ _ => False⟩ [o0, some (.int (31 - ((r + 1 : Nat) : Int))), o2, some (.ref b), none, o5, o6, none] H := by
  obtain ⟨n, rfl⟩ : ∃ n', n = n' + 1 := ⟨n - 1, by omega⟩
  refine Rd.seq (Rd.asg ?_)
  refine lcT (fun D i acc H => acc = (ps.take i).map fun p => cntV (cnt r p)) (fun S h => ⟨_, rfl, h⟩) (.of e) (by rw [hl.len]; omega) (fun H' s => .of (s _ _ e))
    (fun D H' hD => rfl) (fun D i acc Ha Hb h kp => h) (fun D hD i y acc hy Hc S F sc lD hR hS => ?_) (fun D acc Hc lc sc hD lD hR => ?_)
  · refine Rd.gname ⟨rfl, Rd.tyes (Rd.iteT ?_)⟩
    repeat walk_at "rd1"
    obtain ⟨p, hp, dy⟩ := hl.get hy
    refine ⟨B, y, p, r, by rw [show (31 - ((r + 1 : Nat) : Int) + 1) = 31 - (r : Int) by omega], by omega, by omega, dy.same sc, tr.same sc, fun H' s' => hS _ _ s' ?_⟩
    have hR' : acc = (ps.take i).map fun p => cntV (cnt r p) := hR
    show acc ++ [_] = _
    rw [hR', List.take_add_one, hp, List.map_append]
    rfl
  · have hR' : acc = (ps.map (cnt r)).map cntV := by
      have z : acc = (ps.take xs.length).map fun p => cntV (cnt r p) := hR
      rw [hl.len, List.take_length] at z
      rw [z, List.map_map]
      rfl
    subst hR'
    repeat walk_at "rd1"
    refine ⟨D, _, rfl, .inl (.of lD), rfl, flat_cnt _, ?_⟩
    rw [in_none]
    repeat walk_at "rd1"
    apply Rd.iteB <;> intro c
    · repeat walk_at "rd1"
      have z := k _ sc
      rw [Option.isNone_iff_eq_none.mp c] at z
      exact z
    · cases et : sumO (ps.map (cnt r)) with
      | none => rw [et] at c; cases c
      | some t =>
        obtain ⟨ns, e1, e2⟩ := sum_some et
        repeat walk_at "rd1"
        refine ⟨D, ns, rfl, .of (by rw [lD, e1]), ?_⟩
        repeat walk_at "rd1"
        have z := k _ sc
        rw [et] at z
        rw [e2]
        exact z
theorem cut01 {d1 d2 : PyData} : cutD [d1, d2] none (some 1) = [d1] := rfl
def all9 : List (Key × V) := [(.inr "made", .int 2), (.inr "lock", .int 1), (.inr "box", .int 2), (.inr "chest", .int 2), (.inr "mark", .int 2), (.inr "print", .int 1), (.inr "unbox", .int 2), (.inr "unchest", .int 2), (.inr "unmark", .int 1)]
theorem many9 {x : Str} : (valV all9 (.inr x)).getD .non = arV x := by
  unfold valV all9
  simp only [List.find?_cons, key_rr, List.find?_nil]
  by_cases b1 : x = "made"
  · subst b1; rfl
  by_cases b2 : x = "lock"
  · subst b2; rfl
  by_cases b3 : x = "box"
  · subst b3; rfl
  by_cases b4 : x = "chest"
  · subst b4; rfl
  by_cases b5 : x = "mark"
  · subst b5; rfl
  by_cases b6 : x = "print"
  · subst b6; rfl
  by_cases a1 : x = "unbox"
  · subst a1; rfl
  by_cases a2 : x = "unchest"
  · subst a2; rfl
  by_cases a3 : x = "unmark"
  · subst a3; rfl
  rw [decide_eq_false (fun z => b1 z.symm), decide_eq_false (fun z => b2 z.symm), decide_eq_false (fun z => b3 z.symm), decide_eq_false (fun z => b4 z.symm), decide_eq_false (fun z => b5 z.symm), decide_eq_false (fun z => b6 z.symm), decide_eq_false (fun z => a1 z.symm), decide_eq_false (fun z => a2 z.symm), decide_eq_false (fun z => a3 z.symm)]
  unfold arV arity
  rw [if_neg a1, if_neg a2, if_neg a3, if_neg b1, if_neg b2, if_neg b3, if_neg b4, if_neg b5, if_neg b6]
  rfl
theorem words2 (x : Str) : (if false = true then !inV (.str x) [.str "at", .str "number"] else inV (.str x) [.str "at", .str "number"]) = (decide (x = "at") || decide (x = "number")) := by
  rw [if_neg Bool.false_ne_true]
  show ((("at" : Str) == x) || ((("number" : Str) == x) || false)) = _
  have f : ∀ a b : Str, (a == b) = decide (b = a) := fun a b => by
    by_cases h : b = a
    · subst h
      simp
    · rw [decide_eq_false h]
      simpa using fun z => h z.symm
  rw [f, f, Bool.or_false]
theorem ok_counted (T : Tx P w K mg) (f__law_is_number : Df P w K mg base 1 "_law_is_number" (spT (isNum 0 maxN))) {f : Addr} {fd : FuncData} (F : FD K "_law_counted" s__law_counted f fd) {n : Nat} (f__law_counted : Df P w K mg base (n + 2) "_law_counted" (spCounted n)) :
    Fn P w K mg base (n + 3) f fd ["thing", "deep"] (spCounted (n + 1)) := by
  refine fn_body F sc__law_counted (fun vs H Q E h => ?_) (fun cv A outer s H vs Q E hr gd h => ?_)
  · obtain ⟨B, v, d, r, rfl, _⟩ := h
    rfl
  · obtain ⟨B, v, d, r, rfl, hrn, hr30, hd, tr, k⟩ := h
    have hu : (cxOf (L2.CX P w) P w K mg base N__law_counted "_law_counted" (defScope s__law_counted) f cv A outer s H E).A.units + 1 < cLine := by have := hr.un; show (A.deeper _).units + 1 < cLine; omega
    refine ⟨_, (pss_cons (ps_if (PW.pt (pw_or (pt_cmpR op_gt (pv 1) pe_int (nomark _)) (pw_or (pt_not (pt_val (pe_callB call_isi (by rfl) T.isinstance (by decide +kernel) (pa_cons (pv 0) (pa_cons (pe_bltn (v := .ty "tuple") (by rfl) T.tuple (by decide +kernel) rfl) pa_nil))))) (pw_or (pt_cmpR op_eq (pe_callB Rd.cr_len (by rfl) T.len (by decide +kernel) (pa_cons (pv 0) pa_nil)) pe_int (nomark _)) (pw_or1 (pt_not (pt_val (pe_callB call_isi (by rfl) T.isinstance (by decide +kernel) (pa_cons (pe_ix ix_tup (pv 0) pe_int (fun _ _ => rfl)) (pa_cons (pe_bltn (v := .ty "str") (by rfl) T.str (by decide +kernel) rfl) pa_nil)))))))))) (pss_one (ps_ret pe_non)) pss_nil)
    (pss_cons (ps_par (i := 2) (j := 3) (by rfl) sc__law_counted.nd rfl rfl (by decide) rfl rfl (pa_cons (pe_ix ix_tup (pv 0) pe_int (fun _ _ => rfl)) (pa_cons (pe_slice sl_tupA (pv 0) (po_some pe_int) po_none) pa_nil)) (by rfl))
    (pss_cons (ps_if (pt_cmpR op_in_seq (pv 2) (pe_tup (pa_cons pe_str (pa_cons pe_str pa_nil))) rfl) (pss_one (ps_ret (pe_ifExp (PW.pt (pw_and (pt_cmpR op_eq (pe_callB Rd.cr_len (by rfl) T.len (by decide +kernel) (pa_cons (pv 3) pa_nil)) pe_int (nomark _)) (pw_and1 (pt_val (pe_df f__law_is_number hr (by omega) gd rfl (fun σ => Gl.no_pass σ) (pa_cons (pe_ix ix_tup (pv 3) pe_int (fun _ _ => rfl)) pa_nil)))))) pe_int pe_non))) pss_nil)
    (pss_cons (ps_if (pt_cmpR op_eq (pv 2) pe_str (nomark _)) (pss_cons (ps_if (PW.pt (pw_or (pt_cmpR op_ne (pe_callB Rd.cr_len (by rfl) T.len (by decide +kernel) (pa_cons (pv 3) pa_nil)) pe_int (nomark _)) (pw_or (pt_not (pt_val (pe_callB call_isi (by rfl) T.isinstance (by decide +kernel) (pa_cons (pe_ix ix_tup (pv 3) pe_int (fun _ _ => rfl)) (pa_cons (pe_bltn (v := .ty "str") (by rfl) T.str (by decide +kernel) rfl) pa_nil))))) (pw_or1 (pt_cmpR op_gt (pe_callB Rd.cr_len (by rfl) T.len (by decide +kernel) (pa_cons (pe_ix ix_tup (pv 3) pe_int (fun _ _ => rfl)) pa_nil)) pe_int (nomark _)))))) (pss_one (ps_ret pe_non)) pss_nil)
    (pss_one (ps_ret (pe_ifExp (pt_val (pe_callB (cr_all rfl) (by rfl) T.all (by decide +kernel) (pa_cons (pe_lc (own := [("sign", 4)]) (g := gName 4) (by rfl) sc__law_counted.nd (pi_str (pe_ix ix_tup (pv 3) pe_int (fun _ _ => rfl))) (blkOk_by (own := [("sign", 4)]) (N := N__law_counted) (sc := defScope s__law_counted) (by decide +kernel)) (fun _ _ _ _ _ => pg_name (i := 4) sc__law_counted.nd rfl (Or.inl rfl)) (fun _ _ _ _ _ => pts_nil) (fun _ _ _ _ _ => (pe_chain op_le_str op_le_str pe_str (pv 4) pe_str))) pa_nil))) pe_int pe_non)))) pss_nil)
    (pss_cons (ps_if (pt_cmpR op_eq (pv 2) pe_str (nomark _)) (pss_cons (ps_if (PW.pt (pw_or (pt_cmpR op_ne (pe_callB Rd.cr_len (by rfl) T.len (by decide +kernel) (pa_cons (pv 3) pa_nil)) pe_int (nomark _)) (pw_or1 (pt_not (pt_val (pe_df f__law_is_number hr (by omega) gd rfl (fun σ => Gl.no_pass σ) (pa_cons (pe_ix ix_tup (pv 3) pe_int (fun _ _ => rfl)) pa_nil))))))) (pss_one (ps_ret pe_non)) pss_nil)
    (pss_one (ps_set (i := 3) sc__law_counted.nd rfl (Or.inl rfl) (pe_slice sl_tupA (pv 3) po_none (po_some pe_int))))) (pss_cons (ps_set (i := 5) sc__law_counted.nd rfl (Or.inl rfl) (pe_disp (pps_cons pe_str pe_int (pps_cons pe_str pe_int (pps_cons pe_str pe_int (pps_cons pe_str pe_int (pps_cons pe_str pe_int (pps_cons pe_str pe_int (pps_cons pe_str pe_int (pps_cons pe_str pe_int pps_nil)))))))) (by rfl) (by rfl) (fun z => by cases z) (by decide)))
    (pss_cons (ps_asg pe_int (pg_sub (pv 5) pe_str (set_dict hu)))
    (pss_one (ps_if (PW.pt (pw_or (PW.pt (pw_and (pt_cmpR op_eq (pv 2) pe_str (nomark _)) (pw_and1 (pt_cmpR op_gt (pe_callB Rd.cr_len (by rfl) T.len (by decide +kernel) (pa_cons (pv 3) pa_nil)) pe_int (nomark _))))) (pw_or1 (PW.pt (pw_and (pt_cmpR op_ne (pv 2) pe_str (nomark _)) (pw_and1 (pt_cmpR op_ne (pe_dget2 hu (pv 5) (pv 2) pe_non ⟨rfl, rfl, rfl, rfl⟩) (pe_callB Rd.cr_len (by rfl) T.len (by decide +kernel) (pa_cons (pv 3) pa_nil)) (nomark _)))))))) (pss_one (ps_ret pe_non)) pss_nil)))))
    (pss_cons (ps_setLc (i := 6) (y := "counts") (own := [("one", 7)]) (g := gName 7) (by rfl) sc__law_counted.nd rfl rfl (sw_true rfl rfl rfl (by decide +kernel)) (pi_tup (pv 3)) (blkOk_by (own := [("one", 7)]) (N := N__law_counted) (sc := defScope s__law_counted) (by decide +kernel)) (fun _ _ _ _ _ => pg_name (i := 7) sc__law_counted.nd rfl (Or.inl rfl)) (fun _ _ _ _ _ => pts_nil) (fun _ _ _ _ _ => (pe_df f__law_counted hr (by omega) gd rfl (fun σ => Gl.no_pass σ) (pa_cons (pv 7) (pa_cons (pe_op op_add (pv 1) pe_int) pa_nil)))))
    (pss_one (ps_ret (pe_ifExp (pt_cmpR op_in_seq pe_non (pv 6) rfl) pe_non (pe_op op_add pe_int (pe_callB (cr_sum rfl) (by rfl) T.sum (by decide +kernel) (pa_cons (pv 6) pa_nil)))))))))))), ?_⟩
    repeat walk_at "rd1"
    apply Rd.iteD <;> intro c0
    · repeat walk_at "rd1"
      have hr0 : r = 0 := by omega
      subst hr0
      exact k _ (Same.refl _)
    · obtain ⟨r, rfl⟩ : ∃ r', r = r' + 1 := ⟨r - 1, by omega⟩
      repeat walk_at "rd1"
      apply Rd.iteNB <;> intro c
      · repeat walk_at "rd1"
        have z := k _ (Same.refl _)
        rw [cnt_none (by cases d <;> first | rfl | cases c)] at z
        exact z
      · cases hd with
        | @tup a xs ds e nb hl =>
          repeat walk_at "rd1"
          cases hl with
          | nil =>
            repeat walk_at "rd1"
            have z := k _ (Same.refl _)
            rw [cnt_none rfl] at z
            exact z
          | @cons v0 vs0 x ds h1 h2 =>
            apply Rd.iteD <;> intro c1
            · simp at c1
              omega
            · repeat walk_at "rd1"
              apply Rd.iteNB <;> intro c2
              · repeat walk_at "rd1"
                have z := k _ (Same.refl _)
                rw [cnt_none (by cases x <;> first | rfl | cases c2)] at z
                exact z
              · cases h1 with
                | @str x hx =>
                  have hd0 : Da B H (.ref a) (.tuple (.str x :: ds)) := .tup e nb (.cons (.str hx) h2)
                  repeat walk_at "rd1"
                  refine sl hd0 tr fun u H1 s1 d1 => ?_
                  rw [cut1] at d1
                  cases d1 with
                  | @tup b xs1 _ e1 nb1 hl1 =>
                    have tr1 := tr.same s1
                    repeat walk_at "rd1"
                    rename_i p hp
                    refine ⟨_, _, rfl, .inr (.of upd_same), rfl, rfl, ?_⟩
                    rw [words2 x]
                    have s2 : Same H1 (upd H1 p (.tup [.str "at", .str "number"])) := Rd.same_new hp
                    revert s2
                    generalize upd H1 p (.tup [.str "at", .str "number"]) = H2
                    intro s2
                    have e2 := s2 _ _ e1
                    have hl2 := hl1.same s2
                    have tr2 := tr1.same s2
                    have s02 := s1.trans s2
                    have l1 : xs1.length = ds.length := hl1.len
                    have leaf : ∀ (H' : Hp) (b : Bool), Same H2 H' → isWord x = true → leafOk x ds = b → Q (if b = true then .int 1 else .non) H' := fun H' b s hw hb => by
                      have z := k H' (s02.trans s)
                      cases b with
                      | true =>
                        rw [cnt_some (by rw [inner_word hw, if_pos hb])] at z
                        exact z
                      | false =>
                        rw [cnt_none (by rw [inner_word hw, if_neg (by rw [hb]; exact Bool.false_ne_true)])] at z
                        exact z
                    repeat walk_at "rd1"
                    apply Rd.iteB <;> intro c3
                    · have hw : isWord x = true := by
                        unfold isWord
                        rcases Bool.or_eq_true_iff.mp c3 with z | z
                        · rw [z]; rfl
                        · rw [z]; simp
                      have nn : ¬ x = "name" := by
                        rintro rfl
                        exact absurd c3 (by decide)
                      repeat walk_at "rd1"
                      apply Rd.iteD <;> intro c4
                      · obtain ⟨y, rfl⟩ : ∃ y, ds = [y] := by
                          match ds, l1 with
                          | [], l1 => rw [l1] at c4; cases c4
                          | [y], l1 => exact ⟨y, rfl⟩
                          | _ :: _ :: _, l1 => rw [l1] at c4; simp at c4; omega
                        cases hl2 with
                        | @cons v1 vs1 _ _ g1 g2 =>
                          cases g2
                          repeat walk_at "rd1"
                          refine ⟨B, v1, y, rfl, g1, fun H3 s3 => ?_⟩
                          have lf : leafOk x [y] = isNum 0 maxN y := by
                            show (if x = "at" then isNum 0 maxN y else if x = "name" then textOk y else isNum 0 maxN y) = _
                            rw [if_neg nn]
                            split <;> rfl
                          have z := leaf H3 _ s3 hw lf
                          repeat walk_at "rd1"
                          apply Rd.iteB <;> intro c5
                          · repeat walk_at "rd1"
                            rw [c5] at z
                            exact z
                          · repeat walk_at "rd1"
                            rw [c5] at z
                            exact z
                      · repeat walk_at "rd1"
                        refine leaf H2 false (Same.refl _) hw ?_
                        match ds, l1 with
                        | [], _ => rfl
                        | [y], l1 => rw [l1] at c4; simp at c4
                        | _ :: _ :: _, _ => rfl
                    · repeat walk_at "rd1"
                      apply Rd.iteD <;> intro c4
                      · subst c4
                        have hw : isWord "name" = true := by decide
                        repeat walk_at "rd1"
                        apply Rd.iteND <;> intro c5
                        · repeat walk_at "rd1"
                          refine leaf H2 false (Same.refl _) hw ?_
                          match ds, l1 with
                          | [], _ => rfl
                          | [y], l1 => rw [l1] at c5; simp at c5
                          | _ :: _ :: _, _ => rfl
                        · obtain ⟨y, rfl⟩ : ∃ y, ds = [y] := by
                            match ds, l1 with
                            | [], l1 => rw [l1] at c5; cases c5
                            | [y], l1 => exact ⟨y, rfl⟩
                            | _ :: _ :: _, l1 => rw [l1] at c5; simp at c5; omega
                          cases hl2 with
                          | @cons v1 vs1 _ _ g1 g2 =>
                            cases g2
                            repeat walk_at "rd1"
                            have lf : leafOk "name" [y] = textOk y := rfl
                            apply Rd.iteNB <;> intro c6
                            · repeat walk_at "rd1"
                              refine leaf H2 false (Same.refl _) hw ?_
                              rw [lf]
                              cases y <;> first | rfl | cases c6
                            · cases g1 with
                              | @str y hy =>
                                repeat walk_at "rd1"
                                refine Rd.lenS (Nat.le_trans hy (by decide)) ?_
                                repeat walk_at "rd1"
                                apply Rd.iteD <;> intro c7
                                · repeat walk_at "rd1"
                                  refine leaf H2 false (Same.refl _) hw ?_
                                  rw [lf]
                                  have : ¬ y.length ≤ 40 := by omega
                                  simp [textOk, this]
                                · repeat walk_at "rd1"
                                  refine lcS (fun S h => Rd.op (Rd.var rfl (Rd.cst (Rd.ixt (.of e2) rfl h)))) hy (fun c => .bl (signOk c)) (fun ch hc H3 S F s3 hS => ?_) (fun D hD => ?_)
                                  · refine Rd.gname ⟨rfl, Rd.tyes (Rd.iteT ?_)⟩
                                    repeat walk_at "rd1"
                                    refine ⟨_, _, rfl, rfl, ?_⟩
                                    repeat walk_at "rd1"
                                    rw [show decide ((⟨#[ch]⟩ : Str).cps.toList < (" " : Str).cps.toList) = decide (ch < 32) from decide_eq_decide.mpr (lt1 ch 32)]
                                    apply Rd.iteND <;> intro c8
                                    · repeat walk_at "rd1"
                                      refine ⟨_, _, rfl, rfl, ?_⟩
                                      rw [show decide (("~" : Str).cps.toList < (⟨#[ch]⟩ : Str).cps.toList) = decide (126 < ch) from decide_eq_decide.mpr (lt1 126 ch)]
                                      have e : (!decide (126 < ch)) = signOk ch := by
                                        unfold signOk
                                        by_cases h : 126 < ch
                                        · simp [h]
                                        · simp [h]; omega
                                      rw [e]
                                      exact hS
                                    · have e : false = signOk ch := by
                                        unfold signOk
                                        simp
                                        omega
                                      rw [e]
                                      exact hS
                                  · repeat walk_at "rd1"
                                    refine ⟨D, y.cps.toList.map signOk, rfl, .of (by rw [upd_same, List.map_map]; rfl), ?_⟩
                                    have et : (y.cps.toList.map signOk).all id = textOk (.str y) := by
                                      rw [List.all_map]
                                      have c7' : y.length ≤ 40 := by omega
                                      simp [textOk, c7']
                                    have z := leaf _ _ (Rd.same_new (o := .lst (y.cps.toList.map fun c => .bl (signOk c))) hD) hw lf
                                    rw [et]
                                    repeat walk_at "rd1"
                                    apply Rd.iteB <;> intro c8
                                    · repeat walk_at "rd1"
                                      rw [c8] at z
                                      exact z
                                    · repeat walk_at "rd1"
                                      rw [c8] at z
                                      exact z
                              | _ => cases c6
                      · have hw : isWord x = false := by
                          unfold isWord
                          have z := Bool.or_eq_false_iff.mp c3
                          rw [z.1, z.2, decide_eq_false c4]
                          rfl
                        repeat walk_at "rd1"
                        apply Rd.iteD <;> intro c5
                        · have nrow : ¬ x = "row" := by rw [c5]; decide
                          repeat walk_at "rd1"
                          have no : ds.length ≠ 2 → ∀ H', Same H2 H' → Q .non H' := fun h2 H' s => by
                            have z := k H' (s02.trans s)
                            rw [cnt_none (inner_item' hw nrow c5 h2)] at z
                            exact z
                          apply Rd.iteND <;> intro c6
                          · repeat walk_at "rd1"
                            refine no ?_ _ (Same.refl _)
                            rw [← l1]
                            omega
                          · obtain ⟨d1, d2, rfl⟩ : ∃ d1 d2, ds = [d1, d2] := by
                              match ds, l1 with
                              | [], l1 => rw [l1] at c6; simp at c6
                              | [_], l1 => rw [l1] at c6; simp at c6
                              | [d1, d2], l1 => exact ⟨d1, d2, rfl⟩
                              | _ :: _ :: _ :: _, l1 => rw [l1] at c6; simp at c6; omega
                            have hd2 : Da B H2 (.ref b) (.tuple [d1, d2]) := .tup e2 nb1 hl2
                            cases hl2 with
                            | @cons v1 vs1 _ _ g1 g2 =>
                              cases g2 with
                              | @cons v2 vs2 _ _ g3 g4 =>
                                cases g4
                                have at1 : atI [v1, v2] 1 = some v2 := rfl
                                repeat walk_at "rd1"
                                refine ⟨B, v2, d2, rfl, g3, fun H3 s3 => ?_⟩
                                repeat walk_at "rd1"
                                apply Rd.iteNB <;> intro c7
                                · repeat walk_at "rd1"
                                  have z := k H3 (s02.trans s3)
                                  rw [cnt_none (by rw [inner_item hw nrow c5, c7]; rfl)] at z
                                  exact z
                                · repeat walk_at "rd1"
                                  refine sl (hd2.same s3) (tr2.same s3) fun u4 H4 s4 d4 => ?_
                                  rw [cut01] at d4
                                  cases d4 with
                                  | @tup b4 xs4 _ e4 nb4 hl4 =>
                                    repeat walk_at "rd1"
                                    refine counts_end (by omega) (by omega) e4 hl4 ((tr2.same s3).same s4) (by simp) fun H' s' => ?_
                                    have z := k H' (((s02.trans s3).trans s4).trans s')
                                    rw [cnt_some (by rw [inner_item hw nrow c5, if_pos c7])] at z
                                    exact z
                        · repeat walk_at "rd1"
                          intro p2 hp2
                          refine ⟨upd_same, [(.inr "made", .int 2), (.inr "lock", .int 1), (.inr "box", .int 2), (.inr "chest", .int 2), (.inr "mark", .int 2), (.inr "print", .int 1), (.inr "unbox", .int 2), (.inr "unchest", .int 2)], rfl, by decide, ?_⟩
                          repeat walk_at "rd1"
                          refine ⟨p2, _, rfl, .inl ⟨_, .inr "unmark", upd_same, rfl, small1000 (by decide), rfl⟩, ?_⟩
                          repeat walk_at "rd1"
                          have e9 : upd (upd (upd H2 p2 (.dK [])) p2 (.dK (mergeK [] [(.inr "made", .int 2), (.inr "lock", .int 1), (.inr "box", .int 2), (.inr "chest", .int 2), (.inr "mark", .int 2), (.inr "print", .int 1), (.inr "unbox", .int 2), (.inr "unchest", .int 2)]))) p2 (.dK (putK (mergeK [] [(.inr "made", .int 2), (.inr "lock", .int 1), (.inr "box", .int 2), (.inr "chest", .int 2), (.inr "mark", .int 2), (.inr "print", .int 1), (.inr "unbox", .int 2), (.inr "unchest", .int 2)]) (.inr "unmark") (.int 1))) p2 = some (.dK all9) := upd_same
                          have s3 : Same H2 (upd (upd (upd H2 p2 (.dK [])) p2 (.dK (mergeK [] [(.inr "made", .int 2), (.inr "lock", .int 1), (.inr "box", .int 2), (.inr "chest", .int 2), (.inr "mark", .int 2), (.inr "print", .int 1), (.inr "unbox", .int 2), (.inr "unchest", .int 2)]))) p2 (.dK (putK (mergeK [] [(.inr "made", .int 2), (.inr "lock", .int 1), (.inr "box", .int 2), (.inr "chest", .int 2), (.inr "mark", .int 2), (.inr "print", .int 1), (.inr "unbox", .int 2), (.inr "unchest", .int 2)]) (.inr "unmark") (.int 1)))) := by
                            rw [Rd.upd_upd, Rd.upd_upd]
                            exact Rd.same_new hp2
                          revert e9 s3
                          generalize upd (upd (upd H2 p2 (.dK [])) p2 (.dK (mergeK [] [(.inr "made", .int 2), (.inr "lock", .int 1), (.inr "box", .int 2), (.inr "chest", .int 2), (.inr "mark", .int 2), (.inr "print", .int 1), (.inr "unbox", .int 2), (.inr "unchest", .int 2)]))) p2 _ = H3
                          intro e9 s3
                          have e3 := s3 _ _ e2
                          have hl3 := hl2.same s3
                          have tr3 := tr2.same s3
                          apply Rd.iteD <;> intro c6
                          · repeat walk_at "rd1"
                            apply Rd.iteD <;> intro c7
                            · repeat walk_at "rd1"
                              have z := k H3 (s02.trans s3)
                              have : ¬ ds.length ≤ 20 := by omega
                              rw [cnt_none (by rw [inner_row hw c6, if_neg this])] at z
                              exact z
                            · have h20 : ds.length ≤ 20 := by omega
                              repeat walk_at "rd1"
                              refine Rd.iteND (fun h => absurd c6 h) (fun _ => ?_)
                              repeat walk_at "rd1"
                              refine counts_end (by omega) (by omega) e3 hl3 tr3 h20 fun H' s' => ?_
                              have z := k H' ((s02.trans s3).trans s')
                              rw [cnt_some (by rw [inner_row hw c6, if_pos h20])] at z
                              exact z
                          · repeat walk_at "rd1"
                            refine Rd.iteND (fun _ => ?_) (fun h => absurd h c6)
                            repeat walk_at "rd1"
                            have ar := inner_ar (ds := ds) hw c6 c5
                            refine ⟨_, rfl, p2, rfl, .inl ⟨_, .inl e9⟩, _, rfl, _, .inl ⟨_, .inr x, .inl e9, rfl, rfl⟩, ?_⟩
                            rw [many9]
                            cases hA : arity x with
                            | none =>
                              rw [hA] at ar
                              rw [show arV x = .non by unfold arV; rw [hA]]
                              repeat walk_at "rd1"
                              refine Rd.neX rfl ?_
                              repeat walk_at "rd1"
                              refine Rd.iteND (fun _ => ?_) (fun z => nomatch z)
                              repeat walk_at "rd1"
                              have z := k H3 (s02.trans s3)
                              rw [cnt_none ar] at z
                              exact z
                            | some m =>
                              rw [hA] at ar
                              rw [show arV x = .int (m : Int) by unfold arV; rw [hA]]
                              repeat walk_at "rd1"
                              apply Rd.iteND <;> intro c7
                              · repeat walk_at "rd1"
                                have : ¬ ds.length = m := by omega
                                have z := k H3 (s02.trans s3)
                                rw [cnt_none (by rw [ar]; exact if_neg this)] at z
                                exact z
                              · repeat walk_at "rd1"
                                have hm : ds.length = m := by omega
                                have h20 : ds.length ≤ 20 := by have := arity_le hA; omega
                                refine counts_end (by omega) (by omega) e3 hl3 tr3 h20 fun H' s' => ?_
                                have z := k H' ((s02.trans s3).trans s')
                                rw [cnt_some (by rw [ar]; exact if_pos hm)] at z
                                exact z
                | _ => cases c2
        | _ => cases c
end
end Law
set_option Elab.async false
set_option linter.all false
set_option maxRecDepth 100000
set_option maxHeartbeats 8000000
namespace Law
open PySem L2 Gl Dt
local macro_rules | `(tactic| walk_at "hp") => `(tactic| first
  | with_reducible assumption
  | with_reducible exact upd_same
  | ((with_reducible apply Rd.upd_new); (with_reducible assumption); (walk_at "hp"))
  | ((with_reducible apply Rd.upd_off); (with_reducible assumption); (walk_at "hp"))
  | ((with_reducible apply Rd.upd_off'); (with_reducible assumption); (walk_at "hp"))
  | exact upd_same)
local macro_rules | `(tactic| walk_at "sq") => `(tactic| first
  | assumption
  | (apply SqL.of; walk_at "hp")
  | (apply SqT.of; walk_at "hp"))
local macro_rules | `(tactic| walk_at "rd1") => `(tactic| first
  | with_reducible refine Rd.seq ?_
  | with_reducible refine Rd.asg ?_
  | with_reducible refine Rd.gname ?_
  | ((with_reducible apply Rd.var); rfl)
  | with_reducible refine Rd.cst ?_
  | with_reducible refine Rd.op ?_
  | with_reducible refine Rd.i0 ?_
  | ((with_reducible apply Rd.iC); (first | (show _ < _; omega) | exact ⟨by omega, by omega⟩ | exact .inl ⟨by omega, by omega⟩ | exact .inr ⟨by omega, by omega⟩ | exact ⟨by decide, by decide, by decide⟩); skip)
  | ((with_reducible apply Rd.ixl); (walk_at "sq"); (first | rfl | exact Rd.atI0 | assumption))
  | ((with_reducible apply Rd.ixt); (walk_at "sq"); (first | rfl | exact Rd.atI0 | assumption))
  | with_reducible refine Rd.ret ?_
  | with_reducible refine Rd.drop ?_
  | with_reducible refine Rd.next ?_
  | with_reducible refine Rd.ifs ?_
  | with_reducible refine Rd.test ?_
  | with_reducible refine Rd.tb ?_
  | with_reducible refine Rd.tnot ?_
  | with_reducible refine Rd.tor ?_
  | with_reducible refine Rd.tand ?_
  | with_reducible refine Rd.tyes ?_
  | with_reducible refine Rd.exbl ?_
  | with_reducible refine Rd.exint ?_
  | with_reducible refine Rd.eqI ?_
  | with_reducible refine Rd.neI ?_
  | with_reducible refine Rd.eqS ?_
  | with_reducible refine Rd.neS ?_
  | with_reducible refine Rd.cb ?_
  | with_reducible refine Rd.acons ?_
  | with_reducible refine Rd.anil ?_
  | with_reducible refine Rd.un ?_
  | with_reducible refine Rd.u1 ?_
  | ((with_reducible apply Rd.lenL); (walk_at "sq"))
  | ((with_reducible apply Rd.lenT); (walk_at "sq"))
  | with_reducible refine Rd.int1 ?_
  | with_reducible refine Rd.intb ?_
  | with_reducible refine Rd.abs1 ?_
  | with_reducible refine Rd.gsub ?_
  | ((with_reducible apply Rd.setl); (walk_at "hp"); (first | rfl | exact Rd.ixN0))
  | with_reducible refine Rd.bm ?_
  | with_reducible refine Rd.bm0 ?_
  | (apply Rd.tyl; (walk_at "hp"))
  | ((with_reducible apply Rd.appl); (walk_at "hp"))
  | ((with_reducible apply Rd.popat00); walk_at "hp")
  | with_reducible refine Rd.iteT ?_
  | with_reducible refine Rd.iteF ?_
  | with_reducible refine Rd.iteNT ?_
  | with_reducible refine Rd.iteNF ?_
  | with_reducible refine Rd.df ?_
  | (with_reducible (refine Rd.mkN ?_)); intro _ _
  | ((with_reducible apply Rd.mkE); rfl; intro _ _ _ _)
  | with_reducible refine Rd.lst ?_
  | with_reducible refine Rd.tup ?_
  | ((with_reducible (refine And.intro (Rd.szl (by simp)) ?_)); intro _ _)
  | ((with_reducible apply Rd.cat); (walk_at "hp"); (walk_at "hp"); exact Rd.szl2 (by simp); intro _ _)
  | ((with_reducible apply Rd.gtup); (walk_at "sq"); rfl)
  | with_reducible refine Rd.gcons ?_
  | with_reducible refine Rd.gnil ?_
  | with_reducible refine Rd.par ?_
  | with_reducible refine Rd.par2 ?_
  | with_reducible refine Rd.par3 ?_
  | ((with_reducible (refine Dt.dnew ?_)); intro _ _)
  | ((with_reducible (refine Dt.mulS ?_ ?_ ?_ ?_ ?_ ?_)); decide; decide; exact ⟨by decide, by decide⟩; decide +kernel; decide +kernel)
  | ((with_reducible apply Rd.aug); rfl)
  | with_reducible refine Rd.ipi ?_
  | with_reducible refine Rd.sl ?_
  | with_reducible refine Rd.part ?_
  | with_reducible refine Rd.nopart ?_
  | with_reducible refine Rd.andv ?_
  | with_reducible refine Rd.orv ?_
  | with_reducible refine Rd.notv ?_
  | with_reducible refine Rd.ifx ?_
  | with_reducible refine Rd.chain ?_
  | with_reducible refine Dt.isi_tup (by assumption) ?_
  | with_reducible refine Dt.isi_int (by assumption) ?_
  | with_reducible refine Dt.isi_bool (by assumption) ?_
  | with_reducible refine Dt.isi_str (by assumption) ?_
  | with_reducible refine Rd.par33 ?_
  | ((with_reducible apply Rd.fldE); rfl; (walk_at "hp"); (walk_at "hp")))

/-! sizes -/
mutual
def sz : PyData → Nat
  | .none => 5
  | .bool _ => 6
  | .int i => (Str.ofString (toString i)).length + 1
  | .str x => (reprText x).length + 1
  | .list ds => 4 + szL ds
  | .tuple ds => 4 + szL ds
  | .dict kvs => 4 + szK kvs
def szL : List PyData → Nat
  | [] => 0
  | d :: r => sz d + 2 + szL r
def szK : List (PyData × PyData) → Nat
  | [] => 0
  | (a, b) :: r => sz a + sz b + 4 + szK r
end
theorem join_le : ∀ ts : List Str, (Str.join ", " ts).length ≤ piled ts := fun ts => by
  by_cases h : ts = []
  · subst h
    exact Nat.zero_le _
  · have := join_length_add ts h
    omega
theorem textFrom_le : ∀ (ts : List Str) (k : Nat) (acc : Str), (textFrom k acc ts).length ≤ acc.length + piled ts
  | [], k, acc => Nat.le_add_right _ _
  | t :: r, k, acc => by
    have h := textFrom_le r (k + 1) (acc ++ (if k > 0 then ", " else "" : String) ++ t)
    have e : (acc ++ (if k > 0 then ", " else "" : String) ++ t).length ≤ acc.length + 2 + t.length := by
      rw [strLen_append, strLen_append]
      by_cases c : k > 0
      · rw [if_pos c]
        exact Nat.le_refl _
      · rw [if_neg c]
        show acc.length + 0 + t.length ≤ _
        omega
    show (textFrom (k + 1) (acc ++ (if k > 0 then ", " else "" : String) ++ t) r).length ≤ _
    have e2 : piled (t :: r) = t.length + 2 + piled r := by simp [piled]
    omega
mutual
theorem shown_sz : ∀ d : PyData, d.shown.length ≤ sz d
  | .none => (by decide : 4 ≤ 5)
  | .bool b => by cases b <;> exact (by decide)
  | .int i => Nat.le_succ _
  | .str x => Nat.le_succ _
  | .list ds => by
    have h := shownAll_sz ds
    have h2 := textFrom_le (PyData.shownAll ds) 0 "["
    show (textFrom 0 "[" (PyData.shownAll ds) ++ "]").length ≤ 4 + szL ds
    rw [strLen_append]
    have e1 : ("]" : Str).length = 1 := rfl
    have e2 : ("[" : Str).length = 1 := rfl
    omega
  | .tuple ds => by
    have h := shownAll_sz ds
    have h2 := join_le (PyData.shownAll ds)
    show (("(" : Str) ++ Str.join ", " (PyData.shownAll ds) ++ (if (PyData.shownAll ds).length == 1 then ",)" else ")" : String)).length ≤ 4 + szL ds
    rw [strLen_append, strLen_append]
    have e1 : ("(" : Str).length = 1 := rfl
    have e2 : (Str.ofString (if (PyData.shownAll ds).length == 1 then ",)" else ")" : String)).length ≤ 2 := by split <;> decide
    omega
  | .dict kvs => by
    have h := shownKv_sz kvs
    have h2 := join_le (PyData.shownKv kvs)
    show (("{" : Str) ++ Str.join ", " (PyData.shownKv kvs) ++ "}").length ≤ 4 + szK kvs
    rw [strLen_append, strLen_append]
    have e1 : ("{" : Str).length = 1 := rfl
    have e2 : ("}" : Str).length = 1 := rfl
    omega
theorem shownAll_sz : ∀ ds : List PyData, piled (PyData.shownAll ds) ≤ szL ds
  | [] => Nat.le_refl _
  | d :: r => by
    have h1 := shown_sz d
    have h2 := shownAll_sz r
    show piled (d.shown :: PyData.shownAll r) ≤ sz d + 2 + szL r
    have e2 : piled (d.shown :: PyData.shownAll r) = d.shown.length + 2 + piled (PyData.shownAll r) := by simp [piled]
    omega
theorem shownKv_sz : ∀ ds : List (PyData × PyData), piled (PyData.shownKv ds) ≤ szK ds
  | [] => Nat.le_refl _
  | (a, b) :: r => by
    have h1 := shown_sz a
    have h3 := shown_sz b
    have h2 := shownKv_sz r
    show piled ((a.shown ++ ": " ++ b.shown) :: PyData.shownKv r) ≤ sz a + sz b + 4 + szK r
    have e2 : piled ((a.shown ++ ": " ++ b.shown) :: PyData.shownKv r) = (a.shown ++ ": " ++ b.shown).length + 2 + piled (PyData.shownKv r) := by simp [piled]
    rw [strLen_append, strLen_append] at e2
    have e3 : (": " : Str).length = 2 := rfl
    omega
end
theorem szL_app : ∀ xs ys : List PyData, szL (xs ++ ys) = szL xs + szL ys
  | [], ys => by show szL ys = 0 + szL ys; omega
  | d :: r, ys => by
    show sz d + 2 + szL (r ++ ys) = sz d + 2 + szL r + szL ys
    rw [szL_app r ys]
    omega
theorem szL_len : ∀ xs : List PyData, xs.length ≤ szL xs
  | [] => Nat.le_refl _
  | d :: r => by
    have := szL_len r
    show r.length + 1 ≤ sz d + 2 + szL r
    omega
theorem shAll_app : ∀ xs ys : List PyData, PyData.showableAll (xs ++ ys) = (PyData.showableAll xs && PyData.showableAll ys)
  | [], ys => rfl
  | d :: r, ys => by
    show (d.showable && PyData.showableAll (r ++ ys)) = (d.showable && PyData.showableAll r && PyData.showableAll ys)
    rw [shAll_app r ys, Bool.and_assoc]
theorem dpAll_app : ∀ xs ys : List PyData, PyData.depthAll (xs ++ ys) = max (PyData.depthAll xs) (PyData.depthAll ys)
  | [], ys => by show PyData.depthAll ys = max 0 _; omega
  | d :: r, ys => by
    show max d.depth (PyData.depthAll (r ++ ys)) = max (max d.depth (PyData.depthAll r)) _
    rw [dpAll_app r ys]
    omega
/-- good for repr: at most n wide, k deep -/
def GdL (n k : Nat) (ds : List PyData) : Prop := PyData.showableAll ds = true ∧ szL ds ≤ n ∧ PyData.depthAll ds ≤ k
def Gd (n k : Nat) (d : PyData) : Prop := d.showable = true ∧ sz d ≤ n ∧ d.depth ≤ k
theorem Gd.mono {n n' k k' : Nat} {d : PyData} (h : Gd n k d) (a : n ≤ n') (b : k ≤ k') : Gd n' k' d := ⟨h.1, Nat.le_trans h.2.1 a, Nat.le_trans h.2.2 b⟩
theorem GdL.nil {k : Nat} : GdL 0 k [] := ⟨rfl, Nat.le_refl _, Nat.zero_le _⟩
theorem GdL.cons {n m k : Nat} {d : PyData} {ds : List PyData} (h : Gd n k d) (t : GdL m k ds) : GdL (n + 2 + m) k (d :: ds) :=
  ⟨by show (d.showable && PyData.showableAll ds) = true; rw [h.1, t.1]; rfl, by show sz d + 2 + szL ds ≤ _; have := h.2.1; have := t.2.1; omega, by show max d.depth (PyData.depthAll ds) ≤ k; have := h.2.2; have := t.2.2; omega⟩
theorem GdL.app {n m k : Nat} {xs ys : List PyData} (h : GdL n k xs) (t : GdL m k ys) : GdL (n + m) k (xs ++ ys) :=
  ⟨by rw [shAll_app, h.1, t.1]; rfl, by rw [szL_app]; have := h.2.1; have := t.2.1; omega, by rw [dpAll_app]; have := h.2.2; have := t.2.2; omega⟩
theorem Gd.tup {n k : Nat} {ds : List PyData} (h : GdL n k ds) : Gd (n + 4) (k + 1) (.tuple ds) := ⟨h.1, by show 4 + szL ds ≤ _; have := h.2.1; omega, Nat.succ_le_succ h.2.2⟩
theorem Gd.lst {n k : Nat} {ds : List PyData} (h : GdL n k ds) : Gd (n + 4) (k + 1) (.list ds) := ⟨h.1, by show 4 + szL ds ≤ _; have := h.2.1; omega, Nat.succ_le_succ h.2.2⟩
theorem Gd.list_of {n k : Nat} {ds : List PyData} (h : Gd n k (.tuple ds)) : GdL (n - 4) (k - 1) ds := by
  obtain ⟨h1, h2, h3⟩ := h
  have h2' : 4 + szL ds ≤ n := h2
  have h3' : PyData.depthAll ds + 1 ≤ k := h3
  exact ⟨h1, by omega, by omega⟩
theorem GdL.take {n k : Nat} {ds : List PyData} (i : Nat) (h : GdL n k ds) : GdL n k (ds.take i) := by
  rw [← List.take_append_drop i ds] at h
  obtain ⟨h1, h2, h3⟩ := h
  rw [shAll_app, Bool.and_eq_true] at h1
  rw [szL_app] at h2
  rw [dpAll_app] at h3
  exact ⟨h1.1, by omega, by omega⟩
theorem GdL.drop {n k : Nat} {ds : List PyData} (i : Nat) (h : GdL n k ds) : GdL n k (ds.drop i) := by
  rw [← List.take_append_drop i ds] at h
  obtain ⟨h1, h2, h3⟩ := h
  rw [shAll_app, Bool.and_eq_true] at h1
  rw [szL_app] at h2
  rw [dpAll_app] at h3
  exact ⟨h1.2, by omega, by omega⟩
theorem GdL.cut {n k : Nat} {ds : List PyData} {lo hi : Option Int} (h : GdL n k ds) : GdL n k (cutD ds lo hi) := (h.drop _).take _
theorem GdL.mono {n n' k k' : Nat} {d : List PyData} (h : GdL n k d) (a : n ≤ n') (b : k ≤ k') : GdL n' k' d := ⟨h.1, Nat.le_trans h.2.1 a, Nat.le_trans h.2.2 b⟩
theorem GdL.len {n k : Nat} {ds : List PyData} (h : GdL n k ds) : ds.length ≤ n := Nat.le_trans (szL_len ds) h.2.1

abbrev s__law_is_recipe : Stmt := top 32
abbrev N__law_is_recipe : List Str := ["thing", "found"]
theorem sc__law_is_recipe : FnScope N__law_is_recipe ["thing"] (defScope s__law_is_recipe) := ⟨rfl, rfl, rfl, by decide +kernel, rfl, by decide +kernel, by decide +kernel⟩
abbrev s__law_is_judged : Stmt := top 35
abbrev N__law_is_judged : List Str := ["thing", "copy", "told"]
theorem sc__law_is_judged : FnScope N__law_is_judged ["thing"] (defScope s__law_is_judged) := ⟨rfl, rfl, rfl, by decide +kernel, rfl, by decide +kernel, by decide +kernel⟩
def spJudged (n k : Nat) : Sp := fun vs H Q _ => ∃ (B : Addr → Prop) (v : V) (d : PyData), vs = [v] ∧ Da B H v d ∧ Tr B H ∧ Gd n k d ∧ ∀ H', Same H H' → Q (.bl true) H'
section
variable {P : Program} {w : World} {K : PySem.W.Frag} {mg : Str → Option Value} {base : Heap}
theorem df_of {P : Program} {w : World} {K : PySem.W.Frag} {mg : Str → Option Value} {base : Heap} {x : Str} {st : Stmt} {f : Addr} {fd : FuncData} {k : Nat} {ps : List Str} {sp : Sp} (F : FD K x st f fd) (hm : mg x = some (.ref f)) (G : Fn P w K mg base k f fd ps sp) (hb : ∀ (s : Shared) (us : List Value), us.length = ps.length → BindsTo s fd ⟨us, []⟩ (ps.zip us)) : Df P w K mg base k x sp :=
  ⟨f, fd, ps, G, hm, F.kp, fun s us _ hl => by rw [List.append_nil] at hl ⊢; exact hb s us hl⟩
theorem counted_all (T : Tx P w K mg) (f__law_is_number : Df P w K mg base 1 "_law_is_number" (spT (isNum 0 maxN))) {f : Addr} {fd : FuncData} (F : FD K "_law_counted" s__law_counted f fd) (hm : mg "_law_counted" = some (.ref f))
    (hb : ∀ (s : Shared) (us : List Value), us.length = (["thing", "deep"] : List Str).length → BindsTo s fd ⟨us, []⟩ ((["thing", "deep"] : List Str).zip us)) : ∀ n, Df P w K mg base (n + 2) "_law_counted" (spCounted n)
  | 0 => df_of F hm ⟨fun _ _ _ _ z => z.elim, fun _ _ _ _ _ _ _ _ _ _ _ _ _ _ z => z.elim⟩ hb
  | n + 1 => df_of F hm (ok_counted T f__law_is_number F (counted_all T f__law_is_number F hm hb n)) hb
theorem ok_law_is_recipe (T : Tx P w K mg) (f__law_counted : Df P w K mg base 33 "_law_counted" (spCounted 31)) {f : Addr} {fd : FuncData} (F : FD K "_law_is_recipe" s__law_is_recipe f fd) : Fn P w K mg base 34 f fd ["thing"] (spTr isRec) := by
  refine fn_body F sc__law_is_recipe (fun vs H Q E h => ?_) (fun cv A outer s H vs Q E hr gd h => ?_)
  · obtain ⟨B, v, d, rfl, _⟩ := h
    rfl
  · obtain ⟨B, v, d, rfl, hd, tr, k⟩ := h
    refine ⟨_, (pss_cons (ps_set (i := 1) sc__law_is_recipe.nd rfl (Or.inl rfl) (pe_df f__law_counted hr (by omega) gd rfl (fun σ => Gl.no_pass σ) (pa_cons (pv 0) (pa_cons pe_int pa_nil))))
    (pss_one (ps_ret (pe_and (pe_cmpR op_notN (pv 1) pe_non (nomark _)) (pe_one (pe_cmpR op_le (pv 1) pe_int (nomark _))))))), ?_⟩
    repeat walk_at "rd1"
    refine ⟨B, v, d, 30, rfl, by decide, by decide, hd, tr, fun H1 s1 => ?_⟩
    have z := k H1 s1
    unfold isRec at z
    cases e : cnt 30 d with
    | none =>
      rw [e] at z
      repeat walk_at "rd1"
      refine ⟨rfl, ?_⟩
      repeat walk_at "rd1"
      refine Rd.iteND (fun h => absurd rfl h) (fun _ => ?_)
      exact z
    | some n =>
      rw [e] at z
      repeat walk_at "rd1"
      refine ⟨rfl, ?_⟩
      repeat walk_at "rd1"
      refine Rd.iteND (fun _ => ?_) (fun h => nomatch h)
      repeat walk_at "rd1"
      show rI0 (fun i j => V.bl (decide (i ≤ j))) (V.int (n : Int)) (V.int 2000) H1 Q
      repeat walk_at "rd1"
      rw [show decide ((n : Int) ≤ 2000) = decide (n ≤ 2000) from decide_eq_decide.mpr (by omega)]
      exact z
theorem ok_judged (T : Tx P w K mg) (f_is_recipe : Df P w K mg base 5 "is_recipe" (spTr isRec)) (f__law_is_recipe : Df P w K mg base 34 "_law_is_recipe" (spTr isRec)) {f : Addr} {fd : FuncData} (F : FD K "_law_is_judged" s__law_is_judged f fd) : Fn P w K mg base 35 f fd ["thing"] (spJudged 1000000 180) := by
  refine fn_body F sc__law_is_judged (fun vs H Q E h => ?_) (fun cv A outer s H vs Q E hr gd h => ?_)
  · obtain ⟨B, v, d, rfl, _⟩ := h
    rfl
  · obtain ⟨B, v, d, rfl, hd, tr, hg, k⟩ := h
    have g2 : d.shown.length ≤ sizeLine := Nat.le_trans (shown_sz d) (Nat.le_trans hg.2.1 (by decide))
    have g3 : d.depth ≤ 190 := Nat.le_trans hg.2.2 (by decide)
    refine ⟨_, (pss_cons (ps_par (i := 1) (j := 2) (by rfl) sc__law_is_judged.nd rfl rfl (by decide) rfl rfl (pa_cons (pe_callB (Dt.call_repr (B := B) hr gd T.sysm) (by rfl) T.repr (by decide +kernel) (pa_cons (pv 0) pa_nil)) (pa_cons (pe_df f_is_recipe hr (by omega) gd rfl (fun σ => Gl.no_pass σ) (pa_cons (pv 0) pa_nil)) pa_nil)) (by rfl))
    (pss_one (ps_ret (pe_and (pe_callB call_isi (by rfl) T.isinstance (by decide +kernel) (pa_cons (pv 2) (pa_cons (pe_bltn (v := .ty "bool") (by rfl) T.bool (by decide +kernel) rfl) pa_nil))) (pe_and (pe_cmpR op_eq (pv 2) (pe_df f__law_is_recipe hr (by omega) gd rfl (fun σ => Gl.no_pass σ) (pa_cons (pv 0) pa_nil)) (nomark _)) (pe_one (pe_cmpR op_eq (pe_callB (Dt.call_repr (B := B) hr gd T.sysm) (by rfl) T.repr (by decide +kernel) (pa_cons (pv 0) pa_nil)) (pv 1) (nomark _)))))))), ?_⟩
    repeat walk_at "rd1"
    refine ⟨v, d, rfl, hd, hg.1, g2, g3, ?_⟩
    repeat walk_at "rd1"
    refine ⟨B, v, d, rfl, hd, tr, fun H1 s1 => ?_⟩
    repeat walk_at "rd1"
    refine ⟨_, _, .type "bool", .type "bool", true, rfl, .ty "bool", .base (.bl _), rfl, ?_⟩
    repeat walk_at "rd1"
    refine ⟨B, v, d, rfl, hd.same s1, tr.same s1, fun H2 s2 => ?_⟩
    refine Rd.eqB ?_
    repeat walk_at "rd1"
    refine Rd.iteD (fun _ => ?_) (fun z => absurd rfl z)
    repeat walk_at "rd1"
    refine ⟨v, d, rfl, (hd.same s1).same s2, hg.1, g2, g3, ?_⟩
    repeat walk_at "rd1"
    rw [decide_eq_true rfl]
    exact k H2 (s1.trans s2)
end
end Law
set_option Elab.async false
set_option linter.all false
set_option maxRecDepth 100000
set_option maxHeartbeats 8000000
namespace Law
open PySem L2 Gl Dt
local macro_rules | `(tactic| walk_at "hp") => `(tactic| first
  | with_reducible assumption
  | with_reducible exact upd_same
  | ((with_reducible apply Rd.upd_new); (with_reducible assumption); (walk_at "hp"))
  | ((with_reducible apply Rd.upd_off); (with_reducible assumption); (walk_at "hp"))
  | ((with_reducible apply Rd.upd_off'); (with_reducible assumption); (walk_at "hp"))
  | exact upd_same)
local macro_rules | `(tactic| walk_at "sq") => `(tactic| first
  | assumption
  | (apply SqL.of; walk_at "hp")
  | (apply SqT.of; walk_at "hp"))
local macro_rules | `(tactic| walk_at "rd1") => `(tactic| first
  | with_reducible refine Rd.seq ?_
  | with_reducible refine Rd.asg ?_
  | with_reducible refine Rd.gname ?_
  | ((with_reducible apply Rd.var); rfl)
  | with_reducible refine Rd.cst ?_
  | with_reducible refine Rd.op ?_
  | with_reducible refine Rd.i0 ?_
  | ((with_reducible apply Rd.iC); (first | (show _ < _; omega) | exact ⟨by omega, by omega⟩ | exact .inl ⟨by omega, by omega⟩ | exact .inr ⟨by omega, by omega⟩ | exact ⟨by decide, by decide, by decide⟩); skip)
  | ((with_reducible apply Rd.ixl); (walk_at "sq"); (first | rfl | exact Rd.atI0 | assumption))
  | ((with_reducible apply Rd.ixt); (walk_at "sq"); (first | rfl | exact Rd.atI0 | assumption))
  | with_reducible refine Rd.ret ?_
  | with_reducible refine Rd.drop ?_
  | with_reducible refine Rd.next ?_
  | with_reducible refine Rd.ifs ?_
  | with_reducible refine Rd.test ?_
  | with_reducible refine Rd.tb ?_
  | with_reducible refine Rd.tnot ?_
  | with_reducible refine Rd.tor ?_
  | with_reducible refine Rd.tand ?_
  | with_reducible refine Rd.tyes ?_
  | with_reducible refine Rd.exbl ?_
  | with_reducible refine Rd.exint ?_
  | with_reducible refine Rd.eqI ?_
  | with_reducible refine Rd.neI ?_
  | with_reducible refine Rd.eqS ?_
  | with_reducible refine Rd.neS ?_
  | with_reducible refine Rd.cb ?_
  | with_reducible refine Rd.acons ?_
  | with_reducible refine Rd.anil ?_
  | with_reducible refine Rd.un ?_
  | with_reducible refine Rd.u1 ?_
  | ((with_reducible apply Rd.lenL); (walk_at "sq"))
  | ((with_reducible apply Rd.lenT); (walk_at "sq"))
  | with_reducible refine Rd.int1 ?_
  | with_reducible refine Rd.intb ?_
  | with_reducible refine Rd.abs1 ?_
  | with_reducible refine Rd.gsub ?_
  | ((with_reducible apply Rd.setl); (walk_at "hp"); (first | rfl | exact Rd.ixN0))
  | with_reducible refine Rd.bm ?_
  | with_reducible refine Rd.bm0 ?_
  | (apply Rd.tyl; (walk_at "hp"))
  | ((with_reducible apply Rd.appl); (walk_at "hp"))
  | ((with_reducible apply Rd.popat00); walk_at "hp")
  | with_reducible refine Rd.iteT ?_
  | with_reducible refine Rd.iteF ?_
  | with_reducible refine Rd.iteNT ?_
  | with_reducible refine Rd.iteNF ?_
  | with_reducible refine Rd.df ?_
  | (with_reducible (refine Rd.mkN ?_)); intro _ _
  | ((with_reducible apply Rd.mkE); rfl; intro _ _ _ _)
  | with_reducible refine Rd.lst ?_
  | with_reducible refine Rd.tup ?_
  | ((with_reducible (refine And.intro (Rd.szl (by simp)) ?_)); intro _ _)
  | ((with_reducible apply Rd.cat); (walk_at "hp"); (walk_at "hp"); exact Rd.szl2 (by simp); intro _ _)
  | ((with_reducible apply Rd.gtup); (walk_at "sq"); rfl)
  | with_reducible refine Rd.gcons ?_
  | with_reducible refine Rd.gnil ?_
  | with_reducible refine Rd.par ?_
  | with_reducible refine Rd.par2 ?_
  | with_reducible refine Rd.par3 ?_
  | ((with_reducible (refine Dt.dnew ?_)); intro _ _)
  | ((with_reducible (refine Dt.mulS ?_ ?_ ?_ ?_ ?_ ?_)); decide; decide; exact ⟨by decide, by decide⟩; decide +kernel; decide +kernel)
  | ((with_reducible apply Rd.aug); rfl)
  | with_reducible refine Rd.ipi ?_
  | with_reducible refine Rd.sl ?_
  | with_reducible refine Rd.part ?_
  | with_reducible refine Rd.nopart ?_
  | with_reducible refine Rd.andv ?_
  | with_reducible refine Rd.orv ?_
  | with_reducible refine Rd.notv ?_
  | with_reducible refine Rd.ifx ?_
  | with_reducible refine Rd.chain ?_
  | with_reducible refine Dt.isi_tup (by assumption) ?_
  | with_reducible refine Dt.isi_int (by assumption) ?_
  | with_reducible refine Dt.isi_bool (by assumption) ?_
  | with_reducible refine Dt.isi_str (by assumption) ?_
  | with_reducible refine Rd.par33 ?_
  | ((with_reducible apply Rd.fldE); rfl; (walk_at "hp"); (walk_at "hp")))

/-- the hand that numbers are drawn of stands at p, its great numbers at g -/
structure BagAt (H : Hp) (p g : Addr) : Prop where
  ne : p ≠ g
  hp : ∃ seed len cnt : Int, H p = some (.lst [.ref g, .int seed, .int len, .int cnt]) ∧ 0 ≤ seed ∧ seed < 2147483629
  hg : ∃ ns : List Int, H g = some (.lst (ns.map V.int)) ∧ ns.length ≤ 63 ∧ ∀ n ∈ ns, 0 ≤ n

def Off (p g : Addr) (H H' : Hp) : Prop := ∀ a, a ≠ p → a ≠ g → H' a = H a
theorem Off.seq {p g q : Addr} {H H' : Hp} {K : PySem.W.Frag} {xs : List V} (e : Off p g H H') (h1 : q ≠ p) (h2 : q ≠ g) (h : SqL K H q xs) : SqL K H' q xs := by
  have z := e q h1 h2
  rcases h with (h | ⟨o, h⟩) | h
  · exact .inl (.inl (by rw [z]; exact h))
  · exact .inl (.inr ⟨o, by rw [z]; exact h⟩)
  · exact .inr h
def spBag (K : PySem.W.Frag) : Sp := fun vs H Q _ => ∃ (a : Addr) (ns : List Int), vs = [.ref a] ∧ SqL K H a (ns.map V.int) ∧ ns.length ≤ 1000 ∧ ∀ (p g : Addr) (H' : Hp), BagAt H' p g → Same H H' → Q (.ref p) H'
def spPick : Sp := fun vs H Q _ => ∃ (p g : Addr) (many : Int), vs = [.ref p, .int many] ∧ BagAt H p g ∧ 0 < many ∧ many < 1073741824 ∧
  ∀ (r : Int) (H' : Hp), 0 ≤ r → r < many → BagAt H' p g → Off p g H H' → Q (.int r) H'
def spSome (K : PySem.W.Frag) : Sp := fun vs H Q _ => ∃ (p g q : Addr) (xs : List V), vs = [.ref p, .ref q] ∧ BagAt H p g ∧ SqL K H q xs ∧ q ≠ p ∧ q ≠ g ∧ 0 < xs.length ∧ xs.length ≤ 1000 ∧
  ∀ (x : V) (H' : Hp), x ∈ xs → BagAt H' p g → Off p g H H' → Q x H'

theorem BagAt.same {H H' : Hp} {p g : Addr} (B : BagAt H p g) (s : Same H H') : BagAt H' p g := by
  obtain ⟨h1, ⟨a, b, c, e, h2⟩, ⟨ns, e2, h3⟩⟩ := B
  exact ⟨h1, ⟨a, b, c, s _ _ e, h2⟩, ⟨ns, s _ _ e2, h3⟩⟩
abbrev Bg (p g : Addr) : Addr → Prop := fun a => a = p ∨ a = g
theorem BagAt.tr {H : Hp} {p g : Addr} (B : BagAt H p g) : Tr (Bg p g) H := by
  obtain ⟨h1, ⟨a, b, c, e, h2⟩, ⟨ns, e2, h3⟩⟩ := B
  rintro q h (z | z)
  · rw [z, e] at h
    cases h
  · rw [z, e2] at h
    cases h
theorem Off.kp {p g : Addr} {H H' : Hp} (o : Off p g H H') : Kp (Bg p g) H H' := fun b u e n => by rw [o b (fun z => n (.inl z)) (fun z => n (.inr z))]; exact e
abbrev s__law_bag : Stmt := top 26
abbrev N__law_bag : List Str := ["script", "great", "cell", "seed"]
theorem sc__law_bag : FnScope N__law_bag ["script"] (defScope s__law_bag) := ⟨rfl, rfl, rfl, by decide +kernel, rfl, by decide +kernel, by decide +kernel⟩
abbrev s__law_pick : Stmt := top 27
abbrev N__law_pick : List Str := ["bag", "many", "number"]
theorem sc__law_pick : FnScope N__law_pick ["bag", "many"] (defScope s__law_pick) := ⟨rfl, rfl, rfl, by decide +kernel, rfl, by decide +kernel, by decide +kernel⟩
abbrev s__law_some : Stmt := top 28
abbrev N__law_some : List Str := ["bag", "things"]
theorem sc__law_some : FnScope N__law_some ["bag", "things"] (defScope s__law_some) := ⟨rfl, rfl, rfl, by decide +kernel, rfl, by decide +kernel, by decide +kernel⟩
section
variable {P : Program} {w : World} {K : PySem.W.Frag} {mg : Str → Option Value} {base : Heap}
theorem ok_pick (T : Tx P w K mg) {f : Addr} {fd : FuncData} (F : FD K "_law_pick" s__law_pick f fd) : Fn P w K mg base 1 f fd ["bag", "many"] spPick := by
  refine fn_body F sc__law_pick (fun vs H Q E h => ?_) (fun cv A outer s H vs Q E hr gd h => ?_)
  · obtain ⟨p, g, many, rfl, _⟩ := h
    rfl
  · obtain ⟨p, g, many, rfl, B, hm, hm2, k⟩ := h
    refine ⟨_, (pss_cons (ps_if (pt_cmpR op_eq (pe_ix ix_list (pv 0) pe_int (fun _ _ => rfl)) pe_int (nomark _)) (pss_one (ps_ret pe_int)) pss_nil)
    (pss_cons (ps_if (pt_cmpR op_gt (pe_callB Rd.cr_len (by rfl) T.len (by decide +kernel) (pa_cons (pe_ix ix_list (pv 0) pe_int (fun _ _ => rfl)) pa_nil)) pe_int (nomark _)) (pss_cons (ps_set (i := 2) sc__law_pick.nd rfl (Or.inl rfl) (pe_ix ix_list (pe_ix ix_list (pv 0) pe_int (fun _ _ => rfl)) pe_int (fun _ _ => rfl)))
    (pss_cons (ps_asg (pe_op op_fdiv (pv 2) (pv 1)) (pg_sub (pe_ix ix_list (pv 0) pe_int (fun _ _ => rfl)) pe_int set_list))
    (pss_cons (ps_if (pt_cmpR op_lt (pv 2) (pv 1) (nomark _)) (pss_one (ps_expr (pe_bm PySem.F.plainAttrs_list PySem.F.slot_list_pop PySem.F.type_list_pop mt_popAt (pe_ix ix_list (pv 0) pe_int (fun _ _ => rfl)) (pa_cons pe_int pa_nil)))) pss_nil)
    (pss_one (ps_ret (pe_op op_mod (pe_callTy Rd.cr_int (by rfl) T.int (by decide +kernel) (pa_cons (pv 2) pa_nil)) (pv 1))))))) pss_nil)
    (pss_cons (ps_asg (pe_op op_add (pe_ix ix_list (pv 0) pe_int (fun _ _ => rfl)) pe_int) (pg_sub (pv 0) pe_int set_list))
    (pss_cons (ps_set (i := 2) sc__law_pick.nd rfl (Or.inl rfl) (pe_op op_mod (pe_callTy Rd.cr_int (by rfl) T.int (by decide +kernel) (pa_cons (pe_op op_add (pe_op op_mul (pe_op op_add (pe_ix ix_list (pv 0) pe_int (fun _ _ => rfl)) (pe_op op_mul pe_int (pe_ix ix_list (pv 0) pe_int (fun _ _ => rfl)))) pe_int) pe_int) pa_nil)) pe_int))
    (pss_cons (ps_set (i := 2) sc__law_pick.nd rfl (Or.inl rfl) (pe_op op_mod (pe_callTy Rd.cr_int (by rfl) T.int (by decide +kernel) (pa_cons (pe_op op_add (pe_op op_mul (pv 2) (pe_op op_add (pe_op op_fdiv (pv 2) pe_int) pe_int)) (pe_ix ix_list (pv 0) pe_int (fun _ _ => rfl))) pa_nil)) pe_int))
    (pss_cons (ps_asg (pe_op op_mod (pe_callTy Rd.cr_int (by rfl) T.int (by decide +kernel) (pa_cons (pe_op op_add (pe_ix ix_list (pv 0) pe_int (fun _ _ => rfl)) (pv 2)) pa_nil)) pe_int) (pg_sub (pv 0) pe_int set_list))
    (pss_one (ps_ret (pe_op op_mod (pe_callTy Rd.cr_int (by rfl) T.int (by decide +kernel) (pa_cons (pe_op op_fdiv (pv 2) pe_int) pa_nil)) (pv 1)))))))))), ?_⟩
    obtain ⟨npg, ⟨seed, len, cnt, hp, hs0, hs1⟩, ⟨ns, hg, hn, h0⟩⟩ := B
    repeat walk_at "rd1"
    apply Rd.iteD <;> intro c
    · repeat walk_at "rd1"
      exact k 0 H (by omega) (by omega) ⟨npg, ⟨seed, len, cnt, hp, hs0, hs1⟩, ⟨ns, hg, hn, h0⟩⟩ (fun a _ _ => rfl)
    · repeat walk_at "rd1"
      apply Rd.iteD <;> intro c2
      · cases ns with
        | nil => simp at c2
        | cons n ns =>
          rw [List.map_cons] at hg
          repeat walk_at "rd1"
          have hn0 : 0 ≤ n := h0 n (by simp)
          apply Rd.iteD <;> intro c3
          · repeat walk_at "rd1"
            refine k _ _ (Int.emod_nonneg _ (by omega)) (Int.emod_lt_of_pos _ hm) ⟨npg, ⟨seed, len, cnt, by rw [upd_ne npg, upd_ne npg]; exact hp, hs0, hs1⟩, ⟨ns, by rw [upd_same], by simp at hn; omega, fun m hm' => h0 m (by simp [hm'])⟩⟩ (fun a h1 h2 => by rw [upd_ne h2, upd_ne h2])
          · repeat walk_at "rd1"
            refine k _ _ (Int.emod_nonneg _ (by omega)) (Int.emod_lt_of_pos _ hm) ⟨npg, ⟨seed, len, cnt, by rw [upd_ne npg]; exact hp, hs0, hs1⟩, ⟨n / many :: ns, by rw [upd_same]; rfl, hn, fun m hm' => ?_⟩⟩ (fun a h1 h2 => by rw [upd_ne h2])
            rcases List.mem_cons.mp hm' with rfl | hm'
            · exact Int.ediv_nonneg hn0 (by omega)
            · exact h0 m (by simp [hm'])
      · repeat walk_at "rd1"
        refine k _ _ (Int.emod_nonneg _ (by omega)) (Int.emod_lt_of_pos _ hm) ⟨npg, ⟨_, len, cnt + 1, upd_same, Int.emod_nonneg _ (by decide), Int.emod_lt_of_pos _ (by decide)⟩, ⟨ns, by rw [upd_ne npg.symm, upd_ne npg.symm]; exact hg, hn, h0⟩⟩ (fun a h1 h2 => by rw [upd_ne h1, upd_ne h1])
theorem ok_some (T : Tx P w K mg) (f__law_pick : Df P w K mg base 1 "_law_pick" spPick) {f : Addr} {fd : FuncData} (F : FD K "_law_some" s__law_some f fd) : Fn P w K mg base 2 f fd ["bag", "things"] (spSome K) := by
  refine fn_body F sc__law_some (fun vs H Q E h => ?_) (fun cv A outer s H vs Q E hr gd h => ?_)
  · obtain ⟨p, g, q, xs, rfl, _⟩ := h
    rfl
  · obtain ⟨p, g, q, xs, rfl, B, hq, n1, n2, l0, l1, k⟩ := h
    refine ⟨_, (pss_one (ps_ret (pe_ix ix_list (pv 1) (pe_df f__law_pick hr (by omega) gd rfl (fun σ => Gl.no_pass σ) (pa_cons (pv 0) (pa_cons (pe_callB Rd.cr_len (by rfl) T.len (by decide +kernel) (pa_cons (pv 1) pa_nil)) pa_nil))) (fun _ _ => rfl)))), ?_⟩
    repeat walk_at "rd1"
    refine ⟨p, g, _, rfl, B, by omega, by omega, fun r H' r0 r1 B' o => ?_⟩
    obtain ⟨v, hv⟩ : ∃ v, xs[r.toNat]? = some v := ⟨xs[r.toNat]'(by omega), List.getElem?_eq_getElem _⟩
    exact ⟨q, xs, r, v, rfl, rfl, o.seq n1 n2 hq, at_of (by omega) hv, k v H' (List.mem_of_getElem? hv) B' o⟩
theorem po_hi {n : Int} : ∀ {σ : L2.St} {H : Hp} (R : Option Int → Hp → Prop), R (some n) H → tPart (tC (.int n)) σ H R := fun R h => ⟨n, rfl, h⟩
theorem po_no : ∀ {σ : L2.St} {H : Hp} (R : Option Int → Hp → Prop), R none H → tNoPart σ H R := fun R h => h
theorem mem_cut {ns : List Int} {lo hi : Option Int} {x : V} (h : x ∈ cutV (ns.map V.int) lo hi) : ∃ z, x = .int z := by
  unfold cutV at h
  obtain ⟨z, _, rfl⟩ := List.mem_map.mp (List.mem_of_mem_drop (List.mem_of_mem_take h))
  exact ⟨z, rfl⟩
theorem len_cut {xs : List V} {n : Nat} : (cutV xs none (some (n : Int))).length ≤ n := by
  unfold cutV
  rw [List.length_take]
  refine Nat.le_trans (Nat.min_le_left _ _) ?_
  show HT.sIx _ _ (some (n : Int)) - 0 ≤ n
  rw [HT.sIx_nat]
  omega
def gp : V → Bool
  | .int z => decide (10 ^ 18 ≤ (if z < 0 then -z else z))
  | _ => false
def gf : V → V
  | .int z => .int (if z < 0 then -z else z)
  | v => v
def absI (z : Int) : Int := if z < 0 then -z else z
theorem great_is : ∀ xs : List V, (∀ x ∈ xs, ∃ z, x = V.int z) → ∃ ms : List Int, (xs.filter gp).map gf = ms.map V.int ∧ ms.length ≤ xs.length ∧ ∀ m ∈ ms, 0 ≤ m
  | [], _ => ⟨[], rfl, Nat.le_refl _, fun m h => nomatch h⟩
  | x :: xs, h => by
    obtain ⟨z, rfl⟩ := h x (by simp)
    obtain ⟨ms, e, l, p⟩ := great_is xs fun y hy => h y (by simp [hy])
    by_cases c : gp (.int z) = true
    · refine ⟨(if z < 0 then -z else z) :: ms, by rw [List.filter_cons_of_pos c, List.map_cons, e]; rfl, by simp; omega, fun m hm => ?_⟩
      rcases List.mem_cons.mp hm with rfl | hm
      · split <;> omega
      · exact p m hm
    · exact ⟨ms, by rw [List.filter_cons_of_neg c, e], by simp; omega, p⟩
theorem ok_bag (T : Tx P w K mg) {f : Addr} {fd : FuncData} (F : FD K "_law_bag" s__law_bag f fd) : Fn P w K mg base 1 f fd ["script"] (spBag K) := by
  refine fn_body F sc__law_bag (fun vs H Q E h => ?_) (fun cv A outer s H vs Q E hr gd h => ?_)
  · obtain ⟨a, ns, rfl, _⟩ := h
    rfl
  · obtain ⟨a, ns, rfl, hS, hl, k⟩ := h
    refine ⟨_, (pss_cons (ps_setLc (i := 1) (y := "great") (own := [("cell", 2)]) (g := gName 2) (by rfl) sc__law_bag.nd rfl rfl (sw_true rfl rfl rfl (by decide +kernel)) (pi_list (pe_slice sl_list (pv 0) po_none (po_some pe_int))) (blkOk_by (own := [("cell", 2)]) (N := N__law_bag) (sc := defScope s__law_bag) (by decide +kernel)) (fun _ _ _ _ _ => pg_name (i := 2) sc__law_bag.nd rfl (Or.inl rfl)) (fun _ _ _ _ _ => (pts_one (pt_cmpR op_ge (pe_callB Rd.cr_abs (by rfl) T.abs (by decide +kernel) (pa_cons (pe_callTy Rd.cr_int (by rfl) T.int (by decide +kernel) (pa_cons (pv 2) pa_nil)) pa_nil)) (pe_op op_pow pe_int pe_int) (nomark _)))) (fun _ _ _ _ _ => (pe_callB Rd.cr_abs (by rfl) T.abs (by decide +kernel) (pa_cons (pe_callTy Rd.cr_int (by rfl) T.int (by decide +kernel) (pa_cons (pv 2) pa_nil)) pa_nil))))
    (pss_cons (ps_set (i := 3) sc__law_bag.nd rfl (Or.inl rfl) pe_int)
    (pss_cons (ps_for (passes_of rfl) rfl (pi_list (pe_slice sl_list (pv 0) po_none (po_some pe_int))) (pg_name (i := 2) sc__law_bag.nd rfl (Or.inl rfl))
      (pss_one (ps_set (i := 3) sc__law_bag.nd rfl (Or.inl rfl) (pe_op op_mod (pe_callTy Rd.cr_int (by rfl) T.int (by decide +kernel) (pa_cons (pe_op op_add (pe_op op_add (pe_op op_add (pe_op op_mul (pv 3) pe_int) (pe_op op_mul (pe_callB Rd.cr_abs (by rfl) T.abs (by decide +kernel) (pa_cons (pe_callTy Rd.cr_int (by rfl) T.int (by decide +kernel) (pa_cons (pv 2) pa_nil)) pa_nil)) pe_int)) (pe_callTy Rd.cr_int (by rfl) T.int (by decide +kernel) (pa_cons (pe_cmpR op_lt (pe_callTy Rd.cr_int (by rfl) T.int (by decide +kernel) (pa_cons (pv 2) pa_nil)) pe_int (nomark _)) pa_nil))) pe_int) pa_nil)) pe_int))))
    (pss_one (ps_ret (pe_lst (pa_cons (pv 1) (pa_cons (pv 3) (pa_cons (pe_callB Rd.cr_len (by rfl) T.len (by decide +kernel) (pa_cons (pv 0) pa_nil)) (pa_cons pe_int pa_nil)))))))))), ?_⟩
    refine Rd.seq (Rd.asg (Rd.lcSl (i := 0) (lo := none) (hi := some ((63 : Nat) : Int)) rfl hS (Nat.le_trans len_cut (by decide)) po_no po_hi gp gf ?_ ?_))
    · intro x hx H2 S F hs h1 h2
      obtain ⟨z, rfl⟩ := mem_cut hx
      refine Rd.gname ⟨rfl, ?_⟩
      refine Rd.test ?_
      repeat walk_at "rd1"
      apply Rd.iteD <;> intro c
      · repeat walk_at "rd1"
        exact h1 (decide_eq_true c)
      · exact h2 (decide_eq_false c)
    · intro q hq D hD
      obtain ⟨ms, em, lm, pm⟩ := great_is (cutV (ns.map V.int) none (some ((63 : Nat) : Int))) fun x hx => mem_cut hx
      have hG : upd (upd H q (.lst (cutV (ns.map V.int) none (some ((63 : Nat) : Int))))) D (.lst ((List.filter gp (cutV (ns.map V.int) none (some ((63 : Nat) : Int)))).map gf)) D = some (.lst (ms.map V.int)) := by rw [upd_same, em]
      have sm := (Rd.same_new (o := .lst (cutV (ns.map V.int) none (some ((63 : Nat) : Int)))) hq).trans (Rd.same_new (o := .lst ((List.filter gp (cutV (ns.map V.int) none (some ((63 : Nat) : Int)))).map gf)) hD)
      have hS1 := sm.seq hS
      revert hG hS1 sm
      generalize upd (upd H q _) D _ = H1
      intro hG sm hS1
      repeat walk_at "rd1"
      refine ⟨_, rfl, po_no _ (po_hi (n := ((63 : Nat) : Int)) _ ⟨a, ns.map V.int, rfl, hS1, fun q2 hq2 => ⟨q2, rfl, ⟨_, .of upd_same⟩, for_it (walk_list (xs := cutV (ns.map V.int) none (some ((63 : Nat) : Int))))
        (fun i σ' H' => ∃ (v : Option V) (sd : Int), σ' = [some (.ref a), some (.ref D), v, some (.int sd)] ∧ 0 ≤ sd ∧ sd < 2147483629 ∧ H' = upd H1 q2 (.lst (cutV (ns.map V.int) none (some ((63 : Nat) : Int)))))
        ⟨none, 318, rfl, by decide, by decide, rfl⟩ (fun i σ' H' _ hp => ?_) (fun i x σ' H' H'' hi hp hy => ?_) (fun σ' H' hp => ?_)⟩⟩)⟩
      · obtain ⟨_, _, _, _, _, rfl⟩ := hp
        exact .of upd_same
      · obtain ⟨v, sd, rfl, s0, s1, rfl⟩ := hp
        obtain ⟨rfl, hx⟩ := hy
        obtain ⟨z, rfl⟩ := mem_cut (List.mem_of_getElem? hx)
        repeat walk_at "rd1"
        exact ⟨_, _, rfl, Int.emod_nonneg _ (by decide), Int.emod_lt_of_pos _ (by decide), rfl⟩
      · obtain ⟨v, sd, rfl, s0, s1, rfl⟩ := hp
        have hS2 := (Rd.same_new (o := .lst (cutV (ns.map V.int) none (some ((63 : Nat) : Int)))) hq2).seq hS1
        repeat walk_at "rd1"
        refine k _ D _ ⟨?_, ⟨sd, _, 0, upd_same, s0, s1⟩, ⟨ms, by walk_at "hp", Nat.le_trans lm len_cut, pm⟩⟩ (fun b u hb => ?_)
        · rename_i hp
          rintro rfl
          rw [upd_ne (ne_of_none hG hq2), hG] at hp
          cases hp
        · have := sm b u hb
          walk_at "hp"
end
end Law
set_option Elab.async false
set_option linter.all false
set_option maxRecDepth 100000
set_option maxHeartbeats 8000000
namespace Law
open PySem L2 Gl Dt
local macro_rules | `(tactic| walk_at "hp") => `(tactic| first
  | with_reducible assumption
  | with_reducible exact upd_same
  | ((with_reducible apply Rd.upd_new); (with_reducible assumption); (walk_at "hp"))
  | ((with_reducible apply Rd.upd_off); (with_reducible assumption); (walk_at "hp"))
  | ((with_reducible apply Rd.upd_off'); (with_reducible assumption); (walk_at "hp"))
  | exact upd_same)
local macro_rules | `(tactic| walk_at "sq") => `(tactic| first
  | assumption
  | (apply SqL.of; walk_at "hp")
  | (apply SqT.of; walk_at "hp"))
local macro_rules | `(tactic| walk_at "rd1") => `(tactic| first
  | with_reducible refine Rd.seq ?_
  | with_reducible refine Rd.asg ?_
  | with_reducible refine Rd.gname ?_
  | ((with_reducible apply Rd.var); rfl)
  | with_reducible refine Rd.cst ?_
  | with_reducible refine Rd.op ?_
  | with_reducible refine Rd.i0 ?_
  | ((with_reducible apply Rd.iC); (first | (show _ < _; omega) | exact ⟨by omega, by omega⟩ | exact .inl ⟨by omega, by omega⟩ | exact .inr ⟨by omega, by omega⟩ | exact ⟨by decide, by decide, by decide⟩); skip)
  | ((with_reducible apply Rd.ixl); (walk_at "sq"); (first | rfl | exact Rd.atI0 | assumption))
  | ((with_reducible apply Rd.ixt); (walk_at "sq"); (first | rfl | exact Rd.atI0 | assumption))
  | with_reducible refine Rd.ret ?_
  | with_reducible refine Rd.drop ?_
  | with_reducible refine Rd.next ?_
  | with_reducible refine Rd.ifs ?_
  | with_reducible refine Rd.test ?_
  | with_reducible refine Rd.tb ?_
  | with_reducible refine Rd.tnot ?_
  | with_reducible refine Rd.tor ?_
  | with_reducible refine Rd.tand ?_
  | with_reducible refine Rd.tyes ?_
  | with_reducible refine Rd.exbl ?_
  | with_reducible refine Rd.exint ?_
  | with_reducible refine Rd.eqI ?_
  | with_reducible refine Rd.neI ?_
  | with_reducible refine Rd.eqS ?_
  | with_reducible refine Rd.neS ?_
  | with_reducible refine Rd.cb ?_
  | with_reducible refine Rd.acons ?_
  | with_reducible refine Rd.anil ?_
  | with_reducible refine Rd.un ?_
  | with_reducible refine Rd.u1 ?_
  | ((with_reducible apply Rd.lenL); (walk_at "sq"))
  | ((with_reducible apply Rd.lenT); (walk_at "sq"))
  | with_reducible refine Rd.int1 ?_
  | with_reducible refine Rd.intb ?_
  | with_reducible refine Rd.abs1 ?_
  | with_reducible refine Rd.gsub ?_
  | ((with_reducible apply Rd.setl); (walk_at "hp"); (first | rfl | exact Rd.ixN0))
  | with_reducible refine Rd.bm ?_
  | with_reducible refine Rd.bm0 ?_
  | (apply Rd.tyl; (walk_at "hp"))
  | ((with_reducible apply Rd.appl); (walk_at "hp"))
  | ((with_reducible apply Rd.popat00); walk_at "hp")
  | with_reducible refine Rd.iteT ?_
  | with_reducible refine Rd.iteF ?_
  | with_reducible refine Rd.iteNT ?_
  | with_reducible refine Rd.iteNF ?_
  | with_reducible refine Rd.df ?_
  | (with_reducible (refine Rd.mkN ?_)); intro _ _
  | ((with_reducible apply Rd.mkE); rfl; intro _ _ _ _)
  | with_reducible refine Rd.lst ?_
  | with_reducible refine Rd.tup ?_
  | ((with_reducible (refine And.intro (Rd.szl (by simp)) ?_)); intro _ _)
  | ((with_reducible apply Rd.cat); (walk_at "hp"); (walk_at "hp"); exact Rd.szl2 (by simp); intro _ _)
  | ((with_reducible apply Rd.gtup); (walk_at "sq"); rfl)
  | with_reducible refine Rd.gcons ?_
  | with_reducible refine Rd.gnil ?_
  | with_reducible refine Rd.par ?_
  | with_reducible refine Rd.par2 ?_
  | with_reducible refine Rd.par3 ?_
  | ((with_reducible (refine Dt.dnew ?_)); intro _ _)
  | ((with_reducible (refine Dt.mulS ?_ ?_ ?_ ?_ ?_ ?_)); decide; decide; exact ⟨by decide, by decide⟩; decide +kernel; decide +kernel)
  | ((with_reducible apply Rd.aug); rfl)
  | with_reducible refine Rd.ipi ?_
  | with_reducible refine Rd.sl ?_
  | with_reducible refine Rd.part ?_
  | with_reducible refine Rd.nopart ?_
  | with_reducible refine Rd.andv ?_
  | with_reducible refine Rd.orv ?_
  | with_reducible refine Rd.notv ?_
  | with_reducible refine Rd.ifx ?_
  | with_reducible refine Rd.chain ?_
  | with_reducible refine Dt.isi_tup (by assumption) ?_
  | with_reducible refine Dt.isi_int (by assumption) ?_
  | with_reducible refine Dt.isi_bool (by assumption) ?_
  | with_reducible refine Dt.isi_str (by assumption) ?_
  | with_reducible refine Rd.par33 ?_
  | ((with_reducible apply Rd.fldE); rfl; (walk_at "hp"); (walk_at "hp")))

theorem nbk {H H0 : Hp} {t p g : Addr} (ht : H t = none) (B : BagAt H0 p g) (s : Same H0 H) : ¬ Bg p g t := (B.same s).tr t ht
local macro_rules | `(tactic| walk_at "nb") => `(tactic| first
  | with_reducible assumption
  | (apply nbk; (with_reducible assumption); (with_reducible assumption); (intro b u hb; walk_at "hp")))
local macro_rules | `(tactic| walk_at "da") => `(tactic| first
  | with_reducible assumption
  | exact Da.non
  | exact Da.bl _
  | exact Da.int _
  | exact Da.str (by decide +kernel)
  | (apply Da.same; (with_reducible assumption); (intro b u hb; walk_at "hp"))
  | (apply Da.tup; (walk_at "hp"); (walk_at "nb"); (walk_at "dal"))
  | (apply Da.lst; (walk_at "hp"); (walk_at "nb"); (walk_at "dal"))
  | (apply Da.dc0; (walk_at "hp"); (walk_at "nb"))
  | (apply Da.dc1; (walk_at "hp"); (walk_at "nb"); (walk_at "da")))
local macro_rules | `(tactic| walk_at "dal") => `(tactic| first
  | exact DaL.nil
  | (apply DaL.cons; (walk_at "da"); (walk_at "dal")))
theorem someNew {K : PySem.W.Frag} {H : Hp} {Q : VK} {E : XK} {p g q : Addr} {xs : List V} {ds : List PyData} (hq : H q = none) (B : BagAt H p g) (hl : DaL (Bg p g) H xs ds) (h0 : 0 < xs.length) (hz : xs.length ≤ 1000)
    (k : ∀ x d H', d ∈ ds → Da (Bg p g) H' x d → BagAt H' p g → Kp (Bg p g) H H' → Q x H') : spSome K [.ref p, .ref q] (upd H q (.lst xs)) Q E := by
  have n := B.tr q hq
  have s := Rd.same_new (o := .lst xs) hq
  refine ⟨p, g, q, xs, rfl, B.same s, .of upd_same, fun z => n (.inl z), fun z => n (.inr z), h0, hz, fun x H' hx B' o => ?_⟩
  obtain ⟨d, hd, hx'⟩ := hl.mem hx
  have kp : Kp (Bg p g) H H' := (Kp.of s).trans o.kp
  exact k x d H' hd (hx'.keep kp) B' kp
def sS (e : Nat) : Nat := 100 * 4 ^ e
theorem sS_succ (e : Nat) : sS (e + 1) = 4 * sS e := by unfold sS; rw [Nat.pow_succ]; omega
theorem sS_ge (e : Nat) : 100 ≤ sS e := by unfold sS; have : 0 < 4 ^ e := Nat.pow_pos (by decide); omega
theorem Gd.t1 {n k a k1 : Nat} {d1 : PyData} (h1 : Gd a k1 d1) (hn : a + 6 ≤ n) (hk : k1 + 1 ≤ k) : Gd n k (.tuple [d1]) := (Gd.tup (.cons h1 .nil)).mono (by omega) hk
theorem Gd.t2 {n k a b k1 k2 : Nat} {d1 d2 : PyData} (h1 : Gd a k1 d1) (h2 : Gd b k2 d2) (hn : a + b + 8 ≤ n) (hk : max k1 k2 + 1 ≤ k) : Gd n k (.tuple [d1, d2]) :=
  (Gd.tup (.cons (h1.mono (Nat.le_refl _) (by omega : k1 ≤ max k1 k2)) (.cons (h2.mono (Nat.le_refl _) (by omega : k2 ≤ max k1 k2)) .nil))).mono (by omega) hk
theorem Gd.t3 {n k a b c k1 k2 k3 : Nat} {d1 d2 d3 : PyData} (h1 : Gd a k1 d1) (h2 : Gd b k2 d2) (h3 : Gd c k3 d3) (hn : a + b + c + 10 ≤ n) (hk : max k1 (max k2 k3) + 1 ≤ k) : Gd n k (.tuple [d1, d2, d3]) :=
  (Gd.tup (.cons (h1.mono (Nat.le_refl _) (by omega : k1 ≤ max k1 (max k2 k3))) (.cons (h2.mono (Nat.le_refl _) (by omega : k2 ≤ max k1 (max k2 k3))) (.cons (h3.mono (Nat.le_refl _) (by omega : k3 ≤ max k1 (max k2 k3))) .nil)))).mono (by omega) hk
theorem gsmall {i : Int} (h0 : 0 ≤ i) (h1 : i < 64) : Gd 8 0 (.int i) := by
  obtain ⟨n, rfl⟩ : ∃ n : Nat, i = n := ⟨i.toNat, by omega⟩
  have key : ∀ n : Fin 64, (PyData.int ((n : Nat) : Int)).showable = true ∧ sz (.int ((n : Nat) : Int)) ≤ 8 := by decide +kernel
  have := key ⟨n, by omega⟩
  exact ⟨this.1, this.2, Nat.le_refl _⟩
def spRecipe : Nat → Sp
  | 0 => fun _ _ _ _ => False
  | n + 1 => fun vs H Q _ => ∃ (p g : Addr) (e : Nat), vs = [.ref p, .int 5, .int (e : Int)] ∧ e ≤ n ∧ e ≤ 5 ∧ BagAt H p g ∧
    ∀ (x : V) (ds : List PyData) (H' : Hp), Da (Bg p g) H' x (.tuple ds) → Gd (sS e) (3 * e + 1) (.tuple ds) → BagAt H' p g → Kp (Bg p g) H H' → Q x H'
abbrev s__law_recipe : Stmt := top 29
abbrev N__law_recipe : List Str := ["bag", "many", "deep", "way", "one", "other", "some"]
theorem sc__law_recipe : FnScope N__law_recipe ["bag", "many", "deep"] (defScope s__law_recipe) := ⟨rfl, rfl, rfl, by decide +kernel, rfl, by decide +kernel, by decide +kernel⟩
section
variable {P : Program} {w : World} {K : PySem.W.Frag} {mg : Str → Option Value} {base : Heap}
theorem ok_recipe (T : Tx P w K mg) (f__law_pick : Df P w K mg base 1 "_law_pick" spPick) (f__law_some : Df P w K mg base 2 "_law_some" (spSome K)) {f : Addr} {fd : FuncData} (F : FD K "_law_recipe" s__law_recipe f fd) {n : Nat} (f__law_recipe : Df P w K mg base (n + 2) "_law_recipe" (spRecipe n)) :
    Fn P w K mg base (n + 3) f fd ["bag", "many", "deep"] (spRecipe (n + 1)) := by
  refine fn_body F sc__law_recipe (fun vs H Q E h => ?_) (fun cv A outer s H vs Q E hr gd h => ?_)
  · obtain ⟨p, g, e, rfl, _⟩ := h
    rfl
  · obtain ⟨p, g, e, rfl, hen, he5, B, k⟩ := h
    refine ⟨_, (pss_cons (ps_set (i := 3) sc__law_recipe.nd rfl (Or.inl rfl) (pe_ifExp (pt_cmpR op_gt (pv 2) pe_int (nomark _)) (pe_df f__law_pick hr (by omega) gd rfl (fun σ => Gl.no_pass σ) (pa_cons (pv 0) (pa_cons pe_int pa_nil))) (pe_df f__law_pick hr (by omega) gd rfl (fun σ => Gl.no_pass σ) (pa_cons (pv 0) (pa_cons pe_int pa_nil)))))
    (pss_cons (ps_if (pt_cmpR op_lt (pv 3) pe_int (nomark _)) (pss_one (ps_ret (pe_tup (pa_cons pe_str (pa_cons (pe_df f__law_pick hr (by omega) gd rfl (fun σ => Gl.no_pass σ) (pa_cons (pv 0) (pa_cons (pe_op op_add (pv 1) pe_int) pa_nil))) pa_nil))))) pss_nil)
    (pss_cons (ps_if (pt_cmpR op_eq (pv 3) pe_int (nomark _)) (pss_one (ps_ret (pe_tup (pa_cons pe_str (pa_cons (pe_df f__law_some hr (by omega) gd rfl (fun σ => Gl.no_pass σ) (pa_cons (pv 0) (pa_cons (pe_lst (pa_cons pe_str (pa_cons pe_str (pa_cons pe_str (pa_cons pe_str (pa_cons pe_str pa_nil)))))) pa_nil))) pa_nil))))) pss_nil)
    (pss_cons (ps_if (pt_cmpR op_eq (pv 3) pe_int (nomark _)) (pss_one (ps_ret (pe_tup (pa_cons pe_str (pa_cons (pe_df f__law_some hr (by omega) gd rfl (fun σ => Gl.no_pass σ) (pa_cons (pv 0) (pa_cons (pe_lst (pa_cons pe_int (pa_cons pe_int (pa_cons pe_int (pa_cons (pe_op op_sub (pe_op op_pow pe_int pe_int) pe_int) pa_nil))))) pa_nil))) pa_nil))))) pss_nil)
    (pss_cons (ps_par (i := 4) (j := 5) (by rfl) sc__law_recipe.nd rfl rfl (by decide) rfl rfl (pa_cons (pe_df f__law_recipe hr (by omega) gd rfl (fun σ => Gl.no_pass σ) (pa_cons (pv 0) (pa_cons (pv 1) (pa_cons (pe_op op_sub (pv 2) pe_int) pa_nil)))) (pa_cons (pe_df f__law_recipe hr (by omega) gd rfl (fun σ => Gl.no_pass σ) (pa_cons (pv 0) (pa_cons (pv 1) (pa_cons (pe_op op_sub (pv 2) pe_int) pa_nil)))) pa_nil)) (by rfl))
    (pss_cons (ps_if (pt_cmpR op_eq (pv 3) pe_int (nomark _)) (pss_one (ps_ret (pe_op op_catA (pe_tup (pa_cons pe_str pa_nil)) (pe_slice sl_tupA (pe_tup (pa_cons (pv 4) (pa_cons (pv 5) (pa_cons (pv 4) pa_nil)))) po_none (po_some (pe_df f__law_pick hr (by omega) gd rfl (fun σ => Gl.no_pass σ) (pa_cons (pv 0) (pa_cons pe_int pa_nil)))))))) pss_nil)
    (pss_cons (ps_if (pt_cmpR op_lt (pv 3) pe_int (nomark _)) (pss_cons (ps_set (i := 6) sc__law_recipe.nd rfl (Or.inl rfl) (pe_lst (pa_cons (pe_tup (pa_cons pe_str (pa_cons (pv 4) (pa_cons (pv 5) pa_nil)))) (pa_cons (pe_tup (pa_cons pe_str (pa_cons (pe_tup (pa_cons pe_str (pa_cons (pv 4) pa_nil))) (pa_cons (pv 5) pa_nil)))) (pa_cons (pe_tup (pa_cons pe_str (pa_cons (pv 4) (pa_cons (pv 5) pa_nil)))) (pa_cons (pe_tup (pa_cons pe_str (pa_cons (pv 4) (pa_cons (pv 5) pa_nil)))) pa_nil))))))
    (pss_one (ps_ret (pe_df f__law_some hr (by omega) gd rfl (fun σ => Gl.no_pass σ) (pa_cons (pv 0) (pa_cons (pv 6) pa_nil)))))) pss_nil)
    (pss_cons (ps_if (pt_cmpR op_eq (pv 3) pe_int (nomark _)) (pss_one (ps_ret (pe_df f__law_some hr (by omega) gd rfl (fun σ => Gl.no_pass σ) (pa_cons (pv 0) (pa_cons (pe_lst (pa_cons (pe_tup (pa_cons pe_str (pa_cons (pv 4) pa_nil))) (pa_cons (pe_tup (pa_cons pe_str (pa_cons (pv 4) pa_nil))) (pa_cons (pe_tup (pa_cons pe_str (pa_cons (pv 4) (pa_cons (pv 5) pa_nil)))) pa_nil)))) pa_nil))))) pss_nil)
    (pss_cons (ps_if (pt_cmpR op_eq (pv 3) pe_int (nomark _)) (pss_one (ps_ret (pe_tup (pa_cons pe_str (pa_cons (pe_df f__law_some hr (by omega) gd rfl (fun σ => Gl.no_pass σ) (pa_cons (pv 0) (pa_cons (pe_lst (pa_cons (pe_tup (pa_cons pe_str (pa_cons (pv 4) (pa_cons (pv 5) pa_nil)))) (pa_cons (pv 4) pa_nil))) pa_nil))) (pa_cons (pe_df f__law_pick hr (by omega) gd rfl (fun σ => Gl.no_pass σ) (pa_cons (pv 0) (pa_cons pe_int pa_nil))) pa_nil)))))) pss_nil)
    (pss_cons (ps_if (pt_cmpR op_eq (pv 3) pe_int (nomark _)) (pss_one (ps_ret (pe_tup (pa_cons pe_str (pa_cons (pe_df f__law_some hr (by omega) gd rfl (fun σ => Gl.no_pass σ) (pa_cons (pv 0) (pa_cons (pe_lst (pa_cons (pe_tup (pa_cons pe_str (pa_cons (pe_tup (pa_cons pe_str (pa_cons (pv 4) pa_nil))) (pa_cons (pv 5) pa_nil)))) (pa_cons (pv 5) pa_nil))) pa_nil))) (pa_cons (pv 4) pa_nil)))))) pss_nil)
    (pss_cons (ps_if (pt_cmpR op_eq (pv 3) pe_int (nomark _)) (pss_one (ps_ret (pe_tup (pa_cons pe_str (pa_cons (pe_df f__law_some hr (by omega) gd rfl (fun σ => Gl.no_pass σ) (pa_cons (pv 0) (pa_cons (pe_lst (pa_cons (pe_tup (pa_cons pe_str (pa_cons (pv 4) (pa_cons (pv 5) pa_nil)))) (pa_cons (pv 5) pa_nil))) pa_nil))) (pa_cons (pv 4) pa_nil)))))) pss_nil)
    (pss_one (ps_ret (pe_ifExp (pt_cmpR op_eq (pv 3) pe_int (nomark _)) (pe_tup (pa_cons pe_str (pa_cons (pe_df f__law_some hr (by omega) gd rfl (fun σ => Gl.no_pass σ) (pa_cons (pv 0) (pa_cons (pe_lst (pa_cons (pe_tup (pa_cons pe_str (pa_cons (pv 4) (pa_cons (pv 5) pa_nil)))) (pa_cons (pv 4) pa_nil))) pa_nil))) pa_nil))) (pe_tup (pa_cons pe_str (pa_cons (pv 4) (pa_cons (pv 5) pa_nil)))))))))))))))))), ?_⟩
    have ge := sS_ge e
    repeat walk_at "rd1"
    apply Rd.iteD <;> intro c0
    all_goals repeat walk_at "rd1"
    all_goals refine ⟨p, g, _, rfl, B, by decide, by decide, fun r H1 r0 r1 B1 o1 => ?_⟩
    all_goals
      have hw : e = 0 → r < 4 := fun z => by omega
      have κ := o1.kp
      clear r1 o1 c0
      repeat walk_at "rd1"
      clear B
      have gA : Gd 20 0 (.str "at") := ⟨rfl, by decide +kernel, Nat.le_refl _⟩
      apply Rd.iteD <;> intro c1
      · repeat walk_at "rd1"
        refine ⟨p, g, _, rfl, B1, by decide, by decide, fun r2 H2 r20 r21 B2 o2 => ?_⟩
        have κ2 := κ.trans o2.kp
        clear B1
        repeat walk_at "rd1"
        refine k _ [.str "at", .int r2] _ (by walk_at "da") (gA.t2 (gsmall r20 (by omega)) (by omega) (by omega)) (B2.same (fun b u hb => by walk_at "hp")) (κ2.trans (.of fun b u hb => by walk_at "hp"))
      · repeat walk_at "rd1"
        apply Rd.iteD <;> intro c2
        · repeat walk_at "rd1"
          rename_i q hq
          refine someNew hq B1 (by walk_at "dal") (by decide) (by decide) fun x d H2 hd dx B2 κ2' => ?_
          have κ2 := κ.trans κ2'
          clear B1
          have gd2 : Gd 20 0 d := by
            simp only [List.mem_cons, List.not_mem_nil, or_false] at hd
            rcases hd with rfl | rfl | rfl | rfl | rfl <;> exact ⟨rfl, by decide +kernel, Nat.le_refl _⟩
          repeat walk_at "rd1"
          have gN : Gd 20 0 (.str "name") := ⟨rfl, by decide +kernel, Nat.le_refl _⟩
          exact k _ [.str "name", d] _ (by walk_at "da") (gN.t2 gd2 (by omega) (by omega)) (B2.same (fun b u hb => by walk_at "hp")) (κ2.trans (.of fun b u hb => by walk_at "hp"))
        · repeat walk_at "rd1"
          apply Rd.iteD <;> intro c3
          · repeat walk_at "rd1"
            rename_i q hq
            refine someNew hq B1 (by walk_at "dal") (by decide) (by decide) fun x d H2 hd dx B2 κ2' => ?_
            have κ2 := κ.trans κ2'
            clear B1
            have gd2 : Gd 20 0 d := by
              simp only [List.mem_cons, List.not_mem_nil, or_false] at hd
              rcases hd with rfl | rfl | rfl | rfl <;> exact ⟨by decide +kernel, by decide +kernel, Nat.le_refl _⟩
            repeat walk_at "rd1"
            have gN : Gd 20 0 (.str "number") := ⟨rfl, by decide +kernel, Nat.le_refl _⟩
            exact k _ [.str "number", d] _ (by walk_at "da") (gN.t2 gd2 (by omega) (by omega)) (B2.same (fun b u hb => by walk_at "hp")) (κ2.trans (.of (fun b u hb => by walk_at "hp")))
          · obtain ⟨e, rfl⟩ : ∃ e', e = e' + 1 := ⟨e - 1, by omega⟩
            obtain ⟨n, rfl⟩ : ∃ n', n = n' + 1 := ⟨n - 1, by omega⟩
            have gs := sS_ge e
            rw [sS_succ] at k
            have eq1 : ((e + 1 : Nat) : Int) - 1 = (e : Int) := by omega
            repeat walk_at "rd1"
            refine ⟨p, g, e, by rw [eq1], by omega, by omega, B1, fun v1 ds1 H2 d1 g1 B2 κa => ?_⟩
            have κ2 := κ.trans κa
            clear B1 κ
            repeat walk_at "rd1"
            refine ⟨p, g, e, by rw [eq1], by omega, by omega, B2, fun v2 ds2 H3 d2 g2 B3 κb => ?_⟩
            have κ3 := κ2.trans κb
            replace d1 := d1.keep κb
            clear B2 κ2 κa κb
            have gs1 : Gd 20 0 (.str "row") := ⟨rfl, by decide +kernel, Nat.le_refl _⟩
            have gs2 : Gd 20 0 (.str "made") := ⟨rfl, by decide +kernel, Nat.le_refl _⟩
            have gs3 : Gd 20 0 (.str "box") := ⟨rfl, by decide +kernel, Nat.le_refl _⟩
            have gs4 : Gd 20 0 (.str "lock") := ⟨rfl, by decide +kernel, Nat.le_refl _⟩
            have gs5 : Gd 20 0 (.str "chest") := ⟨rfl, by decide +kernel, Nat.le_refl _⟩
            have gs6 : Gd 20 0 (.str "print") := ⟨rfl, by decide +kernel, Nat.le_refl _⟩
            have gs7 : Gd 20 0 (.str "mark") := ⟨rfl, by decide +kernel, Nat.le_refl _⟩
            have gs8 : Gd 20 0 (.str "item") := ⟨rfl, by decide +kernel, Nat.le_refl _⟩
            have gs9 : Gd 20 0 (.str "unbox") := ⟨rfl, by decide +kernel, Nat.le_refl _⟩
            have gs10 : Gd 20 0 (.str "unchest") := ⟨rfl, by decide +kernel, Nat.le_refl _⟩
            have gs11 : Gd 20 0 (.str "unmark") := ⟨rfl, by decide +kernel, Nat.le_refl _⟩
            have lk : Gd (sS e + 28) (3 * e + 2) (.tuple [.str "lock", .tuple ds1]) := gs4.t2 g1 (by omega) (by omega)
            have pr : Gd (2 * sS e + 64) (3 * e + 3) (.tuple [.str "print", .tuple ds1]) := gs6.t2 g1 (by omega) (by omega)
            have ma : Gd (2 * sS e + 64) (3 * e + 3) (.tuple [.str "made", .tuple ds1, .tuple ds2]) := gs2.t3 g1 g2 (by omega) (by omega)
            have bl : Gd (2 * sS e + 64) (3 * e + 3) (.tuple [.str "box", .tuple [.str "lock", .tuple ds1], .tuple ds2]) := gs3.t3 lk g2 (by omega) (by omega)
            have bo : Gd (2 * sS e + 64) (3 * e + 3) (.tuple [.str "box", .tuple ds1, .tuple ds2]) := gs3.t3 g1 g2 (by omega) (by omega)
            have ch : Gd (2 * sS e + 64) (3 * e + 3) (.tuple [.str "chest", .tuple ds1, .tuple ds2]) := gs5.t3 g1 g2 (by omega) (by omega)
            have mk : Gd (2 * sS e + 64) (3 * e + 3) (.tuple [.str "mark", .tuple ds1, .tuple ds2]) := gs7.t3 g1 g2 (by omega) (by omega)
            have rw2 : Gd (2 * sS e + 64) (3 * e + 3) (.tuple [.str "row", .tuple ds1, .tuple ds2]) := gs1.t3 g1 g2 (by omega) (by omega)
            have o1 : Gd (2 * sS e + 64) (3 * e + 3) (.tuple ds1) := g1.mono (by omega) (by omega)
            have o2 : Gd (2 * sS e + 64) (3 * e + 3) (.tuple ds2) := g2.mono (by omega) (by omega)
            have lk2 : Gd (2 * sS e + 64) (3 * e + 3) (.tuple [.str "lock", .tuple ds1]) := lk.mono (by omega) (by omega)
            repeat walk_at "rd1"
            apply Rd.iteD <;> intro w4
            · repeat walk_at "rd1"
              rename_i t1 ht1 t2 ht2
              have dR : Da (Bg p g) (upd (upd H3 t1 (.tup [.str "row"])) t2 (.tup [v1, v2, v1])) (.ref t1) (.tuple [.str "row"]) := by walk_at "da"
              have dT : Da (Bg p g) (upd (upd H3 t1 (.tup [.str "row"])) t2 (.tup [v1, v2, v1])) (.ref t2) (.tuple [.tuple ds1, .tuple ds2, .tuple ds1]) := by walk_at "da"
              have B3' := B3.same (H' := upd (upd H3 t1 (.tup [.str "row"])) t2 (.tup [v1, v2, v1])) (fun b u hb => by walk_at "hp")
              have κ3' := κ3.trans (.of (H' := upd (upd H3 t1 (.tup [.str "row"])) t2 (.tup [v1, v2, v1])) (fun b u hb => by walk_at "hp"))
              refine ⟨p, g, 4, rfl, B3', by decide, by decide, fun r2 H4 r20 r21 B4 o4 => ?_⟩
              have κ4 := κ3'.trans o4.kp
              repeat walk_at "rd1"
              refine sl (dT.keep o4.kp) B4.tr fun u H5 s5 d5 => ?_
              refine Dt.cat ((dR.keep o4.kp).same s5) d5 (B4.same s5).tr ?_ fun u H6 s6 d6 => ?_
              · refine Rd.szl2' ?_
                unfold cutD
                rw [List.length_take]
                simp
                omega
              · refine k _ _ _ d6 ?_ ((B4.same s5).same s6) ((κ4.trans (.of s5)).trans (.of s6))
                have gl : GdL (3 * sS e + 6) (3 * e + 1) [.tuple ds1, .tuple ds2, .tuple ds1] := (GdL.cons g1 (.cons g2 (.cons g1 .nil))).mono (by omega) (Nat.le_refl _)
                exact (Gd.tup (GdL.cons (gs1.mono (Nat.le_refl _) (Nat.zero_le _)) (gl.cut (lo := none) (hi := some r2)))).mono (by omega) (by omega)
            · repeat walk_at "rd1"
              apply Rd.iteD <;> intro w5
              · repeat walk_at "rd1"
                rename_i q hq
                refine someNew hq (B3.same (fun b u hb => by walk_at "hp")) (by walk_at "dal") (by simp) (by simp) fun x d H4 hd dx B4 κ4 => ?_
                have κ5 := κ3.trans ((Kp.of (fun b u hb => by walk_at "hp")).trans κ4)
                simp only [List.mem_cons, List.not_mem_nil, or_false] at hd
                rcases hd with rfl | rfl | rfl | rfl
                · exact k _ _ _ dx (ma.mono (by omega) (by omega)) B4 κ5
                · exact k _ _ _ dx (bl.mono (by omega) (by omega)) B4 κ5
                · exact k _ _ _ dx (bo.mono (by omega) (by omega)) B4 κ5
                · exact k _ _ _ dx (ch.mono (by omega) (by omega)) B4 κ5
              · repeat walk_at "rd1"
                apply Rd.iteD <;> intro w6
                · repeat walk_at "rd1"
                  rename_i q hq
                  refine someNew hq (B3.same (fun b u hb => by walk_at "hp")) (by walk_at "dal") (by simp) (by simp) fun x d H4 hd dx B4 κ4 => ?_
                  have κ5 := κ3.trans ((Kp.of (fun b u hb => by walk_at "hp")).trans κ4)
                  simp only [List.mem_cons, List.not_mem_nil, or_false] at hd
                  rcases hd with rfl | rfl | rfl
                  · exact k _ _ _ dx (lk2.mono (by omega) (by omega)) B4 κ5
                  · exact k _ _ _ dx (pr.mono (by omega) (by omega)) B4 κ5
                  · exact k _ _ _ dx (mk.mono (by omega) (by omega)) B4 κ5
                · repeat walk_at "rd1"
                  apply Rd.iteD <;> intro w7
                  · repeat walk_at "rd1"
                    rename_i q hq
                    refine someNew hq (B3.same (fun b u hb => by walk_at "hp")) (by walk_at "dal") (by simp) (by simp) fun x d H4 hd dx B4 κ4 => ?_
                    have κ5 := κ3.trans ((Kp.of (fun b u hb => by walk_at "hp")).trans κ4)
                    have gx : Gd (2 * sS e + 64) (3 * e + 3) d := by
                      simp only [List.mem_cons, List.not_mem_nil, or_false] at hd
                      rcases hd with rfl | rfl <;> assumption
                    clear B3 κ4 hd d1 d2
                    repeat walk_at "rd1"
                    refine ⟨p, g, 3, rfl, B4, by decide, by decide, fun r2 H5 r20 r21 B5 o5 => ?_⟩
                    have κ6 := κ5.trans o5.kp
                    replace dx := dx.keep o5.kp
                    clear B4 o5
                    repeat walk_at "rd1"
                    exact k _ [.str "item", d, .int r2] _ (by walk_at "da") (gs8.t3 gx (gsmall r20 (by omega)) (by omega) (by omega)) (B5.same (fun b u hb => by walk_at "hp")) (κ6.trans (.of (fun b u hb => by walk_at "hp")))
                  · repeat walk_at "rd1"
                    apply Rd.iteD <;> intro w8
                    · repeat walk_at "rd1"
                      rename_i q hq
                      refine someNew hq (B3.same (fun b u hb => by walk_at "hp")) (by walk_at "dal") (by simp) (by simp) fun x d H4 hd dx B4 κ4 => ?_
                      have κ5 := κ3.trans ((Kp.of (fun b u hb => by walk_at "hp")).trans κ4)
                      have gx : Gd (2 * sS e + 64) (3 * e + 3) d := by
                        simp only [List.mem_cons, List.not_mem_nil, or_false] at hd
                        rcases hd with rfl | rfl <;> assumption
                      replace d1 := (d1.same (fun b u hb => by walk_at "hp")).keep κ4
                      clear B3 κ4 hd d2
                      repeat walk_at "rd1"
                      exact k _ [.str "unbox", d, .tuple ds1] _ (by walk_at "da") (gs9.t3 gx g1 (by omega) (by omega)) (B4.same (fun b u hb => by walk_at "hp")) (κ5.trans (.of (fun b u hb => by walk_at "hp")))
                    · repeat walk_at "rd1"
                      apply Rd.iteD <;> intro w9
                      · repeat walk_at "rd1"
                        rename_i q hq
                        refine someNew hq (B3.same (fun b u hb => by walk_at "hp")) (by walk_at "dal") (by simp) (by simp) fun x d H4 hd dx B4 κ4 => ?_
                        have κ5 := κ3.trans ((Kp.of (fun b u hb => by walk_at "hp")).trans κ4)
                        have gx : Gd (2 * sS e + 64) (3 * e + 3) d := by
                          simp only [List.mem_cons, List.not_mem_nil, or_false] at hd
                          rcases hd with rfl | rfl <;> assumption
                        replace d1 := (d1.same (fun b u hb => by walk_at "hp")).keep κ4
                        clear B3 κ4 hd d2
                        repeat walk_at "rd1"
                        exact k _ [.str "unchest", d, .tuple ds1] _ (by walk_at "da") (gs10.t3 gx g1 (by omega) (by omega)) (B4.same (fun b u hb => by walk_at "hp")) (κ5.trans (.of (fun b u hb => by walk_at "hp")))
                      · repeat walk_at "rd1"
                        apply Rd.iteD <;> intro w10
                        · repeat walk_at "rd1"
                          rename_i q hq
                          refine someNew hq (B3.same (fun b u hb => by walk_at "hp")) (by walk_at "dal") (by simp) (by simp) fun x d H4 hd dx B4 κ4 => ?_
                          have κ5 := κ3.trans ((Kp.of (fun b u hb => by walk_at "hp")).trans κ4)
                          have gx : Gd (2 * sS e + 64) (3 * e + 3) d := by
                            simp only [List.mem_cons, List.not_mem_nil, or_false] at hd
                            rcases hd with rfl | rfl <;> assumption
                          clear B3 κ4 hd d2 d1
                          repeat walk_at "rd1"
                          exact k _ [.str "unmark", d] _ (by walk_at "da") (gs11.t2 gx (by omega) (by omega)) (B4.same (fun b u hb => by walk_at "hp")) (κ5.trans (.of (fun b u hb => by walk_at "hp")))
                        · repeat walk_at "rd1"
                          exact k _ [.str "unchest", .tuple ds1, .tuple ds2] _ (by walk_at "da") (gs10.t3 g1 g2 (by omega) (by omega)) (B3.same (fun b u hb => by walk_at "hp")) (κ3.trans (.of (fun b u hb => by walk_at "hp")))
end
end Law
set_option Elab.async false
set_option linter.all false
set_option maxRecDepth 100000
set_option maxHeartbeats 8000000
namespace Law
open PySem L2 Gl Dt
local macro_rules | `(tactic| walk_at "hp") => `(tactic| first
  | with_reducible assumption
  | with_reducible exact upd_same
  | ((with_reducible apply Rd.upd_new); (with_reducible assumption); (walk_at "hp"))
  | ((with_reducible apply Rd.upd_off); (with_reducible assumption); (walk_at "hp"))
  | ((with_reducible apply Rd.upd_off'); (with_reducible assumption); (walk_at "hp"))
  | exact upd_same)
local macro_rules | `(tactic| walk_at "sq") => `(tactic| first
  | assumption
  | (apply SqL.of; walk_at "hp")
  | (apply SqT.of; walk_at "hp"))
local macro_rules | `(tactic| walk_at "rd1") => `(tactic| first
  | with_reducible refine Rd.seq ?_
  | with_reducible refine Rd.asg ?_
  | with_reducible refine Rd.gname ?_
  | ((with_reducible apply Rd.var); rfl)
  | with_reducible refine Rd.cst ?_
  | with_reducible refine Rd.op ?_
  | with_reducible refine Rd.i0 ?_
  | ((with_reducible apply Rd.iC); (first | (show _ < _; omega) | exact ⟨by omega, by omega⟩ | exact .inl ⟨by omega, by omega⟩ | exact .inr ⟨by omega, by omega⟩ | exact ⟨by decide, by decide, by decide⟩); skip)
  | ((with_reducible apply Rd.ixl); (walk_at "sq"); (first | rfl | exact Rd.atI0 | assumption))
  | ((with_reducible apply Rd.ixt); (walk_at "sq"); (first | rfl | exact Rd.atI0 | assumption))
  | with_reducible refine Rd.ret ?_
  | with_reducible refine Rd.drop ?_
  | with_reducible refine Rd.next ?_
  | with_reducible refine Rd.ifs ?_
  | with_reducible refine Rd.test ?_
  | with_reducible refine Rd.tb ?_
  | with_reducible refine Rd.tnot ?_
  | with_reducible refine Rd.tor ?_
  | with_reducible refine Rd.tand ?_
  | with_reducible refine Rd.tyes ?_
  | with_reducible refine Rd.exbl ?_
  | with_reducible refine Rd.exint ?_
  | with_reducible refine Rd.eqI ?_
  | with_reducible refine Rd.neI ?_
  | with_reducible refine Rd.eqS ?_
  | with_reducible refine Rd.neS ?_
  | with_reducible refine Rd.cb ?_
  | with_reducible refine Rd.acons ?_
  | with_reducible refine Rd.anil ?_
  | with_reducible refine Rd.un ?_
  | with_reducible refine Rd.u1 ?_
  | ((with_reducible apply Rd.lenL); (walk_at "sq"))
  | ((with_reducible apply Rd.lenT); (walk_at "sq"))
  | with_reducible refine Rd.int1 ?_
  | with_reducible refine Rd.intb ?_
  | with_reducible refine Rd.abs1 ?_
  | with_reducible refine Rd.gsub ?_
  | ((with_reducible apply Rd.setl); (walk_at "hp"); (first | rfl | exact Rd.ixN0))
  | with_reducible refine Rd.bm ?_
  | with_reducible refine Rd.bm0 ?_
  | (apply Rd.tyl; (walk_at "hp"))
  | ((with_reducible apply Rd.appl); (walk_at "hp"))
  | ((with_reducible apply Rd.popat00); walk_at "hp")
  | with_reducible refine Rd.iteT ?_
  | with_reducible refine Rd.iteF ?_
  | with_reducible refine Rd.iteNT ?_
  | with_reducible refine Rd.iteNF ?_
  | with_reducible refine Rd.df ?_
  | (with_reducible (refine Rd.mkN ?_)); intro _ _
  | ((with_reducible apply Rd.mkE); rfl; intro _ _ _ _)
  | with_reducible refine Rd.lst ?_
  | with_reducible refine Rd.tup ?_
  | ((with_reducible (refine And.intro (Rd.szl (by simp)) ?_)); intro _ _)
  | ((with_reducible apply Rd.cat); (walk_at "hp"); (walk_at "hp"); exact Rd.szl2 (by simp); intro _ _)
  | ((with_reducible apply Rd.gtup); (walk_at "sq"); rfl)
  | with_reducible refine Rd.gcons ?_
  | with_reducible refine Rd.gnil ?_
  | with_reducible refine Rd.par ?_
  | with_reducible refine Rd.par2 ?_
  | with_reducible refine Rd.par3 ?_
  | ((with_reducible (refine Dt.dnew ?_)); intro _ _)
  | ((with_reducible (refine Dt.mulS ?_ ?_ ?_ ?_ ?_ ?_)); decide; decide; exact ⟨by decide, by decide⟩; decide +kernel; decide +kernel)
  | ((with_reducible apply Rd.aug); rfl)
  | with_reducible refine Rd.ipi ?_
  | with_reducible refine Rd.sl ?_
  | with_reducible refine Rd.part ?_
  | with_reducible refine Rd.nopart ?_
  | with_reducible refine Rd.andv ?_
  | with_reducible refine Rd.orv ?_
  | with_reducible refine Rd.notv ?_
  | with_reducible refine Rd.ifx ?_
  | with_reducible refine Rd.chain ?_
  | with_reducible refine Dt.isi_tup (by assumption) ?_
  | with_reducible refine Dt.isi_int (by assumption) ?_
  | with_reducible refine Dt.isi_bool (by assumption) ?_
  | with_reducible refine Dt.isi_str (by assumption) ?_
  | with_reducible refine Rd.par33 ?_
  | ((with_reducible apply Rd.fldE); rfl; (walk_at "hp"); (walk_at "hp")))

local macro_rules | `(tactic| walk_at "nb") => `(tactic| first
  | with_reducible assumption
  | (apply nbk; (with_reducible assumption); (with_reducible assumption); (intro b u hb; walk_at "hp")))
local macro_rules | `(tactic| walk_at "da") => `(tactic| first
  | with_reducible assumption
  | exact Da.non
  | exact Da.bl _
  | exact Da.int _
  | exact Da.str (by decide +kernel)
  | (apply Da.same; (with_reducible assumption); (intro b u hb; walk_at "hp"))
  | (apply Da.tup; (walk_at "hp"); (walk_at "nb"); (walk_at "dal"))
  | (apply Da.lst; (walk_at "hp"); (walk_at "nb"); (walk_at "dal"))
  | (apply Da.dc0; (walk_at "hp"); (walk_at "nb"))
  | (apply Da.dc1; (walk_at "hp"); (walk_at "nb"); (walk_at "da")))
local macro_rules | `(tactic| walk_at "dal") => `(tactic| first
  | exact DaL.nil
  | (apply DaL.cons; (walk_at "da"); (walk_at "dal")))

def spDeep : Sp := fun vs H Q _ => ∃ (p g : Addr), vs = [.ref p] ∧ BagAt H p g ∧ ∀ (x : V) (d : PyData) (H' : Hp), Da (Bg p g) H' x d → Gd 1000 40 d → BagAt H' p g → Kp (Bg p g) H H' → Q x H'
abbrev s__law_deep : Stmt := top 33
abbrev N__law_deep : List Str := ["bag", "thing", "turn"]
theorem sc__law_deep : FnScope N__law_deep ["bag"] (defScope s__law_deep) := ⟨rfl, rfl, rfl, by decide +kernel, rfl, by decide +kernel, by decide +kernel⟩
theorem Gd.l1 {n k a k1 : Nat} {d1 : PyData} (h1 : Gd a k1 d1) (hn : a + 6 ≤ n) (hk : k1 + 1 ≤ k) : Gd n k (.list [d1]) := (Gd.lst (.cons h1 .nil)).mono (by omega) hk
theorem Gd.d1 {n k a k1 : Nat} {d1 : PyData} (h1 : Gd a k1 d1) (hn : a + 16 ≤ n) (hk : k1 + 1 ≤ k) : Gd n k (.dict [(.int 0, d1)]) := by
  obtain ⟨a1, a2, a3⟩ := h1
  refine ⟨?_, ?_, ?_⟩
  · show (PyData.showable (.int 0) && d1.showable && true) = true
    rw [a1]
    rfl
  · show 4 + (sz (.int 0) + sz d1 + 4 + 0) ≤ n
    have : sz (.int 0) = 2 := by decide +kernel
    omega
  · show max (max 0 d1.depth) 0 + 1 ≤ k
    omega
section
variable {P : Program} {w : World} {K : PySem.W.Frag} {mg : Str → Option Value} {base : Heap}
theorem ok_deep (T : Tx P w K mg) (f__law_pick : Df P w K mg base 1 "_law_pick" spPick) (f__law_some : Df P w K mg base 2 "_law_some" (spSome K)) {f : Addr} {fd : FuncData} (F : FD K "_law_deep" s__law_deep f fd) : Fn P w K mg base 3 f fd ["bag"] spDeep := by
  refine fn_body F sc__law_deep (fun vs H Q E h => ?_) (fun cv A outer s H vs Q E hr gd h => ?_)
  · obtain ⟨p, g, rfl, _⟩ := h
    rfl
  · obtain ⟨p, g, rfl, B, k⟩ := h
    refine ⟨_, (pss_cons (ps_set (i := 1) sc__law_deep.nd rfl (Or.inl rfl) (pe_df f__law_some hr (by omega) gd rfl (fun σ => Gl.no_pass σ) (pa_cons (pv 0) (pa_cons (pe_lst (pa_cons pe_non (pa_cons pe_int (pa_cons pe_bl (pa_cons pe_str (pa_cons pe_dnewK pa_nil)))))) pa_nil))))
    (pss_cons (ps_for (passes_of rfl) rfl (pi_range1 rfl T.range (pa_cons (pe_op op_add pe_int (pe_df f__law_pick hr (by omega) gd rfl (fun σ => Gl.no_pass σ) (pa_cons (pv 0) (pa_cons pe_int pa_nil)))) pa_nil)) (pg_name (i := 2) sc__law_deep.nd rfl (Or.inl rfl))
      (pss_one (ps_set (i := 1) sc__law_deep.nd rfl (Or.inl rfl) (pe_df f__law_some hr (by omega) gd rfl (fun σ => Gl.no_pass σ) (pa_cons (pv 0) (pa_cons (pe_lst (pa_cons (pe_tup (pa_cons (pv 1) pa_nil)) (pa_cons (pe_lst (pa_cons (pv 1) pa_nil)) (pa_cons (pe_disp (pps_cons pe_int (pv 1) pps_nil) (by rfl) (by rfl) (fun z => by cases z) (by decide)) (pa_cons (pe_tup (pa_cons pe_str (pa_cons (pv 1) pa_nil))) (pa_cons (pe_tup (pa_cons pe_str (pa_cons (pv 1) pa_nil))) pa_nil)))))) pa_nil))))))
    (pss_one (ps_ret (pv 1))))), ?_⟩
    repeat walk_at "rd1"
    rename_i q hq
    refine someNew hq (B.same (fun b u hb => by walk_at "hp")) (by walk_at "dal") (by simp) (by simp) fun x d H1 hd dx B1 κ1' => ?_
    have κ1 : Kp (Bg p g) H H1 := Kp.trans (.of fun b u hb => by walk_at "hp") κ1'
    have gx : Gd 20 1 d := by
      simp only [List.mem_cons, List.not_mem_nil, or_false] at hd
      rcases hd with rfl | rfl | rfl | rfl | rfl <;> exact ⟨by decide +kernel, by decide +kernel, by decide⟩
    clear B κ1' hd
    repeat walk_at "rd1"
    have pickN : ∀ R : List V → Hp → Prop, (∀ (m : Nat) (H2 : Hp), 1 ≤ m → m ≤ 34 → BagAt H2 p g → Kp (Bg p g) H1 H2 → R [.int (m : Int)] H2) → (tCons (tOp (rI0 fun i j => V.int (i + j)) (tC (V.int 1)) (tDf spPick (fun σ => E0) (tCons (tVar 0) (tCons (tC (V.int 34)) tNil)))) tNil) (List.set (L2.start N__law_deep [V.ref p]) 1 (some x)) H1 R := fun R hR => by
      repeat walk_at "rd1"
      refine ⟨p, g, 34, rfl, B1, by decide, by decide, fun r H2 r0 r1 B2 o2 => ?_⟩
      repeat walk_at "rd1"
      have z := hR (1 + r).toNat H2 (by omega) (by omega) B2 o2.kp
      rw [show (((1 + r).toNat : Nat) : Int) = 1 + r by omega] at z
      exact z
    unfold tFor iRng1
    refine pickN _ fun m H2 m1 m34 B2 κ2 => ?_
    refine ⟨(m : Int), rfl, by omega, by omega, ?_⟩
    rw [Int.toNat_natCast]
    refine for_it (walk_range (n := m)) (fun i σ' H' => ∃ (x : V) (d : PyData) (o : Option V), σ' = [some (.ref p), some x, o] ∧ Da (Bg p g) H' x d ∧ Gd (20 + 28 * i) (1 + i) d ∧ BagAt H' p g ∧ Kp (Bg p g) H H')
      ⟨x, d, none, rfl, dx.keep κ2, gx, B2, κ1.trans κ2⟩ (fun _ _ _ _ _ => True.intro) (fun i y σ' H' H'' hi hp hy => ?_) (fun σ' H' hp => ?_)
    · obtain ⟨x, d, o, rfl, dx, gx, B, κ⟩ := hp
      obtain ⟨rfl, rfl⟩ := hy
      clear B1 B2 κ1 κ2
      repeat walk_at "rd1"
      rename_i t1 ht1 t2 ht2
      intro t3 ht3
      refine ⟨_, rfl, upd_same, [(.inl 0, x)], rfl, by simp, ?_⟩
      simp only [Rd.upd_upd]
      rw [show mergeK [] [((.inl 0 : Key), x)] = [(.inl 0, x)] from rfl]
      repeat walk_at "rd1"
      rename_i q hq
      have gp : Gd 20 0 (.str "print") := ⟨rfl, by decide +kernel, Nat.le_refl _⟩
      have gl : Gd 20 0 (.str "lock") := ⟨rfl, by decide +kernel, Nat.le_refl _⟩
      refine someNew hq (B.same (fun b u hb => by walk_at "hp")) (by walk_at "dal") (by simp) (by simp) fun x1 d1 H1 hd dx1 B1 κ1' => ?_
      have κ1 := κ.trans ((Kp.of (fun b u hb => by walk_at "hp")).trans κ1')
      have g1 : Gd (20 + 28 * (i + 1)) (1 + (i + 1)) d1 := by
        simp only [List.mem_cons, List.not_mem_nil, or_false] at hd
        rcases hd with rfl | rfl | rfl | rfl | rfl
        · exact gx.t1 (by omega) (by omega)
        · exact gx.l1 (by omega) (by omega)
        · exact gx.d1 (by omega) (by omega)
        · exact gp.t2 gx (by omega) (by omega)
        · exact gl.t2 gx (by omega) (by omega)
      exact ⟨x1, d1, _, rfl, dx1, g1, B1, κ1⟩
    · obtain ⟨x, d, o, rfl, dx, gx, B, κ⟩ := hp
      repeat walk_at "rd1"
      exact k _ _ _ dx (gx.mono (by omega) (by omega)) B κ
end
end Law
set_option Elab.async false
set_option linter.all false
set_option maxRecDepth 100000
set_option maxHeartbeats 8000000
namespace Law
open PySem L2 Gl Dt
local macro_rules | `(tactic| walk_at "hp") => `(tactic| first
  | with_reducible assumption
  | with_reducible exact upd_same
  | ((with_reducible apply Rd.upd_new); (with_reducible assumption); (walk_at "hp"))
  | ((with_reducible apply Rd.upd_off); (with_reducible assumption); (walk_at "hp"))
  | ((with_reducible apply Rd.upd_off'); (with_reducible assumption); (walk_at "hp"))
  | exact upd_same)
local macro_rules | `(tactic| walk_at "sq") => `(tactic| first
  | assumption
  | (apply SqL.of; walk_at "hp")
  | (apply SqT.of; walk_at "hp"))
local macro_rules | `(tactic| walk_at "rd1") => `(tactic| first
  | with_reducible refine Rd.seq ?_
  | with_reducible refine Rd.asg ?_
  | with_reducible refine Rd.gname ?_
  | ((with_reducible apply Rd.var); rfl)
  | with_reducible refine Rd.cst ?_
  | with_reducible refine Rd.op ?_
  | with_reducible refine Rd.i0 ?_
  | ((with_reducible apply Rd.iC); (first | (show _ < _; omega) | exact ⟨by omega, by omega⟩ | exact .inl ⟨by omega, by omega⟩ | exact .inr ⟨by omega, by omega⟩ | exact ⟨by decide, by decide, by decide⟩); skip)
  | ((with_reducible apply Rd.ixl); (walk_at "sq"); (first | rfl | exact Rd.atI0 | assumption))
  | ((with_reducible apply Rd.ixt); (walk_at "sq"); (first | rfl | exact Rd.atI0 | assumption))
  | with_reducible refine Rd.ret ?_
  | with_reducible refine Rd.drop ?_
  | with_reducible refine Rd.next ?_
  | with_reducible refine Rd.ifs ?_
  | with_reducible refine Rd.test ?_
  | with_reducible refine Rd.tb ?_
  | with_reducible refine Rd.tnot ?_
  | with_reducible refine Rd.tor ?_
  | with_reducible refine Rd.tand ?_
  | with_reducible refine Rd.tyes ?_
  | with_reducible refine Rd.exbl ?_
  | with_reducible refine Rd.exint ?_
  | with_reducible refine Rd.eqI ?_
  | with_reducible refine Rd.neI ?_
  | with_reducible refine Rd.eqS ?_
  | with_reducible refine Rd.neS ?_
  | with_reducible refine Rd.cb ?_
  | with_reducible refine Rd.acons ?_
  | with_reducible refine Rd.anil ?_
  | with_reducible refine Rd.un ?_
  | with_reducible refine Rd.u1 ?_
  | ((with_reducible apply Rd.lenL); (walk_at "sq"))
  | ((with_reducible apply Rd.lenT); (walk_at "sq"))
  | with_reducible refine Rd.int1 ?_
  | with_reducible refine Rd.intb ?_
  | with_reducible refine Rd.abs1 ?_
  | with_reducible refine Rd.gsub ?_
  | ((with_reducible apply Rd.setl); (walk_at "hp"); (first | rfl | exact Rd.ixN0))
  | with_reducible refine Rd.bm ?_
  | with_reducible refine Rd.bm0 ?_
  | (apply Rd.tyl; (walk_at "hp"))
  | ((with_reducible apply Rd.appl); (walk_at "hp"))
  | ((with_reducible apply Rd.popat00); walk_at "hp")
  | with_reducible refine Rd.iteT ?_
  | with_reducible refine Rd.iteF ?_
  | with_reducible refine Rd.iteNT ?_
  | with_reducible refine Rd.iteNF ?_
  | with_reducible refine Rd.df ?_
  | (with_reducible (refine Rd.mkN ?_)); intro _ _
  | ((with_reducible apply Rd.mkE); rfl; intro _ _ _ _)
  | with_reducible refine Rd.lst ?_
  | with_reducible refine Rd.tup ?_
  | ((with_reducible (refine And.intro (Rd.szl (by simp)) ?_)); intro _ _)
  | ((with_reducible apply Rd.cat); (walk_at "hp"); (walk_at "hp"); exact Rd.szl2 (by simp); intro _ _)
  | ((with_reducible apply Rd.gtup); (walk_at "sq"); rfl)
  | with_reducible refine Rd.gcons ?_
  | with_reducible refine Rd.gnil ?_
  | with_reducible refine Rd.par ?_
  | with_reducible refine Rd.par2 ?_
  | with_reducible refine Rd.par3 ?_
  | ((with_reducible (refine Dt.dnew ?_)); intro _ _)
  | ((with_reducible (refine Dt.mulS ?_ ?_ ?_ ?_ ?_ ?_)); decide; decide; exact ⟨by decide, by decide⟩; decide +kernel; decide +kernel)
  | ((with_reducible apply Rd.aug); rfl)
  | with_reducible refine Rd.ipi ?_
  | with_reducible refine Rd.sl ?_
  | with_reducible refine Rd.part ?_
  | with_reducible refine Rd.nopart ?_
  | with_reducible refine Rd.andv ?_
  | with_reducible refine Rd.orv ?_
  | with_reducible refine Rd.notv ?_
  | with_reducible refine Rd.ifx ?_
  | with_reducible refine Rd.chain ?_
  | with_reducible refine Dt.isi_tup (by assumption) ?_
  | with_reducible refine Dt.isi_int (by assumption) ?_
  | with_reducible refine Dt.isi_bool (by assumption) ?_
  | with_reducible refine Dt.isi_str (by assumption) ?_
  | with_reducible refine Rd.par33 ?_
  | ((with_reducible apply Rd.fldE); rfl; (walk_at "hp"); (walk_at "hp")))

local macro_rules | `(tactic| walk_at "nb") => `(tactic| first
  | with_reducible assumption
  | (apply nbk; (with_reducible assumption); (with_reducible assumption); (intro b u hb; walk_at "hp")))
local macro_rules | `(tactic| walk_at "da") => `(tactic| first
  | with_reducible assumption
  | exact Da.non
  | exact Da.bl _
  | exact Da.int _
  | exact Da.str (by decide +kernel)
  | (apply Da.same; (with_reducible assumption); (intro b u hb; walk_at "hp"))
  | (apply Da.tup; (walk_at "hp"); (walk_at "nb"); (walk_at "dal"))
  | (apply Da.lst; (walk_at "hp"); (walk_at "nb"); (walk_at "dal"))
  | (apply Da.dc0; (walk_at "hp"); (walk_at "nb"))
  | (apply Da.dc1; (walk_at "hp"); (walk_at "nb"); (walk_at "da")))
local macro_rules | `(tactic| walk_at "dal") => `(tactic| first
  | exact DaL.nil
  | (apply DaL.cons; (walk_at "da"); (walk_at "dal")))

theorem cutD_len (ds : List PyData) (lo hi : Option Int) : (cutD ds lo hi).length ≤ ds.length := by
  unfold cutD
  rw [List.length_take, List.length_drop]
  omega
theorem cutD_to {ds : List PyData} {i : Int} (h0 : 0 ≤ i) (h1 : i ≤ ds.length) : cutD ds none (some i) = ds.take i.toNat := by
  obtain ⟨n, rfl⟩ : ∃ n : Nat, i = n := ⟨i.toNat, by omega⟩
  unfold cutD
  rw [HT.sIx_none, HT.sIx_nat, List.drop_zero, Int.toNat_natCast]
  congr 1
  omega
theorem cutD_from {ds : List PyData} {i : Int} (h0 : 0 ≤ i) (h1 : i + 1 ≤ ds.length) : cutD ds (some (i + 1)) none = ds.drop (i.toNat + 1) := by
  obtain ⟨n, rfl⟩ : ∃ n : Nat, i = n := ⟨i.toNat, by omega⟩
  unfold cutD
  rw [HT.sIx_none, show ((n : Int) + 1) = ((n + 1 : Nat) : Int) by omega, HT.sIx_nat, Int.toNat_natCast, show min (n + 1) ds.length = n + 1 by omega]
  exact List.take_of_length_le (by rw [List.length_drop]; omega)
theorem szL_split : ∀ {ds : List PyData} {i : Nat} (h : i < ds.length), szL ds = szL (ds.take i) + (sz ds[i] + 2) + szL (ds.drop (i + 1))
  | d :: r, 0, h => by
    show sz d + 2 + szL r = 0 + (sz d + 2) + szL r
    omega
  | d :: r, i + 1, h => by
    have ih := szL_split (ds := r) (i := i) (by simpa using h)
    show sz d + 2 + szL r = sz d + 2 + szL (r.take i) + (sz (r[i]'(by simpa using h)) + 2) + szL (r.drop (i + 1))
    omega
theorem depthAll_get : ∀ {ds : List PyData} {i : Nat} (h : i < ds.length), ds[i].depth ≤ PyData.depthAll ds
  | d :: r, 0, h => by
    show d.depth ≤ max d.depth _
    omega
  | d :: r, i + 1, h => by
    have ih := depthAll_get (ds := r) (i := i) (by simpa using h)
    show (r[i]'(by simpa using h)).depth ≤ max d.depth (PyData.depthAll r)
    omega
theorem depth_get {ds : List PyData} {i : Nat} (h : i < ds.length) : ds[i].depth + 1 ≤ PyData.depth (.tuple ds) := Nat.succ_le_succ (depthAll_get h)
theorem showAll_get : ∀ {ds : List PyData} {i : Nat} (h : i < ds.length), PyData.showableAll ds = true → ds[i].showable = true
  | d :: r, 0, h, q => (Bool.and_eq_true_iff.mp q).1
  | d :: r, i + 1, h, q => showAll_get (ds := r) (i := i) (by simpa using h) (Bool.and_eq_true_iff.mp q).2
theorem show_get {ds : List PyData} {i : Nat} (q : PyData.showable (.tuple ds) = true) (h : i < ds.length) : ds[i].showable = true := showAll_get h q
theorem szl3 {n : Nat} (h : n ≤ 10000000) : n ≤ sizeLine := Nat.le_trans h (by decide)
theorem bent_last {K : PySem.W.Frag} {H : Hp} {Q : VK} {p g a : Addr} {vo : V} {ds : List PyData} {odd : PyData} {at_ way : Int} {o5 : Option V} (B : BagAt H p g) (hd : Da (Bg p g) H (.ref a) (.tuple ds)) (dodd : Da (Bg p g) H vo odd) (hz : ds.length ≤ 300000)
    (k : ∀ (u : V) (H' : Hp), Same H H' → Da (Bg p g) H' u (.tuple (cutD ds none (some at_) ++ [odd] ++ cutD ds (some (at_ + way - 6)) none)) → Q u H') :
    (tOp (rCatA K) (tOp (rCatA K) (tSl (rSlA K) (tVar 1) tNoPart (tPart (tVar 3))) (tTup (tCons (tVar 2) tNil))) (tSl (rSlA K) (tVar 1) (tPart (tOp (rI0 fun i j => V.int (i - j)) (tOp (rI0 fun i j => V.int (i + j)) (tVar 3) (tVar 4)) (tC (V.int 6)))) tNoPart))
      [some (.ref p), some (.ref a), some vo, some (.int at_), some (.int way), o5] H Q := by
  have l1 := cutD_len ds none (some at_)
  have l2 := cutD_len ds (some (at_ + way - 6)) none
  repeat walk_at "rd1"
  refine sl hd B.tr fun u1 H1 s1 d1 => ?_
  have dodd1 := dodd.same s1
  have B1 := B.same s1
  have hd1 := hd.same s1
  clear dodd B hd
  repeat walk_at "rd1"
  rename_i t1 ht1
  have dt : Da (Bg p g) (upd H1 t1 (.tup [vo])) (.ref t1) (.tuple [odd]) := by walk_at "da"
  have s2 : Same H1 (upd H1 t1 (.tup [vo])) := Rd.same_new ht1
  refine Dt.cat (d1.same s2) dt (B1.same s2).tr (szl3 (by simp; omega)) fun u2 H3 s3 d3 => ?_
  repeat walk_at "rd1"
  refine sl ((hd1.same s2).same s3) ((B1.same s2).same s3).tr fun u3 H4 s4 d4 => ?_
  refine Dt.cat (d3.same s4) d4 (((B1.same s2).same s3).same s4).tr (szl3 (by simp; omega)) fun u4 H5 s5 d5 => ?_
  exact k _ _ ((((s1.trans s2).trans s3).trans s4).trans s5) d5
def spBent : Nat → Sp
  | 0 => fun _ _ _ _ => False
  | n + 1 => fun vs H Q _ => ∃ (p g : Addr) (v : V) (d : PyData) (k0 : Nat), vs = [.ref p, v] ∧ BagAt H p g ∧ Da (Bg p g) H v d ∧ d.showable = true ∧ d.depth ≤ n ∧ d.depth ≤ k0 ∧ sz d ≤ 300000 ∧
    ∀ (x : V) (e : PyData) (H' : Hp), Da (Bg p g) H' x e → Gd (2 * sz d + 1100) (k0 + 42) e → BagAt H' p g → Kp (Bg p g) H H' → Q x H'
abbrev s__law_bent : Stmt := top 34
abbrev N__law_bent : List Str := ["bag", "thing", "odd", "at", "way", "kinds"]
theorem sc__law_bent : FnScope N__law_bent ["bag", "thing"] (defScope s__law_bent) := ⟨rfl, rfl, rfl, by decide +kernel, rfl, by decide +kernel, by decide +kernel⟩
section
variable {P : Program} {w : World} {K : PySem.W.Frag} {mg : Str → Option Value} {base : Heap}
theorem ok_bent (T : Tx P w K mg) (f__law_pick : Df P w K mg base 1 "_law_pick" spPick) (f__law_some : Df P w K mg base 2 "_law_some" (spSome K)) (f__law_deep : Df P w K mg base 3 "_law_deep" spDeep) {f : Addr} {fd : FuncData} (F : FD K "_law_bent" s__law_bent f fd) {n : Nat} (f__law_bent : Df P w K mg base (n + 3) "_law_bent" (spBent n)) :
    Fn P w K mg base (n + 4) f fd ["bag", "thing"] (spBent (n + 1)) := by
  refine fn_body F sc__law_bent (fun vs H Q E h => ?_) (fun cv A outer s H vs Q E hr gd h => ?_)
  · obtain ⟨p, g, v, d, k0, rfl, _⟩ := h
    rfl
  · obtain ⟨p, g, v, d, k0, rfl, B, hd, hs, hn, hk0, hz, k⟩ := h
    refine ⟨_, (pss_cons (ps_set (i := 2) sc__law_bent.nd rfl (Or.inl rfl) (pe_lst (pa_cons pe_non (pa_cons pe_int (pa_cons (pe_un un_neg pe_int) (pa_cons pe_bl (pa_cons (pe_op op_pow pe_int pe_int) (pa_cons pe_str (pa_cons (pe_op op_mulS pe_str pe_int) (pa_cons pe_str (pa_cons (pe_tup (pa_cons pe_str pa_nil)) (pa_cons (pe_tup (pa_cons pe_str (pa_cons pe_int pa_nil))) (pa_cons (pe_lst (pa_cons pe_str (pa_cons pe_int pa_nil))) (pa_cons (pe_tup pa_nil) (pa_cons pe_dnewK (pa_cons (pe_tup (pa_cons pe_str (pa_cons pe_str pa_nil))) pa_nil))))))))))))))))
    (pss_cons (ps_set (i := 2) sc__law_bent.nd rfl (Or.inl rfl) (pe_df f__law_some hr (by omega) gd rfl (fun σ => Gl.no_pass σ) (pa_cons (pv 0) (pa_cons (pv 2) pa_nil))))
    (pss_cons (ps_if (PW.pt (pw_or (pt_not (pt_val (pe_callB call_isi (by rfl) T.isinstance (by decide +kernel) (pa_cons (pv 1) (pa_cons (pe_bltn (v := .ty "tuple") (by rfl) T.tuple (by decide +kernel) rfl) pa_nil))))) (pw_or1 (pt_cmpR op_eq (pe_callB Rd.cr_len (by rfl) T.len (by decide +kernel) (pa_cons (pv 1) pa_nil)) pe_int (nomark _))))) (pss_one (ps_ret (pv 2))) pss_nil)
    (pss_cons (ps_par (i := 3) (j := 4) (by rfl) sc__law_bent.nd rfl rfl (by decide) rfl rfl (pa_cons (pe_df f__law_pick hr (by omega) gd rfl (fun σ => Gl.no_pass σ) (pa_cons (pv 0) (pa_cons (pe_callB Rd.cr_len (by rfl) T.len (by decide +kernel) (pa_cons (pv 1) pa_nil)) pa_nil))) (pa_cons (pe_df f__law_pick hr (by omega) gd rfl (fun σ => Gl.no_pass σ) (pa_cons (pv 0) (pa_cons pe_int pa_nil))) pa_nil)) (by rfl))
    (pss_cons (ps_if (PW.pt (pw_and (pt_cmpR op_lt (pv 4) pe_int (nomark _)) (pw_and1 (pt_cmpR op_gt (pv 3) pe_int (nomark _))))) (pss_one (ps_ret (pe_op op_catA (pe_op op_catA (pe_slice sl_tupA (pv 1) po_none (po_some (pv 3))) (pe_tup (pa_cons (pe_df f__law_bent hr (by omega) gd rfl (fun σ => Gl.no_pass σ) (pa_cons (pv 0) (pa_cons (pe_ix ix_tup (pv 1) (pv 3) (fun _ _ => rfl)) pa_nil))) pa_nil))) (pe_slice sl_tupA (pv 1) (po_some (pe_op op_add (pv 3) pe_int)) po_none)))) pss_nil)
    (pss_cons (ps_if (pt_cmpR op_eq (pv 4) pe_int (nomark _)) (pss_one (ps_ret (pe_df f__law_some hr (by omega) gd rfl (fun σ => Gl.no_pass σ) (pa_cons (pv 0) (pa_cons (pe_lst (pa_cons (pe_callTy Rd.cr_list (by rfl) T.list (by decide +kernel) (pa_cons (pv 1) pa_nil)) (pa_cons (pe_slice sl_tupA (pv 1) po_none (po_some (pe_un un_neg pe_int))) (pa_cons (pe_op op_catA (pv 1) (pe_slice sl_tupA (pv 1) (po_some (pe_un un_neg pe_int)) po_none)) (pa_cons (pe_slice sl_tupA (pv 1) (po_some pe_int) po_none) (pa_cons (pe_tup (pa_cons (pv 1) pa_nil)) (pa_cons (pv 2) (pa_cons (pe_df f__law_deep hr (by omega) gd rfl (fun σ => Gl.no_pass σ) (pa_cons (pv 0) pa_nil)) pa_nil)))))))) pa_nil))))) pss_nil)
    (pss_cons (ps_if (pt_cmpR op_eq (pv 4) pe_int (nomark _)) (pss_cons (ps_set (i := 5) sc__law_bent.nd rfl (Or.inl rfl) (pe_lst (pa_cons pe_str (pa_cons pe_str (pa_cons pe_str (pa_cons pe_str (pa_cons pe_str (pa_cons pe_str (pa_cons pe_str (pa_cons pe_str (pa_cons pe_str (pa_cons pe_str (pa_cons pe_str (pa_cons pe_str pa_nil))))))))))))))
    (pss_one (ps_ret (pe_op op_catA (pe_tup (pa_cons (pe_df f__law_some hr (by omega) gd rfl (fun σ => Gl.no_pass σ) (pa_cons (pv 0) (pa_cons (pe_op op_cat (pv 5) (pe_lst (pa_cons pe_str (pa_cons pe_str (pa_cons pe_str (pa_cons pe_str (pa_cons pe_str (pa_cons pe_non pa_nil)))))))) pa_nil))) pa_nil)) (pe_slice sl_tupA (pv 1) (po_some pe_int) po_none))))) pss_nil)
    (pss_one (ps_ret (pe_op op_catA (pe_op op_catA (pe_slice sl_tupA (pv 1) po_none (po_some (pv 3))) (pe_tup (pa_cons (pv 2) pa_nil))) (pe_slice sl_tupA (pv 1) (po_some (pe_op op_sub (pe_op op_add (pv 3) (pv 4)) pe_int)) po_none))))))))))), ?_⟩
    repeat walk_at "rd1"
    rename_i q hq
    refine someNew hq (B.same (fun b u hb => by walk_at "hp")) (by walk_at "dal") (by simp) (by simp) fun vo odd H1 ho dodd B1 κ1' => ?_
    have κ1 : Kp (Bg p g) H H1 := Kp.trans (.of fun b u hb => by walk_at "hp") κ1'
    have go : Gd 100 1 odd := by
      simp only [List.mem_cons, List.not_mem_nil, or_false] at ho
      rcases ho with rfl | rfl | rfl | rfl | rfl | rfl | rfl | rfl | rfl | rfl | rfl | rfl | rfl | rfl <;> exact ⟨by decide +kernel, by decide +kernel, by decide +kernel⟩
    have hd1 := hd.keep κ1
    clear B κ1' ho hd
    repeat walk_at "rd1"
    apply Rd.iteNB <;> intro c1
    · repeat walk_at "rd1"
      exact k _ _ _ dodd (go.mono (by omega) (by omega)) B1 κ1
    · cases d with
      | tuple ds =>
        have hg : Gd (sz (.tuple ds)) k0 (.tuple ds) := ⟨hs, Nat.le_refl _, hk0⟩
        have hl := hg.list_of
        have szt : sz (.tuple ds) = 4 + szL ds := rfl
        have hlen := szL_len ds
        cases hd1 with
        | @tup a xs _ e nb hda =>
          have hxl := hda.len
          have hd2 : Da (Bg p g) H1 (.ref a) (.tuple ds) := .tup e nb hda
          repeat walk_at "rd1"
          apply Rd.iteD <;> intro c2
          · repeat walk_at "rd1"
            exact k _ _ _ dodd (go.mono (by omega) (by omega)) B1 κ1
          · repeat walk_at "rd1"
            refine ⟨p, g, _, rfl, B1, by omega, by omega, fun at_ H2 a0 a1 B2 o2 => ?_⟩
            have κ2 := κ1.trans o2.kp
            have hd3 := hd2.keep o2.kp
            have dodd2 := dodd.keep o2.kp
            clear hd2 dodd B1 κ1 o2 hda e
            repeat walk_at "rd1"
            refine ⟨p, g, 8, rfl, B2, by decide, by decide, fun way H3 w0 w1 B3 o3 => ?_⟩
            have κ3 := κ2.trans o3.kp
            have hd4 := hd3.keep o3.kp
            have dodd3 := dodd2.keep o3.kp
            clear hd3 dodd2 B2 κ2 o3
            repeat walk_at "rd1"
            have gcut : ∀ lo hi, GdL (szL ds) (k0 - 1) (cutD ds lo hi) := fun lo hi => (show GdL (szL ds) (k0 - 1) ds from hl.mono (by omega) (Nat.le_refl _)).cut
            have k0p : 1 ≤ k0 := by
              have h : PyData.depthAll ds + 1 ≤ k0 := hk0
              omega
            have fin : ∀ (u : V) (H' : Hp), Same H3 H' → Da (Bg p g) H' u (.tuple (cutD ds none (some at_) ++ [odd] ++ cutD ds (some (at_ + way - 6)) none)) → Q u H' := fun u H' s' d' => by
              refine k _ _ _ d' ?_ (B3.same s') (κ3.trans (.of s'))
              have q1 : GdL (szL ds) k0 (cutD ds none (some at_)) := (gcut _ _).mono (Nat.le_refl _) (by omega)
              have q2 : GdL (100 + 2 + 0) k0 [odd] := .cons (go.mono (Nat.le_refl _) (by omega)) .nil
              have q3 : GdL (szL ds) k0 (cutD ds (some (at_ + way - 6)) none) := (gcut _ _).mono (Nat.le_refl _) (by omega)
              exact (Gd.tup ((q1.app q2).app q3)).mono (by omega) (by omega)
            apply Rd.iteD <;> intro w4
            · repeat walk_at "rd1"
              apply Rd.iteD <;> intro a4
              · repeat walk_at "rd1"
                refine sl hd4 B3.tr fun u1 H4 s4 d1 => ?_
                have hd5 := hd4.same s4
                cases hd5 with
                | @tup _ xs5 _ e5 nb5 hl5 =>
                  have hxl5 := hl5.len
                  have lt : at_.toNat < ds.length := by omega
                  obtain ⟨vx, hvx, dx⟩ := hl5.get' (i := at_.toNat) (List.getElem?_eq_getElem lt)
                  have at5 : atI xs5 at_ = some vx := at_of (by omega) hvx
                  repeat walk_at "rd1"
                  have hsp := szL_split lt
                  have dsub : (ds[at_.toNat]'lt).depth + 1 ≤ PyData.depth (.tuple ds) := depth_get lt
                  obtain ⟨n, rfl⟩ : ∃ n', n = n' + 1 := ⟨n - 1, by omega⟩
                  refine ⟨p, g, vx, _, k0 - 1, rfl, B3.same s4, dx, show_get hs lt, by omega, by omega, by omega, fun x e' H5 dx' gx B5 κ5 => ?_⟩
                  have d1' := d1.keep κ5
                  have hd6 : Da (Bg p g) H5 (.ref a) (.tuple ds) := (hd4.same s4).keep κ5
                  have κ6 := (κ3.trans (.of s4)).trans κ5
                  clear hd4 d1 B3 κ3 dx hl5 e5 fin dodd3
                  repeat walk_at "rd1"
                  rename_i t1 ht1
                  have dt : Da (Bg p g) (upd H5 t1 (.tup [x])) (.ref t1) (.tuple [e']) := by walk_at "da"
                  have s6 : Same H5 (upd H5 t1 (.tup [x])) := Rd.same_new ht1
                  have B6 := B5.same s6
                  refine Dt.cat (d1'.same s6) dt B6.tr (szl3 (by have := cutD_len ds none (some at_); simp; omega)) fun u2 H7 s7 d7 => ?_
                  have hd7 := (hd6.same s6).same s7
                  repeat walk_at "rd1"
                  refine sl hd7 (B6.same s7).tr fun u3 H8 s8 d8 => ?_
                  refine Dt.cat (d7.same s8) d8 ((B6.same s7).same s8).tr (szl3 (by have := cutD_len ds none (some at_); have := cutD_len ds (some (at_ + 1)) none; simp; omega)) fun u4 H9 s9 d9 => ?_
                  refine k _ _ _ d9 ?_ (((B6.same s7).same s8).same s9) (κ6.trans (.of (((s6.trans s7).trans s8).trans s9)))
                  have c1 : cutD ds none (some at_) = ds.take at_.toNat := cutD_to (by omega) (by omega)
                  have c2 : cutD ds (some (at_ + 1)) none = ds.drop (at_.toNat + 1) := cutD_from (by omega) (by omega)
                  rw [c1, c2]
                  have gd0 : GdL (szL ds) (k0 - 1) ds := hl.mono (by omega) (Nat.le_refl _)
                  have q1 := gd0.take at_.toNat
                  have q3 := gd0.drop (at_.toNat + 1)
                  obtain ⟨x1, x2, x3⟩ := q1
                  obtain ⟨y1, y2, y3⟩ := q3
                  obtain ⟨z1, z2, z3⟩ := gx
                  refine ⟨?_, ?_, ?_⟩
                  · show PyData.showableAll _ = true
                    rw [shAll_app, shAll_app, x1, y1]
                    show (true && (e'.showable && true) && true) = true
                    rw [z1]
                    rfl
                  · show 4 + szL _ ≤ _
                    rw [szL_app, szL_app]
                    show 4 + (szL (ds.take at_.toNat) + (sz e' + 2 + 0) + szL (ds.drop (at_.toNat + 1))) ≤ _
                    omega
                  · show PyData.depthAll _ + 1 ≤ _
                    rw [dpAll_app, dpAll_app]
                    show max (max (PyData.depthAll (ds.take at_.toNat)) (max e'.depth 0)) (PyData.depthAll (ds.drop (at_.toNat + 1))) + 1 ≤ _
                    omega
              · repeat walk_at "rd1"
                apply Rd.iteD <;> intro w5
                · omega
                · repeat walk_at "rd1"
                  apply Rd.iteD <;> intro w6
                  · omega
                  · refine Rd.next (Rd.ret ?_)
                    exact bent_last B3 hd4 dodd3 (by omega) fin
            · repeat walk_at "rd1"
              apply Rd.iteD <;> intro w5
              · repeat walk_at "rd1"
                cases hd4 with
                | @tup _ xs4 _ e4 nb4 hl4 =>
                  have hd5 : Da (Bg p g) H3 (.ref a) (.tuple ds) := .tup e4 nb4 hl4
                  refine ⟨a, xs4, rfl, .inr (.of e4), fun l1 hl1 => ?_⟩
                  have s4 : Same H3 (upd H3 l1 (.lst xs4)) := Rd.same_new hl1
                  have dl : Da (Bg p g) (upd H3 l1 (.lst xs4)) (.ref l1) (.list ds) := .lst upd_same (B3.tr _ hl1) (hl4.same s4)
                  have B4 := B3.same s4
                  have hd6 := hd5.same s4
                  have dodd4 := dodd3.same s4
                  have κ4 := κ3.trans (.of s4)
                  clear hl4 hd5 B3 dodd3 κ3 fin
                  revert dl B4 hd6 dodd4 κ4
                  clear s4
                  generalize upd H3 l1 (.lst xs4) = H4
                  intro dl B4 hd6 dodd4 κ4
                  repeat walk_at "rd1"
                  refine sl hd6 B4.tr fun u1 H5 s5 d5 => ?_
                  repeat walk_at "rd1"
                  refine sl (hd6.same s5) (B4.same s5).tr fun u2 H6 s6 d6 => ?_
                  refine Dt.cat ((hd6.same s5).same s6) d6 ((B4.same s5).same s6).tr (szl3 (by have := cutD_len ds (some (-1)) none; omega)) fun u3 H7 s7 d7 => ?_
                  repeat walk_at "rd1"
                  refine sl (((hd6.same s5).same s6).same s7) (((B4.same s5).same s6).same s7).tr fun u4 H8 s8 d8 => ?_
                  have s48 := ((s5.trans s6).trans s7).trans s8
                  have B8 := B4.same s48
                  have hd8 := hd6.same s48
                  have dl8 := dl.same s48
                  have do8 := dodd4.same s48
                  have d58 := ((d5.same s6).same s7).same s8
                  have d78 := d7.same s8
                  have κ8 := κ4.trans (.of s48)
                  clear dl B4 hd6 dodd4 κ4 s5 s6 s7 s8 s48 d5 d6 d7
                  repeat walk_at "rd1"
                  rename_i t1 ht1
                  have dt : Da (Bg p g) (upd H8 t1 (.tup [.ref a])) (.ref t1) (.tuple [.tuple ds]) := by walk_at "da"
                  have s9 : Same H8 (upd H8 t1 (.tup [.ref a])) := Rd.same_new ht1
                  refine ⟨p, g, rfl, B8.same s9, fun x9 e9 H9 dx9 gx9 B9 κ9 => ?_⟩
                  have hd9 := (hd8.same s9).keep κ9
                  have dl9 := (dl8.same s9).keep κ9
                  have do9 := (do8.same s9).keep κ9
                  have d59 := (d58.same s9).keep κ9
                  have d79 := (d78.same s9).keep κ9
                  have d89 := (d8.same s9).keep κ9
                  have dt9 := dt.keep κ9
                  have κ10 := (κ8.trans (.of s9)).trans κ9
                  clear hd8 dl8 do8 d58 d78 d8 dt κ8 κ9 s9 B8
                  repeat walk_at "rd1"
                  rename_i q9 hq9
                  refine someNew hq9 B9 (by walk_at "dal") (by simp) (by simp) fun xr dr HR hdr dxr BR κR => ?_
                  have κf := κ10.trans κR
                  refine k _ _ _ dxr ?_ BR κf
                  have q1 : ∀ lo hi, GdL (szL ds) k0 (cutD ds lo hi) := fun lo hi => (gcut lo hi).mono (Nat.le_refl _) (by omega)
                  have q0 : GdL (szL ds) (k0 - 1) ds := hl.mono (by omega) (Nat.le_refl _)
                  simp only [List.mem_cons, List.not_mem_nil, or_false] at hdr
                  rcases hdr with rfl | rfl | rfl | rfl | rfl | rfl | rfl
                  · exact (Gd.lst q0).mono (by omega) (by omega)
                  · exact (Gd.tup (q1 _ _)).mono (by omega) (by omega)
                  · exact (Gd.tup ((q0.mono (Nat.le_refl _) (by omega : k0 - 1 ≤ k0)).app (q1 _ _))).mono (by omega) (by omega)
                  · exact (Gd.tup (q1 _ _)).mono (by omega) (by omega)
                  · exact hg.t1 (by omega) (by omega)
                  · exact go.mono (by omega) (by omega)
                  · exact gx9.mono (by omega) (by omega)
              · repeat walk_at "rd1"
                apply Rd.iteD <;> intro w6
                · repeat walk_at "rd1"
                  rename_i q9 hq9
                  refine someNew hq9 (B3.same (fun b u hb => by walk_at "hp")) (by walk_at "dal") (by simp) (by simp) fun xr dr HR hdr dxr BR κR' => ?_
                  have κR : Kp (Bg p g) H3 HR := Kp.trans (.of (fun b u hb => by walk_at "hp")) κR'
                  have gr : Gd 60 0 dr := by
                    simp only [List.mem_cons, List.not_mem_nil, or_false, List.cons_append, List.nil_append] at hdr
                    rcases hdr with rfl | rfl | rfl | rfl | rfl | rfl | rfl | rfl | rfl | rfl | rfl | rfl | rfl | rfl | rfl | rfl | rfl | rfl <;> exact ⟨by decide +kernel, by decide +kernel, by decide +kernel⟩
                  have hd5 := hd4.keep κR
                  have κ5 := κ3.trans κR
                  clear hd4 B3 κ3 κR κR' hdr fin dodd3
                  repeat walk_at "rd1"
                  rename_i t1 ht1
                  have dt : Da (Bg p g) (upd HR t1 (.tup [xr])) (.ref t1) (.tuple [dr]) := by walk_at "da"
                  have s9 : Same HR (upd HR t1 (.tup [xr])) := Rd.same_new ht1
                  repeat walk_at "rd1"
                  refine sl (hd5.same s9) (BR.same s9).tr fun u1 H6 s6 d6 => ?_
                  refine Dt.cat (dt.same s6) d6 ((BR.same s9).same s6).tr (szl3 (by have := cutD_len ds (some 1) none; simp; omega)) fun u3 H7 s7 d7 => ?_
                  refine k _ _ _ d7 ?_ (((BR.same s9).same s6).same s7) (κ5.trans (.of ((s9.trans s6).trans s7)))
                  exact (Gd.tup (GdL.app (GdL.cons (gr.mono (Nat.le_refl _) (by omega : 0 ≤ k0)) .nil) ((gcut (some 1) none).mono (Nat.le_refl _) (by omega)))).mono (by omega) (by omega)
                · refine Rd.next (Rd.ret ?_)
                  exact bent_last B3 hd4 dodd3 (by omega) fin
      | _ => cases c1
end
end Law
set_option Elab.async false
set_option linter.all false
set_option maxRecDepth 100000
set_option maxHeartbeats 8000000
namespace Law
open PySem L2 Gl Dt
local macro_rules | `(tactic| walk_at "hp") => `(tactic| first
  | with_reducible assumption
  | with_reducible exact upd_same
  | ((with_reducible apply Rd.upd_new); (with_reducible assumption); (walk_at "hp"))
  | ((with_reducible apply Rd.upd_off); (with_reducible assumption); (walk_at "hp"))
  | ((with_reducible apply Rd.upd_off'); (with_reducible assumption); (walk_at "hp"))
  | exact upd_same)
local macro_rules | `(tactic| walk_at "sq") => `(tactic| first
  | assumption
  | (apply SqL.of; walk_at "hp")
  | (apply SqT.of; walk_at "hp"))
local macro_rules | `(tactic| walk_at "rd1") => `(tactic| first
  | with_reducible refine Rd.seq ?_
  | with_reducible refine Rd.asg ?_
  | with_reducible refine Rd.gname ?_
  | ((with_reducible apply Rd.var); rfl)
  | with_reducible refine Rd.cst ?_
  | with_reducible refine Rd.op ?_
  | with_reducible refine Rd.i0 ?_
  | ((with_reducible apply Rd.iC); (first | (show _ < _; omega) | exact ⟨by omega, by omega⟩ | exact .inl ⟨by omega, by omega⟩ | exact .inr ⟨by omega, by omega⟩ | exact ⟨by decide, by decide, by decide⟩); skip)
  | ((with_reducible apply Rd.ixl); (walk_at "sq"); (first | rfl | exact Rd.atI0 | assumption))
  | ((with_reducible apply Rd.ixt); (walk_at "sq"); (first | rfl | exact Rd.atI0 | assumption))
  | with_reducible refine Rd.ret ?_
  | with_reducible refine Rd.drop ?_
  | with_reducible refine Rd.next ?_
  | with_reducible refine Rd.ifs ?_
  | with_reducible refine Rd.test ?_
  | with_reducible refine Rd.tb ?_
  | with_reducible refine Rd.tnot ?_
  | with_reducible refine Rd.tor ?_
  | with_reducible refine Rd.tand ?_
  | with_reducible refine Rd.tyes ?_
  | with_reducible refine Rd.exbl ?_
  | with_reducible refine Rd.exint ?_
  | with_reducible refine Rd.eqI ?_
  | with_reducible refine Rd.neI ?_
  | with_reducible refine Rd.eqS ?_
  | with_reducible refine Rd.neS ?_
  | with_reducible refine Rd.cb ?_
  | with_reducible refine Rd.acons ?_
  | with_reducible refine Rd.anil ?_
  | with_reducible refine Rd.un ?_
  | with_reducible refine Rd.u1 ?_
  | ((with_reducible apply Rd.lenL); (walk_at "sq"))
  | ((with_reducible apply Rd.lenT); (walk_at "sq"))
  | with_reducible refine Rd.int1 ?_
  | with_reducible refine Rd.intb ?_
  | with_reducible refine Rd.abs1 ?_
  | with_reducible refine Rd.gsub ?_
  | ((with_reducible apply Rd.setl); (walk_at "hp"); (first | rfl | exact Rd.ixN0))
  | with_reducible refine Rd.bm ?_
  | with_reducible refine Rd.bm0 ?_
  | (apply Rd.tyl; (walk_at "hp"))
  | ((with_reducible apply Rd.appl); (walk_at "hp"))
  | ((with_reducible apply Rd.popat00); walk_at "hp")
  | with_reducible refine Rd.iteT ?_
  | with_reducible refine Rd.iteF ?_
  | with_reducible refine Rd.iteNT ?_
  | with_reducible refine Rd.iteNF ?_
  | with_reducible refine Rd.df ?_
  | (with_reducible (refine Rd.mkN ?_)); intro _ _
  | ((with_reducible apply Rd.mkE); rfl; intro _ _ _ _)
  | with_reducible refine Rd.lst ?_
  | with_reducible refine Rd.tup ?_
  | ((with_reducible (refine And.intro (Rd.szl (by simp)) ?_)); intro _ _)
  | ((with_reducible apply Rd.cat); (walk_at "hp"); (walk_at "hp"); exact Rd.szl2 (by simp); intro _ _)
  | ((with_reducible apply Rd.gtup); (walk_at "sq"); rfl)
  | with_reducible refine Rd.gcons ?_
  | with_reducible refine Rd.gnil ?_
  | with_reducible refine Rd.par ?_
  | with_reducible refine Rd.par2 ?_
  | with_reducible refine Rd.par3 ?_
  | ((with_reducible (refine Dt.dnew ?_)); intro _ _)
  | ((with_reducible (refine Dt.mulS ?_ ?_ ?_ ?_ ?_ ?_)); decide; decide; exact ⟨by decide, by decide⟩; decide +kernel; decide +kernel)
  | ((with_reducible apply Rd.aug); rfl)
  | with_reducible refine Rd.ipi ?_
  | with_reducible refine Rd.sl ?_
  | with_reducible refine Rd.part ?_
  | with_reducible refine Rd.nopart ?_
  | with_reducible refine Rd.andv ?_
  | with_reducible refine Rd.orv ?_
  | with_reducible refine Rd.notv ?_
  | with_reducible refine Rd.ifx ?_
  | with_reducible refine Rd.chain ?_
  | with_reducible refine Dt.isi_tup (by assumption) ?_
  | with_reducible refine Dt.isi_int (by assumption) ?_
  | with_reducible refine Dt.isi_bool (by assumption) ?_
  | with_reducible refine Dt.isi_str (by assumption) ?_
  | with_reducible refine Rd.par33 ?_
  | ((with_reducible apply Rd.fldE); rfl; (walk_at "hp"); (walk_at "hp")))

local macro_rules | `(tactic| walk_at "nb") => `(tactic| exact fun z => z)
local macro_rules | `(tactic| walk_at "da") => `(tactic| first
  | with_reducible assumption
  | exact Da.non
  | exact Da.bl _
  | exact Da.int _
  | exact Da.str (by decide +kernel)
  | (apply Da.same; (with_reducible assumption); (intro b u hb; walk_at "hp"))
  | (apply Da.tup; (walk_at "hp"); (walk_at "nb"); (walk_at "dal"))
  | (apply Da.lst; (walk_at "hp"); (walk_at "nb"); (walk_at "dal")))
local macro_rules | `(tactic| walk_at "dal") => `(tactic| first
  | exact DaL.nil
  | (apply DaL.cons; (walk_at "da"); (walk_at "dal")))
abbrev B0 : Addr → Prop := fun _ => False
def atD : PyData := .tuple [.str "at", .int 0]
def deepD : Nat → PyData
  | 0 => atD
  | n + 1 => .tuple [.str "print", deepD n]
def smallD : PyData := .tuple (.str "row" :: List.replicate 20 atD)
def greatD : PyData := .tuple (.str "row" :: List.replicate 20 smallD)
def wholeD : PyData := .tuple (.str "row" :: (List.replicate 4 greatD ++ List.replicate 15 smallD))
theorem repL {B : Addr → Prop} {H : Hp} {v : V} {d : PyData} (h : Da B H v d) : ∀ n, DaL B H (List.replicate n [v]).flatten (List.replicate n d)
  | 0 => .nil
  | n + 1 => .cons h (repL h n)
theorem repD {K : PySem.W.Frag} {H : Hp} {Q : VK} {l : V} {d : PyData} {k : Int} (h : Da B0 H l (.tuple [d])) (h1 : 2 ≤ k) (h2 : k ≤ 1000) (q : ∀ u H', Same H H' → Da B0 H' u (.tuple (List.replicate k.toNat d)) → Q u H') : rRepT K l (.int k) H Q := by
  cases h with
  | @tup a xs _ e n hl =>
    cases hl with
    | cons hd ht =>
      cases ht
      exact ⟨a, k, _, rfl, rfl, .of e, by simp, h1, h2, by simp, fun p hp => q _ _ (Rd.same_new hp) (.tup upd_same (fun z => z) ((repL hd _).same (Rd.same_new hp)))⟩
/-- a comprehension over a list, which may lay new things -/
theorem lcLr {K : PySem.W.Frag} {σ : L2.St} {H : Hp} {Q : VK} {te0 : TE} {g : TG} {tt : TT} {te : TE} {vs : List Nat} {a : Addr} {xs : List V} (f : Nat → V) (hx : ∀ S : VK, S (.ref a) H → te0 σ H S) (h1 : SqL K H a xs) (h2 : xs.length ≤ 1000)
    (step : ∀ (i : Nat) (x : V), xs[i]? = some x → ∀ (H1 : Hp) (S : VK) (F : Hp → Prop), Same H H1 → (∀ H2, Same H1 H2 → S (f i) H2) → g x (wipe σ vs) H1 fun σ2 H3 => wipe σ2 vs = wipe σ vs ∧ tt σ2 H3 fun b H4 => if b = true then te σ2 H4 S else F H4)
    (last : ∀ (D : Addr) (H1 : Hp), Same H H1 → H1 D = some (.lst ((List.range xs.length).map f)) → Q (.ref D) H1) : tLc (iList K te0) g tt te vs σ H Q := by
  refine hx _ ⟨a, rfl, ⟨xs, h1⟩, fun D hD => lc_it (walk_list (xs := xs)) (fun i H' => H' D = some (.lst ((List.range i).map f)) ∧ Same H H') ⟨upd_same, Rd.same_new hD⟩
    (fun i H' _ h => h.2.seq h1) (fun i x H' H'' hi h hy => ?_) (fun H' h => ?_)⟩
  · obtain ⟨e, s⟩ := h
    obtain ⟨rfl, hx'⟩ := hy
    refine step i x hx' _ _ _ s fun H2 s2 => ⟨_, s2 _ _ e, ?_, ?_, fun b o hb => ?_⟩
    · rw [List.length_map, List.length_range]
      exact small1000 (by omega)
    · rw [upd_same, List.range_succ, List.map_append]
      rfl
    · rw [upd_ne (ne_of_none hb hD)]
      exact s2 _ _ (s _ _ hb)
  · obtain ⟨e, s⟩ := h
    exact last D H' s e
theorem appended {HE HA : Hp} {q1 q0 : Addr} {xs : List V} {ds : List PyData} (h1 : HE q1 = none) (sA : Same HA HE) (dl : DaL B0 HE xs ds) (h0 : upd HE q1 (.lst xs) q0 = none) :
    DaL (fun a => a = q1) (upd (upd (upd HE q1 (.lst xs)) q0 (.tup [.str "at", .bl true])) q1 (.lst (xs ++ [.ref q0]))) (xs ++ [.ref q0]) (ds ++ [.tuple [.str "at", .bool true]]) ∧
    Same HA (upd (upd (upd HE q1 (.lst xs)) q0 (.tup [.str "at", .bl true])) q1 (.lst (xs ++ [.ref q0]))) ∧
    upd (upd (upd HE q1 (.lst xs)) q0 (.tup [.str "at", .bl true])) q1 (.lst (xs ++ [.ref q0])) q1 = some (.lst (xs ++ [.ref q0])) := by
  have n0 : q0 ≠ q1 := fun z => by rw [z, upd_same] at h0; cases h0
  have s1 := Rd.same_new (o := .lst xs) h1
  have s2 := Rd.same_new (o := .tup [.str "at", .bl true]) h0
  have sF : Same HE (upd (upd (upd HE q1 (.lst xs)) q0 (.tup [.str "at", .bl true])) q1 (.lst (xs ++ [.ref q0]))) := fun b u hb => by
    rw [upd_ne (ne_of_none hb h1)]
    exact s2 _ _ (s1 _ _ hb)
  refine ⟨?_, sA.trans sF, upd_same⟩
  have d1 : DaL (fun a => a = q1) HE xs ds := dl.imp fun a o e n z => by rw [z, h1] at e; cases e
  refine (d1.same sF).app (.cons (.tup (by rw [upd_ne n0, upd_same]) n0 (.cons (.str (by decide +kernel)) (.cons (.bl true) .nil))) .nil)
def knownD : List PyData := [deepD 29, .tuple [.str "print", deepD 29], wholeD, .tuple ((.str "row" :: (List.replicate 4 greatD ++ List.replicate 15 smallD)) ++ [atD]), smallD, .tuple ((.str "row" :: List.replicate 20 atD) ++ [atD]), .tuple [.str "name", .str (mulT "~" 40)]] ++
  [.tuple [.str "name", .str (mulT "~" 41)], .tuple [.str "at", .int (10 ^ Int.toNat 12 - 1)], .tuple [.str "at", .int (10 ^ Int.toNat 12)], .tuple [.str "row"], .tuple [.str "item", .tuple [.str "row"], .int 0]] ++
  [.tuple [.str "fresh", .int 0], .tuple [.str "name", .str "a\nb"], .tuple [.str "item", .tuple [.str "row"], .tuple [.str "at", .int 0]], .tuple [.str "row", .list [.tuple [.str "at", .int 0]]]]
theorem known_rec : (knownD ++ [PyData.tuple [.str "at", .bool true]]).map isRec = [true, false, true, false, true, false, true, false, true, false, true, true, false, false, false, false, false] := by decide +kernel
theorem known_gd : ∀ d ∈ knownD ++ [PyData.tuple [.str "at", .bool true]], Gd 1000000 180 d := by
  have h : (knownD ++ [PyData.tuple [.str "at", .bool true]]).all (fun d => d.showable && (decide (sz d ≤ 1000000) && decide (d.depth ≤ 180))) = true := by decide +kernel
  intro d hd
  have z := List.all_eq_true.mp h d hd
  simp only [Bool.and_eq_true, decide_eq_true_eq] at z
  exact z
theorem dp_bools {K : PySem.W.Frag} {H : Hp} : ∀ bs : List Bool, DpAll K H (bs.map V.bl) (bs.map PyData.bool)
  | [] => .nil
  | b :: bs => .cons (.bl b) (dp_bools bs)
def spKnown : Sp := fun vs H Q _ => vs = [] ∧ ∀ H', Same H H' → Q (.bl true) H'
abbrev s__law_known_right : Stmt := top 36
abbrev N__law_known_right : List Str := ["deep", "turn", "small", "great", "whole", "things", "due", "thing"]
theorem sc__law_known_right : FnScope N__law_known_right [] (defScope s__law_known_right) := ⟨rfl, rfl, rfl, by decide +kernel, rfl, by decide +kernel, by decide +kernel⟩
section
variable {P : Program} {w : World} {K : PySem.W.Frag} {mg : Str → Option Value} {base : Heap}
theorem ok_known (T : Tx P w K mg) (f_is_recipe : Df P w K mg base 5 "is_recipe" (spTr isRec)) (f__law_is_judged : Df P w K mg base 35 "_law_is_judged" (spJudged 1000000 180)) {f : Addr} {fd : FuncData} (F : FD K "_law_known_right" s__law_known_right f fd) : Fn P w K mg base 36 f fd [] spKnown := by
  refine fn_body F sc__law_known_right (fun vs H Q E h => ?_) (fun cv A outer s H vs Q E hr gd h => ?_)
  · obtain ⟨rfl, _⟩ := h
    rfl
  · obtain ⟨rfl, k⟩ := h
    refine ⟨_, (pss_cons (ps_set (i := 0) sc__law_known_right.nd rfl (Or.inl rfl) (pe_tup (pa_cons pe_str (pa_cons pe_int pa_nil))))
    (pss_cons (ps_for (passes_of rfl) rfl (pi_range1 rfl T.range (pa_cons pe_int pa_nil)) (pg_name (i := 1) sc__law_known_right.nd rfl (Or.inl rfl))
      (pss_one (ps_set (i := 0) sc__law_known_right.nd rfl (Or.inl rfl) (pe_tup (pa_cons pe_str (pa_cons (pv 0) pa_nil))))))
    (pss_cons (ps_set (i := 2) sc__law_known_right.nd rfl (Or.inl rfl) (pe_op op_catA (pe_tup (pa_cons pe_str pa_nil)) (pe_op op_repT (pe_tup (pa_cons (pe_tup (pa_cons pe_str (pa_cons pe_int pa_nil))) pa_nil)) pe_int)))
    (pss_cons (ps_set (i := 3) sc__law_known_right.nd rfl (Or.inl rfl) (pe_op op_catA (pe_tup (pa_cons pe_str pa_nil)) (pe_op op_repT (pe_tup (pa_cons (pv 2) pa_nil)) pe_int)))
    (pss_cons (ps_set (i := 4) sc__law_known_right.nd rfl (Or.inl rfl) (pe_op op_catA (pe_op op_catA (pe_tup (pa_cons pe_str pa_nil)) (pe_op op_repT (pe_tup (pa_cons (pv 3) pa_nil)) pe_int)) (pe_op op_repT (pe_tup (pa_cons (pv 2) pa_nil)) pe_int)))
    (pss_cons (ps_set (i := 5) sc__law_known_right.nd rfl (Or.inl rfl) (pe_lst (pa_cons (pv 0) (pa_cons (pe_tup (pa_cons pe_str (pa_cons (pv 0) pa_nil))) (pa_cons (pv 4) (pa_cons (pe_op op_catA (pv 4) (pe_tup (pa_cons (pe_tup (pa_cons pe_str (pa_cons pe_int pa_nil))) pa_nil))) (pa_cons (pv 2) (pa_cons (pe_op op_catA (pv 2) (pe_tup (pa_cons (pe_tup (pa_cons pe_str (pa_cons pe_int pa_nil))) pa_nil))) (pa_cons (pe_tup (pa_cons pe_str (pa_cons (pe_op op_mulS pe_str pe_int) pa_nil))) pa_nil)))))))))
    (pss_cons (ps_set (i := 5) sc__law_known_right.nd rfl (Or.inl rfl) (pe_op op_cat (pv 5) (pe_lst (pa_cons (pe_tup (pa_cons pe_str (pa_cons (pe_op op_mulS pe_str pe_int) pa_nil))) (pa_cons (pe_tup (pa_cons pe_str (pa_cons (pe_op op_sub (pe_op op_pow pe_int pe_int) pe_int) pa_nil))) (pa_cons (pe_tup (pa_cons pe_str (pa_cons (pe_op op_pow pe_int pe_int) pa_nil))) (pa_cons (pe_tup (pa_cons pe_str pa_nil)) (pa_cons (pe_tup (pa_cons pe_str (pa_cons (pe_tup (pa_cons pe_str pa_nil)) (pa_cons pe_int pa_nil)))) pa_nil))))))))
    (pss_cons (ps_set (i := 5) sc__law_known_right.nd rfl (Or.inl rfl) (pe_op op_cat (pv 5) (pe_lst (pa_cons (pe_tup (pa_cons pe_str (pa_cons pe_int pa_nil))) (pa_cons (pe_tup (pa_cons pe_str (pa_cons pe_str pa_nil))) (pa_cons (pe_tup (pa_cons pe_str (pa_cons (pe_tup (pa_cons pe_str pa_nil)) (pa_cons (pe_tup (pa_cons pe_str (pa_cons pe_int pa_nil))) pa_nil)))) (pa_cons (pe_tup (pa_cons pe_str (pa_cons (pe_lst (pa_cons (pe_tup (pa_cons pe_str (pa_cons pe_int pa_nil))) pa_nil)) pa_nil))) pa_nil)))))))
    (pss_cons (ps_expr (pe_bm PySem.F.plainAttrs_list PySem.F.slot_list_append PySem.F.type_list_append mt_append (pv 5) (pa_cons (pe_tup (pa_cons pe_str (pa_cons pe_bl pa_nil))) pa_nil)))
    (pss_cons (ps_set (i := 6) sc__law_known_right.nd rfl (Or.inl rfl) (pe_lst (pa_cons pe_bl (pa_cons pe_bl (pa_cons pe_bl (pa_cons pe_bl (pa_cons pe_bl (pa_cons pe_bl (pa_cons pe_bl (pa_cons pe_bl (pa_cons pe_bl (pa_cons pe_bl (pa_cons pe_bl (pa_cons pe_bl (pa_cons pe_bl (pa_cons pe_bl (pa_cons pe_bl (pa_cons pe_bl pa_nil))))))))))))))))))
    (pss_one (ps_ret (pe_and (pe_cmpR (op_eqD hr.units) (pe_lc (own := [("thing", 7)]) (g := gName 7) (by rfl) sc__law_known_right.nd (pi_list (pv 5)) (blkOk_by (own := [("thing", 7)]) (N := N__law_known_right) (sc := defScope s__law_known_right) (by decide +kernel)) (fun _ _ _ _ _ => pg_name (i := 7) sc__law_known_right.nd rfl (Or.inl rfl)) (fun _ _ _ _ _ => pts_nil) (fun _ _ _ _ _ => (pe_df f_is_recipe hr (by omega) gd rfl (fun σ => Gl.no_pass σ) (pa_cons (pv 7) pa_nil)))) (pe_op op_cat (pv 6) (pe_lst (pa_cons pe_bl pa_nil))) (nomark _)) (pe_one (pe_callB (cr_all rfl) (by rfl) T.all (by decide +kernel) (pa_cons (pe_lc (own := [("thing", 7)]) (g := gName 7) (by rfl) sc__law_known_right.nd (pi_list (pv 5)) (blkOk_by (own := [("thing", 7)]) (N := N__law_known_right) (sc := defScope s__law_known_right) (by decide +kernel)) (fun _ _ _ _ _ => pg_name (i := 7) sc__law_known_right.nd rfl (Or.inl rfl)) (fun _ _ _ _ _ => pts_nil) (fun _ _ _ _ _ => (pe_df f__law_is_judged hr (by omega) gd rfl (fun σ => Gl.no_pass σ) (pa_cons (pv 7) pa_nil)))) pa_nil)))))))))))))))), ?_⟩
    repeat walk_at "rd1"
    rename_i t ht
    refine ⟨29, rfl, by decide, by decide, for_it (walk_range (n := 29)) (fun i σ' H' => ∃ (x : V) (o : Option V), σ' = some x :: o :: (L2.start N__law_known_right []).drop 2 ∧ Same H H' ∧ Da B0 H' x (deepD i))
      ⟨.ref t, none, rfl, Rd.same_new ht, by show Da B0 _ _ (.tuple [.str "at", .int 0]); walk_at "da"⟩ (fun _ _ _ _ _ => True.intro) (fun i y σ' H' H'' hi hp hy => ?_) (fun σ' H' hp => ?_)⟩
    · obtain ⟨x, o, rfl, s1, d1⟩ := hp
      obtain ⟨rfl, rfl⟩ := hy
      repeat walk_at "rd1"
      rename_i t1 ht1
      exact ⟨_, _, rfl, s1.trans (Rd.same_new ht1), by show Da B0 _ _ (.tuple [.str "print", deepD i]); walk_at "da"⟩
    · obtain ⟨deep, o, rfl, s1, dD⟩ := hp
      repeat walk_at "rd1"
      rename_i t1 ht1 t2 ht2 t3 ht3
      have dR : Da B0 (upd (upd (upd H' t1 (.tup [.str "row"])) t2 (.tup [.str "at", .int 0])) t3 (.tup [.ref t2])) (.ref t1) (.tuple [.str "row"]) := by walk_at "da"
      have dA : Da B0 (upd (upd (upd H' t1 (.tup [.str "row"])) t2 (.tup [.str "at", .int 0])) t3 (.tup [.ref t2])) (.ref t3) (.tuple [atD]) := by show Da B0 _ _ (.tuple [.tuple [.str "at", .int 0]]); walk_at "da"
      have s2 : Same H' (upd (upd (upd H' t1 (.tup [.str "row"])) t2 (.tup [.str "at", .int 0])) t3 (.tup [.ref t2])) := fun b u hb => by walk_at "hp"
      refine repD dA (by decide) (by decide) fun u1 H2 s3 d2 => ?_
      refine Dt.cat (dR.same s3) d2 Tr.none (szl3 (by simp)) fun small H3 s4 dS' => ?_
      have dS : Da B0 H3 small smallD := dS'
      have s5 := ((s1.trans s2).trans s3).trans s4
      replace dD := ((dD.same s2).same s3).same s4
      clear dS' d2 dA dR s1 s2 s3 s4 ht1 ht2 ht3
      repeat walk_at "rd1"
      rename_i t1 ht1 t3 ht3
      have dR : Da B0 (upd (upd H3 t1 (.tup [.str "row"])) t3 (.tup [small])) (.ref t1) (.tuple [.str "row"]) := by walk_at "da"
      have dA : Da B0 (upd (upd H3 t1 (.tup [.str "row"])) t3 (.tup [small])) (.ref t3) (.tuple [smallD]) := by walk_at "da"
      have s2 : Same H3 (upd (upd H3 t1 (.tup [.str "row"])) t3 (.tup [small])) := fun b u hb => by walk_at "hp"
      refine repD dA (by decide) (by decide) fun u1 H4 s3 d2 => ?_
      refine Dt.cat (dR.same s3) d2 Tr.none (szl3 (by simp)) fun great H5 s4 dG' => ?_
      have dG : Da B0 H5 great greatD := dG'
      have s6 := (s2.trans s3).trans s4
      replace s5 := s5.trans s6
      replace dD := dD.same s6
      replace dS := dS.same s6
      clear dG' d2 dA dR s6 s2 s3 s4 ht1 ht3
      repeat walk_at "rd1"
      rename_i t1 ht1 t3 ht3
      have dR : Da B0 (upd (upd H5 t1 (.tup [.str "row"])) t3 (.tup [great])) (.ref t1) (.tuple [.str "row"]) := by walk_at "da"
      have dA : Da B0 (upd (upd H5 t1 (.tup [.str "row"])) t3 (.tup [great])) (.ref t3) (.tuple [greatD]) := by walk_at "da"
      have s2 : Same H5 (upd (upd H5 t1 (.tup [.str "row"])) t3 (.tup [great])) := fun b u hb => by walk_at "hp"
      refine repD dA (by decide) (by decide) fun u1 H6 s3 d2 => ?_
      refine Dt.cat (dR.same s3) d2 Tr.none (szl3 (by simp)) fun w1 H7 s4 dW1 => ?_
      have s6 := (s2.trans s3).trans s4
      replace s5 := s5.trans s6
      replace dD := dD.same s6
      replace dS := dS.same s6
      clear d2 dA dR s6 s2 s3 s4 ht1 ht3 dG
      repeat walk_at "rd1"
      rename_i t3 ht3
      have dA : Da B0 (upd H7 t3 (.tup [small])) (.ref t3) (.tuple [smallD]) := by walk_at "da"
      have s2 : Same H7 (upd H7 t3 (.tup [small])) := Rd.same_new ht3
      refine repD dA (by decide) (by decide) fun u1 H8 s3 d2 => ?_
      refine Dt.cat ((dW1.same s2).same s3) d2 Tr.none (szl3 (by simp)) fun whole H9 s4 dW' => ?_
      have dW : Da B0 H9 whole wholeD := dW'
      have s6 := (s2.trans s3).trans s4
      replace s5 := s5.trans s6
      replace dD := dD.same s6
      replace dS := dS.same s6
      clear dW' d2 dA s6 s2 s3 s4 ht3 dW1
      repeat walk_at "rd1"
      rename_i tp htp ta hta tt htt
      have dP : Da B0 (upd (upd (upd H9 tp (.tup [.str "print", deep])) ta (.tup [.str "at", .int 0])) tt (.tup [.ref ta])) (.ref tp) (.tuple [.str "print", deepD 29]) := by walk_at "da"
      have dA : Da B0 (upd (upd (upd H9 tp (.tup [.str "print", deep])) ta (.tup [.str "at", .int 0])) tt (.tup [.ref ta])) (.ref tt) (.tuple [atD]) := by show Da B0 _ _ (.tuple [.tuple [.str "at", .int 0]]); walk_at "da"
      have s2 : Same H9 (upd (upd (upd H9 tp (.tup [.str "print", deep])) ta (.tup [.str "at", .int 0])) tt (.tup [.ref ta])) := fun b u hb => by walk_at "hp"
      refine Dt.cat (dW.same s2) dA Tr.none (szl3 (by simp)) fun wa H10 s3 dWA => ?_
      have s6 := s2.trans s3
      replace s5 := s5.trans s6
      replace dD := dD.same s6
      replace dS := dS.same s6
      replace dW := dW.same s6
      replace dP := dP.same s3
      clear dA s6 s2 s3 htp hta htt
      repeat walk_at "rd1"
      rename_i ta hta tt htt
      have dA : Da B0 (upd (upd H10 ta (.tup [.str "at", .int 0])) tt (.tup [.ref ta])) (.ref tt) (.tuple [atD]) := by show Da B0 _ _ (.tuple [.tuple [.str "at", .int 0]]); walk_at "da"
      have s2 : Same H10 (upd (upd H10 ta (.tup [.str "at", .int 0])) tt (.tup [.ref ta])) := fun b u hb => by walk_at "hp"
      refine Dt.cat (dS.same s2) dA Tr.none (szl3 (by simp)) fun sa H11 s3 dSA => ?_
      have s6 := s2.trans s3
      replace s5 := s5.trans s6
      replace dD := dD.same s6
      replace dS := dS.same s6
      replace dW := dW.same s6
      replace dP := dP.same s6
      replace dWA := dWA.same s6
      clear dA s6 s2 s3 hta htt
      repeat walk_at "rd1"
      · exact small1000 (by simp)
      rename_i q20 h20 q19 h19 q18 h18 q17 h17 q16 h16 q15 h15 q14 h14 q13 h13 q12 h12 q11 h11 q10 h10 q9 h9 q8 h8 q7 h7 q6 h6 q5 h5 q4 h4 q3 h3 q2 h2 q1 h1 q0 h0
      obtain ⟨dlF, sF, lF⟩ := appended (HA := H11) h1 (fun b u hb => by walk_at "hp") (ds := knownD) (by unfold knownD; walk_at "dal") h0
      have s7 := s5.trans sF
      revert dlF lF s7
      generalize upd (upd (upd _ q1 _) q0 _) q1 _ = HF
      intro dlF lF s7
      clear sF dWA dP dW dS dD dSA
      clear h20 h19 h18 h17 h16 h15 h14 h13 h12 h11 h10 h9 h8 h7 h6 h5 h4 h3 h2 h1 h0
      revert dlF lF
      generalize (_ ++ [V.ref q0]) = XS
      intro dlF lF
      have ln : XS.length = 17 := dlF.len.trans (by decide)
      repeat walk_at "rd1"
      rename_i qd hqd
      have sB := Rd.same_new (o := .lst [.bl true, .bl false, .bl true, .bl false, .bl true, .bl false, .bl true, .bl false, .bl true, .bl false, .bl true, .bl true, .bl false, .bl false, .bl false, .bl false]) hqd
      have lD := upd_same (H := HF) (a := qd) (o := .lst [.bl true, .bl false, .bl true, .bl false, .bl true, .bl false, .bl true, .bl false, .bl true, .bl false, .bl true, .bl true, .bl false, .bl false, .bl false, .bl false])
      replace lF := sB _ _ lF
      replace dlF := dlF.same sB
      replace s7 := s7.trans sB
      revert lF dlF s7 lD
      clear sB hqd
      generalize upd HF qd _ = HG
      intro lD lF dlF s7
      have trF : ∀ {H2 : Hp}, Same HG H2 → Tr (fun a => a = q1) H2 := fun s a h z => by rw [z, s _ _ lF] at h; cases h
      have mem : ∀ i x, XS[i]? = some x → ∃ d, (knownD ++ [.tuple [.str "at", .bool true]])[i]? = some d ∧ Da (fun a => a = q1) HG x d := fun i x hx => dlF.get hx
      refine lcLr (fun i => .bl ([true, false, true, false, true, false, true, false, true, false, true, true, false, false, false, false, false].getD i false)) (fun S h => ⟨_, rfl, h⟩) (.of lF) (by omega) (fun i x hx H1 S F s1 hS => ?_) (fun D H1 s1 lD1 => ?_)
      · refine Rd.gname ⟨rfl, Rd.tyes (Rd.iteT ?_)⟩
        repeat walk_at "rd1"
        obtain ⟨d, hd, dx⟩ := mem i x hx
        refine ⟨_, x, d, rfl, dx.same s1, trF s1, fun H2 s2 => ?_⟩
        have z : ((knownD ++ [PyData.tuple [.str "at", .bool true]]).map isRec)[i]? = some (isRec d) := by rw [List.getElem?_map, hd]; rfl
        rw [known_rec] at z
        have z2 := hS H2 s2
        rw [List.getD_eq_getElem?_getD, z] at z2
        exact z2
      · rw [ln] at lD1
        have lD' := s1 _ _ lD
        repeat walk_at "rd1"
        rename_i qf hqf qc hqc
        have hs : SeqAt.shaped (.list (([true, false, true, false, true, false, true, false, true, false, true, true, false, false, false, false, false] : List Bool).map PyData.bool)) = true := rfl
        have sG : Same H1 (upd (upd H1 qf (.lst [.bl false])) qc (.lst ([.bl true, .bl false, .bl true, .bl false, .bl true, .bl false, .bl true, .bl false, .bl true, .bl false, .bl true, .bl true, .bl false, .bl false, .bl false, .bl false] ++ [.bl false]))) := (Rd.same_new hqf).trans (Rd.same_new hqc)
        have lc := upd_same (H := upd H1 qf (.lst [.bl false])) (a := qc) (o := .lst ([.bl true, .bl false, .bl true, .bl false, .bl true, .bl false, .bl true, .bl false, .bl true, .bl false, .bl true, .bl true, .bl false, .bl false, .bl false, .bl false] ++ [.bl false]))
        have lD2 := sG _ _ lD1
        revert sG lc lD2
        clear hqf hqc
        generalize upd (upd H1 qf _) qc _ = HI
        intro sG lc lD2
        refine ⟨.list (([true, false, true, false, true, false, true, false, true, false, true, true, false, false, false, false, false] : List Bool).map PyData.bool), .list (([true, false, true, false, true, false, true, false, true, false, true, true, false, false, false, false, false] : List Bool).map PyData.bool), .lst (.of lD2) (dp_bools [true, false, true, false, true, false, true, false, true, false, true, true, false, false, false, false, false]), .lst (.of lc) (dp_bools [true, false, true, false, true, false, true, false, true, false, true, true, false, false, false, false, false]), hs, hs, ?_⟩
        rw [SeqAt.eqv_refl _ (SeqAt.canLay_of_shaped hs)]
        repeat walk_at "rd1"
        have sHI := s1.trans sG
        refine lcLr (fun _ => .bl true) (fun S h => ⟨_, rfl, h⟩) (.of (sHI _ _ lF)) (by omega) (fun i x hx H2 S F s2 hS => ?_) (fun D2 H2 s2 lD3 => ?_)
        · refine Rd.gname ⟨rfl, Rd.tyes (Rd.iteT ?_)⟩
          repeat walk_at "rd1"
          obtain ⟨d, hd, dx⟩ := mem i x hx
          exact ⟨_, x, d, rfl, dx.same (sHI.trans s2), trF (sHI.trans s2), known_gd d (List.mem_of_getElem? hd), fun H3 s3 => hS H3 s3⟩
        · rw [ln] at lD3
          repeat walk_at "rd1"
          exact ⟨D2, List.replicate 17 true, rfl, .of lD3, k H2 ((s7.trans sHI).trans s2)⟩
end
end Law
set_option Elab.async false
set_option linter.all false
set_option maxRecDepth 100000
set_option maxHeartbeats 8000000
namespace Law
open PySem L2 Gl Dt
local macro_rules | `(tactic| walk_at "hp") => `(tactic| first
  | with_reducible assumption
  | with_reducible exact upd_same
  | ((with_reducible apply Rd.upd_new); (with_reducible assumption); (walk_at "hp"))
  | ((with_reducible apply Rd.upd_off); (with_reducible assumption); (walk_at "hp"))
  | ((with_reducible apply Rd.upd_off'); (with_reducible assumption); (walk_at "hp"))
  | exact upd_same)
local macro_rules | `(tactic| walk_at "sq") => `(tactic| first
  | assumption
  | (apply SqL.of; walk_at "hp")
  | (apply SqT.of; walk_at "hp"))
local macro_rules | `(tactic| walk_at "rd1") => `(tactic| first
  | with_reducible refine Rd.seq ?_
  | with_reducible refine Rd.asg ?_
  | with_reducible refine Rd.gname ?_
  | ((with_reducible apply Rd.var); rfl)
  | with_reducible refine Rd.cst ?_
  | with_reducible refine Rd.op ?_
  | with_reducible refine Rd.i0 ?_
  | ((with_reducible apply Rd.iC); (first | (show _ < _; omega) | exact ⟨by omega, by omega⟩ | exact .inl ⟨by omega, by omega⟩ | exact .inr ⟨by omega, by omega⟩ | exact ⟨by decide, by decide, by decide⟩); skip)
  | ((with_reducible apply Rd.ixl); (walk_at "sq"); (first | rfl | exact Rd.atI0 | assumption))
  | ((with_reducible apply Rd.ixt); (walk_at "sq"); (first | rfl | exact Rd.atI0 | assumption))
  | with_reducible refine Rd.ret ?_
  | with_reducible refine Rd.drop ?_
  | with_reducible refine Rd.next ?_
  | with_reducible refine Rd.ifs ?_
  | with_reducible refine Rd.test ?_
  | with_reducible refine Rd.tb ?_
  | with_reducible refine Rd.tnot ?_
  | with_reducible refine Rd.tor ?_
  | with_reducible refine Rd.tand ?_
  | with_reducible refine Rd.tyes ?_
  | with_reducible refine Rd.exbl ?_
  | with_reducible refine Rd.exint ?_
  | with_reducible refine Rd.eqI ?_
  | with_reducible refine Rd.neI ?_
  | with_reducible refine Rd.eqS ?_
  | with_reducible refine Rd.neS ?_
  | with_reducible refine Rd.cb ?_
  | with_reducible refine Rd.acons ?_
  | with_reducible refine Rd.anil ?_
  | with_reducible refine Rd.un ?_
  | with_reducible refine Rd.u1 ?_
  | ((with_reducible apply Rd.lenL); (walk_at "sq"))
  | ((with_reducible apply Rd.lenT); (walk_at "sq"))
  | with_reducible refine Rd.int1 ?_
  | with_reducible refine Rd.intb ?_
  | with_reducible refine Rd.abs1 ?_
  | with_reducible refine Rd.gsub ?_
  | ((with_reducible apply Rd.setl); (walk_at "hp"); (first | rfl | exact Rd.ixN0))
  | with_reducible refine Rd.bm ?_
  | with_reducible refine Rd.bm0 ?_
  | (apply Rd.tyl; (walk_at "hp"))
  | ((with_reducible apply Rd.appl); (walk_at "hp"))
  | ((with_reducible apply Rd.popat00); walk_at "hp")
  | with_reducible refine Rd.iteT ?_
  | with_reducible refine Rd.iteF ?_
  | with_reducible refine Rd.iteNT ?_
  | with_reducible refine Rd.iteNF ?_
  | with_reducible refine Rd.df ?_
  | (with_reducible (refine Rd.mkN ?_)); intro _ _
  | ((with_reducible apply Rd.mkE); rfl; intro _ _ _ _)
  | with_reducible refine Rd.lst ?_
  | with_reducible refine Rd.tup ?_
  | ((with_reducible (refine And.intro (Rd.szl (by simp)) ?_)); intro _ _)
  | ((with_reducible apply Rd.cat); (walk_at "hp"); (walk_at "hp"); exact Rd.szl2 (by simp); intro _ _)
  | ((with_reducible apply Rd.gtup); (walk_at "sq"); rfl)
  | with_reducible refine Rd.gcons ?_
  | with_reducible refine Rd.gnil ?_
  | with_reducible refine Rd.par ?_
  | with_reducible refine Rd.par2 ?_
  | with_reducible refine Rd.par3 ?_
  | ((with_reducible (refine Dt.dnew ?_)); intro _ _)
  | ((with_reducible (refine Dt.mulS ?_ ?_ ?_ ?_ ?_ ?_)); decide; decide; exact ⟨by decide, by decide⟩; decide +kernel; decide +kernel)
  | ((with_reducible apply Rd.aug); rfl)
  | with_reducible refine Rd.ipi ?_
  | with_reducible refine Rd.sl ?_
  | with_reducible refine Rd.part ?_
  | with_reducible refine Rd.nopart ?_
  | with_reducible refine Rd.andv ?_
  | with_reducible refine Rd.orv ?_
  | with_reducible refine Rd.notv ?_
  | with_reducible refine Rd.ifx ?_
  | with_reducible refine Rd.chain ?_
  | with_reducible refine Dt.isi_tup (by assumption) ?_
  | with_reducible refine Dt.isi_int (by assumption) ?_
  | with_reducible refine Dt.isi_bool (by assumption) ?_
  | with_reducible refine Dt.isi_str (by assumption) ?_
  | with_reducible refine Rd.par33 ?_
  | ((with_reducible apply Rd.fldE); rfl; (walk_at "hp"); (walk_at "hp")))

def spLaw (K : PySem.W.Frag) : Sp := fun vs H Q _ => ∃ (a : Addr) (ns : List Int), vs = [.ref a] ∧ ns.length ≤ 1000 ∧ SqL K H a (ns.map V.int) ∧ ∀ H', Q (.bl true) H'
abbrev s_law : Stmt := top 37
abbrev N_law : List Str := ["script", "bag", "turn", "recipe", "again", "bent"]
theorem sc_law : FnScope N_law ["script"] (defScope s_law) := ⟨rfl, rfl, rfl, by decide +kernel, rfl, by decide +kernel, by decide +kernel⟩
theorem sS5 : sS 5 = 102400 := by decide
theorem sS_le {e : Nat} (h : e ≤ 5) : sS e ≤ 102400 := by
  rw [← sS5]
  unfold sS
  exact Nat.mul_le_mul_left _ (Nat.pow_le_pow_right (by decide) h)
section
variable {P : Program} {w : World} {K : PySem.W.Frag} {mg : Str → Option Value} {base : Heap}
theorem recipe_all (T : Tx P w K mg) (f__law_pick : Df P w K mg base 1 "_law_pick" spPick) (f__law_some : Df P w K mg base 2 "_law_some" (spSome K)) {f : Addr} {fd : FuncData} (F : FD K "_law_recipe" s__law_recipe f fd) (hm : mg "_law_recipe" = some (.ref f))
    (hb : ∀ (s : Shared) (us : List Value), us.length = (["bag", "many", "deep"] : List Str).length → BindsTo s fd ⟨us, []⟩ ((["bag", "many", "deep"] : List Str).zip us)) : ∀ n, Df P w K mg base (n + 2) "_law_recipe" (spRecipe n)
  | 0 => df_of F hm ⟨fun _ _ _ _ z => z.elim, fun _ _ _ _ _ _ _ _ _ _ _ _ _ _ z => z.elim⟩ hb
  | n + 1 => df_of F hm (ok_recipe T f__law_pick f__law_some F (recipe_all T f__law_pick f__law_some F hm hb n)) hb
theorem bent_all (T : Tx P w K mg) (f__law_pick : Df P w K mg base 1 "_law_pick" spPick) (f__law_some : Df P w K mg base 2 "_law_some" (spSome K)) (f__law_deep : Df P w K mg base 3 "_law_deep" spDeep) {f : Addr} {fd : FuncData} (F : FD K "_law_bent" s__law_bent f fd) (hm : mg "_law_bent" = some (.ref f))
    (hb : ∀ (s : Shared) (us : List Value), us.length = (["bag", "thing"] : List Str).length → BindsTo s fd ⟨us, []⟩ ((["bag", "thing"] : List Str).zip us)) : ∀ n, Df P w K mg base (n + 3) "_law_bent" (spBent n)
  | 0 => df_of F hm ⟨fun _ _ _ _ z => z.elim, fun _ _ _ _ _ _ _ _ _ _ _ _ _ _ z => z.elim⟩ hb
  | n + 1 => df_of F hm (ok_bent T f__law_pick f__law_some f__law_deep F (bent_all T f__law_pick f__law_some f__law_deep F hm hb n)) hb
theorem ok_law (T : Tx P w K mg) (f__law_bag : Df P w K mg base 1 "_law_bag" (spBag K)) (f__law_pick : Df P w K mg base 1 "_law_pick" spPick) (f__law_recipe : Df P w K mg base 8 "_law_recipe" (spRecipe 6)) (f__law_deep : Df P w K mg base 3 "_law_deep" spDeep)
    (f__law_bent : Df P w K mg base 103 "_law_bent" (spBent 100)) (f__law_is_judged : Df P w K mg base 35 "_law_is_judged" (spJudged 1000000 180)) (f__law_known_right : Df P w K mg base 36 "_law_known_right" spKnown)
    {f : Addr} {fd : FuncData} (F : FD K "law" s_law f fd) : Fn P w K mg base 104 f fd ["script"] (spLaw K) := by
  refine fn_body F sc_law (fun vs H Q E h => ?_) (fun cv A outer s H vs Q E hr gd h => ?_)
  · obtain ⟨a, ns, rfl, _⟩ := h
    rfl
  · obtain ⟨a, ns, rfl, hl, hS, k⟩ := h
    refine ⟨_, (pss_cons (ps_set (i := 1) sc_law.nd rfl (Or.inl rfl) (pe_df f__law_bag hr (by omega) gd rfl (fun σ => Gl.no_pass σ) (pa_cons (pv 0) pa_nil)))
    (pss_cons (ps_if (pt_not (pt_val (pe_df0 f__law_known_right hr (by omega) gd rfl (fun σ => Gl.no_pass σ)))) (pss_one (ps_ret pe_bl)) pss_nil)
    (pss_cons (ps_for (passes_of rfl) rfl (pi_range1 rfl T.range (pa_cons pe_int pa_nil)) (pg_name (i := 2) sc_law.nd rfl (Or.inl rfl))
      (pss_cons (ps_set (i := 3) sc_law.nd rfl (Or.inl rfl) (pe_df f__law_recipe hr (by omega) gd rfl (fun σ => Gl.no_pass σ) (pa_cons (pv 1) (pa_cons pe_int (pa_cons (pe_op op_add pe_int (pe_df f__law_pick hr (by omega) gd rfl (fun σ => Gl.no_pass σ) (pa_cons (pv 1) (pa_cons pe_int pa_nil)))) pa_nil)))))
    (pss_cons (ps_if (PW.pt (pw_or (pt_not (pt_val (pe_df f__law_is_judged hr (by omega) gd rfl (fun σ => Gl.no_pass σ) (pa_cons (pv 3) pa_nil)))) (pw_or1 (pt_not (pt_val (pe_df f__law_is_judged hr (by omega) gd rfl (fun σ => Gl.no_pass σ) (pa_cons (pe_df f__law_deep hr (by omega) gd rfl (fun σ => Gl.no_pass σ) (pa_cons (pv 1) pa_nil)) pa_nil))))))) (pss_one (ps_ret pe_bl)) pss_nil)
    (pss_one (ps_for (passes_of rfl) rfl (pi_range1 rfl T.range (pa_cons pe_int pa_nil)) (pg_name (i := 4) sc_law.nd rfl (Or.inl rfl))
      (pss_cons (ps_set (i := 5) sc_law.nd rfl (Or.inl rfl) (pe_df f__law_bent hr (by omega) gd rfl (fun σ => Gl.no_pass σ) (pa_cons (pv 1) (pa_cons (pv 3) pa_nil))))
    (pss_one (ps_if (PW.pt (pw_or (pt_not (pt_val (pe_df f__law_is_judged hr (by omega) gd rfl (fun σ => Gl.no_pass σ) (pa_cons (pv 5) pa_nil)))) (pw_or1 (pt_not (pt_val (pe_df f__law_is_judged hr (by omega) gd rfl (fun σ => Gl.no_pass σ) (pa_cons (pe_df f__law_bent hr (by omega) gd rfl (fun σ => Gl.no_pass σ) (pa_cons (pv 1) (pa_cons (pv 5) pa_nil))) pa_nil))))))) (pss_one (ps_ret pe_bl)) pss_nil))))))))
    (pss_one (ps_ret pe_bl))))), ?_⟩
    repeat walk_at "rd1"
    refine ⟨a, ns, rfl, hS, hl, fun p g H1 B1 s1 => ?_⟩
    repeat walk_at "rd1"
    refine ⟨rfl, fun H2 s2 => ?_⟩
    have B2 := B1.same s2
    clear B1 s1 hS
    repeat walk_at "rd1"
    refine ⟨4, rfl, by decide, by decide, for_it (walk_range (n := 4)) (fun i σ' H' => ∃ o2 o3 o4 o5 : Option V, σ' = [some (.ref a), some (.ref p), o2, o3, o4, o5] ∧ BagAt H' p g) ⟨none, none, none, none, rfl, B2⟩ (fun _ _ _ _ _ => True.intro) (fun i y σ' H' H'' hi hp hy => ?_) (fun σ' H' hp => ?_)⟩
    · obtain ⟨o2, o3, o4, o5, rfl, B⟩ := hp
      obtain ⟨rfl, rfl⟩ := hy
      repeat walk_at "rd1"
      refine ⟨p, g, 5, rfl, B, by decide, by decide, fun r H3 r0 r1 B3 _ => ?_⟩
      repeat walk_at "rd1"
      refine ⟨p, g, (1 + r).toNat, by rw [show (((1 + r).toNat : Nat) : Int) = 1 + r by omega], by show (1 + r).toNat ≤ 5; omega, by omega, B3, fun x ds H4 dx gx B4 _ => ?_⟩
      have gz : Gd 110000 16 (.tuple ds) := gx.mono (Nat.le_trans (sS_le (by omega)) (by decide)) (by omega)
      clear gx B B2 B3
      repeat walk_at "rd1"
      refine ⟨_, x, _, rfl, dx, B4.tr, gz.mono (by decide) (by decide), fun H5 s5 => ?_⟩
      have B5 := B4.same s5
      have dx5 := dx.same s5
      clear B4 dx
      repeat walk_at "rd1"
      refine ⟨p, g, rfl, B5, fun x6 d6 H6 dx6 g6 B6 κ6 => ?_⟩
      have dxa := dx5.keep κ6
      repeat walk_at "rd1"
      refine ⟨_, x6, d6, rfl, dx6, B6.tr, g6.mono (by decide) (by decide), fun H7 s7 => ?_⟩
      have B7 := B6.same s7
      have dx7 := dxa.same s7
      clear B5 dx5 B6 dxa dx6 κ6
      repeat walk_at "rd1"
      refine ⟨5, rfl, by decide, by decide, for_it (walk_range (n := 5)) (fun i σ' H' => ∃ o2 o4 o5 : Option V, σ' = [some (.ref a), some (.ref p), o2, some x, o4, o5] ∧ BagAt H' p g ∧ Da (Bg p g) H' x (.tuple ds)) ⟨_, _, _, rfl, B7, dx7⟩ (fun _ _ _ _ _ => True.intro) (fun i2 y σ' H' H'' hi hp hy => ?_) (fun σ' H' hp => ?_)⟩
      · obtain ⟨o2, o4, o5, rfl, B, dx⟩ := hp
        obtain ⟨rfl, rfl⟩ := hy
        clear B7 dx7
        repeat walk_at "rd1"
        refine ⟨p, g, x, _, 16, rfl, B, dx, gz.1, Nat.le_trans gz.2.2 (by decide), gz.2.2, Nat.le_trans gz.2.1 (by decide), fun xb db Hb dxb gb Bb κb => ?_⟩
        have dxa := dx.keep κb
        have gb' : Gd 221100 58 db := gb.mono (by have := gz.2.1; omega) (by decide)
        clear B dx gb
        repeat walk_at "rd1"
        refine ⟨_, xb, db, rfl, dxb, Bb.tr, gb'.mono (by decide) (by decide), fun H8 s8 => ?_⟩
        have B8 := Bb.same s8
        have dxc := dxa.same s8
        have dxd := dxb.same s8
        clear Bb dxa dxb κb
        repeat walk_at "rd1"
        refine ⟨p, g, xb, db, 58, rfl, B8, dxd, gb'.1, Nat.le_trans gb'.2.2 (by decide), gb'.2.2, Nat.le_trans gb'.2.1 (by decide), fun xe de He dxe ge Be κe => ?_⟩
        have dxf := dxc.keep κe
        have ge' : Gd 1000000 180 de := ge.mono (by have := gb'.2.1; omega) (by decide)
        repeat walk_at "rd1"
        refine ⟨_, xe, de, rfl, dxe, Be.tr, ge', fun H9 s9 => ?_⟩
        repeat walk_at "rd1"
        exact ⟨_, _, _, rfl, Be.same s9, dxf.same s9⟩
      · obtain ⟨o2, o4, o5, rfl, B, dx⟩ := hp
        repeat walk_at "rd1"
        exact ⟨_, _, _, _, rfl, B⟩
    · obtain ⟨o2, o3, o4, o5, rfl, B⟩ := hp
      repeat walk_at "rd1"
      exact k _
end
end Law
set_option Elab.async false
set_option linter.all false
set_option maxRecDepth 100000
set_option maxHeartbeats 0
namespace Law
open PySem PySem.Spec PyProof.Rows L2 Gl
abbrev PP : Program := PySem.Challenge.pw_veilpost_k60_whole_recipes_judged
def frees : List Str := ["len", "int", "abs", "all", "sum", "repr", "list", "isinstance", "range", "bool", "str", "tuple"]
def dd (x : Str) (s : Stmt) : He.DefD := ⟨(x, none), x, x, defArgs s, defBody s, defScope s, [], []⟩
def fns : List He.DefD := [dd "is_integer" s_is_integer, dd "is_within" s_is_within, dd "is_tuple_of" s_is_tuple_of, dd "is_sign" s_is_sign, dd "is_text" s_is_text, dd "is_leaf" s_is_leaf, dd "inner_of" s_inner_of, dd "is_recipe" s_is_recipe, dd "_law_bag" s__law_bag, dd "_law_pick" s__law_pick, dd "_law_some" s__law_some, dd "_law_recipe" s__law_recipe, dd "_law_is_number" s__law_is_number, dd "_law_counted" s__law_counted, dd "_law_is_recipe" s__law_is_recipe, dd "_law_deep" s__law_deep, dd "_law_bent" s__law_bent, dd "_law_is_judged" s__law_is_judged, dd "_law_known_right" s__law_known_right, dd "law" s_law]
def fas : List He.Fa := [.glo "is_integer", .glo "is_within", .glo "is_tuple_of", .glo "is_sign", .glo "is_text", .glo "is_leaf", .glo "inner_of", .glo "is_recipe", .glo "_law_bag", .glo "_law_pick", .glo "_law_some", .glo "_law_recipe", .glo "_law_is_number", .glo "_law_counted", .glo "_law_is_recipe", .glo "_law_deep", .glo "_law_bent", .glo "_law_is_judged", .glo "_law_known_right", .glo "law", .int "MOST_TEXT" 40, .int "MOST_NUMBER" 999999999999, .int "MOST_DEEP" 30, .int "MOST_RECIPES" 2000, .int "MOST_PARTS" 20, .str "NAME" "name", .str "NUMBER" "number", .str "ROW" "row", .str "ITEM" "item", .str "UNBOX" "unbox", .str "UNCHEST" "unchest", .str "UNMARK" "unmark", .str "AT" "at", .glo "SIZES"]
def kss : List Str := ["made", "lock", "box", "chest", "mark", "print"]
def tbs : List He.Tab := [((fun K => He.ga K "SIZES"), kss)]
def exK (K : PySem.W.Frag) : Bool := frees.all (fun x => (He.Fa.free x).ok K) && ((K.lookup sysModules).isSome && He.valsB K (He.ga K "SIZES") [("made", .int 2), ("lock", .int 1), ("box", .int 2), ("chest", .int 2), ("mark", .int 2), ("print", .int 1)])
def KK (g : Addr → Option Obj) : PySem.W.Frag := He.frG g (cStatics :: sysModules :: He.asD g 5)
abbrev AlM : Type := He.AlT × Bool
def obK (K : PySem.W.Frag) : AlM := (He.obsT fas fns tbs K, exK K)
def vaK (w : World) : AlM := (He.valT fns tbs w, true)
def hk : PySem.W.Hook where
  α := AlM
  obs := fun s => obK (KK s.heap.get?)
  val := fun w => vaK w
  says := fun w h => ∃ K : PySem.W.Frag, K.In h ∧ obK K = vaK w
  of := fun _ _ e => ⟨_, He.frG_in, e⟩
  keeps := fun _ _ _ ⟨K, hK, c⟩ k => ⟨K, PySem.W.Frag.In.keeps hK k, c⟩

theorem miss {K : PySem.W.Frag} {w : World} {a : Addr} {es : Array DictEntry} {n : Nat} {ks : List Str} {z : Str} (D : KDict K w a es n) (hd : He.dicW K a = some (He.keysIn w.params ks)) (hz : z ∉ ks) : findBy Value.isStrOf es z = none := by
  obtain ⟨hl, _, hsm⟩ := D
  unfold He.dicW at hd
  rw [hl] at hd
  have hd2 : (match decide (("dict" : String) = "dict") && ((#[] : Array (Option Value)).isEmpty && !(a == sysModules)) with
    | true => some (es.toList.map He.keyOf)
    | false => none) = some (He.keysIn w.params ks) := hd
  rw [hsm] at hd2
  have hd3 : es.toList.map He.keyOf = He.keysIn w.params ks := Option.some.inj hd2
  unfold findBy
  rw [show es.find? (fun e => Value.isStrOf z e.key) = none from ?_]
  · rfl
  · rw [← Array.find?_toList, List.find?_eq_none]
    intro e he hq
    have hm : He.keyOf e ∈ He.keysIn w.params ks := by rw [← hd3]; exact List.mem_map_of_mem he
    unfold He.keysIn at hm
    obtain ⟨x, hx, hk⟩ := List.mem_map.mp hm
    obtain ⟨t, ht⟩ := Value.isStrOf_shape (x := z) (v := e.key) hq
    unfold He.keyOf at hk
    rw [ht] at hk
    have : x = z := by
      have h1 := Option.some.inj hk
      exact (Prod.mk.inj h1).1
    exact hz (this ▸ hx)
theorem tx {K : PySem.W.Frag} {h : Heap} {mg : Str → Option Value} {w : World} (X : K.In h) (G : h.Ns mainGlobals mg) (c : obK K = vaK w) : Tx PP w K mg := by
  have c1 : He.SaysT fas fns tbs w K := congrArg (fun z : AlM => z.1) c
  have c2 : exK K = true := congrArg (fun z : AlM => z.2) c
  have c0 := c1.d
  obtain ⟨e1, c2⟩ := Bool.and_eq_true_iff.mp c2
  obtain ⟨e2, e3⟩ := Bool.and_eq_true_iff.mp c2
  have fr : ∀ (i : Nat) {x : Str}, frees[i]? = some x → mg x = none := fun i x hx => He.free_ok X G (List.all_eq_true.mp e1 x (List.mem_of_getElem? hx))
  have int : ∀ {x : Str} {i : Int}, (He.Fa.int x i).ok K = true → ∃ u, mg x = some u ∧ RelV (.int i) u := fun h => by obtain ⟨t, q⟩ := He.int_ok X G h; exact ⟨_, q, t, rfl⟩
  have str : ∀ {x z : Str}, (He.Fa.str x z).ok K = true → ∃ u, mg x = some u ∧ RelV (.str z) u := fun h => by obtain ⟨t, q⟩ := He.str_ok X G h; exact ⟨_, q, t, rfl⟩
  refine ⟨fr 0 rfl, fr 1 rfl, fr 2 rfl, fr 3 rfl, fr 4 rfl, fr 5 rfl, fr 6 rfl, fr 7 rfl, fr 8 rfl, fr 9 rfl, fr 10 rfl, fr 11 rfl, int (c0.fact 20 (f := .int "MOST_TEXT" 40) rfl), int (c0.fact 21 (f := .int "MOST_NUMBER" 999999999999) rfl), str (c0.fact 25 (f := .str "NAME" "name") rfl), str (c0.fact 26 (f := .str "NUMBER" "number") rfl), str (c0.fact 27 (f := .str "ROW" "row") rfl), str (c0.fact 28 (f := .str "ITEM" "item") rfl), str (c0.fact 29 (f := .str "UNBOX" "unbox") rfl), str (c0.fact 30 (f := .str "UNCHEST" "unchest") rfl), str (c0.fact 31 (f := .str "UNMARK" "unmark") rfl), str (c0.fact 32 (f := .str "AT" "at") rfl), int (c0.fact 22 (f := .int "MOST_DEEP" 30) rfl), int (c0.fact 23 (f := .int "MOST_RECIPES" 2000) rfl), int (c0.fact 24 (f := .int "MOST_PARTS" 20) rfl), ⟨_, He.glo_ok X G (c0.fact 33 (f := .glo "SIZES") rfl), rfl⟩, ?_, e2⟩
  obtain ⟨es, n, D⟩ := c1.tab 0 (t := ((fun K => He.ga K "SIZES"), kss)) rfl
  have hd : He.dicW K (He.ga K "SIZES") = some (He.keysIn w.params kss) := by
    have z : tbs.map (fun t => He.dicW K (t.1 K)) = tbs.map fun t => some (He.keysIn w.params t.2) := congrArg (fun z : He.AlT => z.2) c1
    exact (List.cons.inj z).1
  have val : ∀ (q : Str × He.Dv), q ∈ [(("made" : Str), He.Dv.int 2), ("lock", .int 1), ("box", .int 2), ("chest", .int 2), ("mark", .int 2), ("print", .int 1)] → ∃ u, findBy Value.isStrOf es q.1 = some u ∧ RelV (q.2.v K) u := fun q hq => by
    obtain ⟨u, h1, h2⟩ := He.valsB_ok e3 hq
    exact ⟨u, PySem.W.find_K D.1 h1, h2⟩
  refine ⟨es, n, D, fun z => ⟨_, rfl, fun hz => ?_, fun hz => ?_, fun a1 a2 a3 a4 a5 a6 => miss D hd (by simp [kss, a1, a2, a3, a4, a5, a6])⟩⟩
  · rcases hz with rfl | rfl | rfl | rfl
    · exact val ("made", .int 2) (by simp)
    · exact val ("box", .int 2) (by simp)
    · exact val ("chest", .int 2) (by simp)
    · exact val ("mark", .int 2) (by simp)
  · rcases hz with rfl | rfl
    · exact val ("lock", .int 1) (by simp)
    · exact val ("print", .int 1) (by simp)
end Law
set_option Elab.async false
set_option linter.all false
set_option maxRecDepth 100000
set_option maxHeartbeats 0
namespace Law
open PySem PySem.Spec PyProof.Rows L2 Gl
theorem facts {w : World} {K : PySem.W.Frag} {h : Heap} {mg : Str → Option Value} {f : Addr} (X : K.In h) (G : h.Ns mainGlobals mg) (hfa : mg ("law" : Str) = some (.ref f)) (c : obK K = vaK w) :
    ∃ fd : FuncData, (∀ (s : Shared) (v : Value), BindsTo s fd ⟨[v], []⟩ [("script", v)]) ∧ ∀ base : Heap, K.In base → base.Ns mainGlobals mg → Fn PP w K mg base 104 f fd ["script"] (spLaw K) := by
  have c1 : He.SaysT fas fns tbs w K := congrArg (fun z : AlM => z.1) c
  have c0 := c1.d
  have T : Tx PP w K mg := tx X G c
  obtain ⟨fd0, F0⟩ := c0.def_ 0 (d := dd "is_integer" s_is_integer) rfl
  have F0 : FD K "is_integer" s_is_integer (He.ga K "is_integer") fd0 := F0
  have m0 := He.glo_ok X G (c0.fact 0 (f := .glo "is_integer") rfl)
  have b0 := FunD.bindsA (ps := ["thing"]) F0 fun _ _ _ _ _ _ us hl => match us, hl with | [_], _ => rfl
  obtain ⟨fd1, F1⟩ := c0.def_ 1 (d := dd "is_within" s_is_within) rfl
  have F1 : FD K "is_within" s_is_within (He.ga K "is_within") fd1 := F1
  have m1 := He.glo_ok X G (c0.fact 1 (f := .glo "is_within") rfl)
  have b1 := FunD.bindsA (ps := ["thing", "least", "most"]) F1 fun _ _ _ _ _ _ us hl => match us, hl with | [_, _, _], _ => rfl
  obtain ⟨fd2, F2⟩ := c0.def_ 2 (d := dd "is_tuple_of" s_is_tuple_of) rfl
  have F2 : FD K "is_tuple_of" s_is_tuple_of (He.ga K "is_tuple_of") fd2 := F2
  have m2 := He.glo_ok X G (c0.fact 2 (f := .glo "is_tuple_of") rfl)
  have b2 := FunD.bindsA (ps := ["thing", "size"]) F2 fun _ _ _ _ _ _ us hl => match us, hl with | [_, _], _ => rfl
  obtain ⟨fd3, F3⟩ := c0.def_ 3 (d := dd "is_sign" s_is_sign) rfl
  have F3 : FD K "is_sign" s_is_sign (He.ga K "is_sign") fd3 := F3
  have m3 := He.glo_ok X G (c0.fact 3 (f := .glo "is_sign") rfl)
  have b3 := FunD.bindsA (ps := ["sign"]) F3 fun _ _ _ _ _ _ us hl => match us, hl with | [_], _ => rfl
  obtain ⟨fd4, F4⟩ := c0.def_ 4 (d := dd "is_text" s_is_text) rfl
  have F4 : FD K "is_text" s_is_text (He.ga K "is_text") fd4 := F4
  have m4 := He.glo_ok X G (c0.fact 4 (f := .glo "is_text") rfl)
  have b4 := FunD.bindsA (ps := ["thing"]) F4 fun _ _ _ _ _ _ us hl => match us, hl with | [_], _ => rfl
  obtain ⟨fd5, F5⟩ := c0.def_ 5 (d := dd "is_leaf" s_is_leaf) rfl
  have F5 : FD K "is_leaf" s_is_leaf (He.ga K "is_leaf") fd5 := F5
  have m5 := He.glo_ok X G (c0.fact 5 (f := .glo "is_leaf") rfl)
  have b5 := FunD.bindsA (ps := ["thing"]) F5 fun _ _ _ _ _ _ us hl => match us, hl with | [_], _ => rfl
  obtain ⟨fd6, F6⟩ := c0.def_ 6 (d := dd "inner_of" s_inner_of) rfl
  have F6 : FD K "inner_of" s_inner_of (He.ga K "inner_of") fd6 := F6
  have m6 := He.glo_ok X G (c0.fact 6 (f := .glo "inner_of") rfl)
  have b6 := FunD.bindsA (ps := ["thing"]) F6 fun _ _ _ _ _ _ us hl => match us, hl with | [_], _ => rfl
  obtain ⟨fd7, F7⟩ := c0.def_ 7 (d := dd "is_recipe" s_is_recipe) rfl
  have F7 : FD K "is_recipe" s_is_recipe (He.ga K "is_recipe") fd7 := F7
  have m7 := He.glo_ok X G (c0.fact 7 (f := .glo "is_recipe") rfl)
  have b7 := FunD.bindsA (ps := ["thing"]) F7 fun _ _ _ _ _ _ us hl => match us, hl with | [_], _ => rfl
  obtain ⟨fd8, F8⟩ := c0.def_ 8 (d := dd "_law_bag" s__law_bag) rfl
  have F8 : FD K "_law_bag" s__law_bag (He.ga K "_law_bag") fd8 := F8
  have m8 := He.glo_ok X G (c0.fact 8 (f := .glo "_law_bag") rfl)
  have b8 := FunD.bindsA (ps := ["script"]) F8 fun _ _ _ _ _ _ us hl => match us, hl with | [_], _ => rfl
  obtain ⟨fd9, F9⟩ := c0.def_ 9 (d := dd "_law_pick" s__law_pick) rfl
  have F9 : FD K "_law_pick" s__law_pick (He.ga K "_law_pick") fd9 := F9
  have m9 := He.glo_ok X G (c0.fact 9 (f := .glo "_law_pick") rfl)
  have b9 := FunD.bindsA (ps := ["bag", "many"]) F9 fun _ _ _ _ _ _ us hl => match us, hl with | [_, _], _ => rfl
  obtain ⟨fd10, F10⟩ := c0.def_ 10 (d := dd "_law_some" s__law_some) rfl
  have F10 : FD K "_law_some" s__law_some (He.ga K "_law_some") fd10 := F10
  have m10 := He.glo_ok X G (c0.fact 10 (f := .glo "_law_some") rfl)
  have b10 := FunD.bindsA (ps := ["bag", "things"]) F10 fun _ _ _ _ _ _ us hl => match us, hl with | [_, _], _ => rfl
  obtain ⟨fd11, F11⟩ := c0.def_ 11 (d := dd "_law_recipe" s__law_recipe) rfl
  have F11 : FD K "_law_recipe" s__law_recipe (He.ga K "_law_recipe") fd11 := F11
  have m11 := He.glo_ok X G (c0.fact 11 (f := .glo "_law_recipe") rfl)
  have b11 := FunD.bindsA (ps := ["bag", "many", "deep"]) F11 fun _ _ _ _ _ _ us hl => match us, hl with | [_, _, _], _ => rfl
  obtain ⟨fd12, F12⟩ := c0.def_ 12 (d := dd "_law_is_number" s__law_is_number) rfl
  have F12 : FD K "_law_is_number" s__law_is_number (He.ga K "_law_is_number") fd12 := F12
  have m12 := He.glo_ok X G (c0.fact 12 (f := .glo "_law_is_number") rfl)
  have b12 := FunD.bindsA (ps := ["thing"]) F12 fun _ _ _ _ _ _ us hl => match us, hl with | [_], _ => rfl
  obtain ⟨fd13, F13⟩ := c0.def_ 13 (d := dd "_law_counted" s__law_counted) rfl
  have F13 : FD K "_law_counted" s__law_counted (He.ga K "_law_counted") fd13 := F13
  have m13 := He.glo_ok X G (c0.fact 13 (f := .glo "_law_counted") rfl)
  have b13 := FunD.bindsA (ps := ["thing", "deep"]) F13 fun _ _ _ _ _ _ us hl => match us, hl with | [_, _], _ => rfl
  obtain ⟨fd14, F14⟩ := c0.def_ 14 (d := dd "_law_is_recipe" s__law_is_recipe) rfl
  have F14 : FD K "_law_is_recipe" s__law_is_recipe (He.ga K "_law_is_recipe") fd14 := F14
  have m14 := He.glo_ok X G (c0.fact 14 (f := .glo "_law_is_recipe") rfl)
  have b14 := FunD.bindsA (ps := ["thing"]) F14 fun _ _ _ _ _ _ us hl => match us, hl with | [_], _ => rfl
  obtain ⟨fd15, F15⟩ := c0.def_ 15 (d := dd "_law_deep" s__law_deep) rfl
  have F15 : FD K "_law_deep" s__law_deep (He.ga K "_law_deep") fd15 := F15
  have m15 := He.glo_ok X G (c0.fact 15 (f := .glo "_law_deep") rfl)
  have b15 := FunD.bindsA (ps := ["bag"]) F15 fun _ _ _ _ _ _ us hl => match us, hl with | [_], _ => rfl
  obtain ⟨fd16, F16⟩ := c0.def_ 16 (d := dd "_law_bent" s__law_bent) rfl
  have F16 : FD K "_law_bent" s__law_bent (He.ga K "_law_bent") fd16 := F16
  have m16 := He.glo_ok X G (c0.fact 16 (f := .glo "_law_bent") rfl)
  have b16 := FunD.bindsA (ps := ["bag", "thing"]) F16 fun _ _ _ _ _ _ us hl => match us, hl with | [_, _], _ => rfl
  obtain ⟨fd17, F17⟩ := c0.def_ 17 (d := dd "_law_is_judged" s__law_is_judged) rfl
  have F17 : FD K "_law_is_judged" s__law_is_judged (He.ga K "_law_is_judged") fd17 := F17
  have m17 := He.glo_ok X G (c0.fact 17 (f := .glo "_law_is_judged") rfl)
  have b17 := FunD.bindsA (ps := ["thing"]) F17 fun _ _ _ _ _ _ us hl => match us, hl with | [_], _ => rfl
  obtain ⟨fd18, F18⟩ := c0.def_ 18 (d := dd "_law_known_right" s__law_known_right) rfl
  have F18 : FD K "_law_known_right" s__law_known_right (He.ga K "_law_known_right") fd18 := F18
  have m18 := He.glo_ok X G (c0.fact 18 (f := .glo "_law_known_right") rfl)
  have b18 := FunD.bindsA (ps := []) F18 fun _ _ _ _ _ _ us hl => match us, hl with | [], _ => rfl
  obtain ⟨fd19, F19⟩ := c0.def_ 19 (d := dd "law" s_law) rfl
  have F19 : FD K "law" s_law (He.ga K "law") fd19 := F19
  have m19 := He.glo_ok X G (c0.fact 19 (f := .glo "law") rfl)
  have b19 := FunD.bindsA (ps := ["script"]) F19 fun _ _ _ _ _ _ us hl => match us, hl with | [_], _ => rfl
  have e := hfa.symm.trans m19
  cases e
  refine ⟨fd19, fun s v => b19 s [v] rfl, fun base _ _ => ?_⟩
  have f_is_integer := df_of F0 m0 (ok_is_integer (w := w) (base := base) T F0) b0
  have f_is_within := df_of F1 m1 (ok_is_within T f_is_integer F1) b1
  have f_is_tuple_of := df_of F2 m2 (ok_is_tuple_of (w := w) (base := base) T F2) b2
  have f_is_sign := df_of F3 m3 (ok_is_sign (w := w) (base := base) T F3) b3
  have f_is_text := df_of F4 m4 (ok_is_text T f_is_sign F4) b4
  have f_is_leaf := df_of F5 m5 (ok_is_leaf T f_is_tuple_of f_is_within f_is_text F5) b5
  have f_inner_of := df_of F6 m6 (ok_inner_of T f_is_leaf f_is_within F6) b6
  have f_is_recipe := df_of F7 m7 (ok_is_recipe T f_inner_of F7) b7
  have f__law_is_number := df_of F12 m12 (ok_is_number (w := w) (base := base) T F12) b12
  have f__law_counted := counted_all T f__law_is_number F13 m13 b13 31
  have f__law_is_recipe := df_of F14 m14 (ok_law_is_recipe T f__law_counted F14) b14
  have f__law_is_judged := df_of F17 m17 (ok_judged T f_is_recipe f__law_is_recipe F17) b17
  have f__law_bag := df_of F8 m8 (ok_bag (w := w) (base := base) T F8) b8
  have f__law_pick := df_of F9 m9 (ok_pick (w := w) (base := base) T F9) b9
  have f__law_some := df_of F10 m10 (ok_some T f__law_pick F10) b10
  have f__law_recipe := recipe_all T f__law_pick f__law_some F11 m11 b11 6
  have f__law_deep := df_of F15 m15 (ok_deep T f__law_pick f__law_some F15) b15
  have f__law_bent := bent_all T f__law_pick f__law_some f__law_deep F16 m16 b16 100
  have f__law_known_right := df_of F18 m18 (ok_known T f_is_recipe f__law_is_judged F18) b18
  exact ok_law T f__law_bag f__law_pick f__law_recipe f__law_deep f__law_bent f__law_is_judged f__law_known_right F19
end Law
open PySem PySem.W PySem.Calls PyProof.Rows
theorem PySem.Challenge.cw_veilpost_k60_whole_recipes_judged_holds : PySem.Challenge.rw_veilpost_k60_whole_recipes_judged.Holds := by
  w_on; o_law; o_head Law.hk; (case hw => w_witness2)
  refine Gl.law_end (l := PySem.Challenge.rw_veilpost_k60_whole_recipes_judged) (n := 63) (k := 104) (x := "script") rfl (by decide) (by kernel_rfl) ⟨rfl, by decide, by decide⟩ ?F
  intro w mg fa h Y G hmg
  obtain ⟨K, KX, c⟩ := Y
  obtain ⟨fd, hb, hF⟩ := Law.facts (w := w) KX G hmg c
  exact ⟨K, fd, Law.spLaw K, KX, hb, fun H a ns hl _ hS => ⟨a, ns, rfl, Nat.le_trans hl (by decide), hS, fun _ => rfl⟩, hF⟩
