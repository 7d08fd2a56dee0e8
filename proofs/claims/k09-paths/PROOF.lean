import PyProof.Rows.All
import Wide.All
import OpenK.AllK
import Wide.FinOn
import HandS.Words
import HandS.WordsList
import HandS.WordsDict
import HandS.WordsExc
import HandS.Comp
import HandS.Codes
import HandS.Wide
import HandS.Iter
import HandS.TupAny
import HandS.IsInst
import HandS.Defaults
import HandS.HeadEnd
import KE.KExcSuper
import KE.KExcIs
import HandS.ExcInit
import HandS.ExcField
import HandS.ExcIs
import HandS.ExcValue
import HandS.HeadHook4
import HandS.DictComp
import HandS.Style
import PyProof.ReprRoads
import PyProof.CallFns
import HandS.Text
import HandS.TupMul
import HandS.Walk
import PyProof.StrOps2
import HandS.Small
import HandS.Deep
import HandS.Zip
import HandS.Rev
import HandS.RevTup
import HandS.OwnEq
import HandS.Steps
import HandS.Strs
import HandS.SetKeys
import HandS.TupLe
import HandS.Conv
import HandS.Exc
import Lean
import HandS.Head0
import HandS.Head1
import HandS.Head2
import HandS.HeadHook1
import HandS.HeadHook2
import HandS.HeadHook3
import KE.GoesEnum
import HandS.SortInts
import PySem.Challenge.RW_veilpost_k09_whole_paths_and_resolutions
set_option Elab.async false
set_option maxRecDepth 100000
set_option maxHeartbeats 4000000
set_option linter.unusedVariables false
/-! Gl: promises of defs where it is known that no repr is under way around them. -/
namespace Gl
open PySem PySem.Spec PyProof.Rows L2

structure Fn (P : Program) (w : World) (K : PySem.W.Frag) (mg : Str → Option Value) (base : Heap) (k : Nat) (f : Addr) (fd : FuncData) (ps : List Str) (sp : Sp) : Prop where
  many : ∀ vs H Q E, sp vs H Q E → vs.length = ps.length
  go : ∀ (A : Around) (outer : List Env) (s : Shared) (H : Hp) (args : Args) (us : List Value) (vs : List V) (Q : VK) (E : XK),
    Room k A → A.guards = some [] → Env0 P w K mg base A outer s H → BindsTo s fd args (ps.zip us) → Vals vs us →
    sp vs H Q E → codeAny (model P w) A (.call (.ref f) args) (CR (L2.CX P w) outer P w H s Q E) s

section
variable {P : Program} {w : World} {K : PySem.W.Frag} {mg : Str → Option Value} {base : Heap}
theorem Fn.up {j k : Nat} {f : Addr} {fd : FuncData} {ps : List Str} {sp : Sp} (F : Fn P w K mg base j f fd ps sp) (h : j ≤ k) : Fn P w K mg base k f fd ps sp :=
  ⟨F.many, fun A outer s H args us vs Q E r g => F.go A outer s H args us vs Q E (r.mono h) g⟩

/-- a def by its body: what stands at f, and the reading of the body -/
theorem fn_body {x qual : Str} {pa : Arguments} {bd : List Stmt} {sc : Scope} {dvs : List V} {kws : List (Str × V)} {f : Addr} {fd : FuncData} {N ps : List Str} {k : Nat} {sp : Sp}
    (F : FunD K x qual pa bd sc dvs kws f fd) (S : FnScope N ps sc) (many : ∀ vs H Q E, sp vs H Q E → vs.length = ps.length)
    (body : ∀ (cv : Value) (A : Around) (outer : List Env) (s : Shared) (H : Hp) (vs : List V) (Q : VK) (E : XK),
      Room k (A.deeper (envOfC qual sc s.heap.objs.size f cv)) → A.guards = some [] → sp vs H Q E →
      ∃ t, PSs (cxOf (L2.CX P w) P w K mg base N qual sc f cv A outer s H E) bd t ∧ t ⟨fun _ H' => Q .non H', Q, fun _ _ => False, fun _ _ => False⟩ (L2.start N vs) H) :
    Fn P w K mg base (k + 1) f fd ps sp := by
  obtain ⟨oc, od, dV, kV, doc, pm, an, cv, ct, osl, rfl, at_f, code, _, _⟩ := F.ex
  refine ⟨many, fun A outer s H args us vs Q E room gd e0 binds rel pre => ?_⟩
  have KX : K.In s.heap := e0.mod.kin.keeps fun b o e => (e0.bs b o e).1
  have noLim : s.heap.NoLimit := e0.mod.nolimit.keeps fun b o e => (e0.bs b o e).1
  have par : ∀ y ∈ ps.zip us, sc.names.lookup y.1 = some .local ∨ (sc.names.lookup y.1 = some .cell ∧ ((cellsFrom (s.heap.objs.size + 1) sc.names []).lookup y.1).isSome = true) := by
    rintro ⟨n, v⟩ hy
    rcases S.par n (List.of_mem_zip hy).1 with q | q
    · exact Or.inl q
    · exact Or.inr ⟨q, PySem.W.cellsFrom_some _ _ _ (Or.inl q)⟩
  refine codeAny_call_function room.depth (KX _ _ at_f) rfl S.co S.gen rfl (PySem.W.codeRec_of KX code) (binds _ _ _ _ ?_)
  refine wpAny_newFunctionEnv_cells S.kind par fun env he s1 inCall => ?_
  subst he
  obtain ⟨t, der, rd⟩ := body cv A outer s H vs Q E (room.deeper _) gd pre
  have I := inv_start (CX := L2.CX P w) (qual := qual) (f := f) (cd := cv) (A := A) (E := E) S room.hd e0 (many _ _ _ _ pre) rel inCall
  refine ⟨noLim.keeps inCall.toInCall.keep, codeAny_func (wpAny_mono (der.run [] s1 (L2.start N vs) H _ I rd) (fun fl s' hs => ?_) fun e s' hs => hs)⟩
  cases fl with
  | ret u =>
    obtain ⟨v, σ', H', J, rv, q⟩ := hs
    exact ⟨v, H', J.os, J.bare, J.base, J.hok, rv, q⟩
  | next =>
    obtain ⟨σ', H', J, q⟩ := hs
    exact ⟨V.non, H', J.os, J.bare, J.base, J.hok, rfl, q⟩
  | brk => obtain ⟨_, _, _, q⟩ := hs; exact q.elim
  | cont => obtain ⟨_, _, _, q⟩ := hs; exact q.elim

/-- a def of the module that may be called by its name -/
structure Df (P : Program) (w : World) (K : PySem.W.Frag) (mg : Str → Option Value) (base : Heap) (k : Nat) (x : Str) (sp : Sp) : Prop where
  ex : ∃ (f : Addr) (fd : FuncData) (ps : List Str), Fn P w K mg base k f fd ps sp ∧ mg x = some (.ref f) ∧ PySem.W.keepIn K (.ref f) = true ∧ Binds K fd ps []
theorem Df.up {j k : Nat} {x : Str} {sp : Sp} (F : Df P w K mg base j x sp) (h : j ≤ k) : Df P w K mg base k x sp := by
  obtain ⟨f, fd, ps, a, b⟩ := F.ex
  exact ⟨f, fd, ps, a.up h, b⟩
end

/-! what of an exception is wished where: in a def's own body; in a try's body -/
theorem own_pass {X : Cx} {E : XK} (tk : Takes X (fun cls d _ H => E cls d H)) (σ : L2.St) : PassesAt (L2.CX X.prog X.w) X σ E := fun pins H s e s' I c =>
  tk e s' (XE.of_call I (fun _ _ _ h => h) c)
theorem no_pass {X : Cx} (σ : L2.St) : PassesAt (L2.CX X.prog X.w) X σ E0 := fun pins H s e s' I c => passL pins σ H s e s' I c

/-- f(..): E what is wished of an exception, by the slots -/
def tDf (sp : Sp) (E : L2.St → XK) (t : TA) : TE := fun σ H Q => t σ H fun vs H1 => sp vs H1 Q (E σ)
section
variable {X : Cx} {k j : Nat} {f C : Addr} {fd : FuncData} {ps : List Str} {sp : Sp} {E : L2.St → XK} {x m : Str} {p pos apos : Pos} {e o : Expr} {es : List Expr} {ta : TE} {t : TA}
theorem run_df {pins : List (Addr × Obj)} {σ : L2.St} {H : Hp} {s : Shared} {Q : VK} {us : List Value} {vs : List V} {E' : XK} (F : Fn X.prog X.w X.K X.mg X.base k f fd ps sp) (hr : Room k X.A) (hG : X.A.guards = some []) (hb : Binds X.K fd ps [])
    (hx : PassesAt (L2.CX X.prog X.w) X σ E') (I : Inv X pins σ H s) (r : Vals vs us) (h : sp vs H Q E') : wpAny (model X.prog X.w) X.A (call (.ref f) us) (EP X pins σ Q) X.xe s := by
  have len : (us ++ []).length = ps.length := by rw [List.append_nil, ← r.length]; exact F.many _ _ _ _ h
  have b := hb s us I.kIn len
  rw [List.append_nil] at b
  refine wpAny_call (codeAny_mono (F.go X.A X.stack s H ⟨us, []⟩ us vs Q E' hr hG I.env0 b r h) fun res s' hq => ?_)
  match res, hq with
  | .error err, hq => exact hx pins H s err s' I hq
  | .ok (.ret u), hq => exact I.after hq
theorem pe_df (F : Df X.prog X.w X.K X.mg X.base k x sp) (hr : Room j X.A) (hk : k ≤ j) (hG : X.A.guards = some []) (hg : Gl X x) (hx : ∀ σ, PassesAt (L2.CX X.prog X.w) X σ (E σ)) (ha : PA X (e :: es) t)
    (hd : (x == ("__debug__" : Str)) = false := by decide) (he : starEach (e :: es) X.env = (false, eval e X.env) :: starEach es X.env := by rfl) (hp : (backTo pos (starEach es X.env)).any (·.1) = false := by rfl) : PE X (.Call (.Name x p) (e :: es) [] pos) (tDf sp E t) := by
  obtain ⟨f, fd, ps, F, hm, kp, hb⟩ := F.ex
  refine ⟨fun pins s σ H Q I h => wpAny_Call_Name_kw (ld_glob I hg hm ?_ hd)⟩
  exact PySem.W.callWith_K (h₀ := X.base) I.ok.mod.kin kp (thn (ha.run pos pins s σ H _ I h) fun us s1 ⟨vs, H1, I1, r, q⟩ => ⟨I1.kIn, run_df F (hr.mono hk) hG hb (hx σ) I1 r q⟩) he hp
theorem pe_df0 (F : Df X.prog X.w X.K X.mg X.base k x sp) (hr : Room j X.A) (hk : k ≤ j) (hG : X.A.guards = some []) (hg : Gl X x) (hx : ∀ σ, PassesAt (L2.CX X.prog X.w) X σ (E σ))
    (hd : (x == ("__debug__" : Str)) = false := by decide) : PE X (.Call (.Name x p) [] [] pos) (tDf sp E tNil) := by
  obtain ⟨f, fd, ps, F, hm, kp, hb⟩ := F.ex
  refine ⟨fun pins s σ H Q I h => wpAny_Call_Name_kw (ld_glob I hg hm ?_ hd)⟩
  exact PySem.W.callWith_K0 I.kIn kp (run_df (us := []) F (hr.mono hk) hG hb (hx σ) I .nil h)
end

/-- the law's own call at its heap h: H tells of the script alone -/
theorem call_at {P : Program} {w : World} {K : PySem.W.Frag} {mg mb : Str → Option Value} {k : Nat} {f a : Addr} {fd : FuncData} {x : Str} {sp : Sp} {s : Shared} {us : List Value} {H : Hp}
    (KX : K.In s.heap) (glob : s.heap.Ns mainGlobals mg) (bl : s.heap.Ns builtinsNs mb) (boot : ∀ y : Str, y ≠ "__name__" → mb y = bootBuiltins y) (lim : s.heap.NoLimit) (gens : s.gens = #[])
    (at_a : s.heap.get? a = some { cls := .type "list", data := .seq us.toArray }) (room : Room k callerA) (go : ∀ base : Heap, K.In base → base.Ns mainGlobals mg → Fn P w K mg base k f fd [x] sp)
    (bind : ∀ (s : Shared) (u : Value), BindsTo s fd ⟨[u], []⟩ [(x, u)]) (pre : sp [.ref a] H (fun v _ => v = .bl true) fun _ _ _ => False)
    (only : ∀ b, H b = none ∨ (b = a ∧ K.lookup a = none ∧ ∃ o xs, H b = some (.frz o (.lst xs)))) (ok : HOk P w H s.heap) :
    codeAny (model P w) callerA (.call (.ref f) ⟨[.ref a], []⟩) (fun r t => r = .ok (.ret (.bool true)) ∧ OldK s.heap t.heap ∧ t.os = s.os ∧ AllBare t.gens) s := by
  have free : ∀ {b : Addr}, b ≠ a → H b = none := fun {b} nb => (only b).elim id fun q => absurd q.1 nb
  have stay : ∀ {b : Addr} {o : Obj}, s.heap.get? b = some o → b ≠ a → (hidT s.heap H).get? b = some o := fun e nb => hidT_get e (free nb)
  have noDict : ∀ {b : Addr} {m : Str → Option Value}, s.heap.Ns b m → b ≠ a := by
    rintro b m ⟨o, es, ep, e, d, _⟩ rfl
    rw [at_a] at e
    cases e
    cases d
  have nsIn : ∀ {b : Addr} {m : Str → Option Value}, s.heap.Ns b m → (hidT s.heap H).Ns b m := fun {b m} q => by
    have nb := noDict q
    obtain ⟨o, es, ep, e, r⟩ := q
    exact ⟨o, es, ep, stay e nb, r⟩
  have kin : K.In (hidT s.heap H) := fun b o e => by
    refine hidT_get (KX b o e) ?_
    rcases only b with q | ⟨q, l, _⟩
    · exact q
    · rw [q, l] at e
      cases e
  obtain ⟨mc, l1, l2⟩ := lim
  have e0 : Env0 P w K mg (hidT s.heap H) callerA [] s H :=
    { frames := rfl, mod := ⟨kin, nsIn glob, ⟨mb, nsIn bl, boot⟩, ⟨mc, nsIn l1, l2⟩⟩, bs := fun b o e => of_hidT e, bsz := Nat.le_of_eq (hidT_size _ _), funs := trivial, frf := fun b z => (by cases z), hok := ok, bare := AllBare.of_eq gens }
  refine codeAny_mono ((go _ kin (nsIn glob)).go callerA [] s H ⟨[.ref a], []⟩ [.ref a] [.ref a] _ _ room rfl e0 (bind s (.ref a)) (.cons rfl .nil) pre) fun r t done => ?_
  match r, done with
  | .error e, done =>
    obtain ⟨_, _, _, _, _, _, _, _, _, _, _, _, z⟩ := done
    exact z.elim
  | .ok (.ret u), done =>
    obtain ⟨v, H', os, bare, un, ok', rv, q⟩ := done
    have qv : v = .bl true := q
    subst qv
    obtain rfl : u = Value.bool true := rv
    refine ⟨rfl, OldK.of_keep fun b o e => ?_, os, bare⟩
    rcases only b with q | ⟨_, _, ob, xs, q⟩
    · exact un.keep b o e q (fun z => nomatch z) (fun z => nomatch z)
    · have h1 := (ok b _ q).1
      have h2 := (ok' b _ (un.frzs b ob _ q)).1
      rw [e] at h1
      cases h1
      exact h2

/-- the law itself: how it is called at the end -/
theorem law_end {l : PySem.W.OpenLaw} {n k : Nat} {q : Program} {loose : List Str} {XP : (Str → Option Value) → Heap → Prop} {YP : World → Heap → Prop} {d : DefRec} {x : Str}
    (hn : l.most = some n) (hn2 : n ≤ sizeLine) (hdf : d.params.defaults = []) (hr : Room k callerA)
    (F : ∀ (w : World) (mg : Str → Option Value) (fa : Addr) (h : Heap), YP w h → h.Ns mainGlobals mg → mg d.name = some (.ref fa) →
      ∃ (K : PySem.W.Frag) (fd : FuncData) (sp : Sp), K.In h ∧ (∀ (s : Shared) (u : Value), BindsTo s fd ⟨[u], []⟩ [(x, u)]) ∧
        (∀ (H : Hp) (a : Addr) (ns : List Int), ns.length ≤ n → Only H → SqL K H a (ns.map V.int) → sp [.ref a] H (fun v _ => v = .bl true) fun _ _ _ => False) ∧
        ∀ base : Heap, K.In base → base.Ns mainGlobals mg → Fn l.prog w K mg base k fa fd [x] sp) :
    PySem.W.WalkO q loose XP YP l.row.toRowW d [] (fun f vs => PySem.call f vs) := by
  refine Att.attach_call hn hdf fun w s₀ s mg mb f o pm cd doc a us ns G Y _ _ _ hmg at_a nums short gens => ?_
  obtain ⟨K, fd, sp, KX, bind, pre, go⟩ := F w mg f _ Y G.T.g hmg
  have rv := vals_ints nums
  have size : us.length ≤ sizeLine := by rw [nums.length]; exact Nat.le_trans short hn2
  cases look : K.lookup a with
  | some ob =>
    have e := KX a ob look
    rw [at_a] at e
    cases e
    exact call_at (H := fun _ => none) (x := x) KX G.T.g G.T.b G.T.builtins G.T.nolimit gens at_a hr go bind
      (pre _ a ns short (fun _ => Or.inl rfl) (Or.inr ⟨_, us.toArray, _, look, rfl, rfl, rfl, by rw [List.size_toArray]; exact size, by simpa using rv⟩)) (fun _ => Or.inl rfl) (fun b u z => nomatch z)
  | none =>
    have one : ∀ b, (if b = a then some (HO.frz { cls := .type "list", data := .seq us.toArray } (.lst (ns.map V.int))) else none) = none ∨
        (b = a ∧ K.lookup a = none ∧ ∃ ob xs, (if b = a then some (HO.frz { cls := .type "list", data := .seq us.toArray } (.lst (ns.map V.int))) else none) = some (.frz ob (.lst xs))) := fun b => by
      by_cases hb : b = a
      · exact Or.inr ⟨hb, look, _, _, if_pos hb⟩
      · exact Or.inl (if_neg hb)
    refine call_at (x := x) (H := fun b => if b = a then some (HO.frz { cls := .type "list", data := .seq us.toArray } (.lst (ns.map V.int))) else none) KX G.T.g G.T.b G.T.builtins G.T.nolimit gens at_a hr go bind
      (pre _ a ns short (fun b => (one b).elim Or.inl fun z => Or.inr z.2.2) (Or.inl (Or.inr ⟨_, if_pos rfl⟩))) one (fun b u z => ?_)
    rcases one b with q | ⟨rfl, _, _⟩
    · exact absurd (q.symm.trans z) (by simp)
    · have z2 := (if_pos rfl).symm.trans z
      cases z2
      exact ⟨at_a, by rw [rv.length]; exact size, us, _, rv, at_a⟩
end Gl
set_option Elab.async false
set_option linter.all false
set_option maxRecDepth 100000
set_option maxHeartbeats 4000000
/-! Ex: own errors whose making hands the part on to the base's making and keeps it as a field. -/
namespace Ex
open PySem PySem.W PySem.Calls PyProof.Rows PySem.HandSPX
def iA (fld : Str) (p1 p2 : Pos) : Arguments := { posonlyargs := [], args := [{ arg := "self", annotation := none, pos := p1 }, { arg := fld, annotation := none, pos := p2 }], vararg := none, kwonlyargs := [], kw_defaults := [], kwarg := none, defaults := [] }
def iB (fld : Str) (p0 p1 p2 p3 p4 p5 p6 p7 p8 p9 : Pos) : List Stmt :=
  [.Expr (.Call (.Attribute (.Call (.Name "super" p0) [] [] p1) "__init__" p2) [.Name fld p3] [] p4) p5, .Assign [.Attribute (.Name "self" p6) fld p7] (.Name fld p8) p9]
def iS (fld : Str) : Scope := { kind := .function, names := [(PySem.Str.ofString "self", .local), (fld, .local), (PySem.Str.ofString "__class__", .free), (PySem.Str.ofString "super", .globalImplicit)], isGenerator := false, isCoroutine := false, more := [] }
structure BadC (P : Program) (K : Frag) (C : Addr) (fld : Str) : Prop where
  cls : ∃ nm q N bs bm sn sub ab col dd k0 k1 k2 k3 k5, K.lookup C = some (excClassObj nm q C N bs bm true sn sub ab col dd k0 k1 k2 k3 k5 "ValueError.__new__") ∧ refsVE bm = true
  sa : findIn K (.ref C) "__setattr__" = some (some (.builtin "object.__setattr__"))
  noN : findIn K (.ref C) fld = some none
  kC : keepIn K (.ref C) = true
  exC : subIn K (.ref C) (.type "BaseException") = some true
  tyC : typeIn K (.ref C) = some (.type "type")
  subV : subIn K (.ref C) (.type "ValueError") = some true
  mro : mroIn K C (.ref C) = some true
  sup : ks_superIn K C C "__init__" = some (some (.builtin "ValueError.__init__"))
  opq : nsIn K cStatics "thirdparty.any" = some none
  top : (P.main.scope.names.lookup ("super" : Str)).isSome = false
  fne : (fld == ("self" : Str)) = false
  fnc : (fld == ("__class__" : Str)) = false
  fns : (fld == ("super" : Str)) = false
  fnd : (fld == ("__debug__" : Str)) = false
  init : ∃ (fI cc cda : Addr) (oc kV doc pm ct ccl cl : Value) (od an cdd cld : Option Addr) (osl ccs csl : Array (Option Value)) (p1 p2 q0 q1 q2 q3 q4 q5 q6 q7 q8 q9 : Pos) (q : Str) (vs : Array Value) (file : Str) (tf : Tok),
    findIn K (.ref C) "__init__" = some (some (.ref fI)) ∧ typeIn K (.ref fI) = some (.type "function") ∧
    K.lookup fI = some ⟨oc, od, .func (ksFn "__init__" q (iA fld p1 p2) (iB fld q0 q1 q2 q3 q4 q5 q6 q7 q8 q9) (iS fld) .none kV doc pm an (.ref cda) ct cc), osl⟩ ∧ codeIn K (.ref cda) q = true ∧
    K.lookup cc = some ⟨cl, cld, .cell (some (.ref C)), csl⟩ ∧ K.lookup cda = some ⟨ccl, cdd, .fields vs, ccs⟩ ∧ vs[2]? = some (.str file tf) ∧ ((P.main.file : Str) == file) = true ∧
    (∀ env : Env, ∃ pl : Sem Bool, eval (.Call (.Attribute (.Call (.Name "super" q0) [] [] q1) "__init__" q2) [.Name fld q3] [] q4) env = (do
      let ov ← attributeBase (.Call (.Name "super" q0) [] [] q1) "__init__" env (eval (.Call (.Name "super" q0) [] [] q1) env)
      standAt q2.atName
      let (f, first) ← holding [ov] (getMethod ov "__init__" pl)
      callWith q4 f first (backTo q4 (starEach [.Name fld q3] env)) [])) ∧
    ∀ (s : Shared) (x v : Value), BindsTo s (ksFn "__init__" q (iA fld p1 p2) (iB fld q0 q1 q2 q3 q4 q5 q6 q7 q8 q9) (iS fld) .none kV doc pm an (.ref cda) ct cc) ⟨[x, v], []⟩ [("self", x), (fld, v)]
theorem lk_self {fld : Str} {x v : Value} (h : (fld == ("self" : Str)) = false) : ([("self", x), (fld, v)] : List (Str × Value)).reverse.lookup ("self" : Str) = some x := by
  have h2 : (("self" : Str) == fld) = false := by rw [beq_eq_false_iff_ne] at h ⊢; exact fun z => h z.symm
  show List.lookup ("self" : Str) [(fld, v), ("self", x)] = some x
  simp [List.lookup, h2]
theorem lk_fld {fld : Str} {x v : Value} : ([("self", x), (fld, v)] : List (Str × Value)).reverse.lookup fld = some v := by
  show List.lookup fld [(fld, v), ("self", x)] = some v
  simp [List.lookup]
theorem sc_self {fld : Str} : (iS fld).names.lookup ("self" : Str) = some .local := by simp [iS, List.lookup]
theorem sc_fld {fld : Str} : (iS fld).names.lookup fld = some .local := by
  by_cases h : fld = ("self" : Str)
  · subst h; exact sc_self
  · have h2 : (fld == ("self" : Str)) = false := beq_eq_false_iff_ne.mpr h
    have h3 : (fld == PySem.Str.ofString "self") = false := h2
    simp [iS, List.lookup, h3]
theorem sc_cls {fld : Str} (h : (fld == ("__class__" : Str)) = false) : (iS fld).names.lookup ("__class__" : Str) = some .free := by
  have h2 : (("__class__" : Str) == fld) = false := by rw [beq_eq_false_iff_ne] at h ⊢; exact fun z => h z.symm
  have h3 : (("__class__" : Str) == PySem.Str.ofString "self") = false := by decide
  simp [iS, List.lookup, h2, h3]
theorem sc_sup {fld : Str} (h : (fld == ("super" : Str)) = false) : (iS fld).names.lookup ("super" : Str) = some .globalImplicit := by
  have h2 : (("super" : Str) == fld) = false := by rw [beq_eq_false_iff_ne] at h ⊢; exact fun z => h z.symm
  have h3 : (("super" : Str) == PySem.Str.ofString "self") = false := by decide
  have h4 : (("super" : Str) == PySem.Str.ofString "__class__") = false := by decide
  simp [iS, List.lookup, h2, h3, h4]
/-- what the making leaves of a fresh exception at x -/
structure InitEnd (h h' : Heap) (x C dx t1 : Addr) (fld : Str) (v : Value) : Prop where
  keep : ∀ b o, b ≠ x → h.get? b = some o → h'.get? b = some o
  obj : h'.get? x = some { cls := .ref C, dict := some dx, data := .fields #[.ref t1, .none, .none, .none, .bool false, .none] }
  dbig : h.objs.size ≤ dx
  dne : dx ≠ x
  ns : h'.Ns1 dx (fun y => if y = fld then some v else none)
section
variable {prog : Program} {w : World} {A : Around} {E : Value → Shared → Prop} {R : Result → Shared → Prop} {s : Shared} {K : Frag} {mg mb : Str → Option Value} {C fI cc cda : Addr} {fld : Str}
theorem one_size (v : Value) : [v].length ≤ sizeLine := by
  rw [sizeLine_eq]
  exact (by decide : 1 ≤ 16777216)
theorem ld1 {M : Model} {s : Shared} {env : Env} {m : Str → Option Value} {x : Str} {pos : Pos} {v : Value} {Q : Value → Shared → Prop} {A : Around} {E : Value → Shared → Prop} (hk : env.scope.kind = .function) (hl : env.kindOf x = some .local) (hn : s.heap.Ns env.locals m) (hv : m x = some v) (hd : (x == ("__debug__" : Str)) = false) (h : Q v s) :
    wpAny M A (eval (.Name x pos) env) Q E s := wpAny_Name (wpAny_loadName_local hk hl hn hv h) hd
/-- the base's making, bound, called -/
theorem call_mw {u e t0 : Addr} {rest : List Value} {Q : Value → Shared → Prop} {h : Heap} {g : Array GenState} {d : Drawn} {t : Nat} {os : OsState} {nm q : Str} {N : Addr} {bs bm : List Value} {hdct : Bool} {sn : List Str} {sub : List Value} {ab : Bool} {col : Option Bool} {dd : Option Addr} {k0 k1 k2 k3 k5 : Option Value}
    (hC : h.get? C = some (excClassObj nm q C N bs bm hdct sn sub ab col dd k0 k1 k2 k3 k5 "ValueError.__new__")) (he : h.get? e = some (excO C t0)) (hu : h.get? u = some (kxs_mw "ValueError.__init__" e)) (hrest : rest.length ≤ sizeLine)
    (hq : ∀ h' t1, (∀ b o, b ≠ e → h.get? b = some o → h'.get? b = some o) → h.objs.size ≤ h'.objs.size → h'.get? e = some (excO C t1) → Q .none ⟨h', g, d, t, os⟩) :
    wpAny (model prog w) A (call (.ref u) rest) Q E ⟨h, g, d, t, os⟩ := by
  refine wpAny_call (codeAny_of_tree ?_)
  show wpAny _ A.in1 (callAny (.ref u) ⟨rest, []⟩) _ _ _
  simp only [callAny]
  refine wpAny_bind (wpAny_load hu ?_)
  simp only [kxs_mw, show (Value.type "method-wrapper" == Value.type "method" || Value.type "method-wrapper" == Value.type "builtin_function_or_method" || Value.type "method-wrapper" == Value.type "method-wrapper") = true by decide, if_true]
  refine KFB.if_so (by decide) ?_
  refine wpAny_bind (check_bound_init F.excBase_ValueError.toExcCallFacts hC he rfl ?_)
  refine wpAny_bind (wpAny_pure (wpAny_pure ?_))
  refine ⟨plainId_quiet F.excBase_ValueError.init.plain _, codeAny_builtin F.excBase_ValueError.initEntry ?_⟩
  refine exc_init_tree (cls := .ref C) (t0 := t0) (dv := none) (c2 := .none) (c3 := .none) (b4 := .bool false) he hrest (fun h' k e' t' => ?_)
  exact hq h' _ k (Nat.le_of_lt (Heap.lt_size t')) e'
theorem bad_init (T : BadC prog K C fld) {oc kV doc pm ct ccl cl : Value} {od an cdd cld : Option Addr} {osl ccs csl : Array (Option Value)} {p1 p2 q0 q1 q2 q3 q4 q5 q6 q7 q8 q9 : Pos} {q : Str} {vs : Array Value} {file : Str} {tf : Tok}
    (ho : K.lookup fI = some ⟨oc, od, .func (ksFn "__init__" q (iA fld p1 p2) (iB fld q0 q1 q2 q3 q4 q5 q6 q7 q8 q9) (iS fld) .none kV doc pm an (.ref cda) ct cc), osl⟩) (hcd : codeIn K (.ref cda) q = true)
    (hcell : K.lookup cc = some ⟨cl, cld, .cell (some (.ref C)), csl⟩) (hcode : K.lookup cda = some ⟨ccl, cdd, .fields vs, ccs⟩) (hvs : vs[2]? = some (.str file tf)) (hfile : ((prog.main.file : Str) == file) = true)
    (hmc : ∀ env : Env, ∃ pl : Sem Bool, eval (.Call (.Attribute (.Call (.Name "super" q0) [] [] q1) "__init__" q2) [.Name fld q3] [] q4) env = (do
      let ov ← attributeBase (.Call (.Name "super" q0) [] [] q1) "__init__" env (eval (.Call (.Name "super" q0) [] [] q1) env)
      standAt q2.atName
      let (f, first) ← holding [ov] (getMethod ov "__init__" pl)
      callWith q4 f first (backTo q4 (starEach [.Name fld q3] env)) []))
    {x t0 : Addr} {v : Value} (hbind : BindsTo s (ksFn "__init__" q (iA fld p1 p2) (iB fld q0 q1 q2 q3 q4 q5 q6 q7 q8 q9) (iS fld) .none kV doc pm an (.ref cda) ct cc) ⟨[.ref x, v], []⟩ [("self", .ref x), (fld, v)])
    (X : K.In s.heap) (hg : s.heap.Ns mainGlobals mg) (hgs : mg "super" = none) (hb : s.heap.Ns builtinsNs mb) (hbs : mb "super" = some (.type "super")) (hlim : s.heap.NoLimit) (hx : s.heap.get? x = some (excO C t0)) (hnx : K.lookup x = none) (hroom : A.depth < recursionLimit)
    (hq : ∀ h' tk dx t1, InitEnd s.heap h' x C dx t1 fld v → R (.ok (.ret .none)) { s with heap := h', toks := tk }) :
    codeAny (model prog w) A (.call (.ref fI) ⟨[.ref x, v], []⟩) R s := by
  obtain ⟨nm, q', N, bs, bm, sn, sub, ab, col, dd, k0, k1, k2, k3, k5, hC, hbm⟩ := T.cls
  have hcl : clsIn K C = some { name := nm, bases := bs, mro := .ref C :: bm, ns := N, qualname := q', hasDict := true, slotNames := sn, subclasses := sub, abstract := ab, collection := col, hasDel := false } := by unfold clsIn; rw [hC] <;> rfl
  refine ks_codeAny_call_defAt (fd := ksFn "__init__" q (iA fld p1 p2) (iB fld q0 q1 q2 q3 q4 q5 q6 q7 q8 q9) (iS fld) .none kV doc pm an (.ref cda) ct cc) (binds := [("self", .ref x), (fld, v)]) hroom (X _ _ ho) rfl hlim (codeRec_of X hcd) rfl hbind ?_ ?_ (fun h₁ hns k => ?_)
  · intro y hy
    simp only [ksFn, fnX, iS, List.mem_cons, List.not_mem_nil, or_false] at hy
    rcases hy with rfl | rfl | rfl | rfl <;> exact fun z => nomatch z
  · intro y hy
    simp only [List.mem_cons, List.not_mem_nil, or_false] at hy
    rcases hy with rfl | rfl
    · exact sc_self
    · exact sc_fld
  · obtain ⟨hp, g, d, t, os⟩ := s
    have X₁ : K.In h₁ := X.keeps k
    have hx₁ := k _ _ hx
    have hC₁ := X₁ _ _ hC
    obtain ⟨pl, hpl⟩ := hmc (callEnv (ksFn "__init__" q (iA fld p1 p2) (iB fld q0 q1 q2 q3 q4 q5 q6 q7 q8 q9) (iS fld) .none kV doc pm an (.ref cda) ct cc) hp.objs.size fI)
    refine ks_wpAt_execs_cons (ks_wpAt_Expr_any (ks_wpAt_MethodCall ?_ hpl))
    refine ks_wpAt_super_base (f := fI) (cc := cda) (sc_sup T.fns) (sc_cls T.fnc) rfl rfl (X₁ _ _ ho) rfl rfl rfl (X₁ _ _ hcode) rfl hvs hfile T.top ?_
    refine ks_loadName_global rfl (sc_sup T.fns) (loadGlobal_builtin (hg.keeps k) hgs (hb.keeps k) hbs ⟨rfl, ?_⟩)
    refine wpAny_loadName_free rfl (sc_cls T.fnc) rfl ⟨_, X₁ _ _ hcell, rfl⟩ ?_
    refine wpAny_loadName_local rfl sc_self hns (lk_self T.fne) ?_
    refine ks_wpAny_isType_cls hC₁ rfl ⟨rfl, ?_⟩
    refine ks_wpAny_call_super hC₁ rfl hx₁ rfl (fun c e => nomatch e) (looks_mroIn X₁ T.mro) (fun h₂ e₂ k₂ => ?_)
    have X₂ : K.In h₂ := X₁.keeps k₂
    have hx₂ := k₂ _ _ hx₁
    have hsup := T.sup
    unfold ks_superIn at hsup
    rw [hcl] at hsup
    have I₂ : InstAt h₂ x (excO C t0) C none := ⟨hx₂, rfl, rfl, trivial⟩
    refine kxs_getMethod kxs_ValueError e₂ (looks_opaque X₂ T.opq) (l₀ := Value.ref C :: bm) ?_ rfl X₂ hsup (I₂.type.andThen (looks_subIn X₂ T.subV)) (fun z => by rw [z, hC] at hnx; cases hnx) (by decide) ?_
    · exact fun A Q E s k q => wpAny_bind ((looks_clsIn X₂ hcl) A _ E s k (wpAny_pure q))
    · have k₃ : ∀ b o, h₂.get? b = some o → (h₂.push (kxs_mw "ValueError.__init__" x)).get? b = some o := fun b o e => Heap.get?_push_of_some _ e
      refine kxs_callWith (i := "ValueError.__init__") (x := x) rfl (evalArgs_plain (Calls.spliced_cons (ld1 rfl sc_fld ((hns.keeps k₂).keeps k₃) lk_fld T.fnd (Calls.spliced_nil ⟨Heap.get?_push_at rfl rfl, ?_⟩))))
      refine call_mw (X₂.keeps k₃ _ _ hC) (k₃ _ _ hx₂) (Heap.get?_push_at rfl rfl) (one_size v) (fun h₄ t1 k₄ sz₄ hx₄ => ?_)
      have keep₄ : ∀ b o, b ≠ x → h₁.get? b = some o → h₄.get? b = some o := fun b o hb e => k₄ b o hb (k₃ _ _ (k₂ _ _ e))
      have X₄ : K.In h₄ := fun b o e => keep₄ b o (fun z => by rw [z, hnx] at e; cases e) (X₁ b o e)
      have hns₄ := hns.at (fun o e => keep₄ _ o (Nat.ne_of_gt (Heap.lt_size hx)) e)
      refine wpAt_of_wpAny (wpAny_execs_cons (plainObj_wpAny_Assign_Attribute (ld1 rfl sc_fld hns₄ lk_fld T.fnd (ld1 rfl sc_self hns₄ (lk_self T.fne) (by decide) ?_))))
      refine set_plain X₄ (ox := excO C t1) (od := none) ⟨hx₄, rfl, rfl, trivial⟩ T.sa ?_
      refine exc_osa X₄ hx₄ hcl (show refsVE (.ref C :: bm) = true from hbm) rfl T.noN (fun h₅ tk₅ dx k₅ dn dne hx₅ hn₅ => ?_)
      show wpAny _ _ (execs _ _) _ _ _
      refine wpAny_execs_nil (hq h₅ tk₅ dx t1 ⟨fun b o hb e => k₅ b o hb (keep₄ b o hb (k b o e)), hx₅, ?_, dne, hn₅⟩)
      have a1 : hp.objs.size < h₁.objs.size := hns.lt
      have a2 : h₁.objs.size < h₂.objs.size := Heap.lt_size e₂
      have a3 : h₂.objs.size ≤ h₄.objs.size := Nat.le_trans (by rw [Heap.size_push]; omega) sz₄
      have a4 : h₄.objs.size ≤ dx := dn
      exact Nat.le_trans (Nat.le_of_lt a1) (Nat.le_trans (Nat.le_of_lt a2) (Nat.le_trans a3 a4))
/-- a made one -/
structure OwnMade (h h' : Heap) (e C d : Addr) (fld : Str) (v : Value) : Prop where
  keep : ∀ b o, h.get? b = some o → h'.get? b = some o
  new : h.objs.size ≤ e
  obj : ∃ t1 : Addr, h'.get? e = some { cls := .ref C, dict := some d, data := .fields #[.ref t1, .none, .none, .none, .bool false, .none] }
  dbig : h.objs.size ≤ d
  dne : d ≠ e
  ns : h'.Ns1 d (fun y => if y = fld then some v else none)
theorem bad_made (T : BadC prog K C fld) {v : Value} (X : K.In s.heap) (hg : s.heap.Ns mainGlobals mg) (hgs : mg "super" = none) (hb : s.heap.Ns builtinsNs mb) (hbs : mb "super" = some (.type "super")) (hlim : s.heap.NoLimit) (hroom : A.depth + 1 < recursionLimit)
    (hq : ∀ h' tk e d, OwnMade s.heap h' e C d fld v → R (.ok (.ret (.ref e))) { s with heap := h', toks := tk }) :
    codeAny (model prog w) A (.call (.ref C) ⟨[v], []⟩) R s := by
  obtain ⟨nm, q, N, bs, bm, sn, sub, ab, col, dd, k0, k1, k2, k3, k5, hC, hbm⟩ := T.cls
  obtain ⟨fI, cc, cda, oc, kV, doc, pm, ct, ccl, cl, od, an, cdd, cld, osl, ccs, csl, p1, p2, q0, q1, q2, q3, q4, q5, q6, q7, q8, q9, q, vs, file, tf, iC, tI, ho, hcd, hcell, hcode, hvs, hfile, hmc, hbind⟩ := T.init
  obtain ⟨hp, g, dr, tk, os⟩ := s
  have k : ∀ b o, hp.get? b = some o → ((hp.push (kdv_tup [v])).push (excO C hp.objs.size)).get? b = some o := fun b o e => Heap.get?_push_of_some _ (Heap.get?_push_of_some _ e)
  have hget : ((hp.push (kdv_tup [v])).push (excO C hp.objs.size)).get? (hp.objs.size + 1) = some (excO C hp.objs.size) := by heap_get
  have hnx : K.lookup (hp.objs.size + 1) = none := by
    cases e : K.lookup (hp.objs.size + 1) with
    | none => rfl
    | some o =>
      have z : hp.get? (hp.objs.size + 1) = some o := X _ _ e
      exact absurd (Nat.lt_of_succ_lt (Heap.lt_size z)) (Nat.lt_irrefl _)
  refine call_own F.excBase_ValueError (fun X => refsVE_contains X bm hbm) (X _ _ hC) (looks_findIn X iC) (fun self => bind_fn X self tI) (one_size v) ?_
  refine bad_init (s := ⟨(hp.push (kdv_tup [v])).push (excO C hp.objs.size), g, dr, tk, os⟩) T ho hcd hcell hcode hvs hfile hmc (hbind _ _ _) (X.keeps k) (hg.keeps k) hgs (hb.keeps k) hbs (hlim.keeps k) hget hnx ?_ fun h' tk' dx t1 ⟨k', hx, dn, dne, hns⟩ => ?_
  · show A.depth + 1 < recursionLimit
    exact hroom
  · have old : ∀ b o, hp.get? b = some o → h'.get? b = some o := fun b o e => k' b o (Nat.ne_of_lt (Nat.lt_succ_of_lt (Heap.lt_size e))) (k b o e)
    have z : hp.objs.size + 1 + 1 ≤ dx := by
      first
        | (simpa only [Heap.size_push] using dn)
        | exact dn
        | (have q := dn; rw [Heap.size_push, Heap.size_push] at q; exact q)
    exact ⟨rfl, hq h' tk' (hp.objs.size + 1) dx ⟨old, Nat.le_succ _, ⟨t1, hx⟩, Nat.le_trans (Nat.le_trans (Nat.le_succ _) (Nat.le_succ _)) z, dne, hns⟩⟩
end
end Ex

namespace L2
open PySem PySem.Spec PyProof.Rows
section
variable {X : Cx}
/-- C(e), C an own error that keeps its part in the field fld -/
def tMkE (K : PySem.W.Frag) (C : Addr) (fld : Str) (te : TE) : TE := fun σ H Q => te σ H fun v H1 => ∀ a d, H1 d = none → H1 a = none → a ≠ d → Q (.ref a) (upd (upd H1 d (.xd [(fld, v)])) a (exo a C (some d)))
theorem relO_one {fld : Str} {v : V} {v' : Value} (r : RelV v v') (f : Str) : RelO (List.lookup f [(fld, v)]) (if f = fld then some v' else none) := relO_put (fs := []) (mA := fun _ => none) r (fun _ => True.intro) f
theorem pe_mkE {x : Str} {a : Expr} {te : TE} {p pos : Pos} {k : Nat} {C : Addr} {fld : Str} (T : Ex.BadC X.prog X.K C fld) (hm : X.mg x = some (.ref C)) (hs : X.mg "super" = none) (hr : Room k X.A) (hk : 2 ≤ k) (ha : PE X a te) (hg : Gl X x)
    (hd : (x == ("__debug__" : Str)) = false := by decide) (he : starEach (a :: []) X.env = (false, eval a X.env) :: starEach [] X.env := by rfl) (hpl : (backTo pos (starEach [] X.env)).any (·.1) = false := by rfl) :
    PE X (.Call (.Name x p) [a] [] pos) (tMkE X.K C fld te) := by
  refine ⟨fun pins s σ H Q I h => ?_⟩
  refine wpAny_Call_Name_kw (ld_glob I hg hm ?_ hd)
  refine PySem.W.callWith_K (h₀ := X.base) I.ok.mod.kin T.kC ?_ he hpl
  rw [he]
  show wpAny _ _ (spliced ((false, eval a X.env) :: backTo pos (starEach [] X.env))) _ _ s
  refine Calls.spliced_cons (thn (ha.run pins s σ H _ I h) fun u s1 ⟨v, H1, I1, r1, q1⟩ => ?_)
  refine Calls.spliced_nil ⟨I1.kIn, ?_⟩
  show wpAny _ _ (call (.ref C) [u]) _ _ _
  have hlim := I1.nolimit
  have E0 := I1.env0
  obtain ⟨hp, g, dr, tk, os⟩ := s1
  obtain ⟨mb, hb, hbb⟩ := E0.mod.blt
  refine wpAny_call (Ex.bad_made T I1.kIn (E0.mod.glob.keeps fun b o q => (E0.bs b o q).1) hs (hb.keeps fun b o q => (E0.bs b o q).1) ((hbb "super" (by decide)).trans rfl) hlim (by have := hr.dp; omega) fun h' tk' e d M => ?_)
  obtain ⟨t1, hoe⟩ := M.obj
  have hns := M.ns
  obtain ⟨G', g1, g2⟩ := restrict h' fun b => decide (b ≠ e)
  have gk : ∀ b, b ≠ e → G'.get? b = h'.get? b := fun b hb => g1 b (decide_eq_true hb)
  have ge : G'.get? e = none := g2 e (by simp)
  have old : ∀ b o, hp.get? b = some o → G'.get? b = some o := fun b o q => (gk b (Nat.ne_of_lt (Nat.lt_of_lt_of_le (Heap.lt_size q) M.new))).trans (M.keep b o q)
  have ob : ObjOk X.prog X.w (upd H1 d (.xd [(fld, v)])) G' d (.xd [(fld, v)]) :=
    ⟨_, hns.at (fun o q => (gk d M.dne).trans q), fun f => relO_one r1 f⟩
  have J : Inv X pins σ (upd H1 d (.xd [(fld, v)])) ⟨G', g, dr, tk', os⟩ := I1.laid (t' := tk') old M.dbig ob
  have hd1 : H1 d = none := I1.hok.fresh M.dbig
  have he1 : H1 e = none := I1.hok.fresh M.new
  have he2 : upd H1 d (.xd [(fld, v)]) e = none := by rw [upd_ne (Ne.symm M.dne)]; exact he1
  have kk : ∀ b u, G'.get? b = some u → h'.get? b = some u := fun b u q => by
    by_cases hb : b = e
    · rw [hb, ge] at q; cases q
    · rw [← gk b hb]; exact q
  exact ⟨.ref e, _, J.laidN (t' := tk') kk ge he2 (exo_ok hoe), rfl, q1 e d hd1 he1 (Ne.symm M.dne)⟩
/-- C(), C an own error of no own making -/
def tMkN (C : Addr) : TE := fun σ H Q => ∀ a, H a = none → Q (.ref a) (upd H a (exo a C none))
theorem pe_mkN {x : Str} {p pos : Pos} {C : Addr} (q : PySem.W.excIn X.K C He.veBase "ValueError.__new__" = true) (hm : X.mg x = some (.ref C)) (kC : PySem.W.keepIn X.K (.ref C) = true) (hg : Gl X x)
    (hd : (x == ("__debug__" : Str)) = false := by decide) : PE X (.Call (.Name x p) [] [] pos) (tMkN C) := by
  refine ⟨fun pins s σ H Q I h => ?_⟩
  refine wpAny_Call_Name_kw (ld_glob I hg hm ?_ hd)
  refine PySem.W.callWith_K0 I.kIn kC ?_
  obtain ⟨bm, N, nm, qn, bs, hdct, sn, sub, ab, col, dd, k0, k1, k2, k3, k5, mN, hC, hN, hni, T⟩ := exc_obj I.kIn q
  refine wpAny_call_exc_subT PySem.F.excBase_ValueError T hC hN hni (fun h' a hm => ?_) (by show 0 ≤ sizeLine; omega)
  have hn : H a = none := I.hok.gone hm.new
  obtain ⟨t, ht, _, _⟩ := hm.there
  exact ⟨.ref a, upd H a (exo a C none), I.laidN hm.keeps hm.new hn (exo_ok ht), rfl, h a hn⟩
/-- e.fld -/
def tFldE (K : PySem.W.Frag) (n : Str) (te : TE) : TE := fun σ H Q => te σ H fun x H1 => ∃ (a C d : Addr) (v : V), x = .ref a ∧ XfC K C ∧ PySem.W.findIn K (.ref C) n = some none ∧ H1 a = some (exo a C (some d)) ∧ H1 d = some (.xd [(n, v)]) ∧ Q v H1
theorem pe_fldE {e : Expr} {te : TE} {pos : Pos} {n : Str} (he : PE X e te) (hb : attributeBase e n X.env (eval e X.env) = eval e X.env := by rfl) :
    PE X (.Attribute e n pos) (tFldE X.K n te) := by
  refine ⟨fun pins s σ H Q I h => ?_⟩
  refine attr_of hb (thn (he.run pins s σ H _ I h) fun u s1 hh => ?_)
  obtain ⟨x, H1, I1, rx, a, C, dd, v, ex, T, hno, ea, ed, q⟩ := hh
  subst ex
  obtain rfl : u = Value.ref a := rx
  obtain ⟨t1, ha⟩ := exo_at I1.hok ea
  have hx : ObjOk X.prog X.w H1 s1.heap dd (.xd [(n, v)]) := I1.hok dd _ ed
  obtain ⟨mA, hns, hr⟩ := hx
  obtain ⟨od, ho, hl⟩ := lookIn_ns hns
  obtain ⟨u, hu, ru⟩ := RelO.some_of (v := v) (o := mA n) (by rw [← show List.lookup n [(n, v)] = some v by simp [List.lookup]]; exact hr n)
  have J : PySem.W.InstAt s1.heap a _ C (some od) := ⟨ha, rfl, rfl, ho⟩
  exact HandSPX.exc_get I1.kIn J T.ga T.gg T.exC (PySem.W.findObj_own T.hdC hno rfl (by rw [hl, hu])) (handed_of ru) ⟨v, H1, I1.tok _, ru, q⟩
end
/-- isinstance(e, c) of such an error -/
def rIsX (K : PySem.W.Frag) : List V → Hp → VK → Prop := fun xs H Q => ∃ (a C : Addr) (d : Option Addr) (c : V) (cv : Value) (b : Bool), xs = [.ref a, c] ∧ H a = some (exo a C d) ∧ ExcC K C ∧ (∀ u, RelV c u → u = cv) ∧ (∀ dd, d = some dd → ∃ fs, H dd = some (.xd fs)) ∧ PySem.W.kitOne K (.ref C) cv = some b ∧ Q (.bl b) H
theorem call_isX {X : Cx} : CallR X (.builtin "isinstance") (rIsX X.K) := by
  intro pins s σ H xs us Q I r h
  obtain ⟨a, C, d, c, cv, b, rfl, ha, T, hcv, hd, e, q⟩ := h
  cases r with
  | cons rx rr =>
    cases rr with
    | cons rt rr =>
      cases rr
      cases rx
      have ec := hcv _ rt
      subst ec
      obtain ⟨t1, ho⟩ := exo_at I.hok ha
      have hcl : (PySem.W.clsIn X.K C).isSome = true := by
        obtain ⟨cd, hc, _⟩ := PySem.W.any_some T.hd
        rw [hc]
        rfl
      cases d with
      | none =>
        have J : PySem.W.InstAt s.heap a { cls := .ref C, dict := none, data := .fields #[.ref t1, .none, .none, .none, .bool false, .none] } C none := ⟨ho, rfl, rfl, trivial⟩
        exact PySem.W.kia_one (PySem.W.kitx_exc hcl T.hg T.hk T.hs T.ha T.hn T.ht T.hm) I.kIn J e (fun z => nomatch z) fun tk => ⟨.bl b, H, I.kept (t' := tk) fun _ _ z => z, rfl, q⟩
      | some dd =>
        obtain ⟨fs, hdd⟩ := hd dd rfl
        have hx : ObjOk X.prog X.w H s.heap dd (.xd fs) := I.hok dd _ hdd
        obtain ⟨mA, hns, hr⟩ := hx
        obtain ⟨od, hod, hl⟩ := lookIn_ns hns
        have J : PySem.W.InstAt s.heap a { cls := .ref C, dict := some dd, data := .fields #[.ref t1, .none, .none, .none, .bool false, .none] } C (some od) := ⟨ho, rfl, rfl, hod⟩
        exact PySem.W.kia_one (PySem.W.kitx_exc hcl T.hg T.hk T.hs T.ha T.hn T.ht T.hm) I.kIn J e (fun z => nomatch z) fun tk => ⟨.bl b, H, I.kept (t' := tk) fun _ _ z => z, rfl, q⟩
end L2
set_option Elab.async false
set_option maxRecDepth 100000
set_option maxHeartbeats 4000000
/-! Rd: readings, one lemma a construct; the tactic walk_at "rd" goes along a reading as far as it is plain. -/
namespace Rd
open PySem L2

/-! built-in calls by names of our own -/
def rLen (K : PySem.W.Frag) : List V → Hp → VK → Prop := fun xs H Q => (∃ p ys, xs = [.ref p] ∧ (SqL K H p ys ∨ SqT K H p ys) ∧ Q (.int ys.length) H) ∨ ∃ z, xs = [.str z] ∧ z.length ≤ sizeLine ∧ Q (.int z.length) H
theorem cr_len {X : Cx} : CallR X (.builtin "len") (rLen X.K) := call_len_seq.or call_len_str
def rInt : List V → Hp → VK → Prop := fun xs H Q => (∃ i, xs = [.int i] ∧ Q (.int i) H) ∨ ∃ k, xs = [.bl k] ∧ Q (.int (if k then 1 else 0)) H
theorem cr_int {X : Cx} : CallR X (.type "int") rInt := call_int1
def rAbs : List V → Hp → VK → Prop := fun xs H Q => ∃ i, xs = [.int i] ∧ Q (.int (if i < 0 then -i else i)) H
theorem cr_abs {X : Cx} : CallR X (.builtin "abs") rAbs := call_abs
def rListOf (K : PySem.W.Frag) : List V → Hp → VK → Prop := fun xs H Q => ∃ p ys, xs = [.ref p] ∧ (SqL K H p ys ∨ SqT K H p ys) ∧ ∀ l, H l = none → Q (.ref l) (upd H l (.lst ys))
theorem cr_list {X : Cx} : CallR X (.type "list") (rListOf X.K) := call_list_of
def rTupOf (K : PySem.W.Frag) : List V → Hp → VK → Prop := fun xs H Q => ∃ p ys, xs = [.ref p] ∧ ((SqL K H p ys ∧ ∀ l, H l = none → Q (.ref l) (upd H l (.tup ys))) ∨ (SqT K H p ys ∧ Q (.ref p) H))
theorem cr_tuple {X : Cx} : CallR X (.type "tuple") (rTupOf X.K) := call_tuple_of

section
variable {σ : L2.St} {H : Hp} {Q : VK} {D : Ends} {K : PySem.W.Frag}
variable {nx bk ct : L2.St → Hp → Prop} {rt : VK}
theorem seq {t u : TS} (h : t ⟨u ⟨nx, rt, bk, ct⟩, rt, bk, ct⟩ σ H) : tSeq t u ⟨nx, rt, bk, ct⟩ σ H := h
theorem next (h : nx σ H) : tNext ⟨nx, rt, bk, ct⟩ σ H := h
theorem brk (h : bk σ H) : tBreak ⟨nx, rt, bk, ct⟩ σ H := h
theorem cont (h : ct σ H) : tCont ⟨nx, rt, bk, ct⟩ σ H := h
theorem asg {te : TE} {g : TG} (h : te σ H fun x H1 => g x σ H1 nx) : tAsg te g ⟨nx, rt, bk, ct⟩ σ H := h
theorem gname {i : Nat} {v : V} {R : L2.St → Hp → Prop} (h : R (σ.set i (some v)) H) : gName i v σ H R := h
theorem gsub {to ti : TE} {t : TSet} {v : V} {R : L2.St → Hp → Prop} (h : to σ H fun o H1 => ti σ H1 fun i H2 => t o i v H2 fun H3 => R σ H3) : gSub to ti t v σ H R := h
theorem gtup {n : Nat} {t : TGs} {a : Addr} {xs : List V} {R : L2.St → Hp → Prop} (h1 : SqT K H a xs) (h2 : xs.length = n) (h : t xs σ H R) : gTup K n t (.ref a) σ H R := ⟨a, xs, rfl, h1, h2, h⟩
theorem gnil {R : L2.St → Hp → Prop} (h : R σ H) : gNil [] σ H R := ⟨rfl, h⟩
theorem gcons {t : TG} {u : TGs} {v : V} {r : List V} {R : L2.St → Hp → Prop} (h : t v σ H fun σ' H' => u r σ' H' R) : gCons t u (v :: r) σ H R := ⟨v, r, rfl, h⟩
theorem ret {te : TE} (h : te σ H rt) : tRet te ⟨nx, rt, bk, ct⟩ σ H := h
theorem retN (h : rt .non H) : tRetN ⟨nx, rt, bk, ct⟩ σ H := h
theorem drop {te : TE} (h : te σ H fun _ H1 => nx σ H1) : tDrop te ⟨nx, rt, bk, ct⟩ σ H := h
theorem ifs {c : TT} {t u : TS} (h : c σ H fun b H1 => if b = true then t D σ H1 else u D σ H1) : tIfS c t u D σ H := h
theorem aug {i : Nat} {te : TE} {ti : TIp} {x : V} (h0 : σ[i]? = some (some x)) (h : te σ H fun y H1 => ti x y H1 fun z H2 => nx (σ.set i (some z)) H2) : tAug i te ti ⟨nx, rt, bk, ct⟩ σ H := ⟨x, h0, h⟩
theorem ipi {f : Int → Int → Int} {i j : Int} (h : Q (.int (f i j)) H) : ipI f (.int i) (.int j) H Q := ⟨i, j, rfl, rfl, h⟩
theorem par {i j : Nat} {ta : TA} (h : ta σ H fun vs H1 => ∃ v w, vs = [v, w] ∧ nx ((σ.set i (some v)).set j (some w)) H1) : tPar i j ta ⟨nx, rt, bk, ct⟩ σ H := h
theorem par2 {i j : Nat} {v w : V} {R : L2.St → Hp → Prop} (h : R ((σ.set i (some v)).set j (some w)) H) : ∃ v' w', [v, w] = [v', w'] ∧ R ((σ.set i (some v')).set j (some w')) H := ⟨v, w, rfl, h⟩
/-! expressions -/
theorem var {i : Nat} {v : V} (h0 : σ[i]? = some (some v)) (h : Q v H) : tVar i σ H Q := ⟨v, h0, h⟩
theorem cst {v : V} (h : Q v H) : tC v σ H Q := h
theorem op {r : R2} {ta tb : TE} (h : ta σ H fun x H1 => tb σ H1 fun y H2 => r x y H2 Q) : tOp r ta tb σ H Q := h
theorem un {r : V → Hp → VK → Prop} {ta : TE} (h : ta σ H fun x H1 => r x H1 Q) : tUn r ta σ H Q := h
theorem cb {r : List V → Hp → VK → Prop} {t : TA} (h : t σ H fun vs H1 => r vs H1 Q) : tCB r t σ H Q := h
theorem anil {R : List V → Hp → Prop} (h : R [] H) : tNil σ H R := h
theorem acons {ta : TE} {tr : TA} {R : List V → Hp → Prop} (h : ta σ H fun x H1 => tr σ H1 fun xs H2 => R (x :: xs) H2) : tCons ta tr σ H R := h
theorem ifx {t : TT} {ta tb : TE} (h : t σ H fun c H1 => if c = true then ta σ H1 Q else tb σ H1 Q) : tIf t ta tb σ H Q := h
theorem notv {ta : TE} (h : ta σ H fun x H1 => ∃ c, x = .bl c ∧ Q (.bl (!c)) H1) : tNotV ta σ H Q := h
theorem andv {ta tb : TE} (h : ta σ H fun x H1 => ∃ c, x = .bl c ∧ if c = true then tb σ H1 Q else Q (.bl false) H1) : tAndV ta tb σ H Q := h
theorem orv {ta tb : TE} (h : ta σ H fun x H1 => ∃ c, x = .bl c ∧ if c = true then Q (.bl true) H1 else tb σ H1 Q) : tOrV ta tb σ H Q := h
theorem chain {r r' : R2} {ta tb tc : TE} (h : ta σ H fun x H1 => tb σ H1 fun y H2 => r x y H2 fun z H3 => ∃ k, z = .bl k ∧ (if k = true then tc σ H3 fun u H4 => r' y u H4 Q else Q (.bl false) H3)) : tChain r r' ta tb tc σ H Q := h
theorem atI0 {x : V} {xs : List V} : atI (x :: xs) 0 = some x := by
  unfold atI ixN
  rw [if_pos (by omega), if_pos (by rw [List.length_cons]; omega)]
  rfl
theorem ixN0 {x : V} {xs : List V} : ixN (x :: xs).length 0 = some 0 := by
  unfold ixN
  rw [if_pos (by omega), if_pos (by rw [List.length_cons]; omega)]
  rfl
/-! tests -/
theorem test {t : TE} {R : Bool → Hp → Prop} (h : t σ H fun x H' => ∃ k, x = .bl k ∧ R k H') : tTest t σ H R := h
theorem tb {t : TE} {R : Bool → Hp → Prop} (h : t σ H fun x H' => ∃ k, x = .bl k ∧ R k H') : tB t σ H R := h
theorem tand {t u : TT} {R : Bool → Hp → Prop} (h : t σ H fun c H1 => if c = true then u σ H1 R else R false H1) : tAnd t u σ H R := h
theorem tor {t u : TT} {R : Bool → Hp → Prop} (h : t σ H fun c H1 => if c = true then R true H1 else u σ H1 R) : tOr t u σ H R := h
theorem tnot {t : TT} {R : Bool → Hp → Prop} (h : t σ H fun c H1 => R (!c) H1) : tNot t σ H R := h
theorem tyes {R : Bool → Hp → Prop} (h : R true H) : tYes σ H R := h
theorem exbl {b : Bool} {R : Bool → Prop} (h : R b) : ∃ k, V.bl b = .bl k ∧ R k := ⟨b, rfl, h⟩
theorem iteT {A B : Prop} (h : A) : if true = true then A else B := by rw [if_pos rfl]; exact h
theorem iteF {A B : Prop} (h : B) : if false = true then A else B := by rw [if_neg Bool.false_ne_true]; exact h
theorem iteNT {A B : Prop} (h : B) : if (!true) = true then A else B := iteF h
theorem iteNF {A B : Prop} (h : A) : if (!false) = true then A else B := iteT h
theorem iteD {c A B : Prop} [Decidable c] (h1 : c → A) (h2 : ¬ c → B) : if decide c = true then A else B := by
  by_cases h : c
  · rw [decide_eq_true h, if_pos rfl]; exact h1 h
  · rw [decide_eq_false h, if_neg Bool.false_ne_true]; exact h2 h
theorem iteND {c A B : Prop} [Decidable c] (h1 : ¬ c → A) (h2 : c → B) : if (!decide c) = true then A else B := by
  by_cases h : c
  · rw [decide_eq_true h]; exact iteF (h2 h)
  · rw [decide_eq_false h]; exact iteT (h1 h)
theorem iteB {b : Bool} {A B : Prop} (h1 : b = true → A) (h2 : b = false → B) : if b = true then A else B := by
  cases b
  · exact iteF (h2 rfl)
  · exact iteT (h1 rfl)
theorem iteNB {b : Bool} {A B : Prop} (h1 : b = false → A) (h2 : b = true → B) : if (!b) = true then A else B := by
  cases b
  · exact iteT (h1 rfl)
  · exact iteF (h2 rfl)
/-! operators by values -/
theorem i0 {g : Int → Int → V} {i j : Int} (h : Q (g i j) H) : rI0 g (.int i) (.int j) H Q := ⟨i, j, rfl, rfl, h⟩
theorem iC {C : Int → Int → Prop} {g : Int → Int → V} {i j : Int} (hc : C i j) (h : Q (g i j) H) : rI C g (.int i) (.int j) H Q := ⟨i, j, rfl, rfl, hc, h⟩
theorem u1 {g : Int → V} {i : Int} (h : Q (g i) H) : rU g (.int i) H Q := ⟨i, rfl, h⟩
theorem eqI {i j : Int} (h : Q (.bl (decide (i = j))) H) : rEq (.int i) (.int j) H Q := ⟨rfl, by rw [show decide (V.int i = V.int j) = decide (i = j) by simp]; exact h⟩
theorem neI {i j : Int} (h : Q (.bl (!decide (i = j))) H) : rNe (.int i) (.int j) H Q := ⟨rfl, by rw [show decide (V.int i = V.int j) = decide (i = j) by simp]; exact h⟩
theorem eqS {i j : Str} (h : Q (.bl (decide (i = j))) H) : rEq (.str i) (.str j) H Q := ⟨rfl, by rw [show decide (V.str i = V.str j) = decide (i = j) by simp]; exact h⟩
theorem neS {i j : Str} (h : Q (.bl (!decide (i = j))) H) : rNe (.str i) (.str j) H Q := ⟨rfl, by rw [show decide (V.str i = V.str j) = decide (i = j) by simp]; exact h⟩
theorem eqB {i j : Bool} (h : Q (.bl (decide (i = j))) H) : rEq (.bl i) (.bl j) H Q := ⟨rfl, by rw [show decide (V.bl i = V.bl j) = decide (i = j) by simp]; exact h⟩
theorem neB {i j : Bool} (h : Q (.bl (!decide (i = j))) H) : rNe (.bl i) (.bl j) H Q := ⟨rfl, by rw [show decide (V.bl i = V.bl j) = decide (i = j) by simp]; exact h⟩
theorem eqX {x y : V} (hs : scal x y = true) (h : Q (.bl (decide (x = y))) H) : rEq x y H Q := ⟨hs, h⟩
theorem neX {x y : V} (hs : scal x y = true) (h : Q (.bl (!decide (x = y))) H) : rNe x y H Q := ⟨hs, h⟩
theorem ixl {p : Addr} {xs : List V} {i : Int} {v : V} (h1 : SqL K H p xs) (h2 : atI xs i = some v) (h : Q v H) : rIxL K (.ref p) (.int i) H Q := ⟨p, xs, i, v, rfl, rfl, h1, h2, h⟩
theorem ixt {p : Addr} {xs : List V} {i : Int} {v : V} (h1 : SqT K H p xs) (h2 : atI xs i = some v) (h : Q v H) : rIxT K (.ref p) (.int i) H Q := ⟨p, xs, i, v, rfl, rfl, h1, h2, h⟩
theorem setl {p : Addr} {xs : List V} {k : Int} {j : Nat} {v : V} {R : Hp → Prop} (h1 : H p = some (.lst xs)) (h2 : ixN xs.length k = some j) (h : R (upd H p (.lst (xs.set j v)))) : rSetL (.ref p) (.int k) v H R := ⟨p, xs, k, j, rfl, rfl, h1, h2, h⟩
theorem lenL {p : Addr} {ys : List V} (h1 : SqL K H p ys) (h : Q (.int ys.length) H) : rLen K [V.ref p] H Q := .inl ⟨p, ys, rfl, .inl h1, h⟩
theorem lenT {p : Addr} {ys : List V} (h1 : SqT K H p ys) (h : Q (.int ys.length) H) : rLen K [V.ref p] H Q := .inl ⟨p, ys, rfl, .inr h1, h⟩
theorem lenS {z : Str} (h1 : z.length ≤ sizeLine) (h : Q (.int z.length) H) : rLen K [V.str z] H Q := .inr ⟨z, rfl, h1, h⟩
theorem int1 {i : Int} (h : Q (.int i) H) : rInt [V.int i] H Q := .inl ⟨i, rfl, h⟩
theorem intb {b : Bool} (h : Q (.int (if b then 1 else 0)) H) : rInt [V.bl b] H Q := .inr ⟨b, rfl, h⟩
theorem abs1 {i : Int} (h : Q (.int (if i < 0 then -i else i)) H) : rAbs [V.int i] H Q := ⟨i, rfl, h⟩
theorem lof {p : Addr} {ys : List V} (h1 : SqL K H p ys ∨ SqT K H p ys) (h : ∀ l, H l = none → Q (.ref l) (upd H l (.lst ys))) : rListOf K [V.ref p] H Q := ⟨p, ys, rfl, h1, h⟩
theorem tof {p : Addr} {ys : List V} (h1 : SqL K H p ys) (h : ∀ l, H l = none → Q (.ref l) (upd H l (.tup ys))) : rTupOf K [V.ref p] H Q := ⟨p, ys, rfl, .inl ⟨h1, h⟩⟩
theorem bm {T : String} {r : V → List V → Hp → VK → Prop} {to : TE} {t : TA} (h : to σ H fun x H1 => tyV K T x H1 ∧ t σ H1 fun xs H2 => r x xs H2 Q) : tBM K T r to t σ H Q := h
theorem bm0 {T : String} {r : V → List V → Hp → VK → Prop} {to : TE} (h : to σ H fun x H1 => tyV K T x H1 ∧ r x [] H1 Q) : tBM0 K T r to σ H Q := h
theorem tyl {p : Addr} {xs : List V} {B : Prop} (h1 : H p = some (.lst xs)) (h : B) : tyV K "list" (.ref p) H ∧ B := ⟨Or.inl ⟨rfl, _, SqL.of h1⟩, h⟩
theorem appl {l : Addr} {xs : List V} {y : V} (h1 : H l = some (.lst xs)) (h2 : xs.length < sizeLine) (h : Q .non (upd H l (.lst (xs ++ [y])))) : rAppend (.ref l) [y] H Q := ⟨l, xs, y, rfl, rfl, h1, h2, h⟩
theorem popat00 {l : Addr} {y : V} {xs : List V} (h1 : H l = some (.lst (y :: xs))) (h : Q y (upd H l (.lst xs))) : rPopAt (.ref l) [.int 0] H Q := ⟨l, y :: xs, 0, 0, y, rfl, rfl, h1, by decide, by decide, by
  unfold seqIndex?
  simp, rfl, h⟩
theorem popat {l : Addr} {xs : List V} {i : Int} {k : Nat} {y : V} (h1 : H l = some (.lst xs)) (a : -(2 ^ 63) ≤ i ∧ i < 2 ^ 63) (h2 : seqIndex? i xs.length = some k) (h3 : xs[k]? = some y) (h : Q y (upd H l (.lst (xs.eraseIdx k)))) : rPopAt (.ref l) [.int i] H Q := ⟨l, xs, i, k, y, rfl, rfl, h1, a.1, a.2, h2, h3, h⟩
theorem pop {l : Addr} {xs : List V} {y : V} (h1 : H l = some (.lst xs)) (h3 : xs[xs.length - 1]? = some y) (h : Q y (upd H l (.lst xs.dropLast))) : rPop (.ref l) [] H Q := ⟨l, xs, y, rfl, rfl, h1, h3, h⟩
theorem lst {t : TA} (h : t σ H fun xs H1 => xs.length ≤ sizeLine ∧ ∀ p, H1 p = none → Q (.ref p) (upd H1 p (.lst xs))) : tLst t σ H Q := h
theorem tup {t : TA} (h : t σ H fun xs H1 => xs.length ≤ sizeLine ∧ ∀ p, H1 p = none → Q (.ref p) (upd H1 p (.tup xs))) : tTup t σ H Q := h
theorem new {n : Nat} {o : HO} {R : V → Hp → Prop} (h1 : n ≤ 1000) (h : ∀ p, H p = none → R (.ref p) (upd H p o)) : n ≤ sizeLine ∧ ∀ p, H p = none → R (.ref p) (upd H p o) := ⟨Nat.le_trans h1 (by decide), h⟩
theorem sl {r : V → Option Int → Option Int → Hp → VK → Prop} {te : TE} {tl th : TO} (h : te σ H fun x H1 => tl σ H1 fun l H2 => th σ H2 fun u H3 => r x l u H3 Q) : tSl r te tl th σ H Q := h
theorem nopart {R : Option Int → Hp → Prop} (h : R none H) : tNoPart σ H R := h
theorem part {t : TE} {R : Option Int → Hp → Prop} (h : t σ H fun x H1 => ∃ i, x = .int i ∧ R (some i) H1) : tPart t σ H R := h
theorem szl {xs : List V} (h : xs.length ≤ 1000) : xs.length ≤ sizeLine := Nat.le_trans h (by decide)
theorem szl2 {n m : Nat} (h : n + m ≤ 1000) : n + m ≤ sizeLine := Nat.le_trans h (by decide)
theorem szl2' {n m : Nat} (h : n + m ≤ 100000) : n + m ≤ sizeLine := Nat.le_trans h (by decide)
theorem exint {i : Int} {R : Int → Prop} (h : R i) : ∃ k, V.int i = .int k ∧ R k := ⟨i, rfl, h⟩
theorem sll {a : Addr} {xs : List V} {lo hi : Option Int} (h1 : SqL K H a xs) (h : ∀ p, H p = none → Q (.ref p) (upd H p (.lst (cutV xs lo hi)))) : rSlL K (.ref a) lo hi H Q := ⟨a, xs, rfl, h1, h⟩
theorem call {sp : Sp} {dvs : List V} {E : XK} {t : TA} (h : t σ H fun vs H1 => sp (vs ++ dvs) H1 Q E) : tCall sp dvs E t σ H Q := h
theorem upd_new {q p : Addr} {o u : HO} (hp : H p = none) (h : H q = some u) : upd H p o q = some u := by rw [upd_ne (ne_of_none h hp)]; exact h
theorem upd_off {q p : Addr} {o : HO} {u : Option HO} (hp : q ≠ p) (h : H q = u) : upd H p o q = u := by rw [upd_ne hp]; exact h
theorem upd_off' {q p : Addr} {o : HO} {u : Option HO} (hp : p ≠ q) (h : H q = u) : upd H p o q = u := by rw [upd_ne (Ne.symm hp)]; exact h
end
/-! own calls, own errors, joined lists, unequal things -/
section
variable {σ : L2.St} {H : Hp} {Q : VK} {K : PySem.W.Frag}
theorem cat {l b : Addr} {xs zs : List V} (h1 : H l = some (.lst xs)) (h2 : H b = some (.lst zs)) (h3 : xs.length + zs.length ≤ sizeLine) (h : ∀ p, H p = none → Q (.ref p) (upd H p (.lst (xs ++ zs)))) : rCat (.ref l) (.ref b) H Q := ⟨l, b, xs, zs, rfl, rfl, h1, h2, h3, h⟩
theorem df {sp : Sp} {E : L2.St → XK} {t : TA} (h : t σ H fun vs H1 => sp vs H1 Q (E σ)) : Gl.tDf sp E t σ H Q := h
theorem par3 {nx bk ct : L2.St → Hp → Prop} {rt : VK} {i j l : Nat} {ta : TA} (h : ta σ H fun vs H1 => ∃ u v w, vs = [u, v, w] ∧ nx (((σ.set i (some u)).set j (some v)).set l (some w)) H1) : tPar3 i j l ta ⟨nx, rt, bk, ct⟩ σ H := h
theorem par33 {i j l : Nat} {u v w : V} {R : L2.St → Hp → Prop} (h : R (((σ.set i (some u)).set j (some v)).set l (some w)) H) : ∃ u' v' w', [u, v, w] = [u', v', w'] ∧ R (((σ.set i (some u')).set j (some v')).set l (some w')) H := ⟨u, v, w, rfl, h⟩
theorem mkN {C : Addr} (h : ∀ a, H a = none → Q (.ref a) (upd H a (exo a C none))) : tMkN C σ H Q := h
theorem mkE {i : Nat} {C : Addr} {f : Str} {v : V} (h0 : σ[i]? = some (some v)) (h : ∀ d, H d = none → ∀ a, upd H d (.xd [(f, v)]) a = none → Q (.ref a) (upd (upd H d (.xd [(f, v)])) a (exo a C (some d)))) : tMkE K C f (tVar i) σ H Q :=
  ⟨v, h0, fun a d hd ha ne => h d hd a (by rw [upd_ne ne]; exact ha)⟩
theorem fldE {i : Nat} {n : Str} {a C d : Addr} {v : V} (h0 : σ[i]? = some (some (.ref a))) (h1 : H a = some (exo a C (some d))) (h2 : H d = some (.xd [(n, v)])) (h3 : XfC K C) (h4 : PySem.W.findIn K (.ref C) n = some none) (h : Q v H) :
    tFldE K n (tVar i) σ H Q := ⟨_, h0, a, C, d, v, rfl, h3, h4, h1, h2, h⟩
def rNeA (K : PySem.W.Frag) : R2 := fun x y H Q => rNe x y H Q ∨ rNeD K x y H Q ∨ rNeDA x y H Q
theorem op_neA {X : Cx} {k : Nat} (hr : Room k X.A) : OpR X (compareOp .NotEq) (rNeA X.K) := op_ne.or ((op_neD hr.units).or (op_ne_dictA (Nat.lt_of_le_of_lt (Nat.le_add_right _ _) hr.units)))
theorem upd_upd {H : Hp} {a : Addr} {o u : HO} : upd (upd H a o) a u = upd H a u := by
  funext b
  by_cases e : b = a
  · rw [e, upd_same, upd_same]
  · rw [upd_ne e, upd_ne e, upd_ne e]
theorem same_new {H : Hp} {a : Addr} {o : HO} (h : H a = none) : Same H (upd H a o) := fun b u e => by rw [upd_ne (ne_of_none e h)]; exact e
theorem lcW {g : TG} {tt : TT} {te : TE} {vs : List Nat} {H1 : Hp} {a : Addr} {xs : List V} (h1 : SqL K H1 a xs) (h2 : xs.length ≤ 1000) {p : V → Bool} {f : V → V}
    (step : ∀ x, x ∈ xs → ∀ (H2 : Hp) (S : VK) (F : Hp → Prop), Same H1 H2 → (p x = true → S (f x) H2) → (p x = false → F H2) → g x (wipe σ vs) H2 fun σ2 H3 => wipe σ2 vs = wipe σ vs ∧ tt σ2 H3 fun b H4 => if b = true then te σ2 H4 S else F H4)
    (last : ∀ D, H1 D = none → Q (.ref D) (upd H1 D (.lst ((xs.filter p).map f)))) (D : Addr) (hD : H1 D = none) :
    ∃ W : Nat → Nat → Hp → Prop, (∃ m, W 0 m (upd H1 D (.lst []))) ∧ ∀ i m H, W i m H →
      ((Itl K a).stop i H ∧ Q (.ref D) H) ∨ ((Itl K a).go i H ∧ ∃ Nx : Hp → Prop, (∀ H', Nx H' → ∃ m', m' < m ∧ W (i + 1) m' H') ∧ ∀ x H', (Itl K a).yld i H x H' → g x (wipe σ vs) H' fun σ2 H2 => wipe σ2 vs = wipe σ vs ∧ tt σ2 H2 fun b H3 =>
        if b = true then te σ2 H3 fun y H4 => ∃ acc, H4 D = some (.lst acc) ∧ acc.length < sizeLine ∧ Nx (upd H4 D (.lst (acc ++ [y]))) else Nx H3) := by
  refine lc_list (xs := xs) (D := D) (fun i H => H = upd H1 D (.lst (((xs.take i).filter p).map f))) (by simp) (fun i H hi e => ?_) (fun i x H e1 e2 => ?_) (fun H e => ?_)
  · subst e
    exact (same_new hD).seq h1
  · subst e2
    have tk : xs.take (i + 1) = xs.take i ++ [x] := by rw [List.take_succ, e1]; rfl
    refine step x (List.mem_of_getElem? e1) _ _ _ (same_new hD) (fun hp => ⟨_, upd_same, ?_, ?_⟩) (fun hp => ?_)
    · rw [List.length_map]
      refine Nat.lt_of_le_of_lt (Nat.le_trans (List.length_filter_le _ _) (Nat.le_trans (List.length_take_le _ _) (Nat.le_refl i))) (small1000 ?_)
      have := (List.getElem?_eq_some_iff.mp e1).1
      omega
    · rw [upd_upd, tk, List.filter_append, List.map_append]
      simp [hp]
    · show upd H1 D _ = upd H1 D _
      rw [tk, List.filter_append, List.map_append]
      simp [hp]
  · subst e
    rw [List.take_length]
    exact last D hD
/-- a comprehension over a list, which changes nothing -/
theorem lcV {i : Nat} {g : TG} {tt : TT} {te : TE} {vs : List Nat} {a : Addr} {xs : List V} (h0 : σ[i]? = some (some (.ref a))) (h1 : SqL K H a xs) (h2 : xs.length ≤ 1000) (p : V → Bool) (f : V → V)
    (step : ∀ x, x ∈ xs → ∀ (H2 : Hp) (S : VK) (F : Hp → Prop), Same H H2 → (p x = true → S (f x) H2) → (p x = false → F H2) → g x (wipe σ vs) H2 fun σ2 H3 => wipe σ2 vs = wipe σ vs ∧ tt σ2 H3 fun b H4 => if b = true then te σ2 H4 S else F H4)
    (last : ∀ D, H D = none → Q (.ref D) (upd H D (.lst ((xs.filter p).map f)))) : tLc (iList K (tVar i)) g tt te vs σ H Q := ⟨_, h0, a, rfl, ⟨xs, h1⟩, lcW h1 h2 step last⟩
theorem lcSl {i : Nat} {lo hi : Option Int} {tlo thi : TO} {g : TG} {tt : TT} {te : TE} {vs : List Nat} {a : Addr} {xs : List V} (h0 : σ[i]? = some (some (.ref a))) (h1 : SqL K H a xs) (h2 : (cutV xs lo hi).length ≤ 1000)
    (hlo : ∀ R : Option Int → Hp → Prop, R lo H → tlo σ H R) (hhi : ∀ R : Option Int → Hp → Prop, R hi H → thi σ H R) (p : V → Bool) (f : V → V)
    (step : ∀ x, x ∈ cutV xs lo hi → ∀ (H2 : Hp) (S : VK) (F : Hp → Prop), Same H H2 → (p x = true → S (f x) H2) → (p x = false → F H2) → g x (wipe σ vs) H2 fun σ2 H3 => wipe σ2 vs = wipe σ vs ∧ tt σ2 H3 fun b H4 => if b = true then te σ2 H4 S else F H4)
    (last : ∀ q, H q = none → ∀ D, upd H q (.lst (cutV xs lo hi)) D = none → Q (.ref D) (upd (upd H q (.lst (cutV xs lo hi))) D (.lst (((cutV xs lo hi).filter p).map f)))) : tLc (iList K (tSl (rSlL K) (tVar i) tlo thi)) g tt te vs σ H Q :=
  ⟨_, h0, hlo _ (hhi _ ⟨a, xs, rfl, h1, fun q hq => ⟨q, rfl, ⟨_, .of upd_same⟩, lcW (.of upd_same) h2 (fun x hx H2 S F hS => step x hx H2 S F ((same_new hq).trans hS)) (last q hq)⟩⟩)⟩
/-- a comprehension over a range, which changes nothing -/
theorem lcR {ta : TA} {g : TG} {tt : TT} {te : TE} {vs : List Nat} {n : Nat} (f : Nat → V) (hn : n ≤ 1000) (ha : ∀ R : List V → Hp → Prop, R [.int (n : Int)] H → ta σ H R)
    (step : ∀ i, i < n → ∀ (H2 : Hp) (S : VK) (F : Hp → Prop), Same H H2 → S (f i) H2 → g (.int (i : Nat)) (wipe σ vs) H2 fun σ2 H3 => wipe σ2 vs = wipe σ vs ∧ tt σ2 H3 fun b H4 => if b = true then te σ2 H4 S else F H4)
    (last : ∀ D, H D = none → Q (.ref D) (upd H D (.lst ((List.range n).map f)))) : tLc (iRng1 ta) g tt te vs σ H Q := by
  refine ha _ ⟨n, rfl, by omega, by omega, fun D hD => ?_⟩
  rw [Int.toNat_natCast]
  refine lc_range (lo := 0) (n := n) (fun i H' => H' = upd H D (.lst ((List.range i).map f))) (by simp) (fun i H' hi e => ?_) (fun H' e => ?_)
  · subst e
    rw [show ((0 : Int) + (i : Nat)) = (i : Nat) by omega]
    refine step i hi _ _ _ (same_new hD) ⟨_, upd_same, ?_, ?_⟩
    · rw [List.length_map, List.length_range]
      exact small1000 (by omega)
    · rw [upd_upd, List.range_succ, List.map_append]
      rfl
  · subst e
    exact last D hD
end
end Rd
set_option Elab.async false
set_option linter.all false
set_option maxRecDepth 100000
set_option maxHeartbeats 4000000
/-! Dt: data that stand on the heap away from the places in B, which alone may change. -/
namespace Dt
open PySem PySem.Spec PyProof.Rows L2
def kD : Key → PyData
  | .inl i => .int i
  | .inr x => .str x
mutual
inductive Da (B : Addr → Prop) (H : Hp) : V → PyData → Prop
  | non : Da B H .non .none
  | bl (b : Bool) : Da B H (.bl b) (.bool b)
  | int (i : Int) : Da B H (.int i) (.int i)
  | str {x : Str} (h : x.length ≤ 1000) : Da B H (.str x) (.str x)
  | lst {a : Addr} {xs : List V} {ds : List PyData} : H a = some (.lst xs) → ¬ B a → DaL B H xs ds → Da B H (.ref a) (.list ds)
  | tup {a : Addr} {xs : List V} {ds : List PyData} : H a = some (.tup xs) → ¬ B a → DaL B H xs ds → Da B H (.ref a) (.tuple ds)
  | dc0 {a : Addr} : H a = some (.dK []) → ¬ B a → Da B H (.ref a) (.dict [])
  | dc1 {a : Addr} {k : Key} {v : V} {d : PyData} : H a = some (.dK [(k, v)]) → ¬ B a → Da B H v d → Da B H (.ref a) (.dict [(kD k, d)])
inductive DaL (B : Addr → Prop) (H : Hp) : List V → List PyData → Prop
  | nil : DaL B H [] []
  | cons {v : V} {vs : List V} {d : PyData} {ds : List PyData} : Da B H v d → DaL B H vs ds → DaL B H (v :: vs) (d :: ds)
end
/-- all that was tracked away from B is as it was -/
def Kp (B : Addr → Prop) (H H' : Hp) : Prop := ∀ b o, H b = some o → ¬ B b → H' b = some o
theorem Kp.refl (B : Addr → Prop) (H : Hp) : Kp B H H := fun _ _ h _ => h
theorem Kp.trans {B : Addr → Prop} {H H1 H2 : Hp} (a : Kp B H H1) (b : Kp B H1 H2) : Kp B H H2 := fun c o h n => b c o (a c o h n) n
theorem Kp.of {B : Addr → Prop} {H H' : Hp} (s : Same H H') : Kp B H H' := fun b o h _ => s b o h
theorem Kp.new {B : Addr → Prop} {H H' : Hp} {a : Addr} {o : HO} (s : Kp B H H') (h : H' a = none) : Kp B H (upd H' a o) := fun b u e n => by
  have z := s b u e n
  rw [upd_ne (ne_of_none z h)]
  exact z
mutual
theorem Da.keep {B : Addr → Prop} {H H' : Hp} (s : Kp B H H') : ∀ {v : V} {d : PyData}, Da B H v d → Da B H' v d
  | _, _, .non => .non
  | _, _, .bl b => .bl b
  | _, _, .int i => .int i
  | _, _, .str h => .str h
  | _, _, .lst e n h => .lst (s _ _ e n) n (h.keep s)
  | _, _, .tup e n h => .tup (s _ _ e n) n (h.keep s)
  | _, _, .dc0 e n => .dc0 (s _ _ e n) n
  | _, _, .dc1 e n h => .dc1 (s _ _ e n) n (h.keep s)
theorem DaL.keep {B : Addr → Prop} {H H' : Hp} (s : Kp B H H') : ∀ {vs : List V} {ds : List PyData}, DaL B H vs ds → DaL B H' vs ds
  | _, _, .nil => .nil
  | _, _, .cons h t => .cons (h.keep s) (t.keep s)
end
theorem DaL.len {B : Addr → Prop} {H : Hp} : ∀ {vs : List V} {ds : List PyData}, DaL B H vs ds → vs.length = ds.length
  | _, _, .nil => rfl
  | _, _, .cons _ t => by rw [List.length_cons, List.length_cons, t.len]
theorem DaL.get {B : Addr → Prop} {H : Hp} : ∀ {vs : List V} {ds : List PyData} {i : Nat} {v : V}, DaL B H vs ds → vs[i]? = some v → ∃ d, ds[i]? = some d ∧ Da B H v d
  | _, _, 0, _, .cons h _, e => by
    cases e
    exact ⟨_, rfl, h⟩
  | _, _, i + 1, w, .cons _ t, e => t.get (i := i) (v := w) (by simpa using e)
  | _, _, _, _, .nil, e => by cases e
theorem DaL.get' {B : Addr → Prop} {H : Hp} : ∀ {vs : List V} {ds : List PyData} {i : Nat} {d : PyData}, DaL B H vs ds → ds[i]? = some d → ∃ v, vs[i]? = some v ∧ Da B H v d
  | _, _, 0, _, .cons h _, e => by
    cases e
    exact ⟨_, rfl, h⟩
  | _, _, i + 1, w, .cons _ t, e => t.get' (i := i) (d := w) (by simpa using e)
  | _, _, _, _, .nil, e => by cases e
theorem DaL.app {B : Addr → Prop} {H : Hp} : ∀ {vs us : List V} {ds es : List PyData}, DaL B H vs ds → DaL B H us es → DaL B H (vs ++ us) (ds ++ es)
  | _, _, _, _, .nil, h => h
  | _, _, _, _, .cons a t, h => .cons a (t.app h)
theorem DaL.drop {B : Addr → Prop} {H : Hp} : ∀ {vs : List V} {ds : List PyData} (n : Nat), DaL B H vs ds → DaL B H (vs.drop n) (ds.drop n)
  | _, _, 0, h => h
  | _, _, n + 1, .nil => .nil
  | _, _, n + 1, .cons _ t => t.drop n
theorem DaL.take {B : Addr → Prop} {H : Hp} : ∀ {vs : List V} {ds : List PyData} (n : Nat), DaL B H vs ds → DaL B H (vs.take n) (ds.take n)
  | _, _, 0, _ => .nil
  | _, _, n + 1, .nil => .nil
  | _, _, n + 1, .cons a t => .cons a (t.take n)
theorem DaL.mem {B : Addr → Prop} {H : Hp} {vs : List V} {ds : List PyData} {v : V} (h : DaL B H vs ds) (hv : v ∈ vs) : ∃ d, d ∈ ds ∧ Da B H v d := by
  obtain ⟨i, hi, e⟩ := List.mem_iff_getElem.mp hv
  obtain ⟨d, e1, e2⟩ := h.get (i := i) (v := v) (by rw [List.getElem?_eq_getElem hi, e])
  exact ⟨d, List.mem_of_getElem? e1, e2⟩
/-- the cut of data, as of values -/
def cutD (ds : List PyData) (lo hi : Option Int) : List PyData := (ds.drop (HT.sIx ds.length 0 lo)).take (HT.sIx ds.length ds.length hi - HT.sIx ds.length 0 lo)
theorem DaL.cut {B : Addr → Prop} {H : Hp} {vs : List V} {ds : List PyData} (h : DaL B H vs ds) (lo hi : Option Int) : DaL B H (cutV vs lo hi) (cutD ds lo hi) := by
  unfold cutV cutD
  rw [h.len]
  exact (h.drop _).take _
/-- a value's type -/
def tyD : PyData → Value
  | .none => .type "NoneType"
  | .bool _ => .type "bool"
  | .int _ => .type "int"
  | .str _ => .type "str"
  | .list _ => .type "list"
  | .tuple _ => .type "tuple"
  | .dict _ => .type "dict"
theorem Da.ty {B : Addr → Prop} {H : Hp} {K : PySem.W.Frag} {v : V} {d : PyData} (h : Da B H v d) : TyX K H v (tyD d) := by
  cases h with
  | non => exact .base .non
  | bl b => exact .base (.bl b)
  | int i => exact .base (.int i)
  | str h => exact .base (.str _)
  | lst e _ _ => exact .base (.lst e)
  | tup e _ _ => exact .base (.tup e)
  | dc0 e _ => exact .base (.dK e)
  | dc1 e _ _ => exact .base (.dK e)
def isT (n : String) (d : PyData) : Bool := match n, d with
  | "tuple", .tuple _ => true
  | "list", .list _ => true
  | "str", .str _ => true
  | "int", .int _ => true
  | "int", .bool _ => true
  | "bool", .bool _ => true
  | _, _ => false
theorem isi {B : Addr → Prop} {H : Hp} {K : PySem.W.Frag} {Q : VK} {v : V} {d : PyData} {n : String} {b : Bool} (h : Da B H v d) (hk : PySem.W.kitOne K (tyD d) (.type n) = some b) (q : Q (.bl b) H) : rIsi K [v, .ty n] H Q :=
  ⟨v, .ty n, tyD d, .type n, b, rfl, .ty n, h.ty, hk, q⟩
theorem isi_tup {B : Addr → Prop} {H : Hp} {K : PySem.W.Frag} {Q : VK} {v : V} {d : PyData} (h : Da B H v d) (q : Q (.bl (isT "tuple" d)) H) : rIsi K [v, .ty "tuple"] H Q := isi h (by cases d <;> rfl) q
theorem isi_str {B : Addr → Prop} {H : Hp} {K : PySem.W.Frag} {Q : VK} {v : V} {d : PyData} (h : Da B H v d) (q : Q (.bl (isT "str" d)) H) : rIsi K [v, .ty "str"] H Q := isi h (by cases d <;> rfl) q
theorem isi_int {B : Addr → Prop} {H : Hp} {K : PySem.W.Frag} {Q : VK} {v : V} {d : PyData} (h : Da B H v d) (q : Q (.bl (isT "int" d)) H) : rIsi K [v, .ty "int"] H Q := isi h (by cases d <;> rfl) q
theorem isi_bool {B : Addr → Prop} {H : Hp} {K : PySem.W.Frag} {Q : VK} {v : V} {d : PyData} (h : Da B H v d) (q : Q (.bl (isT "bool" d)) H) : rIsi K [v, .ty "bool"] H Q := isi h (by cases d <;> rfl) q
theorem isi_list {B : Addr → Prop} {H : Hp} {K : PySem.W.Frag} {Q : VK} {v : V} {d : PyData} (h : Da B H v d) (q : Q (.bl (isT "list" d)) H) : rIsi K [v, .ty "list"] H Q := isi h (by cases d <;> rfl) q

/-! what they read as -/
section
variable {X : Cx} {pins : List (Addr × Obj)} {σ : L2.St} {H : Hp} {s : Shared} {B : Addr → Prop}
theorem key_reads {P : Program} {w : World} {k : Key} {v : Value} {h : Heap} (e : (mixKind P w).is k v = true) : Reads h v (kD k) [] := by
  rcases keyIs_shape e with ⟨i, t, rfl, rfl⟩ | ⟨x, t, rfl, rfl⟩
  · exact .int i t
  · exact .str x t
mutual
theorem Da.reads (I : Inv X pins σ H s) (hm : H sysModules = none) : ∀ {d : PyData} {v : V} {u : Value}, Da B H v d → RelV v u → ∃ as, Reads s.heap u d as ∧ sysModules ∉ as
  | _, _, _, .non, r => by
    cases r
    exact ⟨_, Reads.none, by simp⟩
  | _, _, _, .bl b, r => by
    cases r
    exact ⟨_, Reads.bool b, by simp⟩
  | _, _, _, .int i, r => by
    obtain ⟨t, rfl⟩ := r
    exact ⟨_, Reads.int i t, by simp⟩
  | _, _, _, .str _, r => by
    obtain ⟨t, rfl⟩ := r
    exact ⟨_, Reads.str _ t, by simp⟩
  | _, _, _, .lst (a := a) e n ha, r => by
    cases r
    obtain ⟨its, rv, ⟨o, n, ho, hc, _, hd⟩, _⟩ := I.list (SqL.of e)
    obtain ⟨as, hr, hs⟩ := DaL.reads I hm ha rv
    refine ⟨_, Reads.list ho hc hd hr, fun z => ?_⟩
    rcases List.mem_cons.mp z with z | z
    · rw [← z, hm] at e
      cases e
    · exact hs z
  | _, _, _, .tup e n ha, r => by
    cases r
    obtain ⟨its, rv, ⟨o, ho, hc, n, hd⟩, _⟩ := I.tuple (SqT.of e)
    obtain ⟨as, hr, hs⟩ := DaL.reads I hm ha rv
    exact ⟨_, Reads.tuple ho hc hd hr, hs⟩
  | _, _, _, .dc0 (a := a) e n, r => by
    cases r
    obtain ⟨_, hsm, vs, hk, o, es, ep, ho, hx, hd, _, hp, _⟩ := (show ObjOk X.prog X.w H s.heap a (.dK []) from I.hok a _ e)
    cases hk
    have hp' : Pairs (mixKind X.prog X.w) es.toList [] := hp
    cases hes : es.toList with
    | cons x r => rw [hes] at hp'; cases hp'
    | nil =>
      refine ⟨_, Reads.dict (kvs := []) ho hx.1 hd (by rw [hes]; exact .nil) (by rw [hes]; exact .nil), fun z => ?_⟩
      have z : sysModules = a := by simpa using z
      rw [← z] at hsm
      simp at hsm
  | _, _, _, .dc1 (a := a) (k := k) (v := w) (d := d) e n hv, r => by
    cases r
    obtain ⟨_, hsm, vs, hk, o, es, ep, ho, hx, hd, _, hp, _⟩ := (show ObjOk X.prog X.w H s.heap a (.dK [(k, w)]) from I.hok a _ e)
    cases hk with
    | cons hq hk =>
      cases hk
      rename_i kv
      obtain ⟨h1, h2⟩ := hq
      dsimp only at h1 h2
      cases hes : es.toList with
      | nil => rw [hes] at hp; cases hp
      | cons x r =>
        rw [hes] at hp
        cases hp with
        | cons p1 p2 p3 =>
          cases p3
          rw [← h1] at p1
          rw [← p2] at h2
          obtain ⟨as, hr, hs⟩ := Da.reads I hm hv h2
          refine ⟨_, Reads.dict (kvs := [(kD k, d)]) ho hx.1 hd (by rw [hes]; exact .cons (key_reads p1) .nil) (by rw [hes]; exact .cons hr .nil), fun z => ?_⟩
          have z : sysModules = a ∨ sysModules ∈ as := by simpa using z
          rcases z with z | z
          · rw [← z] at hsm
            simp at hsm
          · exact hs z
theorem DaL.reads (I : Inv X pins σ H s) (hm : H sysModules = none) : ∀ {ds : List PyData} {vs : List V} {us : List Value}, DaL B H vs ds → Vals vs us → ∃ as, ReadsAll s.heap us ds as ∧ sysModules ∉ as
  | _, _, _, .nil, r => by
    cases r
    exact ⟨_, ReadsAll.nil, by simp⟩
  | _, _, _, .cons h1 h2, r => by
    cases r with
    | cons r1 r2 =>
      obtain ⟨as, q1, n1⟩ := Da.reads I hm h1 r1
      obtain ⟨bs, q2, n2⟩ := DaL.reads I hm h2 r2
      exact ⟨_, ReadsAll.cons q1 q2, by rw [List.mem_append]; rintro (z | z); exact n1 z; exact n2 z⟩
end
/-- repr of such data -/
def rRepr (B : Addr → Prop) : List V → Hp → VK → Prop := fun xs H Q => ∃ v d, xs = [v] ∧ Da B H v d ∧ d.showable = true ∧ d.shown.length ≤ sizeLine ∧ d.depth ≤ 190 ∧ Q (.str d.shown) H
theorem call_repr {k : Nat} (hr : Room k X.A) (hG : X.A.guards = some []) (hsm : (X.K.lookup sysModules).isSome = true) : CallR X (.builtin "repr") (rRepr B) := by
  intro pins s σ H xs us Q I r h
  obtain ⟨v, d, rfl, hd, h1, h2, h3, q⟩ := h
  obtain ⟨u, rfl, rv⟩ : ∃ u, us = [u] ∧ RelV v u := by
    cases r with
    | cons a b =>
      cases b
      exact ⟨_, rfl, a⟩
  have hm : H sysModules = none := by
    obtain ⟨o, ho⟩ := Option.isSome_iff_exists.mp hsm
    exact (I.env0.bs _ _ (I.ok.mod.kin _ _ ho)).2
  obtain ⟨as, hR, hns⟩ := hd.reads I hm rv
  have fin : ∀ tk u', EP X pins σ Q (.str d.shown u') { s with toks := tk } := fun tk u' => ⟨.str d.shown, H, I.tok _, ⟨u', rfl⟩, q⟩
  have un := hr.un
  have big : ∀ a, u = Value.ref a → wpAny (model X.prog X.w) X.A (call (.builtin "repr") [u]) (EP X pins σ Q) X.xe s := by
    rintro a rfl
    refine repr_of_reads' hR h1 (fun _ => hns) hG (by omega) (fun _ _ e => e) (fun h' u' tk k => ?_) h2
    exact ⟨.str d.shown, H, I.kept (t' := tk) k, ⟨u', rfl⟩, q⟩
  cases hd with
  | non =>
    cases rv
    exact P.repr_of_none (fin _ _)
  | bl b =>
    cases rv
    refine P.repr_of_bool ?_
    have := fin (s.toks + 1) s.toks
    rw [PyData.shown] at this
    exact this
  | int i =>
    obtain ⟨t, rfl⟩ := rv
    exact P.repr_of_int (by simpa [PyData.showable] using h1) (fin _ _)
  | str _ =>
    obtain ⟨t, rfl⟩ := rv
    exact P.repr_of_str (fin _ _) (by simpa [PyData.shown] using h2)
  | lst _ _ _ => exact big _ rv
  | tup _ _ _ => exact big _ rv
  | dc0 _ _ => exact big _ rv
  | dc1 _ _ _ => exact big _ rv
end
end Dt
set_option Elab.async false
set_option linter.all false
set_option maxRecDepth 100000
set_option maxHeartbeats 4000000
/-! Dg: the readings' words for data. -/
namespace Dt
open PySem PySem.Spec PyProof.Rows L2
/-- d.get(text, x), d a dict of the written part -/
def tKGet2 (K : PySem.W.Frag) (w : World) (td ty tx : TE) : TE := fun σ H Q => td σ H fun x H1 => ∃ a es n, x = .ref a ∧ KDict K w a es n ∧ ty σ H1 fun y H2 => tx σ H2 fun d H3 => ∃ z v, y = .str z ∧ (∀ u0, RelV d u0 → RelV v ((findBy Value.isStrOf es z).getD u0)) ∧ Q v H3
theorem pe_kget2 {X : Cx} {o e f : Expr} {apos cpos : Pos} {td ty tx : TE} (ho : PE X o td) (he : PE X e ty) (hf : PE X f tx) (m : M2 X o "get" apos e f cpos) : PE X (.Call (.Attribute o "get" apos) [e, f] [] cpos) (tKGet2 X.K X.w td ty tx) := by
  refine ⟨fun pins s σ H Q I h => ?_⟩
  refine wpAny_Call_method m.base m.few m.line PySem.F.plainAttrs_dict PySem.F.slot_dict_get PySem.F.type_dict_get (thn (ho.run pins s σ H _ I h) fun u s1 ⟨x, H1, I1, rx, a, es, n, ex, D, q1⟩ => ?_)
  subst ex
  obtain rfl : u = Value.ref a := rx
  obtain ⟨hl, hk, hsm⟩ := D
  have hm1 := PySem.W.mapOf_K (prog := X.prog) (w := X.w) I1.kIn hl hk
  refine ⟨hm1.typeIs, fun b q => ?_, ?_⟩
  · cases q
    exact ⟨_, I1.kIn _ _ hl, rfl⟩
  rw [m.trees]
  refine Calls.callWith_builtin rfl (Calls.evalArgs_plain (Calls.spliced_cons (thn (he.run pins s1 σ H1 _ I1 q1) fun iv s2 ⟨y, H2, I2, ry, q2⟩ =>
    Calls.spliced_cons (thn (hf.run pins s2 σ H2 _ I2 q2) fun fv s3 ⟨d, H3, I3, rd, z, v, ey, rv, q3⟩ => Calls.spliced_nil ?_))))
  subst ey
  obtain ⟨t, rfl⟩ := ry
  have hm3 := PySem.W.mapOf_K (prog := X.prog) (w := X.w) I3.kIn hl hk
  refine call_meetsIn PySem.F.slot_dict_get hm3.typeIs PySem.F.entry_dict_get (PySem.F.args_dict_get_3 _ _ _) (meets_dict_get_default (strKind X.prog X.w) a (strKind_is X.prog X.w z t) hsm fv) ⟨_, hm3, ?_⟩
  exact ⟨v, H3, I3.tok _, rv _ rd, q3⟩
/-- a text times an int -/
def mulT (z : Str) (n : Int) : Str := ⟨(List.replicate n.toNat z.cps).foldl (· ++ ·) #[]⟩
def rMulS : R2 := fun x y H Q => ∃ z n, x = .str z ∧ y = .int n ∧ 2 ≤ n ∧ n ≤ 1000 ∧ (n == 1 || z.length == 0) = false ∧ z.length ≤ 1000 ∧ Builtin.Str.tooLong (z.length * n.toNat) = false ∧ (mulT z n).length ≤ sizeLine ∧ Q (.str (mulT z n)) H
theorem op_mulS {X : Cx} : OpR X (binaryOp .Mult) rMulS := by
  intro pins s σ H x y v u Q I rx ry h
  obtain ⟨z, n, rfl, rfl, h1, h2, h3, h4, h5, h6, q⟩ := h
  obtain ⟨t, rfl⟩ := rx
  obtain ⟨t', rfl⟩ := ry
  refine P.mul_str (by rw [decide_eq_false (by omega), decide_eq_false (by omega)]; rfl) (fun _ _ => ?_) (fun _ _ => h5) ?_
  · have h7 : (1000 : Int) ≤ (2 ^ 63 - 1) / n := by
      rw [Int.le_ediv_iff_mul_le (by omega)]
      omega
    omega
  · rw [if_neg (by omega), if_neg (by rw [h3]; exact Bool.false_ne_true)]
    exact ⟨h6, ⟨.str (mulT z n), H, I.tok _, ⟨_, rfl⟩, q⟩⟩
theorem mulS {H : Hp} {Q : VK} {z : Str} {n : Int} (h1 : 2 ≤ n) (h2 : n ≤ 1000) (h3 : ((n == 1 || z.length == 0) = false) ∧ z.length ≤ 1000) (h5 : Builtin.Str.tooLong (z.length * n.toNat) = false) (h6 : (mulT z n).length ≤ sizeLine) (h : Q (.str (mulT z n)) H) : rMulS (.str z) (.int n) H Q := ⟨z, n, rfl, rfl, h1, h2, h3.1, h3.2, h5, h6, h⟩
theorem dnew {σ : L2.St} {H : Hp} {Q : VK} (h : ∀ p, H p = none → Q (.ref p) (upd H p (.dK []))) : tDNewK σ H Q := h
/-- B stands -/
def Tr (B : Addr → Prop) (H : Hp) : Prop := ∀ a, H a = none → ¬ B a
theorem Tr.same {B : Addr → Prop} {H H' : Hp} (t : Tr B H) (s : Same H H') : Tr B H' := fun a h => t a (s.free h)
theorem Tr.none {H : Hp} : Tr (fun _ => False) H := fun _ _ z => z
theorem Da.same {B : Addr → Prop} {H H' : Hp} {v : V} {d : PyData} (h : Da B H v d) (s : Same H H') : Da B H' v d := h.keep (.of s)
theorem DaL.same {B : Addr → Prop} {H H' : Hp} {v : List V} {d : List PyData} (h : DaL B H v d) (s : Same H H') : DaL B H' v d := h.keep (.of s)
mutual
theorem Da.imp {B B' : Addr → Prop} {H : Hp} (h : ∀ a o, H a = some o → ¬ B a → ¬ B' a) : ∀ {v : V} {d : PyData}, Da B H v d → Da B' H v d
  | _, _, .non => .non
  | _, _, .bl b => .bl b
  | _, _, .int i => .int i
  | _, _, .str x => .str x
  | _, _, .lst e n l => .lst e (h _ _ e n) (l.imp h)
  | _, _, .tup e n l => .tup e (h _ _ e n) (l.imp h)
  | _, _, .dc0 e n => .dc0 e (h _ _ e n)
  | _, _, .dc1 e n l => .dc1 e (h _ _ e n) (l.imp h)
theorem DaL.imp {B B' : Addr → Prop} {H : Hp} (h : ∀ a o, H a = some o → ¬ B a → ¬ B' a) : ∀ {vs : List V} {ds : List PyData}, DaL B H vs ds → DaL B' H vs ds
  | _, _, .nil => .nil
  | _, _, .cons a t => .cons (a.imp h) (t.imp h)
end
section
variable {σ : L2.St} {H : Hp} {Q : VK} {K : PySem.W.Frag} {B : Addr → Prop}
theorem cutV_whole {α : Type} {xs : List α} {lo hi : Option Int} (h : HT.sIx xs.length 0 lo = 0 ∧ HT.sIx xs.length xs.length hi = xs.length) : (xs.drop (HT.sIx xs.length 0 lo)).take (HT.sIx xs.length xs.length hi - HT.sIx xs.length 0 lo) = xs := by
  rw [h.1, h.2]
  simp
/-- a slice of a tuple -/
theorem sl {v : V} {ds : List PyData} {lo hi : Option Int} (h : Da B H v (.tuple ds)) (t : Tr B H) (k : ∀ (u : V) (H' : Hp), Same H H' → Da B H' u (.tuple (cutD ds lo hi)) → Q u H') : rSlA K v lo hi H Q := by
  cases h with
  | @tup a xs _ e n hl =>
    refine ⟨a, xs, rfl, .of e, fun hw => k _ _ (Same.refl _) ?_, fun hw p hp => k _ _ (Rd.same_new hp) ?_⟩
    · have hw' : HT.sIx ds.length 0 lo = 0 ∧ HT.sIx ds.length ds.length hi = ds.length := by rw [hl.len] at hw; exact hw
      unfold cutD
      rw [cutV_whole hw']
      exact .tup e n hl
    · exact .tup upd_same (t _ hp) ((hl.cut lo hi).same (Rd.same_new hp))
/-- tuples joined -/
theorem cat {v u : V} {ds es : List PyData} (h1 : Da B H v (.tuple ds)) (h2 : Da B H u (.tuple es)) (t : Tr B H) (hz : ds.length + es.length ≤ sizeLine) (k : ∀ (u : V) (H' : Hp), Same H H' → Da B H' u (.tuple (ds ++ es)) → Q u H') : rCatA K v u H Q := by
  cases h1 with
  | @tup a xs _ e n hl =>
    cases h2 with
    | @tup b ys _ e2 n2 hl2 =>
      refine ⟨a, b, xs, ys, rfl, rfl, .of e, .of e2, by rw [hl.len, hl2.len]; exact hz, fun hx => ?_, fun hx hy => ?_, fun hx hy p hp => ?_⟩
      · subst hx
        cases hl
        exact k _ _ (Same.refl _) (.tup e2 n2 hl2)
      · subst hy
        cases hl2
        rw [List.append_nil] at k
        exact k _ _ (Same.refl _) (.tup e n hl)
      · exact k _ _ (Rd.same_new hp) (.tup upd_same (t _ hp) ((hl.app hl2).same (Rd.same_new hp)))
/-- a new tuple, a new list, a new dict of data -/
theorem newT {xs : List V} {ds : List PyData} (h : DaL B H xs ds) (t : Tr B H) (hz : ds.length ≤ sizeLine) (k : ∀ (u : V) (H' : Hp), Same H H' → Da B H' u (.tuple ds) → Q u H') : xs.length ≤ sizeLine ∧ ∀ p, H p = none → Q (.ref p) (upd H p (.tup xs)) :=
  ⟨by rw [h.len]; exact hz, fun p hp => k _ _ (Rd.same_new hp) (.tup upd_same (t _ hp) (h.same (Rd.same_new hp)))⟩
theorem newL {xs : List V} {ds : List PyData} (h : DaL B H xs ds) (t : Tr B H) (hz : ds.length ≤ sizeLine) (k : ∀ (u : V) (H' : Hp), Same H H' → Da B H' u (.list ds) → Q u H') : xs.length ≤ sizeLine ∧ ∀ p, H p = none → Q (.ref p) (upd H p (.lst xs)) :=
  ⟨by rw [h.len]; exact hz, fun p hp => k _ _ (Rd.same_new hp) (.lst upd_same (t _ hp) (h.same (Rd.same_new hp)))⟩
theorem d0 (t : Tr B H) (k : ∀ (u : V) (H' : Hp), Same H H' → Da B H' u (.dict []) → Q u H') : tDNewK σ H Q := fun p hp => k _ _ (Rd.same_new hp) (.dc0 upd_same (t _ hp))
/-- a comprehension over a text, which changes nothing -/
theorem lcS {te0 : TE} {g : TG} {tt : TT} {te : TE} {vs : List Nat} {x : Str} (h0 : ∀ S : VK, S (.str x) H → te0 σ H S) (hz : x.length ≤ 1000) (f : Nat → V)
    (step : ∀ c, c ∈ x.cps.toList → ∀ (H2 : Hp) (S : VK) (F : Hp → Prop), Same H H2 → S (f c) H2 → g (.str ⟨#[c]⟩) (wipe σ vs) H2 fun σ2 H3 => wipe σ2 vs = wipe σ vs ∧ tt σ2 H3 fun b H4 => if b = true then te σ2 H4 S else F H4)
    (last : ∀ D, H D = none → Q (.ref D) (upd H D (.lst (x.cps.toList.map f)))) : tLc (iStr te0) g tt te vs σ H Q := by
  refine h0 _ ⟨x, rfl, fun D hD => lc_it walk_str (fun i H' => H' = upd H D (.lst ((x.cps.toList.take i).map f))) (by simp) (fun _ _ _ _ => True.intro) (fun i y H' H'' hi e hy => ?_) (fun H' e => ?_)⟩
  · subst e
    obtain ⟨rfl, c, hc, rfl⟩ := hy
    have hc' : x.cps.toList[i]? = some c := by rw [Array.getElem?_toList]; exact hc
    have tk : x.cps.toList.take (i + 1) = x.cps.toList.take i ++ [c] := by rw [List.take_add_one, hc']; rfl
    refine step c (List.mem_of_getElem? hc') _ _ _ (Rd.same_new hD) ⟨_, upd_same, ?_, ?_⟩
    · rw [List.length_map]
      have hl : i < x.length := hi
      exact Nat.lt_of_le_of_lt (List.length_take_le _ _) (small1000 (by omega))
    · rw [Rd.upd_upd, tk, List.map_append]
      rfl
  · subst e
    rw [show x.cps.size = x.cps.toList.length by simp, List.take_length]
    exact last D hD
/-- a comprehension over a tuple, which may lay new things -/
theorem lcT {te0 : TE} {g : TG} {tt : TT} {te : TE} {vs : List Nat} {a : Addr} {xs : List V} (R : Addr → Nat → List V → Hp → Prop) (hx : ∀ S : VK, S (.ref a) H → te0 σ H S) (h1 : SqT K H a xs) (h2 : xs.length ≤ 1000) (h3 : ∀ H', Same H H' → SqT K H' a xs)
    (r0 : ∀ D H', H D = none → R D 0 [] H') (rr : ∀ D i acc H1 H2, R D i acc H1 → Kp (fun b => b = D) H1 H2 → R D i acc H2)
    (step : ∀ D, H D = none → ∀ i x acc, xs[i]? = some x → ∀ (H1 : Hp) (S : VK) (F : Hp → Prop), Same H H1 → H1 D = some (.lst acc) → R D i acc H1 → (∀ y H2, Same H1 H2 → R D (i + 1) (acc ++ [y]) H2 → S y H2) →
      g x (wipe σ vs) H1 fun σ2 H3 => wipe σ2 vs = wipe σ vs ∧ tt σ2 H3 fun b H4 => if b = true then te σ2 H4 S else F H4)
    (last : ∀ (D : Addr) (acc : List V) (H1 : Hp), acc.length = xs.length → Same H H1 → H D = none → H1 D = some (.lst acc) → R D xs.length acc H1 → Q (.ref D) H1) : tLc (iTup K te0) g tt te vs σ H Q := by
  refine hx _ ⟨a, rfl, ⟨xs, h1⟩, fun D hD => lc_it (walk_tup (xs := xs)) (fun i H' => ∃ acc, acc.length = i ∧ H' D = some (.lst acc) ∧ Same H H' ∧ R D i acc H') ⟨[], rfl, upd_same, Rd.same_new hD, r0 _ _ hD⟩
    (fun i H' _ h => ?_) (fun i x H' H'' hi h hy => ?_) (fun H' h => ?_)⟩
  · obtain ⟨acc, _, _, s, _⟩ := h
    exact h3 _ s
  · obtain ⟨acc, l, e, s, r⟩ := h
    obtain ⟨rfl, hx'⟩ := hy
    refine step D hD i x acc hx' _ _ _ s e r fun y H2 s2 r2 => ⟨acc, s2 _ _ e, small1000 (by omega), acc ++ [y], by simp [l], upd_same, fun b o hb => ?_, rr _ _ _ _ _ r2 fun b o hb n => ?_⟩
    · rw [upd_ne (ne_of_none hb hD)]
      exact s2 _ _ (s _ _ hb)
    · rw [upd_ne n]
      exact hb
  · obtain ⟨acc, l, e, s, r⟩ := h
    exact last D acc H' l s hD e r
end
end Dt
set_option Elab.async false
set_option linter.all false
set_option maxRecDepth 100000
set_option maxHeartbeats 4000000
/-! Dw: readings over data. D: a value with all that hangs on it, no heap; what changes is kept apart (Wd). -/
namespace Dw
open PySem PySem.Spec PyProof.Rows L2
inductive D where
  | non | bl (b : Bool) | int (i : Int) | str (x : Str)
  | lst (ds : List D) | tup (ds : List D)
  | dic (kvs : List (Key × D)) | dit (kvs : List (List Key × D))
  | obj (C : Addr) (fs : List (Str × D))
  | opq (a : Addr) | ty (n : String)
  deriving Inhabited
mutual
inductive Da (B : Addr → Prop) (H : Hp) : V → D → Prop
  | non : Da B H .non .non
  | bl (b : Bool) : Da B H (.bl b) (.bl b)
  | int (i : Int) : Da B H (.int i) (.int i)
  | str {x : Str} (h : x.length ≤ sizeLine) : Da B H (.str x) (.str x)
  | lst {a : Addr} {xs : List V} {ds : List D} : H a = some (.lst xs) → ¬ B a → DaL B H xs ds → ds.length ≤ sizeLine → Da B H (.ref a) (.lst ds)
  | tup {a : Addr} {xs : List V} {ds : List D} : H a = some (.tup xs) → ¬ B a → DaL B H xs ds → ds.length ≤ sizeLine → Da B H (.ref a) (.tup ds)
  | dic {a : Addr} {xs : List (Key × V)} {ds : List (Key × D)} : H a = some (.dK xs) → ¬ B a → DaK B H xs ds → Da B H (.ref a) (.dic ds)
  | dit {a : Addr} {xs : List (List Key × V)} {ds : List (List Key × D)} : H a = some (.dT xs) → ¬ B a → DaT B H xs ds → Da B H (.ref a) (.dit ds)
  | obj {a C dx : Addr} {xs : List (Str × V)} {ds : List (Str × D)} : H a = some (.ins C dx xs) → ¬ B a → DaF B H xs ds → Da B H (.ref a) (.obj C ds)
  | opq (a : Addr) : Da B H (.ref a) (.opq a)
  | ty (n : String) : Da B H (.ty n) (.ty n)
inductive DaL (B : Addr → Prop) (H : Hp) : List V → List D → Prop
  | nil : DaL B H [] []
  | cons {v : V} {vs : List V} {d : D} {ds : List D} : Da B H v d → DaL B H vs ds → DaL B H (v :: vs) (d :: ds)
inductive DaK (B : Addr → Prop) (H : Hp) : List (Key × V) → List (Key × D) → Prop
  | nil : DaK B H [] []
  | cons {k : Key} {v : V} {vs : List (Key × V)} {d : D} {ds : List (Key × D)} : Da B H v d → DaK B H vs ds → DaK B H ((k, v) :: vs) ((k, d) :: ds)
inductive DaT (B : Addr → Prop) (H : Hp) : List (List Key × V) → List (List Key × D) → Prop
  | nil : DaT B H [] []
  | cons {k : List Key} {v : V} {vs : List (List Key × V)} {d : D} {ds : List (List Key × D)} : Da B H v d → DaT B H vs ds → DaT B H ((k, v) :: vs) ((k, d) :: ds)
inductive DaF (B : Addr → Prop) (H : Hp) : List (Str × V) → List (Str × D) → Prop
  | nil : DaF B H [] []
  | cons {k : Str} {v : V} {vs : List (Str × V)} {d : D} {ds : List (Str × D)} : Da B H v d → DaF B H vs ds → DaF B H ((k, v) :: vs) ((k, d) :: ds)
end
/-- from B and H to B' and H': what data stand on stands -/
def Mv (B : Addr → Prop) (H : Hp) (B' : Addr → Prop) (H' : Hp) : Prop := ∀ a o, H a = some o → ¬ B a → H' a = some o ∧ ¬ B' a
theorem Mv.refl {B : Addr → Prop} {H : Hp} : Mv B H B H := fun _ _ h n => ⟨h, n⟩
theorem Mv.trans {B B' B'' : Addr → Prop} {H H' H'' : Hp} (m : Mv B H B' H') (n : Mv B' H' B'' H'') : Mv B H B'' H'' := fun a o h b => n a o (m a o h b).1 (m a o h b).2
mutual
theorem Da.mv {B B' : Addr → Prop} {H H' : Hp} (s : Mv B H B' H') : ∀ {v : V} {d : D}, Da B H v d → Da B' H' v d
  | _, _, .non => .non
  | _, _, .bl b => .bl b
  | _, _, .int i => .int i
  | _, _, .str h => .str h
  | _, _, .lst e n h z => .lst (s _ _ e n).1 (s _ _ e n).2 (h.mv s) z
  | _, _, .tup e n h z => .tup (s _ _ e n).1 (s _ _ e n).2 (h.mv s) z
  | _, _, .dic e n h => .dic (s _ _ e n).1 (s _ _ e n).2 (h.mv s)
  | _, _, .dit e n h => .dit (s _ _ e n).1 (s _ _ e n).2 (h.mv s)
  | _, _, .obj e n h => .obj (s _ _ e n).1 (s _ _ e n).2 (h.mv s)
  | _, _, .opq a => .opq a
  | _, _, .ty n => .ty n
theorem DaL.mv {B B' : Addr → Prop} {H H' : Hp} (s : Mv B H B' H') : ∀ {vs : List V} {ds : List D}, DaL B H vs ds → DaL B' H' vs ds
  | _, _, .nil => .nil
  | _, _, .cons h t => .cons (h.mv s) (t.mv s)
theorem DaK.mv {B B' : Addr → Prop} {H H' : Hp} (s : Mv B H B' H') : ∀ {vs : List (Key × V)} {ds : List (Key × D)}, DaK B H vs ds → DaK B' H' vs ds
  | _, _, .nil => .nil
  | _, _, .cons h t => .cons (h.mv s) (t.mv s)
theorem DaT.mv {B B' : Addr → Prop} {H H' : Hp} (s : Mv B H B' H') : ∀ {vs : List (List Key × V)} {ds : List (List Key × D)}, DaT B H vs ds → DaT B' H' vs ds
  | _, _, .nil => .nil
  | _, _, .cons h t => .cons (h.mv s) (t.mv s)
theorem DaF.mv {B B' : Addr → Prop} {H H' : Hp} (s : Mv B H B' H') : ∀ {vs : List (Str × V)} {ds : List (Str × D)}, DaF B H vs ds → DaF B' H' vs ds
  | _, _, .nil => .nil
  | _, _, .cons h t => .cons (h.mv s) (t.mv s)
end
section
variable {B : Addr → Prop} {H : Hp}
theorem DaL.len : ∀ {vs : List V} {ds : List D}, DaL B H vs ds → vs.length = ds.length
  | _, _, .nil => rfl
  | _, _, .cons _ t => by rw [List.length_cons, List.length_cons, t.len]
theorem DaL.get : ∀ {vs : List V} {ds : List D} {i : Nat} {v : V}, DaL B H vs ds → vs[i]? = some v → ∃ d, ds[i]? = some d ∧ Da B H v d
  | _, _, 0, _, .cons h _, e => by
    cases e
    exact ⟨_, rfl, h⟩
  | _, _, i + 1, w, .cons _ t, e => t.get (i := i) (v := w) (by simpa using e)
  | _, _, _, _, .nil, e => by cases e
theorem DaL.get' : ∀ {vs : List V} {ds : List D} {i : Nat} {d : D}, DaL B H vs ds → ds[i]? = some d → ∃ v, vs[i]? = some v ∧ Da B H v d
  | _, _, 0, _, .cons h _, e => by
    cases e
    exact ⟨_, rfl, h⟩
  | _, _, i + 1, w, .cons _ t, e => t.get' (i := i) (d := w) (by simpa using e)
  | _, _, _, _, .nil, e => by cases e
theorem DaL.app : ∀ {vs us : List V} {ds es : List D}, DaL B H vs ds → DaL B H us es → DaL B H (vs ++ us) (ds ++ es)
  | _, _, _, _, .nil, h => h
  | _, _, _, _, .cons a t, h => .cons a (t.app h)
theorem DaL.drop : ∀ {vs : List V} {ds : List D} (n : Nat), DaL B H vs ds → DaL B H (vs.drop n) (ds.drop n)
  | _, _, 0, h => h
  | _, _, n + 1, .nil => .nil
  | _, _, n + 1, .cons _ t => t.drop n
theorem DaL.take : ∀ {vs : List V} {ds : List D} (n : Nat), DaL B H vs ds → DaL B H (vs.take n) (ds.take n)
  | _, _, 0, _ => .nil
  | _, _, n + 1, .nil => .nil
  | _, _, n + 1, .cons a t => .cons a (t.take n)
theorem DaL.rev : ∀ {vs : List V} {ds : List D}, DaL B H vs ds → DaL B H vs.reverse ds.reverse
  | _, _, .nil => .nil
  | _, _, .cons a t => by
    rw [List.reverse_cons, List.reverse_cons]
    exact t.rev.app (.cons a .nil)
theorem DaL.setAt : ∀ {vs : List V} {ds : List D} (i : Nat) {v : V} {d : D}, DaL B H vs ds → Da B H v d → DaL B H (vs.set i v) (ds.set i d)
  | _, _, _, _, _, .nil, _ => .nil
  | _, _, 0, _, _, .cons _ t, h => .cons h t
  | _, _, i + 1, _, _, .cons a t, h => .cons a (t.setAt i h)
theorem DaL.erase : ∀ {vs : List V} {ds : List D} (i : Nat), DaL B H vs ds → DaL B H (vs.eraseIdx i) (ds.eraseIdx i)
  | _, _, _, .nil => .nil
  | _, _, 0, .cons _ t => t
  | _, _, i + 1, .cons a t => .cons a (t.erase i)
theorem DaL.mem {vs : List V} {ds : List D} {v : V} (h : DaL B H vs ds) (hv : v ∈ vs) : ∃ d, d ∈ ds ∧ Da B H v d := by
  obtain ⟨i, hi, e⟩ := List.mem_iff_getElem.mp hv
  obtain ⟨d, e1, e2⟩ := h.get (i := i) (v := v) (by rw [List.getElem?_eq_getElem hi, e])
  exact ⟨d, List.mem_of_getElem? e1, e2⟩
theorem DaF.look : ∀ {vs : List (Str × V)} {ds : List (Str × D)} {f : Str} {d : D}, DaF B H vs ds → ds.lookup f = some d → ∃ v, vs.lookup f = some v ∧ Da B H v d
  | _, _, f, d, .nil, e => by cases e
  | _, _, f, d, .cons (k := k) h t, e => by
    by_cases q : (f == k) = true
    · rw [List.lookup_cons, q] at e
      cases e
      exact ⟨_, by rw [List.lookup_cons, q], h⟩
    · have q' : (f == k) = false := by simpa using q
      rw [List.lookup_cons, q'] at e
      obtain ⟨v, e1, h1⟩ := t.look e
      exact ⟨v, by rw [List.lookup_cons, q']; exact e1, h1⟩
theorem DaF.nolook : ∀ {vs : List (Str × V)} {ds : List (Str × D)} {f : Str}, DaF B H vs ds → ds.lookup f = none → vs.lookup f = none
  | _, _, f, .nil, e => rfl
  | _, _, f, .cons (k := k) h t, e => by
    by_cases q : (f == k) = true
    · rw [List.lookup_cons, q] at e
      cases e
    · have q' : (f == k) = false := by simpa using q
      rw [List.lookup_cons, q'] at e
      rw [List.lookup_cons, q']
      exact t.nolook e
theorem DaF.len : ∀ {vs : List (Str × V)} {ds : List (Str × D)}, DaF B H vs ds → vs.length = ds.length
  | _, _, .nil => rfl
  | _, _, .cons _ t => by rw [List.length_cons, List.length_cons, t.len]
end
/-! the sizes that all data have -/
mutual
def D.ok : D → Prop
  | .str x => x.length ≤ sizeLine
  | .lst ds => ds.length ≤ sizeLine ∧ D.oks ds
  | .tup ds => ds.length ≤ sizeLine ∧ D.oks ds
  | _ => True
def D.oks : List D → Prop
  | [] => True
  | d :: r => d.ok ∧ D.oks r
end
mutual
theorem Da.ok {B : Addr → Prop} {H : Hp} : ∀ {d : D} {v : V}, Da B H v d → d.ok
  | .non, _, _ => by unfold D.ok; exact True.intro
  | .bl _, _, _ => by unfold D.ok; exact True.intro
  | .int _, _, _ => by unfold D.ok; exact True.intro
  | .str _, _, h => by
    cases h with
    | str h => unfold D.ok; exact h
  | .lst ds, _, h => by
    cases h with
    | lst e n l z => unfold D.ok; exact ⟨z, DaL.oks l⟩
  | .tup ds, _, h => by
    cases h with
    | tup e n l z => unfold D.ok; exact ⟨z, DaL.oks l⟩
  | .dic _, _, _ => by unfold D.ok; exact True.intro
  | .dit _, _, _ => by unfold D.ok; exact True.intro
  | .obj _ _, _, _ => by unfold D.ok; exact True.intro
  | .opq _, _, _ => by unfold D.ok; exact True.intro
  | .ty _, _, _ => by unfold D.ok; exact True.intro
theorem DaL.oks {B : Addr → Prop} {H : Hp} : ∀ {ds : List D} {vs : List V}, DaL B H vs ds → D.oks ds
  | [], _, _ => by unfold D.oks; exact True.intro
  | d :: r, _, h => by
    cases h with
    | cons a t => unfold D.oks; exact ⟨Da.ok a, DaL.oks t⟩
end
theorem D.oks_mem : ∀ {ds : List D} {d : D}, D.oks ds → d ∈ ds → d.ok
  | _ :: _, _, h, .head _ => by
    unfold D.oks at h
    exact h.1
  | _ :: _, _, h, .tail _ m => by
    unfold D.oks at h
    exact D.oks_mem h.2 m
/-- what changes: C the places, J what holds of them, by the state -/
structure Wd (S : Type) where
  C : S → Addr → Prop
  J : S → Hp → Prop
  tr : ∀ s H a, J s H → C s a → H a ≠ none
  st : ∀ s H H', J s H → (∀ a, C s a → H' a = H a) → J s H'
section
variable {S : Type} (W : Wd S)
structure Fr (s : S) (H : Hp) (s' : S) (H' : Hp) : Prop where
  kp : ∀ b o, H b = some o → ¬ W.C s b → H' b = some o
  grow : ∀ a, W.C s a → W.C s' a
  new : ∀ a, W.C s' a → W.C s a ∨ H a = none
structure At (R : Addr → Prop) (s : S) (H : Hp) : Prop where
  j : W.J s H
  r : ∀ a, R a → H a ≠ none ∧ ¬ W.C s a
def Bf (R : Addr → Prop) (s : S) : Addr → Prop := fun a => R a ∨ W.C s a
end
section
variable {S : Type} {W : Wd S} {R : Addr → Prop} {s s' s'' : S} {H H' H'' : Hp}
theorem Fr.refl : Fr W s H s H := ⟨fun _ _ h _ => h, fun _ h => h, fun _ h => .inl h⟩
theorem Fr.trans (f : Fr W s H s' H') (g : Fr W s' H' s'' H'') : Fr W s H s'' H'' where
  kp b o h n := by
    have h' := f.kp b o h n
    refine g.kp b o h' fun c => ?_
    rcases f.new b c with q | q
    · exact n q
    · rw [q] at h; cases h
  grow a c := g.grow a (f.grow a c)
  new a c := by
    rcases g.new a c with q | q
    · exact f.new a q
    · cases h : H a with
      | none => exact .inr rfl
      | some o =>
        by_cases n : W.C s a
        · exact .inl n
        · rw [f.kp a o h n] at q; cases q
theorem Fr.mv (f : Fr W s H s' H') : Mv (Bf W R s) H (Bf W R s') H' := fun a o h n => ⟨f.kp a o h fun c => n (.inr c), fun c => by
  rcases c with c | c
  · exact n (.inl c)
  · rcases f.new a c with q | q
    · exact n (.inr q)
    · rw [q] at h; cases h⟩
theorem At.fr (t : At W R s H) (f : Fr W s H s' H') (j : W.J s' H') : At W R s' H' := ⟨j, fun a r => by
  obtain ⟨h, n⟩ := t.r a r
  cases e : H a with
  | none => exact absurd e h
  | some o =>
    refine ⟨by rw [f.kp a o e n]; simp, fun c => ?_⟩
    rcases f.new a c with q | q
    · exact n q
    · rw [q] at e; cases e⟩
theorem At.fresh (t : At W R s H) {p : Addr} (h : H p = none) : ¬ Bf W R s p := fun z => by
  rcases z with z | z
  · exact (t.r p z).1 h
  · exact W.tr s H p t.j z h
theorem Fr.new_at {p : Addr} {o : HO} (h : H p = none) (t : At W R s H) : Fr W s H s (upd H p o) := ⟨fun b u e _ => by rw [upd_ne (ne_of_none e h)]; exact e, fun _ c => c, fun _ c => .inl c⟩
theorem At.new_at {p : Addr} {o : HO} (h : H p = none) (t : At W R s H) : At W R s (upd H p o) := by
  refine t.fr (Fr.new_at h t) (W.st s H _ t.j fun a c => ?_)
  rw [upd_ne fun z => W.tr s H a t.j c (by rw [z]; exact h)]
theorem At.imp {R' : Addr → Prop} (t : At W R s H) (h : ∀ a, R' a → R a) : At W R' s H := ⟨t.j, fun a r => t.r a (h a r)⟩
theorem Da.imp {B B' : Addr → Prop} {v : V} {d : D} (h : Da B H v d) (q : ∀ a, B' a → B a) : Da B' H v d := h.mv fun a o e n => ⟨e, fun b => n (q a b)⟩
theorem DaL.imp {B B' : Addr → Prop} {v : List V} {d : List D} (h : DaL B H v d) (q : ∀ a, B' a → B a) : DaL B' H v d := h.mv fun a o e n => ⟨e, fun b => n (q a b)⟩
end
end Dw
set_option Elab.async false
set_option linter.all false
set_option maxRecDepth 100000
set_option maxHeartbeats 4000000
/-! Ds: what a reading says over data: SimE, SimT, SimA, SimS .. -/
namespace Dw
open PySem PySem.Spec PyProof.Rows L2
/-- a slot: data; a list, a dict of the def's own that may still change; the instance that is being made -/
inductive Sl where
  | no | dat (d : D) | own (ds : List D) | ownk (ds : List (Key × D)) | ownt (ds : List (List Key × D))
  deriving Inhabited
@[simp] def sg : List Sl → Nat → Sl
  | [], _ => .no
  | a :: _, 0 => a
  | _ :: r, i + 1 => sg r i
@[simp] def ss : List Sl → Nat → Sl → List Sl
  | [], _, _ => []
  | _ :: r, 0, x => x :: r
  | a :: r, i + 1, x => a :: ss r i x
def Sl.isO : Sl → Bool
  | .own _ => true
  | .ownk _ => true
  | .ownt _ => true
  | _ => false
theorem ss_len : ∀ (e : List Sl) (i : Nat) (x : Sl), (ss e i x).length = e.length
  | [], _, _ => rfl
  | _ :: r, 0, _ => rfl
  | a :: r, i + 1, x => congrArg (· + 1) (ss_len r i x)
theorem sg_ss_ne : ∀ (e : List Sl) (i j : Nat) (x : Sl), i ≠ j → sg (ss e i x) j = sg e j
  | [], _, _, _, _ => rfl
  | _ :: r, 0, 0, _, h => absurd rfl h
  | _ :: r, 0, j + 1, _, _ => rfl
  | a :: r, i + 1, 0, _, _ => rfl
  | a :: r, i + 1, j + 1, x, h => sg_ss_ne r i j x fun z => h (by rw [z])
theorem sg_ss : ∀ (e : List Sl) (i : Nat) (x : Sl), i < e.length → sg (ss e i x) i = x
  | [], _, _, h => absurd h (Nat.not_lt_zero _)
  | _ :: r, 0, _, _ => rfl
  | a :: r, i + 1, x, h => sg_ss r i x (Nat.lt_of_succ_lt_succ h)
theorem ss_out : ∀ (e : List Sl) (i : Nat) (x : Sl), e.length ≤ i → ss e i x = e
  | [], _, _, _ => rfl
  | _ :: r, 0, _, h => absurd h (by simp)
  | a :: r, i + 1, x, h => congrArg (a :: ·) (ss_out r i x (Nat.le_of_succ_le_succ h))
theorem sg_out : ∀ (e : List Sl) (i : Nat), e.length ≤ i → sg e i = .no
  | [], _, _ => rfl
  | _ :: r, 0, h => absurd h (by simp)
  | a :: r, i + 1, h => sg_out r i (Nat.le_of_succ_le_succ h)
/-- an exception: its class, its fields -/
structure Xc where
  C : Addr
  fs : List (Str × D)
def XcR (B : Addr → Prop) (H : Hp) (c : Xc) (cls : Value) (d : Option Addr) : Prop :=
  cls = .ref c.C ∧ ((c.fs = [] ∧ d = none) ∨ ∃ a xs, d = some a ∧ H a = some (.xd xs) ∧ ¬ B a ∧ DaF B H xs c.fs)
/-- how a def was entered -/
structure Gm (S : Type) where
  H0 : Hp
  s0 : S
  R0 : Addr → Prop
  E : XK
abbrev WE (S : Type) := List Sl → S → (D → S → Prop) → (Xc → S → Prop) → Prop
abbrev WT (S : Type) := List Sl → S → (Bool → S → Prop) → (Xc → S → Prop) → Prop
abbrev WA (S : Type) := List Sl → S → (List D → S → Prop) → (Xc → S → Prop) → Prop
structure WEnds (S : Type) where
  nx : List Sl → S → Prop
  rt : D → S → Prop
  bk : List Sl → S → Prop
  ct : List Sl → S → Prop
  xc : Xc → S → Prop
abbrev WS (S : Type) := WEnds S → List Sl → S → Prop
section
variable {S : Type} (W : Wd S) (G : Gm S)
/-- what a slot that may still change holds -/
inductive OwnR (R : Addr → Prop) (s : S) (H : Hp) (p : Addr) : Sl → Prop
  | lst {xs : List V} {ds : List D} : H p = some (.lst xs) → DaL (Bf W R s) H xs ds → ds.length ≤ sizeLine → OwnR R s H p (.own ds)
  | dic {xs : List (Key × V)} {ds : List (Key × D)} : H p = some (.dK xs) → DaK (Bf W R s) H xs ds → OwnR R s H p (.ownk ds)
  | dit {xs : List (List Key × V)} {ds : List (List Key × D)} : H p = some (.dT xs) → DaT (Bf W R s) H xs ds → OwnR R s H p (.ownt ds)
structure EnvR (R : Addr → Prop) (s : S) (H : Hp) (σ : L2.St) (env : List Sl) : Prop where
  len : σ.length = env.length
  dat : ∀ i d, sg env i = .dat d → ∃ v, σ[i]? = some (some v) ∧ Da (Bf W R s) H v d
  own : ∀ i, (sg env i).isO = true → ∃ p, σ[i]? = some (some (.ref p)) ∧ R p ∧ G.H0 p = none ∧ OwnR W R s H p (sg env i)
  uniq : ∀ i j p, (sg env i).isO = true → (sg env j).isO = true → σ[i]? = some (some (.ref p)) → σ[j]? = some (some (.ref p)) → i = j
structure Rel (R : Addr → Prop) (env : List Sl) (σ : L2.St) (H : Hp) (s : S) : Prop where
  at_ : At W R s H
  fr : Fr W G.s0 G.H0 s H
  r0 : ∀ a, G.R0 a → R a
  z0 : At W G.R0 G.s0 G.H0
  env : EnvR W G R s H σ env
def XOk (x : Xc → S → Prop) : Prop := ∀ c s' cls d H', x c s' → Fr W G.s0 G.H0 s' H' → W.J s' H' → XcR (Bf W G.R0 s') H' c cls d → G.E cls d H'
/-- shallow: the outermost thing may be the def's own -/
inductive Ag (R : Addr → Prop) (s : S) (H : Hp) : V → D → Prop
  | da {v : V} {d : D} : Da (Bf W R s) H v d → Ag R s H v d
  | lst {a : Addr} {xs : List V} {ds : List D} : H a = some (.lst xs) → ¬ W.C s a → DaL (Bf W R s) H xs ds → ds.length ≤ sizeLine → Ag R s H (.ref a) (.lst ds)
  | dic {a : Addr} {xs : List (Key × V)} {ds : List (Key × D)} : H a = some (.dK xs) → ¬ W.C s a → DaK (Bf W R s) H xs ds → Ag R s H (.ref a) (.dic ds)
  | dit {a : Addr} {xs : List (List Key × V)} {ds : List (List Key × D)} : H a = some (.dT xs) → ¬ W.C s a → DaT (Bf W R s) H xs ds → Ag R s H (.ref a) (.dit ds)
inductive AgL (R : Addr → Prop) (s : S) (H : Hp) : List V → List D → Prop
  | nil : AgL R s H [] []
  | cons {v : V} {vs : List V} {d : D} {ds : List D} : Ag W R s H v d → AgL R s H vs ds → AgL R s H (v :: vs) (d :: ds)
def SimE (t : TE) (w : WE S) : Prop := ∀ R env σ H s, Rel W G R env σ H s → ∀ k x, w env s k x → XOk W G x → ∀ Q : VK,
  (∀ d s' v H', k d s' → Fr W s H s' H' → W.J s' H' → Da (Bf W R s') H' v d → Q v H') → t σ H Q
def SimG (t : TE) (w : WE S) : Prop := ∀ R env σ H s, Rel W G R env σ H s → ∀ k x, w env s k x → XOk W G x → ∀ Q : VK,
  (∀ d s' v H', k d s' → Fr W s H s' H' → W.J s' H' → Ag W R s' H' v d → Q v H') → t σ H Q
/-- a new list -/
def SimF (t : TE) (w : List Sl → S → (List D → S → Prop) → (Xc → S → Prop) → Prop) : Prop := ∀ R env σ H s, Rel W G R env σ H s → ∀ k x, w env s k x → XOk W G x → ∀ Q : VK,
  (∀ ds s' p xs H', k ds s' → Fr W s H s' H' → W.J s' H' → H p = none → H' p = some (.lst xs) → ¬ Bf W R s' p → DaL (Bf W (fun a => R a ∨ a = p) s') H' xs ds → ds.length ≤ sizeLine → Q (.ref p) H') → t σ H Q
def SimT (t : TT) (w : WT S) : Prop := ∀ R env σ H s, Rel W G R env σ H s → ∀ k x, w env s k x → XOk W G x → ∀ Q : Bool → Hp → Prop,
  (∀ b s' H', k b s' → Fr W s H s' H' → W.J s' H' → Q b H') → t σ H Q
def SimA (t : TA) (w : WA S) : Prop := ∀ R env σ H s, Rel W G R env σ H s → ∀ k x, w env s k x → XOk W G x → ∀ Q : List V → Hp → Prop,
  (∀ ds s' vs H', k ds s' → Fr W s H s' H' → W.J s' H' → DaL (Bf W R s') H' vs ds → Q vs H') → t σ H Q
def SimB (t : TA) (w : WA S) : Prop := ∀ R env σ H s, Rel W G R env σ H s → ∀ k x, w env s k x → XOk W G x → ∀ Q : List V → Hp → Prop,
  (∀ ds s' vs H', k ds s' → Fr W s H s' H' → W.J s' H' → AgL W R s' H' vs ds → Q vs H') → t σ H Q
/-- where a statement may end -/
structure EndsR (R : Addr → Prop) (s : S) (H : Hp) (K : WEnds S) (Dn : Ends) : Prop where
  nx : ∀ R' env' σ' H' s', K.nx env' s' → Rel W G R' env' σ' H' s' → Mv (Bf W R s) H (Bf W R' s') H' → Dn.nx σ' H'
  rt : ∀ d s' v H', K.rt d s' → Fr W G.s0 G.H0 s' H' → W.J s' H' → Da (Bf W G.R0 s') H' v d → Dn.rt v H'
  bk : ∀ R' env' σ' H' s', K.bk env' s' → Rel W G R' env' σ' H' s' → Mv (Bf W R s) H (Bf W R' s') H' → Dn.bk σ' H'
  ct : ∀ R' env' σ' H' s', K.ct env' s' → Rel W G R' env' σ' H' s' → Mv (Bf W R s) H (Bf W R' s') H' → Dn.ct σ' H'
  xc : XOk W G K.xc
def SimS (t : TS) (w : WS S) : Prop := ∀ R env σ H s, Rel W G R env σ H s → ∀ K, w K env s → ∀ Dn : Ends, EndsR W G R s H K Dn → t Dn σ H
/-- a binary operator by values -/
def SimO (r : R2) (w : D → D → S → (D → S → Prop) → Prop) : Prop := ∀ R s H, At W R s H → ∀ x y d e, Ag W R s H x d → Ag W R s H y e → ∀ k, w d e s k → ∀ Q : VK,
  (∀ d' v H', k d' s → Fr W s H s H' → W.J s H' → Da (Bf W R s) H' v d' → Q v H') → r x y H Q
def SimU (r : V → Hp → VK → Prop) (w : D → S → (D → S → Prop) → Prop) : Prop := ∀ R s H, At W R s H → ∀ x d, Ag W R s H x d → ∀ k, w d s k → ∀ Q : VK,
  (∀ d' v H', k d' s → Fr W s H s H' → W.J s H' → Da (Bf W R s) H' v d' → Q v H') → r x H Q
/-- a built-in called -/
def SimC (r : List V → Hp → VK → Prop) (w : List D → S → (D → S → Prop) → Prop) : Prop := ∀ R s H, At W R s H → ∀ xs ds, AgL W R s H xs ds → ∀ k, w ds s k → ∀ Q : VK,
  (∀ d' v H', k d' s → Fr W s H s H' → W.J s H' → Da (Bf W R s) H' v d' → Q v H') → r xs H Q
end
section
variable {S : Type} {W : Wd S} {G : Gm S} {R R' : Addr → Prop} {env : List Sl} {σ : L2.St} {H H' : Hp} {s s' : S}
theorem OwnR.fr {p : Addr} {a : Sl} (o : OwnR W R s H p a) (hc : ¬ W.C s p) (f : Fr W s H s' H') : OwnR W R s' H' p a := by
  cases o with
  | lst e l z => exact .lst (f.kp _ _ e hc) (l.mv f.mv) z
  | dic e l => exact .dic (f.kp _ _ e hc) (l.mv f.mv)
  | dit e l => exact .dit (f.kp _ _ e hc) (l.mv f.mv)
theorem OwnR.mv {p : Addr} {a : Sl} (o : OwnR W R s H p a) (m : Mv (Bf W R s) H (Bf W R' s') H') (e : ∀ u, H p = some u → H' p = some u) : OwnR W R' s' H' p a := by
  cases o with
  | lst q l z => exact .lst (e _ q) (l.mv m) z
  | dic q l => exact .dic (e _ q) (l.mv m)
  | dit q l => exact .dit (e _ q) (l.mv m)
theorem Rel.step (r : Rel W G R env σ H s) (f : Fr W s H s' H') (j : W.J s' H') : Rel W G R env σ H' s' where
  at_ := r.at_.fr f j
  fr := r.fr.trans f
  r0 := r.r0
  z0 := r.z0
  env := ⟨r.env.len, fun i d e => by obtain ⟨v, h1, h2⟩ := r.env.dat i d e; exact ⟨v, h1, h2.mv f.mv⟩,
    fun i e => by obtain ⟨p, h1, h2, h3, h4⟩ := r.env.own i e; exact ⟨p, h1, h2, h3, h4.fr (r.at_.r p h2).2 f⟩, r.env.uniq⟩
theorem EndsR.step {K : WEnds S} {Dn : Ends} (e : EndsR W G R s H K Dn) (m : Mv (Bf W R s) H (Bf W R' s') H') : EndsR W G R' s' H' K Dn where
  nx R2 env2 σ2 H2 s2 k r m2 := e.nx R2 env2 σ2 H2 s2 k r (m.trans m2)
  rt := e.rt
  bk R2 env2 σ2 H2 s2 k r m2 := e.bk R2 env2 σ2 H2 s2 k r (m.trans m2)
  ct R2 env2 σ2 H2 s2 k r m2 := e.ct R2 env2 σ2 H2 s2 k r (m.trans m2)
  xc := e.xc
theorem Ag.fr {v : V} {d : D} (a : Ag W R s H v d) (f : Fr W s H s' H') : Ag W R s' H' v d := by
  have nc : ∀ {a : Addr} {o : HO}, H a = some o → ¬ W.C s a → ¬ W.C s' a := fun {a o} e n c => (f.new a c).elim n fun z => by rw [z] at e; cases e
  cases a with
  | da h => exact .da (h.mv f.mv)
  | lst e n l z => exact .lst (f.kp _ _ e n) (nc e n) (l.mv f.mv) z
  | dic e n l => exact .dic (f.kp _ _ e n) (nc e n) (l.mv f.mv)
  | dit e n l => exact .dit (f.kp _ _ e n) (nc e n) (l.mv f.mv)
theorem AgL.fr {vs : List V} {ds : List D} (a : AgL W R s H vs ds) (f : Fr W s H s' H') : AgL W R s' H' vs ds := by
  induction a with
  | nil => exact .nil
  | cons h _ ih => exact .cons (h.fr f) ih
theorem DaL.ag {vs : List V} {ds : List D} (a : DaL (Bf W R s) H vs ds) : AgL W R s H vs ds := by
  induction vs generalizing ds with
  | nil => cases a; exact .nil
  | cons v vs ih =>
    cases a with
    | cons h t => exact .cons (.da h) (ih t)
theorem SimE.g {t : TE} {w : WE S} (h : SimE W G t w) : SimG W G t w := fun R env σ H s r k x hw ox Q hQ => h R env σ H s r k x hw ox Q fun d s' v H' hk f j a => hQ d s' v H' hk f j (.da a)
/-- a fresh place is new to the def -/
theorem Rel.new0 (r : Rel W G R env σ H s) {p : Addr} (h : H p = none) : G.H0 p = none := by
  cases e : G.H0 p with
  | none => rfl
  | some o =>
    by_cases c : W.C G.s0 p
    · exact absurd h (W.tr s H p r.at_.j (r.fr.grow p c))
    · rw [r.fr.kp p o e c] at h
      cases h
/-- a slot set to data -/
theorem Rel.setD (r : Rel W G R env σ H s) (i : Nat) {v : V} {d : D} (h : Da (Bf W R s) H v d) : Rel W G R (ss env i (.dat d)) (σ.set i (some v)) H s := by
  refine ⟨r.at_, r.fr, r.r0, r.z0, ?_⟩
  by_cases hi : i < env.length
  · have hi' : i < σ.length := by rw [r.env.len]; exact hi
    have sv : (σ.set i (some v))[i]? = some (some v) := by rw [List.getElem?_set_self hi']
    have sn : ∀ j, i ≠ j → (σ.set i (some v))[j]? = σ[j]? := fun j n => List.getElem?_set_ne n
    refine ⟨by rw [List.length_set, ss_len]; exact r.env.len, fun j e he => ?_, fun j he => ?_, fun j l p h1 h2 h3 h4 => ?_⟩
    · by_cases n : i = j
      · subst n
        rw [sg_ss _ _ _ hi] at he
        cases he
        exact ⟨v, sv, h⟩
      · rw [sg_ss_ne _ _ _ _ n] at he
        rw [sn j n]
        exact r.env.dat j e he
    · by_cases n : i = j
      · subst n
        rw [sg_ss _ _ _ hi] at he
        cases he
      · rw [sg_ss_ne _ _ _ _ n] at he ⊢
        rw [sn j n]
        exact r.env.own j he
    · have n1 : i ≠ j := by
        rintro rfl
        rw [sg_ss _ _ _ hi] at h1
        cases h1
      have n2 : i ≠ l := by
        rintro rfl
        rw [sg_ss _ _ _ hi] at h2
        cases h2
      rw [sg_ss_ne _ _ _ _ n1] at h1
      rw [sg_ss_ne _ _ _ _ n2] at h2
      rw [sn j n1] at h3
      rw [sn l n2] at h4
      exact r.env.uniq j l p h1 h2 h3 h4
  · rw [ss_out _ _ _ (Nat.le_of_not_lt hi), List.set_eq_of_length_le (by rw [r.env.len]; exact Nat.le_of_not_lt hi)]
    exact r.env
/-- a slot set to a thing of the def's own, new at p -/
theorem Rel.setO {s0 : S} {Hs : Hp} (r0 : Rel W G R env σ Hs s0) (f : Fr W s0 Hs s H) (j : W.J s H) (i : Nat) {p : Addr} {a : Sl} (hp : Hs p = none) (hn : H p ≠ none) (nb : ¬ Bf W R s p) (h : OwnR W (fun a => R a ∨ a = p) s H p a) (ho : a.isO = true) (hi : i < env.length) :
    Rel W G (fun a => R a ∨ a = p) (ss env i a) (σ.set i (some (.ref p))) H s ∧ Mv (Bf W R s0) Hs (Bf W (fun a => R a ∨ a = p) s) H := by
  have r := r0.step f j
  have m0 : Mv (Bf W R s0) Hs (Bf W (fun a => R a ∨ a = p) s) H := fun b o e n => by
    have z := (f.mv (R := R)) b o e n
    refine ⟨z.1, fun q => ?_⟩
    rcases q with (q | q) | q
    · exact z.2 (.inl q)
    · rw [q, hp] at e; cases e
    · exact z.2 (.inr q)
  refine ⟨⟨⟨j, fun b q => ?_⟩, r.fr, fun b q => .inl (r.r0 b q), r.z0, ?_⟩, m0⟩
  · rcases q with q | q
    · exact r.at_.r b q
    · rw [q]
      exact ⟨hn, fun c => nb (.inr c)⟩
  · have hi' : i < σ.length := by rw [r.env.len]; exact hi
    have sv : (σ.set i (some (.ref p)))[i]? = some (some (.ref p)) := by rw [List.getElem?_set_self hi']
    have sn : ∀ l, i ≠ l → (σ.set i (some (.ref p)))[l]? = σ[l]? := fun l n => List.getElem?_set_ne n
    have neq : ∀ l q, (sg env l).isO = true → σ[l]? = some (some (.ref q)) → q ≠ p := fun l q h1 h2 => by
      rintro rfl
      obtain ⟨q', e1, e2, _, _⟩ := r.env.own l h1
      rw [h2] at e1
      cases e1
      exact nb (.inl e2)
    refine ⟨by rw [List.length_set, ss_len]; exact r.env.len, fun l e he => ?_, fun l he => ?_, fun l m q h1 h2 h3 h4 => ?_⟩
    · by_cases n : i = l
      · subst n
        rw [sg_ss _ _ _ hi] at he
        subst he
        cases ho
      · rw [sg_ss_ne _ _ _ _ n] at he
        rw [sn l n]
        obtain ⟨v, e1, e2⟩ := r0.env.dat l e he
        exact ⟨v, e1, e2.mv m0⟩
    · by_cases n : i = l
      · subst n
        rw [sg_ss _ _ _ hi]
        exact ⟨p, sv, .inr rfl, r0.new0 hp, h⟩
      · rw [sg_ss_ne _ _ _ _ n] at he ⊢
        rw [sn l n]
        obtain ⟨q, e1, e2, e3, e4⟩ := r0.env.own l he
        refine ⟨q, e1, .inl e2, e3, ?_⟩
        have nc := (r0.at_.r q e2).2
        exact e4.mv m0 fun u z => f.kp _ _ z nc
    · by_cases n1 : i = l
      · by_cases n2 : i = m
        · rw [← n1, ← n2]
        · subst n1
          rw [sv] at h3
          cases h3
          rw [sg_ss_ne _ _ _ _ n2] at h2
          rw [sn m n2] at h4
          exact absurd rfl (neq m p h2 h4)
      · by_cases n2 : i = m
        · subst n2
          rw [sv] at h4
          cases h4
          rw [sg_ss_ne _ _ _ _ n1] at h1
          rw [sn l n1] at h3
          exact absurd rfl (neq l p h1 h3)
        · rw [sg_ss_ne _ _ _ _ n1] at h1
          rw [sg_ss_ne _ _ _ _ n2] at h2
          rw [sn l n1] at h3
          rw [sn m n2] at h4
          exact r.env.uniq l m q h1 h2 h3 h4
/-- the def's own thing in slot i changed in its place -/
theorem Rel.chg (r : Rel W G R env σ H s) {i : Nat} {p : Addr} {a : Sl} {o : HO} (e : σ[i]? = some (some (.ref p))) (hO : (sg env i).isO = true) (h : OwnR W R s (upd H p o) p a) (ho : a.isO = true) :
    Rel W G R (ss env i a) σ (upd H p o) s ∧ Mv (Bf W R s) H (Bf W R s) (upd H p o) := by
  obtain ⟨p', e1, e2, e3, e4⟩ := r.env.own i hO
  rw [e] at e1
  cases e1
  have nc := (r.at_.r p e2).2
  have m : Mv (Bf W R s) H (Bf W R s) (upd H p o) := fun b u q n => by
    refine ⟨?_, n⟩
    rw [upd_ne fun z => n (by rw [z]; exact .inl e2)]
    exact q
  have hi : i < env.length := by
    rw [← r.env.len]
    exact (List.getElem?_eq_some_iff.mp e).1
  have at' : At W R s (upd H p o) := by
    refine ⟨W.st s H _ r.at_.j fun b c => upd_ne fun z => nc (by rw [← z]; exact c), fun b q => ?_⟩
    by_cases z : b = p
    · rw [z, upd_same]
      exact ⟨by simp, nc⟩
    · rw [upd_ne z]
      exact r.at_.r b q
  refine ⟨⟨at', ⟨fun b u q n => ?_, r.fr.grow, r.fr.new⟩, r.r0, r.z0, ?_⟩, m⟩
  · rw [upd_ne (fun z => by rw [z, e3] at q; cases q)]
    exact r.fr.kp b u q n
  · refine ⟨by rw [ss_len]; exact r.env.len, fun l d he => ?_, fun l he => ?_, fun l l2 q h1 h2 h3 h4 => ?_⟩
    · by_cases n : i = l
      · subst n
        rw [sg_ss _ _ _ hi] at he
        subst he
        cases ho
      · rw [sg_ss_ne _ _ _ _ n] at he
        obtain ⟨v, q1, q2⟩ := r.env.dat l d he
        exact ⟨v, q1, q2.mv m⟩
    · by_cases n : i = l
      · subst n
        rw [sg_ss _ _ _ hi]
        exact ⟨p, e, e2, e3, h⟩
      · rw [sg_ss_ne _ _ _ _ n] at he ⊢
        obtain ⟨q, q1, q2, q3, q4⟩ := r.env.own l he
        have ne : q ≠ p := by
          rintro rfl
          exact n (r.env.uniq i l q hO he e q1)
        refine ⟨q, q1, q2, q3, ?_⟩
        exact q4.mv m fun u z => by rw [upd_ne ne]; exact z
    · have f : ∀ l, (sg (ss env i a) l).isO = true → (sg env l).isO = true := fun l he => by
        by_cases n : i = l
        · subst n
          exact hO
        · rw [sg_ss_ne _ _ _ _ n] at he
          exact he
      exact r.env.uniq l l2 q (f l h1) (f l2 h2) h3 h4
@[simp] def Sl.frz : Sl → Sl
  | .own ds => .dat (.lst ds)
  | .ownk ds => .dat (.dic ds)
  | .ownt ds => .dat (.dit ds)
  | a => a
/-- the def's own thing in slot i is data from now on -/
theorem Rel.frz (r : Rel W G R env σ H s) (i : Nat) : ∃ R', Rel W G R' (ss env i (sg env i).frz) σ H s ∧ (∀ a, R' a → R a) := by
  by_cases hO : (sg env i).isO = true
  · obtain ⟨p, e, e2, e3, e4⟩ := r.env.own i hO
    have sub : ∀ a, (R a ∧ a ≠ p) → R a := fun a h => h.1
    have sub' : ∀ a, Bf W (fun a => R a ∧ a ≠ p) s a → Bf W R s a := fun a h => h.elim (fun q => .inl q.1) .inr
    have hi : i < env.length := by
      rw [← r.env.len]
      exact (List.getElem?_eq_some_iff.mp e).1
    have nb : ¬ Bf W (fun a => R a ∧ a ≠ p) s p := fun q => q.elim (fun z => z.2 rfl) (r.at_.r p e2).2
    refine ⟨fun a => R a ∧ a ≠ p, ⟨r.at_.imp sub, r.fr, fun a q => ⟨r.r0 a q, fun z => (r.z0.r a q).1 (by rw [z]; exact e3)⟩, r.z0, ?_⟩, sub⟩
    refine ⟨by rw [ss_len]; exact r.env.len, fun l d he => ?_, fun l he => ?_, fun l l2 q h1 h2 h3 h4 => ?_⟩
    · by_cases n : i = l
      · subst n
        rw [sg_ss _ _ _ hi] at he
        refine ⟨.ref p, e, ?_⟩
        generalize hg : sg env i = a at e4 he
        cases e4 with
        | lst e l z => cases he; exact .lst e nb (l.imp sub') z
        | dic e l => cases he; exact .dic e nb (l.mv fun a o e n => ⟨e, fun b => n (sub' a b)⟩)
        | dit e l => cases he; exact .dit e nb (l.mv fun a o e n => ⟨e, fun b => n (sub' a b)⟩)
      · rw [sg_ss_ne _ _ _ _ n] at he
        obtain ⟨v, q1, q2⟩ := r.env.dat l d he
        exact ⟨v, q1, q2.imp sub'⟩
    · by_cases n : i = l
      · subst n
        rw [sg_ss _ _ _ hi] at he
        revert he
        cases sg env i <;> intro he <;> cases he
      · rw [sg_ss_ne _ _ _ _ n] at he ⊢
        obtain ⟨q, q1, q2, q3, q4⟩ := r.env.own l he
        have ne : q ≠ p := by
          rintro rfl
          exact n (r.env.uniq i l q hO he e q1)
        refine ⟨q, q1, ⟨q2, ne⟩, q3, ?_⟩
        exact q4.mv (fun a o e n => ⟨e, fun b => n (sub' a b)⟩) fun u z => z
    · have f : ∀ l, (sg (ss env i (sg env i).frz) l).isO = true → (sg env l).isO = true := fun l he => by
        by_cases n : i = l
        · subst n
          exact hO
        · rw [sg_ss_ne _ _ _ _ n] at he
          exact he
      exact r.env.uniq l l2 q (f l h1) (f l2 h2) h3 h4
  · refine ⟨R, ?_, fun _ h => h⟩
    have e : (sg env i).frz = sg env i := by
      revert hO
      cases sg env i <;> intro hO <;> first | rfl | exact absurd rfl hO
    rw [e]
    have e2 : ∀ (env : List Sl) (i : Nat), ss env i (sg env i) = env := fun env => by
      induction env with
      | nil => intro i; rfl
      | cons a r ih =>
        intro i
        cases i with
        | zero => rfl
        | succ i => exact congrArg (a :: ·) (ih i)
    rw [e2]
    exact r
end
end Dw
set_option Elab.async false
set_option linter.all false
set_option maxRecDepth 100000
set_option maxHeartbeats 4000000
/-! De: expressions over data. -/
namespace Dw
open PySem PySem.Spec PyProof.Rows L2
section
variable {S : Type}
@[simp] def wVar (i : Nat) : WE S := fun env s k _ => match sg env i with
  | .dat d => k d s
  | _ => False
@[simp] def wVarG (i : Nat) : WE S := fun env s k _ => match sg env i with
  | .dat d => k d s
  | .own ds => k (.lst ds) s
  | .ownk ds => k (.dic ds) s
  | .ownt ds => k (.dit ds) s
  | _ => False
@[simp] def vD : V → D
  | .non => .non
  | .bl b => .bl b
  | .int i => .int i
  | .str x => .str x
  | .ref a => .opq a
  | .ty n => .ty n
  | _ => .non
def Sc : V → Prop
  | .str x => x.length ≤ sizeLine
  | .byt _ => False
  | .flt _ => False
  | _ => True
@[simp] def wC (v : V) : WE S := fun _ s k _ => k (vD v) s
@[simp] def wOp (wo : D → D → S → (D → S → Prop) → Prop) (wa wb : WE S) : WE S := fun env s k x => wa env s (fun d s1 => wb env s1 (fun e s2 => wo d e s2 k) x) x
@[simp] def wUn (wo : D → S → (D → S → Prop) → Prop) (wa : WE S) : WE S := fun env s k x => wa env s (fun d s1 => wo d s1 k) x
@[simp] def wNil : WA S := fun _ s k _ => k [] s
@[simp] def wCons (wa : WE S) (wr : WA S) : WA S := fun env s k x => wa env s (fun d s1 => wr env s1 (fun ds s2 => k (d :: ds) s2) x) x
@[simp] def wCB (wc : List D → S → (D → S → Prop) → Prop) (wa : WA S) : WE S := fun env s k x => wa env s (fun ds s1 => wc ds s1 k) x
@[simp] def wTup (wa : WA S) : WE S := fun env s k x => wa env s (fun ds s1 => ds.length ≤ sizeLine ∧ k (.tup ds) s1) x
@[simp] def wLst (wa : WA S) : WE S := fun env s k x => wa env s (fun ds s1 => ds.length ≤ sizeLine ∧ k (.lst ds) s1) x
@[simp] def wLstF (wa : WA S) : List Sl → S → (List D → S → Prop) → (Xc → S → Prop) → Prop := fun env s k x => wa env s (fun ds s1 => ds.length ≤ sizeLine ∧ k ds s1) x
@[simp] def wTest (wa : WE S) : WT S := fun env s k x => wa env s (fun d s1 => match d with
  | .bl b => k b s1
  | _ => False) x
@[simp] def wAnd (wa wb : WT S) : WT S := fun env s k x => wa env s (fun b s1 => if b = true then wb env s1 k x else k false s1) x
@[simp] def wOr (wa wb : WT S) : WT S := fun env s k x => wa env s (fun b s1 => if b = true then k true s1 else wb env s1 k x) x
@[simp] def wNot (wa : WT S) : WT S := fun env s k x => wa env s (fun b s1 => k (!b) s1) x
@[simp] def wAndV (wa wb : WE S) : WE S := fun env s k x => wa env s (fun d s1 => match d with
  | .bl b => if b = true then wb env s1 k x else k (.bl false) s1
  | _ => False) x
@[simp] def wOrV (wa wb : WE S) : WE S := fun env s k x => wa env s (fun d s1 => match d with
  | .bl b => if b = true then k (.bl true) s1 else wb env s1 k x
  | _ => False) x
@[simp] def wNotV (wa : WE S) : WE S := fun env s k x => wa env s (fun d s1 => match d with
  | .bl b => k (.bl (!b)) s1
  | _ => False) x
@[simp] def wIf (wt : WT S) (wa wb : WE S) : WE S := fun env s k x => wt env s (fun b s1 => if b = true then wa env s1 k x else wb env s1 k x) x
@[simp] def wChain (wo wo' : D → D → S → (D → S → Prop) → Prop) (wa wb wc : WE S) : WE S := fun env s k x => wa env s (fun d s1 => wb env s1 (fun e s2 => wo d e s2 fun z s3 => match z with
  | .bl b => if b = true then wc env s3 (fun u s4 => wo' e u s4 k) x else k (.bl false) s3
  | _ => False) x) x
end
section
variable {S : Type} {W : Wd S} {G : Gm S} {K : PySem.W.Frag}
theorem Sc.da {v : V} (h : Sc v) {B : Addr → Prop} {H : Hp} : Da B H v (vD v) := by
  cases v with
  | non => exact .non
  | bl b => exact .bl b
  | int i => exact .int i
  | str x => exact .str h
  | byt b => exact h.elim
  | flt b => exact h.elim
  | ref a => exact .opq a
  | ty n => exact .ty n
theorem sim_var {i : Nat} : SimE W G (tVar i) (wVar i) := by
  intro R env σ H s r k x hw ox Q hQ
  unfold wVar at hw
  cases e : sg env i with
  | dat d =>
    rw [e] at hw
    obtain ⟨v, h1, h2⟩ := r.env.dat i d e
    exact ⟨v, h1, hQ d s v H hw .refl r.at_.j h2⟩
  | _ => rw [e] at hw; exact hw.elim
theorem sim_varG {i : Nat} : SimG W G (tVar i) (wVarG i) := by
  intro R env σ H s r k x hw ox Q hQ
  unfold wVarG at hw
  have ow : (sg env i).isO = true → ∃ p, σ[i]? = some (some (.ref p)) ∧ R p ∧ OwnR W R s H p (sg env i) := fun h => by
    obtain ⟨p, h1, h2, _, h4⟩ := r.env.own i h
    exact ⟨p, h1, h2, h4⟩
  cases e : sg env i with
  | dat d =>
    rw [e] at hw
    obtain ⟨v, h1, h2⟩ := r.env.dat i d e
    exact ⟨v, h1, hQ d s v H hw .refl r.at_.j (.da h2)⟩
  | no => rw [e] at hw; exact hw.elim
  | own ds =>
    rw [e] at hw ow
    obtain ⟨p, h1, h2, h4⟩ := ow rfl
    cases h4 with
    | lst q l z => exact ⟨.ref p, h1, hQ _ s _ H hw .refl r.at_.j (.lst q (r.at_.r p h2).2 l z)⟩
  | ownk ds =>
    rw [e] at hw ow
    obtain ⟨p, h1, h2, h4⟩ := ow rfl
    cases h4 with
    | dic q l => exact ⟨.ref p, h1, hQ _ s _ H hw .refl r.at_.j (.dic q (r.at_.r p h2).2 l)⟩
  | ownt ds =>
    rw [e] at hw ow
    obtain ⟨p, h1, h2, h4⟩ := ow rfl
    cases h4 with
    | dit q l => exact ⟨.ref p, h1, hQ _ s _ H hw .refl r.at_.j (.dit q (r.at_.r p h2).2 l)⟩
theorem sim_c {v : V} (h : Sc v) : SimE W G (tC v) (wC v) := fun R env σ H s r k x hw ox Q hQ => hQ _ s v H hw .refl r.at_.j h.da
theorem sim_op {r : R2} {wo : D → D → S → (D → S → Prop) → Prop} {ta tb : TE} {wa wb : WE S} (ho : SimO W r wo) (ha : SimG W G ta wa) (hb : SimG W G tb wb) : SimE W G (tOp r ta tb) (wOp wo wa wb) :=
  fun R env σ H s rl k x hw ox Q hQ => ha R env σ H s rl _ x hw ox _ fun d s1 v H1 hw1 f1 j1 a1 => hb R env σ H1 s1 (rl.step f1 j1) _ x hw1 ox _ fun e s2 u H2 hw2 f2 j2 a2 =>
    ho R s2 H2 ((rl.step f1 j1).step f2 j2).at_ v u d e (a1.fr f2) a2 k hw2 Q fun d' z H' hk f j a => hQ d' s2 z H' hk ((f1.trans f2).trans f) j a
theorem sim_un {r : V → Hp → VK → Prop} {wo : D → S → (D → S → Prop) → Prop} {ta : TE} {wa : WE S} (ho : SimU W r wo) (ha : SimG W G ta wa) : SimE W G (tUn r ta) (wUn wo wa) :=
  fun R env σ H s rl k x hw ox Q hQ => ha R env σ H s rl _ x hw ox _ fun d s1 v H1 hw1 f1 j1 a1 => ho R s1 H1 (rl.step f1 j1).at_ v d a1 k hw1 Q fun d' z H' hk f j a => hQ d' s1 z H' hk (f1.trans f) j a
theorem sim_nil : SimA W G tNil wNil := fun R env σ H s rl k x hw ox Q hQ => hQ [] s [] H hw .refl rl.at_.j .nil
theorem sim_nilB : SimB W G tNil wNil := fun R env σ H s rl k x hw ox Q hQ => hQ [] s [] H hw .refl rl.at_.j .nil
theorem sim_cons {ta : TE} {tr : TA} {wa : WE S} {wr : WA S} (ha : SimE W G ta wa) (hr : SimA W G tr wr) : SimA W G (tCons ta tr) (wCons wa wr) :=
  fun R env σ H s rl k x hw ox Q hQ => ha R env σ H s rl _ x hw ox _ fun d s1 v H1 hw1 f1 j1 a1 => hr R env σ H1 s1 (rl.step f1 j1) _ x hw1 ox _ fun ds s2 vs H2 hw2 f2 j2 a2 =>
    hQ (d :: ds) s2 (v :: vs) H2 hw2 (f1.trans f2) j2 (.cons (a1.mv f2.mv) a2)
theorem sim_consB {ta : TE} {tr : TA} {wa : WE S} {wr : WA S} (ha : SimG W G ta wa) (hr : SimB W G tr wr) : SimB W G (tCons ta tr) (wCons wa wr) :=
  fun R env σ H s rl k x hw ox Q hQ => ha R env σ H s rl _ x hw ox _ fun d s1 v H1 hw1 f1 j1 a1 => hr R env σ H1 s1 (rl.step f1 j1) _ x hw1 ox _ fun ds s2 vs H2 hw2 f2 j2 a2 =>
    hQ (d :: ds) s2 (v :: vs) H2 hw2 (f1.trans f2) j2 (.cons (a1.fr f2) a2)
theorem sim_cb {r : List V → Hp → VK → Prop} {wc : List D → S → (D → S → Prop) → Prop} {ta : TA} {wa : WA S} (hc : SimC W r wc) (ha : SimB W G ta wa) : SimE W G (tCB r ta) (wCB wc wa) :=
  fun R env σ H s rl k x hw ox Q hQ => ha R env σ H s rl _ x hw ox _ fun ds s1 vs H1 hw1 f1 j1 a1 => hc R s1 H1 (rl.step f1 j1).at_ vs ds a1 k hw1 Q fun d' z H' hk f j a => hQ d' s1 z H' hk (f1.trans f) j a
theorem sim_tup {ta : TA} {wa : WA S} (ha : SimA W G ta wa) : SimE W G (tTup ta) (wTup wa) :=
  fun R env σ H s rl k x hw ox Q hQ => ha R env σ H s rl _ x hw ox _ fun ds s1 vs H1 hw1 f1 j1 a1 => ⟨by rw [a1.len]; exact hw1.1, fun p hp => by
    have at1 := (rl.step f1 j1).at_
    exact hQ _ s1 _ _ hw1.2 (f1.trans (.new_at hp at1)) (at1.new_at hp).j (.tup upd_same (at1.fresh hp) (a1.mv (Fr.new_at hp at1).mv) hw1.1)⟩
theorem sim_lst {ta : TA} {wa : WA S} (ha : SimA W G ta wa) : SimE W G (tLst ta) (wLst wa) :=
  fun R env σ H s rl k x hw ox Q hQ => ha R env σ H s rl _ x hw ox _ fun ds s1 vs H1 hw1 f1 j1 a1 => ⟨by rw [a1.len]; exact hw1.1, fun p hp => by
    have at1 := (rl.step f1 j1).at_
    exact hQ _ s1 _ _ hw1.2 (f1.trans (.new_at hp at1)) (at1.new_at hp).j (.lst upd_same (at1.fresh hp) (a1.mv (Fr.new_at hp at1).mv) hw1.1)⟩
/-- data away from a fresh place -/
theorem At.off {R : Addr → Prop} {s : S} {H : Hp} {p : Addr} {o : HO} (t : At W R s H) (hp : H p = none) : Mv (Bf W R s) H (Bf W (fun a => R a ∨ a = p) s) (upd H p o) := fun a u e n => by
  have ne : a ≠ p := fun z => by rw [z, hp] at e; cases e
  exact ⟨by rw [upd_ne ne]; exact e, fun q => q.elim (fun z => z.elim (fun y => n (.inl y)) ne) fun y => n (.inr y)⟩
theorem Fr.none {s s' : S} {H H' : Hp} {p : Addr} (f : Fr W s H s' H') (a : W.J s H) (h : H' p = none) (j' : W.J s' H') : H p = none := by
  cases e : H p with
  | none => rfl
  | some o =>
    by_cases c : W.C s p
    · exact absurd h (W.tr s' H' p j' (f.grow p c))
    · rw [f.kp p o e c] at h
      cases h
theorem sim_lstF {ta : TA} {wa : WA S} (ha : SimA W G ta wa) : SimF W G (tLst ta) (wLstF wa) :=
  fun R env σ H s rl k x hw ox Q hQ => ha R env σ H s rl _ x hw ox _ fun ds s1 vs H1 hw1 f1 j1 a1 => ⟨by rw [a1.len]; exact hw1.1, fun p hp => by
    have at1 := (rl.step f1 j1).at_
    exact hQ _ s1 p _ _ hw1.2 (f1.trans (.new_at hp at1)) (at1.new_at hp).j (f1.none rl.at_.j hp j1) upd_same (at1.fresh hp) (a1.mv (at1.off hp)) hw1.1⟩
theorem sim_test {t : TE} {w : WE S} (h : SimG W G t w) : SimT W G (tTest t) (wTest w) :=
  fun R env σ H s rl k x hw ox Q hQ => h R env σ H s rl _ x hw ox _ fun d s1 v H1 hw1 f1 j1 a1 => by
    cases d with
    | bl b =>
      cases a1 with
      | da a => cases a; exact ⟨b, rfl, hQ b s1 H1 hw1 f1 j1⟩
    | _ => exact hw1.elim
theorem sim_tB {t : TE} {w : WE S} (h : SimG W G t w) : SimT W G (tB t) (wTest w) :=
  fun R env σ H s rl k x hw ox Q hQ => h R env σ H s rl _ x hw ox _ fun d s1 v H1 hw1 f1 j1 a1 => by
    cases d with
    | bl b =>
      cases a1 with
      | da a => cases a; exact ⟨b, rfl, hQ b s1 H1 hw1 f1 j1⟩
    | _ => exact hw1.elim
theorem sim_and {t u : TT} {w v : WT S} (h : SimT W G t w) (h' : SimT W G u v) : SimT W G (tAnd t u) (wAnd w v) :=
  fun R env σ H s rl k x hw ox Q hQ => h R env σ H s rl _ x hw ox _ fun b s1 H1 hw1 f1 j1 => by
    cases b with
    | true => exact Rd.iteT (h' R env σ H1 s1 (rl.step f1 j1) k x hw1 ox Q fun b s2 H2 hk f j => hQ b s2 H2 hk (f1.trans f) j)
    | false => exact Rd.iteF (hQ _ s1 H1 (by simpa using hw1) f1 j1)
theorem sim_or {t u : TT} {w v : WT S} (h : SimT W G t w) (h' : SimT W G u v) : SimT W G (tOr t u) (wOr w v) :=
  fun R env σ H s rl k x hw ox Q hQ => h R env σ H s rl _ x hw ox _ fun b s1 H1 hw1 f1 j1 => by
    cases b with
    | true => exact Rd.iteT (hQ _ s1 H1 (by simpa using hw1) f1 j1)
    | false => exact Rd.iteF (h' R env σ H1 s1 (rl.step f1 j1) k x (by simpa using hw1) ox Q fun b s2 H2 hk f j => hQ b s2 H2 hk (f1.trans f) j)
theorem sim_not {t : TT} {w : WT S} (h : SimT W G t w) : SimT W G (tNot t) (wNot w) :=
  fun R env σ H s rl k x hw ox Q hQ => h R env σ H s rl _ x hw ox _ fun b s1 H1 hw1 f1 j1 => hQ _ s1 H1 hw1 f1 j1
theorem sim_yes : SimT W G tYes (fun _ s k _ => k true s) := fun R env σ H s rl k x hw ox Q hQ => hQ _ s H hw .refl rl.at_.j
theorem sim_andV {t u : TE} {w v : WE S} (h : SimG W G t w) (h' : SimE W G u v) : SimE W G (tAndV t u) (wAndV w v) :=
  fun R env σ H s rl k x hw ox Q hQ => h R env σ H s rl _ x hw ox _ fun d s1 z H1 hw1 f1 j1 a1 => by
    cases d with
    | bl b =>
      cases a1 with
      | da a =>
        cases a
        refine ⟨b, rfl, ?_⟩
        cases b with
        | true => exact Rd.iteT (h' R env σ H1 s1 (rl.step f1 j1) k x (by simpa using hw1) ox Q fun b s2 z H2 hk f j a => hQ b s2 z H2 hk (f1.trans f) j a)
        | false => exact Rd.iteF (hQ _ s1 _ H1 (by simpa using hw1) f1 j1 (.bl _))
    | _ => exact hw1.elim
theorem sim_orV {t u : TE} {w v : WE S} (h : SimG W G t w) (h' : SimE W G u v) : SimE W G (tOrV t u) (wOrV w v) :=
  fun R env σ H s rl k x hw ox Q hQ => h R env σ H s rl _ x hw ox _ fun d s1 z H1 hw1 f1 j1 a1 => by
    cases d with
    | bl b =>
      cases a1 with
      | da a =>
        cases a
        refine ⟨b, rfl, ?_⟩
        cases b with
        | true => exact Rd.iteT (hQ _ s1 _ H1 (by simpa using hw1) f1 j1 (.bl _))
        | false => exact Rd.iteF (h' R env σ H1 s1 (rl.step f1 j1) k x (by simpa using hw1) ox Q fun b s2 z H2 hk f j a => hQ b s2 z H2 hk (f1.trans f) j a)
    | _ => exact hw1.elim
theorem sim_notV {t : TE} {w : WE S} (h : SimG W G t w) : SimE W G (tNotV t) (wNotV w) :=
  fun R env σ H s rl k x hw ox Q hQ => h R env σ H s rl _ x hw ox _ fun d s1 z H1 hw1 f1 j1 a1 => by
    cases d with
    | bl b =>
      cases a1 with
      | da a => cases a; exact ⟨b, rfl, hQ _ s1 _ H1 hw1 f1 j1 (.bl _)⟩
    | _ => exact hw1.elim
theorem sim_if {t : TT} {ta tb : TE} {w : WT S} {wa wb : WE S} (h : SimT W G t w) (ha : SimE W G ta wa) (hb : SimE W G tb wb) : SimE W G (tIf t ta tb) (wIf w wa wb) :=
  fun R env σ H s rl k x hw ox Q hQ => h R env σ H s rl _ x hw ox _ fun b s1 H1 hw1 f1 j1 => by
    cases b with
    | true => exact Rd.iteT (ha R env σ H1 s1 (rl.step f1 j1) k x (by simpa using hw1) ox Q fun b s2 z H2 hk f j a => hQ b s2 z H2 hk (f1.trans f) j a)
    | false => exact Rd.iteF (hb R env σ H1 s1 (rl.step f1 j1) k x (by simpa using hw1) ox Q fun b s2 z H2 hk f j a => hQ b s2 z H2 hk (f1.trans f) j a)
theorem sim_chain {r r' : R2} {wo wo' : D → D → S → (D → S → Prop) → Prop} {ta tb tc : TE} {wa wb wc : WE S} (ho : SimO W r wo) (ho' : SimO W r' wo') (ha : SimG W G ta wa) (hb : SimG W G tb wb) (hc : SimG W G tc wc) :
    SimE W G (tChain r r' ta tb tc) (wChain wo wo' wa wb wc) :=
  fun R env σ H s rl k x hw ox Q hQ => ha R env σ H s rl _ x hw ox _ fun d s1 v H1 hw1 f1 j1 a1 => hb R env σ H1 s1 (rl.step f1 j1) _ x hw1 ox _ fun e s2 u H2 hw2 f2 j2 a2 => by
    have r2 := (rl.step f1 j1).step f2 j2
    refine ho R s2 H2 r2.at_ v u d e (a1.fr f2) a2 _ hw2 _ fun z zv H3 hk f3 j3 a3 => ?_
    cases z with
    | bl b =>
      cases a3
      refine ⟨b, rfl, ?_⟩
      have r3 := r2.step f3 j3
      cases b with
      | true =>
        refine Rd.iteT (hc R env σ H3 s2 r3 _ x (by simpa using hk) ox _ fun u' s4 uv H4 hw4 f4 j4 a4 => ?_)
        exact ho' R s4 H4 (r3.step f4 j4).at_ u uv e u' ((a2.fr f3).fr f4) a4 k hw4 Q fun d' z H' hk f j a => hQ d' s4 z H' hk ((((f1.trans f2).trans f3).trans f4).trans f) j a
      | false => exact Rd.iteF (hQ _ s2 _ H3 (by simpa using hk) ((f1.trans f2).trans f3) j3 (.bl _))
    | _ => exact hk.elim
/-- a def by its word over data: what it gives (k), what it raises (x) -/
def spX (W : Wd S) (wf : List D → S → (D → S → Prop) → (Xc → S → Prop) → Prop) : Sp := fun vs H Q E => ∃ R ds s k x, At W R s H ∧ DaL (Bf W R s) H vs ds ∧ wf ds s k x ∧
  (∀ d s' v H', k d s' → Fr W s H s' H' → W.J s' H' → Da (Bf W R s') H' v d → Q v H') ∧
  ∀ c s' cls d H', x c s' → Fr W s H s' H' → W.J s' H' → XcR (Bf W R s') H' c cls d → E cls d H'
@[simp] def wCall (wf : List D → S → (D → S → Prop) → (Xc → S → Prop) → Prop) (wa : WA S) : WE S := fun env s k x => wa env s (fun ds s1 => wf ds s1 k x) x
@[simp] def wCallN (wf : List D → S → (D → S → Prop) → (Xc → S → Prop) → Prop) (wa : WA S) : WE S := fun env s k x => wa env s (fun ds s1 => wf ds s1 k fun _ _ => False) x
theorem XcR.imp {B B' : Addr → Prop} {H : Hp} {c : Xc} {cls : Value} {d : Option Addr} (h : XcR B H c cls d) (q : ∀ a, B' a → B a) : XcR B' H c cls d := by
  obtain ⟨h1, h2⟩ := h
  refine ⟨h1, h2.imp id ?_⟩
  rintro ⟨a, xs, e1, e2, e3, e4⟩
  exact ⟨a, xs, e1, e2, fun z => e3 (q a z), e4.mv fun a o e n => ⟨e, fun b => n (q a b)⟩⟩
/-- a call that may raise, out of the def -/
theorem sim_call {wf : List D → S → (D → S → Prop) → (Xc → S → Prop) → Prop} {ta : TA} {wa : WA S} (ha : SimA W G ta wa) : SimE W G (Gl.tDf (spX W wf) (fun _ => G.E) ta) (wCall wf wa) :=
  fun R env σ H s rl k x hw ox Q hQ => ha R env σ H s rl _ x hw ox _ fun ds s1 vs H1 hw1 f1 j1 a1 => by
    have r1 := rl.step f1 j1
    exact ⟨R, ds, s1, k, x, r1.at_, a1, hw1, fun d s' v H' hk f j a => hQ d s' v H' hk (f1.trans f) j a,
      fun c s' cls d H' hx f j a => ox c s' cls d H' hx (r1.fr.trans f) j (a.imp fun a z => z.imp (r1.r0 a) id)⟩
/-- a call that raises nothing -/
theorem sim_callN {wf : List D → S → (D → S → Prop) → (Xc → S → Prop) → Prop} {ta : TA} {wa : WA S} {E : L2.St → XK} (ha : SimA W G ta wa) : SimE W G (Gl.tDf (spX W wf) E ta) (wCallN wf wa) :=
  fun R env σ H s rl k x hw ox Q hQ => ha R env σ H s rl _ x hw ox _ fun ds s1 vs H1 hw1 f1 j1 a1 => by
    have r1 := rl.step f1 j1
    exact ⟨R, ds, s1, k, _, r1.at_, a1, hw1, fun d s' v H' hk f j a => hQ d s' v H' hk (f1.trans f) j a, fun c s' cls d H' hx f j a => hx.elim⟩
end
end Dw
set_option Elab.async false
set_option linter.all false
set_option maxRecDepth 100000
set_option maxHeartbeats 4000000
/-! Do: operators, built-ins, slices over data. -/
namespace Dw
open PySem PySem.Spec PyProof.Rows L2
/-! readings by names of our own -/
def rStr (p : Str → Str → Bool) : R2 := fun x y H Q => ∃ i j, x = .str i ∧ y = .str j ∧ Q (.bl (p i j)) H
theorem op_ltS {X : Cx} : OpR X (compareOp .Lt) (rStr fun i j => decide (i.cps.toList < j.cps.toList)) := op_lt_str
theorem op_leS {X : Cx} : OpR X (compareOp .LtE) (rStr fun i j => !decide (j.cps.toList < i.cps.toList)) := op_le_str
theorem op_gtS {X : Cx} : OpR X (compareOp .Gt) (rStr fun i j => decide (j.cps.toList < i.cps.toList)) := op_gt_str
theorem op_geS {X : Cx} : OpR X (compareOp .GtE) (rStr fun i j => !decide (i.cps.toList < j.cps.toList)) := op_ge_str
def rAddS : R2 := fun x y H Q => ∃ i j, x = .str i ∧ y = .str j ∧ i.length + j.length ≤ sizeLine ∧ Q (.str (i ++ j)) H
theorem op_addS {X : Cx} : OpR X (binaryOp .Add) rAddS := op_add_str
def rMM (f : Int → Int → Int) : List V → Hp → VK → Prop := fun xs H Q => ∃ i j, xs = [.int i, .int j] ∧ Q (.int (f i j)) H
theorem cr_max2 {X : Cx} (hc : X.calm = true) : CallR X (.builtin "max") (rMM fun i j => if j > i then j else i) := call_max2 hc
theorem cr_min2 {X : Cx} (hc : X.calm = true) : CallR X (.builtin "min") (rMM fun i j => if j < i then j else i) := call_min2 hc
def rStrI : List V → Hp → VK → Prop := fun xs H Q => ∃ i, xs = [.int i] ∧ i.natAbs.log2 < 1920 ∧ Q (.str (toString i)) H
theorem cr_str {X : Cx} : CallR X (.type "str") rStrI := call_str_int
section
variable {S : Type}
@[simp] def wI0 (g : Int → Int → V) : D → D → S → (D → S → Prop) → Prop := fun d e s k => match d, e with
  | .int i, .int j => k (vD (g i j)) s
  | _, _ => False
@[simp] def wIC (C : Int → Int → Prop) (g : Int → Int → V) : D → D → S → (D → S → Prop) → Prop := fun d e s k => match d, e with
  | .int i, .int j => C i j ∧ k (vD (g i j)) s
  | _, _ => False
@[simp] def wU (g : Int → V) : D → S → (D → S → Prop) → Prop := fun d s k => match d with
  | .int i => k (vD (g i)) s
  | _ => False
@[simp] def D.sv : D → Option V
  | .non => some .non
  | .bl b => some (.bl b)
  | .int i => some (.int i)
  | .str x => some (.str x)
  | _ => none
@[simp] def D.eqs : D → D → Option Bool
  | .non, .non => some true | .non, .int _ => some false | .int _, .non => some false | .non, .bl _ => some false | .bl _, .non => some false | .non, .str _ => some false | .str _, .non => some false
  | .int i, .int j => some (decide (i = j)) | .bl i, .bl j => some (decide (i = j)) | .str i, .str j => some (decide (i = j))
  | .int _, .str _ => some false | .str _, .int _ => some false | .bl _, .str _ => some false | .str _, .bl _ => some false
  | _, _ => none
@[simp] def wEq : D → D → S → (D → S → Prop) → Prop := fun d e s k => match d.eqs e with
  | some b => k (.bl b) s
  | none => False
@[simp] def wNe : D → D → S → (D → S → Prop) → Prop := fun d e s k => match d.eqs e with
  | some b => k (.bl (!b)) s
  | none => False
@[simp] def wIsN : D → D → S → (D → S → Prop) → Prop := fun d e s k => match e with
  | .non => k (.bl (match d with | .non => true | _ => false)) s
  | _ => False
@[simp] def wNotN : D → D → S → (D → S → Prop) → Prop := fun d e s k => match e with
  | .non => k (.bl (match d with | .non => false | _ => true)) s
  | _ => False
@[simp] def wIsB : D → D → S → (D → S → Prop) → Prop := fun d e s k => match d, e with
  | .bl a, .bl b => k (.bl (decide (a = b))) s
  | _, _ => False
@[simp] def wNotB : D → D → S → (D → S → Prop) → Prop := fun d e s k => match d, e with
  | .bl a, .bl b => k (.bl (!decide (a = b))) s
  | _, _ => False
@[simp] def wIxL : D → D → S → (D → S → Prop) → Prop := fun d e s k => match d, e with
  | .lst ds, .int i => (match atI ds i with
    | some x => k x s
    | none => False)
  | _, _ => False
@[simp] def wIxT : D → D → S → (D → S → Prop) → Prop := fun d e s k => match d, e with
  | .tup ds, .int i => (match atI ds i with
    | some x => k x s
    | none => False)
  | _, _ => False
@[simp] def wIx : D → D → S → (D → S → Prop) → Prop := fun d e s k => match d, e with
  | .lst ds, .int i => (match atI ds i with
    | some x => k x s
    | none => False)
  | .tup ds, .int i => (match atI ds i with
    | some x => k x s
    | none => False)
  | .str z, .int i => (match atI z.cps.toList i with
    | some c => k (.str ⟨#[c]⟩) s
    | none => False)
  | _, _ => False
@[simp] def D.items : D → Option (List D)
  | .lst ds => some ds
  | .tup ds => some ds
  | _ => none
def inD (d : D) (ds : List D) : Bool := ds.any fun e => match e.sv, d.sv with
  | some v, some u => eqV v u
  | _, _ => false
@[simp] def wIn (neg : Bool) : D → D → S → (D → S → Prop) → Prop := fun d e s k => match e.items with
  | some ds => d.sv.isSome = true ∧ ds.all (fun z => z.sv.isSome) = true ∧ k (.bl (if neg then !inD d ds else inD d ds)) s
  | none => False
@[simp] def wStr (p : Str → Str → Bool) : D → D → S → (D → S → Prop) → Prop := fun d e s k => match d, e with
  | .str i, .str j => k (.bl (p i j)) s
  | _, _ => False
@[simp] def wInS : D → D → S → (D → S → Prop) → Prop := fun d e s k => match d, e with
  | .str x, .str z => ∃ c, x = ⟨#[c]⟩ ∧ k (.bl (decide (c ∈ z.cps.toList))) s
  | _, _ => False
@[simp] def wNotInS : D → D → S → (D → S → Prop) → Prop := fun d e s k => match d, e with
  | .str x, .str z => ∃ c, x = ⟨#[c]⟩ ∧ k (.bl (!decide (c ∈ z.cps.toList))) s
  | _, _ => False
@[simp] def wCatT : D → D → S → (D → S → Prop) → Prop := fun d e s k => match d, e with
  | .tup a, .tup b => a.length + b.length ≤ sizeLine ∧ k (.tup (a ++ b)) s
  | _, _ => False
@[simp] def wCatL : D → D → S → (D → S → Prop) → Prop := fun d e s k => match d, e with
  | .lst a, .lst b => a.length + b.length ≤ sizeLine ∧ k (.lst (a ++ b)) s
  | _, _ => False
@[simp] def wAddS : D → D → S → (D → S → Prop) → Prop := fun d e s k => match d, e with
  | .str a, .str b => a.length + b.length ≤ sizeLine ∧ k (.str (a ++ b)) s
  | _, _ => False
@[simp] def wMulS : D → D → S → (D → S → Prop) → Prop := fun d e s k => match d, e with
  | .str z, .int n => 2 ≤ n ∧ n ≤ 1000 ∧ (n == 1 || z.length == 0) = false ∧ z.length ≤ 1000 ∧ Builtin.Str.tooLong (z.length * n.toNat) = false ∧ (Dt.mulT z n).length ≤ sizeLine ∧ k (.str (Dt.mulT z n)) s
  | _, _ => False
@[simp] def wRepT : D → D → S → (D → S → Prop) → Prop := fun d e s k => match d, e with
  | .tup a, .int n => a ≠ [] ∧ 2 ≤ n ∧ n ≤ 1000 ∧ a.length ≤ 1000 ∧ a.length * n.toNat ≤ sizeLine ∧ k (.tup (List.replicate n.toNat a).flatten) s
  | _, _ => False
@[simp] def wRepL : D → D → S → (D → S → Prop) → Prop := fun d e s k => match d, e with
  | .lst a, .int n => -(2 ^ 63) ≤ n ∧ n < 2 ^ 63 ∧ a.length * n.toNat ≤ sizeLine ∧ k (.lst (List.replicate n.toNat a).flatten) s
  | _, _ => False
mutual
@[simp] def D.py : D → Option PyData
  | .non => some .none
  | .bl b => some (.bool b)
  | .int i => some (.int i)
  | .str x => some (.str x)
  | .lst ds => (D.pys ds).map .list
  | .tup ds => (D.pys ds).map .tuple
  | _ => none
@[simp] def D.pys : List D → Option (List PyData)
  | [] => some []
  | d :: r => match d.py, D.pys r with
    | some a, some b => some (a :: b)
    | _, _ => none
end
@[simp] def wEqD : D → D → S → (D → S → Prop) → Prop := fun d e s k => ∃ a b, d.py = some a ∧ e.py = some b ∧ SeqAt.shaped a = true ∧ SeqAt.shaped b = true ∧ k (.bl (PyData.eqv a b)) s
@[simp] def wNeD : D → D → S → (D → S → Prop) → Prop := fun d e s k => ∃ a b, d.py = some a ∧ e.py = some b ∧ SeqAt.shaped a = true ∧ SeqAt.shaped b = true ∧ k (.bl (!PyData.eqv a b)) s
@[simp] def wInD : D → D → S → (D → S → Prop) → Prop := fun d e s k => ∃ a bs, d.py = some a ∧ e.py = some (.list bs) ∧ SeqAt.shaped a = true ∧ SeqAt.shaped (.list bs) = true ∧ k (.bl (bs.any fun z => PyData.eqv z a)) s
@[simp] def wNotInD : D → D → S → (D → S → Prop) → Prop := fun d e s k => ∃ a bs, d.py = some a ∧ e.py = some (.list bs) ∧ SeqAt.shaped a = true ∧ SeqAt.shaped (.list bs) = true ∧ k (.bl (!bs.any fun z => PyData.eqv z a)) s
def D.ints : List D → Option (List Int)
  | [] => some []
  | .int i :: r => (D.ints r).map (i :: ·)
  | _ => none
def D.bls : List D → Option (List Bool)
  | [] => some []
  | .bl i :: r => (D.bls r).map (i :: ·)
  | _ => none
def D.strs : List D → Option (List Str)
  | [] => some []
  | .str i :: r => (D.strs r).map (i :: ·)
  | _ => none
@[simp] def wLtT (f : List Int → List Int → Bool) : D → D → S → (D → S → Prop) → Prop := fun d e s k => match d, e with
  | .tup a, .tup b => ∃ ns ms, D.ints a = some ns ∧ D.ints b = some ms ∧ k (.bl (f ns ms)) s
  | _, _ => False
/-! built-ins -/
@[simp] def wLen : List D → S → (D → S → Prop) → Prop := fun ds s k => match ds with
  | [.lst xs] => k (.int xs.length) s
  | [.tup xs] => k (.int xs.length) s
  | [.str x] => k (.int x.length) s
  | _ => False
@[simp] def wInt : List D → S → (D → S → Prop) → Prop := fun ds s k => match ds with
  | [.int i] => k (.int i) s
  | [.bl b] => k (.int (if b then 1 else 0)) s
  | _ => False
@[simp] def wAbs : List D → S → (D → S → Prop) → Prop := fun ds s k => match ds with
  | [.int i] => k (.int (if i < 0 then -i else i)) s
  | _ => False
@[simp] def wStrI : List D → S → (D → S → Prop) → Prop := fun ds s k => match ds with
  | [.int i] => i.natAbs.log2 < 1920 ∧ (toString i : Str).length ≤ sizeLine ∧ k (.str (toString i)) s
  | _ => False
@[simp] def wMM (f : Int → Int → Int) : List D → S → (D → S → Prop) → Prop := fun ds s k => match ds with
  | [.int i, .int j] => k (.int (f i j)) s
  | _ => False
@[simp] def wListOf : List D → S → (D → S → Prop) → Prop := fun ds s k => match ds with
  | [.lst xs] => k (.lst xs) s
  | [.tup xs] => k (.lst xs) s
  | _ => False
@[simp] def wTupOf : List D → S → (D → S → Prop) → Prop := fun ds s k => match ds with
  | [.lst xs] => k (.tup xs) s
  | [.tup xs] => k (.tup xs) s
  | _ => False
@[simp] def wSum : List D → S → (D → S → Prop) → Prop := fun ds s k => match ds with
  | [.lst xs] => ∃ ns, D.ints xs = some ns ∧ k (.int ns.sum) s
  | _ => False
@[simp] def wAll : List D → S → (D → S → Prop) → Prop := fun ds s k => match ds with
  | [.lst xs] => ∃ ns, D.bls xs = some ns ∧ k (.bl (ns.all id)) s
  | _ => False
@[simp] def wAny : List D → S → (D → S → Prop) → Prop := fun ds s k => match ds with
  | [.lst xs] => ∃ ns, D.bls xs = some ns ∧ k (.bl (ns.any id)) s
  | _ => False
/-- is it of this built-in class -/
@[simp] def D.isT (n : String) : D → Option Bool
  | .non => some false
  | .bl _ => some (n = "bool" || n = "int")
  | .int _ => some (n = "int")
  | .str _ => some (n = "str")
  | .lst _ => some (n = "list")
  | .tup _ => some (n = "tuple")
  | .dic _ => some (n = "dict")
  | .dit _ => some (n = "dict")
  | _ => none
def known6 : List String := ["tuple", "list", "str", "int", "bool", "dict"]
def D.isTs : List D → D → Option Bool
  | [], d => if (d.isT "int").isSome = true then some false else none
  | .ty n :: r, d => if n ∈ known6 then (match d.isT n, D.isTs r d with
    | some a, some b => some (a || b)
    | _, _ => none) else none
  | _, _ => none
@[simp] def wIsi : List D → S → (D → S → Prop) → Prop := fun ds s k => match ds with
  | [d, .ty n] => n ∈ known6 ∧ (match d.isT n with
    | some b => k (.bl b) s
    | none => False)
  | _ => False
@[simp] def wIsiT : List D → S → (D → S → Prop) → Prop := fun ds s k => match ds with
  | [d, .tup ts] => (match D.isTs ts d with
    | some b => k (.bl b) s
    | none => False)
  | _ => False
def cutD (ds : List D) (lo hi : Option Int) : List D := (ds.drop (HT.sIx ds.length 0 lo)).take (HT.sIx ds.length ds.length hi - HT.sIx ds.length 0 lo)
abbrev WO (S : Type) := List Sl → S → (Option Int → S → Prop) → (Xc → S → Prop) → Prop
@[simp] def wNoPart : WO S := fun _ s k _ => k none s
@[simp] def wPart (w : WE S) : WO S := fun env s k x => w env s (fun d s1 => match d with
  | .int i => k (some i) s1
  | _ => False) x
@[simp] def wSl (wr : D → Option Int → Option Int → S → (D → S → Prop) → Prop) (we : WE S) (wl wh : WO S) : WE S := fun env s k x => we env s (fun d s1 => wl env s1 (fun l s2 => wh env s2 (fun h s3 => wr d l h s3 k) x) x) x
@[simp] def wSlT : D → Option Int → Option Int → S → (D → S → Prop) → Prop := fun d l h s k => match d with
  | .tup ds => k (.tup (cutD ds l h)) s
  | _ => False
@[simp] def wSlL : D → Option Int → Option Int → S → (D → S → Prop) → Prop := fun d l h s k => match d with
  | .lst ds => k (.lst (cutD ds l h)) s
  | _ => False
@[simp] def wSlS : D → Option Int → Option Int → S → (D → S → Prop) → Prop := fun d l h s k => match d with
  | .str z => k (.str (cutS z l h)) s
  | _ => False
end
section
variable {S : Type} (W : Wd S) (G : Gm S)
def SimP (t : TO) (w : WO S) : Prop := ∀ R env σ H s, Rel W G R env σ H s → ∀ k x, w env s k x → XOk W G x → ∀ Q : Option Int → Hp → Prop,
  (∀ o s' H', k o s' → Fr W s H s' H' → W.J s' H' → Q o H') → t σ H Q
def SimL (r : V → Option Int → Option Int → Hp → VK → Prop) (w : D → Option Int → Option Int → S → (D → S → Prop) → Prop) : Prop := ∀ R s H, At W R s H → ∀ x d, Ag W R s H x d → ∀ l h k, w d l h s k → ∀ Q : VK,
  (∀ d' v H', k d' s → Fr W s H s H' → W.J s H' → Da (Bf W R s) H' v d' → Q v H') → r x l h H Q
end
section
variable {S : Type} {W : Wd S} {G : Gm S} {K : PySem.W.Frag} {R : Addr → Prop} {s : S} {H : Hp}
/-! what a shallow thing is -/
theorem Ag.lstI {v : V} {ds : List D} (a : Ag W R s H v (.lst ds)) : ∃ p xs, v = .ref p ∧ H p = some (.lst xs) ∧ DaL (Bf W R s) H xs ds ∧ ds.length ≤ sizeLine := by
  cases a with
  | da h => cases h with
    | lst e n l z => exact ⟨_, _, rfl, e, l, z⟩
  | lst e n l z => exact ⟨_, _, rfl, e, l, z⟩
theorem Ag.tupI {v : V} {ds : List D} (a : Ag W R s H v (.tup ds)) : ∃ p xs, v = .ref p ∧ H p = some (.tup xs) ∧ DaL (Bf W R s) H xs ds ∧ Da (Bf W R s) H v (.tup ds) ∧ ds.length ≤ sizeLine := by
  cases a with
  | da h =>
    cases h with
    | tup e n l z => exact ⟨_, _, rfl, e, l, .tup e n l z, z⟩
theorem Ag.intI {v : V} {i : Int} (a : Ag W R s H v (.int i)) : v = .int i := by
  cases a with
  | da h => cases h; rfl
theorem Ag.blI {v : V} {i : Bool} (a : Ag W R s H v (.bl i)) : v = .bl i := by
  cases a with
  | da h => cases h; rfl
theorem Ag.strI {v : V} {i : Str} (a : Ag W R s H v (.str i)) : v = .str i ∧ i.length ≤ sizeLine := by
  cases a with
  | da h => cases h with
    | str h => exact ⟨rfl, h⟩
theorem Ag.nonI {v : V} (a : Ag W R s H v .non) : v = .non := by
  cases a with
  | da h => cases h; rfl
theorem Ag.tyI {v : V} {n : String} (a : Ag W R s H v (.ty n)) : v = .ty n := by
  cases a with
  | da h => cases h; rfl
theorem Ag.svI {v : V} {d : D} {u : V} (a : Ag W R s H v d) (h : d.sv = some u) : v = u := by
  cases d with
  | non => cases h; exact a.nonI
  | bl b => cases h; exact a.blI
  | int b => cases h; exact a.intI
  | str b => cases h; exact a.strI.1
  | _ => cases h
theorem AgL.one {vs : List V} {d : D} (a : AgL W R s H vs [d]) : ∃ v, vs = [v] ∧ Ag W R s H v d := by
  cases a with
  | cons h t => cases t; exact ⟨_, rfl, h⟩
theorem AgL.two {vs : List V} {d e : D} (a : AgL W R s H vs [d, e]) : ∃ v u, vs = [v, u] ∧ Ag W R s H v d ∧ Ag W R s H u e := by
  cases a with
  | cons h t =>
    obtain ⟨u, rfl, h2⟩ := t.one
    exact ⟨_, _, rfl, h, h2⟩
/-! operators -/
theorem so_i0 {g : Int → Int → V} (hs : ∀ i j, Sc (g i j) := by intros; exact True.intro) : SimO W (rI0 g) (wI0 g) := fun R s H at_ x y d e a b k hw Q hQ => by
  cases d with
  | int i => cases e with
    | int j => exact ⟨i, j, a.intI, b.intI, hQ _ _ H hw .refl at_.j (hs i j).da⟩
    | _ => exact hw.elim
  | _ => exact hw.elim
theorem so_iC {C : Int → Int → Prop} {g : Int → Int → V} (hs : ∀ i j, Sc (g i j) := by intros; exact True.intro) : SimO W (rI C g) (wIC C g) := fun R s H at_ x y d e a b k hw Q hQ => by
  cases d with
  | int i => cases e with
    | int j => exact ⟨i, j, a.intI, b.intI, hw.1, hQ _ _ H hw.2 .refl at_.j (hs i j).da⟩
    | _ => exact hw.elim
  | _ => exact hw.elim
theorem su_i {g : Int → V} (hs : ∀ i, Sc (g i) := by intros; exact True.intro) : SimU W (rU g) (wU g) := fun R s H at_ x d a k hw Q hQ => by
  cases d with
  | int i => exact ⟨i, a.intI, hQ _ _ H hw .refl at_.j (hs i).da⟩
  | _ => exact hw.elim
theorem D.eqs_sv {d e : D} {b : Bool} (h : d.eqs e = some b) : ∃ u v, d.sv = some u ∧ e.sv = some v ∧ scal u v = true ∧ b = decide (u = v) := by
  cases d <;> cases e <;> first
    | (cases h; exact ⟨_, _, rfl, rfl, rfl, by simp⟩)
    | cases h
theorem so_eq : SimO W rEq wEq := fun R s H at_ x y d e a b k hw Q hQ => by
  unfold wEq at hw
  cases h : d.eqs e with
  | none => rw [h] at hw; exact hw.elim
  | some c =>
    rw [h] at hw
    obtain ⟨u, v, h1, h2, h3, rfl⟩ := D.eqs_sv h
    rw [a.svI h1, b.svI h2]
    exact ⟨h3, hQ _ _ H hw .refl at_.j (.bl _)⟩
theorem so_ne : SimO W rNe wNe := fun R s H at_ x y d e a b k hw Q hQ => by
  unfold wNe at hw
  cases h : d.eqs e with
  | none => rw [h] at hw; exact hw.elim
  | some c =>
    rw [h] at hw
    obtain ⟨u, v, h1, h2, h3, rfl⟩ := D.eqs_sv h
    rw [a.svI h1, b.svI h2]
    exact ⟨h3, hQ _ _ H hw .refl at_.j (.bl _)⟩
theorem Ag.isN {v : V} {d : D} (a : Ag W R s H v d) : decide (v = .non) = (match d with | .non => true | _ => false) := by
  cases a with
  | da h => cases h <;> simp
  | _ => simp
theorem so_isN : SimO W rIsN wIsN := fun R s H at_ x y d e a b k hw Q hQ => by
  cases e with
  | non =>
    refine ⟨b.nonI, hQ _ _ H hw .refl at_.j ?_⟩
    rw [a.isN]
    cases d <;> exact .bl _
  | _ => exact hw.elim
theorem so_notN : SimO W rNotN wNotN := fun R s H at_ x y d e a b k hw Q hQ => by
  cases e with
  | non =>
    refine ⟨b.nonI, hQ _ _ H hw .refl at_.j ?_⟩
    rw [a.isN]
    cases d <;> exact .bl _
  | _ => exact hw.elim
theorem so_isB : SimO W rIsB wIsB := fun R s H at_ x y d e a b k hw Q hQ => by
  cases d with
  | bl i => cases e with
    | bl j => exact ⟨i, j, a.blI, b.blI, hQ _ _ H hw .refl at_.j (.bl _)⟩
    | _ => exact hw.elim
  | _ => exact hw.elim
theorem so_notB : SimO W rNotB wNotB := fun R s H at_ x y d e a b k hw Q hQ => by
  cases d with
  | bl i => cases e with
    | bl j => exact ⟨i, j, a.blI, b.blI, hQ _ _ H hw .refl at_.j (.bl _)⟩
    | _ => exact hw.elim
  | _ => exact hw.elim
theorem DaL.atI {B : Addr → Prop} {vs : List V} {ds : List D} {i : Int} {d : D} (h : DaL B H vs ds) (e : L2.atI ds i = some d) : ∃ v, L2.atI vs i = some v ∧ Da B H v d := by
  unfold L2.atI at e ⊢
  rw [h.len]
  cases q : ixN ds.length i with
  | none => rw [q] at e; cases e
  | some j =>
    rw [q] at e
    exact h.get' e
theorem so_ixL : SimO W (rIxL K) wIxL := fun R s H at_ x y d e a b k hw Q hQ => by
  cases d with
  | lst ds => cases e with
    | int i =>
      obtain ⟨p, xs, rfl, e1, l, lz⟩ := a.lstI
      simp only [wIxL] at hw
      cases q : atI ds i with
      | none => rw [q] at hw; exact hw.elim
      | some z =>
        rw [q] at hw
        obtain ⟨v, e2, h2⟩ := l.atI q
        exact ⟨p, xs, i, v, rfl, b.intI, .of e1, e2, hQ _ _ H hw .refl at_.j h2⟩
    | _ => exact hw.elim
  | _ => exact hw.elim
theorem so_ixT : SimO W (rIxT K) wIxT := fun R s H at_ x y d e a b k hw Q hQ => by
  cases d with
  | tup ds => cases e with
    | int i =>
      obtain ⟨p, xs, rfl, e1, l, _, lz⟩ := a.tupI
      simp only [wIxT] at hw
      cases q : atI ds i with
      | none => rw [q] at hw; exact hw.elim
      | some z =>
        rw [q] at hw
        obtain ⟨v, e2, h2⟩ := l.atI q
        exact ⟨p, xs, i, v, rfl, b.intI, .of e1, e2, hQ _ _ H hw .refl at_.j h2⟩
    | _ => exact hw.elim
  | _ => exact hw.elim
theorem one_le : ∀ c : Nat, (⟨#[c]⟩ : Str).length ≤ sizeLine := fun c => by
  show 1 ≤ sizeLine
  decide
theorem so_ix : SimO W (rIx K) wIx := fun R s H at_ x y d e a b k hw Q hQ => by
  cases d with
  | lst ds => cases e with
    | int i => exact .inl (so_ixL (K := K) R s H at_ x y _ _ a b k hw Q hQ)
    | _ => exact hw.elim
  | tup ds => cases e with
    | int i => exact .inr (.inl (so_ixT (K := K) R s H at_ x y _ _ a b k hw Q hQ))
    | _ => exact hw.elim
  | str z => cases e with
    | int i =>
      simp only [wIx] at hw
      cases q : atI z.cps.toList i with
      | none => rw [q] at hw; exact hw.elim
      | some c =>
        rw [q] at hw
        exact .inr (.inr ⟨z, i, c, a.strI.1, b.intI, a.strI.2, q, hQ _ _ H hw .refl at_.j (.str (one_le c))⟩)
    | _ => exact hw.elim
  | _ => exact hw.elim
theorem DaL.svs {B : Addr → Prop} {vs : List V} {ds : List D} (h : DaL B H vs ds) (q : ds.all (fun z => z.sv.isSome) = true) : ds.map (·.sv) = vs.map some := by
  induction vs generalizing ds with
  | nil => cases h; rfl
  | cons v vs ih =>
    cases h with
    | cons h1 t =>
      rw [List.all_cons, Bool.and_eq_true] at q
      rw [List.map_cons, List.map_cons, ih t q.2]
      congr 1
      cases h1 <;> first | rfl | exact absurd q.1 (by simp)
theorem sv_flat {d : D} {u : V} (h : d.sv = some u) : flatV u = true := by
  cases d <;> cases h <;> rfl
theorem so_in {neg : Bool} : SimO W (rIn K neg) (wIn neg) := fun R s H at_ x y d e a b k hw Q hQ => by
  have key : ∀ (p : Addr) (xs : List V) (ds : List D), y = .ref p → (SqL K H p xs ∨ SqT K H p xs) → DaL (Bf W R s) H xs ds → (d.sv.isSome = true ∧ ds.all (fun z => z.sv.isSome) = true ∧ k (.bl (if neg then !inD d ds else inD d ds)) s) → rIn K neg x y H Q := by
    rintro p xs ds rfl hs l ⟨h1, h2, h3⟩
    obtain ⟨u, hu⟩ := Option.isSome_iff_exists.mp h1
    have ex := a.svI hu
    subst ex
    have m := l.svs h2
    have ein : inV x xs = inD d ds := by
      clear h3 h2 hs l
      unfold inV inD
      induction xs generalizing ds with
      | nil => cases ds with
        | nil => rfl
        | cons _ _ => cases m
      | cons z zs ih => cases ds with
        | nil => cases m
        | cons c cs =>
          rw [List.map_cons, List.map_cons] at m
          injection m with m1 m2
          rw [List.any_cons, List.any_cons, ih cs m2, m1, hu]
    refine ⟨p, xs, rfl, hs, sv_flat hu, ?_, ?_⟩
    · rw [List.all_eq_true]
      intro z hz
      obtain ⟨c, hc, dc⟩ := l.mem hz
      have := List.all_eq_true.mp h2 c hc
      obtain ⟨u, hu⟩ := Option.isSome_iff_exists.mp this
      have e := (Ag.da (W := W) (R := R) (s := s) dc).svI hu
      rw [e]
      exact sv_flat hu
    · rw [ein]
      exact hQ _ _ H h3 .refl at_.j (.bl _)
  cases e with
  | lst ds =>
    obtain ⟨p, xs, rfl, e1, l, lz⟩ := b.lstI
    exact key p xs ds rfl (.inl (.of e1)) l hw
  | tup ds =>
    obtain ⟨p, xs, rfl, e1, l, _, lz⟩ := b.tupI
    exact key p xs ds rfl (.inr (.of e1)) l hw
  | _ => exact hw.elim
theorem so_str {p : Str → Str → Bool} : SimO W (rStr p) (wStr p) := fun R s H at_ x y d e a b k hw Q hQ => by
  cases d with
  | str i => cases e with
    | str j => exact ⟨i, j, a.strI.1, b.strI.1, hQ _ _ H hw .refl at_.j (.bl _)⟩
    | _ => exact hw.elim
  | _ => exact hw.elim
theorem so_inS : SimO W rInS wInS := fun R s H at_ x y d e a b k hw Q hQ => by
  cases d with
  | str i => cases e with
    | str j =>
      obtain ⟨c, rfl, hw⟩ := hw
      exact ⟨c, j, a.strI.1, b.strI.1, hQ _ _ H hw .refl at_.j (.bl _)⟩
    | _ => exact hw.elim
  | _ => exact hw.elim
theorem so_notInS : SimO W rNotInS wNotInS := fun R s H at_ x y d e a b k hw Q hQ => by
  cases d with
  | str i => cases e with
    | str j =>
      obtain ⟨c, rfl, hw⟩ := hw
      exact ⟨c, j, a.strI.1, b.strI.1, hQ _ _ H hw .refl at_.j (.bl _)⟩
    | _ => exact hw.elim
  | _ => exact hw.elim
theorem so_catT : SimO W (rCatA K) wCatT := fun R s H at_ x y d e a b k hw Q hQ => by
  cases d with
  | tup ds => cases e with
    | tup es =>
      obtain ⟨p, xs, rfl, e1, l1, da1, lz1⟩ := a.tupI
      obtain ⟨q, ys, rfl, e2, l2, da2, lz2⟩ := b.tupI
      refine ⟨p, q, xs, ys, rfl, rfl, .of e1, .of e2, by rw [l1.len, l2.len]; exact hw.1, fun hx => ?_, fun hx hy => ?_, fun hx hy r hr => ?_⟩
      · subst hx
        cases l1
        exact hQ _ _ H hw.2 .refl at_.j da2
      · subst hy
        cases l2
        have := hw.2
        rw [List.append_nil] at this
        exact hQ _ _ H this .refl at_.j da1
      · exact hQ _ _ _ hw.2 (.new_at hr at_) (at_.new_at hr).j (.tup upd_same (at_.fresh hr) ((l1.app l2).mv (Fr.new_at hr at_).mv) (by rw [List.length_append]; exact hw.1))
    | _ => exact hw.elim
  | _ => exact hw.elim
theorem so_catL : SimO W rCat wCatL := fun R s H at_ x y d e a b k hw Q hQ => by
  cases d with
  | lst ds => cases e with
    | lst es =>
      obtain ⟨p, xs, rfl, e1, l1, lz1⟩ := a.lstI
      obtain ⟨q, ys, rfl, e2, l2, lz2⟩ := b.lstI
      exact ⟨p, q, xs, ys, rfl, rfl, e1, e2, by rw [l1.len, l2.len]; exact hw.1, fun r hr => hQ _ _ _ hw.2 (.new_at hr at_) (at_.new_at hr).j (.lst upd_same (at_.fresh hr) ((l1.app l2).mv (Fr.new_at hr at_).mv) (by rw [List.length_append]; exact hw.1))⟩
    | _ => exact hw.elim
  | _ => exact hw.elim
theorem len_app (a b : Str) : (a ++ b).length = a.length + b.length := by
  show (a.cps ++ b.cps).size = _
  rw [Array.size_append]
  rfl
theorem so_addS : SimO W rAddS wAddS := fun R s H at_ x y d e a b k hw Q hQ => by
  cases d with
  | str i => cases e with
    | str j => exact ⟨i, j, a.strI.1, b.strI.1, hw.1, hQ _ _ H hw.2 .refl at_.j (.str (by rw [len_app]; exact hw.1))⟩
    | _ => exact hw.elim
  | _ => exact hw.elim
theorem so_mulS : SimO W Dt.rMulS wMulS := fun R s H at_ x y d e a b k hw Q hQ => by
  cases d with
  | str i => cases e with
    | int j =>
      obtain ⟨h1, h2, h3, h4, h5, h6, h7⟩ := hw
      exact ⟨i, j, a.strI.1, b.intI, h1, h2, h3, h4, h5, h6, hQ _ _ H h7 .refl at_.j (.str h6)⟩
    | _ => exact hw.elim
  | _ => exact hw.elim
theorem DaL.rep {B : Addr → Prop} {vs : List V} {ds : List D} (h : DaL B H vs ds) : ∀ n, DaL B H (List.replicate n vs).flatten (List.replicate n ds).flatten
  | 0 => .nil
  | n + 1 => by
    rw [List.replicate_succ, List.replicate_succ, List.flatten_cons, List.flatten_cons]
    exact h.app (h.rep n)
theorem rep_len {α : Type} (n : Nat) (l : List α) : (List.replicate n l).flatten.length = n * l.length := by
  induction n with
  | zero => simp
  | succ n ih => rw [List.replicate_succ, List.flatten_cons, List.length_append, ih, Nat.succ_mul, Nat.add_comm]
theorem so_repT : SimO W (rRepT K) wRepT := fun R s H at_ x y d e a b k hw Q hQ => by
  cases d with
  | tup ds => cases e with
    | int j =>
      obtain ⟨h1, h2, h3, h4, h5, h6⟩ := hw
      obtain ⟨p, xs, rfl, e1, l1, da1, lz1⟩ := a.tupI
      exact ⟨p, j, xs, rfl, b.intI, .of e1, fun z => h1 (by subst z; cases l1; rfl), h2, h3, by rw [l1.len]; exact h4, fun r hr =>
        hQ _ _ _ h6 (.new_at hr at_) (at_.new_at hr).j (.tup upd_same (at_.fresh hr) ((l1.rep _).mv (Fr.new_at hr at_).mv) (by rw [rep_len, Nat.mul_comm]; exact h5))⟩
    | _ => exact hw.elim
  | _ => exact hw.elim
mutual
theorem Da.py {B : Addr → Prop} : ∀ {d : D} {v : V} {p : PyData}, Da B H v d → d.py = some p → Dp K H v p
  | .non, _, _, h, e => by
    cases h
    cases e
    exact .non
  | .bl b, _, _, h, e => by
    cases h
    cases e
    exact .bl b
  | .int i, _, _, h, e => by
    cases h
    cases e
    exact .int i
  | .str x, _, _, h, e => by
    cases h
    cases e
    exact .str x
  | .lst ds, _, _, h, e => by
    cases h with
    | lst e1 n l _ =>
      unfold D.py at e
      obtain ⟨ps, e2, rfl⟩ := Option.map_eq_some_iff.mp e
      exact .lst (.of e1) (DaL.pys l e2)
  | .tup ds, _, _, h, e => by
    cases h with
    | tup e1 n l _ =>
      unfold D.py at e
      obtain ⟨ps, e2, rfl⟩ := Option.map_eq_some_iff.mp e
      exact .tup (.of e1) (DaL.pys l e2)
  | .dic _, _, _, _, e => by cases e
  | .dit _, _, _, _, e => by cases e
  | .obj _ _, _, _, _, e => by cases e
  | .opq _, _, _, _, e => by cases e
  | .ty _, _, _, _, e => by cases e
theorem DaL.pys {B : Addr → Prop} : ∀ {ds : List D} {vs : List V} {ps : List PyData}, DaL B H vs ds → D.pys ds = some ps → DpAll K H vs ps
  | [], _, _, h, e => by
    cases h
    cases e
    exact .nil
  | d :: r, _, _, h, e => by
    cases h with
    | cons h1 t =>
      unfold D.pys at e
      cases e1 : d.py with
      | none => rw [e1] at e; cases e
      | some a =>
        cases e2 : D.pys r with
        | none => rw [e1, e2] at e; cases e
        | some b =>
          rw [e1, e2] at e
          cases e
          exact .cons (Da.py h1 e1) (DaL.pys t e2)
end
theorem Ag.py {v : V} {d : D} {p : PyData} (a : Ag W R s H v d) (e : d.py = some p) : Dp K H v p := by
  cases a with
  | da h => exact h.py e
  | lst e1 n l _ =>
    unfold D.py at e
    obtain ⟨ps, e2, rfl⟩ := Option.map_eq_some_iff.mp e
    exact .lst (.of e1) (l.pys e2)
  | dic => cases e
  | dit => cases e
theorem so_eqD : SimO W (rEqD K) wEqD := fun R s H at_ x y d e a b k hw Q hQ => by
  obtain ⟨p, q, h1, h2, h3, h4, h5⟩ := hw
  exact ⟨p, q, a.py h1, b.py h2, h3, h4, hQ _ _ H h5 .refl at_.j (.bl _)⟩
theorem so_neD : SimO W (rNeD K) wNeD := fun R s H at_ x y d e a b k hw Q hQ => by
  obtain ⟨p, q, h1, h2, h3, h4, h5⟩ := hw
  exact ⟨p, q, a.py h1, b.py h2, h3, h4, hQ _ _ H h5 .refl at_.j (.bl _)⟩
theorem so_inD : SimO W (rInD K) wInD := fun R s H at_ x y d e a b k hw Q hQ => by
  obtain ⟨p, q, h1, h2, h3, h4, h5⟩ := hw
  exact ⟨p, q, a.py h1, b.py h2, h3, h4, hQ _ _ H h5 .refl at_.j (.bl _)⟩
theorem so_notInD : SimO W (rNotInD K) wNotInD := fun R s H at_ x y d e a b k hw Q hQ => by
  obtain ⟨p, q, h1, h2, h3, h4, h5⟩ := hw
  exact ⟨p, q, a.py h1, b.py h2, h3, h4, hQ _ _ H h5 .refl at_.j (.bl _)⟩
theorem DaL.ints {B : Addr → Prop} : ∀ {ds : List D} {vs : List V} {ns : List Int}, DaL B H vs ds → D.ints ds = some ns → vs = ns.map V.int
  | [], _, _, .nil, e => by cases e; rfl
  | .int i :: r, _, _, .cons h t, e => by
    cases h
    unfold D.ints at e
    obtain ⟨ms, e2, rfl⟩ := Option.map_eq_some_iff.mp e
    rw [List.map_cons, t.ints e2]
  | .non :: _, _, _, _, e => by cases e
  | .bl _ :: _, _, _, _, e => by cases e
  | .str _ :: _, _, _, _, e => by cases e
  | .lst _ :: _, _, _, _, e => by cases e
  | .tup _ :: _, _, _, _, e => by cases e
  | .dic _ :: _, _, _, _, e => by cases e
  | .dit _ :: _, _, _, _, e => by cases e
  | .obj _ _ :: _, _, _, _, e => by cases e
  | .opq _ :: _, _, _, _, e => by cases e
  | .ty _ :: _, _, _, _, e => by cases e
theorem DaL.bls {B : Addr → Prop} : ∀ {ds : List D} {vs : List V} {ns : List Bool}, DaL B H vs ds → D.bls ds = some ns → vs = ns.map V.bl
  | [], _, _, .nil, e => by cases e; rfl
  | .bl i :: r, _, _, .cons h t, e => by
    cases h
    unfold D.bls at e
    obtain ⟨ms, e2, rfl⟩ := Option.map_eq_some_iff.mp e
    rw [List.map_cons, t.bls e2]
  | .non :: _, _, _, _, e => by cases e
  | .int _ :: _, _, _, _, e => by cases e
  | .str _ :: _, _, _, _, e => by cases e
  | .lst _ :: _, _, _, _, e => by cases e
  | .tup _ :: _, _, _, _, e => by cases e
  | .dic _ :: _, _, _, _, e => by cases e
  | .dit _ :: _, _, _, _, e => by cases e
  | .obj _ _ :: _, _, _, _, e => by cases e
  | .opq _ :: _, _, _, _, e => by cases e
  | .ty _ :: _, _, _, _, e => by cases e
theorem DaL.strs {B : Addr → Prop} : ∀ {ds : List D} {vs : List V} {ns : List Str}, DaL B H vs ds → D.strs ds = some ns → vs = ns.map V.str
  | [], _, _, .nil, e => by cases e; rfl
  | .str i :: r, _, _, .cons h t, e => by
    cases h
    unfold D.strs at e
    obtain ⟨ms, e2, rfl⟩ := Option.map_eq_some_iff.mp e
    rw [List.map_cons, t.strs e2]
  | .non :: _, _, _, _, e => by cases e
  | .int _ :: _, _, _, _, e => by cases e
  | .bl _ :: _, _, _, _, e => by cases e
  | .lst _ :: _, _, _, _, e => by cases e
  | .tup _ :: _, _, _, _, e => by cases e
  | .dic _ :: _, _, _, _, e => by cases e
  | .dit _ :: _, _, _, _, e => by cases e
  | .obj _ _ :: _, _, _, _, e => by cases e
  | .opq _ :: _, _, _, _, e => by cases e
  | .ty _ :: _, _, _, _, e => by cases e
def rTT (K : PySem.W.Frag) (f : List Int → List Int → Bool) : R2 := fun x y H Q => ∃ (a b : Addr) (ns ms : List Int), x = .ref a ∧ y = .ref b ∧ SqT K H a (ns.map V.int) ∧ SqT K H b (ms.map V.int) ∧ Q (.bl (f ns ms)) H
theorem so_TT {f : List Int → List Int → Bool} : SimO W (rTT K f) (wLtT f) := fun R s H at_ x y d e a b k hw Q hQ => by
  cases d with
  | tup ds => cases e with
    | tup es =>
      obtain ⟨ns, ms, h1, h2, h3⟩ := hw
      obtain ⟨p, xs, rfl, e1, l1, da1, lz1⟩ := a.tupI
      obtain ⟨q, ys, rfl, e2, l2, da2, lz2⟩ := b.tupI
      have := l1.ints h1
      subst this
      have := l2.ints h2
      subst this
      exact ⟨p, q, ns, ms, rfl, rfl, .of e1, .of e2, hQ _ _ H h3 .refl at_.j (.bl _)⟩
    | _ => exact hw.elim
  | _ => exact hw.elim
/-! built-ins -/
theorem sc_len : SimC W (Rd.rLen K) wLen := fun R s H at_ xs ds a k hw Q hQ => by
  match ds, a, hw with
  | [.lst es], a, hw =>
    obtain ⟨v, rfl, a1⟩ := a.one
    obtain ⟨p, ys, rfl, e, l, lz⟩ := a1.lstI
    exact .inl ⟨p, ys, rfl, .inl (.of e), hQ _ _ H (by simpa [l.len] using hw) .refl at_.j (.int _)⟩
  | [.tup es], a, hw =>
    obtain ⟨v, rfl, a1⟩ := a.one
    obtain ⟨p, ys, rfl, e, l, _, lz⟩ := a1.tupI
    exact .inl ⟨p, ys, rfl, .inr (.of e), hQ _ _ H (by simpa [l.len] using hw) .refl at_.j (.int _)⟩
  | [.str z], a, hw =>
    obtain ⟨v, rfl, a1⟩ := a.one
    exact .inr ⟨z, by rw [a1.strI.1], a1.strI.2, hQ _ _ H hw .refl at_.j (.int _)⟩
theorem sc_int : SimC W Rd.rInt wInt := fun R s H at_ xs ds a k hw Q hQ => by
  match ds, a, hw with
  | [.int i], a, hw =>
    obtain ⟨v, rfl, a1⟩ := a.one
    exact .inl ⟨i, by rw [a1.intI], hQ _ _ H hw .refl at_.j (.int _)⟩
  | [.bl i], a, hw =>
    obtain ⟨v, rfl, a1⟩ := a.one
    exact .inr ⟨i, by rw [a1.blI], hQ _ _ H hw .refl at_.j (.int _)⟩
theorem sc_abs : SimC W Rd.rAbs wAbs := fun R s H at_ xs ds a k hw Q hQ => by
  match ds, a, hw with
  | [.int i], a, hw =>
    obtain ⟨v, rfl, a1⟩ := a.one
    exact ⟨i, by rw [a1.intI], hQ _ _ H hw .refl at_.j (.int _)⟩
theorem sc_str : SimC W rStrI wStrI := fun R s H at_ xs ds a k hw Q hQ => by
  match ds, a, hw with
  | [.int i], a, hw =>
    obtain ⟨v, rfl, a1⟩ := a.one
    exact ⟨i, by rw [a1.intI], hw.1, hQ _ _ H hw.2.2 .refl at_.j (.str hw.2.1)⟩
theorem sc_mm {f : Int → Int → Int} : SimC W (rMM f) (wMM f) := fun R s H at_ xs ds a k hw Q hQ => by
  match ds, a, hw with
  | [.int i, .int j], a, hw =>
    obtain ⟨v, u, rfl, a1, b1⟩ := a.two
    exact ⟨i, j, by rw [a1.intI, b1.intI], hQ _ _ H hw .refl at_.j (.int _)⟩
theorem sc_list : SimC W (Rd.rListOf K) wListOf := fun R s H at_ xs ds a k hw Q hQ => by
  match ds, a, hw with
  | [.lst es], a, hw =>
    obtain ⟨v, rfl, a1⟩ := a.one
    obtain ⟨p, ys, rfl, e, l, lz⟩ := a1.lstI
    exact ⟨p, ys, rfl, .inl (.of e), fun r hr => hQ _ _ _ hw (.new_at hr at_) (at_.new_at hr).j (.lst upd_same (at_.fresh hr) (l.mv (Fr.new_at hr at_).mv) lz)⟩
  | [.tup es], a, hw =>
    obtain ⟨v, rfl, a1⟩ := a.one
    obtain ⟨p, ys, rfl, e, l, _, lz⟩ := a1.tupI
    exact ⟨p, ys, rfl, .inr (.of e), fun r hr => hQ _ _ _ hw (.new_at hr at_) (at_.new_at hr).j (.lst upd_same (at_.fresh hr) (l.mv (Fr.new_at hr at_).mv) lz)⟩
theorem sc_tuple : SimC W (Rd.rTupOf K) wTupOf := fun R s H at_ xs ds a k hw Q hQ => by
  match ds, a, hw with
  | [.lst es], a, hw =>
    obtain ⟨v, rfl, a1⟩ := a.one
    obtain ⟨p, ys, rfl, e, l, lz⟩ := a1.lstI
    exact ⟨p, ys, rfl, .inl ⟨.of e, fun r hr => hQ _ _ _ hw (.new_at hr at_) (at_.new_at hr).j (.tup upd_same (at_.fresh hr) (l.mv (Fr.new_at hr at_).mv) lz)⟩⟩
  | [.tup es], a, hw =>
    obtain ⟨v, rfl, a1⟩ := a.one
    obtain ⟨p, ys, rfl, e, l, d, lz⟩ := a1.tupI
    exact ⟨p, ys, rfl, .inr ⟨.of e, hQ _ _ H hw .refl at_.j d⟩⟩
theorem sc_sum : SimC W (rSum K) wSum := fun R s H at_ xs ds a k hw Q hQ => by
  match ds, a, hw with
  | [.lst es], a, ⟨ns, h1, hw⟩ =>
    obtain ⟨v, rfl, a1⟩ := a.one
    obtain ⟨p, ys, rfl, e, l, lz⟩ := a1.lstI
    have := l.ints h1
    subst this
    exact ⟨p, ns, rfl, .of e, hQ _ _ H hw .refl at_.j (.int _)⟩
theorem sc_all : SimC W (rAll K) wAll := fun R s H at_ xs ds a k hw Q hQ => by
  match ds, a, hw with
  | [.lst es], a, ⟨ns, h1, hw⟩ =>
    obtain ⟨v, rfl, a1⟩ := a.one
    obtain ⟨p, ys, rfl, e, l, lz⟩ := a1.lstI
    have := l.bls h1
    subst this
    exact ⟨p, ns, rfl, .of e, hQ _ _ H hw .refl at_.j (.bl _)⟩
theorem sc_any : SimC W (rAny K) wAny := fun R s H at_ xs ds a k hw Q hQ => by
  match ds, a, hw with
  | [.lst es], a, ⟨ns, h1, hw⟩ =>
    obtain ⟨v, rfl, a1⟩ := a.one
    obtain ⟨p, ys, rfl, e, l, lz⟩ := a1.lstI
    have := l.bls h1
    subst this
    exact ⟨p, ns, rfl, .of e, hQ _ _ H hw .refl at_.j (.bl _)⟩
def D.tyv : D → Option Value
  | .non => some (.type "NoneType")
  | .bl _ => some (.type "bool")
  | .int _ => some (.type "int")
  | .str _ => some (.type "str")
  | .lst _ => some (.type "list")
  | .tup _ => some (.type "tuple")
  | .dic _ => some (.type "dict")
  | .dit _ => some (.type "dict")
  | _ => none
theorem Ag.tyv {v : V} {d : D} {t : Value} (a : Ag W R s H v d) (h : d.tyv = some t) : TyX K H v t := by
  cases a with
  | da q =>
    cases q with
    | non => cases h; exact .base .non
    | bl b => cases h; exact .base (.bl b)
    | int i => cases h; exact .base (.int i)
    | str z => cases h; exact .base (.str _)
    | lst e _ _ _ => cases h; exact .base (.lst e)
    | tup e _ _ _ => cases h; exact .base (.tup e)
    | dic e _ _ => cases h; exact .base (.dK e)
    | dit e _ _ => cases h; exact .base (.dT e)
    | _ => cases h
  | lst e _ _ _ => cases h; exact .base (.lst e)
  | dic e _ _ => cases h; exact .base (.dK e)
  | dit e _ _ => cases h; exact .base (.dT e)
theorem isT_kit {d : D} {n : String} {b : Bool} (hn : n ∈ known6) (h : d.isT n = some b) : ∃ t, d.tyv = some t ∧ PySem.W.kitOne K t (.type n) = some b := by
  simp only [known6, List.mem_cons, List.not_mem_nil, or_false] at hn
  rcases hn with rfl | rfl | rfl | rfl | rfl | rfl <;> cases d <;> first | (cases h; exact ⟨_, rfl, rfl⟩) | cases h
theorem sc_isi : SimC W (rIsi K) wIsi := fun R s H at_ xs ds a k hw Q hQ => by
  match ds, a, hw with
  | [d, .ty n], a, ⟨hn, hw⟩ =>
    obtain ⟨v, u, rfl, a1, b1⟩ := a.two
    cases h : d.isT n with
    | none => rw [h] at hw; exact hw.elim
    | some c =>
      rw [h] at hw
      obtain ⟨t, h1, h2⟩ := isT_kit (K := K) hn h
      exact ⟨v, u, t, .type n, c, rfl, by rw [b1.tyI]; exact .ty n, a1.tyv h1, h2, hQ _ _ H hw .refl at_.j (.bl _)⟩
end
section
variable {S : Type} {W : Wd S} {G : Gm S} {K : PySem.W.Frag}
theorem sp_no : SimP W G tNoPart wNoPart := fun R env σ H s rl k x hw ox Q hQ => hQ none s H hw .refl rl.at_.j
theorem sp_part {t : TE} {w : WE S} (h : SimG W G t w) : SimP W G (tPart t) (wPart w) := fun R env σ H s rl k x hw ox Q hQ => h R env σ H s rl _ x hw ox _ fun d s1 v H1 hw1 f1 j1 a1 => by
  cases d with
  | int i => exact ⟨i, a1.intI, hQ _ s1 H1 hw1 f1 j1⟩
  | _ => exact hw1.elim
theorem sim_sl {r : V → Option Int → Option Int → Hp → VK → Prop} {wr : D → Option Int → Option Int → S → (D → S → Prop) → Prop} {te : TE} {tl th : TO} {we : WE S} {wl wh : WO S} (hr : SimL W r wr) (he : SimG W G te we) (hl : SimP W G tl wl) (hh : SimP W G th wh) :
    SimE W G (tSl r te tl th) (wSl wr we wl wh) := fun R env σ H s rl k x hw ox Q hQ => he R env σ H s rl _ x hw ox _ fun d s1 v H1 hw1 f1 j1 a1 => hl R env σ H1 s1 (rl.step f1 j1) _ x hw1 ox _ fun l s2 H2 hw2 f2 j2 =>
    hh R env σ H2 s2 ((rl.step f1 j1).step f2 j2) _ x hw2 ox _ fun u s3 H3 hw3 f3 j3 => hr R s3 H3 (((rl.step f1 j1).step f2 j2).step f3 j3).at_ v d ((a1.fr f2).fr f3) l u k hw3 Q fun d' z H' hk f j a => hQ d' s3 z H' hk (((f1.trans f2).trans f3).trans f) j a
theorem cutD_len (ds : List D) (lo hi : Option Int) : (cutD ds lo hi).length ≤ ds.length := by
  unfold cutD
  rw [List.length_take, List.length_drop]
  omega
theorem DaL.cut {B : Addr → Prop} {H : Hp} {vs : List V} {ds : List D} (h : DaL B H vs ds) (lo hi : Option Int) : DaL B H (cutV vs lo hi) (cutD ds lo hi) := by
  unfold cutV cutD
  rw [h.len]
  exact (h.drop _).take _
theorem sl_t : SimL W (rSlA K) wSlT := fun R s H at_ x d a l h k hw Q hQ => by
  cases d with
  | tup ds =>
    obtain ⟨p, xs, rfl, e, hl, da, lz⟩ := a.tupI
    refine ⟨p, xs, rfl, .of e, fun hx => ?_, fun hx r hr => ?_⟩
    · have hx' : HT.sIx ds.length 0 l = 0 ∧ HT.sIx ds.length ds.length h = ds.length := by rw [hl.len] at hx; exact hx
      have hw' : k (.tup (cutD ds l h)) s := hw
      unfold cutD at hw'
      rw [Dt.cutV_whole hx'] at hw'
      exact hQ _ _ H hw' .refl at_.j da
    · exact hQ _ _ _ hw (.new_at hr at_) (at_.new_at hr).j (.tup upd_same (at_.fresh hr) ((hl.cut l h).mv (Fr.new_at hr at_).mv) (Nat.le_trans (cutD_len _ _ _) lz))
  | _ => exact hw.elim
theorem sl_l : SimL W (rSlL K) wSlL := fun R s H at_ x d a l h k hw Q hQ => by
  cases d with
  | lst ds =>
    obtain ⟨p, xs, rfl, e, hl, lz⟩ := a.lstI
    exact ⟨p, xs, rfl, .of e, fun r hr => hQ _ _ _ hw (.new_at hr at_) (at_.new_at hr).j (.lst upd_same (at_.fresh hr) ((hl.cut l h).mv (Fr.new_at hr at_).mv) (Nat.le_trans (cutD_len _ _ _) lz))⟩
  | _ => exact hw.elim
theorem cutS_le (z : Str) (l h : Option Int) : (cutS z l h).length ≤ z.length := by
  show (Array.size _) ≤ _
  rw [cutS]
  simp only [List.size_toArray, List.length_take, List.length_drop]
  have : z.cps.toList.length = z.length := by simp [Str.length]
  omega
theorem sl_s : SimL W rSlS wSlS := fun R s H at_ x d a l h k hw Q hQ => by
  cases d with
  | str z => exact ⟨z, a.strI.1, a.strI.2, hQ _ _ H hw .refl at_.j (.str (Nat.le_trans (cutS_le z l h) a.strI.2))⟩
  | _ => exact hw.elim
end
end Dw
set_option Elab.async false
set_option linter.all false
set_option maxRecDepth 100000
set_option maxHeartbeats 4000000
/-! Dn: what is walked, targets, comprehensions, statements, defs over data. -/
namespace Dw
open PySem PySem.Spec PyProof.Rows L2 RZ
abbrev WG := D → List Sl → (List Sl → Prop) → Prop
abbrev WI (S : Type) := List Sl → S → (List D → S → Prop) → (Xc → S → Prop) → Prop
section
variable {S : Type} (W : Wd S) (G : Gm S)
/-- an iterator of just these items, while St holds -/
structure Itr (J : It) (ds : List D) (St : (Addr → Prop) → S → Hp → Prop) : Prop where
  mv : ∀ R s H R' s' H', St R s H → Mv (Bf W R s) H (Bf W R' s') H' → St R' s' H'
  go : ∀ i R s H, i < ds.length → St R s H → J.go i H
  stop : ∀ R s H, St R s H → J.stop ds.length H
  yld : ∀ i R s H x H', i < ds.length → St R s H → At W R s H → J.yld i H x H' → ∃ d, ds[i]? = some d ∧ Fr W s H s H' ∧ W.J s H' ∧ Da (Bf W R s) H' x d
def SimI (t : TI) (w : WI S) : Prop := ∀ R env σ H s, Rel W G R env σ H s → ∀ k x, w env s k x → XOk W G x → ∀ Q : It → Hp → Prop,
  (∀ ds s' J H' St, k ds s' → Fr W s H s' H' → W.J s' H' → Itr W J ds St → St R s' H' → Q J H') → t σ H Q
/-- a target; us the slots that it sets -/
def SimTg (us : List Nat) (g : TG) (w : WG) : Prop := ∀ R env σ H s, Rel W G R env σ H s → ∀ v d, Da (Bf W R s) H v d → ∀ k, w d env k → ∀ Q : L2.St → Hp → Prop,
  (∀ env' σ', k env' → Rel W G R env' σ' H s → (∀ j, j ∉ us → σ'[j]? = σ[j]?) → σ'.length = σ.length → Q σ' H) → g v σ H Q
def SimTgs (us : List Nat) (g : TGs) (w : List D → List Sl → (List Sl → Prop) → Prop) : Prop := ∀ R env σ H s, Rel W G R env σ H s → ∀ v d, DaL (Bf W R s) H v d → ∀ k, w d env k → ∀ Q : L2.St → Hp → Prop,
  (∀ env' σ', k env' → Rel W G R env' σ' H s → (∀ j, j ∉ us → σ'[j]? = σ[j]?) → σ'.length = σ.length → Q σ' H) → g v σ H Q
end
section
variable {S : Type}
@[simp] def wName (i : Nat) : WG := fun d env k => k (ss env i (.dat d))
@[simp] def wGTup (n : Nat) (w : List D → List Sl → (List Sl → Prop) → Prop) : WG := fun d env k => match d with
  | .tup ds => ds.length = n ∧ w ds env k
  | _ => False
@[simp] def wGNil : List D → List Sl → (List Sl → Prop) → Prop := fun ds env k => match ds with
  | [] => k env
  | _ => False
@[simp] def wGCons (w : WG) (u : List D → List Sl → (List Sl → Prop) → Prop) : List D → List Sl → (List Sl → Prop) → Prop := fun ds env k => match ds with
  | d :: r => w d env fun e => u r e k
  | _ => False
def pairD : List D → List D → List D
  | a :: r, b :: t => .tup [a, b] :: pairD r t
  | _, _ => []
def enumD : Nat → List D → List D
  | _, [] => []
  | n, d :: r => .tup [.int (n : Int), d] :: enumD (n + 1) r
@[simp] def wiTup (w : WE S) : WI S := fun env s k x => w env s (fun d s1 => match d with
  | .tup ds => k ds s1
  | _ => False) x
@[simp] def wiList (w : WE S) : WI S := fun env s k x => w env s (fun d s1 => match d with
  | .lst ds => k ds s1
  | _ => False) x
def signs (z : Str) : List D := z.cps.toList.map fun c => .str ⟨#[c]⟩
@[simp] def wiStr (w : WE S) : WI S := fun env s k x => w env s (fun d s1 => match d with
  | .str z => k (signs z) s1
  | _ => False) x
def rngD (lo : Int) (n : Nat) : List D := (List.range n).map fun i => .int (lo + (i : Nat))
@[simp] def wiRng1 (w : WA S) : WI S := fun env s k x => w env s (fun ds s1 => match ds with
  | [.int j] => j < sizeLine ∧ -(2 ^ 62) ≤ j ∧ k (rngD 0 j.toNat) s1
  | _ => False) x
@[simp] def wiRng2 (w : WA S) : WI S := fun env s k x => w env s (fun ds s1 => match ds with
  | [.int i, .int j] => j - i < sizeLine ∧ (-(2 ^ 62) ≤ i ∧ i < 2 ^ 62 ∧ -(2 ^ 62) ≤ j ∧ j < 2 ^ 62) ∧ k (rngD i (j - i).toNat) s1
  | _ => False) x
@[simp] def wiEnum (w : WA S) : WI S := fun env s k x => w env s (fun ds s1 => match ds with
  | [.lst es] => k (enumD 0 es) s1
  | _ => False) x
@[simp] def wiZip (w : WA S) : WI S := fun env s k x => w env s (fun ds s1 => match ds with
  | [.lst es, .lst fs] => k (pairD es fs) s1
  | [.tup es, .tup fs] => k (pairD es fs) s1
  | _ => False) x
@[simp] def wiRev (w : WE S) : WI S := fun env s k x => w env s (fun d s1 => match d with
  | .lst es => k es.reverse s1
  | .tup es => k es.reverse s1
  | _ => False) x
end
section
variable {S : Type} {W : Wd S} {G : Gm S} {K : PySem.W.Frag}
theorem tg_name {i : Nat} : SimTg W G [i] (gName i) (wName i) := fun R env σ H s rl v d a k hw Q hQ => hQ _ _ hw (rl.setD i a) (fun j hj => by
  rw [List.getElem?_set_ne (by simp at hj; omega)]) (List.length_set ..)
theorem tgs_nil : SimTgs W G [] gNil wGNil := fun R env σ H s rl v d a k hw Q hQ => by
  cases a with
  | nil => exact ⟨rfl, hQ _ _ hw rl (fun _ _ => rfl) rfl⟩
  | cons _ _ => exact hw.elim
theorem tgs_cons {g : TG} {u : TGs} {w : WG} {wu : List D → List Sl → (List Sl → Prop) → Prop} {us vs : List Nat} (hg : SimTg W G us g w) (hu : SimTgs W G vs u wu) : SimTgs W G (us ++ vs) (gCons g u) (wGCons w wu) := fun R env σ H s rl v d a k hw Q hQ => by
  cases a with
  | nil => exact hw.elim
  | cons a t => exact ⟨_, _, rfl, hg R env σ H s rl _ _ a _ hw _ fun env' σ' hk rl' ag ln => hu R env' σ' H s rl' _ _ t k hk Q fun env2 σ2 hk2 rl2 ag2 ln2 =>
      hQ env2 σ2 hk2 rl2 (fun j hj => by rw [ag2 j fun z => hj (List.mem_append.mpr (.inr z)), ag j fun z => hj (List.mem_append.mpr (.inl z))]) (ln2.trans ln)⟩
theorem tg_tup {n : Nat} {u : TGs} {wu : List D → List Sl → (List Sl → Prop) → Prop} {us : List Nat} (hu : SimTgs W G us u wu) : SimTg W G us (gTup K n u) (wGTup n wu) := fun R env σ H s rl v d a k hw Q hQ => by
  cases d with
  | tup ds =>
    cases a with
    | tup e nb l z => exact ⟨_, _, rfl, .of e, by rw [l.len]; exact hw.1, hu R env σ H s rl _ _ l k hw.2 Q hQ⟩
  | _ => exact hw.elim
theorem itr_tup {a : Addr} {ds : List D} : Itr W (Itt K a) ds (fun R s H => Da (Bf W R s) H (.ref a) (.tup ds)) where
  mv R s H R' s' H' h m := h.mv m
  go i R s H hi h := by
    cases h with
    | tup e n l z =>
      obtain ⟨v, hv, _⟩ := l.get' (i := i) (d := ds[i]) (List.getElem?_eq_getElem hi)
      exact ⟨_, v, .of e, hv⟩
  stop R s H h := by
    cases h with
    | tup e n l z => exact ⟨_, .of e, Nat.le_of_eq l.len⟩
  yld i R s H x H' hi h at_ y := by
    cases h with
    | tup e n l z =>
      obtain ⟨rfl, y⟩ := y
      obtain ⟨d, hd, q⟩ := l.get (y _ (.of e))
      exact ⟨d, hd, .refl, at_.j, q⟩
theorem itr_lst {a : Addr} {ds : List D} : Itr W (Itl K a) ds (fun R s H => Da (Bf W R s) H (.ref a) (.lst ds)) where
  mv R s H R' s' H' h m := h.mv m
  go i R s H hi h := by
    cases h with
    | lst e n l z =>
      obtain ⟨v, hv, _⟩ := l.get' (i := i) (d := ds[i]) (List.getElem?_eq_getElem hi)
      exact ⟨_, v, .of e, hv⟩
  stop R s H h := by
    cases h with
    | lst e n l z => exact ⟨_, .of e, Nat.le_of_eq l.len⟩
  yld i R s H x H' hi h at_ y := by
    cases h with
    | lst e n l z =>
      obtain ⟨rfl, y⟩ := y
      obtain ⟨d, hd, q⟩ := l.get (y _ (.of e))
      exact ⟨d, hd, .refl, at_.j, q⟩
theorem itr_str {z : Str} : Itr W (Its z) (signs z) (fun R s H => True) where
  mv R s H R' s' H' h m := h
  go i R s H hi h := by
    show i < z.cps.size
    simpa [signs] using hi
  stop R s H h := by
    show z.cps.size ≤ _
    simp [signs]
  yld i R s H x H' hi h at_ y := by
    obtain ⟨rfl, c, hc, rfl⟩ := y
    refine ⟨.str ⟨#[c]⟩, ?_, .refl, at_.j, .str (one_le c)⟩
    unfold signs
    rw [List.getElem?_map, Array.getElem?_toList, hc]
    rfl
theorem itr_rng {lo : Int} {n : Nat} : Itr W (L2.Itr lo n) (rngD lo n) (fun R s H => True) where
  mv R s H R' s' H' h m := h
  go i R s H hi h := by
    show i < n
    simpa [rngD] using hi
  stop R s H h := by
    show n ≤ _
    simp [rngD]
  yld i R s H x H' hi h at_ y := by
    obtain ⟨rfl, rfl⟩ := y
    refine ⟨.int (lo + (i : Nat)), ?_, .refl, at_.j, .int _⟩
    have hi' : i < n := by simpa [rngD] using hi
    unfold rngD
    rw [List.getElem?_map, List.getElem?_range hi']
    rfl
theorem enumD_len : ∀ (n : Nat) (ds : List D), (enumD n ds).length = ds.length
  | _, [] => rfl
  | n, d :: r => congrArg (· + 1) (enumD_len (n + 1) r)
theorem enumD_get : ∀ (n : Nat) (ds : List D) (i : Nat) (d : D), ds[i]? = some d → (enumD n ds)[i]? = some (.tup [.int ((n + i : Nat) : Int), d])
  | _, [], _, _, h => by cases h
  | n, e :: r, 0, d, h => by cases h; rfl
  | n, e :: r, i + 1, d, h => by
    have := enumD_get (n + 1) r i d h
    rw [show n + (i + 1) = n + 1 + i by omega]
    exact this
theorem two_le : (2 : Nat) ≤ sizeLine := by decide
theorem itr_enum {a : Addr} {ds : List D} : Itr W (Ite K a) (enumD 0 ds) (fun R s H => Da (Bf W R s) H (.ref a) (.lst ds)) where
  mv R s H R' s' H' h m := h.mv m
  go i R s H hi h := by
    cases h with
    | lst e n l z =>
      rw [enumD_len] at hi
      obtain ⟨v, hv, _⟩ := l.get' (i := i) (d := ds[i]) (List.getElem?_eq_getElem hi)
      exact ⟨_, v, .of e, hv⟩
  stop R s H h := by
    cases h with
    | lst e n l z => exact ⟨_, .of e, by rw [enumD_len]; exact Nat.le_of_eq l.len⟩
  yld i R s H x H' hi h at_ y := by
    cases h with
    | lst e n l z =>
      obtain ⟨T, v, rfl, hT, rfl, y⟩ := y
      obtain ⟨d, hd, q⟩ := l.get (y _ (.of e))
      refine ⟨_, enumD_get 0 ds i d hd, .new_at hT at_, (at_.new_at hT).j, ?_⟩
      rw [Nat.zero_add]
      exact .tup upd_same (at_.fresh hT) (.cons (.int _) (.cons (q.mv (Fr.new_at hT at_).mv) .nil)) two_le
theorem pairD_len : ∀ (ds es : List D), (pairD ds es).length = min ds.length es.length
  | [], _ => by simp [pairD]
  | _ :: _, [] => by simp [pairD]
  | a :: r, b :: t => by
    show (pairD r t).length + 1 = min (r.length + 1) (t.length + 1)
    rw [pairD_len r t]
    omega
theorem pairD_get : ∀ (ds es : List D) (i : Nat) (d e : D), ds[i]? = some d → es[i]? = some e → (pairD ds es)[i]? = some (.tup [d, e])
  | [], _, _, _, _, h, _ => by cases h
  | _ :: _, [], _, _, _, _, h => by cases h
  | a :: r, b :: t, 0, d, e, h1, h2 => by cases h1; cases h2; rfl
  | a :: r, b :: t, i + 1, d, e, h1, h2 => pairD_get r t i d e h1 h2
theorem itr_zipL {a b : Addr} {ds es : List D} : Itr W (Itz K a b) (pairD ds es) (fun R s H => Da (Bf W R s) H (.ref a) (.lst ds) ∧ Da (Bf W R s) H (.ref b) (.lst es)) where
  mv R s H R' s' H' h m := ⟨h.1.mv m, h.2.mv m⟩
  go i R s H hi h := by
    rw [pairD_len] at hi
    obtain ⟨h1, h2⟩ := h
    cases h1 with
    | lst e n l z =>
      cases h2 with
      | lst e2 n2 l2 z2 =>
        obtain ⟨v, hv, _⟩ := l.get' (i := i) (d := ds[i]'(by omega)) (List.getElem?_eq_getElem _)
        obtain ⟨u, hu, _⟩ := l2.get' (i := i) (d := es[i]'(by omega)) (List.getElem?_eq_getElem _)
        exact ⟨_, _, v, u, .of e, .of e2, hv, hu⟩
  stop R s H h := by
    obtain ⟨h1, h2⟩ := h
    cases h1 with
    | lst e n l z =>
      cases h2 with
      | lst e2 n2 l2 z2 => exact ⟨_, _, .of e, .of e2, by rw [pairD_len, l.len, l2.len]; omega⟩
  yld i R s H x H' hi h at_ y := by
    obtain ⟨h1, h2⟩ := h
    cases h1 with
    | lst e n l z =>
      cases h2 with
      | lst e2 n2 l2 z2 =>
        obtain ⟨T, v, u, rfl, hT, rfl, y1, y2⟩ := y
        obtain ⟨d, hd, q⟩ := l.get (y1 _ (.of e))
        obtain ⟨d2, hd2, q2⟩ := l2.get (y2 _ (.of e2))
        exact ⟨_, pairD_get ds es i d d2 hd hd2, .new_at hT at_, (at_.new_at hT).j, .tup upd_same (at_.fresh hT) (.cons (q.mv (Fr.new_at hT at_).mv) (.cons (q2.mv (Fr.new_at hT at_).mv) .nil)) two_le⟩
theorem itr_zipT {a b : Addr} {ds es : List D} : Itr W (ItzT K a b) (pairD ds es) (fun R s H => Da (Bf W R s) H (.ref a) (.tup ds) ∧ Da (Bf W R s) H (.ref b) (.tup es)) where
  mv R s H R' s' H' h m := ⟨h.1.mv m, h.2.mv m⟩
  go i R s H hi h := by
    rw [pairD_len] at hi
    obtain ⟨h1, h2⟩ := h
    cases h1 with
    | tup e n l z =>
      cases h2 with
      | tup e2 n2 l2 z2 =>
        obtain ⟨v, hv, _⟩ := l.get' (i := i) (d := ds[i]'(by omega)) (List.getElem?_eq_getElem _)
        obtain ⟨u, hu, _⟩ := l2.get' (i := i) (d := es[i]'(by omega)) (List.getElem?_eq_getElem _)
        exact ⟨_, _, v, u, .of e, .of e2, hv, hu⟩
  stop R s H h := by
    obtain ⟨h1, h2⟩ := h
    cases h1 with
    | tup e n l z =>
      cases h2 with
      | tup e2 n2 l2 z2 => exact ⟨_, _, .of e, .of e2, by rw [pairD_len, l.len, l2.len]; omega⟩
  yld i R s H x H' hi h at_ y := by
    obtain ⟨h1, h2⟩ := h
    cases h1 with
    | tup e n l z =>
      cases h2 with
      | tup e2 n2 l2 z2 =>
        obtain ⟨T, v, u, rfl, hT, rfl, y1, y2⟩ := y
        obtain ⟨d, hd, q⟩ := l.get (y1 _ (.of e))
        obtain ⟨d2, hd2, q2⟩ := l2.get (y2 _ (.of e2))
        exact ⟨_, pairD_get ds es i d d2 hd hd2, .new_at hT at_, (at_.new_at hT).j, .tup upd_same (at_.fresh hT) (.cons (q.mv (Fr.new_at hT at_).mv) (.cons (q2.mv (Fr.new_at hT at_).mv) .nil)) two_le⟩
theorem si_tup {t : TE} {w : WE S} (h : SimE W G t w) : SimI W G (iTup K t) (wiTup w) := fun R env σ H s rl k x hw ox Q hQ => h R env σ H s rl _ x hw ox _ fun d s1 v H1 hw1 f1 j1 a1 => by
  cases d with
  | tup ds =>
    cases a1 with
    | tup e n l z => exact ⟨_, rfl, ⟨_, .of e⟩, hQ ds s1 _ H1 _ hw1 f1 j1 itr_tup (.tup e n l z)⟩
  | _ => exact hw1.elim
theorem si_list {t : TE} {w : WE S} (h : SimE W G t w) : SimI W G (iList K t) (wiList w) := fun R env σ H s rl k x hw ox Q hQ => h R env σ H s rl _ x hw ox _ fun d s1 v H1 hw1 f1 j1 a1 => by
  cases d with
  | lst ds =>
    cases a1 with
    | lst e n l z => exact ⟨_, rfl, ⟨_, .of e⟩, hQ ds s1 _ H1 _ hw1 f1 j1 itr_lst (.lst e n l z)⟩
  | _ => exact hw1.elim
theorem si_str {t : TE} {w : WE S} (h : SimE W G t w) : SimI W G (iStr t) (wiStr w) := fun R env σ H s rl k x hw ox Q hQ => h R env σ H s rl _ x hw ox _ fun d s1 v H1 hw1 f1 j1 a1 => by
  cases d with
  | str z =>
    cases a1
    exact ⟨z, rfl, hQ (signs z) s1 _ H1 _ hw1 f1 j1 itr_str True.intro⟩
  | _ => exact hw1.elim
theorem si_rng1 {t : TA} {w : WA S} (h : SimB W G t w) : SimI W G (iRng1 t) (wiRng1 w) := fun R env σ H s rl k x hw ox Q hQ => h R env σ H s rl _ x hw ox _ fun ds s1 vs H1 hw1 f1 j1 a1 => by
  match ds, a1, hw1 with
  | [.int j], a1, ⟨h1, h2, hw1⟩ =>
    obtain ⟨v, rfl, a⟩ := a1.one
    exact ⟨j, by rw [a.intI], h2, by rw [sizeLine_eq] at h1; omega, hQ _ s1 _ H1 _ hw1 f1 j1 itr_rng True.intro⟩
theorem si_rng2 {t : TA} {w : WA S} (h : SimB W G t w) : SimI W G (iRng2 t) (wiRng2 w) := fun R env σ H s rl k x hw ox Q hQ => h R env σ H s rl _ x hw ox _ fun ds s1 vs H1 hw1 f1 j1 a1 => by
  match ds, a1, hw1 with
  | [.int i, .int j], a1, ⟨h1, h2, hw1⟩ =>
    obtain ⟨v, u, rfl, a, b⟩ := a1.two
    exact ⟨i, j, by rw [a.intI, b.intI], h2, hQ _ s1 _ H1 _ hw1 f1 j1 itr_rng True.intro⟩
theorem si_enum {t : TA} {w : WA S} (h : SimA W G t w) : SimI W G (iEnum K t) (wiEnum w) := fun R env σ H s rl k x hw ox Q hQ => h R env σ H s rl _ x hw ox _ fun ds s1 vs H1 hw1 f1 j1 a1 => by
  match ds, a1, hw1 with
  | [.lst es], .cons a .nil, hw1 =>
    cases a with
    | lst e n l z => exact ⟨_, _, rfl, .of e, hQ _ s1 _ H1 _ hw1 f1 j1 itr_enum (.lst e n l z)⟩
theorem si_zip {t : TA} {w : WA S} (h : SimA W G t w) : SimI W G (iZipA K t) (wiZip w) := fun R env σ H s rl k x hw ox Q hQ => h R env σ H s rl _ x hw ox _ fun ds s1 vs H1 hw1 f1 j1 a1 => by
  match ds, a1, hw1 with
  | [.lst es, .lst fs], .cons a (.cons b .nil), hw1 =>
    cases a with
    | lst e n l z => cases b with
      | lst e2 n2 l2 z2 => exact ⟨_, _, _, _, rfl, .inl ⟨.of e, .of e2, hQ _ s1 _ H1 _ hw1 f1 j1 itr_zipL ⟨.lst e n l z, .lst e2 n2 l2 z2⟩⟩⟩
  | [.tup es, .tup fs], .cons a (.cons b .nil), hw1 =>
    cases a with
    | tup e n l z => cases b with
      | tup e2 n2 l2 z2 => exact ⟨_, _, _, _, rfl, .inr ⟨.of e, .of e2, hQ _ s1 _ H1 _ hw1 f1 j1 itr_zipT ⟨.tup e n l z, .tup e2 n2 l2 z2⟩⟩⟩
end
/-! comprehensions -/
@[simp] def wp : List Sl → List Nat → List Sl
  | e, [] => e
  | e, v :: vs => ss (wp e vs) v .no
section
variable {S : Type}
def wLc (g : WG) (tt : WT S) (te : WE S) (vs : List Nat) : List D → List Sl → S → (List D → S → Prop) → (Xc → S → Prop) → Prop
  | [], _, s, k, _ => k [] s
  | d :: r, env, s, k, x => g d (wp env vs) fun env1 => tt env1 s (fun b s1 => if b = true then te env1 s1 (fun y s2 => wLc g tt te vs r env s2 (fun ys s3 => k (y :: ys) s3) x) x else wLc g tt te vs r env s1 k x) x
@[simp] def wLcE (wi : WI S) (g : WG) (tt : WT S) (te : WE S) (vs : List Nat) : WE S := fun env s k x => wi env s (fun ds s1 => ds.length ≤ sizeLine ∧ wLc g tt te vs ds env s1 (fun ys s2 => k (.lst ys) s2) x) x
@[simp] def wLcF (wi : WI S) (g : WG) (tt : WT S) (te : WE S) (vs : List Nat) : WI S := fun env s k x => wi env s (fun ds s1 => ds.length ≤ sizeLine ∧ wLc g tt te vs ds env s1 k x) x
end
section
variable {S : Type} {W : Wd S} {G : Gm S} {K : PySem.W.Frag}
theorem Rel.setN {R : Addr → Prop} {env : List Sl} {σ : L2.St} {H : Hp} {s : S} (r : Rel W G R env σ H s) (i : Nat) : Rel W G R (ss env i .no) (σ.set i none) H s := by
  refine ⟨r.at_, r.fr, r.r0, r.z0, ?_⟩
  by_cases hi : i < env.length
  · have sn : ∀ j, i ≠ j → (σ.set i none)[j]? = σ[j]? := fun j n => List.getElem?_set_ne n
    have nn : ∀ j, (sg (ss env i .no) j).isO = true → i ≠ j := fun j h => by
      rintro rfl
      rw [sg_ss _ _ _ hi] at h
      cases h
    refine ⟨by rw [List.length_set, ss_len]; exact r.env.len, fun j e he => ?_, fun j he => ?_, fun j l p h1 h2 h3 h4 => ?_⟩
    · by_cases n : i = j
      · subst n
        rw [sg_ss _ _ _ hi] at he
        cases he
      · rw [sg_ss_ne _ _ _ _ n] at he
        rw [sn j n]
        exact r.env.dat j e he
    · have n := nn j he
      rw [sg_ss_ne _ _ _ _ n] at he ⊢
      rw [sn j n]
      exact r.env.own j he
    · have n1 := nn j h1
      have n2 := nn l h2
      rw [sg_ss_ne _ _ _ _ n1] at h1
      rw [sg_ss_ne _ _ _ _ n2] at h2
      rw [sn j n1] at h3
      rw [sn l n2] at h4
      exact r.env.uniq j l p h1 h2 h3 h4
  · rw [ss_out _ _ _ (Nat.le_of_not_lt hi), List.set_eq_of_length_le (by rw [r.env.len]; exact Nat.le_of_not_lt hi)]
    exact r.env
theorem Rel.wipe {R : Addr → Prop} {env : List Sl} {σ : L2.St} {H : Hp} {s : S} (r : Rel W G R env σ H s) : ∀ vs : List Nat, Rel W G R (wp env vs) (L2.wipe σ vs) H s
  | [] => r
  | v :: vs => (r.wipe vs).setN v
theorem wipe_get (σ : L2.St) : ∀ (vs : List Nat) (j : Nat), (L2.wipe σ vs)[j]? = if j ∈ vs ∧ j < σ.length then some none else σ[j]?
  | [], j => by simp [L2.wipe]
  | v :: vs, j => by
    show ((L2.wipe σ vs).set v none)[j]? = _
    rw [List.getElem?_set]
    have := wipe_get σ vs j
    by_cases h : v = j
    · subst h
      by_cases hl : v < σ.length
      · rw [if_pos rfl, if_pos (by rw [L2.wipe_length]; exact hl), if_pos ⟨by simp, hl⟩]
      · rw [if_pos rfl, if_neg (by rw [L2.wipe_length]; exact hl), if_neg (fun z => hl z.2), List.getElem?_eq_none (Nat.le_of_not_lt hl)]
    · rw [if_neg h, this]
      have e : (j ∈ v :: vs) ↔ j ∈ vs := by simp [List.mem_cons, Ne.symm h]
      simp only [e]
theorem wipe_eq {σ σ2 : L2.St} {us vs : List Nat} (hl : σ2.length = σ.length) (hs : ∀ j, j ∈ us → j ∈ vs) (h : ∀ j, j ∉ us → σ2[j]? = (L2.wipe σ vs)[j]?) : L2.wipe σ2 vs = L2.wipe σ vs := by
  refine List.ext_getElem? fun j => ?_
  rw [wipe_get σ2, hl]
  by_cases m : j ∈ vs ∧ j < σ.length
  · rw [if_pos m, wipe_get σ, if_pos m]
  · rw [if_neg m]
    by_cases u : j ∈ us
    · have hj : σ.length ≤ j := Nat.le_of_not_lt fun z => m ⟨hs j u, z⟩
      rw [List.getElem?_eq_none (by rw [hl]; exact hj), List.getElem?_eq_none (by rw [L2.wipe_length]; exact hj)]
    · exact h j u
/-- a new list beside the slots, changed -/
theorem Rel.side {R : Addr → Prop} {env : List Sl} {σ : L2.St} {H : Hp} {s : S} (r : Rel W G R env σ H s) {p : Addr} {o : HO} (hp : R p) (hz : G.H0 p = none) (hn : ∀ i, (sg env i).isO = true → σ[i]? ≠ some (some (.ref p))) :
    Rel W G R env σ (upd H p o) s ∧ Mv (Bf W R s) H (Bf W R s) (upd H p o) := by
  have nc := (r.at_.r p hp).2
  have m : Mv (Bf W R s) H (Bf W R s) (upd H p o) := fun b u q n => by
    refine ⟨?_, n⟩
    rw [upd_ne fun z => n (by rw [z]; exact .inl hp)]
    exact q
  refine ⟨⟨⟨W.st s H _ r.at_.j fun b c => upd_ne fun z => nc (by rw [← z]; exact c), fun b q => ?_⟩, ⟨fun b u q n => ?_, r.fr.grow, r.fr.new⟩, r.r0, r.z0, ⟨r.env.len, fun i d e => ?_, fun i e => ?_, r.env.uniq⟩⟩, m⟩
  · by_cases z : b = p
    · rw [z, upd_same]
      exact ⟨by simp, nc⟩
    · rw [upd_ne z]
      exact r.at_.r b q
  · rw [upd_ne (fun z => by rw [z, hz] at q; cases q)]
    exact r.fr.kp b u q n
  · obtain ⟨v, h1, h2⟩ := r.env.dat i d e
    exact ⟨v, h1, h2.mv m⟩
  · obtain ⟨q, h1, h2, h3, h4⟩ := r.env.own i e
    refine ⟨q, h1, h2, h3, h4.mv m fun u z => ?_⟩
    rw [upd_ne fun z => hn i e (by rw [h1, z])]
    exact z
theorem Rel.more {R : Addr → Prop} {env : List Sl} {σ : L2.St} {H : Hp} {s : S} (r : Rel W G R env σ H s) {p : Addr} {o : HO} (hp : H p = none) : Rel W G (fun a => R a ∨ a = p) env σ (upd H p o) s := by
  have nf := r.at_.fresh hp
  have m := r.at_.off (o := o) hp
  have at1 := r.at_.new_at (o := o) hp
  refine ⟨⟨at1.j, fun b q => ?_⟩, r.fr.trans (Fr.new_at hp r.at_), fun b q => .inl (r.r0 b q), r.z0, ⟨r.env.len, fun i d e => ?_, fun i e => ?_, r.env.uniq⟩⟩
  · rcases q with q | q
    · exact at1.r b q
    · rw [q, upd_same]
      exact ⟨by simp, fun c => nf (.inr c)⟩
  · obtain ⟨v, h1, h2⟩ := r.env.dat i d e
    exact ⟨v, h1, h2.mv m⟩
  · obtain ⟨q, h1, h2, h3, h4⟩ := r.env.own i e
    refine ⟨q, h1, .inl h2, h3, h4.mv m fun u z => ?_⟩
    rw [upd_ne fun z => (r.at_.r q h2).1 (by rw [z]; exact hp)]
    exact z
theorem sim_lcF {us : List Nat} {wi : TI} {g : TG} {tt : TT} {te : TE} {vs : List Nat} {wI : WI S} {wg : WG} {wt : WT S} {we : WE S} (hi : SimI W G wi wI) (hg : SimTg W G us g wg) (ht : SimT W G tt wt) (he : SimE W G te we) (hs : ∀ j, j ∈ us → j ∈ vs := by decide) :
    SimF W G (tLc wi g tt te vs) (wLcF wI wg wt we vs) := by
  intro R env σ H s rl k x hw ox Q hQ
  refine hi R env σ H s rl _ x hw ox _ fun ds s1 J H1 St hw1 f1 j1 it st p hp => ?_
  obtain ⟨hlen, hw1⟩ := hw1
  have r1 := rl.step f1 j1
  have rm := r1.more (o := .lst []) hp
  have m0 := r1.at_.off (o := .lst []) hp
  have hz := r1.new0 hp
  have hn : ∀ i, (sg env i).isO = true → σ[i]? ≠ some (some (.ref p)) := fun i e z => by
    obtain ⟨q, h1, h2, _⟩ := r1.env.own i e
    rw [z] at h1
    cases h1
    exact (r1.at_.r p h2).1 hp
  refine ⟨fun i m H2 => m = ds.length - i ∧ i ≤ ds.length ∧ ∃ s2 acc da, wLc wg wt we vs (ds.drop i) env s2 (fun ys s3 => k (da ++ ys) s3) x ∧ H2 p = some (.lst acc) ∧ acc.length ≤ i ∧ DaL (Bf W (fun a => R a ∨ a = p) s2) H2 acc da ∧
      Rel W G (fun a => R a ∨ a = p) env σ H2 s2 ∧ St (fun a => R a ∨ a = p) s2 H2 ∧ Fr W s1 H1 s2 H2, ⟨ds.length, by simp, Nat.zero_le _, s1, [], [], hw1, upd_same, Nat.le_refl _, .nil, rm, it.mv _ _ _ _ _ _ st m0, .new_at hp r1.at_⟩, ?_⟩
  rintro i m H2 ⟨rfl, hi', s2, acc, da, hw2, e2, la, da2, rl2, st2, f2⟩
  by_cases hlt : i < ds.length
  · refine .inr ⟨it.go i _ _ _ hlt st2, fun H' => i + 1 ≤ ds.length ∧ ∃ s2 acc da, wLc wg wt we vs (ds.drop (i + 1)) env s2 (fun ys s3 => k (da ++ ys) s3) x ∧ H' p = some (.lst acc) ∧ acc.length ≤ i + 1 ∧ DaL (Bf W (fun a => R a ∨ a = p) s2) H' acc da ∧
      Rel W G (fun a => R a ∨ a = p) env σ H' s2 ∧ St (fun a => R a ∨ a = p) s2 H' ∧ Fr W s1 H1 s2 H', fun H' h => ⟨ds.length - (i + 1), by omega, rfl, h⟩, fun v H3 hy => ?_⟩
    obtain ⟨d, hd, f3, j3, a3⟩ := it.yld i _ _ _ v H3 hlt st2 rl2.at_ hy
    have dr : ds.drop i = d :: ds.drop (i + 1) := by
      have h1 := List.getElem?_eq_some_iff.mp hd
      obtain ⟨h2, h3⟩ := h1
      rw [List.drop_eq_getElem_cons h2, h3]
    rw [dr] at hw2
    have rl3 := rl2.step f3 j3
    have e3 := f3.kp _ _ e2 (rl2.at_.r p (.inr rfl)).2
    refine hg _ _ _ H3 s2 (rl3.wipe vs) v d a3 _ hw2 _ fun env1 σ1 hw3 rl4 ag ln => ⟨wipe_eq (ln.trans (L2.wipe_length σ vs)) hs ag, ?_⟩
    refine ht _ _ _ H3 s2 rl4 _ x hw3 ox _ fun b s4 H4 hw4 f4 j4 => ?_
    have rl5 := rl3.step f4 j4
    have st5 := it.mv _ _ _ _ _ _ (it.mv _ _ _ _ _ _ st2 f3.mv) f4.mv
    have e4 := f4.kp _ _ e3 (rl3.at_.r p (.inr rfl)).2
    cases b with
    | false => exact Rd.iteF ⟨hlt, s4, acc, da, by simpa using hw4, e4, by omega, (da2.mv f3.mv).mv f4.mv, rl5, st5, (f2.trans f3).trans f4⟩
    | true =>
      refine Rd.iteT (he _ _ _ H4 s4 (rl4.step f4 j4) _ x (by simpa using hw4) ox _ fun y s5 yv H5 hw5 f5 j5 a5 => ?_)
      have e5 := f5.kp _ _ e4 (rl5.at_.r p (.inr rfl)).2
      have rl6 := rl5.step f5 j5
      obtain ⟨rl7, m7⟩ := rl6.side (o := .lst (acc ++ [yv])) (.inr rfl) hz hn
      refine ⟨acc, e5, by rw [sizeLine_eq] at hlen ⊢; omega, hlt, s5, acc ++ [yv], da ++ [y], ?_, upd_same, by simp; omega, ?_, rl7, it.mv _ _ _ _ _ _ (it.mv _ _ _ _ _ _ st5 f5.mv) m7, ?_⟩
      · simpa using hw5
      · exact ((((da2.mv f3.mv).mv f4.mv).mv f5.mv).app (.cons a5 .nil)).mv m7
      · have f6 := ((f2.trans f3).trans f4).trans f5
        exact ⟨fun b o e n => by
          rw [upd_ne fun z => by rw [z, hp] at e; cases e]
          exact f6.kp b o e n, f6.grow, f6.new⟩
  · have e : i = ds.length := by omega
    subst e
    rw [List.drop_length] at hw2
    refine .inl ⟨it.stop _ _ _ st2, ?_⟩
    have nb : ¬ Bf W R s2 p := fun z => z.elim (fun q => (r1.at_.r p q).1 hp) (rl2.at_.r p (.inr rfl)).2
    exact hQ da s2 p acc H2 (by have hw2' : k (da ++ []) s2 := hw2; rwa [List.append_nil] at hw2') (f1.trans f2) rl2.at_.j (f1.none rl.at_.j hp j1) e2 nb da2 (by rw [← da2.len]; exact Nat.le_trans la hlen)
end
end Dw
set_option Elab.async false
set_option linter.all false
set_option maxRecDepth 100000
set_option maxHeartbeats 4000000
/-! Dm: statements and defs over data. -/
namespace Dw
open PySem PySem.Spec PyProof.Rows L2 RZ
section
variable {S : Type}
@[simp] def wSeq (u v : WS S) : WS S := fun K env s => u { K with nx := fun e t => v K e t } env s
@[simp] def wNext : WS S := fun K env s => K.nx env s
@[simp] def wBreak : WS S := fun K env s => K.bk env s
@[simp] def wCont : WS S := fun K env s => K.ct env s
@[simp] def wRetN : WS S := fun K env s => K.rt .non s
@[simp] def frzA (env : List Sl) : List Sl := env.map Sl.frz
@[simp] def wRet (w : WE S) : WS S := fun K env s => w (frzA env) s K.rt K.xc
@[simp] def wDrop (w : WE S) : WS S := fun K env s => w env s (fun _ t => K.nx env t) K.xc
@[simp] def wIfS (c : WT S) (u v : WS S) : WS S := fun K env s => c env s (fun b t => if b = true then u K env t else v K env t) K.xc
@[simp] def wAsg (w : WE S) (g : WG) : WS S := fun K env s => w env s (fun d t => g d env fun e => K.nx e t) K.xc
@[simp] def wAsgO (w : WI S) (i : Nat) : WS S := fun K env s => w env s (fun ds t => K.nx (ss env i (.own ds)) t) K.xc
@[simp] def wPar (i j : Nat) (w : WA S) : WS S := fun K env s => w env s (fun ds t => match ds with
  | [d, e] => K.nx (ss (ss env i (.dat d)) j (.dat e)) t
  | _ => False) K.xc
@[simp] def wPar3 (i j l : Nat) (w : WA S) : WS S := fun K env s => w env s (fun ds t => match ds with
  | [d, e, f] => K.nx (ss (ss (ss env i (.dat d)) j (.dat e)) l (.dat f)) t
  | _ => False) K.xc
@[simp] def wAug (i : Nat) (w : WE S) (f : Int → Int → Int) : WS S := fun K env s => match sg env i with
  | .dat (.int a) => w env s (fun d t => match d with
    | .int b => K.nx (ss env i (.dat (.int (f a b)))) t
    | _ => False) K.xc
  | _ => False
def wFor (g : WG) (b : WS S) : List D → WS S
  | [] => fun K env s => K.nx env s
  | d :: r => fun K env s => g d env fun e => b { K with nx := fun e t => wFor g b r K e t, ct := fun e t => wFor g b r K e t, bk := K.nx } e s
@[simp] def wForE (wi : WI S) (g : WG) (b : WS S) : WS S := fun K env s => wi env s (fun ds t => wFor g b ds K env t) K.xc
def wWhN (c : WT S) (b : WS S) : Nat → WS S
  | 0 => fun _ _ _ => False
  | n + 1 => fun K env s => c env s (fun q t => if q = true then b { K with nx := fun e u => wWhN c b n K e u, ct := fun e u => wWhN c b n K e u, bk := K.nx } env t else K.nx env t) K.xc
@[simp] def wWhile (c : WT S) (b : WS S) : WS S := fun K env s => ∃ n, wWhN c b n K env s
/-- a thing of the def's own is data from here on -/
@[simp] def wFrz (i : Nat) (w : WS S) : WS S := fun K env s => w K (ss env i (sg env i).frz) s
@[simp] def wApp (i : Nat) (w : WE S) : WS S := fun K env s => match sg env i with
  | .own ds => w env s (fun d t => ds.length < sizeLine ∧ K.nx (ss env i (.own (ds ++ [d]))) t) K.xc
  | _ => False
@[simp] def wExt (i : Nat) (w : WE S) : WS S := fun K env s => match sg env i with
  | .own ds => w env s (fun d t => match d with
    | .lst es => ds.length + es.length ≤ sizeLine ∧ K.nx (ss env i (.own (ds ++ es))) t
    | _ => False) K.xc
  | _ => False
@[simp] def wSetL (i : Nat) (wv wk : WE S) : WS S := fun K env s => match sg env i with
  | .own ds => wv env s (fun v t => wk env t (fun k u => match k with
    | .int z => (match ixN ds.length z with
      | some j => K.nx (ss env i (.own (ds.set j v))) u
      | none => False)
    | _ => False) K.xc) K.xc
  | _ => False
/-- x = l.pop(i), l.pop() of the def's own list -/
@[simp] def wPopAt (i : Nat) (w : WE S) (g : WG) : WS S := fun K env s => match sg env i with
  | .own ds => w env s (fun k t => match k with
    | .int z => -(2 ^ 63) ≤ z ∧ z < 2 ^ 63 ∧ (match seqIndex? z ds.length with
      | some j => (match ds[j]? with
        | some d => g d (ss env i (.own (ds.eraseIdx j))) fun e => K.nx e t
        | none => False)
      | none => False)
    | _ => False) K.xc
  | _ => False
@[simp] def wPop (i : Nat) (g : WG) : WS S := fun K env s => match sg env i with
  | .own ds => (match ds[ds.length - 1]? with
    | some d => g d (ss env i (.own ds.dropLast)) fun e => K.nx e s
    | none => False)
  | _ => False
end
section
variable {S : Type} {W : Wd S} {G : Gm S} {K : PySem.W.Frag}
theorem ss_seq {t u : TS} {w v : WS S} (h : SimS W G t w) (h' : SimS W G u v) : SimS W G (tSeq t u) (wSeq w v) := fun R env σ H s rl K hw Dn e =>
  h R env σ H s rl _ hw _ ⟨fun R' env' σ' H' s' hk rl' m => h' R' env' σ' H' s' rl' K hk Dn (e.step m), e.rt, e.bk, e.ct, e.xc⟩
theorem ss_next : SimS W G tNext wNext := fun R env σ H s rl K hw Dn e => e.nx R env σ H s hw rl .refl
theorem ss_brk : SimS W G tBreak wBreak := fun R env σ H s rl K hw Dn e => e.bk R env σ H s hw rl .refl
theorem ss_cont : SimS W G tCont wCont := fun R env σ H s rl K hw Dn e => e.ct R env σ H s hw rl .refl
theorem ss_retN : SimS W G tRetN wRetN := fun R env σ H s rl K hw Dn e => e.rt _ s _ H hw rl.fr rl.at_.j .non
theorem Rel.frzN {R : Addr → Prop} {env : List Sl} {σ : L2.St} {H : Hp} {s : S} (r : Rel W G R env σ H s) : ∀ n, n ≤ env.length → ∃ R' env', Rel W G R' env' σ H s ∧ (∀ a, R' a → R a) ∧ (∀ i, i < n → sg env' i = (sg env i).frz) ∧ (∀ i, n ≤ i → sg env' i = sg env i) ∧ env'.length = env.length
  | 0, _ => ⟨R, env, r, fun _ h => h, fun i h => absurd h (Nat.not_lt_zero i), fun _ _ => rfl, rfl⟩
  | n + 1, hn => by
    obtain ⟨R1, env1, r1, h1, h2, h3, h4⟩ := r.frzN n (by omega)
    obtain ⟨R2, r2, h5⟩ := r1.frz n
    refine ⟨R2, _, r2, fun a h => h1 a (h5 a h), fun i hi => ?_, fun i hi => ?_, by rw [ss_len, h4]⟩
    · by_cases e : n = i
      · subst e
        rw [sg_ss _ _ _ (by omega), h3 _ (Nat.le_refl _)]
      · rw [sg_ss_ne _ _ _ _ e]
        exact h2 i (by omega)
    · rw [sg_ss_ne _ _ _ _ (by omega)]
      exact h3 i (by omega)
theorem sg_map : ∀ (env : List Sl) (i : Nat), sg (env.map Sl.frz) i = (sg env i).frz
  | [], _ => rfl
  | a :: r, 0 => rfl
  | a :: r, i + 1 => sg_map r i
theorem env_ext : ∀ (a b : List Sl), a.length = b.length → (∀ i, sg a i = sg b i) → a = b
  | [], [], _, _ => rfl
  | [], _ :: _, h, _ => by cases h
  | _ :: _, [], h, _ => by cases h
  | x :: r, y :: t, h, e => by
    rw [show x = y from e 0, env_ext r t (Nat.succ.inj h) fun i => e (i + 1)]
theorem Rel.frzAll {R : Addr → Prop} {env : List Sl} {σ : L2.St} {H : Hp} {s : S} (r : Rel W G R env σ H s) : ∃ R', Rel W G R' (frzA env) σ H s ∧ (∀ a, R' a → R a) := by
  obtain ⟨R1, env1, r1, h1, h2, h3, h4⟩ := r.frzN env.length (Nat.le_refl _)
  refine ⟨R1, ?_, h1⟩
  rw [show frzA env = env1 from env_ext _ _ (by simp [h4]) fun i => ?_]
  · exact r1
  · unfold frzA
    rw [sg_map]
    by_cases hi : i < env.length
    · rw [h2 i hi]
    · rw [h3 i (by omega), sg_out _ _ (by omega)]
      rfl
theorem ss_ret {t : TE} {w : WE S} (h : SimE W G t w) : SimS W G (tRet t) (wRet w) := fun R env σ H s rl K hw Dn e => by
  obtain ⟨R', rl', hs⟩ := rl.frzAll
  exact h R' _ σ H s rl' K.rt K.xc hw e.xc _ fun d s' v H' hk f j a => e.rt d s' v H' hk (rl'.fr.trans f) j (a.imp fun b z => z.imp (rl'.r0 b) id)
theorem ss_drop {t : TE} {w : WE S} (h : SimG W G t w) : SimS W G (tDrop t) (wDrop w) := fun R env σ H s rl K hw Dn e =>
  h R env σ H s rl _ K.xc hw e.xc _ fun d s' v H' hk f j a => e.nx R env σ H' s' hk (rl.step f j) f.mv
theorem ss_if {c : TT} {t u : TS} {wc : WT S} {w v : WS S} (hc : SimT W G c wc) (h : SimS W G t w) (h' : SimS W G u v) : SimS W G (tIfS c t u) (wIfS wc w v) := fun R env σ H s rl K hw Dn e =>
  hc R env σ H s rl _ K.xc hw e.xc _ fun b s' H' hk f j => by
    cases b with
    | true => exact Rd.iteT (h R env σ H' s' (rl.step f j) K (by simpa using hk) Dn (e.step f.mv))
    | false => exact Rd.iteF (h' R env σ H' s' (rl.step f j) K (by simpa using hk) Dn (e.step f.mv))
theorem ss_asg {t : TE} {g : TG} {w : WE S} {wg : WG} {us : List Nat} (h : SimE W G t w) (hg : SimTg W G us g wg) : SimS W G (tAsg t g) (wAsg w wg) := fun R env σ H s rl K hw Dn e =>
  h R env σ H s rl _ K.xc hw e.xc _ fun d s' v H' hk f j a => hg R env σ H' s' (rl.step f j) v d a _ hk _ fun env' σ' hk' rl' _ _ => e.nx R env' σ' H' s' hk' rl' f.mv
/-- slot i is the def's own list -/
structure OwnSl (i : Nat) : Prop where
  mk ::
theorem ss_asgO {t : TE} {i : Nat} {w : WI S} (o : OwnSl i) (h : SimF W G t w) : SimS W G (tAsg t (gName i)) (wAsgO w i) := fun R env σ H s rl K hw Dn e =>
  h R env σ H s rl _ K.xc hw e.xc _ fun ds s' p xs H' hk f j hp hp' nb l z => by
    by_cases hi : i < env.length
    · obtain ⟨rl', m⟩ := rl.setO f j i hp (by rw [hp']; simp) nb (.lst hp' l z) rfl hi
      exact e.nx _ _ _ H' s' hk rl' m
    · refine e.nx R _ _ H' s' hk ?_ f.mv
      rw [ss_out _ _ _ (Nat.le_of_not_lt hi), List.set_eq_of_length_le (by rw [rl.env.len]; exact Nat.le_of_not_lt hi)]
      exact rl.step f j
theorem ss_par {i j : Nat} {t : TA} {w : WA S} (h : SimA W G t w) : SimS W G (tPar i j t) (wPar i j w) := fun R env σ H s rl K hw Dn e =>
  h R env σ H s rl _ K.xc hw e.xc _ fun ds s' vs H' hk f j a => by
    match ds, a, hk with
    | [d, e'], .cons a (.cons b .nil), hk => exact ⟨_, _, rfl, e.nx R _ _ H' s' hk (((rl.step f j).setD _ a).setD _ b) f.mv⟩
theorem ss_par3 {i j l : Nat} {t : TA} {w : WA S} (h : SimA W G t w) : SimS W G (tPar3 i j l t) (wPar3 i j l w) := fun R env σ H s rl K hw Dn e =>
  h R env σ H s rl _ K.xc hw e.xc _ fun ds s' vs H' hk f j a => by
    match ds, a, hk with
    | [d, e', f'], .cons a (.cons b (.cons c .nil)), hk => exact ⟨_, _, _, rfl, e.nx R _ _ H' s' hk ((((rl.step f j).setD _ a).setD _ b).setD _ c) f.mv⟩
theorem ss_aug {i : Nat} {t : TE} {w : WE S} {f : Int → Int → Int} (h : SimG W G t w) : SimS W G (tAug i t (ipI f)) (wAug i w f) := fun R env σ H s rl K hw Dn e => by
  unfold wAug at hw
  cases q : sg env i with
  | dat d =>
    rw [q] at hw
    cases d with
    | int a =>
      obtain ⟨v, h1, h2⟩ := rl.env.dat i _ q
      cases h2
      refine ⟨_, h1, h R env σ H s rl _ K.xc hw e.xc _ fun d s' v H' hk fr j ag => ?_⟩
      cases d with
      | int b =>
        rw [ag.intI]
        exact ⟨a, b, rfl, rfl, e.nx R _ _ H' s' hk ((rl.step fr j).setD i (.int _)) fr.mv⟩
      | _ => exact hk.elim
    | _ => exact hw.elim
  | _ => rw [q] at hw; exact hw.elim
theorem ss_frz {i : Nat} {t : TS} {w : WS S} (h : SimS W G t w) : SimS W G t (wFrz i w) := fun R env σ H s rl K hw Dn e => by
  obtain ⟨R', rl', hs⟩ := rl.frz i
  exact h R' _ σ H s rl' K hw Dn (e.step fun a o q n => ⟨q, fun b => n (b.imp (hs a) id)⟩)
theorem ss_for {us : List Nat} {wi : TI} {g : TG} {tb : TS} {wI : WI S} {wg : WG} {wb : WS S} (hi : SimI W G wi wI) (hg : SimTg W G us g wg) (hb : SimS W G tb wb) : SimS W G (tFor wi g tb) (wForE wI wg wb) := by
  intro R env σ H s rl K hw Dn e
  refine hi R env σ H s rl _ K.xc hw e.xc _ fun ds s1 J H1 St hw1 f1 j1 it st => ?_
  have r1 := rl.step f1 j1
  refine ⟨fun i m σ2 H2 => m = ds.length - i ∧ i ≤ ds.length ∧ ∃ R2 env2 s2, wFor wg wb (ds.drop i) K env2 s2 ∧ Rel W G R2 env2 σ2 H2 s2 ∧ St R2 s2 H2 ∧ Mv (Bf W R s) H (Bf W R2 s2) H2, ⟨ds.length, by simp, Nat.zero_le _, R, env, s1, hw1, r1, st, f1.mv⟩, ?_⟩
  rintro i m σ2 H2 ⟨rfl, hi', R2, env2, s2, hw2, rl2, st2, m2⟩
  by_cases hlt : i < ds.length
  · refine .inr ⟨it.go i _ _ _ hlt st2, fun σ3 H3 => i + 1 ≤ ds.length ∧ ∃ R3 env3 s3, wFor wg wb (ds.drop (i + 1)) K env3 s3 ∧ Rel W G R3 env3 σ3 H3 s3 ∧ St R3 s3 H3 ∧ Mv (Bf W R s) H (Bf W R3 s3) H3, fun σ3 H3 h => ⟨ds.length - (i + 1), by omega, rfl, h⟩, fun v H3 hy => ?_⟩
    obtain ⟨d, hd, f3, j3, a3⟩ := it.yld i _ _ _ v H3 hlt st2 rl2.at_ hy
    have dr : ds.drop i = d :: ds.drop (i + 1) := by
      obtain ⟨h2, h3⟩ := List.getElem?_eq_some_iff.mp hd
      rw [List.drop_eq_getElem_cons h2, h3]
    rw [dr] at hw2
    have rl3 := rl2.step f3 j3
    have st3 := it.mv _ _ _ _ _ _ st2 f3.mv
    refine hg _ _ _ H3 s2 rl3 v d a3 _ hw2 _ fun env4 σ4 hw4 rl4 _ _ => ?_
    refine hb R2 env4 σ4 H3 s2 rl4 _ hw4 _ ⟨fun R5 env5 σ5 H5 s5 hk rl5 m5 => ?_, e.rt, fun R5 env5 σ5 H5 s5 hk rl5 m5 => ?_, fun R5 env5 σ5 H5 s5 hk rl5 m5 => ?_, e.xc⟩
    · exact ⟨hlt, R5, env5, s5, hk, rl5, it.mv _ _ _ _ _ _ st3 m5, (m2.trans f3.mv).trans m5⟩
    · exact e.nx R5 env5 σ5 H5 s5 hk rl5 ((m2.trans f3.mv).trans m5)
    · exact ⟨hlt, R5, env5, s5, hk, rl5, it.mv _ _ _ _ _ _ st3 m5, (m2.trans f3.mv).trans m5⟩
  · have eq : i = ds.length := by omega
    subst eq
    rw [List.drop_length] at hw2
    exact .inl ⟨it.stop _ _ _ st2, e.nx R2 env2 σ2 H2 s2 hw2 rl2 m2⟩
theorem ss_while {c : TT} {tb : TS} {wc : WT S} {wb : WS S} (hc : SimT W G c wc) (hb : SimS W G tb wb) : SimS W G (tWhile c tb) (wWhile wc wb) := by
  intro R env σ H s rl K hw Dn e
  obtain ⟨n, hw⟩ := hw
  refine ⟨fun m σ2 H2 => ∃ R2 env2 s2, wWhN wc wb m K env2 s2 ∧ Rel W G R2 env2 σ2 H2 s2 ∧ Mv (Bf W R s) H (Bf W R2 s2) H2, ⟨n, R, env, s, hw, rl, .refl⟩, ?_⟩
  rintro m σ2 H2 ⟨R2, env2, s2, hw2, rl2, m2⟩
  cases m with
  | zero => exact hw2.elim
  | succ m =>
    refine hc R2 env2 σ2 H2 s2 rl2 _ K.xc hw2 e.xc _ fun b s3 H3 hk f3 j3 => ?_
    cases b with
    | true =>
      refine Rd.iteT ⟨fun σ4 H4 => ∃ R2 env2 s2, wWhN wc wb m K env2 s2 ∧ Rel W G R2 env2 σ4 H4 s2 ∧ Mv (Bf W R s) H (Bf W R2 s2) H4, fun σ4 H4 h => ⟨m, Nat.lt_succ_self m, h⟩, ?_⟩
      rw [if_pos rfl] at hk
      refine hb R2 env2 σ2 H3 s3 (rl2.step f3 j3) _ hk _ ⟨fun R5 env5 σ5 H5 s5 hk rl5 m5 => ?_, e.rt, fun R5 env5 σ5 H5 s5 hk rl5 m5 => ?_, fun R5 env5 σ5 H5 s5 hk rl5 m5 => ?_, e.xc⟩
      · exact ⟨R5, env5, s5, hk, rl5, (m2.trans f3.mv).trans m5⟩
      · exact e.nx R5 env5 σ5 H5 s5 hk rl5 ((m2.trans f3.mv).trans m5)
      · exact ⟨R5, env5, s5, hk, rl5, (m2.trans f3.mv).trans m5⟩
    | false => exact Rd.iteF (e.nx R2 env2 σ2 H3 s3 (by simpa using hk) (rl2.step f3 j3) (m2.trans f3.mv))
/-! the def's own list changed -/
theorem Rel.ownL {R : Addr → Prop} {env : List Sl} {σ : L2.St} {H : Hp} {s : S} (r : Rel W G R env σ H s) {i : Nat} {ds : List D} (q : sg env i = .own ds) : ∃ p xs, σ[i]? = some (some (.ref p)) ∧ H p = some (.lst xs) ∧ DaL (Bf W R s) H xs ds ∧ ds.length ≤ sizeLine ∧ ¬ W.C s p ∧
    ∀ (s' : S) (H' : Hp), Fr W s H s' H' → W.J s' H' → ∀ ys es, DaL (Bf W R s') H' ys es → es.length ≤ sizeLine → Rel W G R (ss env i (.own es)) σ (upd H' p (.lst ys)) s' ∧ Mv (Bf W R s) H (Bf W R s') (upd H' p (.lst ys)) := by
  have hO : (sg env i).isO = true := by rw [q]; rfl
  obtain ⟨p, e1, e2, e3, e4⟩ := r.env.own i hO
  rw [q] at e4
  cases e4 with
  | lst e l z =>
    refine ⟨p, _, e1, e, l, z, (r.at_.r p e2).2, fun s' H' f j ys es l' z' => ?_⟩
    have r' := r.step f j
    have m' : Mv (Bf W R s') H' (Bf W R s') (upd H' p (.lst ys)) := fun b u q n => ⟨by rw [upd_ne fun z => n (by rw [z]; exact .inl e2)]; exact q, n⟩
    obtain ⟨a, b⟩ := r'.chg (o := .lst ys) e1 hO (.lst upd_same (l'.mv m') z') rfl
    exact ⟨a, f.mv.trans b⟩
theorem ss_app {i : Nat} {te : TE} {w : WE S} (h : SimE W G te w) : SimS W G (tDrop (tBM K "list" rAppend (tVar i) (tCons te tNil))) (wApp i w) := fun R env σ H s rl KK hw Dn e => by
  unfold wApp at hw
  cases q : sg env i with
  | own ds =>
    rw [q] at hw
    obtain ⟨p, xs, e1, e2, l, z, nc, ch⟩ := rl.ownL q
    refine ⟨.ref p, e1, .inl ⟨rfl, xs, .of e2⟩, h R env σ H s rl _ KK.xc hw e.xc _ fun d s' v H' hk f j a => ?_⟩
    obtain ⟨rl', m⟩ := ch s' H' f j (xs ++ [v]) (ds ++ [d]) ((l.mv f.mv).app (.cons a .nil)) (by rw [List.length_append]; have := hk.1; simp; omega)
    exact ⟨p, xs, v, rfl, rfl, f.kp _ _ e2 nc, by rw [l.len]; exact hk.1, e.nx R _ σ _ s' hk.2 rl' m⟩
  | _ => rw [q] at hw; exact hw.elim
theorem ss_ext {i : Nat} {te : TE} {w : WE S} (h : SimG W G te w) : SimS W G (tDrop (tBM K "list" rExtend (tVar i) (tCons te tNil))) (wExt i w) := fun R env σ H s rl KK hw Dn e => by
  unfold wExt at hw
  cases q : sg env i with
  | own ds =>
    rw [q] at hw
    obtain ⟨p, xs, e1, e2, l, z, nc, ch⟩ := rl.ownL q
    refine ⟨.ref p, e1, .inl ⟨rfl, xs, .of e2⟩, h R env σ H s rl _ KK.xc hw e.xc _ fun d s' v H' hk f j a => ?_⟩
    cases d with
    | lst es =>
      obtain ⟨b, ys, rfl, e3, l3, z3⟩ := a.lstI
      obtain ⟨rl', m⟩ := ch s' H' f j (xs ++ ys) (ds ++ es) ((l.mv f.mv).app l3) (by rw [List.length_append]; exact hk.1)
      exact ⟨p, b, xs, ys, rfl, rfl, f.kp _ _ e2 nc, e3, by rw [l.len, l3.len]; exact hk.1, e.nx R _ σ _ s' hk.2 rl' m⟩
    | _ => exact hk.elim
  | _ => rw [q] at hw; exact hw.elim
theorem ss_setL {i : Nat} {tv tk : TE} {wv wk : WE S} (hv : SimE W G tv wv) (hk : SimG W G tk wk) : SimS W G (tAsg tv (gSub (tVar i) tk rSetL)) (wSetL i wv wk) := fun R env σ H s rl KK hw Dn e => by
  unfold wSetL at hw
  cases q : sg env i with
  | own ds =>
    rw [q] at hw
    refine hv R env σ H s rl _ KK.xc hw e.xc _ fun d s1 v H1 hw1 f1 j1 a1 => ?_
    have rl1 := rl.step f1 j1
    obtain ⟨p, xs, e1, e2, l, z, nc, ch⟩ := rl1.ownL q
    refine ⟨.ref p, e1, hk R env σ H1 s1 rl1 _ KK.xc hw1 e.xc _ fun d2 s2 v2 H2 hw2 f2 j2 a2 => ?_⟩
    cases d2 with
    | int zi =>
      dsimp only at hw2
      cases qi : ixN ds.length zi with
      | none => rw [qi] at hw2; exact hw2.elim
      | some jj =>
        rw [qi] at hw2
        obtain ⟨rl', m⟩ := ch s2 H2 f2 j2 (xs.set jj v) (ds.set jj d) ((l.mv f2.mv).setAt jj (a1.mv f2.mv)) (by rw [List.length_set]; exact z)
        exact ⟨p, xs, zi, jj, rfl, a2.intI, f2.kp _ _ e2 nc, by rw [l.len]; exact qi, e.nx R _ σ _ s2 hw2 rl' (f1.mv.trans m)⟩
    | _ => exact hw2.elim
  | _ => rw [q] at hw; exact hw.elim
theorem ss_pop {i : Nat} {g : TG} {wg : WG} {us : List Nat} (hg : SimTg W G us g wg) : SimS W G (tAsg (tBM0 K "list" rPop (tVar i)) g) (wPop i wg) := fun R env σ H s rl KK hw Dn e => by
  unfold wPop at hw
  cases q : sg env i with
  | own ds =>
    rw [q] at hw
    obtain ⟨p, xs, e1, e2, l, z, nc, ch⟩ := rl.ownL q
    dsimp only at hw
    cases qd : ds[ds.length - 1]? with
    | none => rw [qd] at hw; exact hw.elim
    | some d =>
      rw [qd] at hw
      obtain ⟨v, ev, a⟩ := l.get' qd
      have dl : DaL (Bf W R s) H xs.dropLast ds.dropLast := by
        rw [List.dropLast_eq_take, List.dropLast_eq_take, l.len]
        exact l.take _
      obtain ⟨rl', m⟩ := ch s H .refl rl.at_.j xs.dropLast ds.dropLast dl (by simp; omega)
      exact ⟨.ref p, e1, .inl ⟨rfl, xs, .of e2⟩, p, xs, v, rfl, rfl, e2, by rw [l.len]; exact ev, hg R _ σ _ s rl' v d (a.mv m) _ hw _ fun env' σ' hk rl2 _ _ => e.nx R env' σ' _ s hk rl2 m⟩
  | _ => rw [q] at hw; exact hw.elim
theorem ss_popAt {i : Nat} {tk : TE} {wk : WE S} {g : TG} {wg : WG} {us : List Nat} (hk : SimG W G tk wk) (hg : SimTg W G us g wg) : SimS W G (tAsg (tBM K "list" rPopAt (tVar i) (tCons tk tNil)) g) (wPopAt i wk wg) := fun R env σ H s rl KK hw Dn e => by
  unfold wPopAt at hw
  cases q : sg env i with
  | own ds =>
    rw [q] at hw
    obtain ⟨p, xs, e1, e2, l, z, nc, ch⟩ := rl.ownL q
    refine ⟨.ref p, e1, .inl ⟨rfl, xs, .of e2⟩, hk R env σ H s rl _ KK.xc hw e.xc _ fun d2 s2 v2 H2 hw2 f2 j2 a2 => ?_⟩
    cases d2 with
    | int zi =>
      obtain ⟨b1, b2, hw2⟩ := hw2
      cases qi : seqIndex? zi ds.length with
      | none => rw [qi] at hw2; exact hw2.elim
      | some jj =>
        rw [qi] at hw2
        dsimp only at hw2
        cases qd : ds[jj]? with
        | none => rw [qd] at hw2; exact hw2.elim
        | some d =>
          rw [qd] at hw2
          obtain ⟨v, ev, a⟩ := l.get' qd
          obtain ⟨rl', m⟩ := ch s2 H2 f2 j2 (xs.eraseIdx jj) (ds.eraseIdx jj) ((l.mv f2.mv).erase jj) (Nat.le_trans (by rw [List.length_eraseIdx]; split <;> omega) z)
          exact ⟨p, xs, zi, jj, v, rfl, by rw [a2.intI], f2.kp _ _ e2 nc, b1, b2, by rw [l.len]; exact qi, ev, hg R _ σ _ s2 rl' v d (a.mv m) _ hw2 _ fun env' σ' hk rl2 _ _ => e.nx R env' σ' _ s2 hk rl2 m⟩
    | _ => exact hw2.elim
  | _ => rw [q] at hw; exact hw.elim
end
/-! defs -/
@[simp] def envOf (n : Nat) (ds : List D) : List Sl := ds.map Sl.dat ++ List.replicate (n - ds.length) .no
section
variable {S : Type} {W : Wd S}
theorem sg_dat : ∀ (ds : List D) (r : List Sl) (i : Nat) (d : D), sg (ds.map Sl.dat ++ r) i = .dat d → (ds[i]? = some d) ∨ (ds.length ≤ i ∧ sg r (i - ds.length) = .dat d)
  | [], r, i, d, h => .inr ⟨Nat.zero_le _, h⟩
  | a :: t, r, 0, d, h => by
    cases h
    exact .inl rfl
  | a :: t, r, i + 1, d, h => by
    rcases sg_dat t r i d h with q | q
    · exact .inl q
    · exact .inr ⟨Nat.succ_le_succ q.1, by simpa [Nat.succ_sub_succ] using q.2⟩
theorem sg_rep : ∀ (n i : Nat), sg (List.replicate n Sl.no) i = .no
  | 0, _ => rfl
  | n + 1, 0 => rfl
  | n + 1, i + 1 => sg_rep n i
theorem sg_noO : ∀ (ds : List D) (n i : Nat), (sg (ds.map Sl.dat ++ List.replicate n .no) i).isO = false
  | [], n, i => by
    show (sg (List.replicate n Sl.no) i).isO = false
    rw [sg_rep]
    rfl
  | a :: t, n, 0 => rfl
  | a :: t, n, i + 1 => sg_noO t n i
theorem rel_start {R : Addr → Prop} {s : S} {H : Hp} {vs : List V} {ds : List D} {E : XK} {N : List Str} (a : At W R s H) (l : DaL (Bf W R s) H vs ds) : Rel W ⟨H, s, R, E⟩ R (envOf N.length ds) (L2.start N vs) H s := by
  refine ⟨a, .refl, fun _ h => h, a, ⟨by simp [L2.start, l.len], fun i d h => ?_, fun i h => ?_, fun i j p h => ?_⟩⟩
  · rcases sg_dat _ _ _ _ h with q | q
    · obtain ⟨v, hv, dv⟩ := l.get' q
      refine ⟨v, ?_, dv⟩
      unfold L2.start
      rw [List.getElem?_append_left (by rw [List.length_map, l.len]; exact (List.getElem?_eq_some_iff.mp q).1), List.getElem?_map, hv]
      rfl
    · have := q.2
      rw [sg_rep] at this
      cases this
  · rw [envOf, sg_noO] at h
    cases h
  · rw [envOf, sg_noO] at h
    cases h
theorem bodyW {G : Gm S} {t : TS} {ws : WS S} {O : WS S → Prop} (sim : SimS W G t ws) (ob : O ws) : ∃ ws : WS S, SimS W G t ws ∧ O ws := ⟨ws, sim, ob⟩
/-- a def by its body over data -/
theorem fn_data {P : Program} {w : World} {K : PySem.W.Frag} {mg : Str → Option Value} {base : Heap} {x qual : Str} {pa : Arguments} {bd : List Stmt} {sc : Scope} {dvs : List V} {kws : List (Str × V)} {f : Addr} {fd : FuncData} {N ps : List Str} {k : Nat}
    {wf : List D → S → (D → S → Prop) → (Xc → S → Prop) → Prop}
    (F : FunD K x qual pa bd sc dvs kws f fd) (Sc : FnScope N ps sc) (many : ∀ ds s k x, wf ds s k x → ds.length = ps.length)
    (body : ∀ (cv : Value) (A : Around) (outer : List Env) (s : Shared) (H : Hp) (G : Gm S), Room k (A.deeper (envOfC qual sc s.heap.objs.size f cv)) → A.guards = some [] →
      ∃ t, PSs (cxOf (L2.CX P w) P w K mg base N qual sc f cv A outer s H G.E) bd t ∧ ∃ ws : WS S, SimS W G t ws ∧
        ∀ (ds : List D) (s : S) (k : D → S → Prop) (x : Xc → S → Prop), (∀ d ∈ ds, d.ok) → wf ds s k x → ws ⟨fun _ s => k .non s, k, fun _ _ => False, fun _ _ => False, x⟩ (envOf N.length ds) s) :
    Gl.Fn P w K mg base (k + 1) f fd ps (spX W wf) := by
  refine Gl.fn_body F Sc (fun vs H Q E h => ?_) (fun cv A outer s H vs Q E hr gd h => ?_)
  · obtain ⟨R, ds, s, k, x, a, l, hw, _⟩ := h
    rw [l.len]
    exact many _ _ _ _ hw
  · obtain ⟨R, ds, s1, k1, x, a, l, hw, hQ, hE⟩ := h
    obtain ⟨t, ht, ws, sim, ob⟩ := body cv A outer s H ⟨H, s1, R, E⟩ hr gd
    refine ⟨t, ht, sim R _ _ H s1 (rel_start a l) _ (ob ds s1 k1 x (fun d hd => D.oks_mem l.oks hd) hw) _ ⟨?_, ?_, ?_, ?_, ?_⟩⟩
    · intro R' env' σ' H' s' hk rl m
      exact hQ _ s' _ H' hk rl.fr rl.at_.j .non
    · intro d s' v H' hk f j a
      exact hQ d s' v H' hk f j a
    · intro _ _ _ _ _ hk
      exact hk.elim
    · intro _ _ _ _ _ hk
      exact hk.elim
    · intro c s' cls d H' hx f j a
      exact hE c s' cls d H' hx f j a
end
end Dw
set_option Elab.async false
set_option linter.all false
set_option maxRecDepth 100000
set_option maxHeartbeats 3200000
/-! Sk: set(list of keys), keys of any kind. -/
namespace Sk
open PySem PySem.Spec PyProof.Rows L2
section
variable {κ : Type} [DecidableEq κ]
/-- one more met -/
def met1 (σ : List κ) (v : κ) : List κ := if v ∈ σ then σ else σ ++ [v]
def met (ks : List κ) (i : Nat) : List κ := (ks.take i).foldl met1 []
theorem met_succ {ks : List κ} {i : Nat} {k : κ} (h : ks[i]? = some k) : met ks (i + 1) = met1 (met ks i) k := by
  unfold met
  rw [List.take_add_one, h, List.foldl_append]
  rfl
theorem met1_le (σ : List κ) (v : κ) : (met1 σ v).length ≤ σ.length + 1 := by
  unfold met1
  split
  · exact Nat.le_succ _
  · simp
theorem met_le (ks : List κ) : ∀ i, (met ks i).length ≤ i
  | 0 => by simp [met]
  | i + 1 => by
    cases h : ks[i]? with
    | none =>
      have : met ks (i + 1) = met ks i := by
        unfold met
        rw [List.take_add_one, h]
        simp
      rw [this]
      exact Nat.le_succ_of_le (met_le ks i)
    | some k =>
      rw [met_succ h]
      exact Nat.le_trans (met1_le _ _) (Nat.succ_le_succ (met_le ks i))
theorem met1_mem (σ : List κ) (v k : κ) : decide (k ∈ met1 σ v) = (decide (k ∈ σ) || decide (k = v)) := by
  unfold met1
  by_cases h : v ∈ σ
  · rw [if_pos h]
    by_cases e : k = v
    · subst e
      simp [h]
    · simp [e]
  · rw [if_neg h]
    simp [List.mem_append]
theorem met1_len (σ : List κ) (v : κ) : (met1 σ v).length = if decide (v ∈ σ) = true then σ.length else σ.length + 1 := by
  unfold met1
  by_cases h : v ∈ σ <;> simp [h]
/-- no key twice -/
theorem met_nodup : ∀ (ks σ : List κ), (ks.foldl met1 σ).length = σ.length + ks.length ↔ (ks.Nodup ∧ ∀ k ∈ ks, k ∉ σ)
  | [], σ => by simp
  | k :: r, σ => by
    have up : ∀ (ks σ : List κ), (ks.foldl met1 σ).length ≤ σ.length + ks.length := fun ks => by
      induction ks with
      | nil => intro σ; simp
      | cons a t ih =>
        intro σ
        have := ih (met1 σ a)
        have := met1_le σ a
        rw [List.foldl_cons, List.length_cons]
        omega
    rw [List.foldl_cons, List.length_cons]
    by_cases h : k ∈ σ
    · have e : met1 σ k = σ := if_pos h
      rw [e]
      have := up r σ
      constructor
      · intro z
        omega
      · rintro ⟨_, z⟩
        exact absurd h (z k (by simp))
    · have e : met1 σ k = σ ++ [k] := if_neg h
      rw [e]
      have := met_nodup r (σ ++ [k])
      rw [List.length_append, List.length_singleton] at this
      rw [show σ.length + (r.length + 1) = σ.length + 1 + r.length by omega, this, List.nodup_cons]
      constructor
      · rintro ⟨a, b⟩
        refine ⟨⟨fun z => (b k z) (by simp), a⟩, fun j hj => ?_⟩
        rcases List.mem_cons.mp hj with rfl | hj
        · exact h
        · exact fun z => b j hj (by simp [z])
      · rintro ⟨⟨a, b⟩, c⟩
        refine ⟨b, fun j hj z => ?_⟩
        rcases List.mem_append.mp z with z | z
        · exact c j (by simp [hj]) z
        · rw [List.mem_singleton] at z
          exact a (by rw [← z]; exact hj)
end
section
variable {κ : Type} [DecidableEq κ] {prog : Program} {w : World} {knd : KeyKind prog w κ}
theorem congrS {h : Heap} {a : Addr} {S S' : κ → Bool} {n n' : Nat} (hS : h.SetOf knd a S n) (e : ∀ k, S k = S' k) (en : n = n') : h.SetOf knd a S' n' := by
  have z : S = S' := funext e
  subst z
  subst en
  exact hS
variable {A : Around} {R : Result → Shared → Prop} {I : Addr} {fp wr : List Addr} {G : Array GenState → Array GenState → Prop} {n : Nat} {P : Nat → Value → Prop} {St : Nat → Shared → Prop}
theorem loopK (Wk : WalksS prog w A.in1 I fp wr G n P St) (S : Addr) (nf : S ∉ fp) (ks : List κ) (hl : ks.length = n) (hb : n + 1 < scanBound) (hv : ∀ i v, P i v → ∃ k, ks[i]? = some k ∧ knd.is k v = true ∧ v.scannable = true) :
    ∀ (m i : Nat) (s : Shared), n - i = m → i ≤ n → St i s → s.heap.SetOf knd S (fun k => decide (k ∈ met ks i)) (met ks i).length →
      (∀ s', Moved (S :: wr) G s s' → s'.heap.SetOf knd S (fun k => decide (k ∈ met ks n)) (met ks n).length → R (.ok (.ret .none)) s') →
      codeAny (model prog w) A (.builtin "set.update.loop" ⟨[.ref S, .ref I], []⟩) R s := by
  have nw : S ∉ wr := fun h => nf (Wk.sub _ h)
  have up : ∀ b ∈ wr, b ∈ S :: wr := fun b hb => List.mem_cons_of_mem _ hb
  intro m
  induction m with
  | zero =>
    intro i s hm hi st hS hR
    obtain rfl : i = n := by omega
    refine codeAny_builtin PyProof.Rows.F.entry_set_update_loop ?_
    rw [Around.under_plainId PyProof.Rows.F.plain_set_update_loop _]
    show wpAny _ A.in1 (pyNext (.ref I) >>= _) _ _ s
    refine wpAny_bind (Wk.done s _ _ st fun s' mv => ?_)
    show wpAny _ A.in1 (ret Value.none) _ _ s'
    exact wpAny_pure (hR s' (mv.mono up) (by
      obtain ⟨o, es, ep, t, ho, more⟩ := hS
      exact ⟨o, es, ep, t, mv.heap S _ nw ho, more⟩))
  | succ m ih =>
    intro i s hm hi st hS hR
    have lt : i < n := by omega
    refine codeAny_builtin PyProof.Rows.F.entry_set_update_loop ?_
    rw [Around.under_plainId PyProof.Rows.F.plain_set_update_loop _]
    show wpAny _ A.in1 (pyNext (.ref I) >>= _) _ _ s
    refine wpAny_bind (Wk.item i s _ _ lt st fun v s' hP st' mv => ?_)
    obtain ⟨k, hk, isk, sc⟩ := hv i v hP
    have hS' : s'.heap.SetOf knd S (fun k => decide (k ∈ met ks i)) (met ks i).length := by
      obtain ⟨o, es, ep, tb, ho, more⟩ := hS
      exact ⟨o, es, ep, tb, mv.heap S _ nw ho, more⟩
    show wpAny _ A.in1 (holding [v] (setAdd S v) >>= _) _ _ s'
    refine wpAny_bind (wpAny_holding ?_)
    unfold setAdd
    refine wpAny_holding ?_
    refine wpAny_bind (knd.pyHash (k := k) isk ?_)
    have room : (met ks i).length + 1 < scanBound := by have := met_le ks i; omega
    refine wpAny_setAddHashed_of (knd := knd) (s := { s' with toks := s'.toks + 1 }) isk sc hS' room fun h' sb hS2 => ?_
    have hS3 : h'.SetOf knd S (fun j => decide (j ∈ met ks (i + 1))) (met ks (i + 1)).length :=
      congrS hS2 (fun j => by rw [met_succ hk, met1_mem]) (by rw [met_succ hk, met1_len])
    refine wpAny_pure ⟨plainId_quiet PyProof.Rows.F.plain_set_update_loop _, ih (i + 1) _ (by omega) lt (Wk.frame _ s' _ _ st' (Nat.le_succ _) fun b hb o e => ?_) hS3 fun s'' mv2 hS4 => ?_⟩
    · rw [sb.2 b (fun z : b = S => nf (by rw [← z]; exact hb))]
      exact e
    · refine hR s'' (Moved.trans Wk.gtrans ((mv.mono up).then_heap (Nat.le_succ _) fun b o hb e => ?_) mv2) hS4
      rw [sb.2 b (fun z : b = S => hb (by rw [z]; exact List.mem_cons_self))]
      exact e
end
section
variable {κ : Type} [DecidableEq κ] {prog : Program} {w : World} {knd : KeyKind prog w κ} {A : Around} {E : Value → Shared → Prop} {s : Shared}
/-- set(l), l a list of keys -/
theorem call_setL {l : Addr} {items : Array Value} {ks : List κ} {Q : Value → Shared → Prop}
    (hh : A.handled = none) (hl : s.heap.IsList l items) (hsz : ks.length = items.size) (hb : items.size + 1 < scanBound) (hv : ∀ (i : Nat) (v : Value), items[i]? = some v → ∃ k, ks[i]? = some k ∧ knd.is k v = true ∧ v.scannable = true)
    (h : ∀ (h' : Heap) (tk : Nat), h'.SetOf knd s.heap.objs.size (fun k => decide (k ∈ met ks items.size)) (met ks items.size).length →
      (∀ b o, b < s.heap.objs.size → s.heap.get? b = some o → h'.get? b = some o) → Q (.ref s.heap.objs.size) { s with heap := h', toks := tk }) :
    wpAny (model prog w) A (call (.type "set") [.ref l]) Q E s := by
  obtain ⟨c, tl, hmro⟩ := PySem.F.called_set.mro
  have made := PySem.F.called_set.made
  have sub := PySem.F.called_set.sub
  refine wpAny_call (codeAny_of_tree ?_)
  show wpAny _ _ (callAny (.type "set") _) _ _ _
  refine wpAny_pure ⟨Code.quiet_builtin _ (by decide +kernel), codeAny_builtin PySem.F.entry_type_call ?_⟩
  rw [Around.under_plain (weight_type_call_type "set" [.ref l] []) rfl]
  have nT := PySem.F.called_set.notType
  have cC := PySem.F.called_set.canCreate
  have tC := PySem.F.typeCall_set_1 (.ref l)
  repeat (any_goals (first | assumption | wp_step))
  refine codeAny_mono (code_set_new_1 (.ref l) (E := E) (Q₁ := fun obj s1 => ∃ led : Bool, obj = .ref s.heap.objs.size ∧ s1 = { s with heap := s.heap.push { cls := .type "set", dict := none, data := .set #[] 0 (.fresh 0 0 led) } }) fun led => ⟨led, rfl, rfl⟩) fun r s1 hr => ?_
  match r, hr with
  | .error e, hr => exact hr
  | .ok (.ret obj), hr =>
    obtain ⟨led, rfl, rfl⟩ := hr
    have hS : (s.heap.push { cls := .type "set", dict := none, data := .set #[] 0 (.fresh 0 0 led) }).get? s.heap.objs.size = some { cls := .type "set", dict := none, data := .set #[] 0 (.fresh 0 0 led) } := Heap.get?_push_size _ rfl
    have hT : Shared.TypeIs { s with heap := s.heap.push { cls := .type "set", dict := none, data := .set #[] 0 (.fresh 0 0 led) } } (.ref s.heap.objs.size) "set" := ⟨_, hS, rfl⟩
    have li := PySem.F.called_set.init.lookup
    have bi := PySem.F.called_set.init.bind (.ref s.heap.objs.size)
    repeat (any_goals (first | assumption | wp_step))
    refine codeAny_mono (codeAny_call_builtin (R := wants (fun r s2 => r = .none ∧ ∃ h' tk, s2 = { s with heap := h', toks := tk } ∧
        h'.SetOf knd s.heap.objs.size (fun k => decide (k ∈ met ks items.size)) (met ks items.size).length ∧
        (∀ b o, b < s.heap.objs.size → s.heap.get? b = some o → h'.get? b = some o)) E) PySem.F.called_set.init.plain PySem.F.entry_set_init (check_set_init_1 hT ?_)) fun r2 s2 hr2 => ?_
    · obtain ⟨ol, hol, hcl, nl, hdl⟩ := hl
      obtain ⟨ocls, odict, odata, oslots⟩ := ol
      simp only at hcl hdl
      subst hcl
      subst hdl
      have hol2 : (s.heap.push { cls := .type "set", dict := none, data := .set #[] 0 (.fresh 0 0 led) }).get? l = some { cls := .type "list", dict := odict, data := .seq items nl, slots := oslots } := Heap.get?_push_of_some _ hol
      have s1 := PySem.F.sub_list_set
      have s2 := PySem.F.sub_list_frozenset
      have ne : (Value.type "list" == Value.type "dict") = false := by decide
      have hl1 : (s.heap.push { cls := .type "set", dict := none, data := .set #[] 0 (.fresh 0 0 led) }).IsList l items := ⟨_, hol2, rfl, nl, rfl⟩
      unfold Builtin.«set.__init__» noKeywords Builtin.Frozenset.updateFrom
      generalize hPI : pyIter = PI
      wp_walk
      subst hPI
      refine wpAny_pyIter_list hl1 ?_
      refine wpAny_bind (wpAny_runValue ?_)
      have lS : l < s.heap.objs.size := Heap.lt_size hol
      have hh3 : A.in1.in1.in1.handled = none := by simp [hh]
      have neI : l ≠ (s.heap.push { cls := .type "set", dict := none, data := .set #[] 0 (.fresh 0 0 led) }).objs.size := by
        rw [Heap.size_push]
        exact Nat.ne_of_lt (Nat.lt_succ_of_lt lS)
      have nf : s.heap.objs.size ∉ [(s.heap.push { cls := .type "set", dict := none, data := .set #[] 0 (.fresh 0 0 led) }).objs.size, l] := by
        rw [Heap.size_push]
        simp only [List.mem_cons, List.mem_singleton, List.not_mem_nil, or_false, not_or]
        exact ⟨Nat.ne_of_lt (Nat.lt_succ_self _), Nat.ne_of_gt lS⟩
      refine loopK (knd := knd) ((Walks.list hh3 _ l neI items).toS) s.heap.objs.size nf ks hsz hb hv (items.size - 0) 0 _ (by omega) (Nat.zero_le _)
        ⟨⟨_, Heap.get?_push_size _ rfl, rfl, rfl⟩, (hl1.push _)⟩ ?hS0 ?hR
      case hS0 =>
        have get : ((s.heap.push { cls := .type "set", dict := none, data := .set #[] 0 (.fresh 0 0 led) }).push { cls := .type "list_iterator", data := .fields #[.ref l, .int 0 0] }).get? s.heap.objs.size
            = some { cls := .type "set", dict := none, data := .set #[] 0 (.fresh 0 0 led) } := Heap.get?_push_of_some _ hS
        exact congrS ((PyProof.Rows.setObjOf_fresh (knd := knd) led).setOf get (by unfold scanBound; omega)) (fun k => by simp [met]) (by simp [met])
      case hR =>
        intro s' mv hS'
        obtain ⟨h', g', d', tk', os'⟩ := s'
        have eg : g' = s.gens := mv.gens
        have ed : d' = s.drawn := mv.drawn
        have eo : os' = s.os := mv.os
        subst eg
        subst ed
        subst eo
        show wpAny _ _ _ _ _ _
        refine wpAny_pure ?_
        show wpAny _ _ (ret Value.none) _ _ _
        refine wpAny_pure ⟨rfl, h', tk', rfl, hS', fun b o hb e => ?_⟩
        have b1 : b ≠ s.heap.objs.size := Nat.ne_of_lt hb
        have b2 : b ≠ (s.heap.push { cls := .type "set", dict := none, data := .set #[] 0 (.fresh 0 0 led) }).objs.size := by
          rw [Heap.size_push]
          exact Nat.ne_of_lt (Nat.lt_succ_of_lt hb)
        exact mv.heap b o (by simp only [List.mem_cons, List.mem_singleton, List.not_mem_nil, or_false, not_or]; exact ⟨b1, b2⟩) (Heap.get?_push_of_some _ (Heap.get?_push_of_some _ e))
    · match r2, hr2 with
      | .error e, hr2 => exact hr2
      | .ok (.ret r), hr2 =>
        obtain ⟨rfl, h', tk, rfl, hS', hk'⟩ := hr2
        repeat (any_goals (first | assumption | wp_step))
        exact h _ _ hS' hk'
end
section
variable {X : Cx}
/-- len(set(l)), l a list of ints and texts -/
def tLenSetK (K : PySem.W.Frag) (ta : TE) : TE := fun σ H Q => ta σ H fun x H1 => ∃ (l : Addr) (ks : List Key), x = .ref l ∧ SqL K H1 l (ks.map kV) ∧ ks.length ≤ 4000 ∧ Q (.int ((met ks ks.length).length : Nat)) H1
theorem pe_lenSetK {a : Expr} {ta : TE} {p p2 q pos : Pos} (hg : Gl X "len") (hm : X.mg "len" = none) (hg2 : Gl X "set") (hm2 : X.mg "set" = none) (ha : PE X a ta) (hc : X.calm = true := by rfl)
    (na : starEach [a] X.env = (false, eval a X.env) :: starEach [] X.env := by rfl) : PE X (.Call (.Name "len" p) [.Call (.Name "set" p2) [a] [] q] [] pos) (tLenSetK X.K ta) := by
  refine ⟨fun pins s σ H Q I h => ?_⟩
  refine Call_ (ld_blt I hg hm boot_len ?_)
  refine PyProof.Rows.callWith_builtin1 (PyProof.Rows.args_cons ?_ rfl) rfl rfl
  refine Call_ (ld_blt I hg2 hm2 boot_set ?_)
  refine PyProof.Rows.callWith_type1 (PyProof.Rows.args_cons (thn (ha.run pins s σ H _ I h) fun v s1 ⟨x, H1, I1, r1, q1⟩ => PyProof.Rows.args_nil ?_) na) na rfl
  obtain ⟨l, ks, rfl, hq, hn, q1⟩ := q1
  cases r1
  obtain ⟨its, rv, pl, hz⟩ := I1.list hq
  have len : its.toArray.size = ks.length := by rw [List.size_toArray, ← rv.length, List.length_map]
  refine call_setL (knd := mixKind X.prog X.w) (ks := ks) (I1.ok.hd hc) pl.isList len.symm (by rw [len]; unfold scanBound; omega) (fun i v hv => ?_) fun h' tk hS hk => ?_
  · have hi : i < ks.length := by rw [← len]; exact (Array.getElem?_eq_some_iff.mp hv).1
    obtain ⟨u, hu, ru⟩ := rv.get (i := i) (x := kV ks[i]) (by simp [hi])
    have e : u = v := by
      have z : its.toArray[i]? = some v := hv
      rw [List.getElem?_toArray, hu] at z
      exact Option.some.inj z
    rw [e] at ru
    exact ⟨ks[i], by simp [hi], kV_is ru, key_scan ru⟩
  refine PyProof.Rows.args_nil ?_
  rw [len] at hS
  obtain ⟨o, es, ep, t, ho, hex, hd, _, _, _, hf, hn2⟩ := hS
  have I2 : Inv X pins σ H1 { s1 with heap := h', toks := tk } := I1.kept fun b o e => hk b o (Heap.lt_size e) e
  have := met_le ks ks.length
  exact call_len_set ho hex hd hf (by rw [hn2] <;> omega) ⟨.int ((met ks ks.length).length : Nat), H1, I2.tok _, ⟨_, by rw [hn2]⟩, q1⟩
end
end Sk
set_option Elab.async false
set_option linter.all false
set_option maxRecDepth 100000
set_option maxHeartbeats 4000000
/-! Dx: further words over data: joins, len(set(..)), repr, fields, classes in tuples. -/
namespace Dw
open PySem PySem.Spec PyProof.Rows L2 RZ
/-! readings by names -/
def rJoin (K : PySem.W.Frag) : V → List V → Hp → VK → Prop := fun x xs H Q => ∃ a p, ∃ ys : List Str, x = .str a ∧ xs = [.ref p] ∧ (SqL K H p (ys.map V.str) ∨ SqT K H p (ys.map V.str)) ∧
      (ys.map (·.length)).sum + ys.length * a.length ≤ 16777216 ∧ Q (.str (Txt.join a ys)) H
theorem pe_joinD {X : Cx} {o e : Expr} {to te : TE} {apos pos : Pos} (ho : PE X o to) (he : PE X e te) (hs : starEach [e] X.env = [(false, eval e X.env)] := by rfl) (hbase : attributeBase o "join" X.env (eval o X.env) = eval o X.env := by rfl) (hline : (apos.endLine == pos.line) = true := by rfl) :
    PE X (.Call (.Attribute o "join" apos) [e] [] pos) (tM1 (rJoin X.K) to te) := pe_join ho he hs hbase hline
section
variable {X : Cx}
/-- repr of data without dicts -/
def rReprD (K : PySem.W.Frag) : List V → Hp → VK → Prop := fun xs H Q => ∃ v d, xs = [v] ∧ Dp K H v d ∧ d.showable = true ∧ d.shown.length ≤ sizeLine ∧ d.depth ≤ 190 ∧ Q (.str d.shown) H
mutual
theorem dp_nodict {K : PySem.W.Frag} {H : Hp} : ∀ (d : PyData) (v : V), Dp K H v d → d.hasDict = false
  | .none, _, _ => by unfold PyData.hasDict; rfl
  | .bool _, _, _ => by unfold PyData.hasDict; rfl
  | .int _, _, _ => by unfold PyData.hasDict; rfl
  | .str _, _, _ => by unfold PyData.hasDict; rfl
  | .list ds, _, h => by
    cases h with
    | lst _ l =>
      unfold PyData.hasDict
      exact dp_nodicts ds _ l
  | .tuple ds, _, h => by
    cases h with
    | tup _ l =>
      unfold PyData.hasDict
      exact dp_nodicts ds _ l
  | .dict _, _, h => by cases h
theorem dp_nodicts {K : PySem.W.Frag} {H : Hp} : ∀ (ds : List PyData) (vs : List V), DpAll K H vs ds → PyData.hasDictAll ds = false
  | [], _, _ => by unfold PyData.hasDictAll; rfl
  | d :: r, _, h => by
    cases h with
    | cons a t =>
      unfold PyData.hasDictAll
      rw [dp_nodict d _ a, dp_nodicts r _ t]
      rfl
end
theorem cr_repr {k : Nat} (hr : Room k X.A) (hG : X.A.guards = some []) : CallR X (.builtin "repr") (rReprD X.K) := by
  intro pins s σ H xs us Q I r h
  obtain ⟨v, d, rfl, hd, h1, h2, h3, q⟩ := h
  obtain ⟨u, rfl, rv⟩ : ∃ u, us = [u] ∧ RelV v u := by
    cases r with
    | cons a b =>
      cases b
      exact ⟨_, rfl, a⟩
  obtain ⟨as, hR⟩ := Dp.reads I d v u hd rv
  have nd := dp_nodict d v hd
  have un := hr.un
  have big : ∀ a, u = Value.ref a → wpAny (model X.prog X.w) X.A (call (.builtin "repr") [u]) (EP X pins σ Q) X.xe s := by
    rintro a rfl
    refine repr_of_reads' hR h1 (fun z => by rw [nd] at z; cases z) hG (by omega) (fun _ _ e => e) (fun h' u' tk k => ?_) h2
    exact ⟨.str d.shown, H, I.kept (t' := tk) k, ⟨u', rfl⟩, q⟩
  have fin : ∀ tk u', EP X pins σ Q (.str d.shown u') { s with toks := tk } := fun tk u' => ⟨.str d.shown, H, I.tok _, ⟨u', rfl⟩, q⟩
  cases hd with
  | non =>
    cases rv
    exact P.repr_of_none (fin _ _)
  | bl b =>
    cases rv
    refine P.repr_of_bool ?_
    have := fin (s.toks + 1) s.toks
    rw [PyData.shown] at this
    exact this
  | int i =>
    obtain ⟨t, rfl⟩ := rv
    exact P.repr_of_int (by simpa [PyData.showable] using h1) (fin _ _)
  | str _ =>
    obtain ⟨t, rfl⟩ := rv
    exact P.repr_of_str (fin _ _) (by simpa [PyData.shown] using h2)
  | lst _ _ => exact big _ rv
  | tup _ _ => exact big _ rv
end
/-- ns <= ms of two rows of ints -/
def leP (ns ms : List Int) : Bool := Ob.lexAt (fun j => decide (ns.getD j 0 = ms.getD j 0)) (fun j => decide (ns.getD j 0 ≤ ms.getD j 0)) (decide (ns.length ≤ ms.length)) 0 (min ns.length ms.length)
theorem leP2 (a b c d : Int) : leP [a, b] [c, d] = decide (a < c ∨ (a = c ∧ b ≤ d)) := by
  unfold leP
  show Ob.lexAt _ _ _ 0 2 = _
  rw [Ob.lexAt_succ, Ob.lexAt_succ, Ob.lexAt_zero]
  simp only [List.getD_cons_zero, List.getD_cons_succ, List.length_cons, List.length_nil]
  by_cases h1 : a = c
  · by_cases h2 : b = d
    · simp [h1, h2]
    · simp [h1, h2]
  · simp [h1]
    omega
section
variable {S : Type}
@[simp] def wJoin (wo we : WE S) : WE S := fun env s k x => wo env s (fun a s1 => match a with
  | .str z => we env s1 (fun d s2 => match d.items with
    | some ds => ∃ ys, D.strs ds = some ys ∧ (ys.map (·.length)).sum + ys.length * z.length ≤ 16777216 ∧ (Txt.join z ys).length ≤ sizeLine ∧ k (.str (Txt.join z ys)) s2
    | none => False) x
  | _ => False) x
@[simp] def wRepr : List D → S → (D → S → Prop) → Prop := fun ds s k => match ds with
  | [d] => ∃ p, d.py = some p ∧ p.showable = true ∧ p.shown.length ≤ sizeLine ∧ p.depth ≤ 190 ∧ k (.str p.shown) s
  | _ => False
def D.keys : List D → Option (List Key)
  | [] => some []
  | .int i :: r => (D.keys r).map (.inl i :: ·)
  | .str x :: r => (D.keys r).map (.inr x :: ·)
  | _ => none
@[simp] def wLenSet (we : WE S) : WE S := fun env s k x => we env s (fun d s1 => match d with
  | .lst ds => ∃ ks, D.keys ds = some ks ∧ ks.length ≤ 4000 ∧ k (.int ((Sk.met ks ks.length).length : Nat)) s1
  | _ => False) x
@[simp] def wIxS : D → D → S → (D → S → Prop) → Prop := fun d e s k => match d, e with
  | .str z, .int i => (match atI z.cps.toList i with
    | some c => k (.str ⟨#[c]⟩) s
    | none => False)
  | _, _ => False
@[simp] def wLeT : D → D → S → (D → S → Prop) → Prop := fun d e s k => match d, e with
  | .tup a, .tup b => ∃ ns ms, D.ints a = some ns ∧ D.ints b = some ms ∧ k (.bl (leP ns ms)) s
  | _, _ => False
/-- e.f of an instance of a class of which Cl tells -/
@[simp] def wFld (f : Str) (Cl : Addr → Prop) (w : WE S) : WE S := fun env s k x => w env s (fun d s1 => match d with
  | .obj C fs => Cl C ∧ (match fs.lookup f with
    | some e => k e s1
    | none => False)
  | _ => False) x
end
section
variable {S : Type} {W : Wd S} {G : Gm S} {K : PySem.W.Frag}
theorem SimF.e {t : TE} {w : WI S} (h : SimF W G t w) : SimE W G t (fun env s k x => w env s (fun ds s1 => k (.lst ds) s1) x) := fun R env σ H s rl k x hw ox Q hQ => h R env σ H s rl _ x hw ox Q fun ds s1 p xs H1 hk f j hp e nb l z =>
  hQ _ s1 _ H1 hk f j (.lst e nb (l.imp fun a q => q.imp .inl id) z)
theorem sim_lcE {us : List Nat} {wi : TI} {g : TG} {tt : TT} {te : TE} {vs : List Nat} {wI : WI S} {wg : WG} {wt : WT S} {we : WE S} (hi : SimI W G wi wI) (hg : SimTg W G us g wg) (ht : SimT W G tt wt) (he : SimE W G te we) (hs : ∀ j, j ∈ us → j ∈ vs := by decide) :
    SimE W G (tLc wi g tt te vs) (wLcE wI wg wt we vs) := (sim_lcF hi hg ht he hs).e
theorem sim_join {to te : TE} {wo we : WE S} (ho : SimG W G to wo) (he : SimG W G te we) : SimE W G (tM1 (rJoin K) to te) (wJoin wo we) := fun R env σ H s rl k x hw ox Q hQ => ho R env σ H s rl _ x hw ox _ fun a s1 v H1 hw1 f1 j1 a1 => by
  cases a with
  | str z =>
    refine ⟨⟨z, a1.strI.1⟩, he R env σ H1 s1 (rl.step f1 j1) _ x hw1 ox _ fun d s2 u H2 hw2 f2 j2 a2 => ?_⟩
    cases d with
    | lst ds =>
      obtain ⟨ys, h1, h2, h4, h3⟩ := hw2
      obtain ⟨p, xs, rfl, e, l, lz⟩ := a2.lstI
      have := l.strs h1
      subst this
      exact ⟨z, p, ys, a1.strI.1, rfl, .inl (.of e), h2, hQ _ s2 _ H2 h3 (f1.trans f2) j2 (.str h4)⟩
    | tup ds =>
      obtain ⟨ys, h1, h2, h4, h3⟩ := hw2
      obtain ⟨p, xs, rfl, e, l, _, lz⟩ := a2.tupI
      have := l.strs h1
      subst this
      exact ⟨z, p, ys, a1.strI.1, rfl, .inr (.of e), h2, hQ _ s2 _ H2 h3 (f1.trans f2) j2 (.str h4)⟩
    | _ => exact hw2.elim
  | _ => exact hw1.elim
theorem DaL.keys {B : Addr → Prop} {H : Hp} : ∀ {ds : List D} {vs : List V} {ns : List Key}, DaL B H vs ds → D.keys ds = some ns → vs = ns.map kV
  | [], _, _, .nil, e => by cases e; rfl
  | .int i :: r, _, _, .cons h t, e => by
    cases h
    unfold D.keys at e
    obtain ⟨ms, e2, rfl⟩ := Option.map_eq_some_iff.mp e
    rw [List.map_cons, t.keys e2]
    rfl
  | .str i :: r, _, _, .cons h t, e => by
    cases h
    unfold D.keys at e
    obtain ⟨ms, e2, rfl⟩ := Option.map_eq_some_iff.mp e
    rw [List.map_cons, t.keys e2]
    rfl
  | .non :: _, _, _, _, e => by cases e
  | .bl _ :: _, _, _, _, e => by cases e
  | .lst _ :: _, _, _, _, e => by cases e
  | .tup _ :: _, _, _, _, e => by cases e
  | .dic _ :: _, _, _, _, e => by cases e
  | .dit _ :: _, _, _, _, e => by cases e
  | .obj _ _ :: _, _, _, _, e => by cases e
  | .opq _ :: _, _, _, _, e => by cases e
  | .ty _ :: _, _, _, _, e => by cases e
theorem sim_lenSetS {te : TE} {we : WE S} (he : SimG W G te we) : SimE W G (Sk.tLenSetK K te) (wLenSet we) := fun R env σ H s rl k x hw ox Q hQ => he R env σ H s rl _ x hw ox _ fun d s1 v H1 hw1 f1 j1 a1 => by
  cases d with
  | lst ds =>
    obtain ⟨ks, h1, h2, h3⟩ := hw1
    obtain ⟨p, xs, rfl, e, l, lz⟩ := a1.lstI
    have := l.keys h1
    subst this
    exact ⟨p, ks, rfl, .of e, h2, hQ _ s1 _ H1 h3 f1 j1 (.int _)⟩
  | _ => exact hw1.elim
theorem sc_repr : SimC W (rReprD K) wRepr := fun R s H at_ xs ds a k hw Q hQ => by
  match ds, a, hw with
  | [d], a, ⟨p, h1, h2, h3, h4, h5⟩ =>
    obtain ⟨v, rfl, a1⟩ := a.one
    exact ⟨v, p, rfl, a1.py h1, h2, h3, h4, hQ _ _ H h5 .refl at_.j (.str h3)⟩
theorem so_ixS : SimO W rIxS wIxS := fun R s H at_ x y d e a b k hw Q hQ => by
  cases d with
  | str z => cases e with
    | int i =>
      simp only [wIxS] at hw
      cases q : atI z.cps.toList i with
      | none => rw [q] at hw; exact hw.elim
      | some c =>
        rw [q] at hw
        exact ⟨z, i, c, a.strI.1, b.intI, a.strI.2, q, hQ _ _ H hw .refl at_.j (.str (one_le c))⟩
    | _ => exact hw.elim
  | _ => exact hw.elim
theorem so_leT : SimO W (rLeT K) wLeT := fun R s H at_ x y d e a b k hw Q hQ => by
  cases d with
  | tup ds => cases e with
    | tup es =>
      obtain ⟨ns, ms, h1, h2, h3⟩ := hw
      obtain ⟨p, xs, rfl, e1, l1, _, _⟩ := a.tupI
      obtain ⟨q, ys, rfl, e2, l2, _, _⟩ := b.tupI
      have := l1.ints h1
      subst this
      have := l2.ints h2
      subst this
      exact ⟨p, q, ns, ms, rfl, rfl, .of e1, .of e2, hQ _ _ H h3 .refl at_.j (.bl _)⟩
    | _ => exact hw.elim
  | _ => exact hw.elim
theorem sim_fld {f : Str} {Cl : Addr → Prop} (hC : ∀ C, Cl C → Cls K C ∧ NoAttr K C f) {te : TE} {we : WE S} (he : SimE W G te we) : SimE W G (tFld K te f) (wFld f Cl we) := fun R env σ H s rl k x hw ox Q hQ => he R env σ H s rl _ x hw ox _ fun d s1 v H1 hw1 f1 j1 a1 => by
  cases d with
  | obj C fs =>
    obtain ⟨h1, h2⟩ := hw1
    cases q : fs.lookup f with
    | none => rw [q] at h2; exact h2.elim
    | some e =>
      rw [q] at h2
      cases a1 with
      | obj e1 n l =>
        obtain ⟨u, hu, da⟩ := l.look q
        exact ⟨_, C, _, _, u, rfl, e1, (hC C h1).1, (hC C h1).2, hu, hQ _ s1 _ H1 h2 f1 j1 da⟩
  | _ => exact hw1.elim
theorem isT_tyv {d : D} {n : String} (h : (d.isT n).isSome = true) : ∃ t, d.tyv = some t := by
  cases d <;> first | exact ⟨_, rfl⟩ | cases h
theorem isTs_kit {d : D} {t : Value} (hd : d.tyv = some t) : ∀ {ts : List D} {b : Bool}, D.isTs ts d = some b → ∃ us : List Value, (∀ {B : Addr → Prop} {H : Hp} {xs : List V}, DaL B H xs ts → Paired ClsV xs us) ∧ PySem.W.kitAny K t us = some b
  | [], b, h => by
    unfold D.isTs at h
    split at h
    · cases h
      refine ⟨[], fun l => ?_, rfl⟩
      cases l
      exact .nil
    · cases h
  | .ty n :: r, b, h => by
    unfold D.isTs at h
    split at h
    · rename_i hn
      cases h1 : d.isT n with
      | none => rw [h1] at h; cases h
      | some a =>
        cases h2 : D.isTs r d with
        | none => rw [h1, h2] at h; cases h
        | some c =>
          rw [h1, h2] at h
          cases h
          obtain ⟨us, q1, q2⟩ := isTs_kit hd h2
          obtain ⟨t', e1, e2⟩ := isT_kit (K := K) hn h1
          rw [hd] at e1
          cases e1
          refine ⟨.type n :: us, fun l => ?_, ?_⟩
          · cases l with
            | cons a tl =>
              cases a
              exact .cons (.ty n) (q1 tl)
          · unfold PySem.W.kitAny
            rw [e2]
            cases a
            · exact q2
            · rfl
    · cases h
  | .non :: _, _, h => by cases h
  | .bl _ :: _, _, h => by cases h
  | .int _ :: _, _, h => by cases h
  | .str _ :: _, _, h => by cases h
  | .lst _ :: _, _, h => by cases h
  | .tup _ :: _, _, h => by cases h
  | .dic _ :: _, _, h => by cases h
  | .dit _ :: _, _, h => by cases h
  | .obj _ _ :: _, _, h => by cases h
  | .opq _ :: _, _, h => by cases h
theorem isTs_ty {d : D} : ∀ {ts : List D} {b : Bool}, D.isTs ts d = some b → ∃ t, d.tyv = some t
  | [], b, h => by
    unfold D.isTs at h
    split at h
    · rename_i q
      exact isT_tyv q
    · cases h
  | .ty n :: r, b, h => by
    unfold D.isTs at h
    split at h
    · cases h1 : d.isT n with
      | none => rw [h1] at h; cases h
      | some a => exact isT_tyv (n := n) (by rw [h1]; rfl)
    · cases h
  | .non :: _, _, h => by cases h
  | .bl _ :: _, _, h => by cases h
  | .int _ :: _, _, h => by cases h
  | .str _ :: _, _, h => by cases h
  | .lst _ :: _, _, h => by cases h
  | .tup _ :: _, _, h => by cases h
  | .dic _ :: _, _, h => by cases h
  | .dit _ :: _, _, h => by cases h
  | .obj _ _ :: _, _, h => by cases h
  | .opq _ :: _, _, h => by cases h
theorem sc_isiT : SimC W (rIsiT K) wIsiT := fun R s H at_ xs ds a k hw Q hQ => by
  match ds, a, hw with
  | [d, .tup ts], a, hw =>
    obtain ⟨v, u, rfl, a1, b1⟩ := a.two
    obtain ⟨p, ys, rfl, e, l, _, _⟩ := b1.tupI
    simp only [wIsiT] at hw
    cases q : D.isTs ts d with
    | none => rw [q] at hw; exact hw.elim
    | some b =>
      rw [q] at hw
      obtain ⟨t, ht⟩ := isTs_ty q
      obtain ⟨us, q1, q2⟩ := isTs_kit (K := K) ht q
      exact ⟨v, p, ys, t, us, b, rfl, e, q1 l, a1.tyv ht, q2, hQ _ _ H hw .refl at_.j (.bl _)⟩
end
end Dw
set_option Elab.async false
set_option linter.all false
set_option maxRecDepth 100000
set_option maxHeartbeats 4000000
/-! Dy: operators that the data choose. -/
namespace Dw
open PySem PySem.Spec PyProof.Rows L2 RZ
section
variable {X : Cx} {k : Nat}
def rAddX (K : PySem.W.Frag) : R2 := fun x y H Q => rI0 (fun i j => .int (i + j)) x y H Q ∨ rCatA K x y H Q ∨ rCat x y H Q ∨ rAddS x y H Q
theorem op_addX : OpR X (binaryOp .Add) (rAddX X.K) := op_add.or (op_catA.or (op_cat.or op_addS))
def rMulX (K : PySem.W.Frag) : R2 := fun x y H Q => rI CMul (fun i j => .int (i * j)) x y H Q ∨ rI CMulW (fun i j => .int (i * j)) x y H Q ∨ rRepT K x y H Q ∨ rRep x y H Q ∨ Dt.rMulS x y H Q
theorem op_mulX : OpR X (binaryOp .Mult) (rMulX X.K) := op_mul.or (op_mulW.or (op_repT.or (op_rep.or Dt.op_mulS)))
def rDivX : R2 := fun x y H Q => rI CDiv (fun i j => .int (i / j)) x y H Q ∨ rI CDivW (fun i j => .int (i / j)) x y H Q
theorem op_divX : OpR X (binaryOp .FloorDiv) rDivX := op_fdiv.or op_fdivW
def rEqX (K : PySem.W.Frag) : R2 := fun x y H Q => rEq x y H Q ∨ rEqD K x y H Q
theorem op_eqX (hr : Room k X.A) : OpR X (compareOp .Eq) (rEqX X.K) := op_eq.or (op_eqD hr.units)
def rNeX (K : PySem.W.Frag) : R2 := fun x y H Q => rNe x y H Q ∨ rNeD K x y H Q
theorem op_neX (hr : Room k X.A) : OpR X (compareOp .NotEq) (rNeX X.K) := op_ne.or (op_neD hr.units)
def rInX (K : PySem.W.Frag) : R2 := fun x y H Q => rIn K false x y H Q ∨ rInS x y H Q ∨ rInD K x y H Q
theorem op_inX (hr : Room k X.A) : OpR X (compareOp .In) (rInX X.K) := op_in_seq.or (op_inS.or (op_inD (by have := hr.un; omega)))
def rNotInX (K : PySem.W.Frag) : R2 := fun x y H Q => rIn K true x y H Q ∨ rNotInS x y H Q ∨ rNotInD K x y H Q
theorem op_notInX (hr : Room k X.A) : OpR X (compareOp .NotIn) (rNotInX X.K) := op_notIn_seq.or (op_notInS.or (op_notInD (by have := hr.un; omega)))
def rLtX : R2 := fun x y H Q => rI0 (fun i j => .bl (decide (i < j))) x y H Q ∨ rStr (fun i j => decide (i.cps.toList < j.cps.toList)) x y H Q
theorem op_ltX : OpR X (compareOp .Lt) rLtX := op_lt.or op_ltS
def rGtX : R2 := fun x y H Q => rI0 (fun i j => .bl (decide (j < i))) x y H Q ∨ rStr (fun i j => decide (j.cps.toList < i.cps.toList)) x y H Q
theorem op_gtX : OpR X (compareOp .Gt) rGtX := op_gt.or op_gtS
def rGeX : R2 := fun x y H Q => rI0 (fun i j => .bl (decide (j ≤ i))) x y H Q ∨ rStr (fun i j => !decide (i.cps.toList < j.cps.toList)) x y H Q
theorem op_geX : OpR X (compareOp .GtE) rGeX := op_ge.or op_geS
def rLeX (K : PySem.W.Frag) : R2 := fun x y H Q => rI0 (fun i j => .bl (decide (i ≤ j))) x y H Q ∨ rStr (fun i j => !decide (j.cps.toList < i.cps.toList)) x y H Q ∨ rLeT K x y H Q
theorem op_leX (hr : Room k X.A) : OpR X (compareOp .LtE) (rLeX X.K) := op_le.or (op_leS.or (op_leT hr.units0))
def rSlX (K : PySem.W.Frag) : V → Option Int → Option Int → Hp → VK → Prop := fun x lo hi H Q => rSlA K x lo hi H Q ∨ rSlL K x lo hi H Q ∨ rSlS x lo hi H Q
theorem sl_X : SlR X (rSlX X.K) := sl_tupA.or (sl_list.or sl_str)
/-- a list, a tuple, a text walked -/
def iX (K : PySem.W.Frag) (te : TE) : TI := fun σ H R => te σ H fun v H1 => (∃ a, v = .ref a ∧ (∃ xs, SqL K H1 a xs) ∧ R (Itl K a) H1) ∨ (∃ a, v = .ref a ∧ (∃ xs, SqT K H1 a xs) ∧ R (Itt K a) H1) ∨ ∃ x, v = .str x ∧ R (Its x) H1
theorem pi_X {tg e : Expr} {te : TE} (he : PE X e te) : PI X tg e (iX X.K te) := by
  refine ⟨fun pins s σ H R I h => thn (he.run pins s σ H _ I h) fun v s1 ⟨y, H1, I1, r1, q1⟩ => ?_⟩
  rcases q1 with ⟨a, rfl, ⟨xs, hq⟩, q⟩ | ⟨a, rfl, ⟨xs, hq⟩, q⟩ | ⟨x, rfl, q⟩
  · obtain rfl : v = Value.ref a := r1
    obtain ⟨its, rv, p, hz⟩ := I1.list hq
    exact wpAny_pyIter_list p.isList (pi_one (tk := s1.toks) I1 _ (turn_list a _) ⟨_, Heap.get?_push_size _ rfl, rfl, rfl⟩ q)
  · obtain rfl : v = Value.ref a := r1
    obtain ⟨its, rv, p, hz⟩ := I1.tuple hq
    exact wpAny_pyIter_tuple (show s1.heap.IsTuple a its.toArray from p) (pi_one (tk := s1.toks) I1 _ (turn_tuple a _) ⟨_, Heap.get?_push_size _ rfl, rfl, rfl⟩ q)
  · obtain ⟨t, rfl⟩ := r1
    cases ha : x.cps.all (· < 128)
    · exact wpAny_pyIter_wide ha (pi_one (tk := s1.toks) I1 _ (turn_str _ x t "str_iterator" (.inr rfl)) ⟨_, Heap.get?_push_size _ rfl, rfl, rfl⟩ q)
    · exact wpAny_pyIter_ascii ha (pi_one (tk := s1.toks) I1 _ (turn_str _ x t "str_ascii_iterator" (.inl rfl)) ⟨_, Heap.get?_push_size _ rfl, rfl, rfl⟩ q)
/-! the same, K told -/
variable {K : PySem.W.Frag}
theorem kAdd (e : X.K = K := by rfl) : OpR X (binaryOp .Add) (rAddX K) := e ▸ op_addX
theorem kMul (e : X.K = K := by rfl) : OpR X (binaryOp .Mult) (rMulX K) := e ▸ op_mulX
theorem kEq (hr : Room k X.A) (e : X.K = K := by rfl) : OpR X (compareOp .Eq) (rEqX K) := e ▸ op_eqX hr
theorem kNe (hr : Room k X.A) (e : X.K = K := by rfl) : OpR X (compareOp .NotEq) (rNeX K) := e ▸ op_neX hr
theorem kIn (hr : Room k X.A) (e : X.K = K := by rfl) : OpR X (compareOp .In) (rInX K) := e ▸ op_inX hr
theorem kNotIn (hr : Room k X.A) (e : X.K = K := by rfl) : OpR X (compareOp .NotIn) (rNotInX K) := e ▸ op_notInX hr
theorem kLe (hr : Room k X.A) (e : X.K = K := by rfl) : OpR X (compareOp .LtE) (rLeX K) := e ▸ op_leX hr
theorem kSl (e : X.K = K := by rfl) : SlR X (rSlX K) := e ▸ sl_X
theorem kIx (e : X.K = K := by rfl) : IxR X (rIx K) := e ▸ ix_seq
theorem kLen (e : X.K = K := by rfl) : CallR X (.builtin "len") (Rd.rLen K) := e ▸ Rd.cr_len
theorem kList (e : X.K = K := by rfl) : CallR X (.type "list") (Rd.rListOf K) := e ▸ Rd.cr_list
theorem kTuple (e : X.K = K := by rfl) : CallR X (.type "tuple") (Rd.rTupOf K) := e ▸ Rd.cr_tuple
theorem kIsi (e : X.K = K := by rfl) : CallR X (.builtin "isinstance") (rIsi K) := e ▸ call_isi
theorem kIsiT (e : X.K = K := by rfl) : CallR X (.builtin "isinstance") (rIsiT K) := e ▸ call_isiT
theorem kAll (hc : X.calm = true) (e : X.K = K := by rfl) : CallR X (.builtin "all") (rAll K) := e ▸ cr_all hc
theorem kAny (hc : X.calm = true) (e : X.K = K := by rfl) : CallR X (.builtin "any") (rAny K) := e ▸ cr_any hc
theorem kSum (hc : X.calm = true) (e : X.K = K := by rfl) : CallR X (.builtin "sum") (rSum K) := e ▸ cr_sum hc
theorem kRepr (hr : Room k X.A) (hG : X.A.guards = some []) (e : X.K = K := by rfl) : CallR X (.builtin "repr") (rReprD K) := e ▸ cr_repr hr hG
theorem kTup {es : List Expr} {kk : Nat} {pos : Pos} {t : TGs} {n : Nat} (hc : X.calm = true) (h : PGs X es t)
    (hn : (assignEach es X.env).length = n := by rfl) (hst : (assignEach es X.env).findIdx? (·.1) = none := by rfl) (e : X.K = K := by rfl) : PG X (.Tuple es kk pos) (gTup K n t) := e ▸ pg_tup hc h hn hst
theorem kpi {tg e : Expr} {te : TE} (he : PE X e te) (e' : X.K = K := by rfl) : PI X tg e (iX K te) := e' ▸ pi_X he
end
section
variable {S : Type}
@[simp] def wiX (w : WE S) : WI S := fun env s k x => w env s (fun d s1 => match d with
  | .lst ds => k ds s1
  | .tup ds => k ds s1
  | .str z => k (signs z) s1
  | _ => False) x
@[simp] def wAddX : D → D → S → (D → S → Prop) → Prop := fun d e s k => match d, e with
  | .int i, .int j => k (.int (i + j)) s
  | .tup a, .tup b => a.length + b.length ≤ sizeLine ∧ k (.tup (a ++ b)) s
  | .lst a, .lst b => a.length + b.length ≤ sizeLine ∧ k (.lst (a ++ b)) s
  | .str a, .str b => a.length + b.length ≤ sizeLine ∧ k (.str (a ++ b)) s
  | _, _ => False
@[simp] def wMulX : D → D → S → (D → S → Prop) → Prop := fun d e s k => match d, e with
  | .int i, .int j => (CMul i j ∨ CMulW i j) ∧ k (.int (i * j)) s
  | .tup a, .int n => a ≠ [] ∧ 2 ≤ n ∧ n ≤ 1000 ∧ a.length ≤ 1000 ∧ a.length * n.toNat ≤ sizeLine ∧ k (.tup (List.replicate n.toNat a).flatten) s
  | .str z, .int n => 2 ≤ n ∧ n ≤ 1000 ∧ (n == 1 || z.length == 0) = false ∧ z.length ≤ 1000 ∧ Builtin.Str.tooLong (z.length * n.toNat) = false ∧ (Dt.mulT z n).length ≤ sizeLine ∧ k (.str (Dt.mulT z n)) s
  | .lst a, .int n => -(2 ^ 63) ≤ n ∧ n < 2 ^ 63 ∧ a.length * n.toNat ≤ sizeLine ∧ k (.lst (List.replicate n.toNat a).flatten) s
  | _, _ => False
@[simp] def wDivX : D → D → S → (D → S → Prop) → Prop := fun d e s k => match d, e with
  | .int i, .int j => (CDiv i j ∨ CDivW i j) ∧ k (.int (i / j)) s
  | _, _ => False
@[simp] def wEqX : D → D → S → (D → S → Prop) → Prop := fun d e s k => match d.eqs e with
  | some b => k (.bl b) s
  | none => ∃ a b, d.py = some a ∧ e.py = some b ∧ SeqAt.shaped a = true ∧ SeqAt.shaped b = true ∧ k (.bl (PyData.eqv a b)) s
@[simp] def wNeX : D → D → S → (D → S → Prop) → Prop := fun d e s k => match d.eqs e with
  | some b => k (.bl (!b)) s
  | none => ∃ a b, d.py = some a ∧ e.py = some b ∧ SeqAt.shaped a = true ∧ SeqAt.shaped b = true ∧ k (.bl (!PyData.eqv a b)) s
def flatIn (d : D) (ds : List D) : Bool := d.sv.isSome && ds.all fun z => z.sv.isSome
@[simp] def wInX : D → D → S → (D → S → Prop) → Prop := fun d e s k => match e with
  | .str z => (match d with
    | .str x => ∃ c, x = ⟨#[c]⟩ ∧ k (.bl (decide (c ∈ z.cps.toList))) s
    | _ => False)
  | .lst ds => if flatIn d ds = true then k (.bl (inD d ds)) s else ∃ a bs, d.py = some a ∧ (D.lst ds).py = some (.list bs) ∧ SeqAt.shaped a = true ∧ SeqAt.shaped (.list bs) = true ∧ k (.bl (bs.any fun z => PyData.eqv z a)) s
  | .tup ds => flatIn d ds = true ∧ k (.bl (inD d ds)) s
  | _ => False
@[simp] def wNotInX : D → D → S → (D → S → Prop) → Prop := fun d e s k => match e with
  | .str z => (match d with
    | .str x => ∃ c, x = ⟨#[c]⟩ ∧ k (.bl (!decide (c ∈ z.cps.toList))) s
    | _ => False)
  | .lst ds => if flatIn d ds = true then k (.bl (!inD d ds)) s else ∃ a bs, d.py = some a ∧ (D.lst ds).py = some (.list bs) ∧ SeqAt.shaped a = true ∧ SeqAt.shaped (.list bs) = true ∧ k (.bl (!bs.any fun z => PyData.eqv z a)) s
  | .tup ds => flatIn d ds = true ∧ k (.bl (!inD d ds)) s
  | _ => False
@[simp] def wCmpX (p : Int → Int → Bool) (q : Str → Str → Bool) : D → D → S → (D → S → Prop) → Prop := fun d e s k => match d, e with
  | .int i, .int j => k (.bl (p i j)) s
  | .str i, .str j => k (.bl (q i j)) s
  | _, _ => False
@[simp] def wLeX : D → D → S → (D → S → Prop) → Prop := fun d e s k => match d, e with
  | .int i, .int j => k (.bl (decide (i ≤ j))) s
  | .str i, .str j => k (.bl (!decide (j.cps.toList < i.cps.toList))) s
  | .tup a, .tup b => ∃ ns ms, D.ints a = some ns ∧ D.ints b = some ms ∧ k (.bl (leP ns ms)) s
  | _, _ => False
@[simp] def wSlX : D → Option Int → Option Int → S → (D → S → Prop) → Prop := fun d l h s k => match d with
  | .tup ds => k (.tup (cutD ds l h)) s
  | .lst ds => k (.lst (cutD ds l h)) s
  | .str z => k (.str (cutS z l h)) s
  | _ => False
end
section
variable {S : Type} {W : Wd S} {G : Gm S} {K : PySem.W.Frag}
theorem so_addX : SimO W (rAddX K) wAddX := fun R s H at_ x y d e a b k hw Q hQ => by
  cases d with
  | int i => cases e with
    | int j => exact .inl ⟨i, j, a.intI, b.intI, hQ _ _ H hw .refl at_.j (.int _)⟩
    | _ => exact hw.elim
  | tup i => cases e with
    | tup j => exact .inr (.inl (so_catT (K := K) R s H at_ x y (.tup i) (.tup j) a b k hw Q hQ))
    | _ => exact hw.elim
  | lst i => cases e with
    | lst j => exact .inr (.inr (.inl (so_catL R s H at_ x y (.lst i) (.lst j) a b k hw Q hQ)))
    | _ => exact hw.elim
  | str i => cases e with
    | str j => exact .inr (.inr (.inr (so_addS R s H at_ x y (.str i) (.str j) a b k hw Q hQ)))
    | _ => exact hw.elim
  | _ => exact hw.elim
theorem so_mulX : SimO W (rMulX K) wMulX := fun R s H at_ x y d e a b k hw Q hQ => by
  cases d with
  | int i => cases e with
    | int j =>
      rcases hw.1 with c | c
      · exact .inl ⟨i, j, a.intI, b.intI, c, hQ _ _ H hw.2 .refl at_.j (.int _)⟩
      · exact .inr (.inl ⟨i, j, a.intI, b.intI, c, hQ _ _ H hw.2 .refl at_.j (.int _)⟩)
    | _ => exact hw.elim
  | tup i => cases e with
    | int j => exact .inr (.inr (.inl (so_repT (K := K) R s H at_ x y (.tup i) (.int j) a b k hw Q hQ)))
    | _ => exact hw.elim
  | lst i => cases e with
    | int j =>
      obtain ⟨h1, h2, h3, h4⟩ := hw
      obtain ⟨p, xs, rfl, e1, l1, lz⟩ := a.lstI
      refine .inr (.inr (.inr (.inl ⟨p, j, xs, rfl, b.intI, e1, h1, h2, by rw [l1.len]; exact h3, fun r hr => ?_⟩)))
      exact hQ _ _ _ h4 (.new_at hr at_) (at_.new_at hr).j (.lst upd_same (at_.fresh hr) ((l1.rep _).mv (Fr.new_at hr at_).mv) (by rw [rep_len, Nat.mul_comm]; exact h3))
    | _ => exact hw.elim
  | str i => cases e with
    | int j => exact .inr (.inr (.inr (.inr (so_mulS R s H at_ x y (.str i) (.int j) a b k hw Q hQ))))
    | _ => exact hw.elim
  | _ => exact hw.elim
theorem so_divX : SimO W rDivX wDivX := fun R s H at_ x y d e a b k hw Q hQ => by
  cases d with
  | int i => cases e with
    | int j =>
      rcases hw.1 with c | c
      · exact .inl ⟨i, j, a.intI, b.intI, c, hQ _ _ H hw.2 .refl at_.j (.int _)⟩
      · exact .inr ⟨i, j, a.intI, b.intI, c, hQ _ _ H hw.2 .refl at_.j (.int _)⟩
    | _ => exact hw.elim
  | _ => exact hw.elim
theorem so_eqX : SimO W (rEqX K) wEqX := fun R s H at_ x y d e a b k hw Q hQ => by
  unfold wEqX at hw
  cases h : d.eqs e with
  | none =>
    rw [h] at hw
    exact .inr (so_eqD (K := K) R s H at_ x y d e a b k hw Q hQ)
  | some c =>
    rw [h] at hw
    exact .inl (so_eq R s H at_ x y d e a b k (by unfold wEq; rw [h]; exact hw) Q hQ)
theorem so_neX : SimO W (rNeX K) wNeX := fun R s H at_ x y d e a b k hw Q hQ => by
  unfold wNeX at hw
  cases h : d.eqs e with
  | none =>
    rw [h] at hw
    exact .inr (so_neD (K := K) R s H at_ x y d e a b k hw Q hQ)
  | some c =>
    rw [h] at hw
    exact .inl (so_ne R s H at_ x y d e a b k (by unfold wNe; rw [h]; exact hw) Q hQ)
theorem so_inX : SimO W (rInX K) wInX := fun R s H at_ x y d e a b k hw Q hQ => by
  cases e with
  | str z => cases d with
    | str i => exact .inr (.inl (so_inS R s H at_ x y (.str i) (.str z) a b k hw Q hQ))
    | _ => exact hw.elim
  | lst ds =>
    simp only [wInX] at hw
    split at hw
    · rename_i c
      rw [flatIn, Bool.and_eq_true] at c
      exact .inl (so_in (K := K) (neg := false) R s H at_ x y d (.lst ds) a b k ⟨c.1, c.2, by simpa using hw⟩ Q hQ)
    · exact .inr (.inr (so_inD (K := K) R s H at_ x y d (.lst ds) a b k hw Q hQ))
  | tup ds =>
    obtain ⟨c, hw⟩ := hw
    rw [flatIn, Bool.and_eq_true] at c
    exact .inl (so_in (K := K) (neg := false) R s H at_ x y d (.tup ds) a b k ⟨c.1, c.2, by simpa using hw⟩ Q hQ)
  | _ => exact hw.elim
theorem so_notInX : SimO W (rNotInX K) wNotInX := fun R s H at_ x y d e a b k hw Q hQ => by
  cases e with
  | str z => cases d with
    | str i => exact .inr (.inl (so_notInS R s H at_ x y (.str i) (.str z) a b k hw Q hQ))
    | _ => exact hw.elim
  | lst ds =>
    simp only [wNotInX] at hw
    split at hw
    · rename_i c
      rw [flatIn, Bool.and_eq_true] at c
      exact .inl (so_in (K := K) (neg := true) R s H at_ x y d (.lst ds) a b k ⟨c.1, c.2, by simpa using hw⟩ Q hQ)
    · exact .inr (.inr (so_notInD (K := K) R s H at_ x y d (.lst ds) a b k hw Q hQ))
  | tup ds =>
    obtain ⟨c, hw⟩ := hw
    rw [flatIn, Bool.and_eq_true] at c
    exact .inl (so_in (K := K) (neg := true) R s H at_ x y d (.tup ds) a b k ⟨c.1, c.2, by simpa using hw⟩ Q hQ)
  | _ => exact hw.elim
theorem so_ltX : SimO W rLtX (wCmpX (fun i j => decide (i < j)) fun i j => decide (i.cps.toList < j.cps.toList)) := fun R s H at_ x y d e a b k hw Q hQ => by
  cases d with
  | int i => cases e with
    | int j => exact .inl ⟨i, j, a.intI, b.intI, hQ _ _ H hw .refl at_.j (.bl _)⟩
    | _ => exact hw.elim
  | str i => cases e with
    | str j => exact .inr ⟨i, j, a.strI.1, b.strI.1, hQ _ _ H hw .refl at_.j (.bl _)⟩
    | _ => exact hw.elim
  | _ => exact hw.elim
theorem so_gtX : SimO W rGtX (wCmpX (fun i j => decide (j < i)) fun i j => decide (j.cps.toList < i.cps.toList)) := fun R s H at_ x y d e a b k hw Q hQ => by
  cases d with
  | int i => cases e with
    | int j => exact .inl ⟨i, j, a.intI, b.intI, hQ _ _ H hw .refl at_.j (.bl _)⟩
    | _ => exact hw.elim
  | str i => cases e with
    | str j => exact .inr ⟨i, j, a.strI.1, b.strI.1, hQ _ _ H hw .refl at_.j (.bl _)⟩
    | _ => exact hw.elim
  | _ => exact hw.elim
theorem so_geX : SimO W rGeX (wCmpX (fun i j => decide (j ≤ i)) fun i j => !decide (i.cps.toList < j.cps.toList)) := fun R s H at_ x y d e a b k hw Q hQ => by
  cases d with
  | int i => cases e with
    | int j => exact .inl ⟨i, j, a.intI, b.intI, hQ _ _ H hw .refl at_.j (.bl _)⟩
    | _ => exact hw.elim
  | str i => cases e with
    | str j => exact .inr ⟨i, j, a.strI.1, b.strI.1, hQ _ _ H hw .refl at_.j (.bl _)⟩
    | _ => exact hw.elim
  | _ => exact hw.elim
theorem so_leX : SimO W (rLeX K) wLeX := fun R s H at_ x y d e a b k hw Q hQ => by
  cases d with
  | int i => cases e with
    | int j => exact .inl ⟨i, j, a.intI, b.intI, hQ _ _ H hw .refl at_.j (.bl _)⟩
    | _ => exact hw.elim
  | str i => cases e with
    | str j => exact .inr (.inl ⟨i, j, a.strI.1, b.strI.1, hQ _ _ H hw .refl at_.j (.bl _)⟩)
    | _ => exact hw.elim
  | tup i => cases e with
    | tup j => exact .inr (.inr (so_leT (K := K) R s H at_ x y (.tup i) (.tup j) a b k hw Q hQ))
    | _ => exact hw.elim
  | _ => exact hw.elim
theorem sl_x : SimL W (rSlX K) wSlX := fun R s H at_ x d a l h k hw Q hQ => by
  cases d with
  | tup ds => exact .inl (sl_t (K := K) R s H at_ x (.tup ds) a l h k hw Q hQ)
  | lst ds => exact .inr (.inl (sl_l (K := K) R s H at_ x (.lst ds) a l h k hw Q hQ))
  | str z => exact .inr (.inr (sl_s R s H at_ x (.str z) a l h k hw Q hQ))
  | _ => exact hw.elim
theorem si_x {t : TE} {w : WE S} (h : SimE W G t w) : SimI W G (iX K t) (wiX w) := fun R env σ H s rl k x hw ox Q hQ => h R env σ H s rl _ x hw ox _ fun d s1 v H1 hw1 f1 j1 a1 => by
  cases d with
  | lst ds =>
    cases a1 with
    | lst e n l z => exact .inl ⟨_, rfl, ⟨_, .of e⟩, hQ ds s1 _ H1 _ hw1 f1 j1 itr_lst (.lst e n l z)⟩
  | tup ds =>
    cases a1 with
    | tup e n l z => exact .inr (.inl ⟨_, rfl, ⟨_, .of e⟩, hQ ds s1 _ H1 _ hw1 f1 j1 itr_tup (.tup e n l z)⟩)
  | str z =>
    cases a1
    exact .inr (.inr ⟨z, rfl, hQ (signs z) s1 _ H1 _ hw1 f1 j1 itr_str True.intro⟩)
  | _ => exact hw1.elim
end
end Dw
set_option Elab.async false
set_option linter.all false
set_option maxRecDepth 100000
set_option maxHeartbeats 4000000
/-! Dz: plain facts about the words over data. -/
namespace Dw
open PySem L2
section
variable {S : Type} {g : WG} {tt : WT S} {te : WE S} {vs : List Nat} {env : List Sl} {s : S} {x : Xc → S → Prop}
/-- a comprehension that changes nothing -/
theorem wLc_pure (p : D → Bool) (f : D → D) : ∀ {ds : List D} {k : List D → S → Prop}, (∀ d ∈ ds, ∀ (kt : D → S → Prop) (kf : S → Prop), (p d = true → kt (f d) s) → (p d = false → kf s) →
      g d (wp env vs) fun e1 => tt e1 s (fun b s1 => if b = true then te e1 s1 kt x else kf s1) x) → k ((ds.filter p).map f) s → wLc g tt te vs ds env s k x
  | [], k, _, hk => hk
  | d :: r, k, h, hk => by
    unfold wLc
    refine h d (by simp) (fun y s2 => wLc g tt te vs r env s2 (fun ys s3 => k (y :: ys) s3) x) (fun s1 => wLc g tt te vs r env s1 k x) (fun hp => ?_) fun hp => ?_
    · refine wLc_pure p f (fun e he => h e (by simp [he])) ?_
      rw [List.filter_cons_of_pos hp, List.map_cons] at hk
      exact hk
    · refine wLc_pure p f (fun e he => h e (by simp [he])) ?_
      rw [List.filter_cons_of_neg (by rw [hp]; exact Bool.false_ne_true)] at hk
      exact hk
theorem wLc_map (f : D → D) {ds : List D} {k : List D → S → Prop} (h : ∀ d ∈ ds, ∀ (kt : D → S → Prop), kt (f d) s → g d (wp env vs) fun e1 => te e1 s kt x) (hk : k (ds.map f) s) :
    wLc g (fun _ s k _ => k true s) te vs ds env s k x := by
  refine wLc_pure (fun _ => true) f (fun d hd kt kf h1 _ => ?_) (by rw [List.filter_eq_self.mpr (by simp)]; exact hk)
  simpa using h d hd kt (h1 rfl)
end
@[simp] theorem bls_map {α : Type} (f : α → Bool) : ∀ ds : List α, D.bls (ds.map fun d => D.bl (f d)) = some (ds.map f)
  | [] => rfl
  | d :: r => by
    show (D.bls (r.map fun d => D.bl (f d))).map (f d :: ·) = _
    rw [bls_map f r]
    rfl
@[simp] theorem bls_map' {α : Type} (f : α → Bool) (ds : List α) : D.bls (ds.map (D.bl ∘ f)) = some (ds.map f) := bls_map f ds
@[simp] theorem ints_map {α : Type} (f : α → Int) : ∀ ds : List α, D.ints (ds.map fun d => D.int (f d)) = some (ds.map f)
  | [] => rfl
  | d :: r => by
    show (D.ints (r.map fun d => D.int (f d))).map (f d :: ·) = _
    rw [ints_map f r]
    rfl
@[simp] theorem strs_map {α : Type} (f : α → Str) : ∀ ds : List α, D.strs (ds.map fun d => D.str (f d)) = some (ds.map f)
  | [] => rfl
  | d :: r => by
    show (D.strs (r.map fun d => D.str (f d))).map (f d :: ·) = _
    rw [strs_map f r]
    rfl
@[simp] theorem keys_map {α : Type} (f : α → Str) : ∀ ds : List α, D.keys (ds.map fun d => D.str (f d)) = some (ds.map fun d => .inr (f d))
  | [] => rfl
  | d :: r => by
    show (D.keys (r.map fun d => D.str (f d))).map ((.inr (f d) : Key) :: ·) = _
    rw [keys_map f r]
    rfl
/-! nothing but plain data within -/
mutual
def D.pl : D → Bool
  | .obj _ _ => false
  | .opq _ => false
  | .ty _ => false
  | .lst ds => D.pls ds
  | .tup ds => D.pls ds
  | .dic _ => false
  | .dit _ => false
  | _ => true
def D.pls : List D → Bool
  | [] => true
  | d :: r => d.pl && D.pls r
end
theorem D.pls_all : ∀ ds : List D, D.pls ds = ds.all D.pl
  | [] => by unfold D.pls; rfl
  | d :: r => by unfold D.pls; rw [D.pls_all r, List.all_cons]
@[simp] theorem pl_non : D.pl .non = true := by unfold D.pl; rfl
@[simp] theorem pl_bl (b : Bool) : D.pl (.bl b) = true := by unfold D.pl; rfl
@[simp] theorem pl_int (b : Int) : D.pl (.int b) = true := by unfold D.pl; rfl
@[simp] theorem pl_str (b : Str) : D.pl (.str b) = true := by unfold D.pl; rfl
@[simp] theorem pl_lst (ds : List D) : D.pl (.lst ds) = ds.all D.pl := by unfold D.pl; exact D.pls_all ds
@[simp] theorem pl_tup (ds : List D) : D.pl (.tup ds) = ds.all D.pl := by unfold D.pl; exact D.pls_all ds
@[simp] theorem pl_obj (C : Addr) (fs : List (Str × D)) : D.pl (.obj C fs) = false := by unfold D.pl; rfl
@[simp] theorem pl_opq (C : Addr) : D.pl (.opq C) = false := by unfold D.pl; rfl
@[simp] theorem pl_ty (n : String) : D.pl (.ty n) = false := by unfold D.pl; rfl
@[simp] theorem pl_dic (k) : D.pl (.dic k) = false := by unfold D.pl; rfl
@[simp] theorem pl_dit (k) : D.pl (.dit k) = false := by unfold D.pl; rfl
@[simp] theorem atI_0 {α : Type} (d : α) (ds : List α) : atI (d :: ds) 0 = some d := by
  unfold atI ixN
  rw [if_pos (by omega), if_pos (by simp <;> omega)]
  rfl
@[simp] theorem atI_1 {α : Type} (c d : α) (ds : List α) : atI (c :: d :: ds) 1 = some d := by
  unfold atI ixN
  rw [if_pos (by omega), if_pos (by simp <;> omega)]
  rfl
@[simp] theorem atI_2 {α : Type} (b c d : α) (ds : List α) : atI (b :: c :: d :: ds) 2 = some d := by
  unfold atI ixN
  rw [if_pos (by omega), if_pos (by simp <;> omega)]
  rfl
theorem wLc_signs {S : Type} {g : WG} {te : WE S} {vs : List Nat} {env : List Sl} {s : S} {x : Xc → S → Prop} {z : Str} {k : List D → S → Prop} (p : Nat → Bool)
    (h : ∀ c ∈ z.cps.toList, ∀ kt : D → S → Prop, kt (.bl (p c)) s → g (.str ⟨#[c]⟩) (wp env vs) fun e1 => te e1 s kt x) (hk : k (z.cps.toList.map fun c => .bl (p c)) s) : wLc g (fun _ s k _ => k true s) te vs (signs z) env s k x := by
  refine wLc_map (fun d => match d with
    | .str y => .bl (y.cps.toList.all p)
    | _ => .bl false) (fun d hd kt hk => ?_) ?_
  · unfold signs at hd
    obtain ⟨c, hc, rfl⟩ := List.mem_map.mp hd
    exact h c hc kt (by simpa using hk)
  · unfold signs
    rw [List.map_map]
    simpa [Function.comp_def] using hk
theorem ok_str {z : Str} (h : (D.str z).ok) : z.length ≤ sizeLine := by
  unfold D.ok at h
  exact h
theorem ok_tup {ds : List D} (h : (D.tup ds).ok) : ds.length ≤ sizeLine ∧ D.oks ds := by
  unfold D.ok at h
  exact h
theorem ok_lst {ds : List D} (h : (D.lst ds).ok) : ds.length ≤ sizeLine ∧ D.oks ds := by
  unfold D.ok at h
  exact h
theorem ok_one {d : D} (h : ∀ e ∈ [d], e.ok) : d.ok := h d (by simp)
theorem nodup_inr : ∀ {xs : List Str}, (xs.map fun x => (Sum.inr x : Key)).Nodup ↔ xs.Nodup
  | [] => by simp
  | x :: r => by
    rw [List.map_cons, List.nodup_cons, List.nodup_cons, nodup_inr]
    simp
/-- no text twice, as the set tells -/
theorem met_strs (xs : List Str) : decide (((Sk.met (xs.map fun x => (Sum.inr x : Key)) xs.length).length : Int) = (xs.length : Int)) = decide xs.Nodup := by
  have h := Sk.met_nodup (xs.map fun x => (Sum.inr x : Key)) []
  have e : Sk.met (xs.map fun x => (Sum.inr x : Key)) xs.length = (xs.map fun x => (Sum.inr x : Key)).foldl Sk.met1 [] := by
    unfold Sk.met
    rw [List.take_of_length_le (by simp)]
  rw [e]
  refine decide_eq_decide.mpr ?_
  rw [← nodup_inr]
  simp only [List.length_nil, Nat.zero_add, List.length_map, List.not_mem_nil, not_false_eq_true, implies_true, and_true] at h
  rw [← h]
  omega
theorem signs_len (z : Str) : (signs z).length = z.length := by
  unfold signs
  rw [List.length_map]
  rfl
theorem atI_nat' {α : Type} {xs : List α} {i : Int} (h0 : 0 ≤ i) (h : i < xs.length) : atI xs i = some (xs[i.toNat]'(by omega)) := by
  unfold atI ixN
  rw [if_pos h0, if_pos h]
  show xs[i.toNat]? = _
  rw [List.getElem?_eq_getElem]
theorem so_i0s {S : Type} {W : Wd S} {g : Int → Int → V} (hs : ∀ i j, Sc (g i j)) : SimO W (rI0 g) (wI0 g) := so_i0 hs
theorem so_iCs {S : Type} {W : Wd S} {C : Int → Int → Prop} {g : Int → Int → V} (hs : ∀ i j, Sc (g i j)) : SimO W (rI C g) (wIC C g) := so_iC hs
theorem su_is {S : Type} {W : Wd S} {g : Int → V} (hs : ∀ i, Sc (g i)) : SimU W (rU g) (wU g) := su_i hs
/-! list(range(..)), tuple(range(..)) -/
section
variable {S : Type} {W : Wd S} {G : Gm S} {K : PySem.W.Frag}
abbrev WR (S : Type) := List Sl → S → (Int → Int → S → Prop) → (Xc → S → Prop) → Prop
def SimR (W : Wd S) (G : Gm S) (t : L2.St → Hp → (Int → Int → Hp → Prop) → Prop) (w : WR S) : Prop := ∀ R env σ H s, Rel W G R env σ H s → ∀ k x, w env s k x → XOk W G x → ∀ Q : Int → Int → Hp → Prop,
  (∀ a b s' H', k a b s' → Fr W s H s' H' → W.J s' H' → Q a b H') → t σ H Q
@[simp] def wRg1 (wa : WE S) : WR S := fun env s k x => wa env s (fun d s1 => match d with
  | .int n => k 0 n s1
  | _ => False) x
@[simp] def wRg2 (wa wb : WE S) : WR S := fun env s k x => wa env s (fun d s1 => wb env s1 (fun e s2 => match d, e with
  | .int i, .int j => k i j s2
  | _, _ => False) x) x
@[simp] def wLstRg (w : WR S) : WE S := fun env s k x => w env s (fun a b s1 => RgOk a b ∧ k (.lst (rngD a (b - a).toNat)) s1) x
@[simp] def wLstRgF (w : WR S) : WI S := fun env s k x => w env s (fun a b s1 => RgOk a b ∧ k (rngD a (b - a).toNat) s1) x
@[simp] def wTupRg (w : WR S) : WE S := fun env s k x => w env s (fun a b s1 => RgOk a b ∧ k (.tup (rngD a (b - a).toNat)) s1) x
theorem sim_rg1 {ta : TE} {wa : WE S} (h : SimG W G ta wa) : SimR W G (tRg1 ta) (wRg1 wa) := fun R env σ H s rl k x hw ox Q hQ => h R env σ H s rl _ x hw ox _ fun d s1 v H1 hw1 f1 j1 a1 => by
  cases d with
  | int n => exact ⟨n, a1.intI, hQ _ _ s1 H1 hw1 f1 j1⟩
  | _ => exact hw1.elim
theorem sim_rg2 {ta tb : TE} {wa wb : WE S} (h : SimG W G ta wa) (h' : SimG W G tb wb) : SimR W G (tRg2 ta tb) (wRg2 wa wb) := fun R env σ H s rl k x hw ox Q hQ => h R env σ H s rl _ x hw ox _ fun d s1 v H1 hw1 f1 j1 a1 =>
  h' R env σ H1 s1 (rl.step f1 j1) _ x hw1 ox _ fun e s2 u H2 hw2 f2 j2 a2 => by
    cases d with
    | int n => cases e with
      | int m => exact ⟨n, m, a1.intI, a2.intI, hQ _ _ s2 H2 hw2 (f1.trans f2) j2⟩
      | _ => exact hw2.elim
    | _ => exact hw2.elim
theorem rg_da {B : Addr → Prop} {H : Hp} (a b : Int) : DaL B H (rgV a b) (rngD a (b - a).toNat) := by
  unfold rgV rngD
  generalize (List.range (b - a).toNat) = l
  induction l with
  | nil => exact .nil
  | cons i r ih => exact .cons (.int _) ih
theorem rg_len {a b : Int} (h : RgOk a b) : (rngD a (b - a).toNat).length ≤ sizeLine := by
  unfold rngD
  rw [List.length_map, List.length_range, sizeLine_eq]
  exact h.2.2.2.2
theorem sim_lstRg {t : L2.St → Hp → (Int → Int → Hp → Prop) → Prop} {w : WR S} (h : SimR W G t w) : SimE W G (tLstRg t) (wLstRg w) := fun R env σ H s rl k x hw ox Q hQ => h R env σ H s rl _ x hw ox _ fun a b s1 H1 hw1 f1 j1 => ⟨hw1.1, fun p hp => by
  have at1 := (rl.step f1 j1).at_
  exact hQ _ s1 _ _ hw1.2 (f1.trans (.new_at hp at1)) (at1.new_at hp).j (.lst upd_same (at1.fresh hp) (rg_da a b) (rg_len hw1.1))⟩
theorem sim_lstRgF {t : L2.St → Hp → (Int → Int → Hp → Prop) → Prop} {w : WR S} (h : SimR W G t w) : SimF W G (tLstRg t) (wLstRgF w) := fun R env σ H s rl k x hw ox Q hQ => h R env σ H s rl _ x hw ox _ fun a b s1 H1 hw1 f1 j1 => ⟨hw1.1, fun p hp => by
  have at1 := (rl.step f1 j1).at_
  exact hQ _ s1 p _ _ hw1.2 (f1.trans (.new_at hp at1)) (at1.new_at hp).j (f1.none rl.at_.j hp j1) upd_same (at1.fresh hp) (rg_da a b) (rg_len hw1.1)⟩
theorem sim_tupRg {t : L2.St → Hp → (Int → Int → Hp → Prop) → Prop} {w : WR S} (h : SimR W G t w) : SimE W G (tTupRg t) (wTupRg w) := fun R env σ H s rl k x hw ox Q hQ => h R env σ H s rl _ x hw ox _ fun a b s1 H1 hw1 f1 j1 => ⟨hw1.1, fun p hp => by
  have at1 := (rl.step f1 j1).at_
  exact hQ _ s1 _ _ hw1.2 (f1.trans (.new_at hp at1)) (at1.new_at hp).j (.tup upd_same (at1.fresh hp) (rg_da a b) (rg_len hw1.1))⟩
/-! new lists of the def's own by list(..), by + -/
@[simp] def wListF (wa : WA S) : WI S := fun env s k x => wa env s (fun ds s1 => match ds with
  | [.lst xs] => k xs s1
  | [.tup xs] => k xs s1
  | _ => False) x
theorem sim_listF {ta : TA} {wa : WA S} (h : SimB W G ta wa) : SimF W G (tCB (Rd.rListOf K) ta) (wListF wa) := fun R env σ H s rl k x hw ox Q hQ => h R env σ H s rl _ x hw ox _ fun ds s1 vs H1 hw1 f1 j1 a1 => by
  have at1 := (rl.step f1 j1).at_
  match ds, a1, hw1 with
  | [.lst es], a1, hw1 =>
    obtain ⟨v, rfl, a2⟩ := a1.one
    obtain ⟨q, ys, rfl, e, l, lz⟩ := a2.lstI
    exact ⟨q, ys, rfl, .inl (.of e), fun p hp => hQ _ s1 p _ _ hw1 (f1.trans (.new_at hp at1)) (at1.new_at hp).j (f1.none rl.at_.j hp j1) upd_same (at1.fresh hp) (l.mv (at1.off hp)) lz⟩
  | [.tup es], a1, hw1 =>
    obtain ⟨v, rfl, a2⟩ := a1.one
    obtain ⟨q, ys, rfl, e, l, _, lz⟩ := a2.tupI
    exact ⟨q, ys, rfl, .inr (.of e), fun p hp => hQ _ s1 p _ _ hw1 (f1.trans (.new_at hp at1)) (at1.new_at hp).j (f1.none rl.at_.j hp j1) upd_same (at1.fresh hp) (l.mv (at1.off hp)) lz⟩
@[simp] def wAddF (wa wb : WE S) : WI S := fun env s k x => wa env s (fun d s1 => wb env s1 (fun e s2 => match d, e with
  | .lst a, .lst b => a.length + b.length ≤ sizeLine ∧ k (a ++ b) s2
  | _, _ => False) x) x
theorem sim_addF {ta tb : TE} {wa wb : WE S} (h : SimG W G ta wa) (h' : SimG W G tb wb) : SimF W G (tOp (rAddX K) ta tb) (wAddF wa wb) := fun R env σ H s rl k x hw ox Q hQ => h R env σ H s rl _ x hw ox _ fun d s1 v H1 hw1 f1 j1 a1 =>
  h' R env σ H1 s1 (rl.step f1 j1) _ x hw1 ox _ fun e s2 u H2 hw2 f2 j2 a2 => by
    have at2 := ((rl.step f1 j1).step f2 j2).at_
    cases d with
    | lst ds => cases e with
      | lst es =>
        obtain ⟨p, xs, rfl, e1, l1, lz1⟩ := (a1.fr f2).lstI
        obtain ⟨q, ys, rfl, e2, l2, lz2⟩ := a2.lstI
        refine .inr (.inr (.inl ⟨p, q, xs, ys, rfl, rfl, e1, e2, by rw [l1.len, l2.len]; exact hw2.1, fun r hr => ?_⟩))
        exact hQ _ s2 r _ _ hw2.2 ((f1.trans f2).trans (.new_at hr at2)) (at2.new_at hr).j ((f1.trans f2).none rl.at_.j hr j2) upd_same (at2.fresh hr) ((l1.app l2).mv (at2.off hr)) (by rw [List.length_append]; exact hw2.1)
      | _ => exact hw2.elim
    | _ => exact hw2.elim
end
theorem rngD_eq (a : Int) (n : Nat) : rngD a n = (List.range n).map fun i => D.int (a + (i : Nat)) := rfl
theorem rngD_len (a : Int) (n : Nat) : (rngD a n).length = n := by simp [rngD]
/-- a for by what holds ahead of each turn -/
theorem wFor_ind {S : Type} {g : WG} {b : WS S} {K : WEnds S} (P : List D → List Sl → S → Prop) {ds : List D} {env : List Sl} {s : S} (h0 : P ds env s) (hn : ∀ env s, P [] env s → K.nx env s)
    (hc : ∀ d r, (∀ env s, P r env s → wFor g b r K env s) → ∀ env s, P (d :: r) env s → g d env fun e => b { K with nx := fun e t => wFor g b r K e t, ct := fun e t => wFor g b r K e t, bk := K.nx } e s) : wFor g b ds K env s := by
  induction ds generalizing env s with
  | nil => exact hn env s h0
  | cons d r ih => exact hc d r (fun env s h => ih h) env s h0
theorem wWh_ind {S : Type} {c : WT S} {b : WS S} {K : WEnds S} (P : Nat → List Sl → S → Prop) {n : Nat} {env : List Sl} {s : S} (h0 : P n env s)
    (hc : ∀ n, (∀ m env s, m < n → P m env s → ∃ j, wWhN c b j K env s) → ∀ env s, P n env s → ∃ j, wWhN c b j K env s) : ∃ j, wWhN c b j K env s := by
  induction n using Nat.strongRecOn generalizing env s with
  | _ n ih => exact hc n (fun m env s hm h => ih m hm h) env s h0
mutual
/-- plain, its ints of at most thirty-one figures -/
def D.sm : D → Bool
  | .int i => decide (-(10 ^ 31) ≤ i) && decide (i ≤ 10 ^ 31)
  | .lst ds => D.sms ds
  | .tup ds => D.sms ds
  | .non => true
  | .bl _ => true
  | .str x => PySem.PyData.strOk x
  | _ => false
def D.sms : List D → Bool
  | [] => true
  | d :: r => d.sm && D.sms r
end
theorem D.sms_all : ∀ ds : List D, D.sms ds = ds.all D.sm
  | [] => by unfold D.sms; rfl
  | d :: r => by unfold D.sms; rw [D.sms_all r, List.all_cons]
@[simp] theorem sm_non : D.sm .non = true := by unfold D.sm; rfl
@[simp] theorem sm_bl (b : Bool) : D.sm (.bl b) = true := by unfold D.sm; rfl
@[simp] theorem sm_int (b : Int) : D.sm (.int b) = (decide (-(10 ^ 31) ≤ b) && decide (b ≤ 10 ^ 31)) := by unfold D.sm; rfl
@[simp] theorem sm_str (b : Str) : D.sm (.str b) = PySem.PyData.strOk b := by unfold D.sm; rfl
@[simp] theorem sm_lst (ds : List D) : D.sm (.lst ds) = ds.all D.sm := by unfold D.sm; exact D.sms_all ds
@[simp] theorem sm_tup (ds : List D) : D.sm (.tup ds) = ds.all D.sm := by unfold D.sm; exact D.sms_all ds
@[simp] theorem sm_obj (C : Addr) (fs : List (Str × D)) : D.sm (.obj C fs) = false := by unfold D.sm; rfl
@[simp] theorem sm_opq (C : Addr) : D.sm (.opq C) = false := by unfold D.sm; rfl
@[simp] theorem sm_ty (n : String) : D.sm (.ty n) = false := by unfold D.sm; rfl
@[simp] theorem sm_dic (k) : D.sm (.dic k) = false := by unfold D.sm; rfl
@[simp] theorem sm_dit (k) : D.sm (.dit k) = false := by unfold D.sm; rfl
mutual
theorem D.sm_pl : ∀ {d : D}, d.sm = true → d.pl = true
  | .non, _ => by simp
  | .bl _, _ => by simp
  | .int _, _ => by simp
  | .str _, _ => by simp
  | .lst ds, h => by
    rw [pl_lst]
    rw [sm_lst] at h
    exact D.sms_pls h
  | .tup ds, h => by
    rw [pl_tup]
    rw [sm_tup] at h
    exact D.sms_pls h
  | .dic _, h => by simp at h
  | .dit _, h => by simp at h
  | .obj _ _, h => by simp at h
  | .opq _, h => by simp at h
  | .ty _, h => by simp at h
theorem D.sms_pls : ∀ {ds : List D}, ds.all D.sm = true → ds.all D.pl = true
  | [], _ => rfl
  | d :: r, h => by
    rw [List.all_cons, Bool.and_eq_true] at h ⊢
    exact ⟨D.sm_pl h.1, D.sms_pls h.2⟩
end
/-! membership -/
theorem flatIn_strs (x : Str) (acc : List Str) : flatIn (.str x) (acc.map fun y => D.str y) = true := by
  unfold flatIn
  simp
theorem inD_strs (x : Str) : ∀ acc : List Str, inD (.str x) (acc.map fun y => D.str y) = decide (x ∈ acc)
  | [] => by simp [inD]
  | y :: r => by
    have ih := inD_strs x r
    unfold inD at ih ⊢
    rw [List.map_cons, List.any_cons, ih]
    show ((y == x) || _) = _
    by_cases h : x = y
    · subst h
      simp
    · have : (y == x) = false := by simpa using fun z => h z.symm
      simp [this, h]
theorem flatIn_ints (n : Int) (l : List Int) : flatIn (.int n) (l.map fun y => D.int y) = true := by
  unfold flatIn
  simp
theorem inD_ints (x : Int) : ∀ acc : List Int, inD (.int x) (acc.map fun y => D.int y) = decide (x ∈ acc)
  | [] => by simp [inD]
  | y :: r => by
    have ih := inD_ints x r
    unfold inD at ih ⊢
    rw [List.map_cons, List.any_cons, ih]
    show ((y == x) || _) = _
    by_cases h : x = y
    · subst h
      simp
    · have : (y == x) = false := by simpa using fun z => h z.symm
      simp [this, h]
theorem rngD_map (a : Int) (m : Nat) : rngD a m = ((List.range m).map fun i => a + (i : Nat)).map fun y => D.int y := by
  rw [rngD_eq, List.map_map]
  rfl
theorem flatIn_rng (n a : Int) (m : Nat) : flatIn (.int n) (rngD a m) = true := by
  rw [rngD_map]
  exact flatIn_ints _ _
theorem inD_rng (n a : Int) (m : Nat) : inD (.int n) (rngD a m) = (decide (a ≤ n) && decide (n < a + m)) := by
  rw [rngD_map, inD_ints, ← Bool.decide_and]
  refine decide_eq_decide.mpr ⟨fun h => ?_, fun h => ?_⟩
  · obtain ⟨i, hi, rfl⟩ := List.mem_map.mp h
    have := List.mem_range.mp hi
    omega
  · refine List.mem_map.mpr ⟨(n - a).toNat, List.mem_range.mpr (by omega), by omega⟩
theorem cut1 (d : D) (r : List D) : cutD (d :: r) (some 1) none = r := by
  unfold cutD
  rw [show HT.sIx (d :: r).length 0 (some 1) = 1 by rw [show ((1 : Int)) = ((1 : Nat) : Int) from rfl, HT.sIx_nat, List.length_cons]; omega, HT.sIx_none]
  simp
theorem cut_nil (lo hi : Option Int) : cutD [] lo hi = [] := by
  unfold cutD
  simp
end Dw
set_option Elab.async false
set_option linter.all false
set_option maxRecDepth 100000
set_option maxHeartbeats 4000000
/-! Bx: the drawing's box (a dict with text keys at a place that changes, a list of ints beside it) over data. -/
namespace Dw
open PySem PySem.Spec PyProof.Rows L2
theorem huB {k : Nat} {A : Around} (r : Room k A) : A.units + 1 < cLine := by have := r.un; omega
structure Box where
  a : Addr
  c : Addr
  cells : List Int
  at_ : Int
  rest : Int
  many : Int
  great : Bool
  all : Int
def Box.kvs (b : Box) : List (Key × V) := [(.inr "cells", .ref b.c), (.inr "at", .int b.at_), (.inr "rest", .int b.rest), (.inr "many", .int b.many), (.inr "great", .bl b.great), (.inr "all", .int b.all)]
def BW : Wd Box where
  C b x := x = b.a ∨ x = b.c
  J b H := H b.a = some (.dK b.kvs) ∧ H b.c = some (.lst (b.cells.map V.int)) ∧ b.cells.length ≤ sizeLine
  tr := by
    rintro s H a ⟨h1, h2, _⟩ (rfl | rfl)
    · rw [h1]; simp
    · rw [h2]; simp
  st := by
    rintro s H H' ⟨h1, h2, h3⟩ h
    exact ⟨(h _ (.inl rfl)).trans h1, (h _ (.inr rfl)).trans h2, h3⟩
def bget (b : Box) (k : Str) : Option D := if k = "cells" then some (.opq b.c) else if k = "at" then some (.int b.at_) else if k = "rest" then some (.int b.rest) else
  if k = "many" then some (.int b.many) else if k = "great" then some (.bl b.great) else if k = "all" then some (.int b.all) else none
def bput (b : Box) (k : Str) : D → Option Box
  | .int i => if k = "at" then some { b with at_ := i } else if k = "rest" then some { b with rest := i } else if k = "many" then some { b with many := i } else if k = "all" then some { b with all := i } else none
  | .bl g => if k = "great" then some { b with great := g } else none
  | _ => none
theorem bget_ok {b : Box} {k : Str} {d : D} (h : bget b k = some d) : ∃ v, valV b.kvs (.inr k) = some v ∧ ∀ (B : Addr → Prop) (H : Hp), Da B H v d := by
  unfold bget at h
  split at h
  · next e => cases h; subst e; exact ⟨_, rfl, fun _ _ => .opq _⟩
  split at h
  · next e => cases h; subst e; exact ⟨_, rfl, fun _ _ => .int _⟩
  split at h
  · next e => cases h; subst e; exact ⟨_, rfl, fun _ _ => .int _⟩
  split at h
  · next e => cases h; subst e; exact ⟨_, rfl, fun _ _ => .int _⟩
  split at h
  · next e => cases h; subst e; exact ⟨_, rfl, fun _ _ => .bl _⟩
  split at h
  · next e => cases h; subst e; exact ⟨_, rfl, fun _ _ => .int _⟩
  cases h
theorem bput_ok {b b' : Box} {k : Str} {d : D} (h : bput b k d = some b') : (b'.a = b.a ∧ b'.c = b.c ∧ b'.cells = b.cells) ∧ ∀ {B : Addr → Prop} {H : Hp} {v : V}, Da B H v d → b'.kvs = putK b.kvs (.inr k) v := by
  cases d with
  | int i =>
    simp only [bput] at h
    split at h
    · next e => cases h; subst e; exact ⟨⟨rfl, rfl, rfl⟩, fun a => by cases a; rfl⟩
    split at h
    · next e => cases h; subst e; exact ⟨⟨rfl, rfl, rfl⟩, fun a => by cases a; rfl⟩
    split at h
    · next e => cases h; subst e; exact ⟨⟨rfl, rfl, rfl⟩, fun a => by cases a; rfl⟩
    split at h
    · next e => cases h; subst e; exact ⟨⟨rfl, rfl, rfl⟩, fun a => by cases a; rfl⟩
    cases h
  | bl g =>
    simp only [bput] at h
    split at h
    · next e => cases h; subst e; exact ⟨⟨rfl, rfl, rfl⟩, fun a => by cases a; rfl⟩
    cases h
  | _ => cases h
@[simp] theorem bget_cells (b : Box) : bget b "cells" = some (.opq b.c) := rfl
@[simp] theorem bget_at (b : Box) : bget b "at" = some (.int b.at_) := rfl
@[simp] theorem bget_rest (b : Box) : bget b "rest" = some (.int b.rest) := rfl
@[simp] theorem bget_many (b : Box) : bget b "many" = some (.int b.many) := rfl
@[simp] theorem bget_great (b : Box) : bget b "great" = some (.bl b.great) := rfl
@[simp] theorem bget_all (b : Box) : bget b "all" = some (.int b.all) := rfl
@[simp] theorem bput_at (b : Box) (i : Int) : bput b "at" (.int i) = some { b with at_ := i } := rfl
@[simp] theorem bput_rest (b : Box) (i : Int) : bput b "rest" (.int i) = some { b with rest := i } := rfl
@[simp] theorem bput_many (b : Box) (i : Int) : bput b "many" (.int i) = some { b with many := i } := rfl
@[simp] theorem bput_all (b : Box) (i : Int) : bput b "all" (.int i) = some { b with all := i } := rfl
@[simp] theorem bput_great (b : Box) (g : Bool) : bput b "great" (.bl g) = some { b with great := g } := rfl
@[simp] def wBGet (i : Nat) (k : Str) : WE Box := fun env s kk _ => match sg env i with
  | .dat (.opq a) => a = s.a ∧ (match bget s k with
    | some d => kk d s
    | none => False)
  | _ => False
@[simp] def wBPut (i : Nat) (k : Str) (wv : WE Box) : WS Box := fun KK env s => wv env s (fun d s1 => match sg env i with
  | .dat (.opq a) => a = s1.a ∧ (match bput s1 k d with
    | some s2 => KK.nx env s2
    | none => False)
  | _ => False) KK.xc
@[simp] def wBAug (i : Nat) (k : Str) (wo : D → D → Box → (D → Box → Prop) → Prop) (wv : WE Box) : WS Box := fun KK env s => match sg env i with
  | .dat (.opq a) => a = s.a ∧ (match bget s k with
    | some d => wv env s (fun e s1 => wo d e s1 fun z s2 => a = s2.a ∧ (match bput s2 k z with
      | some s3 => KK.nx env s3
      | none => False)) KK.xc
    | none => False)
  | _ => False
@[simp] def wIxB : D → D → Box → (D → Box → Prop) → Prop := fun d e s k => match d, e with
  | .opq c, .int i => c = s.c ∧ (match atI s.cells i with
    | some n => k (.int n) s
    | none => False)
  | d, e => wIx d e s k
@[simp] def wLenB : List D → Box → (D → Box → Prop) → Prop := fun ds s k => match ds with
  | [.opq c] => c = s.c ∧ k (.int s.cells.length) s
  | ds => wLen ds s k
section
variable {G : Gm Box} {K : PySem.W.Frag}
theorem put_fr {s s' : Box} {H : Hp} {k : Str} {d : D} {v : V} {B : Addr → Prop} (h : bput s k d = some s') (j : BW.J s H) (a : Da B H v d) :
    DPut H s.a (.str k) v (upd H s.a (.dK s'.kvs)) ∧ Fr BW s H s' (upd H s.a (.dK s'.kvs)) ∧ BW.J s' (upd H s.a (.dK s'.kvs)) := by
  obtain ⟨⟨ea, ec, el⟩, hv⟩ := bput_ok h
  obtain ⟨j1, j2, j3⟩ := j
  have ne : s.c ≠ s.a := fun z => by rw [z, j1] at j2; cases j2
  rw [hv a]
  refine ⟨DPut.k (k := .inr k) j1 (show 6 < sizeLine by decide), ⟨fun b o e n => ?_, fun x c => ?_, fun x c => ?_⟩, ?_, ?_, ?_⟩
  · rw [upd_ne (fun z => n (.inl z))]
    exact e
  · exact c.imp (fun z => by rw [ea]; exact z) fun z => by rw [ec]; exact z
  · exact .inl (c.imp (fun z => by rw [← ea]; exact z) fun z => by rw [← ec]; exact z)
  · rw [ea, hv a]
    exact upd_same
  · rw [ec, el, upd_ne ne]
    exact j2
  · rw [el]
    exact j3
theorem sim_bget {i : Nat} {k : Str} : SimG BW G (tDGet (tVar i) (tC (.str k))) (wBGet i k) := by
  intro R env σ H s r kk x hw ox Q hQ
  unfold wBGet at hw
  cases e : sg env i with
  | dat d =>
    rw [e] at hw
    cases d with
    | opq a =>
      obtain ⟨ea, hw⟩ := hw
      cases q : bget s k with
      | none => rw [q] at hw; exact hw.elim
      | some d =>
        rw [q] at hw
        obtain ⟨v, h1, h2⟩ := r.env.dat i _ e
        cases h2
        obtain ⟨u, h3, h4⟩ := bget_ok q
        refine ⟨_, h1, a, u, rfl, ?_, hQ d s u H hw .refl r.at_.j (.da (h4 _ _))⟩
        rw [ea, ← h3]
        exact DGet.k (k := .inr k) r.at_.j.1
    | _ => exact hw.elim
  | _ => rw [e] at hw; exact hw.elim
theorem sim_bgetE {i : Nat} {k : Str} : SimE BW G (tDGet (tVar i) (tC (.str k))) (wBGet i k) := by
  intro R env σ H s r kk x hw ox Q hQ
  unfold wBGet at hw
  cases e : sg env i with
  | dat d =>
    rw [e] at hw
    cases d with
    | opq a =>
      obtain ⟨ea, hw⟩ := hw
      cases q : bget s k with
      | none => rw [q] at hw; exact hw.elim
      | some d =>
        rw [q] at hw
        obtain ⟨v, h1, h2⟩ := r.env.dat i _ e
        cases h2
        obtain ⟨u, h3, h4⟩ := bget_ok q
        refine ⟨_, h1, a, u, rfl, ?_, hQ d s u H hw .refl r.at_.j (h4 _ _)⟩
        rw [ea, ← h3]
        exact DGet.k (k := .inr k) r.at_.j.1
    | _ => exact hw.elim
  | _ => rw [e] at hw; exact hw.elim
theorem ss_bput {i : Nat} {k : Str} {tv : TE} {wv : WE Box} (hv : SimE BW G tv wv) : SimS BW G (sDPut (tVar i) (tC (.str k)) tv) (wBPut i k wv) := fun R env σ H s rl KK hw Dn e => by
  unfold wBPut at hw
  refine hv R env σ H s rl _ KK.xc hw e.xc _ fun d s1 v H1 hw1 f1 j1 a1 => ?_
  have rl1 := rl.step f1 j1
  cases q : sg env i with
  | dat d2 =>
    rw [q] at hw1
    cases d2 with
    | opq a =>
      obtain ⟨ea, hw1⟩ := hw1
      cases qp : bput s1 k d with
      | none => rw [qp] at hw1; exact hw1.elim
      | some s2 =>
        rw [qp] at hw1
        obtain ⟨u, h1, h2⟩ := rl1.env.dat i _ q
        cases h2
        obtain ⟨p1, p2, p3⟩ := put_fr qp j1 a1
        exact ⟨_, h1, a, _, rfl, by rw [ea]; exact p1, e.nx R env σ _ s2 hw1 (rl1.step p2 p3) (f1.trans p2).mv⟩
    | _ => exact hw1.elim
  | _ => rw [q] at hw1; exact hw1.elim
theorem ss_baug {i : Nat} {k : Str} {tv : TE} {wv : WE Box} {rd : R2} {wo : D → D → Box → (D → Box → Prop) → Prop} (ho : SimO BW rd wo) (hv : SimG BW G tv wv) : SimS BW G (sDAug (tVar i) (tC (.str k)) tv rd) (wBAug i k wo wv) := fun R env σ H s rl KK hw Dn e => by
  unfold wBAug at hw
  cases q : sg env i with
  | dat d2 =>
    rw [q] at hw
    cases d2 with
    | opq a =>
      obtain ⟨ea, hw⟩ := hw
      cases qg : bget s k with
      | none => rw [qg] at hw; exact hw.elim
      | some d =>
        rw [qg] at hw
        obtain ⟨u, h1, h2⟩ := rl.env.dat i _ q
        cases h2
        obtain ⟨v, h3, h4⟩ := bget_ok qg
        refine ⟨_, h1, a, v, rfl, by rw [ea, ← h3]; exact DGet.k (k := .inr k) rl.at_.j.1, ?_⟩
        refine hv R env σ H s rl _ KK.xc hw e.xc _ fun d1 s1 v1 H1 hw1 f1 j1 a1 => ?_
        have rl1 := rl.step f1 j1
        refine ho R s1 H1 rl1.at_ v v1 d d1 (.da (h4 _ _)) a1 _ hw1 _ fun z zv H2 hk f2 j2 a2 => ?_
        have rl2 := rl1.step f2 j2
        obtain ⟨ea2, hk⟩ := hk
        cases qp : bput s1 k z with
        | none => rw [qp] at hk; exact hk.elim
        | some s3 =>
          rw [qp] at hk
          obtain ⟨p1, p2, p3⟩ := put_fr qp j2 a2
          exact ⟨_, by rw [ea2]; exact p1, e.nx R env σ _ s3 hk (rl2.step p2 p3) ((f1.trans f2).trans p2).mv⟩
    | _ => exact hw.elim
  | _ => rw [q] at hw; exact hw.elim
theorem so_ixB : SimO BW (rIx K) wIxB := fun R s H at_ x y d e a b k hw Q hQ => by
  cases d with
  | opq c =>
    cases e with
    | int i =>
      obtain ⟨ec, hw⟩ := hw
      cases q : atI s.cells i with
      | none => rw [q] at hw; exact hw.elim
      | some n =>
        rw [q] at hw
        cases a with
        | da a =>
          cases a
          refine .inl ⟨c, s.cells.map V.int, i, .int n, rfl, b.intI, .of (by rw [ec]; exact at_.j.2.1), ?_, hQ _ _ H hw .refl at_.j (.int _)⟩
          unfold atI at q ⊢
          rw [List.length_map]
          cases qi : ixN s.cells.length i with
          | none => rw [qi] at q; cases q
          | some j =>
            rw [qi] at q
            have q' : s.cells[j]? = some n := q
            show (s.cells.map V.int)[j]? = some (.int n)
            rw [List.getElem?_map, q']
            rfl
    | _ => exact so_ix R s H at_ x y _ _ a b k hw Q hQ
  | _ => exact so_ix R s H at_ x y _ _ a b k hw Q hQ
theorem sc_lenB : SimC BW (Rd.rLen K) wLenB := fun R s H at_ xs ds a k hw Q hQ => by
  match ds, a, hw with
  | [.opq c], a, hw =>
    obtain ⟨v, rfl, a1⟩ := a.one
    obtain ⟨ec, hw⟩ := hw
    cases a1 with
    | da a2 =>
      cases a2
      exact .inl ⟨c, s.cells.map V.int, rfl, .inl (.of (by rw [ec]; exact at_.j.2.1)), hQ _ _ H (by simpa using hw) .refl at_.j (.int _)⟩
  | [.lst _], a, hw => exact sc_len R s H at_ xs _ a k hw Q hQ
  | [.tup _], a, hw => exact sc_len R s H at_ xs _ a k hw Q hQ
  | [.str _], a, hw => exact sc_len R s H at_ xs _ a k hw Q hQ
theorem so_radd : SimO BW rAdd (wI0 fun i j => V.int (i + j)) := so_i0s (fun _ _ => True.intro)
theorem so_rsub : SimO BW rSub (wI0 fun i j => V.int (i - j)) := so_i0s (fun _ _ => True.intro)
end
/-! ### comprehensions that draw -/
/-- what a comprehension with a filter takes -/
inductive Sub (Pd : D → D → Prop) : List D → List D → Prop
  | nil : Sub Pd [] []
  | skip {d : D} {ds ys : List D} : Sub Pd ds ys → Sub Pd (d :: ds) ys
  | take {d y : D} {ds ys : List D} : Pd d y → Sub Pd ds ys → Sub Pd (d :: ds) (y :: ys)
section
variable {S : Type} {g : WG} {tt : WT S} {te : WE S} {vs : List Nat} {env : List Sl} {x : Xc → S → Prop}
theorem wLc_st (I : S → Prop) (Pd : D → D → Prop) : ∀ {ds : List D} {s : S} {k : List D → S → Prop}, (∀ d ∈ ds, ∀ s, I s → ∀ (kt : D → S → Prop) (kf : S → Prop), (∀ s' y, I s' → Pd d y → kt y s') → (∀ s', I s' → kf s') →
      g d (wp env vs) fun e1 => tt e1 s (fun b s1 => if b = true then te e1 s1 kt x else kf s1) x) → I s → (∀ s' ys, I s' → Sub Pd ds ys → k ys s') → wLc g tt te vs ds env s k x
  | [], s, k, _, i, hk => hk s [] i .nil
  | d :: r, s, k, h, i, hk => by
    unfold wLc
    refine h d (by simp) s i (fun y s2 => wLc g tt te vs r env s2 (fun ys s3 => k (y :: ys) s3) x) (fun s1 => wLc g tt te vs r env s1 k x) (fun s' y i' p => ?_) fun s' i' => ?_
    · exact wLc_st I Pd (fun e he => h e (by simp [he])) i' fun s2 ys i2 q => hk s2 (y :: ys) i2 (.take p q)
    · exact wLc_st I Pd (fun e he => h e (by simp [he])) i' fun s2 ys i2 q => hk s2 ys i2 (.skip q)
theorem wLc_dr (I : S → Prop) (Pd : D → Prop) : ∀ {ds : List D} {s : S} {k : List D → S → Prop}, (∀ d ∈ ds, ∀ s, I s → ∀ (kt : D → S → Prop), (∀ s' y, I s' → Pd y → kt y s') → g d (wp env vs) fun e1 => te e1 s kt x) →
      I s → (∀ s' ys, I s' → ys.length = ds.length → (∀ y ∈ ys, Pd y) → k ys s') → wLc g (fun _ s k _ => k true s) te vs ds env s k x
  | [], s, k, _, i, hk => hk s [] i rfl (fun _ h => by cases h)
  | d :: r, s, k, h, i, hk => by
    unfold wLc
    simp only [if_true]
    refine h d (by simp) s i (fun y s2 => wLc g _ te vs r env s2 (fun ys s3 => k (y :: ys) s3) x) (fun s' y i' p => ?_)
    exact wLc_dr I Pd (fun e he => h e (by simp [he])) i' fun s2 ys i2 l q => hk s2 (y :: ys) i2 (by simp [l]) fun z hz => by
      rcases List.mem_cons.mp hz with rfl | hz
      · exact p
      · exact q z hz
end
theorem join_ones (cs : List Nat) : Txt.join "" (cs.map fun c => (⟨#[c]⟩ : Str)) = ⟨cs.toArray⟩ := by
  have e : TL.joinL [] (cs.map fun c => [c]) = cs := by
    induction cs with
    | nil => rfl
    | cons c r ih =>
      cases r with
      | nil => rfl
      | cons c2 r2 =>
        show [c] ++ ([] ++ TL.joinL [] ((c2 :: r2).map fun c => [c])) = _
        rw [ih]
        rfl
  have h := SX.join_S [] (cs.map fun c => [c])
  rw [List.map_map, e] at h
  exact h
theorem ones_of {p : Nat → Prop} : ∀ {ys : List D}, (∀ y ∈ ys, ∃ c, y = .str ⟨#[c]⟩ ∧ p c) → ∃ cs : List Nat, ys = cs.map (fun c => D.str ⟨#[c]⟩) ∧ ∀ c ∈ cs, p c
  | [], _ => ⟨[], rfl, fun _ h => by cases h⟩
  | y :: r, h => by
    obtain ⟨c, rfl, hc⟩ := h y (by simp)
    obtain ⟨cs, rfl, hs⟩ := ones_of (ys := r) fun z hz => h z (by simp [hz])
    exact ⟨c :: cs, rfl, fun z hz => by
      rcases List.mem_cons.mp hz with rfl | hz
      · exact hc
      · exact hs z hz⟩
end Dw
set_option Elab.async false
set_option linter.all false
set_option maxRecDepth 100000
set_option maxHeartbeats 4000000
/-! Dv: how wide and how deep data are, for repr. -/
namespace Dw
open PySem PySem.Spec PyProof.Rows L2
/-! sizes -/
mutual
def sz : PyData → Nat
  | .none => 5
  | .bool _ => 6
  | .int i => (Str.ofString (toString i)).length + 1
  | .str x => (reprText x).length + 1
  | .list ds => 4 + szL ds
  | .tuple ds => 4 + szL ds
  | .dict kvs => 4 + szK kvs
def szL : List PyData → Nat
  | [] => 0
  | d :: r => sz d + 2 + szL r
def szK : List (PyData × PyData) → Nat
  | [] => 0
  | (a, b) :: r => sz a + sz b + 4 + szK r
end
theorem join_le : ∀ ts : List Str, (Str.join ", " ts).length ≤ piled ts := fun ts => by
  by_cases h : ts = []
  · subst h
    exact Nat.zero_le _
  · have := join_length_add ts h
    omega
theorem textFrom_le : ∀ (ts : List Str) (k : Nat) (acc : Str), (textFrom k acc ts).length ≤ acc.length + piled ts
  | [], k, acc => Nat.le_add_right _ _
  | t :: r, k, acc => by
    have h := textFrom_le r (k + 1) (acc ++ (if k > 0 then ", " else "" : String) ++ t)
    have e : (acc ++ (if k > 0 then ", " else "" : String) ++ t).length ≤ acc.length + 2 + t.length := by
      rw [strLen_append, strLen_append]
      by_cases c : k > 0
      · rw [if_pos c]
        exact Nat.le_refl _
      · rw [if_neg c]
        show acc.length + 0 + t.length ≤ _
        omega
    show (textFrom (k + 1) (acc ++ (if k > 0 then ", " else "" : String) ++ t) r).length ≤ _
    have e2 : piled (t :: r) = t.length + 2 + piled r := by simp [piled]
    omega
mutual
theorem shown_sz : ∀ d : PyData, d.shown.length ≤ sz d
  | .none => (by decide : 4 ≤ 5)
  | .bool b => by cases b <;> exact (by decide)
  | .int i => Nat.le_succ _
  | .str x => Nat.le_succ _
  | .list ds => by
    have h := shownAll_sz ds
    have h2 := textFrom_le (PyData.shownAll ds) 0 "["
    show (textFrom 0 "[" (PyData.shownAll ds) ++ "]").length ≤ 4 + szL ds
    rw [strLen_append]
    have e1 : ("]" : Str).length = 1 := rfl
    have e2 : ("[" : Str).length = 1 := rfl
    omega
  | .tuple ds => by
    have h := shownAll_sz ds
    have h2 := join_le (PyData.shownAll ds)
    show (("(" : Str) ++ Str.join ", " (PyData.shownAll ds) ++ (if (PyData.shownAll ds).length == 1 then ",)" else ")" : String)).length ≤ 4 + szL ds
    rw [strLen_append, strLen_append]
    have e1 : ("(" : Str).length = 1 := rfl
    have e2 : (Str.ofString (if (PyData.shownAll ds).length == 1 then ",)" else ")" : String)).length ≤ 2 := by split <;> decide
    omega
  | .dict kvs => by
    have h := shownKv_sz kvs
    have h2 := join_le (PyData.shownKv kvs)
    show (("{" : Str) ++ Str.join ", " (PyData.shownKv kvs) ++ "}").length ≤ 4 + szK kvs
    rw [strLen_append, strLen_append]
    have e1 : ("{" : Str).length = 1 := rfl
    have e2 : ("}" : Str).length = 1 := rfl
    omega
theorem shownAll_sz : ∀ ds : List PyData, piled (PyData.shownAll ds) ≤ szL ds
  | [] => Nat.le_refl _
  | d :: r => by
    have h1 := shown_sz d
    have h2 := shownAll_sz r
    show piled (d.shown :: PyData.shownAll r) ≤ sz d + 2 + szL r
    have e2 : piled (d.shown :: PyData.shownAll r) = d.shown.length + 2 + piled (PyData.shownAll r) := by simp [piled]
    omega
theorem shownKv_sz : ∀ ds : List (PyData × PyData), piled (PyData.shownKv ds) ≤ szK ds
  | [] => Nat.le_refl _
  | (a, b) :: r => by
    have h1 := shown_sz a
    have h3 := shown_sz b
    have h2 := shownKv_sz r
    show piled ((a.shown ++ ": " ++ b.shown) :: PyData.shownKv r) ≤ sz a + sz b + 4 + szK r
    have e2 : piled ((a.shown ++ ": " ++ b.shown) :: PyData.shownKv r) = (a.shown ++ ": " ++ b.shown).length + 2 + piled (PyData.shownKv r) := by simp [piled]
    rw [strLen_append, strLen_append] at e2
    have e3 : (": " : Str).length = 2 := rfl
    omega
end
mutual
def D.wd : D → Nat
  | .non => 5
  | .bl _ => 6
  | .int _ => 40
  | .str x => (reprText x).length + 1
  | .lst ds => 4 + D.wds ds
  | .tup ds => 4 + D.wds ds
  | _ => 0
def D.wds : List D → Nat
  | [] => 0
  | d :: r => d.wd + 2 + D.wds r
end
mutual
def D.dp : D → Nat
  | .lst ds => D.dps ds + 1
  | .tup ds => D.dps ds + 1
  | _ => 0
def D.dps : List D → Nat
  | [] => 0
  | d :: r => max d.dp (D.dps r)
end
theorem int_sz {i : Int} (h : -(10 ^ 31) ≤ i ∧ i ≤ 10 ^ 31) : (PyData.int i).showable = true ∧ sz (.int i) ≤ 40 := by
  have n : i.natAbs < 10 ^ 32 := by omega
  refine ⟨decide_eq_true ?_, ?_⟩
  · have : i.natAbs < 2 ^ 1920 := Nat.lt_trans n (Nat.lt_of_lt_of_le (by decide : (10 : Nat) ^ 32 < 2 ^ 107) (Nat.pow_le_pow_right (by decide) (by decide)))
    exact PySem.Flt.log2_lt_of (by decide) this
  · have := PySem.int_text_length_le10 (a := i) (k := 32) (by decide) n
    show (Str.ofString (toString i)).length + 1 ≤ 40
    have e : (Str.ofString (toString i)).length = (toString i).length := PySem.ofString_length _
    omega
mutual
theorem D.rp : ∀ {d : D}, d.sm = true → ∃ p, d.py = some p ∧ p.showable = true ∧ sz p ≤ d.wd ∧ p.depth ≤ d.dp
  | .non, _ => ⟨.none, rfl, rfl, by unfold D.wd; exact Nat.le_refl _, Nat.zero_le _⟩
  | .bl b, _ => ⟨.bool b, rfl, rfl, by unfold D.wd; exact Nat.le_refl _, Nat.zero_le _⟩
  | .int i, h => ⟨.int i, rfl, (int_sz (by simpa using h)).1, by unfold D.wd; exact (int_sz (by simpa using h)).2, Nat.zero_le _⟩
  | .str x, _ => ⟨.str x, rfl, rfl, by unfold D.wd; exact Nat.le_refl _, Nat.zero_le _⟩
  | .lst ds, h => by
    obtain ⟨ps, e, a, b, c⟩ := D.rps (ds := ds) (by simpa using h)
    exact ⟨.list ps, by simp [e], a, by unfold D.wd; exact Nat.add_le_add_left b 4, by unfold D.dp; exact Nat.succ_le_succ c⟩
  | .tup ds, h => by
    obtain ⟨ps, e, a, b, c⟩ := D.rps (ds := ds) (by simpa using h)
    exact ⟨.tuple ps, by simp [e], a, by unfold D.wd; exact Nat.add_le_add_left b 4, by unfold D.dp; exact Nat.succ_le_succ c⟩
  | .dic _, h => by simp at h
  | .dit _, h => by simp at h
  | .obj _ _, h => by simp at h
  | .opq _, h => by simp at h
  | .ty _, h => by simp at h
theorem D.rps : ∀ {ds : List D}, (∀ d ∈ ds, d.sm = true) → ∃ ps, D.pys ds = some ps ∧ PyData.showableAll ps = true ∧ szL ps ≤ D.wds ds ∧ PyData.depthAll ps ≤ D.dps ds
  | [], _ => ⟨[], rfl, rfl, Nat.zero_le _, Nat.zero_le _⟩
  | d :: r, h => by
    obtain ⟨p, e, a, b, c⟩ := D.rp (d := d) (h d (by simp))
    obtain ⟨ps, e2, a2, b2, c2⟩ := D.rps (ds := r) fun z hz => h z (by simp [hz])
    refine ⟨p :: ps, by simp [e, e2], by show (p.showable && PyData.showableAll ps) = true; rw [a, a2]; rfl, ?_, ?_⟩
    · unfold D.wds
      show sz p + 2 + szL ps ≤ _
      omega
    · unfold D.dps
      show max p.depth (PyData.depthAll ps) ≤ _
      omega
end
/-- good: plain with ints not too great, at most n wide, k deep -/
def Pq (n k : Nat) (d : D) : Prop := d.sm = true ∧ d.wd ≤ n ∧ d.dp ≤ k
def Lq (n k m : Nat) (ds : List D) : Prop := ds.length ≤ m ∧ ∀ d ∈ ds, Pq n k d
theorem Pq.mono {n k n' k' : Nat} {d : D} (h : Pq n k d) (a : n ≤ n') (b : k ≤ k') : Pq n' k' d := ⟨h.1, Nat.le_trans h.2.1 a, Nat.le_trans h.2.2 b⟩
theorem Lq.mono {n k m n' k' m' : Nat} {ds : List D} (h : Lq n k m ds) (a : n ≤ n') (b : k ≤ k') (c : m ≤ m') : Lq n' k' m' ds := ⟨Nat.le_trans h.1 c, fun d hd => (h.2 d hd).mono a b⟩
theorem wds_le {n : Nat} : ∀ {ds : List D}, (∀ d ∈ ds, d.wd ≤ n) → D.wds ds ≤ (n + 2) * ds.length
  | [], _ => by unfold D.wds; exact Nat.zero_le _
  | d :: r, h => by
    have h1 := h d (by simp)
    have h2 := wds_le (ds := r) fun z hz => h z (by simp [hz])
    unfold D.wds
    rw [List.length_cons, Nat.mul_succ]
    omega
theorem dps_le {k : Nat} : ∀ {ds : List D}, (∀ d ∈ ds, d.dp ≤ k) → D.dps ds ≤ k
  | [], _ => by unfold D.dps; exact Nat.zero_le _
  | d :: r, h => by
    have h1 := h d (by simp)
    have h2 := dps_le (ds := r) fun z hz => h z (by simp [hz])
    unfold D.dps
    omega
theorem Lq.wd {n k m : Nat} {ds : List D} (h : Lq n k m ds) : D.wds ds ≤ (n + 2) * m := Nat.le_trans (wds_le fun d hd => (h.2 d hd).2.1) (Nat.mul_le_mul_left _ h.1)
theorem Lq.tup {n k m : Nat} {ds : List D} (h : Lq n k m ds) : Pq (4 + (n + 2) * m) (k + 1) (.tup ds) := by
  refine ⟨by rw [sm_tup, List.all_eq_true]; exact fun d hd => (h.2 d hd).1, ?_, ?_⟩
  · unfold D.wd
    have := h.wd
    omega
  · unfold D.dp
    have := dps_le (ds := ds) (k := k) fun d hd => (h.2 d hd).2.2
    omega
theorem Lq.lst {n k m : Nat} {ds : List D} (h : Lq n k m ds) : Pq (4 + (n + 2) * m) (k + 1) (.lst ds) := by
  refine ⟨by rw [sm_lst, List.all_eq_true]; exact fun d hd => (h.2 d hd).1, ?_, ?_⟩
  · unfold D.wd
    have := h.wd
    omega
  · unfold D.dp
    have := dps_le (ds := ds) (k := k) fun d hd => (h.2 d hd).2.2
    omega
theorem Lq.nil {n k : Nat} : Lq n k 0 [] := ⟨Nat.le_refl _, fun _ h => by cases h⟩
theorem Lq.app {n k m l : Nat} {ds es : List D} (h : Lq n k m ds) (h' : Lq n k l es) : Lq n k (m + l) (ds ++ es) := ⟨by rw [List.length_append]; exact Nat.add_le_add h.1 h'.1, fun d hd => by
  rcases List.mem_append.mp hd with q | q
  · exact h.2 d q
  · exact h'.2 d q⟩
theorem Lq.one {n k : Nat} {d : D} (h : Pq n k d) : Lq n k 1 [d] := ⟨Nat.le_refl _, fun z hz => by rw [List.mem_singleton] at hz; rw [hz]; exact h⟩
theorem Lq.cons {n k m : Nat} {d : D} {ds : List D} (h : Pq n k d) (t : Lq n k m ds) : Lq n k (m + 1) (d :: ds) := ⟨by rw [List.length_cons]; exact Nat.succ_le_succ t.1, fun z hz => by
  rcases List.mem_cons.mp hz with rfl | q
  · exact h
  · exact t.2 z q⟩
theorem Lq.set {n k m : Nat} {d : D} {ds : List D} (i : Nat) (h : Lq n k m ds) (hd : Pq n k d) : Lq n k m (ds.set i d) := ⟨by rw [List.length_set]; exact h.1, fun z hz => by
  rcases List.mem_or_eq_of_mem_set hz with q | q
  · exact h.2 z q
  · rw [q]; exact hd⟩
theorem Lq.sub {n k m : Nat} {ds es : List D} (h : Lq n k m ds) (s : ∀ d ∈ es, d ∈ ds) (l : es.length ≤ m) : Lq n k m es := ⟨l, fun d hd => h.2 d (s d hd)⟩
theorem Pq.str {x : Str} {l : Nat} (h0 : ∀ c ∈ x.cps.toList, c < 0x110000) (hl : x.length ≤ l) : Pq (10 * l + 3) 0 (.str x) := by
  have h : ∀ c ∈ x.cps.toList, c < 16 ^ 8 := fun c hc => Nat.lt_trans (h0 c hc) (by decide)
  refine ⟨by
    rw [sm_str]
    unfold PySem.PyData.strOk
    rw [← Array.all_toList, List.all_eq_true]
    exact fun c hc => decide_eq_true (h0 c hc), ?_, by unfold D.dp; exact Nat.le_refl _⟩
  unfold D.wd
  have := PySem.StrLaws.reprText_len x h
  omega
theorem Pq.int {i : Int} (h : -(10 ^ 31) ≤ i ∧ i ≤ 10 ^ 31) : Pq 40 0 (.int i) := ⟨by simpa using h, by unfold D.wd; exact Nat.le_refl _, by unfold D.dp; exact Nat.le_refl _⟩
theorem Pq.non : Pq 5 0 .non := ⟨by simp, by unfold D.wd; exact Nat.le_refl _, by unfold D.dp; exact Nat.le_refl _⟩
theorem Pq.bl (b : Bool) : Pq 6 0 (.bl b) := ⟨by simp, by unfold D.wd; exact Nat.le_refl _, by unfold D.dp; exact Nat.le_refl _⟩
/-- what repr asks -/
theorem Pq.shown {n k : Nat} {d : D} (h : Pq n k d) (hn : n ≤ sizeLine) (hk : k ≤ 190) : ∃ p, d.py = some p ∧ p.showable = true ∧ p.shown.length ≤ sizeLine ∧ p.depth ≤ 190 := by
  obtain ⟨p, e, a, b, c⟩ := D.rp h.1
  exact ⟨p, e, a, Nat.le_trans (shown_sz p) (Nat.le_trans b (Nat.le_trans h.2.1 hn)), Nat.le_trans c (Nat.le_trans h.2.2 hk)⟩
end Dw
set_option Elab.async false
set_option linter.all false
set_option maxRecDepth 100000
set_option maxHeartbeats 4000000
/-! Rt: tuple(reversed(x)), x a tuple. -/
namespace Rt
open PySem PySem.Spec PyProof.Rows L2 RT
theorem nolen : typeLookup (.type "reversed") "__len__" = pure none := by rw [typeLookup_type, builtinLookup_eq_fast]; kernel_rfl
theorem hint : typeLookup (.type "reversed") "__length_hint__" = pure (some (.builtin "reversed.__length_hint__")) := by rw [typeLookup_type, builtinLookup_eq_fast]; kernel_rfl
theorem slot_hint : Slot "reversed" "__length_hint__" "reversed.__length_hint__" :=
  .of (owner := "reversed") (n := "__length_hint__") (by rw [typeLookup_type, builtinLookup_eq_fast]; kernel_rfl) (by decide +kernel) (by decide +kernel) (by decide +kernel)
    (by first | exact .inl (by decide +kernel) | exact .inr (by decide +kernel)) (by rw [isSubtype_type]; kernel_rfl)
theorem entry_hint : entryFor table "reversed.__length_hint__" = some Builtin.«reversed.__length_hint__» := entryFor_of_tree (by kernel_rfl)
theorem args_hint (a : Value) : argsOk "reversed.__length_hint__" ⟨[a], []⟩ := by
  unfold argsOk; rw [signature?_of (id := "reversed.__length_hint__") (n := ['_', '_', 't', 'n', 'i', 'h', '_', 'h', 't', 'g', 'n', 'e', 'l', '_', '_']) (o := ['d', 'e', 's', 'r', 'e', 'v', 'e', 'r']) (by kernel_rfl) owner_rt]; kernel_rfl
theorem asI (n : Int) (u : Tok) : asInt? (.int n u) = pure (some n) := rfl
theorem fits {n : Nat} (hn : n ≤ sizeLine) : Builtin.List.listFitsIndex ((n : Nat) : Int) = true := by
  have hn' : n ≤ 16777216 := sizeLine_eq ▸ hn
  unfold Builtin.List.listFitsIndex
  rw [Bool.and_eq_true]
  exact ⟨decide_eq_true (by omega), decide_eq_true (by omega)⟩
theorem short {n : Nat} (hn : n ≤ sizeLine) : Builtin.List.listTooLong ((n : Nat) : Int).toNat = false := decide_eq_false (Nat.not_lt.mpr hn)
section
variable {prog : Program} {w : World} {A : Around} {E : Value → Shared → Prop} {s : Shared}
theorem tup_at {h h' : Heap} {t : Addr} {items : Array Value} (x : IsTup h t items) (e : ∀ o, h.get? t = some o → h'.get? t = some o) : IsTup h' t items := by
  obtain ⟨o, ho, r⟩ := x
  exact ⟨o, e _ ho, r⟩
theorem walks (hh : A.handled = none) (I t : Addr) (ne : t ≠ I) (items : Array Value) (hsz : items.size ≤ sizeLine) :
    Walks prog w A I [I, t] [I] items.size (fun i v => items[items.size - 1 - i]? = some v) (fun i h => i ≤ items.size ∧ IsRt h I t ((items.size : Int) - 1 - (i : Int)) ∧ IsTup h t items) where
  sub := fun b hb => by simp at hb; simp [hb]
  frame := fun _ _ _ x hk => ⟨x.1, x.2.1.at fun o e => hk I (by simp) o e, tup_at x.2.2 fun o e => hk t (by simp) o e⟩
  item := fun i s Q E hi x hQ => by
    have e : (items.size : Int) - 1 - (i : Int) = ((items.size - 1 - i : Nat) : Int) := by omega
    have hit := x.2.1
    rw [e] at hit
    have hx : items[items.size - 1 - i]? = some (items[items.size - 1 - i]'(by omega)) := Array.getElem?_eq_getElem (by omega)
    refine next_rt_item hit x.2.2 hx hsz fun h' hit' hs' => ?_
    have e2 : ((items.size - 1 - i : Nat) : Int) - 1 = (items.size : Int) - 1 - ((i + 1 : Nat) : Int) := by omega
    rw [e2] at hit'
    exact hQ _ h' _ hx ⟨hi, hit', tup_at x.2.2 fun o eo => (hs'.2 t ne).trans eo⟩ fun b o hb eo => (hs'.2 b fun h => hb (by simp [h])).trans eo
  done := fun s Q E x hQ => by
    have e : (items.size : Int) - 1 - (items.size : Int) = -1 := by omega
    have hit := x.2.1
    rw [e] at hit
    exact next_rt_end hh hit fun h' he' => hQ h' s.toks fun b o hb eo => he' b o (fun h => hb (by simp [h])) eo
  self := fun _ _ _ _ x hQ => iter_rt x.2.1 hQ
theorem call_hint {it t : Addr} {items : Array Value} {Q : Value → Shared → Prop} (hit : IsRt s.heap it t ((items.size : Int) - 1)) (ht : IsTup s.heap t items) (hn : items.size ≤ sizeLine)
    (hQ : ∀ u tk, s.toks ≤ tk → Q (.int (items.size : Nat) u) { s with toks := tk }) : wpAny (model prog w) A (call (.builtin "reversed.__length_hint__") [.ref it]) Q E s := by
  obtain ⟨o, ho, hc, hd⟩ := id hit
  refine wpAny_call_entry slot_hint hit.typeIs entry_hint ?_ (args_hint _)
  unfold Builtin.«reversed.__length_hint__»
  refine wpAny_bind (wpAny_of_eq (a := Value.ref it) rfl ?_)
  try dsimp only
  refine wpAny_bind (wpAny_field ho hd (x := .ref t) rfl ?_)
  try dsimp only
  rw [if_neg (show ¬ (Value.ref t == Value.none) = true from fun z => nomatch z)]
  have hi : (items.size : Int) < 2 ^ 63 := by rw [sizeLine_eq] at hn; omega
  refine wpAny_bind (len_tuple ht hi ?_)
  refine wpAny_bind (wpAny_of_eq (a := some ((items.size : Nat) : Int)) rfl ?_)
  try dsimp only
  refine wpAny_bind (wpAny_field (s := { s with toks := s.toks + 1 + 1 }) ho hd (x := rawInt ((items.size : Int) - 1)) rfl ?_)
  try dsimp only [rawInt]
  rw [if_neg (by omega)]
  unfold retInt
  refine wpAny_bind (wpAny_mkInt ?_)
  refine wpAny_pure ⟨_, rfl, ?_⟩
  have e : ((items.size : Int) - 1 + 1) = ((items.size : Nat) : Int) := by omega
  rw [e]
  exact hQ _ _ (by show s.toks ≤ s.toks + 1 + 1 + 1; omega)
theorem touch_list {S : Addr} {Q : Unit → Shared → Prop} (hS₁ : s.heap.get? S = some { cls := .type "list", data := .seq ([] : List Value).toArray })
    (hQ : ∀ h' c, h'.get? S = some { cls := .type "list", dict := none, data := .seq #[] c, slots := #[] } → (∀ b o, b ≠ S → s.heap.get? b = some o → h'.get? b = some o) → Q () { s with heap := h' }) : wpAny (model prog w) A (Builtin.List.listTouch (.ref S)) Q E s := by
  show wpAny _ A (updateSeq S (·.push .none) >>= fun _ => updateSeq S (·.pop)) _ _ _
  refine wpAny_bind (wpAny_updateSeq hS₁ rfl ?_)
  have hS₂ := Heap.get?_update_self (Obj.mapSeq (·.push Value.none)) hS₁ rfl
  refine wpAny_updateSeq hS₂ rfl ?_
  have hS₃ := Heap.get?_update_self (Obj.mapSeq (·.pop)) hS₂ rfl
  exact hQ _ _ hS₃ fun b o hb e => (Heap.get?_update_other _ _ (Ne.symm hb)).trans ((Heap.get?_update_other _ _ (Ne.symm hb)).trans e)
theorem collect_rt {it t : Addr} {items : Array Value} {Q : List Value → Shared → Prop} (hh : A.handled = none) (hit : IsRt s.heap it t ((items.size : Int) - 1)) (ht : IsTup s.heap t items) (hne : t ≠ it) (hn : items.size ≤ sizeLine)
    (hQ : ∀ (h' : Heap) (tk : Nat) (acc : Array Value), (∀ b o, b ≠ it → s.heap.get? b = some o → h'.get? b = some o) → ItemsOf (fun i v => items[items.size - 1 - i]? = some v) acc items.size → Q acc.toList { s with heap := h', toks := tk }) :
    wpAny (model prog w) A (collect (.ref it)) Q E s := by
  have W := (walks (prog := prog) (w := w) (A := A.in1) hh it t hne items hn).toS
  obtain ⟨oi, hoi, _⟩ := id hit
  obtain ⟨ol, hol, _⟩ := id ht
  have hSi : s.heap.objs.size ≠ it := Nat.ne_of_gt (Heap.lt_size hoi)
  have hSl : s.heap.objs.size ≠ t := Nat.ne_of_gt (Heap.lt_size hol)
  have hSf : s.heap.objs.size ∉ [it, t] := by simp only [List.mem_cons, List.not_mem_nil, or_false, not_or]; exact ⟨hSi, hSl⟩
  unfold collect
  refine wpAny_bind (wpAny_runValue (codeAny_builtin F.entry_proto_collect ?_))
  rw [Around.under_plainId F.plain_proto_collect _]
  show wpAny _ A.in1 (newList [] >>= fun l' => again (.builtin "list.__iadd__" ⟨[l', .ref it], []⟩)) _ _ s
  refine wpAny_bind (wpAny_newObj_type ?_)
  refine wpAny_pure ⟨plainId_quiet F.plain_list_iadd _, codeAny_builtin F.entry_list_iadd ?_⟩
  rw [Around.under_plainId F.plain_list_iadd _]
  have hS₁ : (s.heap.push { cls := .type "list", data := .seq ([] : List Value).toArray }).get? s.heap.objs.size = some { cls := .type "list", data := .seq ([] : List Value).toArray } := Heap.get?_push_size _ rfl
  have hit1 : IsRt (s.heap.push { cls := .type "list", data := .seq ([] : List Value).toArray }) it t ((items.size : Int) - 1) := hit.at fun o e => Heap.get?_push_of_some _ e
  have hl1 : IsTup (s.heap.push { cls := .type "list", data := .seq ([] : List Value).toArray }) t items := tup_at ht fun o e => Heap.get?_push_of_some _ e
  have hT : ({ s with heap := s.heap.push { cls := .type "list", data := .seq ([] : List Value).toArray } } : Shared).TypeIs (.ref it) "reversed" := IsRt.typeIs (s := { s with heap := s.heap.push { cls := .type "list", data := .seq ([] : List Value).toArray } }) hit1
  have h1 : Builtin.List.listSameRef (.ref s.heap.objs.size) (.ref it) = false := by simp [Builtin.List.listSameRef, hSi]
  show wpAny _ A.in1 (Builtin.List.listExtendWith (.ref s.heap.objs.size) (.ref it) (.ref s.heap.objs.size)) _ _ _
  unfold Builtin.List.listExtendWith
  refine wpAny_bind (wpAny_typeOf hT ?_)
  rw [if_neg (by rw [h1]; decide)]
  refine wpAny_bind (iter_rt (s := { s with heap := s.heap.push { cls := .type "list", data := .seq ([] : List Value).toArray } }) hit1 ?_)
  refine wpAny_bind (wpAny_holding ?_)
  unfold Builtin.List.listLengthHint
  refine wpAny_bind (wpAny_specialOf hT nolen ?_)
  show wpAny _ A.in1 (specialOf (Value.ref it) (Str.ofString "__length_hint__") >>= _) _ _ _
  refine wpAny_bind (wpAny_specialOf hT hint ?_)
  generalize hid : ("reversed.__length_hint__" : String) = id0
  wp_delta
  rw [show splitId id0 = some ("reversed", "__length_hint__") from by subst hid; decide +kernel]
  subst hid
  refine wpAny_bind (wpAny_isInstance (b := true) hT (by rw [isSubtype_type]; kernel_rfl) ?_)
  rw [if_neg (by decide)]
  dsimp only
  rw [if_neg (by decide +kernel)]
  refine wpAny_bind (wpAny_rule ?_)
  refine wpAny_bind (wpAny_of_eq (slot_hint.bind _) ?_)
  try dsimp only
  refine wpAny_bind (wpAny_attempt (call_hint hit1 hl1 hn fun u tk htk => ?_))
  split
  · next e => cases e
  · next e => cases e
  next r _ e =>
  cases e
  rw [asI]
  with_reducible refine wpAny_bind ?_
  with_reducible refine wpAny_pure ?_
  with_reducible dsimp only
  have f1 := fits hn
  have f2 := short hn
  rw [if_neg (show ¬ (!Builtin.List.listFitsIndex ((items.size : Nat) : Int)) = true by rw [f1]; decide), if_neg (show ¬ ((items.size : Nat) : Int) < 0 by omega), if_neg (show ¬ Builtin.List.listTooLong ((items.size : Nat) : Int).toNat = true by rw [f2]; decide)]
  refine wpAny_pure ?_
  have e0 : ((items.size : Nat) : Int) - 1 - ((0 : Nat) : Int) = (items.size : Int) - 1 := by omega
  have fin : ∀ s1 : Shared, Moved (s.heap.objs.size :: [it]) (fun a b => b = a) { s with heap := s.heap.push { cls := .type "list", data := .seq ([] : List Value).toArray } } s1 → ∀ c, s1.heap.get? s.heap.objs.size = some { cls := .type "list", dict := none, data := .seq #[] c, slots := #[] } → IsRt s1.heap it t ((items.size : Int) - 1) → IsTup s1.heap t items →
      wpAny (model prog w) A.in1 (again (.builtin "list.extend.loop" ⟨[.ref s.heap.objs.size, .ref it, .ref s.heap.objs.size], []⟩)) (fun fin s' =>
          match fin with
          | Fin.done f =>
            match (Except.ok f : Except Value Flow) with
            | Except.ok (Flow.ret v) => wpAny (model prog w) A (match v with
                | Value.ref a => do
                  let __do_lift ← load a
                  match __do_lift.data with
                    | Data.seq xs epoch => pure xs.toList
                    | x => unsupported "internal:collect"
                | x => unsupported "internal:collect") Q E s'
            | Except.ok a => False
            | Except.error e => E e s'
          | Fin.again c' => c'.quiet = true ∧ codeAny (model prog w) A c' (fun r s' =>
                  match r with
                  | Except.ok (Flow.ret v) => wpAny (model prog w) A (match v with
                      | Value.ref a => do
                        let __do_lift ← load a
                        match __do_lift.data with
                          | Data.seq xs epoch => pure xs.toList
                          | x => unsupported "internal:collect"
                      | x => unsupported "internal:collect") Q E s'
                  | Except.ok a => False
                  | Except.error e => E e s') s') (fun e s' => E e s') s1 := fun s1 hm0 c hS q1 q2 => by
    refine wpAny_pure ⟨plainId_quiet F.plain_extend_loop _, codeAny_extend_loopS W hn _ hSf _ items.size 0 _ _ _ rfl (Nat.zero_le _) ⟨Nat.zero_le _, by rw [e0]; exact q1, q2⟩ hS (ItemsOf.nil _) fun s' acc' c' hm hS' hacc => ?_⟩
    show wpAny _ A (load s.heap.objs.size >>= _) _ _ s'
    refine wpAny_bind (wpAny_load hS' ?_)
    refine wpAny_pure ?_
    have hm1 := Moved.trans W.gtrans hm0 hm
    rw [Moved.eq_with hm1]
    refine hQ s'.heap s'.toks acc' (fun b o hb e => hm1.heap b o (fun hmem => ?_) (Heap.get?_push_of_some _ e)) hacc
    rcases List.mem_cons.mp hmem with e' | hmem
    · exact absurd (Heap.lt_size e) (by rw [e']; exact Nat.lt_irrefl _)
    · exact hb (List.mem_singleton.mp hmem)
  have h0 : ∀ h', (∀ b o, b ∉ s.heap.objs.size :: [it] → (s.heap.push { cls := .type "list", data := .seq ([] : List Value).toArray }).get? b = some o → h'.get? b = some o) → Moved (s.heap.objs.size :: [it]) (fun a b => b = a) { s with heap := s.heap.push { cls := .type "list", data := .seq ([] : List Value).toArray } } { s with heap := h', toks := tk } :=
    fun h' hk => ⟨hk, rfl, rfl, rfl, htk⟩
  split
  · refine wpAny_bind (wpAny_rule ?_)
    refine wpAny_bind (touch_list (s := { s with heap := s.heap.push { cls := .type "list", data := .seq ([] : List Value).toArray }, toks := tk }) hS₁ fun h' c hS₃ oth => ?_)
    exact fin _ (h0 _ fun b o hb e => oth b o (fun z => hb (by rw [z]; simp)) e) _ hS₃ (hit1.at fun o e => oth _ o (Ne.symm hSi) e) (tup_at hl1 fun o e => oth _ o (Ne.symm hSl) e)
  · exact fin _ (h0 _ fun b o hb e => e) _ hS₁ hit1 hl1
theorem code_tuple_new_rt {it t : Addr} {items : Array Value} {Q₁ : Value → Shared → Prop} (hh : A.handled = none) (hit : IsRt s.heap it t ((items.size : Int) - 1)) (hl : IsTup s.heap t items) (hne : t ≠ it) (hn : items.size ≤ sizeLine)
    (h : ∀ (h' : Heap) (tk : Nat) (acc : Array Value), (∀ b o, b ≠ it → s.heap.get? b = some o → h'.get? b = some o) → ItemsOf (fun i v => items[items.size - 1 - i]? = some v) acc items.size →
      Q₁ (.ref h'.objs.size) { s with heap := h'.push { cls := .type "tuple", data := .seq acc }, toks := tk }) :
    codeAny (model prog w) A (.call (.builtin "tuple.__new__") ⟨[.type "tuple", .ref it], []⟩) (wants Q₁ E) s := by
  refine codeAny_of_tree ?_
  show wpAny _ A.in1 (do checkBuiltinCall "tuple.__new__" ⟨[.type "tuple", .ref it], []⟩; again (.builtin "tuple.__new__" ⟨[.type "tuple", .ref it], []⟩)) _ _ s
  refine wpAny_bind (wpAny_of_eq (F.newCall_tuple_1 _) (wpAny_pure ⟨plainId_quiet F.plain_tuple_new _, codeAny_builtin F.entry_tuple_new ?_⟩))
  rw [Around.under_plainId F.plain_tuple_new _]
  have hsub := sub_tuple_self
  have hinit := init_tuple_lookup
  have hmh := madeHere_tuple
  have hTI : s.TypeIs (.ref it) "reversed" := hit.typeIs
  have hh1 : A.in1.handled = none := hh
  wp_walk using wpAny_typeOf hTI, collect_rt (A := A.in1) hh1 hit hl hne hn
  intro h' tk acc hk hacc
  show wpAny _ _ (Builtin.Tuple.tupleExact acc.toList.toArray >>= fun v => ret v) _ _ _
  unfold Builtin.Tuple.tupleExact
  refine wpAny_bind (wpAny_newObj_type ?_ (by show acc.toList.toArray.size ≤ sizeLine; simp only [Array.toArray_toList]; rw [hacc.1]; exact hn))
  refine wpAny_pure ?_
  have e : acc.toList.toArray = acc := by simp
  rw [e]
  exact h h' tk acc hk hacc
theorem call_tuple_rt {it t : Addr} {items : Array Value} {Q : Value → Shared → Prop} (hh : A.handled = none) (hit : IsRt s.heap it t ((items.size : Int) - 1)) (hl : IsTup s.heap t items) (hne : t ≠ it) (hn : items.size ≤ sizeLine)
    (hQ : ∀ (h' : Heap) (tk : Nat) (acc : Array Value), (∀ b o, b ≠ it → s.heap.get? b = some o → h'.get? b = some o) → ItemsOf (fun i v => items[items.size - 1 - i]? = some v) acc items.size →
      Q (.ref h'.objs.size) { s with heap := h'.push { cls := .type "tuple", data := .seq acc }, toks := tk }) :
    wpAny (model prog w) A (call (.type "tuple") [.ref it]) Q E s := by
  refine callType_codes (Q₁ := fun obj s₁ => s₁.TypeIs obj "tuple" ∧ Q obj s₁) F.called_tuple (F.typeCall_tuple_1 _) F.entry_object_init
    (code_tuple_new_rt (A := A.in1) hh hit hl hne hn fun h' tk acc hk hacc => ⟨⟨_, Heap.get?_push_size _ rfl, rfl⟩, hQ h' tk acc hk hacc⟩) fun obj s₁ h₁ => ?_
  exact ⟨h₁.1, F.args_object_init_2 obj _, object_init_meets F.called_tuple.init.lookup F.called_tuple.made (by decide) prog w A.in1 _ s₁ ⟨h₁.1, rfl, h₁.2⟩⟩
end
/-- tuple(reversed(x)), x a tuple: a new tuple -/
def tTupRevT (K : PySem.W.Frag) (te : TE) : TE := fun σ H Q => te σ H fun v H1 => ∃ (a : Addr) (xs : List V), v = .ref a ∧ SqT K H1 a xs ∧ ∀ q, H1 q = none → Q (.ref q) (upd H1 q (.tup xs.reverse))
theorem pe_tupRevT {X : Cx} {e : Expr} {te : TE} {p p2 pos pos2 : Pos} (hc : X.calm = true) (hg : Gl X "tuple") (hm : X.mg "tuple" = none) (hg2 : Gl X "reversed") (hm2 : X.mg "reversed" = none) (he : PE X e te)
    (hs : starEach [e] X.env = (false, eval e X.env) :: starEach [] X.env := by rfl)
    (hs2 : starEach [.Call (.Name "reversed" p2) [e] [] pos2] X.env = (false, eval (.Call (.Name "reversed" p2) [e] [] pos2) X.env) :: starEach [] X.env := by rfl) :
    PE X (.Call (.Name "tuple" p) [.Call (.Name "reversed" p2) [e] [] pos2] [] pos) (tTupRevT X.K te) := by
  refine ⟨fun pins s σ H Q I h => ?_⟩
  refine Call_ (ld_blt I hg hm boot_tuple (PyProof.Rows.callWith_type1 (args_cons (Call_ (ld_blt I hg2 hm2 PyProof.Rows.boot_reversed (PyProof.Rows.callWith_type1 (args_cons (thn (he.run pins s σ H _ I h) fun u s1 ⟨v, H1, I1, r1, q1⟩ => args_nil ?_) hs) hs rfl))) hs2) hs2 rfl))
  obtain ⟨a, xs, ev, hq, q⟩ := q1
  subst ev
  obtain rfl : u = Value.ref a := r1
  obtain ⟨its, rv, p', hz⟩ := I1.tuple hq
  have hl0 := rv.length
  have hn63 := line63
  refine call_reversed_tup p' (fun A E Q k => len_tuple p' (by simp only [List.size_toArray] <;> omega) k) (args_nil ?_)
  have k0 : ∀ b o, s1.heap.get? b = some o → (s1.heap.push (rtObj a ((its.toArray.size : Int) - 1))).get? b = some o := fun b o e => Heap.get?_push_of_some _ e
  have I2 : Inv X pins σ H1 { s1 with heap := s1.heap.push (rtObj a ((its.toArray.size : Int) - 1)), toks := s1.toks + 1 + 1 } := I1.kept (t' := s1.toks + 1 + 1) k0
  obtain ⟨f0, f1, f2, f3, f4, f5⟩ := I1.fpOk (H' := H1) (b := s1.heap.objs.size) (Nat.le_refl _) (I1.hok.fresh (Nat.le_refl _))
  obtain ⟨ol, hol, _⟩ := id p'
  have hne : a ≠ s1.heap.objs.size := Nat.ne_of_lt (Heap.lt_size hol)
  have hn : its.toArray.size ≤ sizeLine := by rw [List.size_toArray, ← rv.length]; exact hz
  refine call_tuple_rt (s := { s1 with heap := s1.heap.push (rtObj a ((its.toArray.size : Int) - 1)), toks := s1.toks + 1 + 1 }) (I1.ok.hd hc) ⟨_, Heap.get?_push_size _ rfl, rfl, rfl⟩ (tup_at p' fun o e => k0 _ _ e) hne hn fun h' tk acc hk hi => ?_
  have I3 : Inv X pins σ H1 { s1 with heap := h', toks := tk } := I2.turned (t' := tk) (fun b o hb e => hk b o hb e) f0 f1 f3 f4 f5
  refine ⟨.ref h'.objs.size, upd H1 h'.objs.size (.tup xs.reverse), I3.laid (t' := tk) (fun c o e => Heap.get?_push_of_some _ e) (Nat.le_refl _) (show ObjOk X.prog X.w _ _ _ (.tup xs.reverse) from ⟨by rw [List.length_reverse]; exact hz, acc.toList, vals_rev rv hi, ?_⟩), rfl, q _ (I3.hok.fresh (Nat.le_refl _))⟩
  rw [Array.toArray_toList]
  exact IsTup.new _ _
end Rt
set_option Elab.async false
set_option linter.all false
set_option maxRecDepth 100000
set_option maxHeartbeats 4000000
/-! Ru: tuple(reversed(tuple)) over data. -/
namespace Dw
open PySem PySem.Spec PyProof.Rows L2
theorem kTupRev {X : Cx} {K : PySem.W.Frag} {e : Expr} {te : TE} {p p2 pos pos2 : Pos} (hc : X.calm = true) (hg : Gl X "tuple") (hm : X.mg "tuple" = none) (hg2 : Gl X "reversed") (hm2 : X.mg "reversed" = none) (he : PE X e te)
    (eK : X.K = K := by rfl) (hs : starEach [e] X.env = (false, eval e X.env) :: starEach [] X.env := by rfl)
    (hs2 : starEach [.Call (.Name "reversed" p2) [e] [] pos2] X.env = (false, eval (.Call (.Name "reversed" p2) [e] [] pos2) X.env) :: starEach [] X.env := by rfl) :
    PE X (.Call (.Name "tuple" p) [.Call (.Name "reversed" p2) [e] [] pos2] [] pos) (Rt.tTupRevT K te) := eK ▸ Rt.pe_tupRevT hc hg hm hg2 hm2 he hs hs2
section
variable {S : Type} {W : Wd S} {G : Gm S} {K : PySem.W.Frag}
@[simp] def wTupRev (wa : WE S) : WE S := fun env s k x => wa env s (fun d s1 => match d with
  | .tup ds => k (.tup ds.reverse) s1
  | _ => False) x
theorem sim_tupRev {ta : TE} {wa : WE S} (h : SimG W G ta wa) : SimE W G (Rt.tTupRevT K ta) (wTupRev wa) := fun R env σ H s rl k x hw ox Q hQ => h R env σ H s rl _ x hw ox _ fun d s1 v H1 hw1 f1 j1 a1 => by
  have at1 := (rl.step f1 j1).at_
  cases d with
  | tup ds =>
    obtain ⟨p, ys, rfl, e, l, _, lz⟩ := a1.tupI
    exact ⟨p, ys, rfl, .of e, fun q hq => hQ _ s1 _ _ hw1 (f1.trans (.new_at hq at1)) (at1.new_at hq).j (.tup upd_same (at1.fresh hq) (l.rev.mv (Fr.new_at hq at1).mv) (by rw [List.length_reverse]; exact lz))⟩
  | _ => exact hw1.elim
end
end Dw
set_option Elab.async false
set_option linter.all false
set_option maxRecDepth 100000
set_option maxHeartbeats 4000000
/-! Mk: an instance made, its __init__ promised where no repr is under way (Gl.Fn). -/
namespace Gl
open PySem PySem.Spec PyProof.Rows L2
theorem gd_make {A : Around} (h : A.guards = some []) (C : Addr) (us : List Value) (kw : List (Str × Value)) : (A.under (.builtin "type.__call__" ⟨.ref C :: us, kw⟩)).guards = some [] := by
  rw [← h]
  first | rfl | (simp [Around.under]; done) | kernel_rfl
section
variable {X : Cx} {k j : Nat} {f C : Addr} {fd : FuncData} {ps : List Str} {sp : Sp} {E : L2.St → XK} {x : Str} {p pos : Pos} {e : Expr} {es : List Expr} {t : TA}
/-- C(..) -/
def tMk (C : Addr) (sp : Sp) (E : L2.St → XK) (t : TA) : TE := fun σ H Q => t σ H fun vs H1 => ∀ a dx, H1 a = none → H1 dx = none → dx ≠ a →
  sp (.ref a :: vs) (upd (upd H1 dx (.own a)) a (.ins C dx [])) (fun v H2 => v = .non ∧ Q (.ref a) H2) (E σ)
theorem run_mk {pins : List (Addr × Obj)} {σ : L2.St} {H : Hp} {s : Shared} {Q : VK} {us : List Value} {vs : List V} {E' : XK} (M : Mk X.K C f) (F : Fn X.prog X.w X.K X.mg X.base k f fd ps sp) (hr : Room (k + 1) X.A) (hG : X.A.guards = some []) (hb : Binds X.K fd ps [])
    (hx : PassesAt (L2.CX X.prog X.w) X σ E') (I : Inv X pins σ H s) (r : Vals vs us)
    (h : ∀ a dx, H a = none → H dx = none → dx ≠ a → sp (.ref a :: vs) (upd (upd H dx (.own a)) a (.ins C dx [])) (fun v H2 => v = .non ∧ Q (.ref a) H2) E') :
    wpAny (model X.prog X.w) X.A (call (.ref C) us) (EP X pins σ Q) X.xe s := by
  have hq := h (s.heap.objs.size + 1) s.heap.objs.size (I.hok.fresh (Nat.le_succ _)) (I.hok.fresh (Nat.le_refl _)) (Nat.ne_of_lt (Nat.lt_succ_self _))
  have I2 := Inv.made (C := C) I
  have r2 : Vals (V.ref (s.heap.objs.size + 1) :: vs) (Value.ref (s.heap.objs.size + 1) :: us) := .cons rfl r
  have hl : (Value.ref (s.heap.objs.size + 1) :: us ++ []).length = ps.length := by
    have e := r2.length
    rw [F.many _ _ _ _ hq] at e
    rw [List.append_nil]
    exact e.symm
  have b := hb _ (Value.ref (s.heap.objs.size + 1) :: us) I2.kIn hl
  rw [List.append_nil] at b
  refine wpAny_call (make_map (f := f) I.kIn M.makes M.init (beq_iff_eq.mp M.fn) (codeAny_mono (F.go _ X.stack _ _ ⟨Value.ref (s.heap.objs.size + 1) :: us, []⟩ (Value.ref (s.heap.objs.size + 1) :: us) _ _ E' (hr.make C us [])
    (gd_make hG C us []) (I2.env0.make C us []) b r2 hq) fun r s' hq' => ?_))
  cases r with
  | error e => exact hx pins _ _ e s' I2 hq'
  | ok fl =>
    cases fl with
    | ret u =>
      obtain ⟨v, H', I3, rv, ev, q3⟩ := I2.after hq'
      subst ev
      exact ⟨rv, ⟨V.ref (s.heap.objs.size + 1), H', I3, rfl, q3⟩⟩
    | next => exact False.elim hq'
    | brk => exact False.elim hq'
    | cont => exact False.elim hq'
theorem pe_mk (M : Mk X.K C f) (F : Fn X.prog X.w X.K X.mg X.base k f fd ps sp) (hr : Room j X.A) (hk : k + 1 ≤ j) (hG : X.A.guards = some []) (hg : Gl X x) (hm : X.mg x = some (.ref C)) (hb : Binds X.K fd ps []) (hx : ∀ σ, PassesAt (L2.CX X.prog X.w) X σ (E σ))
    (ha : PA X (e :: es) t) (hdb : (x == ("__debug__" : Str)) = false := by decide) (he : starEach (e :: es) X.env = (false, eval e X.env) :: starEach es X.env := by rfl) (hpl : (backTo pos (starEach es X.env)).any (·.1) = false := by rfl) :
    PE X (.Call (.Name x p) (e :: es) [] pos) (tMk C sp E t) := by
  refine ⟨fun pins s σ H Q I h => ?_⟩
  refine wpAny_Call_Name_kw (ld_glob I hg hm ?_ hdb)
  refine PySem.W.callWith_K (h₀ := X.base) I.ok.mod.kin M.kp (thn (ha.run pos pins s σ H _ I h) fun us s1 ⟨vs, H1, I1, r, q⟩ => ⟨I1.kIn, ?_⟩) he hpl
  exact run_mk M F (hr.mono hk) hG hb (hx σ) I1 r q
end
end Gl
set_option Elab.async false
set_option linter.all false
set_option maxRecDepth 100000
set_option maxHeartbeats 4000000
/-! Xr: an own error that keeps its part, raised. -/
namespace L2
open PySem PySem.Spec PyProof.Rows
section
variable {X : Cx}
/-- raise C(e) -/
def tRaE (C : Addr) (fld : Str) (te : TE) : L2.St → Hp → XK → Prop := fun σ H Q => te σ H fun v H1 => ∀ d, H1 d = none → Q (.ref C) (some d) (upd H1 d (.xd [(fld, v)]))
theorem pmk_mkE {x : Str} {a : Expr} {te : TE} {p pos : Pos} {k : Nat} {C : Addr} {fld : Str} (T : Ex.BadC X.prog X.K C fld) (hR : Raises X (.ref C)) (hm : X.mg x = some (.ref C)) (hs : X.mg "super" = none) (hr : Room k X.A) (hk : 2 ≤ k) (ha : PE X a te) (hg : Gl X x)
    (hd : (x == ("__debug__" : Str)) = false := by decide) (he : starEach (a :: []) X.env = (false, eval a X.env) :: starEach [] X.env := by rfl) (hpl : (backTo pos (starEach [] X.env)).any (·.1) = false := by rfl) :
    PMk X (.Call (.Name x p) [a] [] pos) (tRaE C fld te) := by
  intro pins s σ H Q I h
  refine wpAny_Call_Name_kw (ld_glob I hg hm ?_ hd)
  refine PySem.W.callWith_K (h₀ := X.base) I.ok.mod.kin T.kC ?_ he hpl
  rw [he]
  show wpAny _ _ (spliced ((false, eval a X.env) :: backTo pos (starEach [] X.env))) _ _ s
  refine Calls.spliced_cons (thn (ha.run pins s σ H _ I h) fun u s1 ⟨v, H1, I1, r1, q1⟩ => ?_)
  refine Calls.spliced_nil ⟨I1.kIn, ?_⟩
  show wpAny _ _ (call (.ref C) [u]) _ _ _
  have hlim := I1.nolimit
  have E0 := I1.env0
  obtain ⟨hp, g, dr, tk, os⟩ := s1
  obtain ⟨mb, hb, hbb⟩ := E0.mod.blt
  refine wpAny_call (Ex.bad_made T I1.kIn (E0.mod.glob.keeps fun b o q => (E0.bs b o q).1) hs (hb.keeps fun b o q => (E0.bs b o q).1) ((hbb "super" (by decide)).trans rfl) hlim (by have := hr.dp; omega) fun h' tk' e d M => ?_)
  obtain ⟨t1, hoe⟩ := M.obj
  have hns := M.ns
  obtain ⟨G', g1, g2⟩ := restrict h' fun b => decide (b ≠ e)
  have gk : ∀ b, b ≠ e → G'.get? b = h'.get? b := fun b hb => g1 b (decide_eq_true hb)
  have ge : G'.get? e = none := g2 e (by simp)
  have old : ∀ b o, hp.get? b = some o → G'.get? b = some o := fun b o q => (gk b (Nat.ne_of_lt (Nat.lt_of_lt_of_le (Heap.lt_size q) M.new))).trans (M.keep b o q)
  have ob : ObjOk X.prog X.w (upd H1 d (.xd [(fld, v)])) G' d (.xd [(fld, v)]) :=
    ⟨_, hns.at (fun o q => (gk d M.dne).trans q), fun f => relO_one r1 f⟩
  have J : Inv X pins σ (upd H1 d (.xd [(fld, v)])) ⟨G', g, dr, tk', os⟩ := I1.laid (t' := tk') old M.dbig ob
  have hd1 : H1 d = none := I1.hok.fresh M.dbig
  have he1 : H1 e = none := I1.hok.fresh M.new
  have he2 : upd H1 d (.xd [(fld, v)]) e = none := by rw [upd_ne (Ne.symm M.dne)]; exact he1
  have kk : ∀ b u, G'.get? b = some u → h'.get? b = some u := fun b u q => by
    by_cases hb : b = e
    · rw [hb, ge] at q; cases q
    · rw [← gk b hb]; exact q
  exact ⟨e, _, _, _, _, .ref C, some d, rfl, J, kk, ge, hoe, ⟨rfl, rfl⟩, rfl, rfl, he2, rfl, J.bare, hR, q1 d hd1⟩
end
end L2
namespace Dw
open PySem PySem.Spec PyProof.Rows L2
section
variable {S : Type} {W : Wd S} {G : Gm S}
@[simp] def wRaise (C : Addr) (fld : Str) (we : WE S) : WS S := fun KK env s => we env s (fun d s1 => KK.xc ⟨C, [(fld, d)]⟩ s1) KK.xc
theorem ss_raise {C : Addr} {fld : Str} {te : TE} {we : WE S} (he : SimE W G te we) : SimS W G (fun _ σ H => tRaE C fld te σ H fun cls d H' => G.E cls d H') (wRaise C fld we) := fun R env σ H s rl KK hw Dn e => by
  refine he R env σ H s rl _ KK.xc hw e.xc _ fun d s1 v H1 hw1 f1 j1 a1 => fun p hp => ?_
  have rl1 := rl.step f1 j1
  have at1 := rl1.at_
  have sub : ∀ a, Bf W G.R0 s1 a → Bf W R s1 a := fun a z => z.imp (rl1.r0 a) id
  refine e.xc ⟨C, [(fld, d)]⟩ s1 _ _ _ hw1 (rl1.fr.trans (.new_at hp at1)) (at1.new_at hp).j ⟨rfl, .inr ⟨p, _, rfl, upd_same, fun z => at1.fresh hp (sub p z), ?_⟩⟩
  exact .cons ((a1.mv (Fr.new_at hp at1).mv).imp sub) .nil
end
end Dw
set_option Elab.async false
set_option linter.all false
set_option maxRecDepth 100000
set_option maxHeartbeats 4000000
/-! Mw: instances made, over data: what an __init__ promises (spIni), the word of C(..). -/
namespace Dw
open PySem PySem.Spec PyProof.Rows L2
section
variable {S : Type}
/-- an __init__: wf says (as of a def) what instance comes of it -/
def spIni (W : Wd S) (C : Addr) (wf : List D → S → (D → S → Prop) → (Xc → S → Prop) → Prop) : Sp := fun vs H Q E => ∃ (R : Addr → Prop) (s : S) (k : D → S → Prop) (x : Xc → S → Prop) (a dx : Addr) (vs0 : List V) (ds : List D),
  vs = .ref a :: vs0 ∧ H a = some (.ins C dx []) ∧ R a ∧ At W R s H ∧ DaL (Bf W R s) H vs0 ds ∧ wf ds s k x ∧
  (∀ fs s' vF H', k (.obj C fs) s' → Fr W s H s' H' → W.J s' H' → DaF (Bf W R s') H' vF fs → Q .non (upd H' a (.ins C dx vF))) ∧
  ∀ c s' cls d H', x c s' → Fr W s H s' H' → W.J s' H' → XcR (Bf W R s') H' c cls d → E cls d H'
variable {W : Wd S} {G : Gm S}
theorem sim_mk {C : Addr} {wf : List D → S → (D → S → Prop) → (Xc → S → Prop) → Prop} {ta : TA} {wa : WA S} (ha : SimA W G ta wa) :
    SimE W G (Gl.tMk C (spIni W C wf) (fun _ => G.E) ta) (wCall wf wa) := fun R env σ H s rl k x hw ox Q hQ => ha R env σ H s rl _ x hw ox _ fun ds s1 vs H1 hw1 f1 j1 a1 => by
  intro a dx ha1 hdx ne
  have r1 := rl.step f1 j1
  have at1 := r1.at_
  have nCa : ¬ W.C s1 a := fun c => W.tr s1 H1 a at1.j c ha1
  have at2 : At W R s1 (upd H1 dx (.own a)) := at1.new_at hdx
  have ha2 : upd H1 dx (.own a) a = none := by rw [upd_ne (Ne.symm ne)]; exact ha1
  have at3 : At W R s1 (upd (upd H1 dx (.own a)) a (.ins C dx [])) := at2.new_at ha2
  have f2 : Fr W s1 H1 s1 (upd (upd H1 dx (.own a)) a (.ins C dx [])) := (Fr.new_at hdx at1).trans (Fr.new_at ha2 at2)
  have at4 : At W (fun y => R y ∨ y = a) s1 (upd (upd H1 dx (.own a)) a (.ins C dx [])) := ⟨at3.j, fun y r => by
    rcases r with r | rfl
    · exact at3.r y r
    · exact ⟨by rw [upd_same]; simp, nCa⟩⟩
  have mv : Mv (Bf W R s1) H1 (Bf W (fun y => R y ∨ y = a) s1) (upd (upd H1 dx (.own a)) a (.ins C dx [])) := fun b o e n => by
    have nb : b ≠ a := fun z => by rw [z, ha1] at e; cases e
    have nd : b ≠ dx := fun z => by rw [z, hdx] at e; cases e
    refine ⟨by rw [upd_ne nb, upd_ne nd]; exact e, fun z => ?_⟩
    rcases z with (z | z) | z
    · exact n (.inl z)
    · exact nb z
    · exact n (.inr z)
  refine ⟨fun y => R y ∨ y = a, s1, k, x, a, dx, vs, ds, rfl, upd_same, .inr rfl, at4, a1.mv mv, hw1, fun fs s' vF H' hk f j da => ⟨rfl, ?_⟩, fun c s' cls d H' hx f j a2 => ?_⟩
  · have at5 := at4.fr f j
    have nC : ¬ W.C s' a := (at5.r a (.inr rfl)).2
    have f3 : Fr W s1 H1 s' (upd H' a (.ins C dx vF)) := ⟨fun b o e n => by
      have nb : b ≠ a := fun z => by rw [z, ha1] at e; cases e
      rw [upd_ne nb]
      exact (f2.trans f).kp b o e n, (f2.trans f).grow, (f2.trans f).new⟩
    have j' : W.J s' (upd H' a (.ins C dx vF)) := W.st s' H' _ j fun y c => by
      rw [upd_ne fun z => nC (by rw [← z]; exact c)]
    have mv2 : Mv (Bf W (fun y => R y ∨ y = a) s') H' (Bf W R s') (upd H' a (.ins C dx vF)) := fun b o e n => by
      have nb : b ≠ a := fun z => n (.inl (.inr z))
      refine ⟨by rw [upd_ne nb]; exact e, fun z => n (z.imp .inl id)⟩
    have nB : ¬ Bf W R s' a := fun z => by
      rcases z with z | z
      · exact (at1.r a z).1 ha1
      · exact nC z
    exact hQ _ s' _ _ hk (f1.trans f3) j' (.obj upd_same nB (da.mv mv2))
  · exact ox c s' cls d H' hx (r1.fr.trans (f2.trans f)) j (a2.imp fun b z => by
      rcases z with z | z
      · exact .inl (.inl (r1.r0 b z))
      · exact .inr z)
end
end Dw
set_option Elab.async false
set_option linter.all false
set_option maxRecDepth 100000
set_option maxHeartbeats 4000000
/-! Ty: try .. except C as n, with more clauses behind it that are never asked: each exception of the body is a C. -/
namespace L2
open PySem PySem.Spec PyProof.Rows
/-- what the first clause wishes: it takes the exception for certain -/
def wAsR (K : PySem.W.Frag) (c : Value) (i : Nat) (ts : Addr → Value → Option Addr → TS) (D : Ends) : WX := fun cls d σ H =>
  PySem.W.exmOne K cls c = some true ∧ ∀ a, H a = none → ts a cls d { nx := fun σ' H' => D.nx (σ'.set i none) H', rt := D.rt, bk := fun σ' H' => D.bk (σ'.set i none) H', ct := fun σ' H' => D.ct (σ'.set i none) H' } (σ.set i (some (.ref a))) H
section
variable {X : Cx} {x n : Str} {c : Value} {i : Nat} {body suite : List Stmt} {b₀ : Stmt} {np pos pos' : Pos} {tb : WX → TS} {ts : Addr → Value → Option Addr → TS} {rest : List ExceptHandler}
theorem ps_try_asR (hs : X.stack = X.env :: X.outer) (hf : X.env.frame = some X.env.locals) (hN : X.N.Nodup) (hi : X.N[i]? = some n) (hln : X.env.kindOf n = some .local) (hc : Names X x c)
    (hb : ∀ (W : WX) (pn : List (Addr × Obj)) (xe : Value → Shared → Prop), Takes (X.tr pn xe) W → PassesOwn (model X.prog X.w) X.A X.env xe → PSs (X.tr pn xe) body (tb W))
    (hsu : ∀ (a : Addr) (oe : Obj) (cls : Value) (d : Option Addr) (pn : List (Addr × Obj)), Zc cls d oe → (∃ vs, oe.data = .fields vs) → PSs (X.suite a ((a, oe) :: pn)) (b₀ :: suite) (ts a cls d)) :
    PS X (.Try body (.ExceptHandler (some (.Name x np)) (some n) (b₀ :: suite) pos' :: rest) [] [] pos) (fun D σ H => tb (wAsR X.K c i ts D) D σ H) := by
  refine ⟨fun pins s σ H D I h => ?_⟩
  have ok := I.ok
  have hfr : X.A.frames = some (X.env :: X.outer) := by rw [ok.frames, hs]
  have hloc : Loc X.env.scope n := .inl hln
  refine wpAny_Try_except ?_
  refine wpAny_mono ((hb (wAsR X.K c i ts D) (X.pn ++ pins) (fun e s₁ => wpAny (model X.prog X.w) X.A (noteFrame e X.env) (fun _ s₂ => wpAny (model X.prog X.w) X.A (setFlight e none) (fun _ s₃ =>
    wpAny (model X.prog X.w) X.A (handleBy e X.env (.ExceptHandler (some (.Name x np)) (some n) (b₀ :: suite) pos' :: rest)) (SP X pins D) X.xe s₃) X.xe s₂) X.xe s₁) (fun u s' xx => ?_) PassesOwn.looking).run [] s σ H D (I.toTry _) h) (fun f s1 hsp => ?_) (fun e s1 he => he)
  · obtain ⟨a, B, sI, pins', σ', H', cls, d, rfl, J', nb, up, sky, na, os, ag, hb1, hyes⟩ := xx
    have J : Inv X pins σ' H' sI := J'.ofTry ok
    have sky' : Sky B (X.env :: X.outer) a (Zc cls d) X.env.locals s'.heap := by rw [← hs]; exact sky
    show wpAny (model X.prog X.w) X.A (noteFrame (.ref a) X.env) _ _ _
    refine Sky.land Zc.steady hfr hf sky' fun h3 fl3 up3 => ?_
    have J3 : Inv X pins σ' H' { s' with heap := h3 } := J.landed nb fl3.1 (up.trans up3) os ag
    obtain ⟨oe3, vs3, he3, hz3, hd3⟩ := fl3.there
    have nfr : a ∉ frs (X.env :: X.outer) := fun hm => by
      obtain ⟨_, o', e', hnf⟩ := fl3.2.2.1.mem hm
      rw [he3] at e'; cases e'
      exact hnf _ hd3
    have nL : a ≠ X.env.locals := fun z => nfr (List.mem_filterMap.mpr ⟨X.env, List.mem_cons_self, by rw [hf, z]⟩)
    have nF : a ∉ X.fs := fun hm => by
      obtain ⟨e, he, q⟩ := List.mem_filterMap.mp hm
      exact nfr (List.mem_filterMap.mpr ⟨e, List.mem_cons_of_mem _ he, q⟩)
    have S3 := J3.suite he3 hd3 na nL nF
    refine wpAny_handleBy_cons (codeAny_handlers_test ?_) (by intro q; cases q)
    have LT : PySem.W.Looks (model X.prog X.w) h3 (typeOf (.ref a)) cls := fun A Q E s k q => wpAny_typeOf_ref (k _ _ he3) (by rw [hz3.1]; exact q)
    have LM := PySem.W.exm_one (M := model X.prog X.w) (J3.kIn) LT hb1
    have test : ∀ {Q : Value → Shared → Prop} {E : Value → Shared → Prop}, Q c { s' with heap := h3 } → wpAny (model X.prog X.w) (X.A.mark (some (.ref a))) (eval (.Name x np) X.env) Q E { s' with heap := h3 } := fun {Q E} q => by
      obtain ⟨hg, hdbg, hm | ⟨hm, hv, hnn⟩⟩ := hc
      · exact ld_glob (X := X.suite a ((a, oe3) :: (X.pn ++ pins))) S3 hg hm q hdbg
      · exact ld_blt (X := X.suite a ((a, oe3) :: (X.pn ++ pins))) S3 hg hm hv q hnn hdbg
    refine test (LM.here ?_)
    refine codeAny_handlers_suite_as ?_
    refine HandSPX.lands_againZ fl3 fun h4 fl4 up4 => ?_
    have J4 : Inv X pins σ' H' { s' with heap := h4 } := J.landed nb fl4.1 ((up.trans up3).trans up4) os ag
    obtain ⟨oe4, vs4, he4, hz4, hd4⟩ := fl4.there
    have S4 := J4.suite he4 hd4 na nL nF
    refine store_ok (X := X.suite a ((a, oe4) :: (X.pn ++ pins))) (v := .ref a) S4 hN hi hloc rfl (fun s5 S5 => ?_) (.inr hln)
    refine wpAny_mono ((hsu a oe4 cls d (X.pn ++ pins) hz4 ⟨_, hd4⟩).run [] s5 _ H' _ S5 (hyes a na)) (fun f s6 hsp => ?_) (fun _ _ z => False.elim z)
    have end_ : ∀ {σ6 : L2.St} {H6 : Hp} {Q : Shared → Prop}, Inv (X.suite a ((a, oe4) :: (X.pn ++ pins))) [] σ6 H6 s6 → (∀ s7, Inv X pins (σ6.set i none) H6 s7 → Q s7) →
        wpAny (model X.prog X.w) X.A (do bindName X.env n .none; unbindBehindTheSuite X.env n pos') (fun _ s7 => Q s7) X.xe s6 := fun {σ6 H6 Q} S6 hq => gone_ok (S6.unsuite ok) hN hi hln hq
    cases f with
    | next =>
      obtain ⟨σ6, H6, S6, q6⟩ := hsp
      exact end_ S6 fun s7 J7 => ⟨_, _, J7, q6⟩
    | brk =>
      obtain ⟨σ6, H6, S6, q6⟩ := hsp
      exact end_ S6 fun s7 J7 => ⟨_, _, J7, q6⟩
    | cont =>
      obtain ⟨σ6, H6, S6, q6⟩ := hsp
      exact end_ S6 fun s7 J7 => ⟨_, _, J7, q6⟩
    | ret u =>
      obtain ⟨v6, σ6, H6, S6, r6, q6⟩ := hsp
      exact end_ S6 fun s7 J7 => ⟨_, _, _, J7, r6, q6⟩
  · cases f with
    | next =>
      obtain ⟨σ', H', J', q⟩ := hsp
      exact wpAny_execs_nil ⟨σ', H', J'.ofTry ok, q⟩
    | brk =>
      obtain ⟨σ', H', J', q⟩ := hsp
      exact ⟨σ', H', J'.ofTry ok, q⟩
    | cont =>
      obtain ⟨σ', H', J', q⟩ := hsp
      exact ⟨σ', H', J'.ofTry ok, q⟩
    | ret u =>
      obtain ⟨v, σ', H', J', r, q⟩ := hsp
      exact ⟨v, σ', H', J'.ofTry ok, r, q⟩
end
end L2
set_option Elab.async false
set_option linter.all false
set_option maxRecDepth 100000
set_option maxHeartbeats 4000000
/-! Eo: x == y, x an instance whose class has an own __eq__, y such an instance or a tuple. -/
namespace Gl
open PySem PySem.Spec PyProof.Rows L2
def rEqO (K : PySem.W.Frag) (C : Addr) (sp : Sp) (E : XK) : R2 := fun x y H Q => ∃ a dx fs, x = .ref a ∧ H a = some (.ins C dx fs) ∧ (∃ b, y = .ref b ∧ ((∃ dy gs, H b = some (.ins C dy gs)) ∨ ∃ ys, SqT K H b ys)) ∧ sp [x, y] H (fun v H' => ∃ k, v = .bl k ∧ Q v H') E
section
variable {X : Cx} {n : Nat}
theorem op_eqO {C f : Addr} {fd : FuncData} {ps : List Str} {sp : Sp} (F : Fn X.prog X.w X.K X.mg X.base n f fd ps sp) (hr : Room n X.A) (hG : X.A.guards = some []) (hs : PySem.W.findIn X.K (.ref C) "__eq__" = some (some (.ref f))) (hf : PySem.W.isFn X.K (.ref f) = true)
    (hb : Binds X.K fd ps []) (hsub : PySem.W.subIn X.K (.type "tuple") (.ref C) = some false) : OpR X (compareOp .Eq) (rEqO X.K C sp E0) := by
  intro pins s σ H x y v u Q I rx ry hq
  obtain ⟨a, dx, fs, rfl, ha, ⟨b, rfl, hy⟩, hsp⟩ := hq
  cases rx
  cases ry
  show wpAny (model X.prog X.w) X.A (richCompare .Eq (.ref a) (.ref b)) (EP X pins σ Q) X.xe s
  obtain ⟨mA, J, _⟩ := ins_get I.hok ha
  obtain ⟨od, J, _⟩ := J.look
  obtain ⟨m, hF⟩ := I.fr
  have go : wpAny (model X.prog X.w) X.A (call (.ref f) [.ref a, .ref b]) (EP X pins σ fun v H' => ∃ k, v = .bl k ∧ Q v H') X.xe s :=
    run_df F hr hG hb (no_pass σ) I (.cons (show RelV (.ref a) (.ref a) from rfl) (.cons (show RelV (.ref b) (.ref b) from rfl) .nil)) hsp
  have back : wpAny (model X.prog X.w) X.A (call (.ref f) [.ref a, .ref b]) (PySem.W.CmpBack (EP X pins σ Q)) X.xe s := wpAny_mono go (fun r s' z => by
    obtain ⟨v, H', I', rz, k, rfl, q⟩ := z
    cases rz
    exact ⟨V.bl k, H', I', (show RelV (.bl k) (.bool k) from rfl), q⟩) fun _ _ x => x
  rcases hy with ⟨dy, gs, hy⟩ | ⟨ys, hy⟩
  · obtain ⟨mB, J', _⟩ := ins_get I.hok hy
    obtain ⟨od', J', _⟩ := J'.look
    refine PySem.W.cmp_K (op := .Eq) (tb := .ref C) hr.units0 hF I.ok.mod.kin J J'.type (by simp [PySem.W.notFirst]) hs hf ?_
    exact back
  · obtain ⟨its, rv, p, hz⟩ := I.tuple hy
    obtain ⟨o, ho, hc, _⟩ := p
    have LT : PySem.W.Looks (model X.prog X.w) s.heap (typeOf (.ref b)) (.type "tuple") := fun A Q E s k q => wpAny_typeOf_ref (k _ _ ho) (by rw [hc]; exact q)
    refine PySem.W.cmp_K (op := .Eq) (tb := .type "tuple") hr.units0 hF I.ok.mod.kin J LT (by unfold PySem.W.notFirst; rw [hsub]; simp) hs hf back
end
end Gl
set_option Elab.async false
set_option linter.all false
set_option maxRecDepth 100000
set_option maxHeartbeats 4000000
/-! Iw: over data: isinstance against an own class; == of an own class. -/
namespace Dw
open PySem PySem.Spec PyProof.Rows L2
structure InC (K : PySem.W.Frag) (C : Addr) : Prop where
  c : C8.InsC K C
  tup : PySem.W.kitOne K (.type "tuple") (.ref C) = some false
section
variable {S : Type} {W : Wd S} {G : Gm S} {K : PySem.W.Frag}
@[simp] def wIsiC (C : Addr) : List D → S → (D → S → Prop) → Prop := fun ds s k => match ds with
  | [.obj C' _, .opq c] => C' = C ∧ c = C ∧ k (.bl true) s
  | [.tup _, .opq c] => c = C ∧ k (.bl false) s
  | _ => False
theorem sc_isiC {C : Addr} (q : InC K C) : SimC W (rIsi K) (wIsiC C) := fun R s H at_ xs ds a k hw Q hQ => by
  match ds, a, hw with
  | [.obj C' fs, .opq c], a, ⟨h1, h2, hw2⟩ =>
    subst h1
    subst h2
    obtain ⟨v, u, rfl, a1, b1⟩ := a.two
    cases a1 with
    | da a1 =>
      cases b1 with
      | da b1 =>
        cases b1
        cases a1 with
        | obj e n l => exact ⟨_, _, _, _, true, rfl, .own _, .base (.ins e q.c.cl q.c.ha q.c.hn q.c.htk q.c.hm), q.c.me, hQ _ _ H hw2 .refl at_.j (.bl _)⟩
  | [.tup ds, .opq c], a, ⟨h2, hw2⟩ =>
    subst h2
    obtain ⟨v, u, rfl, a1, b1⟩ := a.two
    cases a1 with
    | da a1 =>
      cases b1 with
      | da b1 =>
        cases b1
        cases a1 with
        | tup e n l z => exact ⟨_, _, _, _, false, rfl, .own _, .base (.tup e), q.tup, hQ _ _ H hw2 .refl at_.j (.bl _)⟩
@[simp] def wEqO (C : Addr) (wf : List D → S → (D → S → Prop) → (Xc → S → Prop) → Prop) : D → D → S → (D → S → Prop) → Prop := fun d e s k => match d, e with
  | .obj C' fs, .obj C'' gs => C' = C ∧ C'' = C ∧ wf [.obj C' fs, .obj C'' gs] s (fun r s' => s' = s ∧ (∃ b, r = .bl b) ∧ k r s) fun _ _ => False
  | .obj C' fs, .tup es => C' = C ∧ wf [.obj C' fs, .tup es] s (fun r s' => s' = s ∧ (∃ b, r = .bl b) ∧ k r s) fun _ _ => False
  | _, _ => False
theorem so_eqO {C : Addr} {wf : List D → S → (D → S → Prop) → (Xc → S → Prop) → Prop} : SimO W (Gl.rEqO K C (spX W wf) E0) (wEqO C wf) := fun R s H at_ x y d e a b k hw Q hQ => by
  have key : ∀ (d e : D), Da (Bf W R s) H x d → Da (Bf W R s) H y e → wf [d, e] s (fun r s' => s' = s ∧ (∃ b, r = .bl b) ∧ k r s) (fun _ _ => False) → spX W wf [x, y] H (fun v H' => ∃ k, v = .bl k ∧ Q v H') E0 := fun d e a b h =>
    ⟨R, [d, e], s, _, _, at_, .cons a (.cons b .nil), h, fun r s' v H' hk f j av => by
      obtain ⟨rfl, ⟨z, rfl⟩, hk⟩ := hk
      cases av
      exact ⟨z, rfl, hQ _ _ H' hk f j (.bl _)⟩, fun c s' cls d H' hx _ _ _ => hx.elim⟩
  match d, e, a, b, hw with
  | .obj C' fs, .obj C'' gs, .da a, .da b, ⟨h1, h2, hw2⟩ =>
    subst h1
    have sp := key _ _ a b hw2
    cases a with
    | obj e1 n1 l1 =>
      cases b with
      | obj e2 n2 l2 =>
        subst h2
        exact ⟨_, _, _, rfl, e1, ⟨_, rfl, .inl ⟨_, _, e2⟩⟩, sp⟩
  | .obj C' fs, .tup es, .da a, b, ⟨h1, hw2⟩ =>
    subst h1
    cases b with
    | da b =>
      have sp := key _ _ a b hw2
      cases a with
      | obj e1 n1 l1 =>
        cases b with
        | tup e2 n2 l2 z2 => exact ⟨_, _, _, rfl, e1, ⟨_, rfl, .inr ⟨_, .of e2⟩⟩, sp⟩
end
end Dw
set_option Elab.async false
set_option linter.all false
set_option maxRecDepth 100000
set_option maxHeartbeats 4000000
/-! Sh: what == asks of data (SeqAt.shaped). -/
namespace Dw
open PySem PySem.Spec PyProof.Rows L2
mutual
theorem D.lay : ∀ {d : D} {p : PyData}, d.sm = true → d.py = some p → p.canLay0 = true
  | .non, _, _, h => by cases h; rfl
  | .bl b, _, _, h => by cases h; rfl
  | .int i, _, _, h => by cases h; rfl
  | .str x, _, s, h => by
    cases h
    rw [sm_str] at s
    exact s
  | .lst ds, p, s, h => by
    simp only [D.py] at h
    cases e : D.pys ds with
    | none => rw [e] at h; cases h
    | some ps =>
      rw [e] at h
      cases h
      exact D.lays (by simpa using s) e
  | .tup ds, p, s, h => by
    simp only [D.py] at h
    cases e : D.pys ds with
    | none => rw [e] at h; cases h
    | some ps =>
      rw [e] at h
      cases h
      exact D.lays (by simpa using s) e
  | .dic _, _, s, _ => by simp at s
  | .dit _, _, s, _ => by simp at s
  | .obj _ _, _, s, _ => by simp at s
  | .opq _, _, s, _ => by simp at s
  | .ty _, _, s, _ => by simp at s
theorem D.lays : ∀ {ds : List D} {ps : List PyData}, (∀ d ∈ ds, d.sm = true) → D.pys ds = some ps → PyData.canLayAll0 ps = true
  | [], _, _, h => by cases h; rfl
  | d :: r, _, s, h => by
    simp only [D.pys] at h
    cases e : d.py with
    | none => rw [e] at h; cases h
    | some p =>
      cases e2 : D.pys r with
      | none => rw [e, e2] at h; cases h
      | some ps =>
        rw [e, e2] at h
        cases h
        show (p.canLay0 && PyData.canLayAll0 ps) = true
        rw [D.lay (s d (by simp)) e, D.lays (fun z hz => s z (by simp [hz])) e2]
        rfl
end
theorem Pq.shaped {n k : Nat} {d : D} (h : Pq n k d) (hk : k ≤ 64) : ∃ p, d.py = some p ∧ SeqAt.shaped p = true := by
  obtain ⟨p, e, a, b, c⟩ := D.rp h.1
  refine ⟨p, e, ?_⟩
  unfold SeqAt.shaped
  rw [D.lay h.1 e, decide_eq_true (show p.depth ≤ 64 from Nat.le_trans c (Nat.le_trans h.2.2 hk))]
  rfl
end Dw
set_option Elab.async false
set_option linter.all false
set_option maxRecDepth 100000
set_option maxHeartbeats 4000000
/-! Tw: over data: try .. except C as n (Ty's ps_try_asR); in the suite n.field, isinstance(n, C). -/
namespace L2
open PySem PySem.Spec PyProof.Rows
/-- isinstance(e, c), e the exception with fields that the suite holds -/
def rIsF (K : PySem.W.Frag) (a : Addr) (cls : Value) (d : Option Addr) : List V → Hp → VK → Prop := fun xs H Q => ∃ (D dd : Addr) (fs : List (Str × V)) (c : V) (cv : Value) (b : Bool), cls = .ref D ∧ ExcC K D ∧ d = some dd ∧ H dd = some (.xd fs) ∧ xs = [.ref a, c] ∧ (∀ u, RelV c u → u = cv) ∧ PySem.W.kitOne K (.ref D) cv = some b ∧ Q (.bl b) H
theorem call_isF {X : Cx} {a : Addr} {oe : Obj} {cls : Value} {d : Option Addr} {pn : List (Addr × Obj)} (hz : Zc cls d oe) (hf : ∃ vs, oe.data = .fields vs) : CallR (X.suite a ((a, oe) :: pn)) (.builtin "isinstance") (rIsF X.K a cls d) := by
  intro pins s σ H xs us Q I r h
  obtain ⟨D, dd, fs, c, cv, b, rfl, T, rfl, hdd, rfl, hcv, e, q⟩ := h
  cases r with
  | cons rx rr =>
    cases rr with
    | cons rt rr =>
      cases rr
      cases rx
      have ec := hcv _ rt
      subst ec
      obtain ⟨hget, _⟩ := I.pin (a, oe) (List.mem_append.mpr (.inl List.mem_cons_self))
      obtain ⟨vs, hv⟩ := hf
      have hcl : (PySem.W.clsIn X.K D).isSome = true := by
        obtain ⟨cd, hc, _⟩ := PySem.W.any_some T.hd
        rw [hc]
        rfl
      have hx : ObjOk X.prog X.w H s.heap dd (.xd fs) := I.hok dd _ hdd
      obtain ⟨mA, hns, hr⟩ := hx
      obtain ⟨od, hod, hl⟩ := lookIn_ns hns
      have J : PySem.W.InstAt s.heap a oe D (some od) := ⟨hget, hz.1, by unfold PySem.W.notCls; rw [hv] <;> rfl, by rw [hz.2]; exact hod⟩
      exact PySem.W.kia_one (PySem.W.kitx_exc hcl T.hg T.hk T.hs T.ha T.hn T.ht T.hm) I.kIn J e (fun z => nomatch z) fun tk => ⟨.bl b, H, I.kept (t' := tk) fun _ _ z => z, rfl, q⟩
end L2
namespace Dw
open PySem PySem.Spec PyProof.Rows L2
def scD : D → Bool
  | .non => true
  | .bl _ => true
  | .int _ => true
  | .str _ => true
  | _ => false
theorem Da.sc {B B' : Addr → Prop} {H H' : Hp} {v : V} {d : D} (a : Da B H v d) (h : scD d = true) : Da B' H' v d := by
  cases a with
  | non => exact .non
  | bl b => exact .bl b
  | int i => exact .int i
  | str hs => exact .str hs
  | _ => cases h
section
variable {S : Type} {W : Wd S} {G : Gm S} {K : PySem.W.Frag} {R : Addr → Prop} {env : List Sl} {σ : L2.St} {H : Hp} {s : S}
/-- entered anew here, where nothing of the def's own is held -/
theorem Rel.re (r : Rel W G R env σ H s) (E : XK) (h : ∀ j, (sg env j).isO = false) : Rel W ⟨H, s, G.R0, E⟩ R env σ H s :=
  ⟨r.at_, .refl, r.r0, r.at_.imp r.r0, ⟨r.env.len, r.env.dat, fun i q => (by rw [h i] at q; cases q), fun i j p q => (by rw [h i] at q; cases q)⟩⟩
theorem Rel.un {R' : Addr → Prop} {env' : List Sl} {σ' : L2.St} {H' : Hp} {s' : S} {E : XK} (r : Rel W G R env σ H s) (r2 : Rel W ⟨H, s, G.R0, E⟩ R' env' σ' H' s') : Rel W G R' env' σ' H' s' :=
  ⟨r2.at_, r.fr.trans r2.fr, r2.r0, r.z0, ⟨r2.env.len, r2.env.dat, fun i q => by obtain ⟨p, h1, h2, h3, h4⟩ := r2.env.own i q; exact ⟨p, h1, h2, r.new0 h3, h4⟩, r2.env.uniq⟩⟩
/-- the exception that a suite was entered with -/
structure XF (W : Wd S) (G : Gm S) (xc : Xc) (cls : Value) (d : Option Addr) : Prop where
  cls : cls = .ref xc.C
  at_ : (xc.fs = [] ∧ d = none) ∨ ∃ dd xs, d = some dd ∧ G.H0 dd = some (.xd xs) ∧ ¬ W.C G.s0 dd ∧ DaF (Bf W G.R0 G.s0) G.H0 xs xc.fs
@[simp] def wTryAs (K : PySem.W.Frag) (c : Value) (i i0 : Nat) (we : WE S) (wr : WS S) (wh : Addr → Xc → WS S) : WS S := fun KK env s => (∀ j, (sg env j).isO = false) ∧
  we env s (fun d s1 => wr KK (ss env i0 (.dat d)) s1) (fun xc s1 => PySem.W.exmOne K (.ref xc.C) c = some true ∧
    ∀ a, wh a xc { KK with nx := fun e t => KK.nx (ss e i .no) t, bk := fun e t => KK.bk (ss e i .no) t, ct := fun e t => KK.ct (ss e i .no) t } (ss env i (.dat (.opq a))) s1)
theorem ss_tryAs {c : Value} {i i0 : Nat} {te : WX → TE} {tr : TS} {ts : Addr → Value → Option Addr → TS} {we : WE S} {wr : WS S} {wh : Addr → Xc → WS S}
    (hl : ∀ (Wx : WX) σ H Q, te Wx σ H Q = te (fun cls d _ H => Wx cls d σ H) σ H Q) (he : ∀ G' : Gm S, SimE W G' (te fun cls d _ H => G'.E cls d H) we) (hr : SimS W G tr wr)
    (hs : ∀ a xc cls d (G' : Gm S), XF W G' xc cls d → SimS W G' (ts a cls d) (wh a xc)) :
    SimS W G (fun Dn σ H => tSeq (tAsg (te (wAsR K c i ts Dn)) (gName i0)) tr Dn σ H) (wTryAs K c i i0 we wr wh) := fun R env σ H s rl KK hw Dn e => by
  obtain ⟨hno, hw⟩ := hw
  show te (wAsR K c i ts Dn) σ H _
  rw [hl]
  refine he ⟨H, s, G.R0, fun cls d H' => wAsR K c i ts Dn cls d σ H'⟩ R env σ H s (rl.re _ hno) _ _ hw (fun xc s' cls d H' hx f j xr => ?_) _ fun d s1 v H1 hw1 f1 j1 a1 => ?_
  · obtain ⟨hm, hk⟩ := hx
    refine ⟨by rw [xr.1]; exact hm, fun a ha => ?_⟩
    have f : Fr W s H s' H' := f
    have rl1 := rl.step f j
    have rl2 := (rl1.re G.E hno).setD (v := .ref a) i (.opq a)
    have xf : XF W ⟨H', s', G.R0, G.E⟩ xc cls d := ⟨xr.1, xr.2.imp id fun ⟨dd, xs, q1, q2, q3, q4⟩ => ⟨dd, xs, q1, q2, fun z => q3 (.inr z), q4⟩⟩
    refine hs a xc cls d ⟨H', s', G.R0, G.E⟩ xf R _ _ H' s' rl2 _ (hk a) _ ⟨?_, ?_, ?_, ?_, ?_⟩
    · intro R' env' σ' H2 s2 h r2 m
      exact e.nx R' _ _ H2 s2 h ((rl1.un r2).setN i) (f.mv.trans m)
    · intro d2 s2 v H2 h f2 j2 a2
      exact e.rt d2 s2 v H2 h (rl1.fr.trans f2) j2 a2
    · intro R' env' σ' H2 s2 h r2 m
      exact e.bk R' _ _ H2 s2 h ((rl1.un r2).setN i) (f.mv.trans m)
    · intro R' env' σ' H2 s2 h r2 m
      exact e.ct R' _ _ H2 s2 h ((rl1.un r2).setN i) (f.mv.trans m)
    · intro c2 s2 cls2 d2 H2 h f2 j2 a2
      exact e.xc c2 s2 cls2 d2 H2 h (rl1.fr.trans f2) j2 a2
  · have f1 : Fr W s H s1 H1 := f1
    exact hr R _ _ H1 s1 ((rl.step f1 j1).setD i0 a1) KK hw1 Dn (e.step f1.mv)
theorem ss_tryMk {c : Value} {i i0 : Nat} {C : Addr} {wf : List D → S → (D → S → Prop) → (Xc → S → Prop) → Prop} {ta : TA} {wa : WA S} {tr : TS} {ts : Addr → Value → Option Addr → TS} {wr : WS S} {wh : Addr → Xc → WS S}
    (ha : ∀ G' : Gm S, SimA W G' ta wa) (hr : SimS W G tr wr) (hs : ∀ a xc cls d (G' : Gm S), XF W G' xc cls d → SimS W G' (ts a cls d) (wh a xc)) :
    SimS W G (fun Dn σ H => tSeq (tAsg (Gl.tMk C (spIni W C wf) (L2.WE (wAsR K c i ts Dn)) ta) (gName i0)) tr Dn σ H) (wTryAs K c i i0 (wCall wf wa) wr wh) :=
  ss_tryAs (te := fun Wx => Gl.tMk C (spIni W C wf) (L2.WE Wx) ta) (fun _ _ _ _ => rfl) (fun G' => sim_mk (ha G')) hr hs
theorem ss_tryDf {c : Value} {i i0 : Nat} {wf : List D → S → (D → S → Prop) → (Xc → S → Prop) → Prop} {ta : TA} {wa : WA S} {tr : TS} {ts : Addr → Value → Option Addr → TS} {wr : WS S} {wh : Addr → Xc → WS S}
    (ha : ∀ G' : Gm S, SimA W G' ta wa) (hr : SimS W G tr wr) (hs : ∀ a xc cls d (G' : Gm S), XF W G' xc cls d → SimS W G' (ts a cls d) (wh a xc)) :
    SimS W G (fun Dn σ H => tSeq (tAsg (Gl.tDf (spX W wf) (L2.WE (wAsR K c i ts Dn)) ta) (gName i0)) tr Dn σ H) (wTryAs K c i i0 (wCall wf wa) wr wh) :=
  ss_tryAs (te := fun Wx => Gl.tDf (spX W wf) (L2.WE Wx) ta) (fun _ _ _ _ => rfl) (fun G' => sim_call (ha G')) hr hs
@[simp] def wXf (i : Nat) (a : Addr) (xc : Xc) (C : Addr) (f : Str) : WE S := fun env s k _ => sg env i = .dat (.opq a) ∧ xc.C = C ∧ ∃ d, xc.fs.lookup f = some d ∧ scD d = true ∧ k d s
theorem sim_xf {a C : Addr} {cls : Value} {d : Option Addr} {xc : Xc} {f : Str} {i : Nat} (hx : XF W G xc cls d) : SimE W G (tXf a cls d C f (tVar i)) (wXf i a xc C f) := fun R env σ H s rl k x hw ox Q hQ => by
  obtain ⟨e, rfl, d2, hl, hsc, hk⟩ := hw
  obtain ⟨v, h1, h2⟩ := rl.env.dat i _ e
  cases h2
  refine ⟨_, h1, rfl, hx.cls, ?_⟩
  rcases hx.at_ with ⟨q, _⟩ | ⟨dd, xs, rfl, q1, q2, q3⟩
  · rw [q] at hl; cases hl
  · obtain ⟨v, e1, e2⟩ := q3.look hl
    exact ⟨dd, xs, v, rfl, rl.fr.kp _ _ q1 q2, e1, hQ d2 s v H hk .refl rl.at_.j (e2.sc hsc)⟩
@[simp] def wIsF (K : PySem.W.Frag) (a : Addr) (xc : Xc) (wa : WA S) : WE S := fun env s k x => xc.fs ≠ [] ∧ ExcC K xc.C ∧ wa env s (fun ds s1 => match ds with
  | [.opq e, .opq c] => e = a ∧ ∃ b, PySem.W.kitOne K (.ref xc.C) (.ref c) = some b ∧ k (.bl b) s1
  | [.opq e, .ty n] => e = a ∧ ∃ b, PySem.W.kitOne K (.ref xc.C) (.type n) = some b ∧ k (.bl b) s1
  | _ => False) x
theorem sim_isF {a : Addr} {cls : Value} {d : Option Addr} {xc : Xc} {ta : TA} {wa : WA S} (hx : XF W G xc cls d) (ha : SimA W G ta wa) : SimE W G (tCB (rIsF K a cls d) ta) (wIsF K a xc wa) := fun R env σ H s rl k x hw ox Q hQ => by
  obtain ⟨hne, hE, hw⟩ := hw
  refine ha R env σ H s rl _ x hw ox _ fun ds s1 vs H1 hw1 f1 j1 a1 => ?_
  rcases hx.at_ with ⟨q, _⟩ | ⟨dd, xs, rfl, q1, q2, q3⟩
  · exact absurd q hne
  · have hd := (rl.step f1 j1).fr.kp _ _ q1 q2
    match ds, a1, hw1 with
    | [.opq e, .opq c], a1, ⟨he, b, hb, hk⟩ =>
      cases a1 with
      | cons z1 a1 =>
        cases a1 with
        | cons z2 a1 =>
          cases a1
          cases z1
          cases z2
          exact ⟨_, dd, xs, .ref c, .ref c, b, hx.cls, hE, rfl, hd, by rw [he], fun u q => by cases q; rfl, hb, hQ _ s1 _ H1 hk f1 j1 (.bl _)⟩
    | [.opq e, .ty n], a1, ⟨he, b, hb, hk⟩ =>
      cases a1 with
      | cons z1 a1 =>
        cases a1 with
        | cons z2 a1 =>
          cases a1
          cases z1
          cases z2
          exact ⟨_, dd, xs, .ty n, .type n, b, hx.cls, hE, rfl, hd, by rw [he], fun u q => by cases q; rfl, hb, hQ _ s1 _ H1 hk f1 j1 (.bl _)⟩
theorem sim_fldT {f : Str} {C : Addr} (c : Cls K C) (n : NoAttr K C f) {te : TE} {we : WE S} (he : SimE W G te we) : SimE W G (tFld K te f) (wFld f (· = C) we) := sim_fld (Cl := (· = C)) (fun _ h => h ▸ ⟨c, n⟩) he
end
end Dw
set_option Elab.async false
set_option linter.all false
set_option maxRecDepth 100000
set_option maxHeartbeats 4000000
/-! Mc: an own class with its __init__, its __eq__, packed. -/
namespace Gl
open PySem PySem.Spec PyProof.Rows L2
/-- C(..) by the name x -/
structure Cm (P : Program) (w : World) (K : PySem.W.Frag) (mg : Str → Option Value) (base : Heap) (n : Nat) (x : Str) (C : Addr) (sp : Sp) : Prop where
  ex : ∃ (f : Addr) (fd : FuncData) (ps : List Str), Mk K C f ∧ Fn P w K mg base n f fd ps sp ∧ Binds K fd ps []
  mgx : mg x = some (.ref C)
/-- x == y of the class C -/
structure Ce (P : Program) (w : World) (K : PySem.W.Frag) (mg : Str → Option Value) (base : Heap) (n : Nat) (C : Addr) (sp : Sp) : Prop where
  ex : ∃ (f : Addr) (fd : FuncData) (ps : List Str), Fn P w K mg base n f fd ps sp ∧ PySem.W.findIn K (.ref C) "__eq__" = some (some (.ref f)) ∧ PySem.W.isFn K (.ref f) = true ∧ Binds K fd ps []
  sub : PySem.W.subIn K (.type "tuple") (.ref C) = some false
section
variable {X : Cx} {k j : Nat} {C : Addr} {sp : Sp} {E : L2.St → XK} {x : Str} {p pos : Pos} {e : Expr} {es : List Expr} {t : TA}
theorem pe_mkC (M : Cm X.prog X.w X.K X.mg X.base k x C sp) (hr : Room j X.A) (hk : k + 1 ≤ j) (hG : X.A.guards = some []) (hg : Gl X x) (hx : ∀ σ, PassesAt (L2.CX X.prog X.w) X σ (E σ))
    (ha : PA X (e :: es) t) (hdb : (x == ("__debug__" : Str)) = false := by decide) (he : starEach (e :: es) X.env = (false, eval e X.env) :: starEach es X.env := by rfl) (hpl : (backTo pos (starEach es X.env)).any (·.1) = false := by rfl) :
    PE X (.Call (.Name x p) (e :: es) [] pos) (tMk C sp E t) := by
  obtain ⟨f, fd, ps, m, F, b⟩ := M.ex
  exact pe_mk m F hr hk hG hg M.mgx b hx ha hdb he hpl
theorem kEqC {K : PySem.W.Frag} (M : Ce X.prog X.w X.K X.mg X.base k C sp) (hr : Room j X.A) (hk : k ≤ j) (hG : X.A.guards = some []) (e' : X.K = K := by rfl) : OpR X (compareOp .Eq) (rEqO K C sp E0) := by
  subst e'
  obtain ⟨f, fd, ps, F, s, i, b⟩ := M.ex
  exact op_eqO F (hr.mono hk) hG s i b M.sub
end
end Gl
namespace L2
open PySem PySem.Spec PyProof.Rows
section
variable {X : Cx} {K : PySem.W.Frag}
theorem kFld {e : Expr} {te : TE} {pos : Pos} {n : Str} (he : PE X e te) (hb : attributeBase e n X.env (eval e X.env) = eval e X.env) (e' : X.K = K := by rfl) : PE X (.Attribute e n pos) (tFld K te n) := e' ▸ pe_fld he hb
theorem kIsF {a : Addr} {oe : Obj} {cls : Value} {d : Option Addr} {pn : List (Addr × Obj)} (hz : Zc cls d oe) (hf : ∃ vs, oe.data = .fields vs) (e' : X.K = K := by rfl) : CallR (X.suite a ((a, oe) :: pn)) (.builtin "isinstance") (rIsF K a cls d) := e' ▸ call_isF hz hf
theorem kTryAs {x n : Str} {c : Value} {i : Nat} {body suite : List Stmt} {b₀ : Stmt} {np pos pos' : Pos} {tb : WX → TS} {ts : Addr → Value → Option Addr → TS} {rest : List ExceptHandler}
    (hs : X.stack = X.env :: X.outer) (hf : X.env.frame = some X.env.locals) (hN : X.N.Nodup) (hi : X.N[i]? = some n) (hln : X.env.kindOf n = some .local) (hc : Names X x c)
    (hb : ∀ (W : WX) (pn : List (Addr × Obj)) (xe : Value → Shared → Prop), Takes (X.tr pn xe) W → PassesOwn (model X.prog X.w) X.A X.env xe → PSs (X.tr pn xe) body (tb W))
    (hsu : ∀ (a : Addr) (oe : Obj) (cls : Value) (d : Option Addr) (pn : List (Addr × Obj)), Zc cls d oe → (∃ vs, oe.data = .fields vs) → PSs (X.suite a ((a, oe) :: pn)) (b₀ :: suite) (ts a cls d)) (e' : X.K = K := by rfl) :
    PS X (.Try body (.ExceptHandler (some (.Name x np)) (some n) (b₀ :: suite) pos' :: rest) [] [] pos) (fun D σ H => tb (wAsR K c i ts D) D σ H) := e' ▸ ps_try_asR hs hf hN hi hln hc hb hsu
end
end L2
namespace Dw
open PySem PySem.Spec PyProof.Rows L2
section
variable {S : Type} {W : Wd S} {G : Gm S}
theorem sim_mkN {C : Addr} {wf : List D → S → (D → S → Prop) → (Xc → S → Prop) → Prop} {ta : TA} {wa : WA S} {E : L2.St → XK} (ha : SimA W G ta wa) :
    SimE W G (Gl.tMk C (spIni W C wf) E ta) (wCallN wf wa) := fun R env σ H s rl k x hw ox Q hQ => ha R env σ H s rl _ x hw ox _ fun ds s1 vs H1 hw1 f1 j1 a1 => by
  intro a dx ha1 hdx ne
  have r1 := rl.step f1 j1
  have at1 := r1.at_
  have nCa : ¬ W.C s1 a := fun c => W.tr s1 H1 a at1.j c ha1
  have at2 : At W R s1 (upd H1 dx (.own a)) := at1.new_at hdx
  have ha2 : upd H1 dx (.own a) a = none := by rw [upd_ne (Ne.symm ne)]; exact ha1
  have at3 : At W R s1 (upd (upd H1 dx (.own a)) a (.ins C dx [])) := at2.new_at ha2
  have f2 : Fr W s1 H1 s1 (upd (upd H1 dx (.own a)) a (.ins C dx [])) := (Fr.new_at hdx at1).trans (Fr.new_at ha2 at2)
  have at4 : At W (fun y => R y ∨ y = a) s1 (upd (upd H1 dx (.own a)) a (.ins C dx [])) := ⟨at3.j, fun y r => by
    rcases r with r | rfl
    · exact at3.r y r
    · exact ⟨by rw [upd_same]; simp, nCa⟩⟩
  have mv : Mv (Bf W R s1) H1 (Bf W (fun y => R y ∨ y = a) s1) (upd (upd H1 dx (.own a)) a (.ins C dx [])) := fun b o e n => by
    have nb : b ≠ a := fun z => by rw [z, ha1] at e; cases e
    have nd : b ≠ dx := fun z => by rw [z, hdx] at e; cases e
    refine ⟨by rw [upd_ne nb, upd_ne nd]; exact e, fun z => ?_⟩
    rcases z with (z | z) | z
    · exact n (.inl z)
    · exact nb z
    · exact n (.inr z)
  refine ⟨fun y => R y ∨ y = a, s1, k, _, a, dx, vs, ds, rfl, upd_same, .inr rfl, at4, a1.mv mv, hw1, fun fs s' vF H' hk f j da => ⟨rfl, ?_⟩, fun c s' cls d H' hx f j a2 => ?_⟩
  · have at5 := at4.fr f j
    have nC : ¬ W.C s' a := (at5.r a (.inr rfl)).2
    have f3 : Fr W s1 H1 s' (upd H' a (.ins C dx vF)) := ⟨fun b o e n => by
      have nb : b ≠ a := fun z => by rw [z, ha1] at e; cases e
      rw [upd_ne nb]
      exact (f2.trans f).kp b o e n, (f2.trans f).grow, (f2.trans f).new⟩
    have j' : W.J s' (upd H' a (.ins C dx vF)) := W.st s' H' _ j fun y c => by
      rw [upd_ne fun z => nC (by rw [← z]; exact c)]
    have mv2 : Mv (Bf W (fun y => R y ∨ y = a) s') H' (Bf W R s') (upd H' a (.ins C dx vF)) := fun b o e n => by
      have nb : b ≠ a := fun z => n (.inl (.inr z))
      refine ⟨by rw [upd_ne nb]; exact e, fun z => n (z.imp .inl id)⟩
    have nB : ¬ Bf W R s' a := fun z => by
      rcases z with z | z
      · exact (at1.r a z).1 ha1
      · exact nC z
    exact hQ _ s' _ _ hk (f1.trans f3) j' (.obj upd_same nB (da.mv mv2))
  · exact hx.elim
end
end Dw
set_option Elab.async false
set_option linter.all false
set_option maxRecDepth 100000
set_option maxHeartbeats 4000000
/-! Lb: the drawing's box made of the script; the law's body behind it, over data. -/
namespace Dw
open PySem PySem.Spec PyProof.Rows L2
def boxOf (p c : Addr) (ns : List Int) : Box := ⟨p, c, ns, 0, 0, 0, false, 0⟩
def boxH (H : Hp) (p c : Addr) (ns : List Int) : Hp := upd (upd (upd H p (.dK [])) c (.lst (ns.map V.int))) p (.dK (boxOf p c ns).kvs)
def spBox (K : PySem.W.Frag) : Sp := fun vs H Q _ => ∃ (a : Addr) (ns : List Int), vs = [.ref a] ∧ SqL K H a (ns.map V.int) ∧ ∀ p c, H p = none → H c = none → c ≠ p → Q (.ref p) (boxH H p c ns)
abbrev trsBox (K : PySem.W.Frag) : List (TE × TE) := [(tC (.str "cells"), tCB (Rd.rListOf K) (tCons (tVar 0) tNil)), (tC (.str "at"), tC (.int 0)), (tC (.str "rest"), tC (.int 0)), (tC (.str "many"), tC (.int 0)), (tC (.str "great"), tC (.bl false)), (tC (.str "all"), tC (.int 0))]
theorem box_made {K : PySem.W.Frag} {H : Hp} {Q : VK} {a : Addr} {ns : List Int} (h : SqL K H a (ns.map V.int)) (hQ : ∀ p c, H p = none → H c = none → c ≠ p → Q (.ref p) (boxH H p c ns)) : tDisp (trsBox K) (L2.start ["script"] [.ref a]) H Q := by
  intro p hp
  refine ⟨.ref a, rfl, a, ns.map V.int, rfl, .inl (h.ext fun b o e => by rw [upd_ne (ne_of_none e hp)]; exact e), fun c hc => ?_⟩
  have ne : c ≠ p := fun z => by rw [z, upd_same] at hc; cases hc
  have hc' : H c = none := by rw [upd_ne ne] at hc; exact hc
  refine ⟨?_, (boxOf p c ns).kvs, rfl, (show 6 ≤ 15 by decide), ?_⟩
  · rw [upd_ne (Ne.symm ne)]
    exact upd_same
  · exact hQ p c hp hc' ne
theorem box_at {H : Hp} {p c : Addr} {ns : List Int} (hp : H p = none) (hc : H c = none) (ne : c ≠ p) (hl : ns.length ≤ sizeLine) : At BW (fun _ => False) (boxOf p c ns) (boxH H p c ns) := by
  refine ⟨⟨upd_same, ?_, hl⟩, fun _ h => h.elim⟩
  show boxH H p c ns c = _
  unfold boxH
  rw [upd_ne ne]
  exact upd_same
theorem law_start {K : PySem.W.Frag} {N : List Str} {tr : TS} {a : Addr} {ns : List Int} {H : Hp} {Q : VK} {E : L2.St → XK} (h : SqL K H a (ns.map V.int)) (hl : ns.length ≤ sizeLine) (hQ : ∀ H', Q (.bl true) H') (hN : 1 ≤ N.length)
    (sim : ∃ wr : WS Box, (∀ G : Gm Box, SimS BW G tr wr) ∧ ∀ b : Box, b.cells = ns → b.at_ = 0 → wr ⟨fun _ _ => False, fun d _ => d = .bl true, fun _ _ => False, fun _ _ => False, fun _ _ => False⟩ (ss (envOf N.length [.opq a]) 1 (.dat (.opq b.a))) b) :
    tSeq (tAsg (Gl.tDf (spBox K) E (tCons (tVar 0) tNil)) (gName 1)) tr ⟨fun _ H' => Q .non H', Q, fun _ _ => False, fun _ _ => False⟩ (L2.start N [.ref a]) H := by
  obtain ⟨wr, sw, hw⟩ := sim
  refine ⟨.ref a, rfl, a, ns, rfl, h, fun p c hp hc ne => ?_⟩
  have rl := (rel_start (W := BW) (E := E0) (N := N) (box_at hp hc ne hl) (.cons (.opq a) .nil)).setD 1 (v := .ref p) (d := .opq p) (.opq p)
  refine sw ⟨boxH H p c ns, boxOf p c ns, fun _ => False, E0⟩ _ _ _ _ _ rl _ (hw (boxOf p c ns) rfl rfl) _ ⟨?_, ?_, ?_, ?_, ?_⟩
  · intro _ _ _ _ _ hk
    exact hk.elim
  · intro d s' v H' hk _ _ a
    subst hk
    cases a
    exact hQ H'
  · intro _ _ _ _ _ hk
    exact hk.elim
  · intro _ _ _ _ _ hk
    exact hk.elim
  · intro _ _ _ _ _ hk
    exact hk.elim
theorem bodyG {tr : TS} {O : WS Box → Prop} {wr : WS Box} (a : ∀ G, SimS BW G tr wr) (b : O wr) : ∃ wr : WS Box, (∀ G : Gm Box, SimS BW G tr wr) ∧ O wr := ⟨wr, a, b⟩
end Dw
set_option Elab.async false
set_option linter.all false
set_option maxRecDepth 100000
set_option maxHeartbeats 8000000
/-! an own error's class, told by one look -/
namespace Ex
open PySem PySem.W PySem.Calls PyProof.Rows PySem.HandSPX
theorem ba {a b : Bool} (h : (a && b) = true) : a = true ∧ b = true := Bool.and_eq_true_iff.mp h
def clsB (K : Frag) (C : Addr) : Bool := match K.lookup C with
  | some ⟨.type "type", _, .cls cd, sl⟩ => (match cd.mro, sl.toList with
    | .ref C' :: bm, [_, _, _, _, some (.builtin n), _] => C' == C && n == "ValueError.__new__" && !cd.hasDel && cd.hasDict && refsVE bm
    | _, _ => false)
  | _ => false
theorem clsB_ok {K : Frag} {C : Addr} (q : clsB K C = true) : ∃ nm q N bs bm sn sub ab col dd k0 k1 k2 k3 k5, K.lookup C = some (excClassObj nm q C N bs bm true sn sub ab col dd k0 k1 k2 k3 k5 "ValueError.__new__") ∧ refsVE bm = true := by
  unfold clsB at q
  split at q
  · rename_i dd cd sl ho
    split at q
    · rename_i C' bm k0 k1 k2 k3 n k5 hm hs
      simp only [Bool.and_eq_true, beq_iff_eq, Bool.not_eq_true'] at q
      obtain ⟨⟨⟨⟨rfl, rfl⟩, hdel⟩, hdd⟩, hv⟩ := q
      obtain ⟨nm, bs, mro, ns, qn, hd, sn, sub, ab, col, del⟩ := cd
      dsimp only at hm hdel hdd
      subst hm hdel hdd
      have hsl : sl = #[k0, k1, k2, k3, some (.builtin "ValueError.__new__"), k5] := by
        obtain ⟨l⟩ := sl
        simp only at hs
        rw [hs]
      subst hsl
      exact ⟨nm, qn, ns, bs, bm, sn, sub, ab, col, dd, k0, k1, k2, k3, k5, ho, hv⟩
    · cases q
  · cases q
/-- the making's cell and code -/
def iniB (file : Str) (K : Frag) (C : Addr) (fd : FuncData) : Bool := codeIn K fd.code fd.qualname && ((match fd.defaults with
    | .none => true
    | _ => false) && ((match fd.closure with
    | [(_, cc)] => (match K.lookup cc with
      | some ⟨_, _, .cell (some (.ref D)), _⟩ => D == C
      | _ => false)
    | _ => false) && (match fd.code with
    | .ref cda => (match K.lookup cda with
      | some ⟨_, _, .fields vs, _⟩ => (match (vs[2]? : Option Value) with
        | some (.str f _) => file == f
        | _ => false)
      | _ => false)
    | _ => false)))
def badB (file : Str) (K : Frag) (C : Addr) (f : Str) : Bool := clsB K C && (decide (findIn K (.ref C) "__setattr__" = some (some (.builtin "object.__setattr__"))) && (decide (findIn K (.ref C) f = some none) && (keepIn K (.ref C) &&
  (decide (subIn K (.ref C) (.type "BaseException") = some true) && (decide (typeIn K (.ref C) = some (.type "type")) && (decide (subIn K (.ref C) (.type "ValueError") = some true) && (decide (mroIn K C (.ref C) = some true) &&
  (decide (ks_superIn K C C "__init__" = some (some (.builtin "ValueError.__init__"))) && (decide (nsIn K cStatics "thirdparty.any" = some none) && (decide (findIn K (.ref C) "__init__" = some (some (.ref (He.ma K C "__init__")))) &&
  (decide (typeIn K (.ref (He.ma K C "__init__")) = some (.type "function")) && (match K.lookup (He.ma K C "__init__") with
    | some ⟨_, _, .func fd, _⟩ => iniB file K C fd
    | _ => false))))))))))))
abbrev FnM : Type := Option (Str × Str × Arguments × FuncBody × Scope × Addr × List Str × Addr)
def obsM (K : Frag) (x : Str) : FnM := match K.lookup (He.ma K (He.ga K x) "__init__") with
  | some ⟨_, _, .func fd, _⟩ => some (fd.name, fd.qualname, fd.params, fd.body, fd.scope, fd.globals, fd.closure.map (·.1), fd.builtins)
  | _ => none
def valM (q : Str) (st : Stmt) : FnM := some ("__init__", q, L2.defArgs st, .stmts (L2.defBody st), L2.defScope st, mainGlobals, ["__class__"], builtinsNs)
theorem badC_of {P : Program} {K : Frag} {x f q : Str} {st : Stmt} (b : badB P.main.file K (He.ga K x) f = true) (o : obsM K x = valM q st) {p1 p2 q0 q1 q2 q3 q4 q5 q6 q7 q8 q9 : Pos}
    (ha : L2.defArgs st = iA f p1 p2) (hb : L2.defBody st = iB f q0 q1 q2 q3 q4 q5 q6 q7 q8 q9) (hs : L2.defScope st = iS f) (top : (P.main.scope.names.lookup ("super" : Str)).isSome = false)
    (f1 : (f == ("self" : Str)) = false) (f2 : (f == ("__class__" : Str)) = false) (f3 : (f == ("super" : Str)) = false) (f4 : (f == ("__debug__" : Str)) = false)
    (hmc : ∀ env : Env, ∃ pl : Sem Bool, eval (.Call (.Attribute (.Call (.Name "super" q0) [] [] q1) "__init__" q2) [.Name f q3] [] q4) env = (do
      let ov ← attributeBase (.Call (.Name "super" q0) [] [] q1) "__init__" env (eval (.Call (.Name "super" q0) [] [] q1) env)
      standAt q2.atName
      let (m, first) ← holding [ov] (getMethod ov "__init__" pl)
      callWith q4 m first (backTo q4 (starEach [.Name f q3] env)) []))
    (hbind : ∀ (kV doc pm ct cdv : Value) (an : Option Addr) (cc : Addr) (s : Shared) (x v : Value), BindsTo s (ksFn "__init__" q (iA f p1 p2) (iB f q0 q1 q2 q3 q4 q5 q6 q7 q8 q9) (iS f) .none kV doc pm an cdv ct cc) ⟨[x, v], []⟩ [("self", x), (f, v)]) :
    BadC P K (He.ga K x) f := by
  obtain ⟨b1, b⟩ := ba b
  obtain ⟨b2, b⟩ := ba b
  obtain ⟨b3, b⟩ := ba b
  obtain ⟨b4, b⟩ := ba b
  obtain ⟨b5, b⟩ := ba b
  obtain ⟨b6, b⟩ := ba b
  obtain ⟨b7, b⟩ := ba b
  obtain ⟨b8, b⟩ := ba b
  obtain ⟨b9, b⟩ := ba b
  obtain ⟨b10, b⟩ := ba b
  obtain ⟨b11, b⟩ := ba b
  obtain ⟨b12, b⟩ := ba b
  refine ⟨clsB_ok b1, of_decide_eq_true b2, of_decide_eq_true b3, b4, of_decide_eq_true b5, of_decide_eq_true b6, of_decide_eq_true b7, of_decide_eq_true b8, of_decide_eq_true b9, of_decide_eq_true b10, top, f1, f2, f3, f4, ?_⟩
  unfold obsM at o
  cases e : K.lookup (He.ma K (He.ga K x) "__init__") with
  | none =>
    rw [e] at b
    cases b
  | some ob =>
    obtain ⟨oc, od, dt, osl⟩ := ob
    rw [e] at b o
    cases dt with
    | func fd =>
      obtain ⟨n1, n2, n3, n4, n5, n6, cl, n8, n9, n10, n11, n12, n13, n14, n15⟩ := fd
      have e2 : (some (n1, n2, n3, n4, n5, n6, cl.map (·.1), n15) : FnM) = some (("__init__" : Str), q, L2.defArgs st, FuncBody.stmts (L2.defBody st), L2.defScope st, mainGlobals, [("__class__" : Str)], builtinsNs) := o
      simp only [Option.some.injEq, Prod.mk.injEq] at e2
      obtain ⟨h1, h2, h3, h4, h5, h6, h7, h8⟩ := e2
      rw [ha] at h3
      rw [hb] at h4
      rw [hs] at h5
      subst h1 h2 h3 h4 h5 h6 h8
      have b' : iniB P.main.file K (He.ga K x) _ = true := b
      unfold iniB at b'
      obtain ⟨c1, b'⟩ := ba b'
      obtain ⟨c2, b'⟩ := ba b'
      obtain ⟨c3, c4⟩ := ba b'
      dsimp only at c1 c2 c3 c4
      cases n8 with
      | none =>
        match cl, h7, c3 with
        | [(y, cc)], h7, c3 =>
          have hy : y = "__class__" := by simpa using h7
          subst hy
          cases ec : K.lookup cc with
          | none =>
            simp only [ec] at c3
            cases c3
          | some oc' =>
            obtain ⟨cl1, cl2, cdt, cl3⟩ := oc'
            simp only [ec] at c3
            cases cdt with
            | cell v =>
              cases v with
              | none => cases c3
              | some v =>
                cases v with
                | ref D =>
                  have hD : D = He.ga K x := by simpa using c3
                  subst hD
                  cases n13 with
                  | ref cda =>
                    dsimp only at c4
                    cases ed : K.lookup cda with
                    | none =>
                      simp only [ed] at c4
                      cases c4
                    | some od' =>
                      obtain ⟨d1, d2, ddt, d3⟩ := od'
                      simp only [ed] at c4
                      cases ddt with
                      | fields vs =>
                        dsimp only at c4
                        cases ev : vs[2]? with
                        | none =>
                          simp only [ev] at c4
                          cases c4
                        | some v =>
                          simp only [ev] at c4
                          cases v with
                          | str fl tf =>
                            exact ⟨_, cc, cda, oc, n9, n10, n11, n14, d1, cl1, od, n12, d2, cl2, osl, d3, cl3, p1, p2, q0, q1, q2, q3, q4, q5, q6, q7, q8, q9, n2, vs, fl, tf, of_decide_eq_true b11, of_decide_eq_true b12, e, c1, ec, ed, ev, c4, hmc, fun s x v => hbind _ _ _ _ _ _ _ s x v⟩
                          | _ => cases c4
                      | _ => cases c4
                  | _ => cases c4
                | _ => cases c3
            | _ => cases c3
      | _ => cases c2
    | _ => cases b
end Ex

/-! own classes told by looks -/
namespace Dw
open PySem PySem.Spec PyProof.Rows L2
def xcB (K : PySem.W.Frag) (C : Addr) : Bool := decide (PySem.W.findIn K (.ref C) "__class__" = some (some (.builtin "object.__class__"))) && (decide (PySem.W.specialIn K (.builtin "object.__class__") "__get__" = some (some (.builtin "getset_descriptor.__get__"))) &&
  (decide (PySem.W.takesIn K (.builtin "object.__class__") = some true) && decide (PySem.W.mroIn K C (.type "object") = some true)))
/-- an own error as it is caught -/
def excB (K : PySem.W.Frag) (C : Addr) : Bool := xfB K C && xcB K C
theorem excB_ok {K : PySem.W.Frag} {C : Addr} (h : excB K C = true) : XfC K C ∧ ExcC K C := by
  obtain ⟨a, b⟩ := Ex.ba h
  have xf := xfB_ok a
  obtain ⟨b1, b⟩ := Ex.ba b
  obtain ⟨b2, b⟩ := Ex.ba b
  obtain ⟨b3, b4⟩ := Ex.ba b
  exact ⟨xf, xf.ga, xf.gg, xf.exC, xf.hdC, of_decide_eq_true b1, of_decide_eq_true b2, of_decide_eq_true b3, of_decide_eq_true b4⟩
/-- an own error as it is raised -/
def rsB (K : PySem.W.Frag) (C : Addr) : Bool := decide (PySem.W.subIn K (.ref C) (.type "BaseException") = some true) && decide (PySem.W.typeIn K (.ref C) = some (.type "type"))
theorem rsB_ok {K : PySem.W.Frag} {C : Addr} (h : rsB K C = true) : PySem.W.subIn K (.ref C) (.type "BaseException") = some true ∧ PySem.W.typeIn K (.ref C) = some (.type "type") := by
  obtain ⟨a, b⟩ := Ex.ba h
  exact ⟨of_decide_eq_true a, of_decide_eq_true b⟩
/-- isinstance against an own class; its instances beside tuples -/
def incB (K : PySem.W.Frag) (C : Addr) : Bool := xcB K C && (decide (PySem.W.kitOne K (.ref C) (.ref C) = some true) && (decide (PySem.W.kitOne K (.type "tuple") (.ref C) = some false) && decide (PySem.W.subIn K (.type "tuple") (.ref C) = some false)))
theorem incB_ok {K : PySem.W.Frag} {C : Addr} (h : incB K C = true) (c : Cls K C) : InC K C ∧ PySem.W.subIn K (.type "tuple") (.ref C) = some false := by
  obtain ⟨a, b⟩ := Ex.ba h
  obtain ⟨b1, b⟩ := Ex.ba b
  obtain ⟨b2, b3⟩ := Ex.ba b
  obtain ⟨a1, a⟩ := Ex.ba a
  obtain ⟨a2, a⟩ := Ex.ba a
  obtain ⟨a3, a4⟩ := Ex.ba a
  exact ⟨⟨⟨c, of_decide_eq_true a1, of_decide_eq_true a2, of_decide_eq_true a3, of_decide_eq_true a4, of_decide_eq_true b1⟩, of_decide_eq_true b2⟩, of_decide_eq_true b3⟩
/-- the class C has the own method m -/
def metB (K : PySem.W.Frag) (C : Addr) (m : Str) : Bool := decide (PySem.W.findIn K (.ref C) m = some (some (.ref (He.ma K C m)))) && PySem.W.isFn K (.ref (He.ma K C m))
theorem metB_ok {K : PySem.W.Frag} {C : Addr} {m : Str} (h : metB K C m = true) : PySem.W.findIn K (.ref C) m = some (some (.ref (He.ma K C m))) ∧ PySem.W.isFn K (.ref (He.ma K C m)) = true := by
  obtain ⟨a, b⟩ := Ex.ba h
  exact ⟨of_decide_eq_true a, b⟩
def mkB (K : PySem.W.Frag) (C : Addr) : Bool := PySem.W.makesIn K C && (metB K C "__init__" && PySem.W.keepIn K (.ref C))
theorem mkB_ok {K : PySem.W.Frag} {C : Addr} (h : mkB K C = true) : Mk K C (He.ma K C "__init__") := by
  obtain ⟨a, b⟩ := Ex.ba h
  obtain ⟨b, c⟩ := Ex.ba b
  obtain ⟨d, e⟩ := metB_ok b
  exact ⟨a, d, e, c⟩
theorem binds_of {K : PySem.W.Frag} {fd : FuncData} {ps : List Str} (hb : ∀ (s : Shared) (us : List Value), us.length = ps.length → BindsTo s fd ⟨us, []⟩ (ps.zip us)) : Binds K fd ps [] := fun s us _ hl => by
  rw [List.append_nil] at hl ⊢
  exact hb s us hl
end Dw
namespace Gl
open PySem PySem.Spec PyProof.Rows L2
theorem df_of {P : Program} {w : World} {K : PySem.W.Frag} {mg : Str → Option Value} {base : Heap} {x qual : Str} {pa : Arguments} {bd : List Stmt} {sc : Scope} {dvs : List V} {kws : List (Str × V)} {f : Addr} {fd : FuncData} {k : Nat} {ps : List Str} {sp : Sp} (F : FunD K x qual pa bd sc dvs kws f fd) (hm : mg x = some (.ref f)) (G : Fn P w K mg base k f fd ps sp) (hb : ∀ (s : Shared) (us : List Value), us.length = ps.length → BindsTo s fd ⟨us, []⟩ (ps.zip us)) : Df P w K mg base k x sp :=
  ⟨f, fd, ps, G, hm, F.kp, Dw.binds_of hb⟩
end Gl
set_option Elab.async false
set_option linter.all false
set_option maxRecDepth 100000
set_option maxHeartbeats 4000000
/-! Nw: raise X(); o.m(); sorted of ints; enumerate over a tuple. -/
namespace L2
open PySem PySem.Spec PyProof.Rows
section
variable {X : Cx}
/-- raise C() -/
def tRa0 (C : Addr) : L2.St → Hp → XK → Prop := fun _ H Q => Q (.ref C) none H
theorem pmk_0 {x : Str} {p pos : Pos} {C : Addr} (q : PySem.W.excIn X.K C He.veBase "ValueError.__new__" = true) (hR : Raises X (.ref C)) (hm : X.mg x = some (.ref C)) (kC : PySem.W.keepIn X.K (.ref C) = true) (hg : Gl X x)
    (hd : (x == ("__debug__" : Str)) = false := by decide) : PMk X (.Call (.Name x p) [] [] pos) (tRa0 C) := fun pins s σ H Q I h => by
  refine wpAny_Call_Name_kw (ld_glob I hg hm (PySem.W.callWith_K0 I.kIn kC ?_) hd)
  obtain ⟨bm, N, n1, n2, bs, e1, e2, e3, e4, e5, e6, k0, k1, k2, k3, k5, mN, c1, c2, c3, c4⟩ := exc_obj I.kIn q
  exact wpAny_call_exc_subT PySem.F.excBase_ValueError c4 c1 c2 c3 (fun h' a made => mk_of I made hR h (I.hok.gone made.new)) (by show 0 ≤ sizeLine; omega)
end
end L2
namespace Gl
open PySem PySem.Spec PyProof.Rows L2
/-- o.m() -/
def tMt0 (C : Addr) (m : Str) (sp : Sp) (E : L2.St → XK) (ta : TE) : TE := fun σ H Q => ta σ H fun x H1 => ∃ a dx fs, x = .ref a ∧ H1 a = some (.ins C dx fs) ∧ fs.lookup m = none ∧ sp [x] H1 Q (E σ)
/-- the method m of the class C -/
structure Cf (P : Program) (w : World) (K : PySem.W.Frag) (mg : Str → Option Value) (base : Heap) (n : Nat) (C : Addr) (m : Str) (sp : Sp) : Prop where
  ex : ∃ (f : Addr) (fd : FuncData) (ps : List Str), Fn P w K mg base n f fd ps sp ∧ Meth K C m f ∧ Binds K fd ps []
  cls : Cls K C
section
variable {X : Cx} {k j : Nat} {C : Addr} {sp : Sp} {E : L2.St → XK} {m : Str} {pos apos : Pos} {o : Expr} {ta : TE}
theorem pe_mt0 {pl : Sem Bool} (M : Cf X.prog X.w X.K X.mg X.base k C m sp) (hr : Room j X.A) (hk : k ≤ j) (hG : X.A.guards = some []) (hx : ∀ σ, PassesAt (L2.CX X.prog X.w) X σ (E σ)) (he : PE X o ta)
    (ht : eval (.Call (.Attribute o m apos) [] [] pos) X.env = (do
      let ov ← eval o X.env
      standAt apos.atName
      let (f, first) ← holding [ov] (getMethod ov m pl)
      callWith pos f first (backTo pos (starEach [] X.env)) (backToKw pos (keywordEach [] X.env))) := by rfl) : PE X (.Call (.Attribute o m apos) [] [] pos) (tMt0 C m sp E ta) := by
  obtain ⟨f, fd, ps, F, mt, b⟩ := M.ex
  refine ⟨fun pins s σ H Q I h => PySem.W.methodCall_KW (pl := pl) (thn (he.run pins s σ H _ I h) fun u s1 hh => ?_) ht⟩
  obtain ⟨x, H1, I1, rx, a, dx, fs, rfl, ea, l, q⟩ := hh
  cases rx
  refine getmeth_ok I1 ea M.cls mt l (PySem.W.callWith_K0 (first := [.ref a]) I1.kIn mt.kp ?_)
  exact run_df (us := [.ref a]) (vs := [.ref a]) F (hr.mono hk) hG b (hx σ) I1 (.cons (show RelV (.ref a) (.ref a) from rfl) .nil) q
end
end Gl
namespace Dw
open PySem PySem.Spec PyProof.Rows L2
section
variable {S : Type} {W : Wd S} {G : Gm S} {K : PySem.W.Frag}
@[simp] def wRaise0 (C : Addr) : WS S := fun KK env s => KK.xc ⟨C, []⟩ s
theorem ss_raise0 {C : Addr} : SimS W G (fun _ σ H => tRa0 C σ H fun cls d H' => G.E cls d H') (wRaise0 C) := fun R env σ H s rl KK hw Dn e =>
  e.xc ⟨C, []⟩ s _ _ _ hw rl.fr rl.at_.j ⟨rfl, .inl ⟨rfl, rfl⟩⟩
@[simp] def wMt0 (C : Addr) (m : Str) (wf : List D → S → (D → S → Prop) → (Xc → S → Prop) → Prop) (we : WE S) : WE S := fun env s k x => we env s (fun d s1 => match d with
  | .obj C' fs => C' = C ∧ fs.lookup m = none ∧ wf [.obj C' fs] s1 k fun _ _ => False
  | _ => False) x
theorem sim_mt0 {C : Addr} {m : Str} {wf : List D → S → (D → S → Prop) → (Xc → S → Prop) → Prop} {te : TE} {we : WE S} {E : L2.St → XK} (he : SimE W G te we) : SimE W G (Gl.tMt0 C m (spX W wf) E te) (wMt0 C m wf we) :=
  fun R env σ H s rl k x hw ox Q hQ => he R env σ H s rl _ x hw ox _ fun d s1 v H1 hw1 f1 j1 a1 => by
    cases d with
    | obj C' fs =>
      obtain ⟨rfl, hl, hw1⟩ := hw1
      have a2 := a1
      cases a1 with
      | obj e n l => exact ⟨_, _, _, rfl, e, l.nolook hl, R, _, s1, k, _, (rl.step f1 j1).at_, .cons a2 .nil, hw1, fun d s' v H' hk f j a => hQ d s' v H' hk (f1.trans f) j a, fun c s' cls d H' hx f j a => hx.elim⟩
    | _ => exact hw1.elim
@[simp] def wSortI : List D → S → (D → S → Prop) → Prop := fun ds s k => match ds with
  | [.lst xs] => ∃ ns, D.ints xs = some ns ∧ ∀ ms : List Int, ms.Perm ns → ms.Pairwise (· ≤ ·) → k (.lst (ms.map D.int)) s
  | _ => False
theorem daL_ints {B : Addr → Prop} {H : Hp} : ∀ ms : List Int, DaL B H (ms.map V.int) (ms.map D.int)
  | [] => .nil
  | m :: r => .cons (.int m) (daL_ints r)
theorem sc_sortI : SimC W (rSortedI K) wSortI := fun R s H at_ xs ds a k hw Q hQ => by
  match ds, a, hw with
  | [.lst es], a, ⟨ns, hn, hk⟩ =>
    obtain ⟨v, rfl, a1⟩ := a.one
    have fin : ∀ (p : Addr) (vs : List V), H p = some (.lst vs) → DaL (Bf W R s) H vs es → es.length ≤ sizeLine → rSortedI K [.ref p] H Q := fun p vs e l z => by
      have ev := l.ints hn
      subst ev
      refine ⟨p, ns, rfl, .of e, fun ms q pm pw hq => hQ _ _ _ (hk ms pm pw) (.new_at hq at_) (at_.new_at hq).j (.lst upd_same (at_.fresh hq) (daL_ints ms) ?_)⟩
      have e1 := l.len
      rw [List.length_map] at e1
      rw [List.length_map, pm.length_eq, e1]
      exact z
    cases a1 with
    | da a1 =>
      cases a1 with
      | lst e n l z => exact fin _ _ e l z
    | lst e n l z => exact fin _ _ e l z
end
end Dw
set_option Elab.async false
set_option linter.all false
set_option maxRecDepth 100000
set_option maxHeartbeats 4000000
/-! Et: enumerate over a tuple. -/
namespace PySem
open Sem (wp)
theorem newEnum1 {v : Value} {o : Obj} {H : Heap → Prop} (B : Begins v o H) :
    Meets (Builtin.«enumerate.__new__» ⟨[.type "enumerate", v], []⟩) (fun _ R s => H s.heap ∧
      R (.ok (.ret (.ref (s.heap.push o).objs.size))) { s with heap := (s.heap.push o).push { cls := .type "enumerate", data := .fields #[.none, .bool false, .ref s.heap.objs.size, rawInt 0, .none, .none] } }) :=
  .of_wp fun prog w A R s h => by
    obtain ⟨hp, g, d, tk, os⟩ := s
    obtain ⟨h1, h⟩ := h
    have hsub := sub_enumerate
    have go : ∀ {A' : Around} {E : Value → Shared → Prop} {Q : Value → Shared → Prop}, Q (.ref hp.objs.size) ⟨hp.push o, g, d, tk, os⟩ → wpAny (model prog w) A' (pyIter v) Q E ⟨hp, g, d, tk, os⟩ :=
      fun q => B.iter prog w _ _ ⟨hp, g, d, tk, os⟩ _ h1 q
    wp_walk using go
    refine wpAny_stack_any fun st => wpAny_pure ?_
    split
    · next c _ _ _ _ _ =>
      cases (c == Value.type "enumerate") <;> (wp_walk using go) <;> exact ⟨_, rfl, h⟩
    · wp_walk using go
      exact ⟨_, rfl, h⟩
theorem callEnum1 {prog : Program} {w : World} {A : Around} {E : Value → Shared → Prop} {s : Shared} {v : Value} {o : Obj} {H : Heap → Prop} {Q : Value → Shared → Prop} (B : Begins v o H) (h1 : H s.heap)
    (h : ∀ g, IsEnum g (s.heap.objs.size + 1) s.heap.objs.size 0 .none → g.get? s.heap.objs.size = some o → (∀ b u, s.heap.get? b = some u → g.get? b = some u) → Q (.ref (s.heap.objs.size + 1)) { s with heap := g }) :
    wpAny (model prog w) A (call (.type "enumerate") [v]) Q E s := by
  have sz : (s.heap.push o).objs.size = s.heap.objs.size + 1 := Heap.size_push ..
  have he := Heap.get?_push_size (s.heap.push o) (o := { cls := .type "enumerate", data := .fields #[.none, .bool false, .ref s.heap.objs.size, rawInt 0, .none, .none] }) rfl
  rw [sz] at he
  have fin := h _ he (Heap.get?_push_of_some _ (Heap.get?_push_size _ B.free)) fun b u x => Heap.get?_push_of_some _ (Heap.get?_push_of_some _ x)
  refine callType_new F.called_enumerate (by decide) (F.typeCall_enumerate_1 _) (F.newCall_enumerate_1 _) (fun obj => F.args_object_init_2 obj _) F.entry_enumerate_new (newEnum1 B) ⟨h1, ?_⟩
  show _ ∧ _
  rw [sz]
  exact ⟨⟨_, he, rfl⟩, fin⟩
end PySem
namespace L2
open PySem PySem.Spec PyProof.Rows
/-- the tuple at a, each item in a new pair -/
def IteT (K : PySem.W.Frag) (a : Addr) : It where
  go i H := ∃ (xs : List V) (x : V), SqT K H a xs ∧ xs[i]? = some x
  yld i H v H' := ∃ T x, v = .ref T ∧ H T = none ∧ H' = upd H T (.tup [.int (i : Nat), x]) ∧ ∀ xs, SqT K H a xs → xs[i]? = some x
  stop i H := ∃ xs : List V, SqT K H a xs ∧ xs.length = i
def StT (a e it : Addr) (i : Nat) (h : Heap) : Prop := (∃ old, IsEnum h e it ((i : Nat) : Int) old) ∧ h.IsTupleIter it a i ∧ e ≠ it
theorem turn_enumT {P : Program} {w : World} {K : PySem.W.Frag} {elts : List Expr} {kk : Nat} {tpos : Pos} (a e it : Addr) : Turn P w K (.Tuple elts kk tpos) (IteT K a) [e, it] e (StT a e it) := by
  have two : ∀ b, b ∈ [e, it] → b = e ∨ b = it := fun b hb => by simpa using hb
  have drw : ∀ {X : Cx} {pins : List (Addr × Obj)} {s : Shared} {σ : L2.St} {H : Hp} {i : Nat} {xs : List V}, Inv X pins σ H s → X.calm = true → SqT X.K H a xs → StT a e it i s.heap →
      ∃ its : List Value, Vals xs its ∧ s.heap.IsTuple a its.toArray ∧ a ≠ it ∧ a ≠ e ∧ Draws X.prog X.w X.A.in1 it [it, a] its.toArray.size (fun j v => its.toArray[j]? = some v) fun j h => h.IsTupleIter it a j ∧ h.IsTuple a its.toArray := fun {X pins s σ H i xs} I hc hq st => by
    obtain ⟨its, rv, tp, _⟩ := I.tuple hq
    obtain ⟨⟨old, he⟩, ⟨o1, g1, c1, d1⟩, _⟩ := st
    have n1 : a ≠ it := by
      rintro rfl
      obtain ⟨o, ho, c, _⟩ := tp
      rw [ho] at g1
      cases g1
      rw [c1] at c
      injection c with c
      exact absurd c (by decide)
    have n2 : a ≠ e := by
      rintro rfl
      obtain ⟨o, ho, c, _⟩ := tp
      have he2 : s.heap.get? a = some _ := he
      rw [ho] at he2
      cases he2
      injection c with c
      exact absurd c (by decide)
    exact ⟨its, rv, tp, n1, n2, Draws.tuple (show X.A.in1.handled = none from I.ok.hd hc) it a n1 its.toArray⟩
  refine ⟨by simp, fun i h st b hb => ?_, fun i h h' st k => ?_, fun X hP hw hK hc i pins s σ H E I hf st hg => ?_, fun X hP hw hK hc i pins s σ H E I hf st hg => ?_, fun A i s Q E st h => ?_⟩
  · obtain ⟨⟨old, he⟩, ⟨o, ho, _, hd⟩, _⟩ := st
    rcases two b hb with rfl | rfl
    · exact ⟨_, he, fun v q => by cases q⟩
    · exact ⟨o, ho, fun v q => by rw [hd] at q; cases q⟩
  · obtain ⟨⟨old, he⟩, hi, ne⟩ := st
    exact ⟨⟨old, k e (by simp) _ he⟩, hi.at fun o q => k it (by simp) o q, ne⟩
  · subst hP hw hK
    obtain ⟨xs, x, hq, hx⟩ := hg
    obtain ⟨its, rv, tp, n1, n2, D⟩ := drw I hc hq st
    obtain ⟨⟨old, he⟩, hit, ne⟩ := st
    obtain ⟨u0, hu0, ru0⟩ := rv.get hx
    have hu1 : its.toArray[i]? = some u0 := by simpa using hu0
    have lt : i < its.toArray.size := (Array.getElem?_eq_some_iff.mp hu1).1
    have le := Heap.lt_size he
    have li : it < s.heap.objs.size := by
      obtain ⟨_, q, _⟩ := hit
      exact Heap.lt_size q
    refine wpAny_pyNext_enum_itemD D he ⟨hit, tp⟩ lt ne (by simp [ne, Ne.symm n2]) fun u g tk hu out st' hT hz hk => ?_
    have : u = u0 := by
      rw [hu1] at hu
      exact (Option.some.inj hu).symm
    subst this
    refine ⟨_, rfl, wpAny_letOwnedTupleGo_enum (s := { s with heap := g, toks := tk + 1 }) out fun g2 en sb => ?_⟩
    have hT2 := (sb.2 _ (Nat.ne_of_gt le)).trans hT
    have ob : ObjOk X.prog X.w (upd H s.heap.objs.size (.tup [.int (i : Nat), x])) g2 s.heap.objs.size (.tup [.int (i : Nat), x]) := ⟨(show 2 ≤ sizeLine by decide), [.int i tk, u], .cons ⟨_, rfl⟩ (.cons ru0 .nil), _, hT2, rfl, _, rfl⟩
    have away : ∀ b o, b ∉ [e, it] → s.heap.get? b = some o → g2.get? b = some o := fun b o nb q => by
      have a1 : b ≠ e := fun z => nb (by simp [z])
      have a2 : b ≠ it := fun z => nb (by simp [z])
      exact (sb.2 b a1).trans (hk b o a1 a2 q)
    have J := I.turnedNew (t' := tk + 1) (ch := [e, it]) away hf (Nat.le_refl _) ob
    refine ⟨.ref s.heap.objs.size, _, J, rfl, ⟨_, x, rfl, I.hok.fresh (Nat.le_refl _), rfl, fun ys hy => by rw [I.tuple_inj hy hq]; exact hx⟩, ⟨⟨u, ?_⟩, st'.1.at fun o q => (sb.2 it (Ne.symm ne)).trans q, ne⟩, fun b hb => ?_⟩
    · have : ((i + 1 : Nat) : Int) = (i : Int) + 1 := by omega
      rw [this]
      exact en
    · have lb : b < s.heap.objs.size := by rcases two b hb with rfl | rfl <;> assumption
      rw [upd_ne (Nat.ne_of_lt lb)]
      exact (hf b hb).1
  · subst hP hw hK
    obtain ⟨xs, hq, hx⟩ := hg
    obtain ⟨its, rv, tp, n1, n2, D⟩ := drw I hc hq st
    obtain ⟨⟨old, he⟩, hit, ne⟩ := st
    obtain ⟨z0, z1, z2, z3, z4, z5⟩ := hf it (by simp)
    have hl : its.toArray.size = i := by
      have := rv.length
      simp
      omega
    subst hl
    exact wpAny_pyNext_enum_endD D he ⟨hit, tp⟩ fun g eb => ⟨rfl, I.turned (t' := s.toks) (fun b o hb q => eb b o hb q) z0 z1 z3 z4 z5⟩
  · obtain ⟨⟨_, he⟩, _⟩ := st
    exact wpAny_pyIter_enum he h
def iEnumT (K : PySem.W.Frag) (ta : TA) : TI := fun σ H R => ta σ H fun vs H1 => ∃ a xs, vs = [.ref a] ∧ SqT K H1 a xs ∧ R (IteT K a) H1
theorem pi_enumT {X : Cx} {K : PySem.W.Frag} {e : Expr} {ta : TA} {p pos tpos : Pos} {elts : List Expr} {kk : Nat} (hg : Gl X "enumerate") (hm : X.mg "enumerate" = none) (ha : PA X [e] ta) (hs : starEach [e] X.env = [(false, eval e X.env)] := by rfl) (e' : X.K = K := by rfl) :
    PI X (.Tuple elts kk tpos) (.Call (.Name "enumerate" p) [e] [] pos) (iEnumT K ta) := by
  subst e'
  refine ⟨fun pins s σ H R I h => Call_ (ld_blt I hg hm boot_enumerate (PyProof.Rows.callWith_type1 (thn (ha.run pos pins s σ H _ I h) fun us s1 hh => ?_) hs rfl))⟩
  obtain ⟨vs, H1, I1, r1, a, xs, rfl, hq, q⟩ := hh
  cases r1 with
  | cons r rr =>
    cases rr
    cases r
    obtain ⟨its, rv, tp, _⟩ := I1.tuple hq
    refine PySem.callEnum1 (begins_tuple a its.toArray) tp fun g he ho hk => wpAny_pyIter_enum he ?_
    have I2 : Inv X pins σ H1 { s1 with heap := g } := I1.kept (t' := s1.toks) hk
    refine ⟨s1.heap.objs.size + 1, [s1.heap.objs.size + 1, s1.heap.objs.size], _, _, H1, rfl, I2, turn_enumT a (s1.heap.objs.size + 1) s1.heap.objs.size, ⟨⟨.none, he⟩, ⟨_, ho, rfl, rfl⟩, Nat.succ_ne_self _⟩, fun b hb => ?_, q⟩
    have le : s1.heap.objs.size ≤ b := by
      rcases List.mem_cons.mp hb with q | q
      · rw [q]
        exact Nat.le_succ _
      · rw [List.mem_singleton.mp q]
        exact Nat.le_refl _
    exact I1.fpOk le (I1.hok.fresh le)
end L2
namespace Dw
open PySem PySem.Spec PyProof.Rows L2
section
variable {S : Type} {W : Wd S} {G : Gm S} {K : PySem.W.Frag}
theorem itr_enumT {a : Addr} {ds : List D} : Itr W (IteT K a) (enumD 0 ds) (fun R s H => Da (Bf W R s) H (.ref a) (.tup ds)) where
  mv R s H R' s' H' h m := h.mv m
  go i R s H hi h := by
    cases h with
    | tup e n l z =>
      rw [enumD_len] at hi
      obtain ⟨v, hv, _⟩ := l.get' (i := i) (d := ds[i]) (List.getElem?_eq_getElem hi)
      exact ⟨_, v, .of e, hv⟩
  stop R s H h := by
    cases h with
    | tup e n l z => exact ⟨_, .of e, by rw [enumD_len]; exact l.len⟩
  yld i R s H x H' hi h at_ y := by
    cases h with
    | tup e n l z =>
      obtain ⟨T, v, rfl, hT, rfl, y⟩ := y
      obtain ⟨d, hd, q⟩ := l.get (y _ (.of e))
      refine ⟨_, enumD_get 0 ds i d hd, .new_at hT at_, (at_.new_at hT).j, ?_⟩
      rw [Nat.zero_add]
      exact .tup upd_same (at_.fresh hT) (.cons (.int _) (.cons (q.mv (Fr.new_at hT at_).mv) .nil)) two_le
@[simp] def wiEnumT (w : WA S) : WI S := fun env s k x => w env s (fun ds s1 => match ds with
  | [.tup es] => k (enumD 0 es) s1
  | _ => False) x
theorem si_enumT {t : TA} {w : WA S} (h : SimA W G t w) : SimI W G (iEnumT K t) (wiEnumT w) := fun R env σ H s rl k x hw ox Q hQ => h R env σ H s rl _ x hw ox _ fun ds s1 vs H1 hw1 f1 j1 a1 => by
  match ds, a1, hw1 with
  | [.tup es], .cons a .nil, hw1 =>
    cases a with
    | tup e n l z => exact ⟨_, _, rfl, .of e, hQ _ s1 _ H1 _ hw1 f1 j1 itr_enumT (.tup e n l z)⟩
end
end Dw
set_option Elab.async false
set_option linter.all false
set_option maxRecDepth 100000
set_option maxHeartbeats 4000000
/-! Dc: {k: v for ..} with tuples for keys; in, [] of such dicts, over data. -/
namespace L2
open PySem PySem.Spec PyProof.Rows
/-- the dict at D gets a tuple for a key -/
theorem setT {X : Cx} {pins : List (Addr × Obj)} {σ : L2.St} {H : Hp} {s : Shared} {E : Value → Shared → Prop} {D b : Addr} {kvs : List (List Key × V)} {k : List Key} {v : V} {u r : Value} {Q : Unit → Shared → Prop} (hu : X.A.units + 1 < cLine) (I : Inv X pins σ H s)
    (hD : H D = some (.dT kvs)) (hb : H b = some (.tup (k.map kV))) (hz : kvs.length < sizeLine) (ry : RelV (.ref b) u) (rv : RelV v r) (h : ∀ s', Inv X pins σ (upd H D (.dT (putK kvs k v))) s' → Q () s') :
    wpAny (model X.prog X.w) X.A (dictSet D u r) Q E s := by
  cases ry
  obtain ⟨z, hd, vs, rel, dd⟩ := dt_of I.hok hD
  have l1 : vs.length ≤ sizeLine := by rw [← Paired.length rel]; exact z
  have l2 : (putK kvs k v).length ≤ sizeLine := by
    have := length_putK kvs k v
    omega
  refine wpAny_dictSet_heap (hsz := l1) (show (tupleKind _).room X.A from Nat.lt_of_succ_lt hu) (key_of I.hok hb) dd fun g dd' sb => h _ ?_
  obtain ⟨o, es, ep, q1, q2, q3, q4, _, q5⟩ := dd'
  have rel2 : KT (upd H D (.dT (putK kvs k v))) (putK kvs k v) (storedH vs k b r) := (rel.put k hb rv).keeps fun c ys ec => by
    rw [upd_ne (ne_of ec hD (fun z => nomatch z))]
    exact ec
  exact d_write I (by rw [hD]; exact True.intro) sb ⟨o, q1⟩ ⟨l2, hd, _, rel2, o, es, ep, q1, q2, q3, q4, q5⟩
/-- {k: v for target in iter if ..}, k a tuple of ints and texts: D the new dict -/
def tDcT (wi : TI) (g : TG) (tt : TT) (tk tv : TE) (vs : List Nat) : TE := fun σ H Q => wi σ H fun J H1 => ∀ D, H1 D = none → ∃ W : Nat → Nat → Hp → Prop, (∃ m, W 0 m (upd H1 D (.dT []))) ∧ ∀ i m H, W i m H →
  (J.stop i H ∧ Q (.ref D) H) ∨ (J.go i H ∧ ∃ Nx : Hp → Prop, (∀ H', Nx H' → ∃ m', m' < m ∧ W (i + 1) m' H') ∧ ∀ x H', J.yld i H x H' → g x (wipe σ vs) H' fun σ2 H2 => wipe σ2 vs = wipe σ vs ∧ tt σ2 H2 fun b H3 =>
    if b = true then tk σ2 H3 fun y H4 => tv σ2 H4 fun z H5 => ∃ kvs k q, y = .ref q ∧ H5 q = some (.tup (k.map kV)) ∧ H5 D = some (.dT kvs) ∧ kvs.length < sizeLine ∧ Nx (upd H5 D (.dT (putK kvs k z))) else Nx H3)
section
variable {X : Cx} {kx vx tg iter : Expr} {ifs : List Expr} {scope : Scope} {own : List (Str × Nat)} {pos : Pos} {wi : TI} {g : TG} {tt : TT} {tk tv : TE}
theorem pe_dcT (hu : X.A.units + 1 < cLine) (hc : X.calm = true) (hN : X.N.Nodup) (hi : PI X tg iter wi) (ok : BlkOk X.N X.env.scope scope own)
    (hg : ∀ (s : Shared) (H : Hp) (C : Addr) (cl : List (Str × Addr)) (fp : List Addr), PG (X.blk s H scope (compEnvC scope cl C X.env) fp) tg g) (ht : ∀ (s : Shared) (H : Hp) (C : Addr) (cl : List (Str × Addr)) (fp : List Addr), PTs (X.blk s H scope (compEnvC scope cl C X.env) fp) ifs tt)
    (hk : ∀ (s : Shared) (H : Hp) (C : Addr) (cl : List (Str × Addr)) (fp : List Addr), PE (X.blk s H scope (compEnvC scope cl C X.env) fp) kx tk)
    (he : ∀ (s : Shared) (H : Hp) (C : Addr) (cl : List (Str × Addr)) (fp : List Addr), PE (X.blk s H scope (compEnvC scope cl C X.env) fp) vx tv) (hs : ∀ x, foldedSetIterable iter X.env x = pure x := by intro _; rfl) :
    PE X (.DictComp kx vx [⟨tg, iter, ifs, 0⟩] scope pos) (tDcT wi g tt tk tv (own.map (·.2))) := by
  refine ⟨fun pins s σ H Q I h => ?_⟩
  rw [arm_eval_DictComp]
  have clo : ∀ y ∈ scope.names, y.2 = .free → ∃ c, X.env.cells.lookup y.1 = some c := fun y hy e => (ok.free y hy e).elim (fun k => I.ok.has _ (.inl k)) fun k => I.ok.has _ (.inr k)
  refine wpAny_comprehension_free (use := none) rfl hs (closure_ok clo) ok.kind (fun y hy e => by rw [ok.uniq y hy, e]) (thn (hi.run pins s σ H _ I h) fun xv s1 hx => thn hx fun itv s2 ⟨it, fp, tn, J, H2, e, I2, T, st2, f2, q⟩ => ?_)
  subst e
  refine wpAny_newObj_type (newEnv_comp ?_)
  obtain ⟨D, hD⟩ : ∃ D, D = s2.heap.objs.size := ⟨_, rfl⟩
  have dn : H2 D = none := I2.hok.fresh (Nat.le_of_eq hD.symm)
  obtain ⟨W, ⟨m0, w0⟩, turn⟩ := q D dn
  obtain ⟨s3, hs3⟩ : ∃ s3 : Shared, s3 = { s2 with heap := s2.heap.push { cls := .type "dict", data := .dict #[] } } := ⟨_, rfl⟩
  obtain ⟨H3, hH3⟩ : ∃ H3, H3 = upd H2 D (.dT []) := ⟨_, rfl⟩
  have p3 : s3.heap = s2.heap.push { cls := .type "dict", data := .dict #[] } := by rw [hs3]
  have I3 : Inv X pins σ H3 s3 := by
    rw [hs3, hH3]
    refine I2.laid (t' := s2.toks) (fun b o e => Heap.get?_push_of_some _ e) (Nat.le_of_eq hD.symm) ?_
    rw [hD]
    exact dt_empty s2.heap I2.big
  have old : ∀ b ∈ fp, b < s2.heap.objs.size := fun b hb => by
    obtain ⟨o, e, _⟩ := T.obj _ _ st2 b hb
    exact Heap.lt_size e
  have f3 : ∀ b ∈ fp, FpOk X pins H3 b ∧ b < s3.heap.objs.size := fun b hb => by
    have hlt := old b hb
    refine ⟨⟨?_, (f2 b hb).2⟩, by rw [p3, Heap.size_push]; exact Nat.lt_succ_of_lt hlt⟩
    rw [hH3, upd_ne (by rw [hD]; exact Nat.ne_of_lt hlt)]
    exact (f2 b hb).1
  have st3 : tn 0 s3.heap := T.keep _ _ _ st2 fun b _ o e => by
    rw [p3]
    exact Heap.get?_push_of_some _ e
  have I4 := block_start I3 ok hN f3
  have c0 := cellsFrom (s3.heap.objs.size + 1) scope.names (cloFrom X.env.cells scope.names [])
  have pg := hg s3 H3 s3.heap.objs.size (cellsFrom (s3.heap.objs.size + 1) scope.names (cloFrom X.env.cells scope.names [])) fp
  have pt := ht s3 H3 s3.heap.objs.size (cellsFrom (s3.heap.objs.size + 1) scope.names (cloFrom X.env.cells scope.names [])) fp
  have pk := hk s3 H3 s3.heap.objs.size (cellsFrom (s3.heap.objs.size + 1) scope.names (cloFrom X.env.cells scope.names [])) fp
  have pe := he s3 H3 s3.heap.objs.size (cellsFrom (s3.heap.objs.size + 1) scope.names (cloFrom X.env.cells scope.names [])) fp
  obtain ⟨ce, hce⟩ : ∃ ce, ce = compEnvC scope (cellsFrom (s3.heap.objs.size + 1) scope.names (cloFrom X.env.cells scope.names [])) s3.heap.objs.size X.env := ⟨_, rfl⟩
  rw [← hce] at I4 pg pt pk pe
  have cL : ce.locals = s3.heap.objs.size := by rw [hce]; rfl
  obtain ⟨s4, hs4⟩ : ∃ s4 : Shared, s4 = { s3 with heap := pushCells (s3.heap.push { cls := .type "dict", data := .dict #[] }) scope.names } := ⟨_, rfl⟩
  rw [← hs4] at I4
  have st4 : tn 0 s4.heap := T.keep _ _ _ st3 fun b _ o e => by
    rw [hs4]
    exact pushCells_keeps _ _ _ _ (Heap.get?_push_of_some _ e)
  have nfp : ∀ b ∈ fp, H3 b = none := fun b hb => (f3 b hb).1.1
  have stat : ∀ {σ' : L2.St} {H' : Hp} {s' : Shared}, Inv (X.blk s3 H3 scope ce fp) [] σ' H' s' → (∀ b ∈ fp, H' b = none) → ∀ b ∈ fp, FpOk (X.blk s3 H3 scope ce fp) [] H' b := fun {σ' H' s'} J' hn b hb =>
    ⟨hn b hb, (J'.ok.exf b hb).1, J'.ok.exfs b hb, .inl hb, fun x c e => (J'.ok.exf b hb).2 x c e, fun p hp => by cases (show p ∈ ([] : List (Addr × Obj)) from hp)⟩
  have loop : codeAny (model X.prog X.w) X.A (.compLoop (.DictComp kx vx [⟨tg, iter, ifs, 0⟩] scope pos) 0 (.ref it) (.ref D) ce) (compPost (model X.prog X.w) X.A X.xe none (EP X pins σ Q) (.ref D) s3.heap.objs.size) s4 := by
    refine compLoop_anyD (fun n s' => ∃ i H', Inv (X.blk s3 H3 scope ce fp) [] (wipe σ (own.map (·.2))) H' s' ∧ tn i s'.heap ∧ (∀ b ∈ fp, H' b = none) ∧ W i n H') (fun n s5 hI => ?_) m0 ⟨0, H3, I4, st4, nfp, by rw [hH3]; exact w0⟩
    obtain ⟨i, H5, I5, st5, n5, w5⟩ := hI
    rcases turn i n H5 w5 with ⟨stop, qq⟩ | ⟨go, Nx, hNx, step⟩
    · refine thnF (T.done (X.blk s3 H3 scope ce fp) rfl rfl rfl hc i [] s5 _ H5 (fun _ _ => False) I5 (stat I5 n5) st5 stop) fun r s6 ⟨hr, I6⟩ => ?_
      subst hr
      have I7 : Inv X pins σ H5 s6 := I3.call' (ch := fp) I6.os I6.base I6.hok I6.bare fun b hb => by
        have z := (f3 b hb).1.2
        exact ⟨z.2.2.1, z.1, z.2.2.2.1, z.2.2.2.2⟩
      have nC : H5 s3.heap.objs.size = none := by
        rw [← cL]
        exact I6.free
      obtain ⟨m, hn, _⟩ := I6.loc
      have hn : s6.heap.Ns ce.locals m := hn
      rw [cL] at hn
      obtain ⟨z0, z1, z2, z3, z4, z5⟩ := I3.fpOk (Nat.le_refl _) nC
      exact ⟨m, hn, fun g sb => ⟨.ref D, H5, I7.turned (t' := s6.toks) (fun b o hb e => (sb.2 b hb).trans e) z0 z1 z3 z4 z5, rfl, qq⟩⟩
    · refine thnF (T.item (X.blk s3 H3 scope ce fp) rfl rfl rfl hc i [] s5 _ H5 (fun _ _ => False) I5 (stat I5 n5) st5 go) fun r s6 ⟨u, hr, h6⟩ => ?_
      subst hr
      refine thnF h6 fun _ s7 ⟨x, H7, I7, r7, y7, st7, n7⟩ => ?_
      have J7 := I7.pinned (stat I7 n7) (T.obj _ _ st7)
      refine thnF (pg.run _ s7 _ H7 x u _ J7 r7 (step x H7 y7)) fun _ s8 ⟨σ8, H8, I8, hw8, q8⟩ => ?_
      refine thnF (pt.run _ s8 σ8 H8 _ I8 q8) fun b s9 ⟨H9, I9, q9⟩ => ?_
      have fin : ∀ {s' : Shared} {H' : Hp}, Inv (X.blk s3 H3 scope ce fp) ([] ++ pinsAt fp s7.heap) σ8 H' s' → Nx H' → ∃ m, m < n ∧ ∃ i H', Inv (X.blk s3 H3 scope ce fp) [] (wipe σ (own.map (·.2))) H' s' ∧ tn i s'.heap ∧ (∀ b ∈ fp, H' b = none) ∧ W i m H' := fun {s' H'} J' nx => by
        obtain ⟨m', hm, w'⟩ := hNx H' nx
        have pn : ∀ b ∈ fp, ∀ o, s7.heap.get? b = some o → s'.heap.get? b = some o ∧ H' b = none := fun b hb o e => by
          have z := J'.pin (b, o) (List.mem_append_right _ (List.mem_append_right _ (mem_pinsAt hb e)))
          exact ⟨z.1, z.2.1⟩
        refine ⟨m', hm, i + 1, H', (J'.unpinned (pins := [])).weak (by rw [← hw8, wipe_length]) (fun j v e => ?_), T.keep _ _ _ st7 fun b hb o e => (pn b hb o e).1, fun b hb => ?_, w'⟩
        · rw [← hw8] at e
          exact (wipe_some e).1
        · obtain ⟨o, e, _⟩ := T.obj _ _ st7 b hb
          exact (pn b hb o e).2
      cases b with
      | false =>
        simp only [Bool.false_eq_true, if_false] at q9 ⊢
        exact fin I9 q9
      | true =>
        simp only [if_true] at q9 ⊢
        refine thnF (pk.run _ s9 σ8 H9 _ I9 q9) fun z s10 ⟨yk, H10, I10, r10, q10⟩ => ?_
        refine thnF (pe.run _ s10 σ8 H10 _ I10 q10) fun z2 s11 ⟨yv, H11, I11, r11, kvs, k, q, ek, hq, hD11, hz11, nx⟩ => ?_
        subst ek
        exact setT (X := X.blk s3 H3 scope ce fp) hu I11 hD11 hq hz11 r10 r11 fun s12 I12 => fin I12 nx
  have done := codeAny_compStart_dict loop (T.self X.A 0 _ _ _ st4 loop)
  subst hs4 hce hs3 hD
  exact done
end
end L2
set_option Elab.async false
set_option linter.all false
set_option maxRecDepth 100000
set_option maxHeartbeats 4000000
/-! Dd: dicts with tuples for keys, over data. -/
namespace Dw
open PySem PySem.Spec PyProof.Rows L2
def valD (kvs : List (List Key × D)) (k : List Key) : Option D := (kvs.find? fun kv => decide (kv.1 = k)).map (·.2)
def putD (kvs : List (List Key × D)) (k : List Key) (v : D) : List (List Key × D) :=
  if (kvs.any fun kv => decide (kv.1 = k)) = true then kvs.map (fun kv => if kv.1 = k then (kv.1, v) else kv) else kvs ++ [(k, v)]
section
variable {B : Addr → Prop} {H : Hp}
theorem DaT.len : ∀ {vs : List (List Key × V)} {ds : List (List Key × D)}, DaT B H vs ds → vs.length = ds.length
  | _, _, .nil => rfl
  | _, _, .cons _ t => by rw [List.length_cons, List.length_cons, t.len]
theorem DaT.imp {B' : Addr → Prop} {v : List (List Key × V)} {d : List (List Key × D)} (h : DaT B H v d) (q : ∀ a, B' a → B a) : DaT B' H v d := h.mv fun a o e n => ⟨e, fun b => n (q a b)⟩
theorem DaT.val {k : List Key} : ∀ {vs : List (List Key × V)} {ds : List (List Key × D)}, DaT B H vs ds → (valV vs k = none ∧ valD ds k = none) ∨ ∃ v d, valV vs k = some v ∧ valD ds k = some d ∧ Da B H v d
  | _, _, .nil => .inl ⟨rfl, rfl⟩
  | _, _, .cons (k := k') (v := v) (d := d) h t => by
    by_cases e : k' = k
    · exact .inr ⟨v, d, valV_pos e, by simp [valD, List.find?_cons, e], h⟩
    · rw [valV_neg e]
      have : ∀ r : List (List Key × D), valD ((k', d) :: r) k = valD r k := fun r => by simp [valD, List.find?_cons, e]
      rw [this]
      exact t.val
theorem DaT.any {k : List Key} : ∀ {vs : List (List Key × V)} {ds : List (List Key × D)}, DaT B H vs ds → (vs.any fun kv => decide (kv.1 = k)) = ds.any fun kv => decide (kv.1 = k)
  | _, _, .nil => rfl
  | _, _, .cons h t => by rw [List.any_cons, List.any_cons, t.any]
theorem DaT.snoc {k : List Key} {v : V} {d : D} : ∀ {vs : List (List Key × V)} {ds : List (List Key × D)}, DaT B H vs ds → Da B H v d → DaT B H (vs ++ [(k, v)]) (ds ++ [(k, d)])
  | _, _, .nil, h => .cons h .nil
  | _, _, .cons a t, h => .cons a (t.snoc h)
theorem DaT.repl {k : List Key} {v : V} {d : D} : ∀ {vs : List (List Key × V)} {ds : List (List Key × D)}, DaT B H vs ds → Da B H v d → DaT B H (vs.map fun kv => if kv.1 = k then (kv.1, v) else kv) (ds.map fun kv => if kv.1 = k then (kv.1, d) else kv)
  | _, _, .nil, h => .nil
  | _, _, .cons (k := k') a t, h => by
    rw [List.map_cons, List.map_cons]
    by_cases e : k' = k
    · rw [if_pos e, if_pos e]
      exact .cons h (t.repl h)
    · rw [if_neg e, if_neg e]
      exact .cons a (t.repl h)
theorem DaT.put {vs : List (List Key × V)} {ds : List (List Key × D)} {k : List Key} {v : V} {d : D} (t : DaT B H vs ds) (h : Da B H v d) : DaT B H (putK vs k v) (putD ds k d) := by
  unfold putK putD
  rw [t.any]
  split
  · exact t.repl h
  · exact t.snoc h
theorem putD_len (kvs : List (List Key × D)) (k : List Key) (v : D) : (putD kvs k v).length ≤ kvs.length + 1 := by
  unfold putD
  split <;> simp
end
section
variable {S : Type}
def wDc (g : WG) (tt : WT S) (wk wv : WE S) (vs : List Nat) : List D → List (List Key × D) → List Sl → S → (List (List Key × D) → S → Prop) → (Xc → S → Prop) → Prop
  | [], acc, _, s, k, _ => k acc s
  | d :: r, acc, env, s, k, x => g d (wp env vs) fun e1 => tt e1 s (fun b s1 => if b = true then wk e1 s1 (fun y s2 => wv e1 s2 (fun z s3 => match y with
    | .tup ys => ∃ kk, D.keys ys = some kk ∧ wDc g tt wk wv vs r (putD acc kk z) env s3 k x
    | _ => False) x) x else wDc g tt wk wv vs r acc env s1 k x) x
@[simp] def wDcE (wi : WI S) (g : WG) (tt : WT S) (wk wv : WE S) (vs : List Nat) : WE S := fun env s k x => wi env s (fun ds s1 => ds.length < sizeLine ∧ wDc g tt wk wv vs ds [] env s1 (fun ys s2 => k (.dit ys) s2) x) x
@[simp] def wDGetT (wd wk : WE S) : WE S := fun env s k x => wd env s (fun d s1 => wk env s1 (fun e s2 => match d, e with
  | .dit kvs, .tup es => ∃ kk v, D.keys es = some kk ∧ valD kvs kk = some v ∧ k v s2
  | _, _ => False) x) x
@[simp] def wDInT (wk wd : WE S) : WE S := fun env s k x => wk env s (fun e s1 => wd env s1 (fun d s2 => match d, e with
  | .dit kvs, .tup es => ∃ kk, D.keys es = some kk ∧ k (.bl (valD kvs kk).isSome) s2
  | _, _ => False) x) x
@[simp] def wDNotInT (wk wd : WE S) : WE S := fun env s k x => wk env s (fun e s1 => wd env s1 (fun d s2 => match d, e with
  | .dit kvs, .tup es => ∃ kk, D.keys es = some kk ∧ k (.bl (!(valD kvs kk).isSome)) s2
  | _, _ => False) x) x
variable {W : Wd S} {G : Gm S} {K : PySem.W.Frag}
theorem Da.key {B : Addr → Prop} {H : Hp} {v : V} {es : List D} {kk : List Key} (a : Da B H v (.tup es)) (h : D.keys es = some kk) : ∃ q, v = .ref q ∧ H q = some (.tup (kk.map kV)) := by
  cases a with
  | tup e n l z => exact ⟨_, rfl, by rw [e, l.keys h]⟩
theorem sim_dgetT {td ty : TE} {wd wk : WE S} (hd : SimE W G td wd) (hk : SimE W G ty wk) : SimE W G (tDGet td ty) (wDGetT wd wk) := fun R env σ H s rl k x hw ox Q hQ =>
  hd R env σ H s rl _ x hw ox _ fun d s1 v H1 hw1 f1 j1 a1 => hk R env σ H1 s1 (rl.step f1 j1) _ x hw1 ox _ fun e s2 u H2 hw2 f2 j2 a2 => by
    match d, e, a1.mv f2.mv, a2, hw2 with
    | .dit kvs, .tup es, a1, a2, ⟨kk, z, hk, hv, hw3⟩ =>
      obtain ⟨q, rfl, hq⟩ := a2.key hk
      cases a1 with
      | dit e n l =>
        rcases l.val (k := kk) with ⟨_, h⟩ | ⟨w, z', h1, h2, h3⟩
        · rw [hv] at h; cases h
        · rw [hv] at h2
          cases h2
          exact ⟨_, w, rfl, by rw [← h1]; exact DGet.t e hq, hQ _ s2 _ H2 hw3 (f1.trans f2) j2 h3⟩
theorem sim_dinT {td ty : TE} {wd wk : WE S} (hk : SimE W G ty wk) (hd : SimE W G td wd) : SimE W G (tDIn ty td) (wDInT wk wd) := fun R env σ H s rl k x hw ox Q hQ =>
  hk R env σ H s rl _ x hw ox _ fun e s1 u H1 hw1 f1 j1 a1 => hd R env σ H1 s1 (rl.step f1 j1) _ x hw1 ox _ fun d s2 v H2 hw2 f2 j2 a2 => by
    match d, e, a2, a1.mv f2.mv, hw2 with
    | .dit kvs, .tup es, a2, a1, ⟨kk, hk, hw3⟩ =>
      obtain ⟨q, rfl, hq⟩ := a1.key hk
      cases a2 with
      | @dit _ xs _ e n l =>
        refine ⟨_, _, rfl, DGet.t e hq, ?_⟩
        have : (valV xs kk).isSome = (valD kvs kk).isSome := by rcases l.val (k := kk) with ⟨h1, h2⟩ | ⟨w, z', h1, h2, h3⟩ <;> rw [h1, h2] <;> rfl
        rw [this]
        exact hQ _ s2 _ H2 hw3 (f1.trans f2) j2 (.bl _)
theorem sim_dnotInT {td ty : TE} {wd wk : WE S} (hk : SimE W G ty wk) (hd : SimE W G td wd) : SimE W G (tDNotIn ty td) (wDNotInT wk wd) := fun R env σ H s rl k x hw ox Q hQ =>
  hk R env σ H s rl _ x hw ox _ fun e s1 u H1 hw1 f1 j1 a1 => hd R env σ H1 s1 (rl.step f1 j1) _ x hw1 ox _ fun d s2 v H2 hw2 f2 j2 a2 => by
    match d, e, a2, a1.mv f2.mv, hw2 with
    | .dit kvs, .tup es, a2, a1, ⟨kk, hk, hw3⟩ =>
      obtain ⟨q, rfl, hq⟩ := a1.key hk
      cases a2 with
      | @dit _ xs _ e n l =>
        refine ⟨_, _, rfl, DGet.t e hq, ?_⟩
        have : (valV xs kk).isSome = (valD kvs kk).isSome := by rcases l.val (k := kk) with ⟨h1, h2⟩ | ⟨w, z', h1, h2, h3⟩ <;> rw [h1, h2] <;> rfl
        rw [this]
        exact hQ _ s2 _ H2 hw3 (f1.trans f2) j2 (.bl _)
theorem sim_dcE {us : List Nat} {wi : TI} {g : TG} {tt : TT} {tk tv : TE} {vs : List Nat} {wI : WI S} {wg : WG} {wt : WT S} {wk wv : WE S} (hi : SimI W G wi wI) (hg : SimTg W G us g wg) (ht : SimT W G tt wt) (hk : SimE W G tk wk) (hv : SimE W G tv wv) (hs : ∀ j, j ∈ us → j ∈ vs := by decide) :
    SimE W G (tDcT wi g tt tk tv vs) (wDcE wI wg wt wk wv vs) := by
  intro R env σ H s rl k x hw ox Q hQ
  refine hi R env σ H s rl _ x hw ox _ fun ds s1 J H1 St hw1 f1 j1 it st p hp => ?_
  obtain ⟨hlen, hw1⟩ := hw1
  have r1 := rl.step f1 j1
  have hz := r1.new0 hp
  have hn : ∀ i, (sg env i).isO = true → σ[i]? ≠ some (some (.ref p)) := fun i e z => by
    obtain ⟨q, h1, h2, _⟩ := r1.env.own i e
    rw [z] at h1
    cases h1
    exact (r1.at_.r p h2).1 hp
  let R' : Addr → Prop := fun a => R a ∨ a = p
  let Go : Nat → Hp → Prop := fun i H2 => ∃ s2 acc da, wDc wg wt wk wv vs (ds.drop i) da env s2 (fun ys s3 => k (.dit ys) s3) x ∧ H2 p = some (.dT acc) ∧ da.length ≤ i ∧ DaT (Bf W R' s2) H2 acc da ∧ Rel W G R' env σ H2 s2 ∧ St R' s2 H2 ∧ Fr W s1 H1 s2 H2
  refine ⟨fun i m H2 => m = ds.length - i ∧ i ≤ ds.length ∧ Go i H2, ⟨ds.length, by simp, Nat.zero_le _, s1, [], [], hw1, upd_same, Nat.le_refl _, .nil, r1.more (o := .dT []) hp, it.mv _ _ _ _ _ _ st (r1.at_.off (o := .dT []) hp), .new_at hp r1.at_⟩, ?_⟩
  rintro i m H2 ⟨rfl, hi', s2, acc, da, hw2, e2, la, da2, rl2, st2, f2⟩
  by_cases hlt : i < ds.length
  · refine .inr ⟨it.go i _ _ _ hlt st2, fun H' => i + 1 ≤ ds.length ∧ Go (i + 1) H', fun H' h => ⟨ds.length - (i + 1), by omega, rfl, h⟩, fun v H3 hy => ?_⟩
    obtain ⟨d, hd, f3, j3, a3⟩ := it.yld i _ _ _ v H3 hlt st2 rl2.at_ hy
    have dr : ds.drop i = d :: ds.drop (i + 1) := by
      obtain ⟨h2, h3⟩ := List.getElem?_eq_some_iff.mp hd
      rw [List.drop_eq_getElem_cons h2, h3]
    rw [dr] at hw2
    have rl3 := rl2.step f3 j3
    have e3 := f3.kp _ _ e2 (rl2.at_.r p (.inr rfl)).2
    refine hg _ _ _ H3 s2 (rl3.wipe vs) v d a3 _ hw2 _ fun env1 σ1 hw3 rl4 ag ln => ⟨wipe_eq (ln.trans (L2.wipe_length σ vs)) hs ag, ?_⟩
    refine ht _ _ _ H3 s2 rl4 _ x hw3 ox _ fun b s4 H4 hw4 f4 j4 => ?_
    have rl5 := rl3.step f4 j4
    have st5 := it.mv _ _ _ _ _ _ (it.mv _ _ _ _ _ _ st2 f3.mv) f4.mv
    have e4 := f4.kp _ _ e3 (rl3.at_.r p (.inr rfl)).2
    cases b with
    | false => exact Rd.iteF ⟨hlt, s4, acc, da, by simpa using hw4, e4, by omega, (da2.mv f3.mv).mv f4.mv, rl5, st5, (f2.trans f3).trans f4⟩
    | true =>
      refine Rd.iteT (hk _ _ _ H4 s4 (rl4.step f4 j4) _ x (by simpa using hw4) ox _ fun y s5 yv H5 hw5 f5 j5 a5 => ?_)
      have rl6 := rl5.step f5 j5
      have e5 := f5.kp _ _ e4 (rl5.at_.r p (.inr rfl)).2
      refine hv _ _ _ H5 s5 ((rl4.step f4 j4).step f5 j5) _ x hw5 ox _ fun z s6 zv H6 hw6 f6 j6 a6 => ?_
      have rl7 := rl6.step f6 j6
      have e6 := f6.kp _ _ e5 (rl6.at_.r p (.inr rfl)).2
      match y, a5.mv f6.mv, hw6 with
      | .tup ys, a5, ⟨kk, hkk, hw7⟩ =>
        obtain ⟨q, rfl, hq⟩ := a5.key hkk
        obtain ⟨rl8, m8⟩ := rl7.side (o := .dT (putK acc kk zv)) (.inr rfl) hz hn
        have da3 : DaT (Bf W R' s6) H6 acc da := (((da2.mv f3.mv).mv f4.mv).mv f5.mv).mv f6.mv
        have ll := da3.len
        have pl := putD_len da kk z
        refine ⟨acc, kk, q, rfl, hq, e6, by omega, hlt, s6, _, putD da kk z, hw7, upd_same, by omega, (da3.put a6).mv m8, rl8, it.mv _ _ _ _ _ _ (it.mv _ _ _ _ _ _ (it.mv _ _ _ _ _ _ st5 f5.mv) f6.mv) m8, ?_⟩
        have f7 := (((f2.trans f3).trans f4).trans f5).trans f6
        exact ⟨fun b o e n => by
          rw [upd_ne fun z => by rw [z, hp] at e; cases e]
          exact f7.kp b o e n, f7.grow, f7.new⟩
  · have e : i = ds.length := by omega
    subst e
    rw [List.drop_length] at hw2
    refine .inl ⟨it.stop _ _ _ st2, ?_⟩
    have nb : ¬ Bf W R s2 p := fun z => z.elim (fun q => (r1.at_.r p q).1 hp) (rl2.at_.r p (.inr rfl)).2
    exact hQ (.dit da) s2 _ H2 hw2 (f1.trans f2) rl2.at_.j (.dit e2 nb (da2.imp fun a z => z.imp .inl id))
end
end Dw
set_option Elab.async false
set_option linter.all false
set_option maxRecDepth 100000
set_option maxHeartbeats 4000000
/-! Tz: try with several except clauses, with and without a name; clauses behind these are never asked. -/
namespace L2
open PySem PySem.Spec PyProof.Rows
abbrev Clause := Value × Option Nat × (Addr → Value → Option Addr → TS)
def endsN (i : Nat) (D : Ends) : Ends := { nx := fun σ' H' => D.nx (σ'.set i none) H', rt := D.rt, bk := fun σ' H' => D.bk (σ'.set i none) H', ct := fun σ' H' => D.ct (σ'.set i none) H' }
/-- what the clauses wish of an exception of the body -/
def wMix (K : PySem.W.Frag) (D : Ends) : List Clause → WX
  | [] => fun _ _ _ _ => False
  | (c, none, ts) :: r => fun cls d σ H => ∃ b, PySem.W.exmOne K cls c = some b ∧ (b = true → ∀ a, H a = none → ts a cls d D σ H) ∧ (b = false → wMix K D r cls d σ H)
  | (c, some i, ts) :: r => fun cls d σ H => ∃ b, PySem.W.exmOne K cls c = some b ∧ (b = true → ∀ a, H a = none → ts a cls d (endsN i D) (σ.set i (some (.ref a))) H) ∧ (b = false → wMix K D r cls d σ H)
def tTry (K : PySem.W.Frag) (l : List Clause) (tb : WX → TS) : TS := fun D σ H => tb (wMix K D l) D σ H
inductive HdsX (X : Cx) : List ExceptHandler → List Clause → Prop
  | rest {hds : List ExceptHandler} : HdsX X hds []
  | bare {x : Str} {c : Value} {ts : Addr → Value → Option Addr → TS} {b₀ : Stmt} {suite : List Stmt} {np pos' : Pos} {hds : List ExceptHandler} {l : List Clause} (hc : Names X x c)
      (hsu : ∀ (a : Addr) (oe : Obj) (cls : Value) (d : Option Addr) (pn : List (Addr × Obj)), Zc cls d oe → (∃ vs, oe.data = .fields vs) → PSs (X.suite a ((a, oe) :: pn)) (b₀ :: suite) (ts a cls d)) (r : HdsX X hds l) :
      HdsX X (.ExceptHandler (some (.Name x np)) none (b₀ :: suite) pos' :: hds) ((c, none, ts) :: l)
  | named {x n : Str} {i : Nat} {c : Value} {ts : Addr → Value → Option Addr → TS} {b₀ : Stmt} {suite : List Stmt} {np pos' : Pos} {hds : List ExceptHandler} {l : List Clause} (hi : X.N[i]? = some n) (hln : X.env.kindOf n = some .local) (hc : Names X x c)
      (hsu : ∀ (a : Addr) (oe : Obj) (cls : Value) (d : Option Addr) (pn : List (Addr × Obj)), Zc cls d oe → (∃ vs, oe.data = .fields vs) → PSs (X.suite a ((a, oe) :: pn)) (b₀ :: suite) (ts a cls d)) (r : HdsX X hds l) :
      HdsX X (.ExceptHandler (some (.Name x np)) (some n) (b₀ :: suite) pos' :: hds) ((c, some i, ts) :: l)
section
variable {X : Cx} {K : PySem.W.Frag} {body : List Stmt} {h₀ : ExceptHandler} {hds : List ExceptHandler} {l : List Clause} {pos : Pos} {tb : WX → TS}
theorem ps_try_mix (hs : X.stack = X.env :: X.outer) (hf : X.env.frame = some X.env.locals) (hN : X.N.Nodup)
    (hb : ∀ (W : WX) (pn : List (Addr × Obj)) (xe : Value → Shared → Prop), Takes (X.tr pn xe) W → PassesOwn (model X.prog X.w) X.A X.env xe → PSs (X.tr pn xe) body (tb W))
    (hh : HdsX X (h₀ :: hds) l) (e' : X.K = K := by rfl) : PS X (.Try body (h₀ :: hds) [] [] pos) (tTry K l tb) := by
  subst e'
  refine ⟨fun pins s σ H D I h => ?_⟩
  have ok := I.ok
  have hfr : X.A.frames = some (X.env :: X.outer) := by rw [ok.frames, hs]
  refine wpAny_Try_except ?_
  refine wpAny_mono ((hb (wMix X.K D l) (X.pn ++ pins) (fun e s₁ => wpAny (model X.prog X.w) X.A (noteFrame e X.env) (fun _ s₂ => wpAny (model X.prog X.w) X.A (setFlight e none) (fun _ s₃ =>
    wpAny (model X.prog X.w) X.A (handleBy e X.env (h₀ :: hds)) (SP X pins D) X.xe s₃) X.xe s₂) X.xe s₁) (fun u s' xx => ?_) PassesOwn.looking).run [] s σ H D (I.toTry _) h) (fun f s1 hsp => ?_) (fun e s1 he => he)
  · obtain ⟨a, B, sI, pins', σ', H', cls, d, rfl, J', nb, up, sky, na, os, ag, wish⟩ := xx
    have J : Inv X pins σ' H' sI := J'.ofTry ok
    have sky' : Sky B (X.env :: X.outer) a (Zc cls d) X.env.locals s'.heap := by rw [← hs]; exact sky
    show wpAny (model X.prog X.w) X.A (noteFrame (.ref a) X.env) _ _ _
    refine Sky.land Zc.steady hfr hf sky' fun h3 fl3 up3 => ?_
    have J3 : Inv X pins σ' H' { s' with heap := h3 } := J.landed nb fl3.1 (up.trans up3) os ag
    obtain ⟨oe3, vs3, he3, hz3, hd3⟩ := fl3.there
    have nfr : a ∉ frs (X.env :: X.outer) := fun hm => by
      obtain ⟨_, o', e', hnf⟩ := fl3.2.2.1.mem hm
      rw [he3] at e'; cases e'
      exact hnf _ hd3
    have nL : a ≠ X.env.locals := fun z => nfr (List.mem_filterMap.mpr ⟨X.env, List.mem_cons_self, by rw [hf, z]⟩)
    have nF : a ∉ X.fs := fun hm => by
      obtain ⟨e, he, q⟩ := List.mem_filterMap.mp hm
      exact nfr (List.mem_filterMap.mpr ⟨e, List.mem_cons_of_mem _ he, q⟩)
    have S3 := J3.suite he3 hd3 na nL nF
    have LT : PySem.W.Looks (model X.prog X.w) h3 (typeOf (.ref a)) cls := fun A Q E s k q => wpAny_typeOf_ref (k _ _ he3) (by rw [hz3.1]; exact q)
    have test : ∀ {x : Str} {c : Value} {np : Pos}, Names X x c → ∀ {Q : Value → Shared → Prop} {E : Value → Shared → Prop}, Q c { s' with heap := h3 } → wpAny (model X.prog X.w) (X.A.mark (some (.ref a))) (eval (.Name x np) X.env) Q E { s' with heap := h3 } := fun {x c np} hc {Q E} q => by
      obtain ⟨hg, hdbg, hm | ⟨hm, hv, hnn⟩⟩ := hc
      · exact ld_glob (X := X.suite a ((a, oe3) :: (X.pn ++ pins))) S3 hg hm q hdbg
      · exact ld_blt (X := X.suite a ((a, oe3) :: (X.pn ++ pins))) S3 hg hm hv q hnn hdbg
    have go : ∀ {hds' : List ExceptHandler} {l' : List Clause}, HdsX X hds' l' → wMix X.K D l' cls d σ' H' →
        wpAny (model X.prog X.w) X.A (handleBy (.ref a) X.env hds') (SP X pins D) X.xe { s' with heap := h3 } := by
      intro hds' l' hk
      induction hk with
      | rest => exact fun z => z.elim
      | @bare x c ts b₀ suite np pos' hds2 l2 hc hsu r ih =>
        rintro ⟨b, hb1, hyes, hno⟩
        refine wpAny_handleBy_cons (codeAny_handlers_test ?_) (by intro q; cases q)
        refine test hc ((PySem.W.exm_one (M := model X.prog X.w) (J3.kIn) LT hb1).here ?_)
        cases b with
        | true =>
          refine codeAny_handlers_suite ?_
          refine HandSPX.lands_againZ fl3 fun h4 fl4 up4 => ?_
          have J4 : Inv X pins σ' H' { s' with heap := h4 } := J.landed nb fl4.1 ((up.trans up3).trans up4) os ag
          obtain ⟨oe4, vs4, he4, hz4, hd4⟩ := fl4.there
          have S4 := J4.suite he4 hd4 na nL nF
          refine wpAny_mono ((hsu a oe4 cls d (X.pn ++ pins) hz4 ⟨_, hd4⟩).run [] _ _ H' _ S4 (hyes rfl a na)) (fun f s6 hsp => ?_) (fun _ _ z => False.elim z)
          cases f with
          | next => obtain ⟨σ6, H6, S6, q6⟩ := hsp; exact ⟨_, _, S6.unsuite ok, q6⟩
          | brk => obtain ⟨σ6, H6, S6, q6⟩ := hsp; exact ⟨_, _, S6.unsuite ok, q6⟩
          | cont => obtain ⟨σ6, H6, S6, q6⟩ := hsp; exact ⟨_, _, S6.unsuite ok, q6⟩
          | ret u => obtain ⟨v6, σ6, H6, S6, r6, q6⟩ := hsp; exact ⟨_, _, _, S6.unsuite ok, r6, q6⟩
        | false => exact ih (hno rfl)
      | @named x n i c ts b₀ suite np pos' hds2 l2 hi hln hc hsu r ih =>
        rintro ⟨b, hb1, hyes, hno⟩
        refine wpAny_handleBy_cons (codeAny_handlers_test ?_) (by intro q; cases q)
        refine test hc ((PySem.W.exm_one (M := model X.prog X.w) (J3.kIn) LT hb1).here ?_)
        cases b with
        | true =>
          have hloc : Loc X.env.scope n := .inl hln
          refine codeAny_handlers_suite_as ?_
          refine HandSPX.lands_againZ fl3 fun h4 fl4 up4 => ?_
          have J4 : Inv X pins σ' H' { s' with heap := h4 } := J.landed nb fl4.1 ((up.trans up3).trans up4) os ag
          obtain ⟨oe4, vs4, he4, hz4, hd4⟩ := fl4.there
          have S4 := J4.suite he4 hd4 na nL nF
          refine store_ok (X := X.suite a ((a, oe4) :: (X.pn ++ pins))) (v := .ref a) S4 hN hi hloc rfl (fun s5 S5 => ?_) (.inr hln)
          refine wpAny_mono ((hsu a oe4 cls d (X.pn ++ pins) hz4 ⟨_, hd4⟩).run [] s5 _ H' _ S5 (hyes rfl a na)) (fun f s6 hsp => ?_) (fun _ _ z => False.elim z)
          have end_ : ∀ {σ6 : L2.St} {H6 : Hp} {Q : Shared → Prop}, Inv (X.suite a ((a, oe4) :: (X.pn ++ pins))) [] σ6 H6 s6 → (∀ s7, Inv X pins (σ6.set i none) H6 s7 → Q s7) →
              wpAny (model X.prog X.w) X.A (do bindName X.env n .none; unbindBehindTheSuite X.env n pos') (fun _ s7 => Q s7) X.xe s6 := fun {σ6 H6 Q} S6 hq => gone_ok (S6.unsuite ok) hN hi hln hq
          cases f with
          | next =>
            obtain ⟨σ6, H6, S6, q6⟩ := hsp
            exact end_ S6 fun s7 J7 => ⟨_, _, J7, q6⟩
          | brk =>
            obtain ⟨σ6, H6, S6, q6⟩ := hsp
            exact end_ S6 fun s7 J7 => ⟨_, _, J7, q6⟩
          | cont =>
            obtain ⟨σ6, H6, S6, q6⟩ := hsp
            exact end_ S6 fun s7 J7 => ⟨_, _, J7, q6⟩
          | ret u =>
            obtain ⟨v6, σ6, H6, S6, r6, q6⟩ := hsp
            exact end_ S6 fun s7 J7 => ⟨_, _, _, J7, r6, q6⟩
        | false => exact ih (hno rfl)
    exact go hh wish
  · cases f with
    | next =>
      obtain ⟨σ', H', J', q⟩ := hsp
      exact wpAny_execs_nil ⟨σ', H', J'.ofTry ok, q⟩
    | brk =>
      obtain ⟨σ', H', J', q⟩ := hsp
      exact ⟨σ', H', J'.ofTry ok, q⟩
    | cont =>
      obtain ⟨σ', H', J', q⟩ := hsp
      exact ⟨σ', H', J'.ofTry ok, q⟩
    | ret u =>
      obtain ⟨v, σ', H', J', r, q⟩ := hsp
      exact ⟨v, σ', H', J'.ofTry ok, r, q⟩
end
end L2
namespace Dw
open PySem PySem.Spec PyProof.Rows L2
section
variable {S : Type}
abbrev ClauseW (S : Type) := Value × Option Nat × (Addr → Xc → WS S)
def endsNW (i : Nat) (KK : WEnds S) : WEnds S := { KK with nx := fun e t => KK.nx (ss e i .no) t, bk := fun e t => KK.bk (ss e i .no) t, ct := fun e t => KK.ct (ss e i .no) t }
def wMixW (K : PySem.W.Frag) : List (ClauseW S) → WEnds S → List Sl → Xc → S → Prop
  | [], _, _, _, _ => False
  | (c, none, wh) :: r, KK, env, xc, s => ∃ b, PySem.W.exmOne K (.ref xc.C) c = some b ∧ (b = true → ∀ a, wh a xc KK env s) ∧ (b = false → wMixW K r KK env xc s)
  | (c, some i, wh) :: r, KK, env, xc, s => ∃ b, PySem.W.exmOne K (.ref xc.C) c = some b ∧ (b = true → ∀ a, wh a xc (endsNW i KK) (ss env i (.dat (.opq a))) s) ∧ (b = false → wMixW K r KK env xc s)
@[simp] def wTry (K : PySem.W.Frag) (lw : List (ClauseW S)) (wb : WS S) : WS S := fun KK env s => (∀ j, (sg env j).isO = false) ∧ wb { KK with xc := fun xc s1 => wMixW K lw KK env xc s1 } env s
variable {W : Wd S} {G : Gm S} {K : PySem.W.Frag}
inductive SimHs (W : Wd S) : List Clause → List (ClauseW S) → Prop
  | nil : SimHs W [] []
  | cons {c : Value} {o : Option Nat} {ts : Addr → Value → Option Addr → TS} {wh : Addr → Xc → WS S} {l : List Clause} {lw : List (ClauseW S)} (h : ∀ a xc cls d (G' : Gm S), XF W G' xc cls d → SimS W G' (ts a cls d) (wh a xc)) (t : SimHs W l lw) : SimHs W ((c, o, ts) :: l) ((c, o, wh) :: lw)
/-- the body raises where nothing is set yet -/
def Loc (tb : WX → TS) : Prop := ∀ (Wx : WX) Dn σ H, tb Wx Dn σ H = tb (fun cls d _ H => Wx cls d σ H) Dn σ H
theorem loc_const {t : TS} : Loc fun _ => t := fun _ _ _ _ => rfl
theorem loc_if {c : TT} {t u : WX → TS} (h : Loc t) (h' : Loc u) : Loc fun W => tIfS c (t W) (u W) := fun Wx Dn σ H => by
  show c σ H (fun b H1 => if b = true then t Wx Dn σ H1 else u Wx Dn σ H1) = c σ H (fun b H1 => if b = true then t (fun cls d _ H => Wx cls d σ H) Dn σ H1 else u (fun cls d _ H => Wx cls d σ H) Dn σ H1)
  congr 1
  funext b H1
  rw [h, h']
theorem loc_asgDf {sp : Sp} {ta : TA} {g : TG} : Loc fun W => tAsg (Gl.tDf sp (L2.WE W) ta) g := fun _ _ _ _ => rfl
theorem loc_asgMk {C : Addr} {sp : Sp} {ta : TA} {g : TG} : Loc fun W => tAsg (Gl.tMk C sp (L2.WE W) ta) g := fun _ _ _ _ => rfl
theorem loc_seq {t : WX → TS} {u : TS} (h : Loc t) : Loc fun W => tSeq (t W) u := fun Wx Dn σ H => h Wx { Dn with nx := u Dn } σ H
theorem ss_try {l : List Clause} {lw : List (ClauseW S)} {tb : WX → TS} {wb : WS S} (hs : SimHs W l lw) (hb : ∀ G' : Gm S, SimS W G' (tb fun cls d _ H => G'.E cls d H) wb)
    (hl : Loc tb) : SimS W G (tTry K l tb) (wTry K lw wb) := fun R env σ H s rl KK hw Dn e => by
  obtain ⟨hno, hw⟩ := hw
  show tb (wMix K Dn l) Dn σ H
  rw [hl]
  have rl0 := rl.re (fun cls d H' => wMix K Dn l cls d σ H') hno
  refine hb ⟨H, s, G.R0, fun cls d H' => wMix K Dn l cls d σ H'⟩ R env σ H s rl0 _ hw _ ⟨?_, ?_, ?_, ?_, ?_⟩
  · intro R' env' σ' H2 s2 h r2 m
    exact e.nx R' _ _ H2 s2 h (rl.un r2) m
  · intro d2 s2 v H2 h f2 j2 a2
    exact e.rt d2 s2 v H2 h (rl.fr.trans f2) j2 a2
  · intro R' env' σ' H2 s2 h r2 m
    exact e.bk R' _ _ H2 s2 h (rl.un r2) m
  · intro R' env' σ' H2 s2 h r2 m
    exact e.ct R' _ _ H2 s2 h (rl.un r2) m
  · intro xc s' cls d H' hx0 f0 j xr0
    have hx : wMixW K lw KK env xc s' := hx0
    clear hx0
    have f : Fr W s H s' H' := f0
    have xr : XcR (Bf W G.R0 s') H' xc cls d := xr0
    clear f0 xr0
    have rl1 := rl.step f j
    have xf : XF W ⟨H', s', G.R0, G.E⟩ xc cls d := ⟨xr.1, xr.2.imp id fun ⟨dd, xs, q1, q2, q3, q4⟩ => ⟨dd, xs, q1, q2, fun z => q3 (.inr z), q4⟩⟩
    have e1 : EndsR W G R s' H' KK Dn := e.step f.mv
    show wMix K Dn l cls d σ H'
    clear hw hb hl rl0
    induction hs with
    | nil => exact hx.elim
    | @cons c o ts wh l lw h t ih =>
      cases o with
      | none =>
        obtain ⟨b, hb1, h1, h2⟩ := hx
        refine ⟨b, by rw [xr.1]; exact hb1, fun hb2 a ha => ?_, fun hb2 => ih (h2 hb2)⟩
        refine h a xc cls d ⟨H', s', G.R0, G.E⟩ xf R _ _ H' s' (rl1.re G.E hno) _ (h1 hb2 a) _ ⟨?_, ?_, ?_, ?_, ?_⟩
        · intro R' env' σ' H2 s2 h r2 m
          exact e1.nx R' _ _ H2 s2 h (rl1.un r2) m
        · intro d2 s2 v H2 h f2 j2 a2
          exact e1.rt d2 s2 v H2 h (rl1.fr.trans f2) j2 a2
        · intro R' env' σ' H2 s2 h r2 m
          exact e1.bk R' _ _ H2 s2 h (rl1.un r2) m
        · intro R' env' σ' H2 s2 h r2 m
          exact e1.ct R' _ _ H2 s2 h (rl1.un r2) m
        · intro c2 s2 cls2 d2 H2 h f2 j2 a2
          exact e1.xc c2 s2 cls2 d2 H2 h (rl1.fr.trans f2) j2 a2
      | some i =>
        obtain ⟨b, hb1, h1, h2⟩ := hx
        refine ⟨b, by rw [xr.1]; exact hb1, fun hb2 a ha => ?_, fun hb2 => ih (h2 hb2)⟩
        refine h a xc cls d ⟨H', s', G.R0, G.E⟩ xf R _ _ H' s' ((rl1.re G.E hno).setD (v := .ref a) i (.opq a)) _ (h1 hb2 a) _ ⟨?_, ?_, ?_, ?_, ?_⟩
        · intro R' env' σ' H2 s2 h r2 m
          exact e1.nx R' _ _ H2 s2 h ((rl1.un r2).setN i) m
        · intro d2 s2 v H2 h f2 j2 a2
          exact e1.rt d2 s2 v H2 h (rl1.fr.trans f2) j2 a2
        · intro R' env' σ' H2 s2 h r2 m
          exact e1.bk R' _ _ H2 s2 h ((rl1.un r2).setN i) m
        · intro R' env' σ' H2 s2 h r2 m
          exact e1.ct R' _ _ H2 s2 h ((rl1.un r2).setN i) m
        · intro c2 s2 cls2 d2 H2 h f2 j2 a2
          exact e1.xc c2 s2 cls2 d2 H2 h (rl1.fr.trans f2) j2 a2
end
end Dw
namespace L2
open PySem PySem.Spec PyProof.Rows
/-- isinstance(e, c), e the exception that the suite holds -/
def rIsG (K : PySem.W.Frag) (a : Addr) (cls : Value) (d : Option Addr) : List V → Hp → VK → Prop := fun xs H Q => ∃ (D : Addr) (c : V) (cv : Value) (b : Bool), cls = .ref D ∧ ExcC K D ∧ (d = none ∨ ∃ dd fs, d = some dd ∧ H dd = some (.xd fs)) ∧ xs = [.ref a, c] ∧ (∀ u, RelV c u → u = cv) ∧ PySem.W.kitOne K (.ref D) cv = some b ∧ Q (.bl b) H
theorem kIsG {X : Cx} {K : PySem.W.Frag} {a : Addr} {oe : Obj} {cls : Value} {d : Option Addr} {pn : List (Addr × Obj)} (hz : Zc cls d oe) (hf : ∃ vs, oe.data = .fields vs) (e' : X.K = K := by rfl) : CallR (X.suite a ((a, oe) :: pn)) (.builtin "isinstance") (rIsG K a cls d) := by
  subst e'
  intro pins s σ H xs us Q I r h
  obtain ⟨D, c, cv, b, rfl, T, hd, rfl, hcv, e, q⟩ := h
  cases r with
  | cons rx rr =>
    cases rr with
    | cons rt rr =>
      cases rr
      cases rx
      have ec := hcv _ rt
      subst ec
      obtain ⟨hget, _⟩ := I.pin (a, oe) (List.mem_append.mpr (.inl List.mem_cons_self))
      obtain ⟨vs, hv⟩ := hf
      have hcl : (PySem.W.clsIn X.K D).isSome = true := by
        obtain ⟨cd, hc, _⟩ := PySem.W.any_some T.hd
        rw [hc]
        rfl
      obtain ⟨od, J⟩ : ∃ od, PySem.W.InstAt s.heap a oe D od := by
        rcases hd with rfl | ⟨dd, fs, rfl, hdd⟩
        · exact ⟨none, hget, hz.1, by unfold PySem.W.notCls; rw [hv] <;> rfl, by rw [hz.2]; trivial⟩
        · have hx : ObjOk X.prog X.w H s.heap dd (.xd fs) := I.hok dd _ hdd
          obtain ⟨mA, hns, hr⟩ := hx
          obtain ⟨od, hod, hl⟩ := lookIn_ns hns
          exact ⟨some od, hget, hz.1, by unfold PySem.W.notCls; rw [hv] <;> rfl, by rw [hz.2]; exact hod⟩
      exact PySem.W.kia_one (PySem.W.kitx_exc hcl T.hg T.hk T.hs T.ha T.hn T.ht T.hm) I.kIn J e (fun z => nomatch z) fun tk => ⟨.bl b, H, I.kept (t' := tk) fun _ _ z => z, rfl, q⟩
end L2
namespace Dw
open PySem PySem.Spec PyProof.Rows L2
section
variable {S : Type} {W : Wd S} {G : Gm S} {K : PySem.W.Frag}
@[simp] def wIsG (K : PySem.W.Frag) (a : Addr) (xc : Xc) (wa : WA S) : WE S := fun env s k x => ExcC K xc.C ∧ wa env s (fun ds s1 => match ds with
  | [.opq e, .opq c] => e = a ∧ ∃ b, PySem.W.kitOne K (.ref xc.C) (.ref c) = some b ∧ k (.bl b) s1
  | [.opq e, .ty n] => e = a ∧ ∃ b, PySem.W.kitOne K (.ref xc.C) (.type n) = some b ∧ k (.bl b) s1
  | _ => False) x
theorem sim_isG {a : Addr} {cls : Value} {d : Option Addr} {xc : Xc} {ta : TA} {wa : WA S} (hx : XF W G xc cls d) (ha : SimA W G ta wa) : SimE W G (tCB (rIsG K a cls d) ta) (wIsG K a xc wa) := fun R env σ H s rl k x hw ox Q hQ => by
  obtain ⟨hE, hw⟩ := hw
  refine ha R env σ H s rl _ x hw ox _ fun ds s1 vs H1 hw1 f1 j1 a1 => ?_
  have hd : d = none ∨ ∃ dd fs, d = some dd ∧ H1 dd = some (.xd fs) := by
    rcases hx.at_ with ⟨_, q⟩ | ⟨dd, xs, rfl, q1, q2, q3⟩
    · exact .inl q
    · exact .inr ⟨dd, xs, rfl, (rl.step f1 j1).fr.kp _ _ q1 q2⟩
  match ds, a1, hw1 with
  | [.opq e, .opq c], .cons z1 (.cons z2 .nil), ⟨he, b, hb, hk⟩ =>
    cases z1
    cases z2
    exact ⟨_, .ref c, .ref c, b, hx.cls, hE, hd, by rw [he], fun u q => by cases q; rfl, hb, hQ _ s1 _ H1 hk f1 j1 (.bl _)⟩
  | [.opq e, .ty n], .cons z1 (.cons z2 .nil), ⟨he, b, hb, hk⟩ =>
    cases z1
    cases z2
    exact ⟨_, .ty n, .type n, b, hx.cls, hE, hd, by rw [he], fun u q => by cases q; rfl, hb, hQ _ s1 _ H1 hk f1 j1 (.bl _)⟩
end
end Dw
namespace L2
open PySem PySem.Spec PyProof.Rows
/-- an own error without a making of its own -/
structure E0c (K : PySem.W.Frag) (mg : Str → Option Value) (x : Str) (C : Addr) : Prop where
  mgx : mg x = some (.ref C)
  exc : PySem.W.excIn K C He.veBase "ValueError.__new__" = true
  keep : PySem.W.keepIn K (.ref C) = true
  r1 : PySem.W.subIn K (.ref C) (.type "BaseException") = some true
  r2 : PySem.W.typeIn K (.ref C) = some (.type "type")
theorem E0c.raises {K : PySem.W.Frag} {mg : Str → Option Value} {x : Str} {C : Addr} (e : E0c K mg x C) {X : Cx} (h : X.K = K) : Raises X (.ref C) := raises_own (h ▸ e.r1) (h ▸ e.r2)
theorem kSorted {X : Cx} {K : PySem.W.Frag} (e : X.K = K := by rfl) : CallR X (.builtin "sorted") (rSortedI K) := e ▸ cr_sortedI
end L2
set_option Elab.async false
set_option linter.all false
set_option maxRecDepth 100000
set_option maxHeartbeats 8000000
namespace Law
open PySem L2 Gl Dw
local macro_rules | `(tactic| walk_at "sc") => `(tactic| first
  | exact True.intro
  | (show _ ≤ sizeLine; decide +kernel))
local macro_rules | `(tactic| walk_at "sim") => `(tactic| first
  | ((with_reducible apply ss_seq) <;> walk_at "sim")
  | with_reducible exact ss_next
  | with_reducible exact ss_brk
  | with_reducible exact ss_cont
  | with_reducible exact ss_retN
  | ((with_reducible apply ss_ret) <;> walk_at "sim")
  | ((with_reducible apply ss_if) <;> walk_at "sim")
  | ((with_reducible apply ss_asgO); (with_reducible assumption); walk_at "sim")
  | ((with_reducible apply ss_setL) <;> walk_at "sim")
  | ((with_reducible apply ss_pop) <;> walk_at "sim")
  | ((with_reducible apply ss_popAt) <;> walk_at "sim")
  | ((with_reducible apply ss_asg) <;> walk_at "sim")
  | ((with_reducible apply ss_par) <;> walk_at "sim")
  | ((with_reducible apply ss_par3) <;> walk_at "sim")
  | ((with_reducible apply ss_aug) <;> walk_at "sim")
  | ((with_reducible apply ss_app) <;> walk_at "sim")
  | ((with_reducible apply ss_ext) <;> walk_at "sim")
  | ((with_reducible apply ss_drop) <;> walk_at "sim")
  | ((with_reducible apply ss_for) <;> walk_at "sim")
  | ((with_reducible apply ss_while) <;> walk_at "sim")
  | with_reducible exact tg_name
  | ((with_reducible apply tg_tup) <;> walk_at "sim")
  | ((with_reducible apply tgs_cons) <;> walk_at "sim")
  | with_reducible exact tgs_nil
  | with_reducible exact sim_var
  | with_reducible exact sim_varG
  | with_reducible exact sim_nil
  | with_reducible exact sim_nilB
  | ((with_reducible apply sim_cons) <;> walk_at "sim")
  | ((with_reducible apply sim_consB) <;> walk_at "sim")
  | ((with_reducible apply sim_c); walk_at "sc")
  | ((with_reducible apply sim_op) <;> walk_at "sim")
  | ((with_reducible apply sim_un) <;> walk_at "sim")
  | ((with_reducible apply sim_cb) <;> walk_at "sim")
  | ((with_reducible apply sim_tup) <;> walk_at "sim")
  | ((with_reducible apply sim_lst) <;> walk_at "sim")
  | ((with_reducible apply sim_lstF) <;> walk_at "sim")
  | ((with_reducible apply sim_callN) <;> walk_at "sim")
  | ((with_reducible apply sim_call) <;> walk_at "sim")
  | ((with_reducible apply sim_sl) <;> walk_at "sim")
  | with_reducible exact sp_no
  | ((with_reducible apply sp_part) <;> walk_at "sim")
  | ((with_reducible apply sim_test) <;> walk_at "sim")
  | ((with_reducible apply sim_tB) <;> walk_at "sim")
  | ((with_reducible apply sim_and) <;> walk_at "sim")
  | ((with_reducible apply sim_or) <;> walk_at "sim")
  | ((with_reducible apply sim_not) <;> walk_at "sim")
  | with_reducible exact sim_yes
  | ((with_reducible apply sim_andV) <;> walk_at "sim")
  | ((with_reducible apply sim_orV) <;> walk_at "sim")
  | ((with_reducible apply sim_notV) <;> walk_at "sim")
  | ((with_reducible apply sim_if) <;> walk_at "sim")
  | ((with_reducible apply sim_chain) <;> walk_at "sim")
  | ((with_reducible apply sim_lcF) <;> walk_at "sim")
  | ((with_reducible apply sim_lcE) <;> walk_at "sim")
  | ((with_reducible apply sim_lstRgF) <;> walk_at "sim")
  | ((with_reducible apply sim_lstRg) <;> walk_at "sim")
  | ((with_reducible apply sim_tupRg) <;> walk_at "sim")
  | ((with_reducible apply sim_rg1) <;> walk_at "sim")
  | ((with_reducible apply sim_rg2) <;> walk_at "sim")
  | ((with_reducible apply sim_listF) <;> walk_at "sim")
  | ((with_reducible apply sim_addF) <;> walk_at "sim")
  | ((with_reducible apply sim_join) <;> walk_at "sim")
  | ((with_reducible apply sim_lenSetS) <;> walk_at "sim")
  | ((with_reducible apply sim_fld) <;> walk_at "sim")
  | ((with_reducible apply si_x) <;> walk_at "sim")
  | ((with_reducible apply si_tup) <;> walk_at "sim")
  | ((with_reducible apply si_list) <;> walk_at "sim")
  | ((with_reducible apply si_str) <;> walk_at "sim")
  | ((with_reducible apply si_rng1) <;> walk_at "sim")
  | ((with_reducible apply si_rng2) <;> walk_at "sim")
  | ((with_reducible apply si_enum) <;> walk_at "sim")
  | ((with_reducible apply si_zip) <;> walk_at "sim")
  | with_reducible exact so_addX
  | with_reducible exact so_mulX
  | with_reducible exact so_divX
  | with_reducible exact so_eqX
  | with_reducible exact so_neX
  | with_reducible exact so_inX
  | with_reducible exact so_notInX
  | with_reducible exact so_ltX
  | with_reducible exact so_gtX
  | with_reducible exact so_geX
  | with_reducible exact so_leX
  | ((with_reducible apply so_i0s); (intros; exact True.intro))
  | ((with_reducible apply so_iCs); (intros; exact True.intro))
  | ((with_reducible apply su_is); (intros; exact True.intro))
  | with_reducible exact so_eq
  | with_reducible exact so_ne
  | with_reducible exact so_isN
  | with_reducible exact so_notN
  | with_reducible exact so_isB
  | with_reducible exact so_notB
  | with_reducible exact so_ixL
  | with_reducible exact so_ixT
  | with_reducible exact so_ixS
  | with_reducible exact so_ix
  | with_reducible exact so_in
  | with_reducible exact so_str
  | with_reducible exact so_inS
  | with_reducible exact so_notInS
  | with_reducible exact so_catT
  | with_reducible exact so_catL
  | with_reducible exact so_addS
  | with_reducible exact so_mulS
  | with_reducible exact so_repT
  | with_reducible exact so_eqD
  | with_reducible exact so_neD
  | with_reducible exact so_inD
  | with_reducible exact so_notInD
  | with_reducible exact so_leT
  | with_reducible exact sc_len
  | with_reducible exact sc_int
  | with_reducible exact sc_abs
  | with_reducible exact sc_str
  | with_reducible exact sc_mm
  | with_reducible exact sc_list
  | with_reducible exact sc_tuple
  | with_reducible exact sc_sum
  | with_reducible exact sc_all
  | with_reducible exact sc_any
  | with_reducible exact sc_isi
  | with_reducible exact sc_isiT
  | with_reducible exact sc_repr
  | with_reducible exact sl_x
  | with_reducible exact sl_t
  | with_reducible exact sl_l
  | with_reducible exact sl_s
  | ((with_reducible apply SimE.g); walk_at "sim")
  | (intros; decide)
  | skip)

def top (i : Nat) : Stmt := PySem.Challenge.pw_veilpost_k09_whole_paths_and_resolutions.main.body.getD i (.Pass ⟨0, 0, 0, 0⟩)
abbrev FD (K : PySem.W.Frag) (x : Str) (st : Stmt) (f : Addr) (fd : FuncData) : Prop := FunD K x x (defArgs st) (defBody st) (defScope st) [] [] f fd
structure Tx (P : Program) (w : World) (K : PySem.W.Frag) (mg : Str → Option Value) : Prop where
  all : mg "all" = none
  bool : mg "bool" = none
  enumerate : mg "enumerate" = none
  int : mg "int" = none
  isinstance : mg "isinstance" = none
  len : mg "len" = none
  list : mg "list" = none
  min : mg "min" = none
  range : mg "range" = none
  repr : mg "repr" = none
  set : mg "set" = none
  sorted : mg "sorted" = none
  str : mg "str" = none
  super : mg "super" = none
  tuple : mg "tuple" = none
  zip : mg "zip" = none
  m_MOST_HIGH : ∃ u, mg "MOST_HIGH" = some u ∧ RelV (.int 8) u
  m_MOST_SIGNS : ∃ u, mg "MOST_SIGNS" = some u ∧ RelV (.int 12) u
  m_SIGNS : ∃ u, mg "SIGNS" = some u ∧ RelV (.str "abcdefghijklmnopqrstuvwxyz") u
/-! what is asked, in plain words -/
def isI : D → Bool
  | .int _ => true
  | _ => false
def isIn (lo hi : Int) : D → Bool
  | .int i => decide (lo ≤ i) && decide (i ≤ hi)
  | _ => false
def isTupN (n : Int) : D → Bool
  | .tup ds => decide ((ds.length : Int) = n)
  | _ => false
abbrev abc : Str := "abcdefghijklmnopqrstuvwxyz"
def low (c : Nat) : Bool := decide (c ∈ abc.cps.toList)
def nameOk : D → Bool
  | .str x => decide ((1 : Int) ≤ x.length) && decide ((x.length : Int) ≤ 12) && x.cps.toList.all low
  | _ => false
def lockOk : D → Bool
  | .int i => decide (0 ≤ i)
  | _ => false
def memberOk : D → Bool
  | .tup [a, b] => nameOk a && lockOk b
  | _ => false
def leafOk : D → Bool
  | .non => true
  | d => memberOk d
def nm : D → Option Str
  | .tup (.str x :: _) => some x
  | _ => none
def leavesOk (h : Nat) : D → Bool
  | .tup ds => decide (ds.length = 2 ^ h) && ds.all leafOk && decide (ds.filterMap nm).Nodup
  | _ => false
variable {S : Type}
abbrev WF (S : Type) := List D → S → (D → S → Prop) → (Xc → S → Prop) → Prop
/-- one plain thing judged -/
def wf1 (g : D → Bool) : WF S := fun ds s k _ => match ds with
  | [d] => d.pl = true ∧ k (.bl (g d)) s
  | _ => False
def wfIn : WF S := fun ds s k _ => match ds with
  | [d, .int lo, .int hi] => d.pl = true ∧ k (.bl (isIn lo hi d)) s
  | _ => False
def wfTupN : WF S := fun ds s k _ => match ds with
  | [d, .int n] => d.pl = true ∧ k (.bl (isTupN n d)) s
  | _ => False
def wfLeaves : WF S := fun ds s k _ => match ds with
  | [d, .int h] => d.pl = true ∧ 0 ≤ h ∧ h ≤ 8 ∧ k (.bl (leavesOk h.toNat d)) s
  | _ => False
abbrev s_is_integer : Stmt := top 1
abbrev N_is_integer : List Str := ["thing"]
theorem sc_is_integer : FnScope N_is_integer ["thing"] (defScope s_is_integer) := ⟨rfl, rfl, rfl, by decide +kernel, rfl, by decide +kernel, by decide +kernel⟩
abbrev s_is_within : Stmt := top 2
abbrev N_is_within : List Str := ["thing", "least", "most"]
theorem sc_is_within : FnScope N_is_within ["thing", "least", "most"] (defScope s_is_within) := ⟨rfl, rfl, rfl, by decide +kernel, rfl, by decide +kernel, by decide +kernel⟩
abbrev s_is_tuple_of : Stmt := top 3
abbrev N_is_tuple_of : List Str := ["thing", "size"]
theorem sc_is_tuple_of : FnScope N_is_tuple_of ["thing", "size"] (defScope s_is_tuple_of) := ⟨rfl, rfl, rfl, by decide +kernel, rfl, by decide +kernel, by decide +kernel⟩
abbrev s_is_name : Stmt := top 13
abbrev N_is_name : List Str := ["thing", "sign"]
theorem sc_is_name : FnScope N_is_name ["thing"] (defScope s_is_name) := ⟨rfl, rfl, rfl, by decide +kernel, rfl, by decide +kernel, by decide +kernel⟩
abbrev s_is_lock : Stmt := top 14
abbrev N_is_lock : List Str := ["thing"]
theorem sc_is_lock : FnScope N_is_lock ["thing"] (defScope s_is_lock) := ⟨rfl, rfl, rfl, by decide +kernel, rfl, by decide +kernel, by decide +kernel⟩
abbrev s_is_member : Stmt := top 15
abbrev N_is_member : List Str := ["thing"]
theorem sc_is_member : FnScope N_is_member ["thing"] (defScope s_is_member) := ⟨rfl, rfl, rfl, by decide +kernel, rfl, by decide +kernel, by decide +kernel⟩
abbrev s_are_leaves : Stmt := top 16
abbrev N_are_leaves : List Str := ["thing", "height", "leaf", "names"]
theorem sc_are_leaves : FnScope N_are_leaves ["thing", "height"] (defScope s_are_leaves) := ⟨rfl, rfl, rfl, by decide +kernel, rfl, by decide +kernel, by decide +kernel⟩
section
variable {W : Wd S} {P : Program} {w : World} {K : PySem.W.Frag} {mg : Str → Option Value} {base : Heap}
theorem ok_is_integer (T : Tx P w K mg) {f : Addr} {fd : FuncData} (F : FD K "is_integer" s_is_integer f fd) : Fn P w K mg base 1 f fd ["thing"] (spX W (wf1 isI)) := by
  refine fn_data F sc_is_integer (fun ds s k x h => ?_) fun cv A outer s H G hr gd => ⟨_, (pss_one (ps_ret (pe_and (pe_callB (kIsi (K := K)) (by rfl) T.isinstance (by decide +kernel) (pa_cons (pv 0) (pa_cons (pe_bltn (v := .ty "int") (by rfl) T.int (by decide +kernel) rfl) pa_nil))) (pe_one (pe_not (pe_callB (kIsi (K := K)) (by rfl) T.isinstance (by decide +kernel) (pa_cons (pv 0) (pa_cons (pe_bltn (v := .ty "bool") (by rfl) T.bool (by decide +kernel) rfl) pa_nil)))))))), ?_⟩
  · match ds, h with
    | [d], _ => rfl
  · apply bodyW
    · walk_at "sim"
    intro ds s k x ok h
    match ds, h with
    | [d], ⟨ht, h⟩ =>
    cases d <;> simp_all [isI, known6]
theorem ok_is_within (T : Tx P w K mg) (f_is_integer : Df P w K mg base 1 "is_integer" (spX W (wf1 isI))) {f : Addr} {fd : FuncData} (F : FD K "is_within" s_is_within f fd) : Fn P w K mg base 2 f fd ["thing", "least", "most"] (spX W wfIn) := by
  refine fn_data F sc_is_within (fun ds s k x h => ?_) fun cv A outer s H G hr gd => ⟨_, (pss_one (ps_ret (pe_and (pe_df f_is_integer hr (by omega) gd rfl (fun σ => Gl.no_pass σ) (pa_cons (pv 0) pa_nil)) (pe_one (pe_chain (kLe (K := K) hr) (kLe (K := K) hr) (pv 1) (pv 0) (pv 2)))))), ?_⟩
  · match ds, h with
    | [d, .int lo, .int hi], _ => rfl
  · apply bodyW
    · walk_at "sim"
    intro ds s k x ok h
    match ds, h with
    | [d, .int lo, .int hi], ⟨ht, h⟩ =>
    cases d <;> simp_all [isIn, isI, wf1]
    split <;> simp_all
theorem ok_is_tuple_of (T : Tx P w K mg) {f : Addr} {fd : FuncData} (F : FD K "is_tuple_of" s_is_tuple_of f fd) : Fn P w K mg base 1 f fd ["thing", "size"] (spX W wfTupN) := by
  refine fn_data F sc_is_tuple_of (fun ds s k x h => ?_) fun cv A outer s H G hr gd => ⟨_, (pss_one (ps_ret (pe_and (pe_callB (kIsi (K := K)) (by rfl) T.isinstance (by decide +kernel) (pa_cons (pv 0) (pa_cons (pe_bltn (v := .ty "tuple") (by rfl) T.tuple (by decide +kernel) rfl) pa_nil))) (pe_one (pe_cmpR (kEq (K := K) hr) (pe_callB (kLen (K := K)) (by rfl) T.len (by decide +kernel) (pa_cons (pv 0) pa_nil)) (pv 1) (nomark _)))))), ?_⟩
  · match ds, h with
    | [d, .int n], _ => rfl
  · apply bodyW
    · walk_at "sim"
    intro ds s k x ok h
    match ds, h with
    | [d, .int n], ⟨ht, h⟩ =>
    cases d <;> simp_all [isTupN, known6]
theorem ok_is_name (T : Tx P w K mg) {f : Addr} {fd : FuncData} (F : FD K "is_name" s_is_name f fd) : Fn P w K mg base 1 f fd ["thing"] (spX W (wf1 nameOk)) := by
  refine fn_data F sc_is_name (fun ds s k x h => ?_) fun cv A outer s H G hr gd => ⟨_, (pss_one (ps_ret (pe_and (pe_callB (kIsi (K := K)) (by rfl) T.isinstance (by decide +kernel) (pa_cons (pv 0) (pa_cons (pe_bltn (v := .ty "str") (by rfl) T.str (by decide +kernel) rfl) pa_nil))) (pe_and (pe_chain (kLe (K := K) hr) (kLe (K := K) hr) pe_int (pe_callB (kLen (K := K)) (by rfl) T.len (by decide +kernel) (pa_cons (pv 0) pa_nil)) (C8.pe_gc rfl T.m_MOST_SIGNS)) (pe_one (pe_callB (kAll (K := K) rfl) (by rfl) T.all (by decide +kernel) (pa_cons (pe_lc (own := [("sign", 1)]) (g := gName 1) (by rfl) sc_is_name.nd (kpi (K := K) (pv 0)) (blkOk_by (own := [("sign", 1)]) (N := N_is_name) (sc := defScope s_is_name) (by decide +kernel)) (fun _ _ _ _ _ => pg_name (i := 1) sc_is_name.nd rfl (Or.inl rfl)) (fun _ _ _ _ _ => pts_nil) (fun _ _ _ _ _ => (pe_cmpR (kIn (K := K) hr) (pv 1) (C8.pe_gc rfl T.m_SIGNS) rfl))) pa_nil))))))), ?_⟩
  · match ds, h with
    | [d], _ => rfl
  · apply bodyW
    · walk_at "sim"
    intro ds s k x ok h
    match ds, h, ok with
    | [d], ⟨ht, h⟩, ok =>
    cases d with
    | str z =>
      have hz := ok_str (ok_one ok)
      simp [known6, nameOk] at h ⊢
      by_cases h1 : (1 : Int) ≤ (z.length : Int)
      · rw [if_pos h1]
        by_cases h2 : (z.length : Int) ≤ 12
        · rw [if_pos h2]
          refine ⟨by rw [signs_len]; exact hz, ?_⟩
          refine wLc_signs low (fun c hc kt hk => ?_) ?_
          · simpa [low] using hk
          · simpa [h1, h2, Function.comp_def] using h
        · rw [if_neg h2]
          simpa [h1, h2] using h
      · rw [if_neg h1]
        simpa [h1] using h
    | _ => simp_all [nameOk, known6]
theorem ok_is_lock (T : Tx P w K mg) (f_is_integer : Df P w K mg base 1 "is_integer" (spX W (wf1 isI))) {f : Addr} {fd : FuncData} (F : FD K "is_lock" s_is_lock f fd) : Fn P w K mg base 2 f fd ["thing"] (spX W (wf1 lockOk)) := by
  refine fn_data F sc_is_lock (fun ds s k x h => ?_) fun cv A outer s H G hr gd => ⟨_, (pss_one (ps_ret (pe_and (pe_df f_is_integer hr (by omega) gd rfl (fun σ => Gl.no_pass σ) (pa_cons (pv 0) pa_nil)) (pe_one (pe_cmpR op_geX (pv 0) pe_int (nomark _)))))), ?_⟩
  · match ds, h with
    | [d], _ => rfl
  · apply bodyW
    · walk_at "sim"
    intro ds s k x ok h
    match ds, h, ok with
    | [d], ⟨ht, h⟩, ok =>
    cases d <;> simp_all [lockOk, isI, wf1]
theorem ok_is_member (T : Tx P w K mg) (f_is_tuple_of : Df P w K mg base 1 "is_tuple_of" (spX W wfTupN)) (f_is_name : Df P w K mg base 1 "is_name" (spX W (wf1 nameOk))) (f_is_lock : Df P w K mg base 2 "is_lock" (spX W (wf1 lockOk))) {f : Addr} {fd : FuncData} (F : FD K "is_member" s_is_member f fd) : Fn P w K mg base 3 f fd ["thing"] (spX W (wf1 memberOk)) := by
  refine fn_data F sc_is_member (fun ds s k x h => ?_) fun cv A outer s H G hr gd => ⟨_, (pss_one (ps_ret (pe_and (pe_df f_is_tuple_of hr (by omega) gd rfl (fun σ => Gl.no_pass σ) (pa_cons (pv 0) (pa_cons pe_int pa_nil))) (pe_and (pe_df f_is_name hr (by omega) gd rfl (fun σ => Gl.no_pass σ) (pa_cons (pe_ix (kIx (K := K)) (pv 0) pe_int (fun _ _ => rfl)) pa_nil)) (pe_one (pe_df f_is_lock hr (by omega) gd rfl (fun σ => Gl.no_pass σ) (pa_cons (pe_ix (kIx (K := K)) (pv 0) pe_int (fun _ _ => rfl)) pa_nil))))))), ?_⟩
  · match ds, h with
    | [d], _ => rfl
  · apply bodyW
    · walk_at "sim"
    intro ds s k x ok h
    match ds, h, ok with
    | [d], ⟨ht, h⟩, ok =>
    cases d with
    | tup ds =>
      match ds with
      | [a, b] =>
        simp_all [memberOk, isTupN, wfTupN, wf1, atI, ixN]
        split <;> simp_all
      | [] => simp_all [memberOk, isTupN, wfTupN, wf1, atI, ixN]
      | [_] => simp_all [memberOk, isTupN, wfTupN, wf1, atI, ixN]
      | _ :: _ :: _ :: _ =>
        simp [memberOk, isTupN, wfTupN, wf1] at h ht ⊢
        refine ⟨ht, ?_⟩
        rw [if_neg (by omega)]
        exact h
    | _ => simp_all [memberOk, isTupN, wfTupN]
theorem names_map : ∀ {ds : List D}, ds.all leafOk = true → (ds.filter fun d => match d with | .non => false | _ => true).map (fun d => D.str ((nm d).getD "")) = (ds.filterMap nm).map (fun x => D.str x)
  | [], _ => rfl
  | d :: r, h => by
    rw [List.all_cons, Bool.and_eq_true] at h
    have ih := names_map h.2
    have h1 := h.1
    cases d with
    | non =>
      rw [List.filter_cons_of_neg (by decide), List.filterMap_cons_none (by rfl)]
      exact ih
    | tup ds =>
      match ds, h1 with
      | [.str x, b], h1 =>
        rw [List.filter_cons_of_pos (by rfl), List.map_cons, List.filterMap_cons_some (b := x) (by rfl), List.map_cons, ih]
        rfl
      | [.non, b], h1 => cases h1
      | [.bl _, b], h1 => cases h1
      | [.int _, b], h1 => cases h1
      | [.lst _, b], h1 => cases h1
      | [.tup _, b], h1 => cases h1
      | [.dic _, b], h1 => cases h1
      | [.dit _, b], h1 => cases h1
      | [.obj _ _, b], h1 => cases h1
      | [.opq _, b], h1 => cases h1
      | [.ty _, b], h1 => cases h1
    | _ => cases h1
theorem leaf_str {d : D} (h : leafOk d = true) : d = .non ∨ ∃ x b, d = .tup [.str x, b] := by
  cases d with
  | non => exact .inl rfl
  | tup ds =>
    match ds, h with
    | [.str x, b], h => exact .inr ⟨x, b, rfl⟩
    | [.non, b], h => cases h
    | [.bl _, b], h => cases h
    | [.int _, b], h => cases h
    | [.lst _, b], h => cases h
    | [.tup _, b], h => cases h
    | [.dic _, b], h => cases h
    | [.dit _, b], h => cases h
    | [.obj _ _, b], h => cases h
    | [.opq _, b], h => cases h
    | [.ty _, b], h => cases h
  | _ => cases h
theorem ok_are_leaves (T : Tx P w K mg) (f_is_tuple_of : Df P w K mg base 1 "is_tuple_of" (spX W wfTupN)) (f_is_member : Df P w K mg base 3 "is_member" (spX W (wf1 memberOk))) {f : Addr} {fd : FuncData} (F : FD K "are_leaves" s_are_leaves f fd) : Fn P w K mg base 4 f fd ["thing", "height"] (spX W wfLeaves) := by
  refine fn_data F sc_are_leaves (fun ds s k x h => ?_) fun cv A outer s H G hr gd => ⟨_, (pss_cons (ps_if (PW.pt (pw_or (pt_not (pt_val (pe_df f_is_tuple_of hr (by omega) gd rfl (fun σ => Gl.no_pass σ) (pa_cons (pv 0) (pa_cons (pe_op op_shl pe_int (pv 1)) pa_nil))))) (pw_or1 (pt_not (pt_val (pe_callB (kAll (K := K) rfl) (by rfl) T.all (by decide +kernel) (pa_cons (pe_lc (own := [("leaf", 2)]) (g := gName 2) (by rfl) sc_are_leaves.nd (kpi (K := K) (pv 0)) (blkOk_by (own := [("leaf", 2)]) (N := N_are_leaves) (sc := defScope s_are_leaves) (by decide +kernel)) (fun _ _ _ _ _ => pg_name (i := 2) sc_are_leaves.nd rfl (Or.inl rfl)) (fun _ _ _ _ _ => pts_nil) (fun _ _ _ _ _ => (pe_or (pe_cmpR op_isN1 (pv 2) pe_non (nomark _)) (pe_one (pe_df f_is_member hr (by omega) gd rfl (fun σ => Gl.no_pass σ) (pa_cons (pv 2) pa_nil)))))) pa_nil))))))) (pss_one (ps_ret pe_bl)) pss_nil)
    (pss_cons (ps_setLc (i := 3) (y := "names") (own := [("leaf", 2)]) (g := gName 2) (by rfl) sc_are_leaves.nd rfl rfl (sw_true rfl rfl rfl (by decide +kernel)) (kpi (K := K) (pv 0)) (blkOk_by (own := [("leaf", 2)]) (N := N_are_leaves) (sc := defScope s_are_leaves) (by decide +kernel)) (fun _ _ _ _ _ => pg_name (i := 2) sc_are_leaves.nd rfl (Or.inl rfl)) (fun _ _ _ _ _ => (pts_one (pt_cmpR op_notN1 (pv 2) pe_non (nomark _)))) (fun _ _ _ _ _ => (pe_ix (kIx (K := K)) (pv 2) pe_int (fun _ _ => rfl))))
    (pss_one (ps_ret (pe_cmpR (kEq (K := K) hr) (Sk.pe_lenSetK (by rfl) T.len (by rfl) T.set (pv 3)) (pe_callB (kLen (K := K)) (by rfl) T.len (by decide +kernel) (pa_cons (pv 3) pa_nil)) (nomark _)))))), ?_⟩
  · match ds, h with
    | [d, .int h], _ => rfl
  · apply bodyW
    · walk_at "sim"
    intro ds s k x ok h
    match ds, h, ok with
    | [d, .int h], ⟨ht, h0, h8, k0⟩, ok =>
    obtain ⟨n, rfl⟩ := Int.eq_ofNat_of_zero_le h0
    have cp : CPow 1 (n : Int) := ⟨by omega, by omega, by decide⟩
    have n8 : 2 ^ n ≤ 256 := Nat.pow_le_pow_right (by decide : 0 < 2) (show n ≤ 8 by omega)
    have ok' := ok d (by simp)
    clear h0 ok
    cases d with
    | tup ds =>
      obtain ⟨sz, oks⟩ := ok_tup ok'
      simp [leavesOk, wfTupN, isTupN, cp] at k0 ht ⊢
      refine ⟨ht, ?_⟩
      by_cases hl : ds.length = 2 ^ n
      · rw [if_pos (by rw [hl]; simp)]
        refine ⟨sz, ?_⟩
        refine wLc_map (fun d => .bl (leafOk d)) (fun d hd kt hk => ?_) ?_
        · have := ht d hd
          cases d <;> simp_all [wf1, leafOk]
        · simp
          by_cases ha : ds.all leafOk = true
          · rw [if_neg (fun z => by
              obtain ⟨e, he, q⟩ := z
              rw [List.all_eq_true.mp ha e he] at q
              cases q)]
            refine ⟨sz, ?_⟩
            refine wLc_pure (fun d => match d with | .non => false | _ => true) (fun d => .str ((nm d).getD "")) (fun d hd kt kf h1 h2 => ?_) ?_
            · rcases leaf_str (List.all_eq_true.mp ha d hd) with rfl | ⟨x, b, rfl⟩
              · simpa using h2 rfl
              · simpa [nm] using h1 rfl
            · rw [names_map ha, keys_map]
              refine ⟨_, rfl, ?_, ?_⟩
              · rw [List.length_map]
                have := List.length_filterMap_le nm ds
                omega
              · rw [List.length_map, List.length_map, met_strs]
                simpa [hl, ha] using k0
          · rw [if_pos (by
              rw [Bool.not_eq_true, List.all_eq_false] at ha
              obtain ⟨e, he, q⟩ := ha
              exact ⟨e, he, by simpa using q⟩)]
            simpa [ha] using k0
      · rw [if_neg (fun z => hl (by exact_mod_cast z))]
        simpa [hl] using k0
    | _ => simp_all [leavesOk, wfTupN, isTupN]
end
end Law
set_option Elab.async false
set_option linter.all false
set_option maxRecDepth 100000
set_option maxHeartbeats 8000000
namespace Law
open PySem L2 Gl Dw
local macro_rules | `(tactic| walk_at "sc") => `(tactic| first
  | exact True.intro
  | (show _ ≤ sizeLine; decide +kernel))
local macro_rules | `(tactic| walk_at "sim") => `(tactic| first
  | ((with_reducible apply ss_seq) <;> walk_at "sim")
  | with_reducible exact ss_next
  | with_reducible exact ss_brk
  | with_reducible exact ss_cont
  | with_reducible exact ss_retN
  | ((with_reducible apply ss_ret) <;> walk_at "sim")
  | ((with_reducible apply ss_if) <;> walk_at "sim")
  | ((with_reducible apply ss_asgO); (with_reducible assumption); walk_at "sim")
  | ((with_reducible apply ss_setL) <;> walk_at "sim")
  | ((with_reducible apply ss_pop) <;> walk_at "sim")
  | ((with_reducible apply ss_popAt) <;> walk_at "sim")
  | ((with_reducible apply ss_asg) <;> walk_at "sim")
  | ((with_reducible apply ss_par) <;> walk_at "sim")
  | ((with_reducible apply ss_par3) <;> walk_at "sim")
  | ((with_reducible apply ss_aug) <;> walk_at "sim")
  | ((with_reducible apply ss_app) <;> walk_at "sim")
  | ((with_reducible apply ss_ext) <;> walk_at "sim")
  | ((with_reducible apply ss_drop) <;> walk_at "sim")
  | ((with_reducible apply ss_for) <;> walk_at "sim")
  | ((with_reducible apply ss_while) <;> walk_at "sim")
  | with_reducible exact tg_name
  | ((with_reducible apply tg_tup) <;> walk_at "sim")
  | ((with_reducible apply tgs_cons) <;> walk_at "sim")
  | with_reducible exact tgs_nil
  | with_reducible exact sim_var
  | with_reducible exact sim_varG
  | with_reducible exact sim_nil
  | with_reducible exact sim_nilB
  | ((with_reducible apply sim_cons) <;> walk_at "sim")
  | ((with_reducible apply sim_consB) <;> walk_at "sim")
  | ((with_reducible apply sim_c); walk_at "sc")
  | ((with_reducible apply sim_op) <;> walk_at "sim")
  | ((with_reducible apply sim_un) <;> walk_at "sim")
  | ((with_reducible apply sim_cb) <;> walk_at "sim")
  | ((with_reducible apply sim_tup) <;> walk_at "sim")
  | ((with_reducible apply sim_lst) <;> walk_at "sim")
  | ((with_reducible apply sim_lstF) <;> walk_at "sim")
  | ((with_reducible apply sim_callN) <;> walk_at "sim")
  | ((with_reducible apply sim_call) <;> walk_at "sim")
  | ((with_reducible apply sim_sl) <;> walk_at "sim")
  | with_reducible exact sp_no
  | ((with_reducible apply sp_part) <;> walk_at "sim")
  | ((with_reducible apply sim_test) <;> walk_at "sim")
  | ((with_reducible apply sim_tB) <;> walk_at "sim")
  | ((with_reducible apply sim_and) <;> walk_at "sim")
  | ((with_reducible apply sim_or) <;> walk_at "sim")
  | ((with_reducible apply sim_not) <;> walk_at "sim")
  | with_reducible exact sim_yes
  | ((with_reducible apply sim_andV) <;> walk_at "sim")
  | ((with_reducible apply sim_orV) <;> walk_at "sim")
  | ((with_reducible apply sim_notV) <;> walk_at "sim")
  | ((with_reducible apply sim_if) <;> walk_at "sim")
  | ((with_reducible apply sim_chain) <;> walk_at "sim")
  | ((with_reducible apply sim_lcF) <;> walk_at "sim")
  | ((with_reducible apply sim_lcE) <;> walk_at "sim")
  | ((with_reducible apply sim_lstRgF) <;> walk_at "sim")
  | ((with_reducible apply sim_lstRg) <;> walk_at "sim")
  | ((with_reducible apply sim_tupRg) <;> walk_at "sim")
  | ((with_reducible apply sim_rg1) <;> walk_at "sim")
  | ((with_reducible apply sim_rg2) <;> walk_at "sim")
  | ((with_reducible apply sim_listF) <;> walk_at "sim")
  | ((with_reducible apply sim_addF) <;> walk_at "sim")
  | ((with_reducible apply sim_join) <;> walk_at "sim")
  | ((with_reducible apply sim_lenSetS) <;> walk_at "sim")
  | ((with_reducible apply sim_fld) <;> walk_at "sim")
  | ((with_reducible apply si_x) <;> walk_at "sim")
  | ((with_reducible apply si_tup) <;> walk_at "sim")
  | ((with_reducible apply si_list) <;> walk_at "sim")
  | ((with_reducible apply si_str) <;> walk_at "sim")
  | ((with_reducible apply si_rng1) <;> walk_at "sim")
  | ((with_reducible apply si_rng2) <;> walk_at "sim")
  | ((with_reducible apply si_enum) <;> walk_at "sim")
  | ((with_reducible apply si_zip) <;> walk_at "sim")
  | with_reducible exact so_addX
  | with_reducible exact so_mulX
  | with_reducible exact so_divX
  | with_reducible exact so_eqX
  | with_reducible exact so_neX
  | with_reducible exact so_inX
  | with_reducible exact so_notInX
  | with_reducible exact so_ltX
  | with_reducible exact so_gtX
  | with_reducible exact so_geX
  | with_reducible exact so_leX
  | ((with_reducible apply so_i0s); (intros; exact True.intro))
  | ((with_reducible apply so_iCs); (intros; exact True.intro))
  | ((with_reducible apply su_is); (intros; exact True.intro))
  | with_reducible exact so_eq
  | with_reducible exact so_ne
  | with_reducible exact so_isN
  | with_reducible exact so_notN
  | with_reducible exact so_isB
  | with_reducible exact so_notB
  | with_reducible exact so_ixL
  | with_reducible exact so_ixT
  | with_reducible exact so_ixS
  | with_reducible exact so_ix
  | with_reducible exact so_in
  | with_reducible exact so_str
  | with_reducible exact so_inS
  | with_reducible exact so_notInS
  | with_reducible exact so_catT
  | with_reducible exact so_catL
  | with_reducible exact so_addS
  | with_reducible exact so_mulS
  | with_reducible exact so_repT
  | with_reducible exact so_eqD
  | with_reducible exact so_neD
  | with_reducible exact so_inD
  | with_reducible exact so_notInD
  | with_reducible exact so_leT
  | with_reducible exact sc_len
  | with_reducible exact sc_int
  | with_reducible exact sc_abs
  | with_reducible exact sc_str
  | with_reducible exact sc_mm
  | with_reducible exact sc_list
  | with_reducible exact sc_tuple
  | with_reducible exact sc_sum
  | with_reducible exact sc_all
  | with_reducible exact sc_any
  | with_reducible exact sc_isi
  | with_reducible exact sc_isiT
  | with_reducible exact sc_repr
  | with_reducible exact sl_x
  | with_reducible exact sl_t
  | with_reducible exact sl_l
  | with_reducible exact sl_s
  | ((with_reducible apply SimE.g); walk_at "sim")
  | (intros; decide)
  | skip)

variable {S : Type}
def nodeB (h : Nat) : D → Bool
  | .tup [.int l, b] => decide (1 ≤ l) && decide (l ≤ (h : Int)) && isIn 0 (2 ^ (h - l.toNat) - 1) b
  | _ => false
def wfNode : WF S := fun ds s k _ => match ds with
  | [d, .int h, .int lo] => d.pl = true ∧ 0 ≤ h ∧ h ≤ 8 ∧ lo = 1 ∧ k (.bl (nodeB h.toNat d)) s
  | _ => False
def wfNodeL : WF S := fun ds s k _ => match ds with
  | [d, .int h] => d.pl = true ∧ 0 ≤ h ∧ h ≤ 8 ∧ k (.bl (nodeB h.toNat d)) s
  | _ => False
def ben (l i : Int) : List D := rngD (i * 2 ^ l.toNat) (2 ^ l.toNat)
def wfBen : WF S := fun ds s k _ => match ds with
  | [.tup [.int l, .int i]] => 0 ≤ l ∧ l ≤ 8 ∧ 0 ≤ i ∧ i ≤ 256 ∧ k (.lst (ben l i)) s
  | _ => False
abbrev s_is_node : Stmt := top 17
abbrev N_is_node : List Str := ["thing", "height", "least"]
theorem sc_is_node : FnScope N_is_node ["thing", "height", "least"] (defScope s_is_node) := ⟨rfl, rfl, rfl, by decide +kernel, rfl, by decide +kernel, by decide +kernel⟩
abbrev s_leaves_beneath : Stmt := top 18
abbrev N_leaves_beneath : List Str := ["node", "wide"]
theorem sc_leaves_beneath : FnScope N_leaves_beneath ["node"] (defScope s_leaves_beneath) := ⟨rfl, rfl, rfl, by decide +kernel, rfl, by decide +kernel, by decide +kernel⟩
abbrev s__law_beneath : Stmt := top 39
abbrev N__law_beneath : List Str := ["node", "level", "index", "first", "many", "k"]
theorem sc__law_beneath : FnScope N__law_beneath ["node"] (defScope s__law_beneath) := ⟨rfl, rfl, rfl, by decide +kernel, rfl, by decide +kernel, by decide +kernel⟩
theorem pow_le {n m : Nat} (h : n ≤ m) : (2 : Int) ^ n ≤ 2 ^ m := by exact_mod_cast Nat.pow_le_pow_right (by decide : 0 < 2) h
theorem pow_pos' (n : Nat) : (1 : Int) ≤ 2 ^ n := by exact_mod_cast Nat.one_le_two_pow
section
variable {W : Wd S} {P : Program} {w : World} {K : PySem.W.Frag} {mg : Str → Option Value} {base : Heap}
theorem ok_leaves_beneath (T : Tx P w K mg) {f : Addr} {fd : FuncData} (F : FD K "leaves_beneath" s_leaves_beneath f fd) : Fn P w K mg base 1 f fd ["node"] (spX W wfBen) := by
  refine fn_data F sc_leaves_beneath (fun ds s k x h => ?_) fun cv A outer s H G hr gd => ⟨_, (pss_cons (ps_set (i := 1) sc_leaves_beneath.nd rfl (Or.inl rfl) (pe_op op_shl pe_int (pe_ix (kIx (K := K)) (pv 0) pe_int (fun _ _ => rfl))))
    (pss_one (ps_ret (pe_listRg rfl (by rfl) T.list (prg_2 (by rfl) T.range (pe_op (kMul (K := K)) (pe_ix (kIx (K := K)) (pv 0) pe_int (fun _ _ => rfl)) (pv 1)) (pe_op (kMul (K := K)) (pe_op (kAdd (K := K)) (pe_ix (kIx (K := K)) (pv 0) pe_int (fun _ _ => rfl)) pe_int) (pv 1))))))), ?_⟩
  · match ds, h with
    | [.tup [.int l, .int i]], _ => rfl
  · apply bodyW
    · walk_at "sim"
    intro ds s k x ok h
    match ds, h, ok with
    | [.tup [.int l, .int i]], ⟨h0, h8, i0, i8, h⟩, ok =>
    have cp : CPow 1 l := ⟨h0, by omega, by decide⟩
    have b1 := pow_le (n := l.toNat) (m := 8) (by omega)
    have b2 := pow_pos' l.toNat
    simp [cp]
    generalize hq : (2 : Int) ^ l.toNat = q at *
    have m1 : 0 ≤ i * q := Int.mul_nonneg i0 (by omega)
    have m2 : i * q ≤ 256 * 256 := Int.mul_le_mul i8 b1 (by omega) (by decide)
    have m3 : (i + 1) * q = i * q + q := by rw [Int.add_mul, Int.one_mul]
    refine ⟨.inl (.inl ⟨by omega, by omega⟩), .inl (.inl ⟨by omega, by omega⟩), ?_, ?_⟩
    · rw [m3]
      exact RgOk.of_le m1 (by omega) (by omega) (by omega)
    · rw [m3]
      have e : (i * q + q - i * q).toNat = 2 ^ l.toNat := by
        rw [show i * q + q - i * q = q by omega, ← hq]
        exact_mod_cast Int.toNat_natCast (2 ^ l.toNat)
      rw [e, ← hq]
      exact h
theorem ok_is_node (T : Tx P w K mg) (f_is_tuple_of : Df P w K mg base 1 "is_tuple_of" (spX W wfTupN)) (f_is_within : Df P w K mg base 2 "is_within" (spX W wfIn)) {f : Addr} {fd : FuncData} (F : FD K "is_node" s_is_node f fd) : Fn P w K mg base 3 f fd ["thing", "height", "least"] (spX W wfNode) := by
  refine fn_data F sc_is_node (fun ds s k x h => ?_) fun cv A outer s H G hr gd => ⟨_, (pss_cons (ps_if (PW.pt (pw_or (pt_not (pt_val (pe_df f_is_tuple_of hr (by omega) gd rfl (fun σ => Gl.no_pass σ) (pa_cons (pv 0) (pa_cons pe_int pa_nil))))) (pw_or1 (pt_not (pt_val (pe_df f_is_within hr (by omega) gd rfl (fun σ => Gl.no_pass σ) (pa_cons (pe_ix (kIx (K := K)) (pv 0) pe_int (fun _ _ => rfl)) (pa_cons (pv 2) (pa_cons (pv 1) pa_nil))))))))) (pss_one (ps_ret pe_bl)) pss_nil)
    (pss_one (ps_ret (pe_df f_is_within hr (by omega) gd rfl (fun σ => Gl.no_pass σ) (pa_cons (pe_ix (kIx (K := K)) (pv 0) pe_int (fun _ _ => rfl)) (pa_cons pe_int (pa_cons (pe_op op_sub (pe_op op_shl pe_int (pe_op op_sub (pv 1) (pe_ix (kIx (K := K)) (pv 0) pe_int (fun _ _ => rfl)))) pe_int) pa_nil))))))), ?_⟩
  · match ds, h with
    | [d, .int h, .int lo], _ => rfl
  · apply bodyW
    · walk_at "sim"
    intro ds s k x ok h
    match ds, h, ok with
    | [d, .int h, .int lo], ⟨ht, h0, h8, h1, k0⟩, ok =>
    subst h1
    obtain ⟨n, rfl⟩ := Int.eq_ofNat_of_zero_le h0
    cases d with
    | tup ds =>
      match ds with
      | [a, b] =>
        simp [wfTupN, isTupN, wfIn] at k0 ht ⊢
        refine ⟨⟨ht.1, ht.2⟩, ?_⟩
        cases a with
        | int l =>
          simp [isIn, nodeB] at k0 ⊢
          by_cases c1 : 1 ≤ l
          · by_cases c2 : l ≤ (n : Int)
            · rw [if_pos ⟨c1, c2⟩]
              refine ⟨⟨by omega, by omega, by decide⟩, ht.2, ?_⟩
              have e : ((n : Int) - l).toNat = n - l.toNat := by omega
              rw [e]
              simpa [c1, c2] using k0
            · rw [if_neg (fun z => c2 z.2)]
              simpa [c2] using k0
          · rw [if_neg (fun z => c1 z.1)]
            simpa [c1] using k0
        | _ => simp_all [isIn, nodeB]
      | [] => simp_all [wfTupN, isTupN, wfIn, nodeB]
      | [_] => simp_all [wfTupN, isTupN, wfIn, nodeB]
      | _ :: _ :: _ :: _ =>
        simp [nodeB, isTupN, wfTupN] at k0 ht ⊢
        refine ⟨ht, ?_⟩
        rw [if_neg (by omega)]
        exact k0
    | _ => simp_all [wfTupN, isTupN, nodeB]
theorem ok__law_beneath (T : Tx P w K mg) {f : Addr} {fd : FuncData} (F : FD K "_law_beneath" s__law_beneath f fd) : Fn P w K mg base 1 f fd ["node"] (spX W wfBen) := by
  refine fn_data F sc__law_beneath (fun ds s k x h => ?_) fun cv A outer s H G hr gd => ⟨_, (pss_cons (ps_asg (pv 0) (kTup (K := K) (n := 2) rfl (pgs_cons (pg_name (i := 1) sc__law_beneath.nd rfl (Or.inl rfl)) (pgs_cons (pg_name (i := 2) sc__law_beneath.nd rfl (Or.inl rfl)) pgs_nil))))
    (pss_cons (ps_asg (pe_tup (pa_cons (pv 2) (pa_cons pe_int pa_nil))) (kTup (K := K) (n := 2) rfl (pgs_cons (pg_name (i := 3) sc__law_beneath.nd rfl (Or.inr rfl)) (pgs_cons (pg_name (i := 4) sc__law_beneath.nd rfl (Or.inl rfl)) pgs_nil))))
    (pss_cons (ps_for (passes_of rfl) rfl (pi_range1 rfl T.range (pa_cons (pv 1) pa_nil)) (pg_name (i := 5) sc__law_beneath.nd rfl (Or.inl rfl))
      (pss_one (ps_asg (pe_tup (pa_cons (pe_op (kMul (K := K)) pe_int (pv 3)) (pa_cons (pe_op (kMul (K := K)) pe_int (pv 4)) pa_nil))) (kTup (K := K) (n := 2) rfl (pgs_cons (pg_name (i := 3) sc__law_beneath.nd rfl (Or.inr rfl)) (pgs_cons (pg_name (i := 4) sc__law_beneath.nd rfl (Or.inl rfl)) pgs_nil))))))
    (pss_one (ps_ret (pe_lc (own := [("k", 5)]) (g := gName 5) (by rfl) sc__law_beneath.nd (pi_range1 rfl T.range (pa_cons (pv 4) pa_nil)) (blkOk_by (own := [("k", 5)]) (N := N__law_beneath) (sc := defScope s__law_beneath) (by decide +kernel)) (fun _ _ _ _ _ => pg_name (i := 5) sc__law_beneath.nd rfl (Or.inl rfl)) (fun _ _ _ _ _ => pts_nil) (fun _ _ _ _ _ => (pe_op (kAdd (K := K)) (pv 3) (pv 5))))))))), ?_⟩
  · match ds, h with
    | [.tup [.int l, .int i]], _ => rfl
  · apply bodyW
    · walk_at "sim"
    intro ds s k x ok h
    match ds, h, ok with
    | [.tup [.int l, .int i]], ⟨h0, h8, i0, i8, h⟩, ok =>
    have hs : (sizeLine : Int) = 16777216 := by rw [sizeLine_eq]; rfl
    simp
    refine ⟨by decide, by omega, by omega, ?_⟩
    refine wFor_ind (fun r env s' => ∃ j v, r.length + j = l.toNat ∧ s' = s ∧ env = [.dat (.tup [.int l, .int i]), .dat (.int l), .dat (.int i), .dat (.int (i * 2 ^ j)), .dat (.int (2 ^ j)), v]) ⟨0, .no, by rw [rngD_len]; omega, rfl, by simp⟩ (fun env s' h1 => ?_) fun d r ih env s' h1 => ?_
    · obtain ⟨j, v, hj, rfl, rfl⟩ := h1
      have hj' : j = l.toNat := by simpa using hj
      subst hj'
      have b1 := pow_le (n := l.toNat) (m := 8) (by omega)
      have b2 := pow_pos' l.toNat
      have e : ((2 : Int) ^ l.toNat).toNat = 2 ^ l.toNat := by exact_mod_cast Int.toNat_natCast (2 ^ l.toNat)
      simp [e, rngD_len]
      refine ⟨by omega, by omega, by rw [sizeLine_eq]; have : 2 ^ l.toNat ≤ 2 ^ 8 := Nat.pow_le_pow_right (by decide) (by omega); omega, ?_⟩
      refine wLc_map (fun d => match d with | .int n => .int (i * 2 ^ l.toNat + n) | d => d) (fun d hd kt hk => ?_) ?_
      · rw [rngD_eq] at hd
        obtain ⟨n, hn, rfl⟩ := List.mem_map.mp hd
        simpa using hk
      · simpa [ben, rngD_eq, Function.comp_def] using h
    · obtain ⟨j, v, hj, rfl, rfl⟩ := h1
      have jl : j < 8 := by simp at hj; omega
      have b1 := pow_le (n := j) (m := 8) (by omega)
      have b2 := pow_pos' j
      have m1 : 0 ≤ i * 2 ^ j := Int.mul_nonneg i0 (by omega)
      have m2 : i * 2 ^ j ≤ 256 * 256 := Int.mul_le_mul i8 b1 (by omega) (by decide)
      simp
      refine ⟨.inl (.inl ⟨by omega, by omega⟩), .inl (.inl ⟨by omega, by omega⟩), by decide, ?_⟩
      refine ih _ _ ⟨j + 1, .dat d, by simp at hj; omega, rfl, ?_⟩
      rw [Int.pow_succ, show 2 * (i * 2 ^ j) = i * (2 ^ j * 2) by rw [Int.mul_comm 2, Int.mul_assoc], Int.mul_comm 2]
end
end Law
set_option Elab.async false
set_option linter.all false
set_option maxRecDepth 100000
set_option maxHeartbeats 8000000
namespace Law
open PySem L2 Gl Dw
local macro_rules | `(tactic| walk_at "sc") => `(tactic| first
  | exact True.intro
  | (show _ ≤ sizeLine; decide +kernel))
local macro_rules | `(tactic| walk_at "sim") => `(tactic| first
  | ((with_reducible apply ss_seq) <;> walk_at "sim")
  | with_reducible exact ss_next
  | with_reducible exact ss_brk
  | with_reducible exact ss_cont
  | with_reducible exact ss_retN
  | ((with_reducible apply ss_ret) <;> walk_at "sim")
  | ((with_reducible apply ss_if) <;> walk_at "sim")
  | ((with_reducible apply ss_asgO); (with_reducible assumption); walk_at "sim")
  | ((with_reducible apply ss_setL) <;> walk_at "sim")
  | ((with_reducible apply ss_pop) <;> walk_at "sim")
  | ((with_reducible apply ss_popAt) <;> walk_at "sim")
  | ((with_reducible apply ss_asg) <;> walk_at "sim")
  | ((with_reducible apply ss_par) <;> walk_at "sim")
  | ((with_reducible apply ss_par3) <;> walk_at "sim")
  | ((with_reducible apply ss_aug) <;> walk_at "sim")
  | ((with_reducible apply ss_app) <;> walk_at "sim")
  | ((with_reducible apply ss_ext) <;> walk_at "sim")
  | ((with_reducible apply ss_drop) <;> walk_at "sim")
  | ((with_reducible apply ss_for) <;> walk_at "sim")
  | ((with_reducible apply ss_while) <;> walk_at "sim")
  | with_reducible exact tg_name
  | ((with_reducible apply tg_tup) <;> walk_at "sim")
  | ((with_reducible apply tgs_cons) <;> walk_at "sim")
  | with_reducible exact tgs_nil
  | with_reducible exact sim_var
  | with_reducible exact sim_varG
  | with_reducible exact sim_nil
  | with_reducible exact sim_nilB
  | ((with_reducible apply sim_cons) <;> walk_at "sim")
  | ((with_reducible apply sim_consB) <;> walk_at "sim")
  | ((with_reducible apply sim_c); walk_at "sc")
  | ((with_reducible apply sim_op) <;> walk_at "sim")
  | ((with_reducible apply sim_un) <;> walk_at "sim")
  | ((with_reducible apply sim_cb) <;> walk_at "sim")
  | ((with_reducible apply sim_tup) <;> walk_at "sim")
  | ((with_reducible apply sim_lst) <;> walk_at "sim")
  | ((with_reducible apply sim_lstF) <;> walk_at "sim")
  | ((with_reducible apply sim_callN) <;> walk_at "sim")
  | ((with_reducible apply sim_call) <;> walk_at "sim")
  | ((with_reducible apply sim_sl) <;> walk_at "sim")
  | with_reducible exact sp_no
  | ((with_reducible apply sp_part) <;> walk_at "sim")
  | ((with_reducible apply sim_test) <;> walk_at "sim")
  | ((with_reducible apply sim_tB) <;> walk_at "sim")
  | ((with_reducible apply sim_and) <;> walk_at "sim")
  | ((with_reducible apply sim_or) <;> walk_at "sim")
  | ((with_reducible apply sim_not) <;> walk_at "sim")
  | with_reducible exact sim_yes
  | ((with_reducible apply sim_andV) <;> walk_at "sim")
  | ((with_reducible apply sim_orV) <;> walk_at "sim")
  | ((with_reducible apply sim_notV) <;> walk_at "sim")
  | ((with_reducible apply sim_if) <;> walk_at "sim")
  | ((with_reducible apply sim_chain) <;> walk_at "sim")
  | ((with_reducible apply sim_lcF) <;> walk_at "sim")
  | ((with_reducible apply sim_lcE) <;> walk_at "sim")
  | ((with_reducible apply sim_lstRgF) <;> walk_at "sim")
  | ((with_reducible apply sim_lstRg) <;> walk_at "sim")
  | ((with_reducible apply sim_tupRg) <;> walk_at "sim")
  | ((with_reducible apply sim_rg1) <;> walk_at "sim")
  | ((with_reducible apply sim_rg2) <;> walk_at "sim")
  | ((with_reducible apply sim_listF) <;> walk_at "sim")
  | ((with_reducible apply sim_addF) <;> walk_at "sim")
  | ((with_reducible apply sim_join) <;> walk_at "sim")
  | ((with_reducible apply sim_lenSetS) <;> walk_at "sim")
  | ((with_reducible apply sim_fld) <;> walk_at "sim")
  | ((with_reducible apply si_x) <;> walk_at "sim")
  | ((with_reducible apply si_tup) <;> walk_at "sim")
  | ((with_reducible apply si_list) <;> walk_at "sim")
  | ((with_reducible apply si_str) <;> walk_at "sim")
  | ((with_reducible apply si_rng1) <;> walk_at "sim")
  | ((with_reducible apply si_rng2) <;> walk_at "sim")
  | ((with_reducible apply si_enum) <;> walk_at "sim")
  | ((with_reducible apply si_zip) <;> walk_at "sim")
  | with_reducible exact so_addX
  | with_reducible exact so_mulX
  | with_reducible exact so_divX
  | with_reducible exact so_eqX
  | with_reducible exact so_neX
  | with_reducible exact so_inX
  | with_reducible exact so_notInX
  | with_reducible exact so_ltX
  | with_reducible exact so_gtX
  | with_reducible exact so_geX
  | with_reducible exact so_leX
  | ((with_reducible apply so_i0s); (intros; exact True.intro))
  | ((with_reducible apply so_iCs); (intros; exact True.intro))
  | ((with_reducible apply su_is); (intros; exact True.intro))
  | with_reducible exact so_eq
  | with_reducible exact so_ne
  | with_reducible exact so_isN
  | with_reducible exact so_notN
  | with_reducible exact so_isB
  | with_reducible exact so_notB
  | with_reducible exact so_ixL
  | with_reducible exact so_ixT
  | with_reducible exact so_ixS
  | with_reducible exact so_ix
  | with_reducible exact so_in
  | with_reducible exact so_str
  | with_reducible exact so_inS
  | with_reducible exact so_notInS
  | with_reducible exact so_catT
  | with_reducible exact so_catL
  | with_reducible exact so_addS
  | with_reducible exact so_mulS
  | with_reducible exact so_repT
  | with_reducible exact so_eqD
  | with_reducible exact so_neD
  | with_reducible exact so_inD
  | with_reducible exact so_notInD
  | with_reducible exact so_leT
  | with_reducible exact sc_len
  | with_reducible exact sc_int
  | with_reducible exact sc_abs
  | with_reducible exact sc_str
  | with_reducible exact sc_mm
  | with_reducible exact sc_list
  | with_reducible exact sc_tuple
  | with_reducible exact sc_sum
  | with_reducible exact sc_all
  | with_reducible exact sc_any
  | with_reducible exact sc_isi
  | with_reducible exact sc_isiT
  | with_reducible exact sc_repr
  | with_reducible exact sl_x
  | with_reducible exact sl_t
  | with_reducible exact sl_l
  | with_reducible exact sl_s
  | ((with_reducible apply SimE.g); walk_at "sim")
  | (intros; decide)
  | skip)

variable {S : Type}
/-- a leaf that is there and not blank -/
def seen (ls : List D) (n : Int) : Bool := match atI ls n with
  | some .non => false
  | some _ => true
  | none => false
/-- leaves aside: ints that ascend from a on, beneath the node, not blank -/
def asd (l i : Int) (ls : List D) : Int → List D → Bool
  | _, [] => true
  | a, .int n :: r => decide (a < n) && (inD (.int n) (ben l i) && seen ls n) && asd l i ls n r
  | _, _ => false
theorem ben_in {l i n : Int} (h : inD (.int n) (ben l i) = true) (i0 : 0 ≤ i) : i * 2 ^ l.toNat ≤ n ∧ n < (i + 1) * 2 ^ l.toNat ∧ 0 ≤ n := by
  unfold ben at h
  rw [inD_rng] at h
  simp at h
  have e : (i + 1) * (2 : Int) ^ l.toNat = i * 2 ^ l.toNat + 2 ^ l.toNat := by rw [Int.add_mul, Int.one_mul]
  have p : (0 : Int) ≤ i * 2 ^ l.toNat := Int.mul_nonneg i0 (Int.pow_nonneg (by decide))
  exact ⟨h.1, by rw [e]; exact h.2, by omega⟩
theorem flat_ben (l i n : Int) : flatIn (.int n) (ben l i) = true := flatIn_rng _ _ _
def chain : Int → List Int → Bool
  | _, [] => true
  | a, n :: r => decide (a < n) && chain n r
theorem asd_split (l i : Int) (ls : List D) : ∀ (xs : List Int) (a : Int), asd l i ls a (xs.map D.int) = (chain a xs && xs.all fun n => inD (.int n) (ben l i) && seen ls n)
  | [], _ => rfl
  | n :: r, a => by
    show (decide (a < n) && _ && asd l i ls n (r.map D.int)) = _
    rw [asd_split l i ls r n]
    simp only [chain, List.all_cons]
    cases decide (a < n) <;> cases chain n r <;> simp [Bool.and_comm]
theorem asd_ints (l i : Int) (ls : List D) : ∀ (ds : List D) (a : Int), asd l i ls a ds = true → ds.all isI = true
  | [], _, _ => rfl
  | d :: r, a, h => by
    cases d with
    | int n =>
      simp only [asd, Bool.and_eq_true] at h
      simpa [isI] using asd_ints l i ls r n h.2
    | _ => simp [asd] at h
theorem ints_of : ∀ {ds : List D}, ds.all isI = true → ∃ xs : List Int, ds = xs.map D.int
  | [], _ => ⟨[], rfl⟩
  | d :: r, h => by
    cases d with
    | int n =>
      obtain ⟨xs, e⟩ := ints_of (ds := r) (by simpa [isI] using h)
      exact ⟨n :: xs, by rw [e]; rfl⟩
    | _ => simp [isI] at h
def ltp : D → Bool
  | .tup [.int a, .int b] => decide (a < b)
  | _ => true
theorem pair_in : ∀ (xs ys : List Int) (d : D), d ∈ pairD (xs.map D.int) (ys.map D.int) → ∃ a b : Int, d = .tup [.int a, .int b]
  | [], _, _, h => by simp [pairD] at h
  | _ :: _, [], _, h => by simp [pairD] at h
  | x :: r, y :: t, d, h => by
    simp only [List.map_cons, pairD, List.mem_cons] at h
    rcases h with h | h
    · exact ⟨x, y, h⟩
    · exact pair_in r t d h
theorem pair_chain : ∀ (n : Int) (r : List Int), (pairD ((n :: r).map D.int) (r.map D.int)).all ltp = chain n r
  | _, [] => rfl
  | n, m :: t => by
    show (decide (n < m) && (pairD ((m :: t).map D.int) (t.map D.int)).all ltp) = (decide (n < m) && chain m t)
    rw [pair_chain m t]
def asideOk (l i : Int) (ls : List D) : D → Bool
  | .tup ds => asd l i ls (-1) ds
  | _ => false
/-- thing, node, leaves -/
def wfAside : WF S := fun ds s k _ => match ds with
  | [d, .tup [.int l, .int i], .tup ls] => d.pl = true ∧ 0 ≤ l ∧ l ≤ 8 ∧ 0 ≤ i ∧ i ≤ 256 ∧ (i + 1) * 2 ^ l.toNat ≤ ls.length ∧ k (.bl (asideOk l i ls d)) s
  | _ => False
def wfMem : WF S := fun ds s k _ => match ds with
  | [.int h, d] => d.sm = true ∧ 0 ≤ h ∧ h ≤ 8 ∧ k (.bl (leavesOk h.toNat d)) s
  | _ => False
abbrev s_is_aside : Stmt := top 19
abbrev N_is_aside : List Str := ["thing", "node", "leaves", "leaf", "one", "other"]
theorem sc_is_aside : FnScope N_is_aside ["thing", "node", "leaves"] (defScope s_is_aside) := ⟨rfl, rfl, rfl, by decide +kernel, rfl, by decide +kernel, by decide +kernel⟩
section
variable {W : Wd S} {P : Program} {w : World} {K : PySem.W.Frag} {mg : Str → Option Value} {base : Heap}
theorem ok_is_aside (T : Tx P w K mg) (f_is_integer : Df P w K mg base 1 "is_integer" (spX W (wf1 isI))) (f_leaves_beneath : Df P w K mg base 1 "leaves_beneath" (spX W wfBen)) {f : Addr} {fd : FuncData} (F : FD K "is_aside" s_is_aside f fd) : Fn P w K mg base 2 f fd ["thing", "node", "leaves"] (spX W wfAside) := by
  refine fn_data F sc_is_aside (fun ds s k x h => ?_) fun cv A outer s H G hr gd => ⟨_, (pss_cons (ps_if (PW.pt (pw_or (pt_not (pt_val (pe_callB (kIsi (K := K)) (by rfl) T.isinstance (by decide +kernel) (pa_cons (pv 0) (pa_cons (pe_bltn (v := .ty "tuple") (by rfl) T.tuple (by decide +kernel) rfl) pa_nil))))) (pw_or1 (pt_not (pt_val (pe_callB (kAll (K := K) rfl) (by rfl) T.all (by decide +kernel) (pa_cons (pe_lc (own := [("leaf", 3)]) (g := gName 3) (by rfl) sc_is_aside.nd (kpi (K := K) (pv 0)) (blkOk_by (own := [("leaf", 3)]) (N := N_is_aside) (sc := defScope s_is_aside) (by decide +kernel)) (fun _ _ _ _ _ => pg_name (i := 3) sc_is_aside.nd rfl (Or.inl rfl)) (fun _ _ _ _ _ => pts_nil) (fun _ _ _ _ _ => (pe_df f_is_integer hr (by omega) gd rfl (fun σ => Gl.no_pass σ) (pa_cons (pv 3) pa_nil)))) pa_nil))))))) (pss_one (ps_ret pe_bl)) pss_nil)
    (pss_cons (ps_if (pt_not (pt_val (pe_callB (kAll (K := K) rfl) (by rfl) T.all (by decide +kernel) (pa_cons (pe_lc (own := [("one", 4), ("other", 5)]) (g := gTup K 2 (gCons (gName 4) (gCons (gName 5) gNil))) (by rfl) sc_is_aside.nd (RZ.pi_zipA rfl T.zip (pa_cons (pv 0) (pa_cons (pe_slice (kSl (K := K)) (pv 0) (po_some pe_int) po_none) pa_nil))) (blkOk_by (own := [("one", 4), ("other", 5)]) (N := N_is_aside) (sc := defScope s_is_aside) (by decide +kernel)) (fun _ _ _ _ _ => kTup (K := K) (n := 2) rfl (pgs_cons (pg_name (i := 4) sc_is_aside.nd rfl (Or.inl rfl)) (pgs_cons (pg_name (i := 5) sc_is_aside.nd rfl (Or.inl rfl)) pgs_nil))) (fun _ _ _ _ _ => pts_nil) (fun _ _ _ _ _ => (pe_cmpR op_ltX (pv 4) (pv 5) (nomark _)))) pa_nil)))) (pss_one (ps_ret pe_bl)) pss_nil)
    (pss_one (ps_ret (pe_callB (kAll (K := K) rfl) (by rfl) T.all (by decide +kernel) (pa_cons (pe_lc (own := [("leaf", 3)]) (g := gName 3) (by rfl) sc_is_aside.nd (kpi (K := K) (pv 0)) (blkOk_by (own := [("leaf", 3)]) (N := N_is_aside) (sc := defScope s_is_aside) (by decide +kernel)) (fun _ _ _ _ _ => pg_name (i := 3) sc_is_aside.nd rfl (Or.inl rfl)) (fun _ _ _ _ _ => pts_nil) (fun _ _ _ _ _ => (pe_and (pe_cmpR (kIn (K := K) hr) (pv 3) (pe_df f_leaves_beneath hr (by omega) gd rfl (fun σ => Gl.no_pass σ) (pa_cons (pv 1) pa_nil)) rfl) (pe_one (pe_cmpR op_notN1 (pe_ix (kIx (K := K)) (pv 2) (pv 3) (fun _ _ => rfl)) pe_non (nomark _)))))) pa_nil)))))), ?_⟩
  · match ds, h with
    | [d, .tup [.int l, .int i], .tup ls], _ => rfl
  · apply bodyW
    · walk_at "sim"
    intro ds s k x ok h
    match ds, h, ok with
    | [d, .tup [.int l, .int i], .tup ls], ⟨ht, h0, h8, i0, i8, hl, k0⟩, ok =>
    cases d with
    | tup ds =>
      simp [known6, wfBen, h0, h8, i0, i8] at k0 ht ⊢
      have hz := (ok_tup (ok (.tup ds) (by simp))).1
      refine ⟨hz, wLc_map (fun d => .bl (isI d)) (fun d hd kt hk => by simp [wf1]; exact ⟨ht d hd, hk⟩) ⟨ds.map isI, by simp, ?_⟩⟩
      by_cases hall : ds.all isI = true
      · rw [if_neg (by simp at hall ⊢; exact hall)]
        obtain ⟨xs, rfl⟩ := ints_of hall
        have hc : ∃ ys : List Int, cutD (xs.map D.int) (some 1) none = ys.map D.int ∧ (pairD (xs.map D.int) (ys.map D.int)).all ltp = (match xs with | [] => true | n :: r => chain n r) := by
          cases xs with
          | nil => exact ⟨[], cut_nil _ _, rfl⟩
          | cons n r => exact ⟨r, cut1 _ _, pair_chain n r⟩
        obtain ⟨ys, e1, e2⟩ := hc
        rw [e1]
        refine ⟨by rw [pairD_len]; omega, wLc_map (fun d => .bl (ltp d)) (fun d hd kt hk => ?_) ⟨(pairD (xs.map D.int) (ys.map D.int)).map ltp, by simp, ?_⟩⟩
        · obtain ⟨a, b, rfl⟩ := pair_in xs ys d hd
          simpa [ltp] using hk
        · have ef : ∀ n r, xs = n :: r → asd l i ls (-1) (xs.map D.int) = (chain n r && xs.all fun n => inD (.int n) (ben l i) && seen ls n) := fun n r e => by
            rw [asd_split, e]
            simp only [chain, List.all_cons]
            by_cases hb : inD (.int n) (ben l i) = true
            · have := (ben_in hb i0).2.2
              rw [decide_eq_true (show (-1 : Int) < n by omega), Bool.true_and]
            · simp [hb]
          by_cases hch : (pairD (xs.map D.int) (ys.map D.int)).all ltp = true
          · rw [if_neg (by simp at hch ⊢; exact hch)]
            refine ⟨hz, wLc_map (fun d => .bl (match d with | .int n => inD (.int n) (ben l i) && seen ls n | _ => false)) (fun d hd kt hk => ?_) ⟨xs.map (fun n => inD (.int n) (ben l i) && seen ls n), by rw [List.map_map]; exact bls_map _ _, ?_⟩⟩
            · obtain ⟨n, _, rfl⟩ := List.mem_map.mp hd
              simp [known6, wfBen, h0, h8, i0, i8, flat_ben]
              by_cases hb : inD (.int n) (ben l i) = true
              · have hq := ben_in hb i0
                have hn : n < ls.length := by omega
                rw [if_pos hb, atI_nat' hq.2.2 hn]
                simp only [hb, Bool.true_and, seen, atI_nat' hq.2.2 hn] at hk
                cases he : ls[n.toNat]'(by omega) <;> simp [he] at hk ⊢ <;> exact hk
              · rw [if_neg hb]
                simpa [hb] using hk
            · have hf : asd l i ls (-1) (xs.map D.int) = (xs.all fun n => inD (.int n) (ben l i) && seen ls n) := by
                cases xs with
                | nil => rfl
                | cons n r =>
                  rw [ef n r rfl]
                  rw [e2] at hch
                  have h3 : chain n r = true := hch
                  rw [h3, Bool.true_and]
              have k1 : k (.bl (asd l i ls (-1) (xs.map D.int))) s := k0
              rw [hf] at k1
              rw [List.all_map]
              exact k1
          · rw [if_pos (by simp at hch ⊢; exact hch)]
            have : asd l i ls (-1) (xs.map D.int) = false := by
              cases xs with
              | nil => exact absurd e2 hch
              | cons n r =>
                rw [ef n r rfl]
                rw [e2] at hch
                have h3 : chain n r = false := by simpa using hch
                rw [h3]; rfl
            have k1 : k (.bl (asd l i ls (-1) (xs.map D.int))) s := k0
            rw [this] at k1
            exact k1
      · rw [if_pos (by simp at hall ⊢; exact hall)]
        have : asd l i ls (-1) ds = false := by
          cases h : asd l i ls (-1) ds with
          | false => rfl
          | true => exact absurd (asd_ints l i ls ds _ h) hall
        have k1 : k (.bl (asd l i ls (-1) ds)) s := k0
        rw [this] at k1
        exact k1
    | _ => simp_all [asideOk, known6]
end
end Law
set_option Elab.async false
set_option linter.all false
set_option maxRecDepth 100000
set_option maxHeartbeats 8000000
namespace Law
open PySem L2 Gl Dw
local macro_rules | `(tactic| walk_at "sc") => `(tactic| first
  | exact True.intro
  | (show _ ≤ sizeLine; decide +kernel))
local macro_rules | `(tactic| walk_at "sim") => `(tactic| first
  | ((with_reducible apply ss_seq) <;> walk_at "sim")
  | with_reducible exact ss_next
  | with_reducible exact ss_brk
  | with_reducible exact ss_cont
  | with_reducible exact ss_retN
  | ((with_reducible apply ss_ret) <;> walk_at "sim")
  | ((with_reducible apply ss_if) <;> walk_at "sim")
  | ((with_reducible apply ss_asgO); (with_reducible assumption); walk_at "sim")
  | ((with_reducible apply ss_setL) <;> walk_at "sim")
  | ((with_reducible apply ss_pop) <;> walk_at "sim")
  | ((with_reducible apply ss_popAt) <;> walk_at "sim")
  | ((with_reducible apply ss_asg) <;> walk_at "sim")
  | ((with_reducible apply ss_par) <;> walk_at "sim")
  | ((with_reducible apply ss_par3) <;> walk_at "sim")
  | ((with_reducible apply ss_aug) <;> walk_at "sim")
  | ((with_reducible apply ss_app) <;> walk_at "sim")
  | ((with_reducible apply ss_ext) <;> walk_at "sim")
  | ((with_reducible apply ss_drop) <;> walk_at "sim")
  | ((with_reducible apply ss_for) <;> walk_at "sim")
  | ((with_reducible apply ss_while) <;> walk_at "sim")
  | with_reducible exact tg_name
  | ((with_reducible apply tg_tup) <;> walk_at "sim")
  | ((with_reducible apply tgs_cons) <;> walk_at "sim")
  | with_reducible exact tgs_nil
  | with_reducible exact sim_var
  | with_reducible exact sim_varG
  | with_reducible exact sim_nil
  | with_reducible exact sim_nilB
  | ((with_reducible apply sim_cons) <;> walk_at "sim")
  | ((with_reducible apply sim_consB) <;> walk_at "sim")
  | ((with_reducible apply sim_c); walk_at "sc")
  | ((with_reducible apply sim_op) <;> walk_at "sim")
  | ((with_reducible apply sim_un) <;> walk_at "sim")
  | ((with_reducible apply sim_cb) <;> walk_at "sim")
  | ((with_reducible apply sim_tup) <;> walk_at "sim")
  | ((with_reducible apply sim_lst) <;> walk_at "sim")
  | ((with_reducible apply sim_lstF) <;> walk_at "sim")
  | ((with_reducible apply sim_callN) <;> walk_at "sim")
  | ((with_reducible apply sim_call) <;> walk_at "sim")
  | ((with_reducible apply sim_sl) <;> walk_at "sim")
  | with_reducible exact sp_no
  | ((with_reducible apply sp_part) <;> walk_at "sim")
  | ((with_reducible apply sim_test) <;> walk_at "sim")
  | ((with_reducible apply sim_tB) <;> walk_at "sim")
  | ((with_reducible apply sim_and) <;> walk_at "sim")
  | ((with_reducible apply sim_or) <;> walk_at "sim")
  | ((with_reducible apply sim_not) <;> walk_at "sim")
  | with_reducible exact sim_yes
  | ((with_reducible apply sim_andV) <;> walk_at "sim")
  | ((with_reducible apply sim_orV) <;> walk_at "sim")
  | ((with_reducible apply sim_notV) <;> walk_at "sim")
  | ((with_reducible apply sim_if) <;> walk_at "sim")
  | ((with_reducible apply sim_chain) <;> walk_at "sim")
  | ((with_reducible apply sim_lcF) <;> walk_at "sim")
  | ((with_reducible apply sim_lcE) <;> walk_at "sim")
  | ((with_reducible apply sim_lstRgF) <;> walk_at "sim")
  | ((with_reducible apply sim_lstRg) <;> walk_at "sim")
  | ((with_reducible apply sim_tupRg) <;> walk_at "sim")
  | ((with_reducible apply sim_rg1) <;> walk_at "sim")
  | ((with_reducible apply sim_rg2) <;> walk_at "sim")
  | ((with_reducible apply sim_listF) <;> walk_at "sim")
  | ((with_reducible apply sim_addF) <;> walk_at "sim")
  | ((with_reducible apply sim_join) <;> walk_at "sim")
  | ((with_reducible apply sim_lenSetS) <;> walk_at "sim")
  | ((with_reducible apply sim_fld) <;> walk_at "sim")
  | ((with_reducible apply si_x) <;> walk_at "sim")
  | ((with_reducible apply si_tup) <;> walk_at "sim")
  | ((with_reducible apply si_list) <;> walk_at "sim")
  | ((with_reducible apply si_str) <;> walk_at "sim")
  | ((with_reducible apply si_rng1) <;> walk_at "sim")
  | ((with_reducible apply si_rng2) <;> walk_at "sim")
  | ((with_reducible apply si_enum) <;> walk_at "sim")
  | ((with_reducible apply si_zip) <;> walk_at "sim")
  | with_reducible exact so_addX
  | with_reducible exact so_mulX
  | with_reducible exact so_divX
  | with_reducible exact so_eqX
  | with_reducible exact so_neX
  | with_reducible exact so_inX
  | with_reducible exact so_notInX
  | with_reducible exact so_ltX
  | with_reducible exact so_gtX
  | with_reducible exact so_geX
  | with_reducible exact so_leX
  | ((with_reducible apply so_i0s); (intros; exact True.intro))
  | ((with_reducible apply so_iCs); (intros; exact True.intro))
  | ((with_reducible apply su_is); (intros; exact True.intro))
  | with_reducible exact so_eq
  | with_reducible exact so_ne
  | with_reducible exact so_isN
  | with_reducible exact so_notN
  | with_reducible exact so_isB
  | with_reducible exact so_notB
  | with_reducible exact so_ixL
  | with_reducible exact so_ixT
  | with_reducible exact so_ixS
  | with_reducible exact so_ix
  | with_reducible exact so_in
  | with_reducible exact so_str
  | with_reducible exact so_inS
  | with_reducible exact so_notInS
  | with_reducible exact so_catT
  | with_reducible exact so_catL
  | with_reducible exact so_addS
  | with_reducible exact so_mulS
  | with_reducible exact so_repT
  | with_reducible exact so_eqD
  | with_reducible exact so_neD
  | with_reducible exact so_inD
  | with_reducible exact so_notInD
  | with_reducible exact so_leT
  | with_reducible exact sc_len
  | with_reducible exact sc_int
  | with_reducible exact sc_abs
  | with_reducible exact sc_str
  | with_reducible exact sc_mm
  | with_reducible exact sc_list
  | with_reducible exact sc_tuple
  | with_reducible exact sc_sum
  | with_reducible exact sc_all
  | with_reducible exact sc_any
  | with_reducible exact sc_isi
  | with_reducible exact sc_isiT
  | with_reducible exact sc_repr
  | with_reducible exact sl_x
  | with_reducible exact sl_t
  | with_reducible exact sl_l
  | with_reducible exact sl_s
  | ((with_reducible apply SimE.g); walk_at "sim")
  | (intros; decide)
  | skip)

variable {S : Type}
def nds (h : Nat) (ls : List D) : Int → Int → List D → Bool
  | _, _, [] => true
  | a, b, .tup [.tup [.int l, .int i], lk, v] :: r => nodeB h (.tup [.int l, .int i]) && !leP [l, i] [a, b] && lockOk lk && asideOk l i ls v && nds h ls l i r
  | _, _, _ => false
def nodesOk (h : Nat) (ls : List D) : D → Bool
  | .tup ds => nds h ls 0 0 ds
  | _ => false
def wfNodes : WF S := fun ds s k _ => match ds with
  | [d, .int h, .tup ls] => d.sm = true ∧ 0 ≤ h ∧ h ≤ 8 ∧ ls.length = 2 ^ h.toNat ∧ k (.bl (nodesOk h.toNat ls d)) s
  | _ => False
def wfNodesL : WF S := fun ds s k _ => match ds with
  | [.int h, .tup ls, d] => d.sm = true ∧ 0 ≤ h ∧ h ≤ 8 ∧ ls.length = 2 ^ h.toNat ∧ k (.bl (nodesOk h.toNat ls d)) s
  | _ => False
/-- the first part that is wrong -/
def bad (a b c : D) : Option Str := if isIn 0 8 a then (match a with
  | .int h => if leavesOk h.toNat b then (match b with
    | .tup ls => if nodesOk h.toNat ls c then none else some "nodes"
    | _ => none) else some "leaves"
  | _ => none) else some "height"
def badD (a b c : D) : D := match bad a b c with
  | none => .non
  | some z => .str z
def due (a b c : D) : D := match bad a b c with
  | none => .tup [.str "made", a, b, c]
  | some z => .tup [.str "bad", .str z, .bl false, .bl true]
def wfBad : WF S := fun ds s k _ => match ds with
  | [.lst [a, b, c]] => a.sm = true ∧ b.sm = true ∧ c.sm = true ∧ k (badD a b c) s
  | _ => False
def wfDue : WF S := fun ds s k _ => match ds with
  | [.lst [a, b, c]] => a.sm = true ∧ b.sm = true ∧ c.sm = true ∧ k (due a b c) s
  | _ => False
def wfSet : WF S := fun ds s k _ => match ds with
  | [.tup ds, .int n, d] => 0 ≤ n ∧ n < ds.length ∧ k (.tup (ds.set n.toNat d)) s
  | _ => False
abbrev s_are_nodes : Stmt := top 20
abbrev N_are_nodes : List Str := ["thing", "height", "leaves", "last", "one"]
theorem sc_are_nodes : FnScope N_are_nodes ["thing", "height", "leaves"] (defScope s_are_nodes) := ⟨rfl, rfl, rfl, by decide +kernel, rfl, by decide +kernel, by decide +kernel⟩
theorem node_of {m : Nat} {n : D} (m8 : m ≤ 8) (h : nodeB m n = true) : ∃ l i : Int, n = .tup [.int l, .int i] ∧ 1 ≤ l ∧ l ≤ m ∧ 0 ≤ i ∧ i ≤ 256 ∧ (i + 1) * 2 ^ l.toNat ≤ 2 ^ m := by
  obtain ⟨l, b, rfl⟩ : ∃ l b, n = .tup [.int l, b] := by
    unfold nodeB at h
    split at h
    · exact ⟨_, _, rfl⟩
    · cases h
  cases b with
  | int i =>
    simp [nodeB, isIn] at h
    obtain ⟨⟨l1, l2⟩, i0, i1⟩ := h
    obtain ⟨j, rfl⟩ := Int.eq_ofNat_of_zero_le (show 0 ≤ l by omega)
    have e : (2 : Int) ^ m = 2 ^ (m - j) * 2 ^ j := by
      have : m = (m - j) + j := by omega
      conv => lhs; rw [this, Int.pow_add]
    have p : (2 : Int) ^ (m - j) ≤ 2 ^ 8 := pow_le (by omega)
    simp at i1
    refine ⟨_, _, rfl, l1, l2, i0, ?_, ?_⟩
    · have : (2 : Int) ^ 8 = 256 := by decide
      omega
    · rw [e]
      exact Int.mul_le_mul_of_nonneg_right (by simpa using (by omega : i + 1 ≤ 2 ^ (m - j))) (Int.pow_nonneg (by decide))
  | _ => simp [nodeB, isIn] at h
theorem ints2 (a b : Int) : D.ints [.int a, .int b] = some [a, b] := rfl
theorem nds_node {m : Nat} {ls : List D} {a b : Int} {n lk v : D} {r : List D} (h : nds m ls a b (.tup [n, lk, v] :: r) = true) : nodeB m n = true := by
  unfold nds at h
  split at h
  · simp_all
  · simp_all
  · simp_all
theorem lock_in {b : D} (hb : b.sm = true) : isIn 0 1000000000000000000000000000000000000000000000000000000000000 b = lockOk b := by
  cases b with
  | int i =>
    have : -(10 ^ 31) ≤ i ∧ i ≤ 10 ^ 31 := by simpa using hb
    have e : decide (i ≤ 10 ^ 60) = true := decide_eq_true (by omega)
    show (decide (0 ≤ i) && decide (i ≤ 10 ^ 60)) = decide (0 ≤ i)
    rw [e, Bool.and_true]
  | _ => rfl
section
variable {W : Wd S} {P : Program} {w : World} {K : PySem.W.Frag} {mg : Str → Option Value} {base : Heap}
theorem ok_are_nodes (T : Tx P w K mg) (f_is_tuple_of : Df P w K mg base 1 "is_tuple_of" (spX W wfTupN)) (f_is_node : Df P w K mg base 3 "is_node" (spX W wfNode)) (f_is_lock : Df P w K mg base 2 "is_lock" (spX W (wf1 lockOk))) (f_is_aside : Df P w K mg base 2 "is_aside" (spX W wfAside)) {f : Addr} {fd : FuncData} (F : FD K "are_nodes" s_are_nodes f fd) : Fn P w K mg base 4 f fd ["thing", "height", "leaves"] (spX W wfNodes) := by
  refine fn_data F sc_are_nodes (fun ds s k x h => ?_) fun cv A outer s H G hr gd => ⟨_, (pss_cons (ps_if (pt_not (pt_val (pe_callB (kIsi (K := K)) (by rfl) T.isinstance (by decide +kernel) (pa_cons (pv 0) (pa_cons (pe_bltn (v := .ty "tuple") (by rfl) T.tuple (by decide +kernel) rfl) pa_nil))))) (pss_one (ps_ret pe_bl)) pss_nil)
    (pss_cons (ps_set (i := 3) sc_are_nodes.nd rfl (Or.inl rfl) (pe_tup (pa_cons pe_int (pa_cons pe_int pa_nil))))
    (pss_cons (ps_for (passes_of rfl) rfl (kpi (K := K) (pv 0)) (pg_name (i := 4) sc_are_nodes.nd rfl (Or.inl rfl))
      (pss_cons (ps_if (PW.pt (pw_or (pt_not (pt_val (pe_df f_is_tuple_of hr (by omega) gd rfl (fun σ => Gl.no_pass σ) (pa_cons (pv 4) (pa_cons pe_int pa_nil))))) (pw_or (pt_not (pt_val (pe_df f_is_node hr (by omega) gd rfl (fun σ => Gl.no_pass σ) (pa_cons (pe_ix (kIx (K := K)) (pv 4) pe_int (fun _ _ => rfl)) (pa_cons (pv 1) (pa_cons pe_int pa_nil)))))) (pw_or1 (pt_cmpR (kLe (K := K) hr) (pe_ix (kIx (K := K)) (pv 4) pe_int (fun _ _ => rfl)) (pv 3) (nomark _)))))) (pss_one (ps_ret pe_bl)) pss_nil)
    (pss_cons (ps_if (PW.pt (pw_or (pt_not (pt_val (pe_df f_is_lock hr (by omega) gd rfl (fun σ => Gl.no_pass σ) (pa_cons (pe_ix (kIx (K := K)) (pv 4) pe_int (fun _ _ => rfl)) pa_nil)))) (pw_or1 (pt_not (pt_val (pe_df f_is_aside hr (by omega) gd rfl (fun σ => Gl.no_pass σ) (pa_cons (pe_ix (kIx (K := K)) (pv 4) pe_int (fun _ _ => rfl)) (pa_cons (pe_ix (kIx (K := K)) (pv 4) pe_int (fun _ _ => rfl)) (pa_cons (pv 2) pa_nil))))))))) (pss_one (ps_ret pe_bl)) pss_nil)
    (pss_one (ps_set (i := 3) sc_are_nodes.nd rfl (Or.inl rfl) (pe_ix (kIx (K := K)) (pv 4) pe_int (fun _ _ => rfl)))))))
    (pss_one (ps_ret pe_bl))))), ?_⟩
  · match ds, h with
    | [d, .int h, .tup ls], _ => rfl
  · apply bodyW
    · walk_at "sim"
    intro ds s k x ok h
    match ds, h, ok with
    | [d, .int h, .tup ls], ⟨ht, h0, h8, hl, k0⟩, ok =>
    obtain ⟨m, rfl⟩ := Int.eq_ofNat_of_zero_le h0
    have hz : (2 : Nat) ≤ sizeLine := by decide
    cases d with
    | tup ds =>
      simp [known6, isTupN, ints2, wfTupN, h8] at k0 ht hl ⊢
      have m8 : m ≤ 8 := by omega
      refine ⟨hz, wFor_ind (fun r env s' => ∃ (a b : Int) (v : Sl), s' = s ∧ env = [.dat (.tup ds), .dat (.int m), .dat (.tup ls), .dat (.tup [.int a, .int b]), v] ∧ (∀ d ∈ r, d.sm = true) ∧ k (.bl (nds m ls a b r)) s) ⟨0, 0, .no, rfl, rfl, ht, k0⟩ (fun env s' h1 => ?_) fun d r ih env s' h1 => ?_⟩
      · obtain ⟨a, b, v, rfl, rfl, _, hk⟩ := h1
        simpa [nds] using hk
      · obtain ⟨a, b, v, rfl, rfl, hr, hk⟩ := h1
        have hr' : ∀ e ∈ r, e.sm = true := fun e he => hr e (by simp [he])
        have hd := hr d (by simp)
        cases d with
        | tup es =>
          match es with
          | [n, lk, v] =>
            have hd' : n.sm = true ∧ lk.sm = true ∧ v.sm = true := by simpa using hd
            have pn := D.sm_pl hd'.1
            have pl := D.sm_pl hd'.2.1
            have pv := D.sm_pl hd'.2.2
            simp [known6, isTupN, ints2, wfTupN, wfNode, wf1, wfAside, pn, pl, pv, h8]
            by_cases hn : nodeB m n = true
            · obtain ⟨l, i, rfl, l1, l2, i0, i2, i3⟩ := node_of m8 hn
              have hl2 : (i + 1) * 2 ^ l.toNat ≤ (ls.length : Int) := by rw [hl]; exact_mod_cast i3
              simp [hn, ints2]
              by_cases hp : leP [l, i] [a, b] = true
              · have e : nds m ls a b (.tup [.tup [.int l, .int i], lk, v] :: r) = false := by simp [nds, hp]
                rw [e] at hk
                rw [if_pos hp]
                exact hk
              · have hp' : leP [l, i] [a, b] = false := by simpa using hp
                rw [if_neg hp]
                skip
                by_cases hlk : lockOk lk = true
                · rw [if_pos hlk]
                  refine ⟨pv, by omega, by omega, i0, i2, hl2, ?_⟩
                  simp only [nds, hn, hp', hlk, Bool.not_false, Bool.true_and] at hk
                  by_cases ha : asideOk l i ls v = true
                  · simp only [ha, Bool.true_and] at hk ⊢
                    exact ih _ _ ⟨l, i, _, rfl, rfl, hr', hk⟩
                  · simpa [ha] using hk
                · rw [if_neg hlk]
                  simpa [nds, hlk] using hk
            · have e : nds m ls a b (.tup [n, lk, v] :: r) = false := by
                cases h : nds m ls a b (.tup [n, lk, v] :: r) with
                | false => rfl
                | true => exact absurd (nds_node h) hn
              rw [e] at hk
              simpa [hn] using hk
          | [] => simp [known6, isTupN, ints2, wfTupN]; simpa [nds] using hk
          | [_] => simp [known6, isTupN, ints2, wfTupN] at hd ⊢; simpa [nds, D.sm_pl hd] using hk
          | [_, _] => simp [known6, isTupN, ints2, wfTupN] at hd ⊢; simpa [nds, D.sm_pl hd.1, D.sm_pl hd.2] using hk
          | a1 :: a2 :: a3 :: a4 :: a5 =>
            have hd3 := D.sm_pl hd
            simp at hd3
            simp [known6, isTupN, ints2, wfTupN, hd3]
            rw [if_neg (by omega)]
            first | exact ⟨hd3.2.2.2.2, by simpa [nds] using hk⟩ | simpa [nds] using hk
        | non => simp [known6, isTupN, ints2, wfTupN]; simpa [nds] using hk
        | bl _ => simp [known6, isTupN, ints2, wfTupN]; simpa [nds] using hk
        | int _ => simp [known6, isTupN, ints2, wfTupN]; simpa [nds] using hk
        | str _ => simp [known6, isTupN, ints2, wfTupN]; simpa [nds] using hk
        | lst _ => have hd2 := D.sm_pl hd; simp [known6, isTupN, ints2, wfTupN] at hd2 ⊢; first | exact ⟨hd2, by simpa [nds] using hk⟩ | simpa [nds] using hk
        | _ => simp at hd
    | _ => simp_all [nodesOk, known6]
end
end Law
set_option Elab.async false
set_option linter.all false
set_option maxRecDepth 100000
set_option maxHeartbeats 8000000
namespace Law
open PySem L2 Gl Dw
local macro_rules | `(tactic| walk_at "sc") => `(tactic| first
  | exact True.intro
  | (show _ ≤ sizeLine; decide +kernel))
local macro_rules | `(tactic| walk_at "sim") => `(tactic| first
  | ((with_reducible apply ss_seq) <;> walk_at "sim")
  | with_reducible exact ss_next
  | with_reducible exact ss_brk
  | with_reducible exact ss_cont
  | with_reducible exact ss_retN
  | ((with_reducible apply ss_ret) <;> walk_at "sim")
  | ((with_reducible apply ss_if) <;> walk_at "sim")
  | ((with_reducible apply ss_asgO); (with_reducible assumption); walk_at "sim")
  | ((with_reducible apply ss_setL) <;> walk_at "sim")
  | ((with_reducible apply ss_pop) <;> walk_at "sim")
  | ((with_reducible apply ss_popAt) <;> walk_at "sim")
  | ((with_reducible apply ss_asg) <;> walk_at "sim")
  | ((with_reducible apply ss_par) <;> walk_at "sim")
  | ((with_reducible apply ss_par3) <;> walk_at "sim")
  | ((with_reducible apply ss_aug) <;> walk_at "sim")
  | ((with_reducible apply ss_app) <;> walk_at "sim")
  | ((with_reducible apply ss_ext) <;> walk_at "sim")
  | ((with_reducible apply ss_drop) <;> walk_at "sim")
  | ((with_reducible apply ss_for) <;> walk_at "sim")
  | ((with_reducible apply ss_while) <;> walk_at "sim")
  | with_reducible exact tg_name
  | ((with_reducible apply tg_tup) <;> walk_at "sim")
  | ((with_reducible apply tgs_cons) <;> walk_at "sim")
  | with_reducible exact tgs_nil
  | with_reducible exact sim_bgetE
  | ((with_reducible apply sim_tupRev) <;> walk_at "sim")
  | with_reducible exact sim_bget
  | ((with_reducible apply ss_bput) <;> walk_at "sim")
  | ((with_reducible apply ss_baug) <;> walk_at "sim")
  | with_reducible exact so_ixB
  | with_reducible exact sc_lenB
  | with_reducible exact so_radd
  | with_reducible exact so_rsub
  | with_reducible exact sim_var
  | with_reducible exact sim_varG
  | with_reducible exact sim_nil
  | with_reducible exact sim_nilB
  | ((with_reducible apply sim_cons) <;> walk_at "sim")
  | ((with_reducible apply sim_consB) <;> walk_at "sim")
  | ((with_reducible apply sim_c); walk_at "sc")
  | ((with_reducible apply sim_op) <;> walk_at "sim")
  | ((with_reducible apply sim_un) <;> walk_at "sim")
  | ((with_reducible apply sim_cb) <;> walk_at "sim")
  | ((with_reducible apply sim_tup) <;> walk_at "sim")
  | ((with_reducible apply sim_lst) <;> walk_at "sim")
  | ((with_reducible apply sim_lstF) <;> walk_at "sim")
  | ((with_reducible apply sim_callN) <;> walk_at "sim")
  | ((with_reducible apply sim_call) <;> walk_at "sim")
  | ((with_reducible apply sim_sl) <;> walk_at "sim")
  | with_reducible exact sp_no
  | ((with_reducible apply sp_part) <;> walk_at "sim")
  | ((with_reducible apply sim_test) <;> walk_at "sim")
  | ((with_reducible apply sim_tB) <;> walk_at "sim")
  | ((with_reducible apply sim_and) <;> walk_at "sim")
  | ((with_reducible apply sim_or) <;> walk_at "sim")
  | ((with_reducible apply sim_not) <;> walk_at "sim")
  | with_reducible exact sim_yes
  | ((with_reducible apply sim_andV) <;> walk_at "sim")
  | ((with_reducible apply sim_orV) <;> walk_at "sim")
  | ((with_reducible apply sim_notV) <;> walk_at "sim")
  | ((with_reducible apply sim_if) <;> walk_at "sim")
  | ((with_reducible apply sim_chain) <;> walk_at "sim")
  | ((with_reducible apply sim_lcF) <;> walk_at "sim")
  | ((with_reducible apply sim_lcE) <;> walk_at "sim")
  | ((with_reducible apply sim_lstRgF) <;> walk_at "sim")
  | ((with_reducible apply sim_lstRg) <;> walk_at "sim")
  | ((with_reducible apply sim_tupRg) <;> walk_at "sim")
  | ((with_reducible apply sim_rg1) <;> walk_at "sim")
  | ((with_reducible apply sim_rg2) <;> walk_at "sim")
  | ((with_reducible apply sim_listF) <;> walk_at "sim")
  | ((with_reducible apply sim_addF) <;> walk_at "sim")
  | ((with_reducible apply sim_join) <;> walk_at "sim")
  | ((with_reducible apply sim_lenSetS) <;> walk_at "sim")
  | ((with_reducible apply sim_fld) <;> walk_at "sim")
  | ((with_reducible apply si_x) <;> walk_at "sim")
  | ((with_reducible apply si_tup) <;> walk_at "sim")
  | ((with_reducible apply si_list) <;> walk_at "sim")
  | ((with_reducible apply si_str) <;> walk_at "sim")
  | ((with_reducible apply si_rng1) <;> walk_at "sim")
  | ((with_reducible apply si_rng2) <;> walk_at "sim")
  | ((with_reducible apply si_enum) <;> walk_at "sim")
  | ((with_reducible apply si_zip) <;> walk_at "sim")
  | with_reducible exact so_addX
  | with_reducible exact so_mulX
  | with_reducible exact so_divX
  | with_reducible exact so_eqX
  | with_reducible exact so_neX
  | with_reducible exact so_inX
  | with_reducible exact so_notInX
  | with_reducible exact so_ltX
  | with_reducible exact so_gtX
  | with_reducible exact so_geX
  | with_reducible exact so_leX
  | ((with_reducible apply so_i0s); (intros; exact True.intro))
  | ((with_reducible apply so_iCs); (intros; exact True.intro))
  | ((with_reducible apply su_is); (intros; exact True.intro))
  | with_reducible exact so_eq
  | with_reducible exact so_ne
  | with_reducible exact so_isN
  | with_reducible exact so_notN
  | with_reducible exact so_isB
  | with_reducible exact so_notB
  | with_reducible exact so_ixL
  | with_reducible exact so_ixT
  | with_reducible exact so_ixS
  | with_reducible exact so_ix
  | with_reducible exact so_in
  | with_reducible exact so_str
  | with_reducible exact so_inS
  | with_reducible exact so_notInS
  | with_reducible exact so_catT
  | with_reducible exact so_catL
  | with_reducible exact so_addS
  | with_reducible exact so_mulS
  | with_reducible exact so_repT
  | with_reducible exact so_eqD
  | with_reducible exact so_neD
  | with_reducible exact so_inD
  | with_reducible exact so_notInD
  | with_reducible exact so_leT
  | with_reducible exact sc_len
  | with_reducible exact sc_int
  | with_reducible exact sc_abs
  | with_reducible exact sc_str
  | with_reducible exact sc_mm
  | with_reducible exact sc_list
  | with_reducible exact sc_tuple
  | with_reducible exact sc_sum
  | with_reducible exact sc_all
  | with_reducible exact sc_any
  | with_reducible exact sc_isi
  | with_reducible exact sc_isiT
  | with_reducible exact sc_repr
  | with_reducible exact sl_x
  | with_reducible exact sl_t
  | with_reducible exact sl_l
  | with_reducible exact sl_s
  | ((with_reducible apply SimE.g); walk_at "sim")
  | (intros; decide)
  | skip)

variable {S : Type}
def Bo (a : Addr) (s : Box) : Prop := s.a = a ∧ 0 ≤ s.at_
def wfMix : WF S := fun ds s k _ => match ds with
  | [.int a, .int b] => ∀ n, k (.int n) s
  | _ => False
def wfRefill : WF Box := fun ds s k _ => match ds with
  | [.opq a] => Bo a s ∧ ∀ s', Bo a s' → k .non s'
  | _ => False
def wfDraw : WF Box := fun ds s k _ => match ds with
  | [.opq a, .int m] => Bo a s ∧ 0 < m ∧ m ≤ 10 ^ 30 ∧ ∀ s' i, Bo a s' → 0 ≤ i → i < m → k (.int i) s'
  | _ => False
def wfName : WF Box := fun ds s k _ => match ds with
  | [.opq a] => Bo a s ∧ ∀ s' z, Bo a s' → nameOk (.str z) = true → k (.str z) s'
  | _ => False
def wfLock : WF Box := fun ds s k _ => match ds with
  | [.opq a] => Bo a s ∧ ∀ s' i, Bo a s' → 0 ≤ i → i < 10 ^ 30 → k (.int i) s'
  | _ => False
abbrev s__law_mixed : Stmt := top 33
abbrev N__law_mixed : List Str := ["number", "place"]
theorem sc__law_mixed : FnScope N__law_mixed ["number", "place"] (defScope s__law_mixed) := ⟨rfl, rfl, rfl, by decide +kernel, rfl, by decide +kernel, by decide +kernel⟩
abbrev s__law_refill : Stmt := top 35
abbrev N__law_refill : List Str := ["box", "cell"]
theorem sc__law_refill : FnScope N__law_refill ["box"] (defScope s__law_refill) := ⟨rfl, rfl, rfl, by decide +kernel, rfl, by decide +kernel, by decide +kernel⟩
abbrev s__law_draw : Stmt := top 36
abbrev N__law_draw : List Str := ["box", "menu", "rest"]
theorem sc__law_draw : FnScope N__law_draw ["box", "menu"] (defScope s__law_draw) := ⟨rfl, rfl, rfl, by decide +kernel, rfl, by decide +kernel, by decide +kernel⟩
abbrev s__law_name : Stmt := top 37
abbrev N__law_name : List Str := ["box", "many", "k"]
theorem sc__law_name : FnScope N__law_name ["box"] (defScope s__law_name) := ⟨rfl, rfl, rfl, by decide +kernel, rfl, by decide +kernel, by decide +kernel⟩
abbrev s__law_lock : Stmt := top 38
abbrev N__law_lock : List Str := ["box"]
theorem sc__law_lock : FnScope N__law_lock ["box"] (defScope s__law_lock) := ⟨rfl, rfl, rfl, by decide +kernel, rfl, by decide +kernel, by decide +kernel⟩
section
variable {W : Wd S} {P : Program} {w : World} {K : PySem.W.Frag} {mg : Str → Option Value} {base : Heap}
theorem ok__law_mixed (T : Tx P w K mg) {f : Addr} {fd : FuncData} (F : FD K "_law_mixed" s__law_mixed f fd) : Fn P w K mg base 1 f fd ["number", "place"] (spX W wfMix) := by
  refine fn_data F sc__law_mixed (fun ds s k x h => ?_) fun cv A outer s H G hr gd => ⟨_, (pss_cons (ps_set (i := 0) sc__law_mixed.nd rfl (Or.inl rfl) (pe_op op_mod (pe_callTy Rd.cr_int (by rfl) T.int (by decide +kernel) (pa_cons (pe_op (kMul (K := K)) (pe_op (kAdd (K := K)) (pe_op (kAdd (K := K)) (pv 0) (pe_op (kMul (K := K)) pe_int (pv 1))) pe_int) pe_int) pa_nil)) pe_int))
    (pss_cons (ps_set (i := 0) sc__law_mixed.nd rfl (Or.inl rfl) (pe_op op_mod (pe_callTy Rd.cr_int (by rfl) T.int (by decide +kernel) (pa_cons (pe_op (kMul (K := K)) (pv 0) (pe_op (kAdd (K := K)) (pe_op op_divX (pv 0) pe_int) pe_int)) pa_nil)) pe_int))
    (pss_one (ps_ret (pe_op op_mod (pe_callTy Rd.cr_int (by rfl) T.int (by decide +kernel) (pa_cons (pe_op (kMul (K := K)) (pv 0) (pe_op (kAdd (K := K)) (pe_op op_divX (pv 0) pe_int) pe_int)) pa_nil)) pe_int))))), ?_⟩
  · match ds, h with
    | [.int a, .int b], _ => rfl
  · apply bodyW
    · walk_at "sim"
    intro ds s k x ok h
    match ds, h, ok with
    | [.int a, .int b], k0, ok =>
    simp [known6] at k0 ⊢
    have lit : ∀ {i j : Int}, -(2 ^ 64) < j ∧ j < 2 ^ 64 → CMul i j ∨ CMulW i j := fun h => .inl (.inr h)
    have md : ∀ {i j : Int}, CMul (i % 2147483647) j ∨ CMulW (i % 2147483647) j := .inl (.inl ⟨by omega, by omega⟩)
    exact ⟨.inl (.inl ⟨by decide, by decide⟩), lit ⟨by decide, by decide⟩, .inl ⟨by decide, by decide⟩, md, .inl ⟨by decide, by decide⟩, md, k0 _⟩
theorem ok__law_refill (T : Tx P w K mg) (f__law_mixed : Df P w K mg base 1 "_law_mixed" (spX BW wfMix)) {f : Addr} {fd : FuncData} (F : FD K "_law_refill" s__law_refill f fd) : Fn P w K mg base 2 f fd ["box"] (spX BW wfRefill) := by
  refine fn_data F sc__law_refill (fun ds s k x h => ?_) fun cv A outer s H G hr gd => ⟨_, (pss_cons (ps_set (i := 1) sc__law_refill.nd rfl (Or.inl rfl) (pe_dget (huB hr) (pv 0) pe_str (fun _ _ => rfl)))
    (pss_cons (ps_if (pt_cmpR op_ltX (pe_dget (huB hr) (pv 0) pe_str (fun _ _ => rfl)) (pe_callB (kLen (K := K)) (by rfl) T.len (by decide +kernel) (pa_cons (pe_dget (huB hr) (pv 0) pe_str (fun _ _ => rfl)) pa_nil)) (nomark _)) (pss_one (ps_set (i := 1) sc__law_refill.nd rfl (Or.inl rfl) (pe_callTy Rd.cr_int (by rfl) T.int (by decide +kernel) (pa_cons (pe_ix (kIx (K := K)) (pe_dget (huB hr) (pv 0) pe_str (fun _ _ => rfl)) (pe_dget (huB hr) (pv 0) pe_str (fun _ _ => rfl)) (fun _ _ => rfl)) pa_nil)))) pss_nil)
    (pss_cons (ps_daug (huB hr) (pv 0) pe_str pe_int in_add (fun _ _ _ => rfl))
    (pss_cons (ps_dput (huB hr) (pv 0) pe_str (pe_cmpR op_geX (pv 1) (pe_op op_pow pe_int pe_int) (nomark _)) (by rfl))
    (pss_cons (ps_dput (huB hr) (pv 0) pe_str (pe_ifExp (pt_val (pe_dget (huB hr) (pv 0) pe_str (fun _ _ => rfl))) (pv 1) (pe_df f__law_mixed hr (by omega) gd rfl (fun σ => Gl.no_pass σ) (pa_cons (pe_op op_mod (pe_callTy Rd.cr_int (by rfl) T.int (by decide +kernel) (pa_cons (pv 1) pa_nil)) pe_int) (pa_cons (pe_dget (huB hr) (pv 0) pe_str (fun _ _ => rfl)) pa_nil)))) (by rfl))
    (pss_one (ps_dput (huB hr) (pv 0) pe_str (pe_ifExp (pt_val (pe_dget (huB hr) (pv 0) pe_str (fun _ _ => rfl))) pe_int pe_int) (by rfl)))))))), ?_⟩
  · match ds, h with
    | [.opq a], _ => rfl
  · apply bodyW
    · walk_at "sim"
    intro ds s k x ok h
    match ds, h, ok with
    | [.opq a], ⟨ha, k0⟩, ok =>
    obtain ⟨rfl, h0⟩ := ha
    have cp : CPow 10 18 := ⟨by decide, by decide, by decide⟩
    simp [known6, wfMix, cp]
    by_cases h : s.at_ < s.cells.length
    · rw [if_pos h, atI_nat' h0 h]
      simp only []
      repeat' (first | intro _ | split)
      all_goals exact k0 _ ⟨rfl, show 0 ≤ s.at_ + 1 by omega⟩
    · rw [if_neg h]
      repeat' (first | intro _ | split)
      all_goals exact k0 _ ⟨rfl, show 0 ≤ s.at_ + 1 by omega⟩
theorem ok__law_draw (T : Tx P w K mg) (f__law_mixed : Df P w K mg base 1 "_law_mixed" (spX BW wfMix)) (f__law_refill : Df P w K mg base 2 "_law_refill" (spX BW wfRefill)) {f : Addr} {fd : FuncData} (F : FD K "_law_draw" s__law_draw f fd) : Fn P w K mg base 3 f fd ["box", "menu"] (spX BW wfDraw) := by
  refine fn_data F sc__law_draw (fun ds s k x h => ?_) fun cv A outer s H G hr gd => ⟨_, (pss_cons (ps_if (PW.pt (pw_or (pt_cmpR (kEq (K := K) hr) (pe_dget (huB hr) (pv 0) pe_str (fun _ _ => rfl)) pe_int (nomark _)) (pw_or1 (PW.pt (pw_and (pt_val (pe_dget (huB hr) (pv 0) pe_str (fun _ _ => rfl))) (pw_and1 (pt_cmpR (kEq (K := K) hr) (pe_dget (huB hr) (pv 0) pe_str (fun _ _ => rfl)) pe_int (nomark _)))))))) (pss_one (ps_expr (pe_df f__law_refill hr (by omega) gd rfl (fun σ => Gl.no_pass σ) (pa_cons (pv 0) pa_nil)))) pss_nil)
    (pss_cons (ps_daug (huB hr) (pv 0) pe_str pe_int in_sub (fun _ _ _ => rfl))
    (pss_cons (ps_daug (huB hr) (pv 0) pe_str pe_int in_add (fun _ _ _ => rfl))
    (pss_cons (ps_set (i := 2) sc__law_draw.nd rfl (Or.inl rfl) (pe_callTy Rd.cr_int (by rfl) T.int (by decide +kernel) (pa_cons (pe_dget (huB hr) (pv 0) pe_str (fun _ _ => rfl)) pa_nil)))
    (pss_cons (ps_if (pt_val (pe_dget (huB hr) (pv 0) pe_str (fun _ _ => rfl))) (pss_cons (ps_dput (huB hr) (pv 0) pe_str (pe_op op_divX (pv 2) (pv 1)) (by rfl))
    (pss_one (ps_ret (pe_op op_mod (pe_callTy Rd.cr_int (by rfl) T.int (by decide +kernel) (pa_cons (pv 2) pa_nil)) (pv 1))))) pss_nil)
    (pss_cons (ps_dput (huB hr) (pv 0) pe_str (pe_df f__law_mixed hr (by omega) gd rfl (fun σ => Gl.no_pass σ) (pa_cons (pv 2) (pa_cons (pe_dget (huB hr) (pv 0) pe_str (fun _ _ => rfl)) pa_nil))) (by rfl))
    (pss_one (ps_ret (pe_op op_mod (pe_callTy Rd.cr_int (by rfl) T.int (by decide +kernel) (pa_cons (pe_op op_divX (pv 2) pe_int) pa_nil)) (pv 1)))))))))), ?_⟩
  · match ds, h with
    | [.opq a, .int m], _ => rfl
  · apply bodyW
    · walk_at "sim"
    intro ds s k x ok h
    match ds, h, ok with
    | [.opq a, .int m], ⟨ha, hm, hm2, k0⟩, ok =>
    obtain ⟨rfl, h0⟩ := ha
    have me : m ≠ 0 := by omega
    have cd : ∀ i : Int, CDiv i m ∨ CDivW i m := fun i => .inr (wide_div hm (b := 100) (by
      have : (10 : Int) ^ 30 < 2 ^ 100 := by decide
      omega) (by decide) (by decide))
    have c64 : ∀ i : Int, CDiv i 64 ∨ CDivW i 64 := fun i => .inl ⟨by decide, by decide⟩
    have fin : ∀ (s' : Box) (i : Int), Bo s.a s' → k (.int (i % m)) s' := fun s' i h => k0 s' _ h (Int.emod_nonneg _ me) (Int.emod_lt_of_pos _ hm)
    simp [known6, wfMix, wfRefill, cd, c64, hm]
    repeat' (first | intro _ | split | with_reducible apply And.intro)
    all_goals first
      | rfl
      | exact ⟨rfl, h0⟩
      | exact (‹Bo s.a _› : Bo s.a _).1.symm
      | exact fin _ _ ‹Bo s.a _›
      | exact fin _ _ ⟨rfl, h0⟩
      | trace_state
theorem ok__law_name (T : Tx P w K mg) (f__law_draw : Df P w K mg base 3 "_law_draw" (spX BW wfDraw)) {f : Addr} {fd : FuncData} (F : FD K "_law_name" s__law_name f fd) : Fn P w K mg base 4 f fd ["box"] (spX BW wfName) := by
  refine fn_data F sc__law_name (fun ds s k x h => ?_) fun cv A outer s H G hr gd => ⟨_, (pss_cons (ps_set (i := 1) sc__law_name.nd rfl (Or.inl rfl) (pe_ifExp (pt_cmpR (kEq (K := K) hr) (pe_df f__law_draw hr (by omega) gd rfl (fun σ => Gl.no_pass σ) (pa_cons (pv 0) (pa_cons pe_int pa_nil))) pe_int (nomark _)) (pe_op (kAdd (K := K)) pe_int (pe_df f__law_draw hr (by omega) gd rfl (fun σ => Gl.no_pass σ) (pa_cons (pv 0) (pa_cons pe_int pa_nil)))) pe_int))
    (pss_one (ps_ret (pe_joinD pe_str (pe_lc (own := [("k", 2)]) (g := gName 2) (by rfl) sc__law_name.nd (pi_range1 rfl T.range (pa_cons (pv 1) pa_nil)) (blkOk_by (own := [("k", 2)]) (N := N__law_name) (sc := defScope s__law_name) (by decide +kernel)) (fun _ _ _ _ _ => pg_name (i := 2) sc__law_name.nd rfl (Or.inl rfl)) (fun _ _ _ _ _ => pts_nil) (fun _ _ _ _ _ => (pe_ix (kIx (K := K)) pe_str (pe_df f__law_draw hr (by omega) gd rfl (fun σ => Gl.no_pass σ) (pa_cons (pv 0) (pa_cons pe_int pa_nil))) (fun _ _ => rfl)))))))), ?_⟩
  · match ds, h with
    | [.opq a], _ => rfl
  · apply bodyW
    · walk_at "sim"
    intro ds s k x ok h
    match ds, h, ok with
    | [.opq a], ⟨ha, k0⟩, ok =>
    have go : ∀ (n : Nat) (s' : Box) (v : Int), 1 ≤ n → n ≤ 12 → Bo a s' → wLc (wName 2) (fun _ s k _ => k true s)
        (wOp wIxB (wC (V.str "abcdefghijklmnopqrstuvwxyz")) (wCallN wfDraw (wCons (wVar 0) (wCons (wC (V.int 26)) wNil)))) [2] (rngD 0 n) [.dat (.opq a), .dat (.int v), .no] s'
        (fun ys s2 => ∃ ys_1, D.strs ys = some ys_1 ∧ (List.map (fun x => x.length) ys_1).sum + ys_1.length * (Str.ofString "").length ≤ 16777216 ∧ (Txt.join "" ys_1).length ≤ sizeLine ∧ k (D.str (Txt.join "" ys_1)) s2) x := by
      intro n s' v h1 h2 hb
      refine wLc_dr (Bo a) (fun d => ∃ c, d = .str ⟨#[c]⟩ ∧ low c = true) (fun d hd s hs kt hk => ?_) hb fun s2 ys hs2 hl hy => ?_
      · simp [wfDraw, wp]
        refine ⟨hs, fun s1 i b1 i0 i1 => ?_⟩
        have hl : (i : Int) < (("abcdefghijklmnopqrstuvwxyz" : Str).cps.toList.length : Nat) := i1
        rw [atI_nat' i0 hl]
        exact hk _ _ b1 ⟨_, rfl, by
          unfold low
          exact decide_eq_true (List.getElem_mem _)⟩
      · obtain ⟨cs, rfl, hc⟩ := ones_of hy
        rw [rngD_len, List.length_map] at hl
        refine ⟨_, strs_map _ _, ?_, ?_, ?_⟩
        · rw [List.map_map, show ((fun x : Str => x.length) ∘ fun c : Nat => (⟨#[c]⟩ : Str)) = fun _ => 1 from rfl, List.map_const', List.sum_replicate_nat, show (Str.ofString "").length = 0 from rfl]
          simp
          omega
        · rw [join_ones]
          have : (16 : Nat) ≤ sizeLine := by decide
          show cs.toArray.size ≤ _
          simp
          omega
        · rw [join_ones]
          refine k0 _ _ hs2 ?_
          have : (⟨cs.toArray⟩ : Str).length = cs.length := by show cs.toArray.size = _; simp
          simp [nameOk, this]
          exact ⟨⟨by omega, by omega⟩, hc⟩
    have z16 : (16 : Nat) ≤ sizeLine := by decide
    simp [known6, wfDraw]
    refine ⟨ha, fun s1 i b1 i0 i3 => ?_⟩
    split
    · refine ⟨b1, fun s2 j b2 j0 j3 => ⟨by omega, by omega, by rw [rngD_len]; omega, go _ _ _ (by omega) (by omega) b2⟩⟩
    · exact ⟨by omega, by rw [rngD_len]; omega, go 1 _ 1 (by omega) (by omega) b1⟩
theorem ok__law_lock (T : Tx P w K mg) (f__law_draw : Df P w K mg base 3 "_law_draw" (spX BW wfDraw)) {f : Addr} {fd : FuncData} (F : FD K "_law_lock" s__law_lock f fd) : Fn P w K mg base 4 f fd ["box"] (spX BW wfLock) := by
  refine fn_data F sc__law_lock (fun ds s k x h => ?_) fun cv A outer s H G hr gd => ⟨_, (pss_one (ps_ret (pe_ifExp (pt_cmpR (kEq (K := K) hr) (pe_df f__law_draw hr (by omega) gd rfl (fun σ => Gl.no_pass σ) (pa_cons (pv 0) (pa_cons pe_int pa_nil))) pe_int (nomark _)) (pe_df f__law_draw hr (by omega) gd rfl (fun σ => Gl.no_pass σ) (pa_cons (pv 0) (pa_cons (pe_op op_pow pe_int pe_int) pa_nil))) (pe_df f__law_draw hr (by omega) gd rfl (fun σ => Gl.no_pass σ) (pa_cons (pv 0) (pa_cons pe_int pa_nil)))))), ?_⟩
  · match ds, h with
    | [.opq a], _ => rfl
  · apply bodyW
    · walk_at "sim"
    intro ds s k x ok h
    match ds, h, ok with
    | [.opq a], ⟨ha, k0⟩, ok =>
    have cp : CPow 10 30 := ⟨by decide, by decide, by decide⟩
    simp [known6, wfDraw, cp]
    refine ⟨ha, fun s1 i b1 i0 i9 => ?_⟩
    split
    · exact ⟨b1, fun s2 j b2 j0 j1 => k0 _ _ b2 j0 j1⟩
    · exact ⟨b1, fun s2 j b2 j0 j1 => k0 _ _ b2 j0 (by omega)⟩

end
end Law
set_option Elab.async false
set_option linter.all false
set_option maxRecDepth 100000
set_option maxHeartbeats 8000000
namespace Law
open PySem L2 Gl Dw
local macro_rules | `(tactic| walk_at "sc") => `(tactic| first
  | exact True.intro
  | (show _ ≤ sizeLine; decide +kernel))
local macro_rules | `(tactic| walk_at "sim") => `(tactic| first
  | ((with_reducible apply ss_seq) <;> walk_at "sim")
  | with_reducible exact ss_next
  | with_reducible exact ss_brk
  | with_reducible exact ss_cont
  | with_reducible exact ss_retN
  | ((with_reducible apply ss_ret) <;> walk_at "sim")
  | ((with_reducible apply ss_if) <;> walk_at "sim")
  | ((with_reducible apply ss_asgO); (with_reducible assumption); walk_at "sim")
  | ((with_reducible apply ss_setL) <;> walk_at "sim")
  | ((with_reducible apply ss_pop) <;> walk_at "sim")
  | ((with_reducible apply ss_popAt) <;> walk_at "sim")
  | ((with_reducible apply ss_asg) <;> walk_at "sim")
  | ((with_reducible apply ss_par) <;> walk_at "sim")
  | ((with_reducible apply ss_par3) <;> walk_at "sim")
  | ((with_reducible apply ss_aug) <;> walk_at "sim")
  | ((with_reducible apply ss_app) <;> walk_at "sim")
  | ((with_reducible apply ss_ext) <;> walk_at "sim")
  | ((with_reducible apply ss_drop) <;> walk_at "sim")
  | ((with_reducible apply ss_for) <;> walk_at "sim")
  | ((with_reducible apply ss_while) <;> walk_at "sim")
  | with_reducible exact tg_name
  | ((with_reducible apply tg_tup) <;> walk_at "sim")
  | ((with_reducible apply tgs_cons) <;> walk_at "sim")
  | with_reducible exact tgs_nil
  | with_reducible exact sim_bgetE
  | ((with_reducible apply sim_tupRev) <;> walk_at "sim")
  | with_reducible exact sim_bget
  | ((with_reducible apply ss_bput) <;> walk_at "sim")
  | ((with_reducible apply ss_baug) <;> walk_at "sim")
  | with_reducible exact so_ixB
  | with_reducible exact sc_lenB
  | with_reducible exact so_radd
  | with_reducible exact so_rsub
  | with_reducible exact sim_var
  | with_reducible exact sim_varG
  | with_reducible exact sim_nil
  | with_reducible exact sim_nilB
  | ((with_reducible apply sim_cons) <;> walk_at "sim")
  | ((with_reducible apply sim_consB) <;> walk_at "sim")
  | ((with_reducible apply sim_c); walk_at "sc")
  | ((with_reducible apply sim_op) <;> walk_at "sim")
  | ((with_reducible apply sim_un) <;> walk_at "sim")
  | ((with_reducible apply sim_cb) <;> walk_at "sim")
  | ((with_reducible apply sim_tup) <;> walk_at "sim")
  | ((with_reducible apply sim_lst) <;> walk_at "sim")
  | ((with_reducible apply sim_lstF) <;> walk_at "sim")
  | ((with_reducible apply sim_callN) <;> walk_at "sim")
  | ((with_reducible apply sim_call) <;> walk_at "sim")
  | ((with_reducible apply sim_sl) <;> walk_at "sim")
  | with_reducible exact sp_no
  | ((with_reducible apply sp_part) <;> walk_at "sim")
  | ((with_reducible apply sim_test) <;> walk_at "sim")
  | ((with_reducible apply sim_tB) <;> walk_at "sim")
  | ((with_reducible apply sim_and) <;> walk_at "sim")
  | ((with_reducible apply sim_or) <;> walk_at "sim")
  | ((with_reducible apply sim_not) <;> walk_at "sim")
  | with_reducible exact sim_yes
  | ((with_reducible apply sim_andV) <;> walk_at "sim")
  | ((with_reducible apply sim_orV) <;> walk_at "sim")
  | ((with_reducible apply sim_notV) <;> walk_at "sim")
  | ((with_reducible apply sim_if) <;> walk_at "sim")
  | ((with_reducible apply sim_chain) <;> walk_at "sim")
  | ((with_reducible apply sim_lcF) <;> walk_at "sim")
  | ((with_reducible apply sim_lcE) <;> walk_at "sim")
  | ((with_reducible apply sim_lstRgF) <;> walk_at "sim")
  | ((with_reducible apply sim_lstRg) <;> walk_at "sim")
  | ((with_reducible apply sim_tupRg) <;> walk_at "sim")
  | ((with_reducible apply sim_rg1) <;> walk_at "sim")
  | ((with_reducible apply sim_rg2) <;> walk_at "sim")
  | ((with_reducible apply sim_listF) <;> walk_at "sim")
  | ((with_reducible apply sim_addF) <;> walk_at "sim")
  | ((with_reducible apply sim_join) <;> walk_at "sim")
  | ((with_reducible apply sim_lenSetS) <;> walk_at "sim")
  | ((with_reducible apply sim_fld) <;> walk_at "sim")
  | ((with_reducible apply si_x) <;> walk_at "sim")
  | ((with_reducible apply si_tup) <;> walk_at "sim")
  | ((with_reducible apply si_list) <;> walk_at "sim")
  | ((with_reducible apply si_str) <;> walk_at "sim")
  | ((with_reducible apply si_rng1) <;> walk_at "sim")
  | ((with_reducible apply si_rng2) <;> walk_at "sim")
  | ((with_reducible apply si_enum) <;> walk_at "sim")
  | ((with_reducible apply si_zip) <;> walk_at "sim")
  | with_reducible exact so_addX
  | with_reducible exact so_mulX
  | with_reducible exact so_divX
  | with_reducible exact so_eqX
  | with_reducible exact so_neX
  | with_reducible exact so_inX
  | with_reducible exact so_notInX
  | with_reducible exact so_ltX
  | with_reducible exact so_gtX
  | with_reducible exact so_geX
  | with_reducible exact so_leX
  | ((with_reducible apply so_i0s); (intros; exact True.intro))
  | ((with_reducible apply so_iCs); (intros; exact True.intro))
  | ((with_reducible apply su_is); (intros; exact True.intro))
  | with_reducible exact so_eq
  | with_reducible exact so_ne
  | with_reducible exact so_isN
  | with_reducible exact so_notN
  | with_reducible exact so_isB
  | with_reducible exact so_notB
  | with_reducible exact so_ixL
  | with_reducible exact so_ixT
  | with_reducible exact so_ixS
  | with_reducible exact so_ix
  | with_reducible exact so_in
  | with_reducible exact so_str
  | with_reducible exact so_inS
  | with_reducible exact so_notInS
  | with_reducible exact so_catT
  | with_reducible exact so_catL
  | with_reducible exact so_addS
  | with_reducible exact so_mulS
  | with_reducible exact so_repT
  | with_reducible exact so_eqD
  | with_reducible exact so_neD
  | with_reducible exact so_inD
  | with_reducible exact so_notInD
  | with_reducible exact so_leT
  | with_reducible exact sc_len
  | with_reducible exact sc_int
  | with_reducible exact sc_abs
  | with_reducible exact sc_str
  | with_reducible exact sc_mm
  | with_reducible exact sc_list
  | with_reducible exact sc_tuple
  | with_reducible exact sc_sum
  | with_reducible exact sc_all
  | with_reducible exact sc_any
  | with_reducible exact sc_isi
  | with_reducible exact sc_isiT
  | with_reducible exact sc_repr
  | with_reducible exact sl_x
  | with_reducible exact sl_t
  | with_reducible exact sl_l
  | with_reducible exact sl_s
  | ((with_reducible apply SimE.g); walk_at "sim")
  | (intros; decide)
  | skip)

/-- a good tree's parts -/
def wfTree : WF Box := fun ds s k _ => match ds with
  | [.opq a, .int most] => Bo a s ∧ 0 ≤ most ∧ most ≤ 8 ∧ ∀ s' (h : Nat) (ls ns : List D), Bo a s' → h ≤ 8 → leavesOk h (.tup ls) = true → Lq 300 1 256 ls → nodesOk h ls (.tup ns) = true → Lq 33000 3 255 ns → k (.lst [.int h, .tup ls, .tup ns]) s'
  | _ => False
abbrev s__law_tree : Stmt := top 40
abbrev N__law_tree : List Str := ["box", "most", "height", "leaves", "names", "leaf", "name", "nodes", "many", "level", "index", "beneath", "aside"]
theorem sc__law_tree : FnScope N__law_tree ["box", "most"] (defScope s__law_tree) := ⟨rfl, rfl, rfl, by decide +kernel, rfl, by decide +kernel, by decide +kernel⟩
def lst2 : Int → Int → List D → Int × Int
  | a, b, [] => (a, b)
  | _, _, .tup [.tup [.int l, .int i], _, _] :: r => lst2 l i r
  | a, b, _ :: r => lst2 a b r
theorem nds_inv {h : Nat} {ls : List D} {a b : Int} {n : D} {r : List D} (e : nds h ls a b (n :: r) = true) : ∃ l i lk v, n = .tup [.tup [.int l, .int i], lk, v] ∧ (nodeB h (.tup [.int l, .int i]) && !leP [l, i] [a, b] && lockOk lk && asideOk l i ls v) = true ∧ nds h ls l i r = true := by
  unfold nds at e
  split at e
  · cases ‹n :: r = []›
  · next q =>
    cases q
    rw [Bool.and_eq_true] at e
    exact ⟨_, _, _, _, rfl, e.1, e.2⟩
  · cases e
theorem nds_snoc {h : Nat} {ls : List D} {l i : Int} {lk v : D} (g1 : nodeB h (.tup [.int l, .int i]) = true) (g2 : lockOk lk = true) (g3 : asideOk l i ls v = true) : ∀ (ns : List D) (a b : Int), nds h ls a b ns = true →
    leP [l, i] [(lst2 a b ns).1, (lst2 a b ns).2] = false → nds h ls a b (ns ++ [.tup [.tup [.int l, .int i], lk, v]]) = true ∧ lst2 a b (ns ++ [.tup [.tup [.int l, .int i], lk, v]]) = (l, i)
  | [], a, b, _, hl => by
    have hl' : leP [l, i] [a, b] = false := hl
    exact ⟨by simp [nds, g1, g2, g3, hl'], rfl⟩
  | n :: r, a, b, hn, hl => by
    obtain ⟨l2, i2, lk2, v2, rfl, c, t⟩ := nds_inv hn
    obtain ⟨h1, h2⟩ := nds_snoc g1 g2 g3 r l2 i2 t hl
    exact ⟨by show (nodeB h _ && !leP _ _ && lockOk lk2 && asideOk l2 i2 ls v2 && nds h ls l2 i2 (r ++ _)) = true; rw [h1, c]; rfl, h2⟩
theorem rngD_cons (a : Int) (n : Nat) : rngD a (n + 1) = .int a :: rngD (a + 1) n := by
  rw [rngD_eq, rngD_eq, List.range_succ_eq_map, List.map_cons, List.map_map]
  congr 1
  · simp
  · refine List.map_congr_left fun x _ => ?_
    simp
    omega
theorem sub_ints : ∀ {ns : List Int} {ys : List D}, Sub (fun d y => y = d) (ns.map D.int) ys → ∃ ms : List Int, ys = ms.map D.int ∧ ms.Sublist ns
  | [], _, h => by
    cases h
    exact ⟨[], rfl, .slnil⟩
  | n :: r, ys, h => by
    rw [List.map_cons] at h
    cases h with
    | skip t =>
      obtain ⟨ms, e, s⟩ := sub_ints t
      exact ⟨ms, e, s.cons _⟩
    | take p t =>
      obtain ⟨ms, e, s⟩ := sub_ints t
      exact ⟨n :: ms, by rw [p, e]; rfl, s.cons₂ _⟩
theorem chain_of : ∀ {ns : List Int} {a : Int}, (∀ n ∈ ns, a < n) → ns.Pairwise (· < ·) → chain a ns = true
  | [], _, _, _ => rfl
  | n :: r, a, h, p => by
    rw [List.pairwise_cons] at p
    simp only [chain, Bool.and_eq_true, decide_eq_true_eq]
    exact ⟨h n (by simp), chain_of p.1 p.2⟩
theorem aside_of {l i : Int} {ls ys : List D} (i0 : 0 ≤ i) (h : Sub (fun d y => y = d) ((ben l i).filter fun d => match d with | .int n => seen ls n | _ => false) ys) : asideOk l i ls (.tup ys) = true ∧ (∀ y ∈ ys, ∃ n : Int, y = .int n ∧ inD (.int n) (ben l i) = true) ∧ ys.length ≤ 2 ^ l.toNat := by
  have eb : ben l i = ((List.range (2 ^ l.toNat)).map fun j => i * 2 ^ l.toNat + (j : Nat)).map D.int := rngD_map _ _
  have ef : (ben l i).filter (fun d => match d with | .int n => seen ls n | _ => false) = (((List.range (2 ^ l.toNat)).map fun j => i * 2 ^ l.toNat + ((j : Nat) : Int)).filter (seen ls)).map D.int := by
    rw [eb, List.filter_map]
    rfl
  rw [ef] at h
  obtain ⟨ms, rfl, s⟩ := sub_ints h
  have s2 := s.trans List.filter_sublist
  have pw : ms.Pairwise (· < ·) := by
    refine List.Pairwise.sublist s2 ?_
    rw [List.pairwise_map]
    exact List.Pairwise.imp (fun h => by omega) List.pairwise_lt_range
  have inb : ∀ n ∈ ms, inD (.int n) (ben l i) = true ∧ seen ls n = true := fun n hn => by
    have h1 := s.subset hn
    rw [List.mem_filter] at h1
    refine ⟨?_, h1.2⟩
    obtain ⟨j, hj, rfl⟩ := List.mem_map.mp h1.1
    rw [List.mem_range] at hj
    unfold ben
    rw [inD_rng, Bool.and_eq_true]
    exact ⟨decide_eq_true (by omega), decide_eq_true (by omega)⟩
  refine ⟨?_, fun y hy => ?_, ?_⟩
  · show asd l i ls (-1) (ms.map D.int) = true
    rw [asd_split, Bool.and_eq_true]
    refine ⟨chain_of (fun n hn => ?_) pw, ?_⟩
    · have := (ben_in (inb n hn).1 i0).2.2
      omega
    · rw [List.all_eq_true]
      intro n hn
      rw [(inb n hn).1, (inb n hn).2]
      rfl
  · obtain ⟨n, hn, rfl⟩ := List.mem_map.mp hy
    exact ⟨n, rfl, (inb n hn).1⟩
  · have := s2.length_le
    simpa using this
theorem name_pq {z : Str} (h : nameOk (.str z) = true) : Pq 123 0 (.str z) := by
  simp only [nameOk, Bool.and_eq_true, decide_eq_true_eq, List.all_eq_true] at h
  refine Pq.str (fun c hc => ?_) (l := 12) (by omega)
  have h1 := h.2 c hc
  unfold low at h1
  have h2 : ∀ c ∈ abc.cps.toList, c < 0x110000 := by decide
  exact h2 c (by simpa using h1)
section
variable {P : Program} {w : World} {K : PySem.W.Frag} {mg : Str → Option Value} {base : Heap}
theorem ok__law_tree (T : Tx P w K mg) (f__law_beneath : Df P w K mg base 1 "_law_beneath" (spX BW wfBen)) (f__law_draw : Df P w K mg base 3 "_law_draw" (spX BW wfDraw)) (f__law_name : Df P w K mg base 4 "_law_name" (spX BW wfName)) (f__law_lock : Df P w K mg base 4 "_law_lock" (spX BW wfLock)) {f : Addr} {fd : FuncData} (F : FD K "_law_tree" s__law_tree f fd) : Fn P w K mg base 5 f fd ["box", "most"] (spX BW wfTree) := by
  refine fn_data F sc__law_tree (fun ds s k x h => ?_) fun cv A outer s H G hr gd => ⟨_, (pss_cons (ps_set (i := 2) sc__law_tree.nd rfl (Or.inl rfl) (pe_df f__law_draw hr (by omega) gd rfl (fun σ => Gl.no_pass σ) (pa_cons (pv 0) (pa_cons (pe_op (kAdd (K := K)) (pv 1) pe_int) pa_nil))))
    (pss_cons (ps_set (i := 3) sc__law_tree.nd rfl (Or.inr rfl) (pe_lst pa_nil))
    (pss_cons (ps_set (i := 4) sc__law_tree.nd rfl (Or.inl rfl) (pe_lst pa_nil))
    (pss_cons (ps_for (passes_of rfl) rfl (kpi (K := K) (pe_df f__law_beneath hr (by omega) gd rfl (fun σ => Gl.no_pass σ) (pa_cons (pe_tup (pa_cons (pv 2) (pa_cons pe_int pa_nil))) pa_nil))) (pg_name (i := 5) sc__law_tree.nd rfl (Or.inl rfl))
      (pss_cons (ps_set (i := 6) sc__law_tree.nd rfl (Or.inl rfl) (pe_df f__law_name hr (by omega) gd rfl (fun σ => Gl.no_pass σ) (pa_cons (pv 0) pa_nil)))
    (pss_one (ps_if (PW.pt (pw_and (pt_cmpR op_gtX (pe_df f__law_draw hr (by omega) gd rfl (fun σ => Gl.no_pass σ) (pa_cons (pv 0) (pa_cons pe_int pa_nil))) pe_int (nomark _)) (pw_and1 (pt_cmpR (kNotIn (K := K) hr) (pv 6) (pv 4) rfl)))) (pss_cons (ps_expr (pe_bm PySem.F.plainAttrs_list PySem.F.slot_list_append PySem.F.type_list_append mt_append (pv 4) (pa_cons (pv 6) pa_nil)))
    (pss_one (ps_expr (pe_bm PySem.F.plainAttrs_list PySem.F.slot_list_append PySem.F.type_list_append mt_append (pv 3) (pa_cons (pe_tup (pa_cons (pv 6) (pa_cons (pe_df f__law_lock hr (by omega) gd rfl (fun σ => Gl.no_pass σ) (pa_cons (pv 0) pa_nil)) pa_nil))) pa_nil))))) (pss_one (ps_expr (pe_bm PySem.F.plainAttrs_list PySem.F.slot_list_append PySem.F.type_list_append mt_append (pv 3) (pa_cons pe_non pa_nil))))))))
    (pss_cons (ps_set (i := 7) sc__law_tree.nd rfl (Or.inl rfl) (pe_lst pa_nil))
    (pss_cons (ps_set (i := 8) sc__law_tree.nd rfl (Or.inl rfl) (pe_callB (kLen (K := K)) (by rfl) T.len (by decide +kernel) (pa_cons (pv 3) pa_nil)))
    (pss_cons (ps_for (passes_of rfl) rfl (pi_range2 rfl T.range (pa_cons pe_int (pa_cons (pe_op (kAdd (K := K)) (pv 2) pe_int) pa_nil))) (pg_name (i := 9) sc__law_tree.nd rfl (Or.inl rfl))
      (pss_cons (ps_set (i := 8) sc__law_tree.nd rfl (Or.inl rfl) (pe_op op_divX (pv 8) pe_int))
    (pss_one (ps_for (passes_of rfl) rfl (pi_range1 rfl T.range (pa_cons (pv 8) pa_nil)) (pg_name (i := 10) sc__law_tree.nd rfl (Or.inl rfl))
      (pss_one (ps_if (pt_cmpR (kEq (K := K) hr) (pe_df f__law_draw hr (by omega) gd rfl (fun σ => Gl.no_pass σ) (pa_cons (pv 0) (pa_cons pe_int pa_nil))) pe_int (nomark _)) (pss_cons (ps_setLc (i := 11) (y := "beneath") (own := [("leaf", 5)]) (g := gName 5) (by rfl) sc__law_tree.nd rfl rfl (sw_true rfl rfl rfl (by decide +kernel)) (kpi (K := K) (pe_df f__law_beneath hr (by omega) gd rfl (fun σ => Gl.no_pass σ) (pa_cons (pe_tup (pa_cons (pv 9) (pa_cons (pv 10) pa_nil))) pa_nil))) (blkOk_by (own := [("leaf", 5)]) (N := N__law_tree) (sc := defScope s__law_tree) (by decide +kernel)) (fun _ _ _ _ _ => pg_name (i := 5) sc__law_tree.nd rfl (Or.inl rfl)) (fun _ _ _ _ _ => (pts_one (pt_cmpR op_notN1 (pe_ix (kIx (K := K)) (pv 3) (pv 5) (fun _ _ => rfl)) pe_non (nomark _)))) (fun _ _ _ _ _ => (pv 5)))
    (pss_cons (ps_set (i := 12) sc__law_tree.nd rfl (Or.inl rfl) (pe_callTy (kTuple (K := K)) (by rfl) T.tuple (by decide +kernel) (pa_cons (pe_lc (own := [("leaf", 5)]) (g := gName 5) (by rfl) sc__law_tree.nd (kpi (K := K) (pv 11)) (blkOk_by (own := [("leaf", 5)]) (N := N__law_tree) (sc := defScope s__law_tree) (by decide +kernel)) (fun _ _ _ _ _ => pg_name (i := 5) sc__law_tree.nd rfl (Or.inl rfl)) (fun _ _ _ _ _ => (pts_one (pt_cmpR (kEq (K := K) hr) (pe_df f__law_draw hr (by omega) gd rfl (fun σ => Gl.no_pass σ) (pa_cons (pv 0) (pa_cons pe_int pa_nil))) pe_int (nomark _)))) (fun _ _ _ _ _ => (pv 5))) pa_nil)))
    (pss_one (ps_expr (pe_bm PySem.F.plainAttrs_list PySem.F.slot_list_append PySem.F.type_list_append mt_append (pv 7) (pa_cons (pe_tup (pa_cons (pe_tup (pa_cons (pv 9) (pa_cons (pv 10) pa_nil))) (pa_cons (pe_df f__law_lock hr (by omega) gd rfl (fun σ => Gl.no_pass σ) (pa_cons (pv 0) pa_nil)) (pa_cons (pv 12) pa_nil)))) pa_nil)))))) pss_nil))))))
    (pss_one (ps_ret (pe_lst (pa_cons (pv 2) (pa_cons (pe_callTy (kTuple (K := K)) (by rfl) T.tuple (by decide +kernel) (pa_cons (pv 3) pa_nil)) (pa_cons (pe_callTy (kTuple (K := K)) (by rfl) T.tuple (by decide +kernel) (pa_cons (pv 7) pa_nil)) pa_nil))))))))))))), ?_⟩
  · match ds, h with
    | [.opq a, .int most], _ => rfl
  · 
    have ow3 : OwnSl 3 := ⟨⟩
    have ow4 : OwnSl 4 := ⟨⟩
    have ow7 : OwnSl 7 := ⟨⟩
    apply bodyW
    · walk_at "sim"
    intro ds s k x ok h
    match ds, h, ok with
    | [.opq a, .int most], ⟨ha, m0, m8, k0⟩, ok =>
    simp [known6, wfDraw, wfBen, wfName, wfLock]
    refine ⟨ha, by omega, by omega, fun s1 i b1 i0 i1 => ⟨by decide, i0, by omega, ?_⟩⟩
    obtain ⟨h, rfl⟩ := Int.eq_ofNat_of_zero_le i0
    have h8 : h ≤ 8 := by omega
    have h28 : 2 ^ h ≤ 256 := Nat.pow_le_pow_right (by decide : 0 < 2) h8
    have bl : (ben h 0).length = 2 ^ h := by simp [ben, rngD_len]
    refine wFor_ind (fun r env s' => ∃ (ls : List D) (acc : List Str) (v5 v6 : Sl), Bo a s' ∧ env = [.dat (.opq a), .dat (.int most), .dat (.int h), .own ls, .own (acc.map fun y => .str y), v5, v6, .no, .no, .no, .no, .no, .no] ∧ ls.length + r.length = 2 ^ h ∧
      ls.all leafOk = true ∧ ls.filterMap nm = acc ∧ acc.Nodup ∧ Lq 300 1 256 ls ∧ acc.length ≤ ls.length) ⟨[], [], .no, .no, b1, rfl, by simp [bl], rfl, rfl, by simp, ⟨by simp, by simp⟩, by simp⟩ (fun env s2 hp => ?_) fun d r ih env s2 hp => ?_
    · obtain ⟨ls, acc, v5, v6, b2, rfl, hl, hlo, hnm, hnd, hlq, hac⟩ := hp
      simp at hl
      simp
      refine ⟨by rw [sizeLine_eq]; omega, ⟨by omega, by omega⟩, ?_⟩
      refine wFor_ind (fun r env s' => ∃ (t : Nat) (ns : List D) (v9 v10 v11 v12 : Sl), Bo a s' ∧ t ≤ h ∧ r = rngD ((t : Int) + 1) (h - t) ∧ env = [.dat (.opq a), .dat (.int most), .dat (.int h), .own ls, .own (acc.map fun y => .str y), v5, v6, .own ns, .dat (.int ((2 ^ (h - t) : Nat) : Int)), v9, v10, v11, v12] ∧
        nds h ls 0 0 ns = true ∧ (lst2 0 0 ns).1 ≤ t ∧ Lq 33000 3 255 ns ∧ ns.length + 2 ^ (h - t) ≤ 2 ^ h) ⟨0, [], .no, .no, .no, .no, b2, by omega, rfl, by rw [hl]; rfl, rfl, Int.le_refl _, (Lq.nil (n := 33000) (k := 3)).mono (Nat.le_refl _) (Nat.le_refl _) (by decide), by simp⟩ (fun env s3 hp => ?_) fun d r ih env s3 hp => ?_
      · obtain ⟨t, ns, v9, v10, v11, v12, b3, th, e0, rfl, hn, h2, hq, _⟩ := hp
        simp [Sl.frz]
        exact ⟨by decide, k0 s3 h ls ns b3 h8 (by simp only [leavesOk, hl, hlo, hnm, hnd]; simp) hlq hn hq⟩
      · obtain ⟨t, ns, v9, v10, v11, v12, b3, th, e0, rfl, hn, h2, hq, hc⟩ := hp
        obtain ⟨u, hu⟩ : ∃ u, h - t = u + 1 := by
          cases e : h - t with
          | zero => rw [e] at e0; simp [rngD] at e0
          | succ u => exact ⟨u, rfl⟩
        rw [hu, rngD_cons] at e0
        obtain ⟨rfl, rfl⟩ := List.cons.inj e0
        simp [hu]
        have eh : h = t + 1 + u := by omega
        have e2 : (2 : Int) ^ (u + 1) / 2 = 2 ^ u := by rw [Int.pow_succ]; omega
        have e3 : ((2 : Int) ^ u).toNat = 2 ^ u := by
          have : ((2 : Int) ^ u) = ((2 ^ u : Nat) : Int) := by simp
          rw [this]; rfl
        have u8 : 2 ^ u ≤ 256 := Nat.le_trans (Nat.pow_le_pow_right (by decide : 0 < 2) (by omega : u ≤ h)) h28
        have u8' : (2 : Int) ^ u ≤ 256 := by exact_mod_cast u8
        have up : (0 : Int) < 2 ^ u := by exact_mod_cast Nat.two_pow_pos u
        rw [e2, e3]
        rw [hu] at hc
        have hc2 : ns.length + 2 ^ u + 2 ^ u ≤ 2 ^ h := by rw [Nat.pow_succ] at hc; omega
        refine ⟨.inl ⟨by decide, by decide⟩, by rw [sizeLine_eq]; omega, by omega, ?_⟩
        refine wFor_ind (fun r env s' => ∃ (j : Nat) (ns : List D) (v10 v11 v12 : Sl), Bo a s' ∧ j ≤ 2 ^ u ∧ r = rngD (j : Int) (2 ^ u - j) ∧ env = [.dat (.opq a), .dat (.int most), .dat (.int h), .own ls, .own (acc.map fun y => .str y), v5, v6, .own ns, .dat (.int (2 ^ u)), .dat (.int (t + 1)), v10, v11, v12] ∧
          nds h ls 0 0 ns = true ∧ ((lst2 0 0 ns).1 < t + 1 ∨ ((lst2 0 0 ns).1 = t + 1 ∧ (lst2 0 0 ns).2 < j)) ∧ Lq 33000 3 255 ns ∧ ns.length + (2 ^ u - j) + 2 ^ u ≤ 2 ^ h) ⟨0, ns, _, _, _, b3, by omega, rfl, rfl, hn, .inl (by omega), hq, by omega⟩ (fun env s4 hp => ?_) fun d r ih2 env s4 hp => ?_
        · obtain ⟨j, ns, v10, v11, v12, b4, ju, e0, rfl, hn, h2, hq, hc⟩ := hp
          simp
          refine ih _ s4 ⟨t + 1, ns, .dat (.int (t + 1)), v10, v11, v12, b4, by omega, ?_, ?_, hn, ?_, hq, ?_⟩
          · rw [show h - (t + 1) = u by omega]; rfl
          · rw [show h - (t + 1) = u by omega]; simp
          · omega
          · rw [show h - (t + 1) = u by omega]; omega
        · obtain ⟨j, ns, v10, v11, v12, b4, ju, e0, rfl, hn, h2, hq, hc⟩ := hp
          obtain ⟨v, hv⟩ : ∃ v, 2 ^ u - j = v + 1 := by
            cases e : 2 ^ u - j with
            | zero => rw [e] at e0; simp [rngD] at e0
            | succ v => exact ⟨v, rfl⟩
          rw [hv, rngD_cons] at e0
          obtain ⟨rfl, rfl⟩ := List.cons.inj e0
          simp [known6, wfDraw, wfBen, wfLock]
          refine ⟨b4, fun s5 i b5 ii0 ii2 => ?_⟩
          have tn : ((t : Int) + 1).toNat = t + 1 := by omega
          have lb : (ben ((t : Int) + 1) (j : Int)).length ≤ 256 := by
            unfold ben
            rw [rngD_len, tn]
            exact Nat.le_trans (Nat.pow_le_pow_right (by decide : 0 < 2) (by omega)) h28
          have z16 : 1000 < sizeLine := by decide
          have nl : ns.length < 256 := by omega
          split
          · have inl : ∀ n : Int, inD (.int n) (ben ((t : Int) + 1) (j : Int)) = true → 0 ≤ n ∧ n < ls.length := fun n hn => by
              obtain ⟨q1, q2, q3⟩ := ben_in hn (by omega)
              refine ⟨q3, Int.lt_of_lt_of_le q2 ?_⟩
              rw [hl, tn, eh, Nat.pow_add]
              have : ((j : Int) + 1) ≤ 2 ^ u := by
                have : ((2 ^ u : Nat) : Int) = 2 ^ u := by simp
                omega
              have := Int.mul_le_mul_of_nonneg_right this (Int.pow_nonneg (n := 2) (m := t + 1) (by decide))
              rw [Int.mul_comm (2 ^ u)] at this
              exact_mod_cast this
            refine ⟨by decide, by omega, by omega, by omega, by omega, ?_⟩
            refine wLc_pure (fun d => match d with | .int n => seen ls n | _ => false) id (fun d hd kt kf h1 h2 => ?_) ?_
            · obtain ⟨n, rfl, hin⟩ : ∃ n : Int, d = .int n ∧ inD (.int n) (ben ((t : Int) + 1) (j : Int)) = true := by
                unfold ben at hd ⊢
                rw [rngD_eq] at hd
                obtain ⟨y, hy, rfl⟩ := List.mem_map.mp hd
                rw [List.mem_range] at hy
                refine ⟨_, rfl, ?_⟩
                rw [inD_rng, Bool.and_eq_true]
                exact ⟨decide_eq_true (by omega), decide_eq_true (by omega)⟩
              obtain ⟨n0, n1⟩ := inl n hin
              simp [wp]
              simp only [seen, atI_nat' n0 n1] at h1 h2 ⊢
              cases he : ls[n.toNat]'(by omega) <;> simp [he] at h1 h2 ⊢ <;> assumption
            · rw [List.map_id]
              have fl := List.length_filter_le (fun d => match d with | .int n => seen ls n | _ => false) (ben ((t : Int) + 1) (j : Int))
              refine ⟨by omega, wLc_st (Bo a) (fun d y => y = d) (fun d hd s bs kt kf h1 h2 => ?_) b5 fun s6 ys b6 hsub => ?_⟩
              · simp [wp, wfDraw]
                refine ⟨bs, fun s6 e b6 _ _ => ?_⟩
                split
                · exact h1 _ _ b6 rfl
                · exact h2 _ b6
              · obtain ⟨as1, as2, as3⟩ := aside_of (by omega) hsub
                have yl : ys.length ≤ 256 := by
                  rw [tn] at as3
                  exact Nat.le_trans as3 (Nat.le_trans (Nat.pow_le_pow_right (by decide : 0 < 2) (by omega)) h28)
                have nb : nodeB h (.tup [.int ((t : Int) + 1), .int (j : Int)]) = true := by
                  have e4 : h - (t + 1) = u := by omega
                  have e5 : ((2 ^ u : Nat) : Int) = 2 ^ u := by simp
                  simp only [nodeB, isIn, tn, e4, Bool.and_eq_true, decide_eq_true_eq]
                  exact ⟨⟨by omega, by omega⟩, by omega, by omega⟩
                have lep : leP [(t : Int) + 1, (j : Int)] [(lst2 0 0 ns).1, (lst2 0 0 ns).2] = false := by
                  rw [leP2, decide_eq_false_iff_not]
                  omega
                have sn := fun (q : Int) (q0 : 0 ≤ q) => nds_snoc (lk := .int q) nb (by simp [lockOk, q0]) as1 ns 0 0 hn lep
                refine ⟨by decide, b6, fun s7 q b7 q0 q1 => ⟨by decide, by omega, ih2 _ s7 ⟨j + 1, ns ++ [.tup [.tup [.int (t + 1), .int j], .int q, .tup ys]], .dat (.int j), _, .dat (.tup ys), b7, by omega, ?_, rfl, ?_, ?_, ?_, ?_⟩⟩⟩
                · rw [show 2 ^ u - (j + 1) = v by omega]
                  rfl
                · exact (sn q q0).1
                · rw [(sn q q0).2]
                  exact .inr ⟨rfl, by simp; omega⟩
                · refine ⟨by simp; omega, fun d hd => ?_⟩
                  rcases List.mem_append.mp hd with hd | hd
                  · exact hq.2 d hd
                  · rw [List.mem_singleton] at hd
                    rw [hd]
                    have p1 : Pq 40 0 (.int ((t : Int) + 1)) := Pq.int ⟨by omega, by omega⟩
                    have p2 : Pq 40 0 (.int (j : Int)) := Pq.int ⟨by omega, by omega⟩
                    have p3 : Pq 40 0 (.int q) := Pq.int ⟨by omega, by omega⟩
                    have p4 : Lq 40 0 256 ys := ⟨yl, fun y hy => by
                      obtain ⟨n, rfl, hin⟩ := as2 y hy
                      have := inl n hin
                      exact Pq.int ⟨by omega, by omega⟩⟩
                    have p5 := ((Lq.nil.cons p2).cons p1).tup
                    exact (((Lq.nil.cons (p4.tup.mono (Nat.le_refl _) (Nat.le_refl _))).cons (p3.mono (by decide) (by decide))).cons (p5.mono (by decide) (by decide))).tup.mono (by decide) (by decide)
                · simp
                  omega
          · refine ih2 _ s5 ⟨j + 1, ns, .dat (.int j), v11, v12, b5, by omega, ?_, rfl, hn, by omega, hq, by omega⟩
            rw [show 2 ^ u - (j + 1) = v by omega]
            rfl
    · obtain ⟨ls, acc, v5, v6, b2, rfl, hl, hlo, hnm, hnd, hlq, hac⟩ := hp
      simp at hl
      have lqs : ∀ {e : D}, Pq 300 1 e → Lq 300 1 256 (ls ++ [e]) := fun h => ⟨by simp; omega, fun d hd => by
        rcases List.mem_append.mp hd with q | q
        · exact hlq.2 d q
        · rw [List.mem_singleton] at q; rw [q]; exact h⟩
      have z16 : (256 : Nat) < sizeLine := by decide
      simp [known6, wfDraw, wfBen, wfName, wfLock]
      refine ⟨b2, fun s3 z b3 hz => ⟨b3, fun s4 j b4 j0 j3 => ?_⟩⟩
      have blank := fun s5 (b5 : Bo a s5) => ih _ s5 ⟨ls ++ [.non], acc, .dat d, .dat (.str z), b5, rfl, by simp; omega, by rw [List.all_append, hlo]; rfl, by simp [nm, hnm], hnd, lqs (Pq.non.mono (by decide) (by decide)), by simp; omega⟩
      rw [if_pos (flatIn_strs z acc), inD_strs]
      by_cases hj : 0 < j
      · rw [if_pos hj]
        by_cases hx : z ∈ acc
        · rw [if_pos (decide_eq_true hx)]
          exact ⟨by omega, blank s4 b4⟩
        · rw [if_neg (by simpa using hx)]
          refine ⟨by omega, b4, fun s5 q b5 q0 q1 => ⟨by decide, by omega, ih _ s5 ⟨ls ++ [.tup [.str z, .int q]], acc ++ [z], .dat d, .dat (.str z), b5, by simp, by simp; omega, ?_, ?_, ?_, lqs ?_, by simp; omega⟩⟩⟩
          · rw [List.all_append, hlo]
            simp [leafOk, memberOk, hz, lockOk, q0]
          · simp [nm, hnm]
          · rw [List.nodup_append]
            exact ⟨hnd, by simp, fun u hu v hv e => by rw [List.mem_singleton] at hv; rw [e, hv] at hu; exact hx hu⟩
          · exact ((Lq.nil.cons ((Pq.int (i := q) ⟨by omega, by omega⟩).mono (by decide) (Nat.le_refl _))).cons (name_pq hz)).tup.mono (by decide) (by decide)
      · rw [if_neg hj]
        exact ⟨by omega, blank s4 b4⟩
end
end Law
set_option Elab.async false
set_option linter.all false
set_option maxRecDepth 100000
set_option maxHeartbeats 8000000
namespace Law
open PySem L2 Gl Dw
local macro_rules | `(tactic| walk_at "sc") => `(tactic| first
  | exact True.intro
  | (show _ ≤ sizeLine; decide +kernel))
local macro_rules | `(tactic| walk_at "sim") => `(tactic| first
  | ((with_reducible apply ss_seq) <;> walk_at "sim")
  | with_reducible exact ss_next
  | with_reducible exact ss_brk
  | with_reducible exact ss_cont
  | with_reducible exact ss_retN
  | ((with_reducible apply ss_ret) <;> walk_at "sim")
  | ((with_reducible apply ss_if) <;> walk_at "sim")
  | ((with_reducible apply ss_asgO); (with_reducible assumption); walk_at "sim")
  | ((with_reducible apply ss_setL) <;> walk_at "sim")
  | ((with_reducible apply ss_pop) <;> walk_at "sim")
  | ((with_reducible apply ss_popAt) <;> walk_at "sim")
  | ((with_reducible apply ss_asg) <;> walk_at "sim")
  | ((with_reducible apply ss_par) <;> walk_at "sim")
  | ((with_reducible apply ss_par3) <;> walk_at "sim")
  | ((with_reducible apply ss_aug) <;> walk_at "sim")
  | ((with_reducible apply ss_app) <;> walk_at "sim")
  | ((with_reducible apply ss_ext) <;> walk_at "sim")
  | ((with_reducible apply ss_drop) <;> walk_at "sim")
  | ((with_reducible apply ss_for) <;> walk_at "sim")
  | ((with_reducible apply ss_while) <;> walk_at "sim")
  | with_reducible exact tg_name
  | ((with_reducible apply tg_tup) <;> walk_at "sim")
  | ((with_reducible apply tgs_cons) <;> walk_at "sim")
  | with_reducible exact tgs_nil
  | with_reducible exact sim_bgetE
  | ((with_reducible apply sim_tupRev) <;> walk_at "sim")
  | with_reducible exact sim_bget
  | ((with_reducible apply ss_bput) <;> walk_at "sim")
  | ((with_reducible apply ss_baug) <;> walk_at "sim")
  | with_reducible exact so_ixB
  | with_reducible exact sc_lenB
  | with_reducible exact so_radd
  | with_reducible exact so_rsub
  | with_reducible exact sim_var
  | with_reducible exact sim_varG
  | with_reducible exact sim_nil
  | with_reducible exact sim_nilB
  | ((with_reducible apply sim_cons) <;> walk_at "sim")
  | ((with_reducible apply sim_consB) <;> walk_at "sim")
  | ((with_reducible apply sim_c); walk_at "sc")
  | ((with_reducible apply sim_op) <;> walk_at "sim")
  | ((with_reducible apply sim_un) <;> walk_at "sim")
  | ((with_reducible apply sim_cb) <;> walk_at "sim")
  | ((with_reducible apply sim_tup) <;> walk_at "sim")
  | ((with_reducible apply sim_lst) <;> walk_at "sim")
  | ((with_reducible apply sim_lstF) <;> walk_at "sim")
  | ((with_reducible apply sim_callN) <;> walk_at "sim")
  | ((with_reducible apply sim_call) <;> walk_at "sim")
  | ((with_reducible apply sim_sl) <;> walk_at "sim")
  | with_reducible exact sp_no
  | ((with_reducible apply sp_part) <;> walk_at "sim")
  | ((with_reducible apply sim_test) <;> walk_at "sim")
  | ((with_reducible apply sim_tB) <;> walk_at "sim")
  | ((with_reducible apply sim_and) <;> walk_at "sim")
  | ((with_reducible apply sim_or) <;> walk_at "sim")
  | ((with_reducible apply sim_not) <;> walk_at "sim")
  | with_reducible exact sim_yes
  | ((with_reducible apply sim_andV) <;> walk_at "sim")
  | ((with_reducible apply sim_orV) <;> walk_at "sim")
  | ((with_reducible apply sim_notV) <;> walk_at "sim")
  | ((with_reducible apply sim_if) <;> walk_at "sim")
  | ((with_reducible apply sim_chain) <;> walk_at "sim")
  | ((with_reducible apply sim_lcF) <;> walk_at "sim")
  | ((with_reducible apply sim_lcE) <;> walk_at "sim")
  | ((with_reducible apply sim_lstRgF) <;> walk_at "sim")
  | ((with_reducible apply sim_lstRg) <;> walk_at "sim")
  | ((with_reducible apply sim_tupRg) <;> walk_at "sim")
  | ((with_reducible apply sim_rg1) <;> walk_at "sim")
  | ((with_reducible apply sim_rg2) <;> walk_at "sim")
  | ((with_reducible apply sim_listF) <;> walk_at "sim")
  | ((with_reducible apply sim_addF) <;> walk_at "sim")
  | ((with_reducible apply sim_join) <;> walk_at "sim")
  | ((with_reducible apply sim_lenSetS) <;> walk_at "sim")
  | ((with_reducible apply sim_fld) <;> walk_at "sim")
  | ((with_reducible apply si_x) <;> walk_at "sim")
  | ((with_reducible apply si_tup) <;> walk_at "sim")
  | ((with_reducible apply si_list) <;> walk_at "sim")
  | ((with_reducible apply si_str) <;> walk_at "sim")
  | ((with_reducible apply si_rng1) <;> walk_at "sim")
  | ((with_reducible apply si_rng2) <;> walk_at "sim")
  | ((with_reducible apply si_enum) <;> walk_at "sim")
  | ((with_reducible apply si_zip) <;> walk_at "sim")
  | with_reducible exact so_addX
  | with_reducible exact so_mulX
  | with_reducible exact so_divX
  | with_reducible exact so_eqX
  | with_reducible exact so_neX
  | with_reducible exact so_inX
  | with_reducible exact so_notInX
  | with_reducible exact so_ltX
  | with_reducible exact so_gtX
  | with_reducible exact so_geX
  | with_reducible exact so_leX
  | ((with_reducible apply so_i0s); (intros; exact True.intro))
  | ((with_reducible apply so_iCs); (intros; exact True.intro))
  | ((with_reducible apply su_is); (intros; exact True.intro))
  | with_reducible exact so_eq
  | with_reducible exact so_ne
  | with_reducible exact so_isN
  | with_reducible exact so_notN
  | with_reducible exact so_isB
  | with_reducible exact so_notB
  | with_reducible exact so_ixL
  | with_reducible exact so_ixT
  | with_reducible exact so_ixS
  | with_reducible exact so_ix
  | with_reducible exact so_in
  | with_reducible exact so_str
  | with_reducible exact so_inS
  | with_reducible exact so_notInS
  | with_reducible exact so_catT
  | with_reducible exact so_catL
  | with_reducible exact so_addS
  | with_reducible exact so_mulS
  | with_reducible exact so_repT
  | with_reducible exact so_eqD
  | with_reducible exact so_neD
  | with_reducible exact so_inD
  | with_reducible exact so_notInD
  | with_reducible exact so_leT
  | with_reducible exact sc_len
  | with_reducible exact sc_int
  | with_reducible exact sc_abs
  | with_reducible exact sc_str
  | with_reducible exact sc_mm
  | with_reducible exact sc_list
  | with_reducible exact sc_tuple
  | with_reducible exact sc_sum
  | with_reducible exact sc_all
  | with_reducible exact sc_any
  | with_reducible exact sc_isi
  | with_reducible exact sc_isiT
  | with_reducible exact sc_repr
  | with_reducible exact sl_x
  | with_reducible exact sl_t
  | with_reducible exact sl_l
  | with_reducible exact sl_s
  | ((with_reducible apply SimE.g); walk_at "sim")
  | (intros; decide)
  | skip)

theorem wds_app : ∀ ds es : List D, D.wds (ds ++ es) = D.wds ds + D.wds es
  | [], es => by simp [D.wds]
  | d :: r, es => by
    have := wds_app r es
    simp [D.wds]
    omega
theorem dps_app : ∀ ds es : List D, D.dps (ds ++ es) = max (D.dps ds) (D.dps es)
  | [], es => by simp [D.dps]
  | d :: r, es => by
    have := dps_app r es
    simp [D.dps]
    omega
theorem wds_rev : ∀ ds : List D, D.wds ds.reverse = D.wds ds
  | [] => rfl
  | d :: r => by
    rw [List.reverse_cons, wds_app, wds_rev r]
    simp [D.wds]
    omega
theorem dps_rev : ∀ ds : List D, D.dps ds.reverse = D.dps ds
  | [] => rfl
  | d :: r => by
    rw [List.reverse_cons, dps_app, dps_rev r]
    simp [D.dps]
    omega
theorem Pq.rev {n k : Nat} {ds : List D} (h : Pq n k (.tup ds)) : Pq n k (.tup ds.reverse) := by
  obtain ⟨h1, h2, h3⟩ := h
  exact ⟨by simpa using h1, by simpa [D.wd, wds_rev] using h2, by simpa [D.dp, dps_rev] using h3⟩
theorem Pq.lst {n k : Nat} {ds : List D} (h : Pq n k (.tup ds)) : Pq n k (.lst ds) := by
  obtain ⟨h1, h2, h3⟩ := h
  exact ⟨by simpa using h1, by simpa [D.wd] using h2, by simpa [D.dp] using h3⟩
theorem Pq.snoc {n k m j : Nat} {ds : List D} {d : D} (h : Pq n (k + 1) (.tup ds)) (g : Pq m j d) (hj : j ≤ k) : Pq (n + m + 2) (k + 1) (.tup (ds ++ [d])) := by
  obtain ⟨h1, h2, h3⟩ := h
  obtain ⟨g1, g2, g3⟩ := g
  refine ⟨?_, ?_, ?_⟩
  · simp at h1 ⊢
    exact ⟨h1, g1⟩
  · simp [D.wd, wds_app, D.wds] at h2 ⊢
    omega
  · simp [D.dp, dps_app, D.dps] at h3 ⊢
    omega
theorem wds_set : ∀ (ds : List D) (i : Nat) (d : D), D.wds (ds.set i d) ≤ D.wds ds + d.wd + 2
  | [], i, d => by simp [D.wds]
  | e :: r, 0, d => by simp [D.wds]; omega
  | e :: r, i + 1, d => by
    have := wds_set r i d
    simp [D.wds]
    omega
theorem dps_set : ∀ (ds : List D) (i : Nat) (d : D), D.dps (ds.set i d) ≤ max (D.dps ds) d.dp
  | [], i, d => by simp [D.dps]
  | e :: r, 0, d => by simp [D.dps]; omega
  | e :: r, i + 1, d => by
    have := dps_set r i d
    simp [D.dps]
    omega
theorem Pq.set {n k m : Nat} {ds : List D} {d : D} (i : Nat) (h : Pq n (k + 1) (.tup ds)) (g : Pq m k d) : Pq (n + m + 2) (k + 1) (.tup (ds.set i d)) := by
  obtain ⟨h1, h2, h3⟩ := h
  obtain ⟨g1, g2, g3⟩ := g
  refine ⟨?_, ?_, ?_⟩
  · simp only [sm_tup, List.all_eq_true] at h1 ⊢
    intro e he
    rcases List.mem_or_eq_of_mem_set he with q | q
    · exact h1 e q
    · rw [q]; exact g1
  · have := wds_set ds i d
    simp [D.wd] at h2 ⊢
    omega
  · have := dps_set ds i d
    simp [D.dp] at h3 ⊢
    omega
theorem Pq.three {n k : Nat} {a b c : D} (h : Pq n (k + 1) (.tup [a, b, c])) : Pq n k a ∧ Pq n k b ∧ Pq n k c := by
  obtain ⟨h1, h2, h3⟩ := h
  simp at h1
  simp [D.wd, D.wds] at h2
  simp [D.dp, D.dps] at h3
  exact ⟨⟨h1.1, by omega, by omega⟩, ⟨h1.2.1, by omega, by omega⟩, ⟨h1.2.2, by omega, by omega⟩⟩
theorem Pq.mk3 {n1 n2 n3 k : Nat} {a b c : D} (ha : Pq n1 k a) (hb : Pq n2 k b) (hc : Pq n3 k c) : Pq (n1 + n2 + n3 + 10) (k + 1) (.tup [a, b, c]) :=
  ⟨by simp [ha.1, hb.1, hc.1], by have := ha.2.1; have := hb.2.1; have := hc.2.1; simp [D.wd, D.wds]; omega, by have := ha.2.2; have := hb.2.2; have := hc.2.2; simp [D.dp, D.dps]; omega⟩
theorem Pq.mk2 {n1 n2 k : Nat} {a b : D} (ha : Pq n1 k a) (hb : Pq n2 k b) : Pq (n1 + n2 + 8) (k + 1) (.tup [a, b]) :=
  ⟨by simp [ha.1, hb.1], by have := ha.2.1; have := hb.2.1; simp [D.wd, D.wds]; omega, by have := ha.2.2; have := hb.2.2; simp [D.dp, D.dps]; omega⟩
theorem Pq.mk1 {n1 k : Nat} {a : D} (ha : Pq n1 k a) : Pq (n1 + 6) (k + 1) (.tup [a]) :=
  ⟨by simp [ha.1], by have := ha.2.1; simp [D.wd, D.wds]; omega, by have := ha.2.2; simp [D.dp, D.dps]; omega⟩
theorem Pq.nil : Pq 4 1 (.tup []) := ⟨by simp, by simp [D.wd, D.wds], by simp [D.dp, D.dps]⟩
/-- a good tree's parts -/
def Gt (h : Nat) (ls ns : List D) : Prop := h ≤ 8 ∧ leavesOk h (.tup ls) = true ∧ Lq 300 1 256 ls ∧ nodesOk h ls (.tup ns) = true ∧ Lq 33000 3 255 ns
def wfOdd : WF Box := fun ds s k _ => match ds with
  | [.opq a] => Bo a s ∧ ∀ s' d, Bo a s' → Pq 150 2 d → k d s'
  | _ => False
def wfLeafSp : WF Box := fun ds s k _ => match ds with
  | [.opq a, .tup ls] => Bo a s ∧ 0 < ls.length ∧ ls.all leafOk = true ∧ Lq 300 1 256 ls ∧ ∀ s' d, Bo a s' → Pq 80000 5 d → k d s'
  | _ => False
def wfNodeSp : WF Box := fun ds s k _ => match ds with
  | [.opq a, .int h, .tup ls, .tup ns] => Bo a s ∧ 0 ≤ h ∧ Gt h.toNat ls ns ∧ ∀ s' d, Bo a s' → Pq 9000000 7 d → k d s'
  | _ => False
def wfSpoilt : WF Box := fun ds s k _ => match ds with
  | [.opq a, .lst [.int h, .tup ls, .tup ns]] => Bo a s ∧ 0 ≤ h ∧ Gt h.toNat ls ns ∧ ∀ s' x y z, Bo a s' → Pq 200 7 x → Pq 80000 7 y → Pq 9000000 7 z → k (.lst [x, y, z]) s'
  | _ => False
theorem mem_cut {ds : List D} {lo hi : Option Int} {d : D} (h : d ∈ cutD ds lo hi) : d ∈ ds := List.mem_of_mem_drop (List.mem_of_mem_take h)
theorem leaf_cases {x : D} (h : leafOk x = true) : x = .non ∨ ∃ z q, x = .tup [.str z, .int q] ∧ nameOk (.str z) = true := by
  have aux : ∀ p q : D, memberOk (.tup [p, q]) = true → ∃ z i, p = .str z ∧ q = .int i ∧ nameOk (.str z) = true := by
    intro p q h
    have h' : (nameOk p && lockOk q) = true := h
    rw [Bool.and_eq_true] at h'
    cases p with
    | str z => cases q with
      | int i => exact ⟨_, _, rfl, rfl, h'.1⟩
      | _ => exact absurd h'.2 (by simp [lockOk])
    | _ => exact absurd h'.1 (by simp [nameOk])
  cases x with
  | non => exact .inl rfl
  | tup es =>
    match es, h with
    | [p, q], h =>
      obtain ⟨z, i, rfl, rfl, hz⟩ := aux p q h
      exact .inr ⟨z, i, rfl, hz⟩
    | [], h => exact absurd h (by simp [leafOk, memberOk])
    | [_], h => exact absurd h (by simp [leafOk, memberOk])
    | _ :: _ :: _ :: _, h => exact absurd h (by simp [leafOk, memberOk])
  | _ => exact absurd h (by simp [leafOk, memberOk])
section
variable {P : Program} {w : World} {K : PySem.W.Frag} {mg : Str → Option Value} {base : Heap}
end
end Law
set_option Elab.async false
set_option linter.all false
set_option maxRecDepth 100000
set_option maxHeartbeats 8000000
namespace Law
open PySem PySem.Spec PyProof.Rows L2 Gl Dw
local macro_rules | `(tactic| walk_at "sc") => `(tactic| first
  | exact True.intro
  | (show _ ≤ sizeLine; decide +kernel))
local macro_rules | `(tactic| walk_at "sim") => `(tactic| first
  | ((with_reducible apply ss_seq) <;> walk_at "sim")
  | with_reducible exact ss_next
  | ((with_reducible apply ss_raise) <;> walk_at "sim")
  | with_reducible exact ss_brk
  | with_reducible exact ss_cont
  | with_reducible exact ss_retN
  | ((with_reducible apply ss_ret) <;> walk_at "sim")
  | ((with_reducible apply ss_if) <;> walk_at "sim")
  | ((with_reducible apply ss_asgO); (with_reducible assumption); walk_at "sim")
  | ((with_reducible apply ss_setL) <;> walk_at "sim")
  | ((with_reducible apply ss_pop) <;> walk_at "sim")
  | ((with_reducible apply ss_popAt) <;> walk_at "sim")
  | ((with_reducible apply ss_asg) <;> walk_at "sim")
  | ((with_reducible apply ss_par) <;> walk_at "sim")
  | ((with_reducible apply ss_par3) <;> walk_at "sim")
  | ((with_reducible apply ss_aug) <;> walk_at "sim")
  | ((with_reducible apply ss_app) <;> walk_at "sim")
  | ((with_reducible apply ss_ext) <;> walk_at "sim")
  | ((with_reducible apply ss_drop) <;> walk_at "sim")
  | ((with_reducible apply ss_for) <;> walk_at "sim")
  | ((with_reducible apply ss_while) <;> walk_at "sim")
  | with_reducible exact tg_name
  | ((with_reducible apply tg_tup) <;> walk_at "sim")
  | ((with_reducible apply tgs_cons) <;> walk_at "sim")
  | with_reducible exact tgs_nil
  | with_reducible exact sim_bgetE
  | ((with_reducible apply sim_tupRev) <;> walk_at "sim")
  | with_reducible exact sim_bget
  | ((with_reducible apply ss_bput) <;> walk_at "sim")
  | ((with_reducible apply ss_baug) <;> walk_at "sim")
  | with_reducible exact so_ixB
  | with_reducible exact sc_lenB
  | with_reducible exact so_radd
  | with_reducible exact so_rsub
  | with_reducible exact sim_var
  | with_reducible exact sim_varG
  | with_reducible exact sim_nil
  | with_reducible exact sim_nilB
  | ((with_reducible apply sim_cons) <;> walk_at "sim")
  | ((with_reducible apply sim_consB) <;> walk_at "sim")
  | ((with_reducible apply sim_c); walk_at "sc")
  | ((with_reducible apply sim_op) <;> walk_at "sim")
  | ((with_reducible apply sim_un) <;> walk_at "sim")
  | ((with_reducible apply sim_cb) <;> walk_at "sim")
  | ((with_reducible apply sim_tup) <;> walk_at "sim")
  | ((with_reducible apply sim_lst) <;> walk_at "sim")
  | ((with_reducible apply sim_lstF) <;> walk_at "sim")
  | ((with_reducible apply sim_callN) <;> walk_at "sim")
  | ((with_reducible apply sim_call) <;> walk_at "sim")
  | ((with_reducible apply sim_sl) <;> walk_at "sim")
  | with_reducible exact sp_no
  | ((with_reducible apply sp_part) <;> walk_at "sim")
  | ((with_reducible apply sim_test) <;> walk_at "sim")
  | ((with_reducible apply sim_tB) <;> walk_at "sim")
  | ((with_reducible apply sim_and) <;> walk_at "sim")
  | ((with_reducible apply sim_or) <;> walk_at "sim")
  | ((with_reducible apply sim_not) <;> walk_at "sim")
  | with_reducible exact sim_yes
  | ((with_reducible apply sim_andV) <;> walk_at "sim")
  | ((with_reducible apply sim_orV) <;> walk_at "sim")
  | ((with_reducible apply sim_notV) <;> walk_at "sim")
  | ((with_reducible apply sim_if) <;> walk_at "sim")
  | ((with_reducible apply sim_chain) <;> walk_at "sim")
  | ((with_reducible apply sim_lcF) <;> walk_at "sim")
  | ((with_reducible apply sim_lcE) <;> walk_at "sim")
  | ((with_reducible apply sim_lstRgF) <;> walk_at "sim")
  | ((with_reducible apply sim_lstRg) <;> walk_at "sim")
  | ((with_reducible apply sim_tupRg) <;> walk_at "sim")
  | ((with_reducible apply sim_rg1) <;> walk_at "sim")
  | ((with_reducible apply sim_rg2) <;> walk_at "sim")
  | ((with_reducible apply sim_listF) <;> walk_at "sim")
  | ((with_reducible apply sim_addF) <;> walk_at "sim")
  | ((with_reducible apply sim_join) <;> walk_at "sim")
  | ((with_reducible apply sim_lenSetS) <;> walk_at "sim")
  | ((with_reducible apply sim_fld) <;> walk_at "sim")
  | ((with_reducible apply si_x) <;> walk_at "sim")
  | ((with_reducible apply si_tup) <;> walk_at "sim")
  | ((with_reducible apply si_list) <;> walk_at "sim")
  | ((with_reducible apply si_str) <;> walk_at "sim")
  | ((with_reducible apply si_rng1) <;> walk_at "sim")
  | ((with_reducible apply si_rng2) <;> walk_at "sim")
  | ((with_reducible apply si_enum) <;> walk_at "sim")
  | ((with_reducible apply si_zip) <;> walk_at "sim")
  | with_reducible exact so_addX
  | with_reducible exact so_mulX
  | with_reducible exact so_divX
  | with_reducible exact so_eqX
  | with_reducible exact so_neX
  | with_reducible exact so_inX
  | with_reducible exact so_notInX
  | with_reducible exact so_ltX
  | with_reducible exact so_gtX
  | with_reducible exact so_geX
  | with_reducible exact so_leX
  | ((with_reducible apply so_i0s); (intros; exact True.intro))
  | ((with_reducible apply so_iCs); (intros; exact True.intro))
  | ((with_reducible apply su_is); (intros; exact True.intro))
  | with_reducible exact so_eq
  | with_reducible exact so_ne
  | with_reducible exact so_isN
  | with_reducible exact so_notN
  | with_reducible exact so_isB
  | with_reducible exact so_notB
  | with_reducible exact so_ixL
  | with_reducible exact so_ixT
  | with_reducible exact so_ixS
  | with_reducible exact so_ix
  | with_reducible exact so_in
  | with_reducible exact so_str
  | with_reducible exact so_inS
  | with_reducible exact so_notInS
  | with_reducible exact so_catT
  | with_reducible exact so_catL
  | with_reducible exact so_addS
  | with_reducible exact so_mulS
  | with_reducible exact so_repT
  | with_reducible exact so_eqD
  | with_reducible exact so_neD
  | with_reducible exact so_inD
  | with_reducible exact so_notInD
  | with_reducible exact so_leT
  | with_reducible exact sc_len
  | with_reducible exact sc_int
  | with_reducible exact sc_abs
  | with_reducible exact sc_str
  | with_reducible exact sc_mm
  | with_reducible exact sc_list
  | with_reducible exact sc_tuple
  | with_reducible exact sc_sum
  | with_reducible exact sc_all
  | with_reducible exact sc_any
  | with_reducible exact sc_isi
  | with_reducible exact sc_isiT
  | with_reducible exact sc_repr
  | with_reducible exact sl_x
  | with_reducible exact sl_t
  | with_reducible exact sl_l
  | with_reducible exact sl_s
  | ((with_reducible apply SimE.g); walk_at "sim")
  | (intros; decide)
  | skip)

/-- an own error that keeps its part: what the written part says -/
structure Er (P : Program) (K : PySem.W.Frag) (mg : Str → Option Value) (x : Str) (C : Addr) : Prop where
  bad : Ex.BadC P K C "part"
  mgx : mg x = some (.ref C)
  sup : mg "super" = none
  r1 : PySem.W.subIn K (.ref C) (.type "BaseException") = some true
  r2 : PySem.W.typeIn K (.ref C) = some (.type "type")
theorem Er.raises {P : Program} {K : PySem.W.Frag} {mg : Str → Option Value} {x : Str} {C : Addr} (e : Er P K mg x C) {X : Cx} (h : X.K = K) : Raises X (.ref C) := raises_own (h ▸ e.r1) (h ▸ e.r2)
structure Cl (K : PySem.W.Frag) (C : Addr) : Prop where
  cls : Cls K C
  n1 : NoAttr K C "height"
  n2 : NoAttr K C "leaves"
  n3 : NoAttr K C "nodes"
def treeD (C : Addr) (a b c : D) : D := .obj C [("height", a), ("leaves", b), ("nodes", c)]
def wfIni {S : Type} (C CB : Addr) : WF S := fun ds s k x => match ds with
  | [a, b, c] => a.sm = true ∧ b.sm = true ∧ c.sm = true ∧ (match bad a b c with
    | none => k (treeD C a b c) s
    | some z => x ⟨CB, [("part", .str z)]⟩ s)
  | _ => False
abbrev s_Tree___init__ : Stmt := inClass (top 21) 0
abbrev N_Tree___init__ : List Str := ["self", "height", "leaves", "nodes"]
theorem sc_Tree___init__ : FnScope N_Tree___init__ ["self", "height", "leaves", "nodes"] (defScope s_Tree___init__) := ⟨rfl, rfl, rfl, by decide +kernel, rfl, by decide +kernel, by decide +kernel⟩
theorem upd2 {H : Hp} {a : Addr} {o u : HO} : upd (upd H a o) a u = upd H a u := by
  funext b
  by_cases h : b = a
  · rw [h, upd_same, upd_same]
  · rw [upd_ne h, upd_ne h, upd_ne h]
theorem ini_run {S : Type} {W : Wd S} {G : Gm S} {a b c r : TS} {R : Addr → Prop} {env : List Sl} {σ : L2.St} {H : Hp} {s : S} {KK : WEnds S} {Dn : Ends} (rl : Rel W G R env σ H s) (sim : ∃ ws : WS S, SimS W G (tSeq a (tSeq b c)) ws ∧ ws KK env s) (e : EndsR W G R s H KK { Dn with nx := r Dn }) :
    tSeq a (tSeq b (tSeq c r)) Dn σ H := by
  obtain ⟨ws, sim, hw⟩ := sim
  exact sim R env σ H s rl KK hw _ e
section
variable {S : Type} {W : Wd S} {P : Program} {w : World} {K : PySem.W.Frag} {mg : Str → Option Value} {base : Heap} {CB CT : Addr}
theorem ok_Tree_init (T : Tx P w K mg) (cBadTree : Er P K mg "BadTree" CB) (cT : Cl K CT) (f_is_within : Df P w K mg base 2 "is_within" (spX W wfIn)) (f_are_leaves : Df P w K mg base 4 "are_leaves" (spX W wfLeaves)) (f_are_nodes : Df P w K mg base 4 "are_nodes" (spX W wfNodes))
    {f : Addr} {fd : FuncData} (F : FunD K "__init__" "Tree.__init__" (defArgs s_Tree___init__) (defBody s_Tree___init__) (defScope s_Tree___init__) [] [] f fd) : Fn P w K mg base 5 f fd ["self", "height", "leaves", "nodes"] (spIni W CT (wfIni CT CB)) := by
  refine Gl.fn_body F sc_Tree___init__ (fun vs H Q E h => ?_) fun cv A outer s H vs Q E hr gd h => ?_
  · obtain ⟨R, s, k, x, a, dx, vs0, ds, rfl, _, _, _, l, hw, _⟩ := h
    match ds, hw with
    | [_, _, _], _ => rw [List.length_cons, l.len]; rfl
  · obtain ⟨R, s1, k, x, a, dx, vs0, ds, rfl, hA, ra, at1, l, hw, hQ, hE⟩ := h
    match ds, hw, l with
    | [d1, d2, d3], ⟨m1, m2, m3, hb⟩, l =>
    refine ⟨_, (pss_cons (ps_if (pt_not (pt_val (pe_df f_is_within hr (by omega) gd rfl (fun σ => Gl.no_pass σ) (pa_cons (pv 1) (pa_cons pe_int (pa_cons (C8.pe_gc rfl T.m_MOST_HIGH) pa_nil)))))) (pss_one (ps_raise rfl (takes_of rfl rfl rfl rfl) (pmk_mkE cBadTree.bad (cBadTree.raises rfl) cBadTree.mgx cBadTree.sup hr (by omega) pe_str rfl))) pss_nil)
    (pss_cons (ps_if (pt_not (pt_val (pe_df f_are_leaves hr (by omega) gd rfl (fun σ => Gl.no_pass σ) (pa_cons (pv 2) (pa_cons (pv 1) pa_nil))))) (pss_one (ps_raise rfl (takes_of rfl rfl rfl rfl) (pmk_mkE cBadTree.bad (cBadTree.raises rfl) cBadTree.mgx cBadTree.sup hr (by omega) pe_str rfl))) pss_nil)
    (pss_cons (ps_if (pt_not (pt_val (pe_df f_are_nodes hr (by omega) gd rfl (fun σ => Gl.no_pass σ) (pa_cons (pv 3) (pa_cons (pv 1) (pa_cons (pv 2) pa_nil)))))) (pss_one (ps_raise rfl (takes_of rfl rfl rfl rfl) (pmk_mkE cBadTree.bad (cBadTree.raises rfl) cBadTree.mgx cBadTree.sup hr (by omega) pe_str rfl))) pss_nil)
    (pss_cons (ps_fld (pv 0) (pv 1) rfl)
    (pss_cons (ps_fld (pv 0) (pv 2) rfl)
    (pss_one (ps_fld (pv 0) (pv 3) rfl))))))), ?_⟩
    refine ini_run (W := W) (G := ⟨H, s1, R, E⟩) (R := R) (s := s1) (env := Dw.envOf N_Tree___init__.length [.opq a, d1, d2, d3]) (KK := ⟨fun env' s' => env' = Dw.envOf N_Tree___init__.length [.opq a, d1, d2, d3] ∧ s' = s1 ∧ bad d1 d2 d3 = none, fun _ _ => False, fun _ _ => False, fun _ _ => False, x⟩) (rel_start (N := N_Tree___init__) at1 (.cons (.opq a) l)) ?_ ⟨?_, ?_, ?_, ?_, ?_⟩
    · apply bodyW
      · walk_at "sim"
      simp [known6, wfIn, wfLeaves, wfNodes]
      refine ⟨D.sm_pl m1, ?_⟩
      unfold bad at hb ⊢
      by_cases h1 : isIn 0 8 d1 = true
      · obtain ⟨h, rfl, h0, h8⟩ : ∃ h, d1 = .int h ∧ 0 ≤ h ∧ h ≤ 8 := by
          cases d1 with
          | int h => exact ⟨h, rfl, by simpa [isIn] using h1⟩
          | _ => simp [isIn] at h1
        simp only [h1, if_true] at hb ⊢
        refine ⟨D.sm_pl m2, h0, h8, ?_⟩
        by_cases h2 : leavesOk h.toNat d2 = true
        · obtain ⟨ls, rfl, hl⟩ : ∃ ls, d2 = .tup ls ∧ ls.length = 2 ^ h.toNat := by
            cases d2 with
            | tup ls => exact ⟨ls, rfl, by simp [leavesOk] at h2; exact h2.1.1⟩
            | _ => simp [leavesOk] at h2
          simp only [h2, if_true] at hb ⊢
          refine ⟨m3, h0, h8, hl, ?_⟩
          by_cases h3 : nodesOk h.toNat ls d3 = true
          · simp [h3]
          · simpa [h3] using hb
        · simpa [h2] using hb
      · simpa [h1] using hb
    · intro R' env' σ' H' s' hk rl m
      obtain ⟨rfl, rfl, hbad⟩ := hk
      rw [hbad] at hb
      obtain ⟨v0, e0, a0⟩ := rl.env.dat 0 _ rfl
      obtain ⟨v1, e1, q1⟩ := rl.env.dat 1 d1 rfl
      obtain ⟨v2, e2, q2⟩ := rl.env.dat 2 d2 rfl
      obtain ⟨v3, e3, q3⟩ := rl.env.dat 3 d3 rfl
      cases a0
      have hA' := rl.fr.kp a _ hA (at1.r a ra).2
      have sub : ∀ b, Bf W R s' b → Bf W R' s' b := fun b z => z.imp (rl.r0 b) id
      refine ⟨v1, e1, .ref a, e0, a, CT, dx, [], rfl, hA', cT.cls, cT.n1, by decide, v2, e2, .ref a, e0, a, CT, dx, _, rfl, upd_same, cT.cls, cT.n2, (show 1 < 1000 by decide), v3, e3, .ref a, e0, a, CT, dx, _, rfl, upd_same, cT.cls, cT.n3, (show 2 < 1000 by decide), ?_⟩
      have fin := hQ _ s' [("height", v1), ("leaves", v2), ("nodes", v3)] H' hb rl.fr rl.at_.j (.cons (q1.imp sub) (.cons (q2.imp sub) (.cons (q3.imp sub) .nil)))
      show Q .non (upd (upd (upd H' a _) a _) a _)
      rw [upd2, upd2]
      exact fin
    · intro _ _ _ _ hk
      exact hk.elim
    · intro _ _ _ _ _ hk
      exact hk.elim
    · intro _ _ _ _ _ hk
      exact hk.elim
    · intro c s' cls d H' hx f j a2
      exact hE c s' cls d H' hx f j a2
end
end Law
set_option Elab.async false
set_option linter.all false
set_option maxRecDepth 100000
set_option maxHeartbeats 8000000
namespace Law
open PySem PySem.Spec PyProof.Rows L2 Gl Dw
local macro_rules | `(tactic| walk_at "sc") => `(tactic| first
  | exact True.intro
  | (show _ ≤ sizeLine; decide +kernel))
local macro_rules | `(tactic| walk_at "sim") => `(tactic| first
  | ((with_reducible apply ss_seq) <;> walk_at "sim")
  | with_reducible exact ss_next
  | ((with_reducible apply ss_raise) <;> walk_at "sim")
  | with_reducible exact ss_raise0
  | ((with_reducible apply ss_try); walk_at "sim"; (intro _; walk_at "sim"); walk_at "sim")
  | ((with_reducible apply loc_if) <;> walk_at "sim")
  | with_reducible exact loc_asgDf
  | with_reducible exact loc_asgMk
  | ((with_reducible apply loc_seq) <;> walk_at "sim")
  | with_reducible exact loc_const
  | with_reducible exact SimHs.nil
  | ((with_reducible apply SimHs.cons); (intro _ _ _ _ _ _; walk_at "sim"); walk_at "sim")
  | with_reducible exact ss_brk
  | with_reducible exact ss_cont
  | with_reducible exact ss_retN
  | ((with_reducible apply ss_ret) <;> walk_at "sim")
  | ((with_reducible apply ss_if) <;> walk_at "sim")
  | ((with_reducible apply ss_asgO); (with_reducible assumption); walk_at "sim")
  | ((with_reducible apply ss_setL) <;> walk_at "sim")
  | ((with_reducible apply ss_pop) <;> walk_at "sim")
  | ((with_reducible apply ss_popAt) <;> walk_at "sim")
  | ((with_reducible apply ss_asg) <;> walk_at "sim")
  | ((with_reducible apply ss_par) <;> walk_at "sim")
  | ((with_reducible apply ss_par3) <;> walk_at "sim")
  | ((with_reducible apply ss_aug) <;> walk_at "sim")
  | ((with_reducible apply ss_app) <;> walk_at "sim")
  | ((with_reducible apply ss_ext) <;> walk_at "sim")
  | ((with_reducible apply ss_drop) <;> walk_at "sim")
  | ((with_reducible apply ss_for) <;> walk_at "sim")
  | ((with_reducible apply ss_while) <;> walk_at "sim")
  | with_reducible exact tg_name
  | ((with_reducible apply tg_tup) <;> walk_at "sim")
  | ((with_reducible apply tgs_cons) <;> walk_at "sim")
  | with_reducible exact tgs_nil
  | with_reducible exact sim_bgetE
  | ((with_reducible apply sim_tupRev) <;> walk_at "sim")
  | with_reducible exact sim_bget
  | ((with_reducible apply ss_bput) <;> walk_at "sim")
  | ((with_reducible apply ss_baug) <;> walk_at "sim")
  | with_reducible exact so_ixB
  | with_reducible exact sc_lenB
  | with_reducible exact so_radd
  | with_reducible exact so_rsub
  | ((with_reducible apply sim_dgetT) <;> walk_at "sim")
  | ((with_reducible apply sim_dinT) <;> walk_at "sim")
  | ((with_reducible apply sim_dnotInT) <;> walk_at "sim")
  | ((with_reducible apply sim_mt0) <;> walk_at "sim")
  | ((with_reducible apply sim_dcE) <;> walk_at "sim")
  | ((with_reducible apply si_enumT) <;> walk_at "sim")
  | with_reducible exact sc_sortI
  | with_reducible exact sim_var
  | with_reducible exact sim_varG
  | with_reducible exact sim_nil
  | with_reducible exact sim_nilB
  | ((with_reducible apply sim_cons) <;> walk_at "sim")
  | ((with_reducible apply sim_consB) <;> walk_at "sim")
  | ((with_reducible apply sim_c); walk_at "sc")
  | ((with_reducible apply sim_op) <;> walk_at "sim")
  | ((with_reducible apply sim_un) <;> walk_at "sim")
  | ((with_reducible apply sim_isG); (with_reducible assumption); walk_at "sim")
  | ((with_reducible apply sim_cb) <;> walk_at "sim")
  | ((with_reducible apply sim_tup) <;> walk_at "sim")
  | ((with_reducible apply sim_lst) <;> walk_at "sim")
  | ((with_reducible apply sim_lstF) <;> walk_at "sim")
  | ((with_reducible apply sim_call) <;> walk_at "sim")
  | ((with_reducible apply sim_callN) <;> walk_at "sim")
  | ((with_reducible apply sim_sl) <;> walk_at "sim")
  | with_reducible exact sp_no
  | ((with_reducible apply sp_part) <;> walk_at "sim")
  | ((with_reducible apply sim_test) <;> walk_at "sim")
  | ((with_reducible apply sim_tB) <;> walk_at "sim")
  | ((with_reducible apply sim_and) <;> walk_at "sim")
  | ((with_reducible apply sim_or) <;> walk_at "sim")
  | ((with_reducible apply sim_not) <;> walk_at "sim")
  | with_reducible exact sim_yes
  | ((with_reducible apply sim_andV) <;> walk_at "sim")
  | ((with_reducible apply sim_orV) <;> walk_at "sim")
  | ((with_reducible apply sim_notV) <;> walk_at "sim")
  | ((with_reducible apply sim_if) <;> walk_at "sim")
  | ((with_reducible apply sim_chain) <;> walk_at "sim")
  | ((with_reducible apply sim_lcF) <;> walk_at "sim")
  | ((with_reducible apply sim_lcE) <;> walk_at "sim")
  | ((with_reducible apply sim_lstRgF) <;> walk_at "sim")
  | ((with_reducible apply sim_lstRg) <;> walk_at "sim")
  | ((with_reducible apply sim_tupRg) <;> walk_at "sim")
  | ((with_reducible apply sim_rg1) <;> walk_at "sim")
  | ((with_reducible apply sim_rg2) <;> walk_at "sim")
  | ((with_reducible apply sim_listF) <;> walk_at "sim")
  | ((with_reducible apply sim_addF) <;> walk_at "sim")
  | ((with_reducible apply sim_join) <;> walk_at "sim")
  | ((with_reducible apply sim_lenSetS) <;> walk_at "sim")
  | ((with_reducible apply sim_fldT); (with_reducible assumption); (with_reducible assumption); walk_at "sim")
  | ((with_reducible apply sim_mk) <;> walk_at "sim")
  | ((with_reducible apply sim_mkN) <;> walk_at "sim")
  | ((with_reducible apply sim_xf); (with_reducible assumption))
  | with_reducible exact so_eqO
  | ((with_reducible apply si_x) <;> walk_at "sim")
  | ((with_reducible apply si_tup) <;> walk_at "sim")
  | ((with_reducible apply si_list) <;> walk_at "sim")
  | ((with_reducible apply si_str) <;> walk_at "sim")
  | ((with_reducible apply si_rng1) <;> walk_at "sim")
  | ((with_reducible apply si_rng2) <;> walk_at "sim")
  | ((with_reducible apply si_enum) <;> walk_at "sim")
  | ((with_reducible apply si_zip) <;> walk_at "sim")
  | with_reducible exact so_addX
  | with_reducible exact so_mulX
  | with_reducible exact so_divX
  | with_reducible exact so_eqX
  | with_reducible exact so_neX
  | with_reducible exact so_inX
  | with_reducible exact so_notInX
  | with_reducible exact so_ltX
  | with_reducible exact so_gtX
  | with_reducible exact so_geX
  | with_reducible exact so_leX
  | ((with_reducible apply so_i0s); (intros; exact True.intro))
  | ((with_reducible apply so_iCs); (intros; exact True.intro))
  | ((with_reducible apply su_is); (intros; exact True.intro))
  | with_reducible exact so_eq
  | with_reducible exact so_ne
  | with_reducible exact so_isN
  | with_reducible exact so_notN
  | with_reducible exact so_isB
  | with_reducible exact so_notB
  | with_reducible exact so_ixL
  | with_reducible exact so_ixT
  | with_reducible exact so_ixS
  | with_reducible exact so_ix
  | with_reducible exact so_in
  | with_reducible exact so_str
  | with_reducible exact so_inS
  | with_reducible exact so_notInS
  | with_reducible exact so_catT
  | with_reducible exact so_catL
  | with_reducible exact so_addS
  | with_reducible exact so_mulS
  | with_reducible exact so_repT
  | with_reducible exact so_eqD
  | with_reducible exact so_neD
  | with_reducible exact so_inD
  | with_reducible exact so_notInD
  | with_reducible exact so_leT
  | with_reducible exact sc_len
  | with_reducible exact sc_int
  | with_reducible exact sc_abs
  | with_reducible exact sc_str
  | with_reducible exact sc_mm
  | with_reducible exact sc_list
  | with_reducible exact sc_tuple
  | with_reducible exact sc_sum
  | with_reducible exact sc_all
  | with_reducible exact sc_any
  | with_reducible exact sc_isi
  | with_reducible exact sc_isiT
  | with_reducible exact sc_repr
  | with_reducible exact sl_x
  | with_reducible exact sl_t
  | with_reducible exact sl_l
  | with_reducible exact sl_s
  | ((with_reducible apply SimE.g); walk_at "sim")
  | (intros; decide)
  | skip)

theorem lkH {a b c : D} : List.lookup ("height" : Str) [("height", a), ("leaves", b), ("nodes", c)] = some a := rfl
theorem lkL {a b c : D} : List.lookup ("leaves" : Str) [("height", a), ("leaves", b), ("nodes", c)] = some b := rfl
theorem lkN {a b c : D} : List.lookup ("nodes" : Str) [("height", a), ("leaves", b), ("nodes", c)] = some c := rfl
/-- the node l, i of a tree of height h -/
def nodeG (h : Nat) : D → Bool
  | .tup [.int l, b] => decide (0 ≤ l) && decide (l ≤ (h : Int)) && isIn 0 (2 ^ (h - l.toNat) - 1) b
  | _ => false
def wfNode0 : WF S := fun ds s k _ => match ds with
  | [d, .int h, .int lo] => d.pl = true ∧ 0 ≤ h ∧ h ≤ 8 ∧ lo = 0 ∧ k (.bl (nodeG h.toNat d)) s
  | _ => False
/-- a tree with a height and leaves -/
def wfCkL (C CL : Addr) : WF S := fun ds s k x => match ds with
  | [t, d] => ∃ a ls c, t = treeD C a (.tup ls) c ∧ d.pl = true ∧ if isIn 0 ((ls.length : Int) - 1) d = true then k .non s else x ⟨CL, []⟩ s
  | _ => False
def wfCkN (C CN : Addr) : WF S := fun ds s k x => match ds with
  | [t, d] => ∃ h b c, t = treeD C (.int h) b c ∧ 0 ≤ h ∧ h ≤ 8 ∧ d.pl = true ∧ if nodeG h.toNat d = true then k .non s else x ⟨CN, []⟩ s
  | _ => False
abbrev s_check_leaf : Stmt := top 22
abbrev N_check_leaf : List Str := ["tree", "thing"]
theorem sc_check_leaf : FnScope N_check_leaf ["tree", "thing"] (defScope s_check_leaf) := ⟨rfl, rfl, rfl, by decide +kernel, rfl, by decide +kernel, by decide +kernel⟩
abbrev s_check_node : Stmt := top 23
abbrev N_check_node : List Str := ["tree", "thing"]
theorem sc_check_node : FnScope N_check_node ["tree", "thing"] (defScope s_check_node) := ⟨rfl, rfl, rfl, by decide +kernel, rfl, by decide +kernel, by decide +kernel⟩
section
variable {S : Type} {W : Wd S} {P : Program} {w : World} {K : PySem.W.Frag} {mg : Str → Option Value} {base : Heap} {CT CL CN : Addr}
theorem ok_is_node0 (T : Tx P w K mg) (f_is_tuple_of : Df P w K mg base 1 "is_tuple_of" (spX W wfTupN)) (f_is_within : Df P w K mg base 2 "is_within" (spX W wfIn)) {f : Addr} {fd : FuncData} (F : FD K "is_node" s_is_node f fd) : Fn P w K mg base 3 f fd ["thing", "height", "least"] (spX W wfNode0) := by
  refine fn_data F sc_is_node (fun ds s k x h => ?_) fun cv A outer s H G hr gd => ⟨_, (pss_cons (ps_if (PW.pt (pw_or (pt_not (pt_val (pe_df f_is_tuple_of hr (by omega) gd rfl (fun σ => Gl.no_pass σ) (pa_cons (pv 0) (pa_cons pe_int pa_nil))))) (pw_or1 (pt_not (pt_val (pe_df f_is_within hr (by omega) gd rfl (fun σ => Gl.no_pass σ) (pa_cons (pe_ix (kIx (K := K)) (pv 0) pe_int (fun _ _ => rfl)) (pa_cons (pv 2) (pa_cons (pv 1) pa_nil))))))))) (pss_one (ps_ret pe_bl)) pss_nil)
    (pss_one (ps_ret (pe_df f_is_within hr (by omega) gd rfl (fun σ => Gl.no_pass σ) (pa_cons (pe_ix (kIx (K := K)) (pv 0) pe_int (fun _ _ => rfl)) (pa_cons pe_int (pa_cons (pe_op op_sub (pe_op op_shl pe_int (pe_op op_sub (pv 1) (pe_ix (kIx (K := K)) (pv 0) pe_int (fun _ _ => rfl)))) pe_int) pa_nil))))))), ?_⟩
  · match ds, h with
    | [d, .int h, .int lo], _ => rfl
  · apply bodyW
    · walk_at "sim"
    intro ds s k x ok h
    match ds, h, ok with
    | [d, .int h, .int lo], ⟨ht, h0, h8, h1, k0⟩, ok =>
    subst h1
    obtain ⟨n, rfl⟩ := Int.eq_ofNat_of_zero_le h0
    cases d with
    | tup ds =>
      match ds with
      | [a, b] =>
        simp [wfTupN, isTupN, wfIn] at k0 ht ⊢
        refine ⟨⟨ht.1, ht.2⟩, ?_⟩
        cases a with
        | int l =>
          simp [isIn, nodeG] at k0 ⊢
          by_cases c1 : 0 ≤ l
          · by_cases c2 : l ≤ (n : Int)
            · rw [if_pos ⟨c1, c2⟩]
              refine ⟨⟨by omega, by omega, by decide⟩, ht.2, ?_⟩
              have e : ((n : Int) - l).toNat = n - l.toNat := by omega
              rw [e]
              simpa [c1, c2] using k0
            · rw [if_neg (fun z => c2 z.2)]
              simpa [c2] using k0
          · rw [if_neg (fun z => c1 z.1)]
            simpa [c1] using k0
        | _ => simp_all [isIn, nodeG]
      | [] => simp_all [wfTupN, isTupN, wfIn, nodeG]
      | [_] => simp_all [wfTupN, isTupN, wfIn, nodeG]
      | _ :: _ :: _ :: _ =>
        simp [nodeG, isTupN, wfTupN] at k0 ht ⊢
        refine ⟨ht, ?_⟩
        rw [if_neg (by omega)]
        exact k0
    | _ => simp_all [wfTupN, isTupN, nodeG]
theorem ok_check_leaf (T : Tx P w K mg) (cT : Cl K CT) (r_NoLeaf : E0c K mg "NoLeaf" CL) (f_is_within : Df P w K mg base 2 "is_within" (spX W wfIn)) {f : Addr} {fd : FuncData} (F : FD K "check_leaf" s_check_leaf f fd) : Fn P w K mg base 3 f fd ["tree", "thing"] (spX W (wfCkL CT CL)) := by
  refine fn_data F sc_check_leaf (fun ds s k x h => ?_) fun cv A outer s H G hr gd => ⟨_, (pss_one (ps_if (pt_not (pt_val (pe_df f_is_within hr (by omega) gd rfl (fun σ => Gl.no_pass σ) (pa_cons (pv 1) (pa_cons pe_int (pa_cons (pe_op op_sub (pe_callB (kLen (K := K)) (by rfl) T.len (by decide +kernel) (pa_cons (kFld (K := K) (pv 0) rfl) pa_nil)) pe_int) pa_nil)))))) (pss_one (ps_raise rfl (takes_of rfl rfl rfl rfl) (pmk_0 r_NoLeaf.exc (r_NoLeaf.raises rfl) r_NoLeaf.mgx r_NoLeaf.keep rfl))) pss_nil)), ?_⟩
  · match ds, h with
    | [_, _], _ => rfl
  · have c1 := cT.cls
    have c3 := cT.n2
    apply bodyW
    · walk_at "sim"
    intro ds s k x hok h
    match ds, h with
    | [_, d], ⟨a, ls, c, rfl, hp, h⟩ =>
      simp [wfIn, treeD, lkL, hp]
      exact h
theorem ok_check_node (T : Tx P w K mg) (cT : Cl K CT) (r_NoNode : E0c K mg "NoNode" CN) (f_is_node : Df P w K mg base 3 "is_node" (spX W wfNode0)) {f : Addr} {fd : FuncData} (F : FD K "check_node" s_check_node f fd) : Fn P w K mg base 4 f fd ["tree", "thing"] (spX W (wfCkN CT CN)) := by
  refine fn_data F sc_check_node (fun ds s k x h => ?_) fun cv A outer s H G hr gd => ⟨_, (pss_one (ps_if (pt_not (pt_val (pe_df f_is_node hr (by omega) gd rfl (fun σ => Gl.no_pass σ) (pa_cons (pv 1) (pa_cons (kFld (K := K) (pv 0) rfl) (pa_cons pe_int pa_nil)))))) (pss_one (ps_raise rfl (takes_of rfl rfl rfl rfl) (pmk_0 r_NoNode.exc (r_NoNode.raises rfl) r_NoNode.mgx r_NoNode.keep rfl))) pss_nil)), ?_⟩
  · match ds, h with
    | [_, _], _ => rfl
  · have c1 := cT.cls
    have c2 := cT.n1
    apply bodyW
    · walk_at "sim"
    intro ds s k x hok h
    match ds, h with
    | [_, d], ⟨hh, b, c, rfl, h0, h8, hp, h⟩ =>
      simp [wfNode0, treeD, lkH, hp]
      exact ⟨h0, h8, h⟩
end
end Law
set_option Elab.async false
set_option linter.all false
set_option maxRecDepth 100000
set_option maxHeartbeats 8000000
namespace Law
open PySem PySem.Spec PyProof.Rows L2 Gl Dw
local macro_rules | `(tactic| walk_at "sc") => `(tactic| first
  | exact True.intro
  | (show _ ≤ sizeLine; decide +kernel))
local macro_rules | `(tactic| walk_at "sim") => `(tactic| first
  | ((with_reducible apply ss_seq) <;> walk_at "sim")
  | with_reducible exact ss_next
  | ((with_reducible apply ss_raise) <;> walk_at "sim")
  | with_reducible exact ss_raise0
  | ((with_reducible apply ss_try); walk_at "sim"; (intro _; walk_at "sim"); walk_at "sim")
  | ((with_reducible apply loc_if) <;> walk_at "sim")
  | with_reducible exact loc_asgDf
  | with_reducible exact loc_asgMk
  | ((with_reducible apply loc_seq) <;> walk_at "sim")
  | with_reducible exact loc_const
  | with_reducible exact SimHs.nil
  | ((with_reducible apply SimHs.cons); (intro _ _ _ _ _ _; walk_at "sim"); walk_at "sim")
  | with_reducible exact ss_brk
  | with_reducible exact ss_cont
  | with_reducible exact ss_retN
  | ((with_reducible apply ss_ret) <;> walk_at "sim")
  | ((with_reducible apply ss_if) <;> walk_at "sim")
  | ((with_reducible apply ss_asgO); (with_reducible assumption); walk_at "sim")
  | ((with_reducible apply ss_setL) <;> walk_at "sim")
  | ((with_reducible apply ss_pop) <;> walk_at "sim")
  | ((with_reducible apply ss_popAt) <;> walk_at "sim")
  | ((with_reducible apply ss_asg) <;> walk_at "sim")
  | ((with_reducible apply ss_par) <;> walk_at "sim")
  | ((with_reducible apply ss_par3) <;> walk_at "sim")
  | ((with_reducible apply ss_aug) <;> walk_at "sim")
  | ((with_reducible apply ss_app) <;> walk_at "sim")
  | ((with_reducible apply ss_ext) <;> walk_at "sim")
  | ((with_reducible apply ss_drop) <;> walk_at "sim")
  | ((with_reducible apply ss_for) <;> walk_at "sim")
  | ((with_reducible apply ss_while) <;> walk_at "sim")
  | with_reducible exact tg_name
  | ((with_reducible apply tg_tup) <;> walk_at "sim")
  | ((with_reducible apply tgs_cons) <;> walk_at "sim")
  | with_reducible exact tgs_nil
  | with_reducible exact sim_bgetE
  | ((with_reducible apply sim_tupRev) <;> walk_at "sim")
  | with_reducible exact sim_bget
  | ((with_reducible apply ss_bput) <;> walk_at "sim")
  | ((with_reducible apply ss_baug) <;> walk_at "sim")
  | with_reducible exact so_ixB
  | with_reducible exact sc_lenB
  | with_reducible exact so_radd
  | with_reducible exact so_rsub
  | ((with_reducible apply sim_dgetT) <;> walk_at "sim")
  | ((with_reducible apply sim_dinT) <;> walk_at "sim")
  | ((with_reducible apply sim_dnotInT) <;> walk_at "sim")
  | ((with_reducible apply sim_mt0) <;> walk_at "sim")
  | ((with_reducible apply sim_dcE) <;> walk_at "sim")
  | ((with_reducible apply si_enumT) <;> walk_at "sim")
  | with_reducible exact sc_sortI
  | with_reducible exact sim_var
  | with_reducible exact sim_varG
  | with_reducible exact sim_nil
  | with_reducible exact sim_nilB
  | ((with_reducible apply sim_cons) <;> walk_at "sim")
  | ((with_reducible apply sim_consB) <;> walk_at "sim")
  | ((with_reducible apply sim_c); walk_at "sc")
  | ((with_reducible apply sim_op) <;> walk_at "sim")
  | ((with_reducible apply sim_un) <;> walk_at "sim")
  | ((with_reducible apply sim_isG); (with_reducible assumption); walk_at "sim")
  | ((with_reducible apply sim_cb) <;> walk_at "sim")
  | ((with_reducible apply sim_tup) <;> walk_at "sim")
  | ((with_reducible apply sim_lst) <;> walk_at "sim")
  | ((with_reducible apply sim_lstF) <;> walk_at "sim")
  | ((with_reducible apply sim_call) <;> walk_at "sim")
  | ((with_reducible apply sim_callN) <;> walk_at "sim")
  | ((with_reducible apply sim_sl) <;> walk_at "sim")
  | with_reducible exact sp_no
  | ((with_reducible apply sp_part) <;> walk_at "sim")
  | ((with_reducible apply sim_test) <;> walk_at "sim")
  | ((with_reducible apply sim_tB) <;> walk_at "sim")
  | ((with_reducible apply sim_and) <;> walk_at "sim")
  | ((with_reducible apply sim_or) <;> walk_at "sim")
  | ((with_reducible apply sim_not) <;> walk_at "sim")
  | with_reducible exact sim_yes
  | ((with_reducible apply sim_andV) <;> walk_at "sim")
  | ((with_reducible apply sim_orV) <;> walk_at "sim")
  | ((with_reducible apply sim_notV) <;> walk_at "sim")
  | ((with_reducible apply sim_if) <;> walk_at "sim")
  | ((with_reducible apply sim_chain) <;> walk_at "sim")
  | ((with_reducible apply sim_lcF) <;> walk_at "sim")
  | ((with_reducible apply sim_lcE) <;> walk_at "sim")
  | ((with_reducible apply sim_lstRgF) <;> walk_at "sim")
  | ((with_reducible apply sim_lstRg) <;> walk_at "sim")
  | ((with_reducible apply sim_tupRg) <;> walk_at "sim")
  | ((with_reducible apply sim_rg1) <;> walk_at "sim")
  | ((with_reducible apply sim_rg2) <;> walk_at "sim")
  | ((with_reducible apply sim_listF) <;> walk_at "sim")
  | ((with_reducible apply sim_addF) <;> walk_at "sim")
  | ((with_reducible apply sim_join) <;> walk_at "sim")
  | ((with_reducible apply sim_lenSetS) <;> walk_at "sim")
  | ((with_reducible apply sim_fldT); (with_reducible assumption); (with_reducible assumption); walk_at "sim")
  | ((with_reducible apply sim_mk) <;> walk_at "sim")
  | ((with_reducible apply sim_mkN) <;> walk_at "sim")
  | ((with_reducible apply sim_xf); (with_reducible assumption))
  | with_reducible exact so_eqO
  | ((with_reducible apply si_x) <;> walk_at "sim")
  | ((with_reducible apply si_tup) <;> walk_at "sim")
  | ((with_reducible apply si_list) <;> walk_at "sim")
  | ((with_reducible apply si_str) <;> walk_at "sim")
  | ((with_reducible apply si_rng1) <;> walk_at "sim")
  | ((with_reducible apply si_rng2) <;> walk_at "sim")
  | ((with_reducible apply si_enum) <;> walk_at "sim")
  | ((with_reducible apply si_zip) <;> walk_at "sim")
  | with_reducible exact so_addX
  | with_reducible exact so_mulX
  | with_reducible exact so_divX
  | with_reducible exact so_eqX
  | with_reducible exact so_neX
  | with_reducible exact so_inX
  | with_reducible exact so_notInX
  | with_reducible exact so_ltX
  | with_reducible exact so_gtX
  | with_reducible exact so_geX
  | with_reducible exact so_leX
  | ((with_reducible apply so_i0s); (intros; exact True.intro))
  | ((with_reducible apply so_iCs); (intros; exact True.intro))
  | ((with_reducible apply su_is); (intros; exact True.intro))
  | with_reducible exact so_eq
  | with_reducible exact so_ne
  | with_reducible exact so_isN
  | with_reducible exact so_notN
  | with_reducible exact so_isB
  | with_reducible exact so_notB
  | with_reducible exact so_ixL
  | with_reducible exact so_ixT
  | with_reducible exact so_ixS
  | with_reducible exact so_ix
  | with_reducible exact so_in
  | with_reducible exact so_str
  | with_reducible exact so_inS
  | with_reducible exact so_notInS
  | with_reducible exact so_catT
  | with_reducible exact so_catL
  | with_reducible exact so_addS
  | with_reducible exact so_mulS
  | with_reducible exact so_repT
  | with_reducible exact so_eqD
  | with_reducible exact so_neD
  | with_reducible exact so_inD
  | with_reducible exact so_notInD
  | with_reducible exact so_leT
  | with_reducible exact sc_len
  | with_reducible exact sc_int
  | with_reducible exact sc_abs
  | with_reducible exact sc_str
  | with_reducible exact sc_mm
  | with_reducible exact sc_list
  | with_reducible exact sc_tuple
  | with_reducible exact sc_sum
  | with_reducible exact sc_all
  | with_reducible exact sc_any
  | with_reducible exact sc_isi
  | with_reducible exact sc_isiT
  | with_reducible exact sc_repr
  | with_reducible exact sl_x
  | with_reducible exact sl_t
  | with_reducible exact sl_l
  | with_reducible exact sl_s
  | ((with_reducible apply SimE.g); walk_at "sim")
  | (intros; decide)
  | skip)

/-- the nodes above the leaf n, beside its way -/
def ups (h : Nat) (n : Int) : List D := (List.range h).map fun (j : Nat) => D.tup [.int ((j : Int) + 1), .int (n / (2 : Int) ^ (j + 1))]
def bes (h : Nat) (n : Int) : List D := (List.range h).map fun (j : Nat) => D.tup [.int (j : Int), .int (n / (2 : Int) ^ j + 1 - 2 * (n / (2 : Int) ^ j % 2))]
def wfUps : WF S := fun ds s k _ => match ds with
  | [.int h, .int n] => 0 ≤ h ∧ h ≤ 8 ∧ 0 ≤ n ∧ n ≤ 256 ∧ k (.tup (ups h.toNat n)) s
  | _ => False
/-- a thing of a tree that is asked for a leaf -/
def wfLeaf (C CL : Addr) (g : Nat → Int → List D) : WF S := fun ds s k x => match ds with
  | [t, d] => ∃ h ls c, t = treeD C (.int h) (.tup ls) c ∧ 0 ≤ h ∧ h ≤ 8 ∧ ls.length ≤ 256 ∧ d.pl = true ∧ (∀ n, d = .int n → 0 ≤ n → n ≤ (ls.length : Int) - 1 → k (.tup (g h.toNat n)) s) ∧ (isIn 0 ((ls.length : Int) - 1) d = false → x ⟨CL, []⟩ s)
  | _ => False
abbrev s_nodes_above : Stmt := top 24
abbrev N_nodes_above : List Str := ["height", "leaf", "level"]
theorem sc_nodes_above : FnScope N_nodes_above ["height", "leaf"] (defScope s_nodes_above) := ⟨rfl, rfl, rfl, by decide +kernel, rfl, by decide +kernel, by decide +kernel⟩
abbrev s_path : Stmt := top 25
abbrev N_path : List Str := ["tree", "leaf"]
theorem sc_path : FnScope N_path ["tree", "leaf"] (defScope s_path) := ⟨rfl, rfl, rfl, by decide +kernel, rfl, by decide +kernel, by decide +kernel⟩
abbrev s_beside : Stmt := top 26
abbrev N_beside : List Str := ["tree", "leaf", "found", "level", "index"]
theorem sc_beside : FnScope N_beside ["tree", "leaf"] (defScope s_beside) := ⟨rfl, rfl, rfl, by decide +kernel, rfl, by decide +kernel, by decide +kernel⟩
theorem isIn_int {a b : Int} {d : D} (h : isIn a b d = true) : ∃ n, d = .int n ∧ a ≤ n ∧ n ≤ b := by
  cases d with
  | int n => exact ⟨n, rfl, by simpa [isIn] using h⟩
  | _ => cases h
section
variable {S : Type} {W : Wd S} {P : Program} {w : World} {K : PySem.W.Frag} {mg : Str → Option Value} {base : Heap} {CT CL CN : Addr}
theorem ok_nodes_above (T : Tx P w K mg) {f : Addr} {fd : FuncData} (F : FD K "nodes_above" s_nodes_above f fd) : Fn P w K mg base 1 f fd ["height", "leaf"] (spX W wfUps) := by
  refine fn_data F sc_nodes_above (fun ds s k x h => ?_) fun cv A outer s H G hr gd => ⟨_, (pss_one (ps_ret (pe_callTy (kTuple (K := K)) (by rfl) T.tuple (by decide +kernel) (pa_cons (pe_lc (own := [("level", 2)]) (g := gName 2) (by rfl) sc_nodes_above.nd (pi_range2 rfl T.range (pa_cons pe_int (pa_cons (pe_op (kAdd (K := K)) (pv 0) pe_int) pa_nil))) (blkOk_by (own := [("level", 2)]) (N := N_nodes_above) (sc := defScope s_nodes_above) (by decide +kernel)) (fun _ _ _ _ _ => pg_name (i := 2) sc_nodes_above.nd rfl (Or.inl rfl)) (fun _ _ _ _ _ => pts_nil) (fun _ _ _ _ _ => (pe_tup (pa_cons (pv 2) (pa_cons (pe_op op_shr (pv 1) (pv 2)) pa_nil))))) pa_nil)))), ?_⟩
  · match ds, h with
    | [.int _, .int _], _ => rfl
  · apply bodyW
    · walk_at "sim"
    intro ds s k x hok h
    match ds, h with
    | [.int h, .int n], ⟨h0, h8, n0, n8, hk⟩ =>
      simp
      obtain ⟨m, rfl⟩ := Int.eq_ofNat_of_zero_le h0
      refine ⟨by rw [sizeLine_eq]; omega, ⟨by omega, by omega⟩, by rw [rngD_len, sizeLine_eq]; omega, ?_⟩
      refine wLc_map (fun d => match d with | .int l => .tup [.int l, .int (n / 2 ^ l.toNat)] | _ => .non) (fun d hd kt hkt => ?_) ?_
      · obtain ⟨j, hj, rfl⟩ := List.mem_map.mp (by rw [rngD_eq] at hd; exact hd)
        simp at hkt ⊢
        exact ⟨by omega, by decide, hkt⟩
      · have e : (rngD 1 m).map (fun d => match d with | D.int l => D.tup [.int l, .int (n / 2 ^ l.toNat)] | _ => .non) = ups m n := by
          rw [rngD_eq, List.map_map]
          unfold ups
          refine List.map_congr_left fun j hj => ?_
          show D.tup [.int (1 + (j : Int)), .int (n / 2 ^ (1 + (j : Int)).toNat)] = _
          rw [show (1 + (j : Int)).toNat = j + 1 by omega, Int.add_comm]
        show k (.tup ((rngD 1 m).map _)) s
        rw [e]
        exact hk
theorem ok_path (T : Tx P w K mg) (cT : Cl K CT) (f_check_leaf : Df P w K mg base 3 "check_leaf" (spX W (wfCkL CT CL))) (f_nodes_above : Df P w K mg base 1 "nodes_above" (spX W wfUps)) {f : Addr} {fd : FuncData} (F : FD K "path" s_path f fd) : Fn P w K mg base 4 f fd ["tree", "leaf"] (spX W (wfLeaf CT CL ups)) := by
  refine fn_data F sc_path (fun ds s k x h => ?_) fun cv A outer s H G hr gd => ⟨_, (pss_cons (ps_expr (pe_df f_check_leaf hr (by omega) gd rfl (fun σ => Gl.own_pass (takes_of rfl rfl rfl rfl) σ) (pa_cons (pv 0) (pa_cons (pv 1) pa_nil))))
    (pss_one (ps_ret (pe_df f_nodes_above hr (by omega) gd rfl (fun σ => Gl.no_pass σ) (pa_cons (kFld (K := K) (pv 0) rfl) (pa_cons (pv 1) pa_nil)))))), ?_⟩
  · match ds, h with
    | [_, _], _ => rfl
  · have c1 := cT.cls
    have c2 := cT.n1
    have c3 := cT.n2
    apply bodyW
    · walk_at "sim"
    intro ds s k x hok h
    match ds, h with
    | [_, d], ⟨h, ls, c, rfl, h0, h8, l8, hp, hy, hn⟩ =>
      simp [wfCkL, wfUps, hp]
      refine ⟨_, ls, ⟨_, rfl⟩, ?_⟩
      by_cases q : isIn 0 ((ls.length : Int) - 1) d = true
      · obtain ⟨n, rfl, n0, n1⟩ := isIn_int q
        rw [if_pos q]
        exact ⟨rfl, h0, h8, n0, by omega, hy n rfl n0 n1⟩
      · rw [if_neg q]
        exact hn (by simpa using q)
theorem ok_beside (T : Tx P w K mg) (cT : Cl K CT) (f_check_leaf : Df P w K mg base 3 "check_leaf" (spX W (wfCkL CT CL))) {f : Addr} {fd : FuncData} (F : FD K "beside" s_beside f fd) : Fn P w K mg base 4 f fd ["tree", "leaf"] (spX W (wfLeaf CT CL bes)) := by
  refine fn_data F sc_beside (fun ds s k x h => ?_) fun cv A outer s H G hr gd => ⟨_, (pss_cons (ps_expr (pe_df f_check_leaf hr (by omega) gd rfl (fun σ => Gl.own_pass (takes_of rfl rfl rfl rfl) σ) (pa_cons (pv 0) (pa_cons (pv 1) pa_nil))))
    (pss_cons (ps_set (i := 2) sc_beside.nd rfl (Or.inl rfl) (pe_lst pa_nil))
    (pss_cons (ps_for (passes_of rfl) rfl (pi_range1 rfl T.range (pa_cons (kFld (K := K) (pv 0) rfl) pa_nil)) (pg_name (i := 3) sc_beside.nd rfl (Or.inl rfl))
      (pss_cons (ps_set (i := 4) sc_beside.nd rfl (Or.inl rfl) (pe_op op_shr (pv 1) (pv 3)))
    (pss_one (ps_expr (pe_bm PySem.F.plainAttrs_list PySem.F.slot_list_append PySem.F.type_list_append mt_append (pv 2) (pa_cons (pe_tup (pa_cons (pv 3) (pa_cons (pe_op op_sub (pe_op (kAdd (K := K)) (pv 4) pe_int) (pe_op (kMul (K := K)) pe_int (pe_op op_mod (pv 4) pe_int))) pa_nil))) pa_nil))))))
    (pss_one (ps_ret (pe_callTy (kTuple (K := K)) (by rfl) T.tuple (by decide +kernel) (pa_cons (pv 2) pa_nil))))))), ?_⟩
  · match ds, h with
    | [_, _], _ => rfl
  · have c1 := cT.cls
    have c2 := cT.n1
    have c3 := cT.n2
    have ow2 : OwnSl 2 := ⟨⟩
    apply bodyW
    · walk_at "sim"
    intro ds s k x hok h
    match ds, h with
    | [_, d], ⟨h, ls, c, rfl, h0, h8, l8, hp, hy, hn⟩ =>
      simp [wfCkL, wfUps, hp]
      refine ⟨_, ls, ⟨_, rfl⟩, ?_⟩
      by_cases q : isIn 0 ((ls.length : Int) - 1) d = true
      · obtain ⟨n, rfl, n0, n1⟩ := isIn_int q
        rw [if_pos q]
        obtain ⟨m, rfl⟩ := Int.eq_ofNat_of_zero_le h0
        refine ⟨rfl, by rw [sizeLine_eq]; omega, by omega, ?_⟩
        refine wFor_ind (fun r env s' => ∃ (t : Nat) (v3 v4 : Sl), s' = s ∧ t ≤ m ∧ r = rngD (t : Int) (m - t) ∧ env = [.dat (treeD CT (.int m) (.tup ls) c), .dat (.int n), .own ((List.range t).map fun (j : Nat) => D.tup [.int (j : Int), .int (n / (2 : Int) ^ j + 1 - 2 * (n / (2 : Int) ^ j % 2))]), v3, v4]) ⟨0, _, _, rfl, by omega, rfl, rfl⟩ (fun env s' hp => ?_) fun d r ih env s' hp => ?_
        · obtain ⟨t, v3, v4, rfl, ht, e0, rfl⟩ := hp
          have : t = m := by
            cases e : m - t with
            | zero => omega
            | succ u => rw [e] at e0; simp [rngD] at e0
          subst this
          exact hy n rfl n0 n1
        · obtain ⟨t, v3, v4, rfl, ht, e0, rfl⟩ := hp
          obtain ⟨u, hu⟩ : ∃ u, m - t = u + 1 := by
            cases e : m - t with
            | zero => rw [e] at e0; simp [rngD] at e0
            | succ u => exact ⟨u, rfl⟩
          rw [hu, rngD_cons] at e0
          obtain ⟨rfl, rfl⟩ := List.cons.inj e0
          simp
          refine ⟨.inl (.inl ⟨by decide, by decide⟩), by decide, by rw [sizeLine_eq]; omega, ?_⟩
          exact ih _ _ ⟨t + 1, .dat (.int t), .dat (.int (n / 2 ^ t)), rfl, by omega, by rw [show m - (t + 1) = u by omega]; rfl, by simp [List.range_succ]⟩
      · rw [if_neg q]
        exact hn (by simpa using q)
end
end Law
set_option Elab.async false
set_option linter.all false
set_option maxRecDepth 100000
set_option maxHeartbeats 8000000
namespace Law
open PySem PySem.Spec PyProof.Rows L2 Gl Dw
local macro_rules | `(tactic| walk_at "sc") => `(tactic| first
  | exact True.intro
  | (show _ ≤ sizeLine; decide +kernel))
local macro_rules | `(tactic| walk_at "sim") => `(tactic| first
  | ((with_reducible apply ss_seq) <;> walk_at "sim")
  | with_reducible exact ss_next
  | ((with_reducible apply ss_raise) <;> walk_at "sim")
  | with_reducible exact ss_raise0
  | ((with_reducible apply ss_try); walk_at "sim"; (intro _; walk_at "sim"); walk_at "sim")
  | ((with_reducible apply loc_if) <;> walk_at "sim")
  | with_reducible exact loc_asgDf
  | with_reducible exact loc_asgMk
  | ((with_reducible apply loc_seq) <;> walk_at "sim")
  | with_reducible exact loc_const
  | with_reducible exact SimHs.nil
  | ((with_reducible apply SimHs.cons); (intro _ _ _ _ _ _; walk_at "sim"); walk_at "sim")
  | with_reducible exact ss_brk
  | with_reducible exact ss_cont
  | with_reducible exact ss_retN
  | ((with_reducible apply ss_ret) <;> walk_at "sim")
  | ((with_reducible apply ss_if) <;> walk_at "sim")
  | ((with_reducible apply ss_asgO); (with_reducible assumption); walk_at "sim")
  | ((with_reducible apply ss_setL) <;> walk_at "sim")
  | ((with_reducible apply ss_pop) <;> walk_at "sim")
  | ((with_reducible apply ss_popAt) <;> walk_at "sim")
  | ((with_reducible apply ss_asg) <;> walk_at "sim")
  | ((with_reducible apply ss_par) <;> walk_at "sim")
  | ((with_reducible apply ss_par3) <;> walk_at "sim")
  | ((with_reducible apply ss_aug) <;> walk_at "sim")
  | ((with_reducible apply ss_app) <;> walk_at "sim")
  | ((with_reducible apply ss_ext) <;> walk_at "sim")
  | ((with_reducible apply ss_drop) <;> walk_at "sim")
  | ((with_reducible apply ss_for) <;> walk_at "sim")
  | ((with_reducible apply ss_while) <;> walk_at "sim")
  | with_reducible exact tg_name
  | ((with_reducible apply tg_tup) <;> walk_at "sim")
  | ((with_reducible apply tgs_cons) <;> walk_at "sim")
  | with_reducible exact tgs_nil
  | with_reducible exact sim_bgetE
  | ((with_reducible apply sim_tupRev) <;> walk_at "sim")
  | with_reducible exact sim_bget
  | ((with_reducible apply ss_bput) <;> walk_at "sim")
  | ((with_reducible apply ss_baug) <;> walk_at "sim")
  | with_reducible exact so_ixB
  | with_reducible exact sc_lenB
  | with_reducible exact so_radd
  | with_reducible exact so_rsub
  | ((with_reducible apply sim_dgetT) <;> walk_at "sim")
  | ((with_reducible apply sim_dinT) <;> walk_at "sim")
  | ((with_reducible apply sim_dnotInT) <;> walk_at "sim")
  | ((with_reducible apply sim_mt0) <;> walk_at "sim")
  | ((with_reducible apply sim_dcE) <;> walk_at "sim")
  | ((with_reducible apply si_enumT) <;> walk_at "sim")
  | with_reducible exact sc_sortI
  | with_reducible exact sim_var
  | with_reducible exact sim_varG
  | with_reducible exact sim_nil
  | with_reducible exact sim_nilB
  | ((with_reducible apply sim_cons) <;> walk_at "sim")
  | ((with_reducible apply sim_consB) <;> walk_at "sim")
  | ((with_reducible apply sim_c); walk_at "sc")
  | ((with_reducible apply sim_op) <;> walk_at "sim")
  | ((with_reducible apply sim_un) <;> walk_at "sim")
  | ((with_reducible apply sim_isG); (with_reducible assumption); walk_at "sim")
  | ((with_reducible apply sim_cb) <;> walk_at "sim")
  | ((with_reducible apply sim_tup) <;> walk_at "sim")
  | ((with_reducible apply sim_lst) <;> walk_at "sim")
  | ((with_reducible apply sim_lstF) <;> walk_at "sim")
  | ((with_reducible apply sim_call) <;> walk_at "sim")
  | ((with_reducible apply sim_callN) <;> walk_at "sim")
  | ((with_reducible apply sim_sl) <;> walk_at "sim")
  | with_reducible exact sp_no
  | ((with_reducible apply sp_part) <;> walk_at "sim")
  | ((with_reducible apply sim_test) <;> walk_at "sim")
  | ((with_reducible apply sim_tB) <;> walk_at "sim")
  | ((with_reducible apply sim_and) <;> walk_at "sim")
  | ((with_reducible apply sim_or) <;> walk_at "sim")
  | ((with_reducible apply sim_not) <;> walk_at "sim")
  | with_reducible exact sim_yes
  | ((with_reducible apply sim_andV) <;> walk_at "sim")
  | ((with_reducible apply sim_orV) <;> walk_at "sim")
  | ((with_reducible apply sim_notV) <;> walk_at "sim")
  | ((with_reducible apply sim_if) <;> walk_at "sim")
  | ((with_reducible apply sim_chain) <;> walk_at "sim")
  | ((with_reducible apply sim_lcF) <;> walk_at "sim")
  | ((with_reducible apply sim_lcE) <;> walk_at "sim")
  | ((with_reducible apply sim_lstRgF) <;> walk_at "sim")
  | ((with_reducible apply sim_lstRg) <;> walk_at "sim")
  | ((with_reducible apply sim_tupRg) <;> walk_at "sim")
  | ((with_reducible apply sim_rg1) <;> walk_at "sim")
  | ((with_reducible apply sim_rg2) <;> walk_at "sim")
  | ((with_reducible apply sim_listF) <;> walk_at "sim")
  | ((with_reducible apply sim_addF) <;> walk_at "sim")
  | ((with_reducible apply sim_join) <;> walk_at "sim")
  | ((with_reducible apply sim_lenSetS) <;> walk_at "sim")
  | ((with_reducible apply sim_fldT); (with_reducible assumption); (with_reducible assumption); walk_at "sim")
  | ((with_reducible apply sim_mk) <;> walk_at "sim")
  | ((with_reducible apply sim_mkN) <;> walk_at "sim")
  | ((with_reducible apply sim_xf); (with_reducible assumption))
  | with_reducible exact so_eqO
  | ((with_reducible apply si_x) <;> walk_at "sim")
  | ((with_reducible apply si_tup) <;> walk_at "sim")
  | ((with_reducible apply si_list) <;> walk_at "sim")
  | ((with_reducible apply si_str) <;> walk_at "sim")
  | ((with_reducible apply si_rng1) <;> walk_at "sim")
  | ((with_reducible apply si_rng2) <;> walk_at "sim")
  | ((with_reducible apply si_enum) <;> walk_at "sim")
  | ((with_reducible apply si_zip) <;> walk_at "sim")
  | with_reducible exact so_addX
  | with_reducible exact so_mulX
  | with_reducible exact so_divX
  | with_reducible exact so_eqX
  | with_reducible exact so_neX
  | with_reducible exact so_inX
  | with_reducible exact so_notInX
  | with_reducible exact so_ltX
  | with_reducible exact so_gtX
  | with_reducible exact so_geX
  | with_reducible exact so_leX
  | ((with_reducible apply so_i0s); (intros; exact True.intro))
  | ((with_reducible apply so_iCs); (intros; exact True.intro))
  | ((with_reducible apply su_is); (intros; exact True.intro))
  | with_reducible exact so_eq
  | with_reducible exact so_ne
  | with_reducible exact so_isN
  | with_reducible exact so_notN
  | with_reducible exact so_isB
  | with_reducible exact so_notB
  | with_reducible exact so_ixL
  | with_reducible exact so_ixT
  | with_reducible exact so_ixS
  | with_reducible exact so_ix
  | with_reducible exact so_in
  | with_reducible exact so_str
  | with_reducible exact so_inS
  | with_reducible exact so_notInS
  | with_reducible exact so_catT
  | with_reducible exact so_catL
  | with_reducible exact so_addS
  | with_reducible exact so_mulS
  | with_reducible exact so_repT
  | with_reducible exact so_eqD
  | with_reducible exact so_neD
  | with_reducible exact so_inD
  | with_reducible exact so_notInD
  | with_reducible exact so_leT
  | with_reducible exact sc_len
  | with_reducible exact sc_int
  | with_reducible exact sc_abs
  | with_reducible exact sc_str
  | with_reducible exact sc_mm
  | with_reducible exact sc_list
  | with_reducible exact sc_tuple
  | with_reducible exact sc_sum
  | with_reducible exact sc_all
  | with_reducible exact sc_any
  | with_reducible exact sc_isi
  | with_reducible exact sc_isiT
  | with_reducible exact sc_repr
  | with_reducible exact sl_x
  | with_reducible exact sl_t
  | with_reducible exact sl_l
  | with_reducible exact sl_s
  | ((with_reducible apply SimE.g); walk_at "sim")
  | (intros; decide)
  | skip)

def lkOf : D → List Key × D
  | .tup [.tup [.int l, .int i], lock, aside] => ([.inl l, .inl i], .tup [lock, aside])
  | _ => ([], .non)
/-- the dict of a tree's nodes -/
def lk (ns : List D) : List (List Key × D) := ns.map lkOf
def wfLocks (C : Addr) : WF S := fun ds s k _ => match ds with
  | [t] => ∃ a b ns h ls, t = treeD C a b (.tup ns) ∧ nds h ls 0 0 ns = true ∧ ns.length ≤ 1000 ∧ k (.dit (lk ns)) s
  | _ => False
/-- the leaves that are not blank -/
def mem (ls : List D) (ds : List D) : List D := ds.filter fun d => match d with
  | .int n => seen ls n
  | _ => false
def wfMems (C : Addr) : WF S := fun ds s k _ => match ds with
  | [t] => ∃ a ls c, t = treeD C a (.tup ls) c ∧ ls.length ≤ 256 ∧ k (.tup (mem ls (rngD 0 ls.length))) s
  | _ => False
/-- what is asked of the node where two leaves meet -/
def Met (n m : Int) (lv : Nat) : Prop := 1 ≤ lv ∧ lv ≤ 8 ∧ n / (2 : Int) ^ lv = m / (2 : Int) ^ lv ∧ ∀ j : Nat, 1 ≤ j → j < lv → n / (2 : Int) ^ j ≠ m / (2 : Int) ^ j
def wfMeet (C CL : Addr) : WF S := fun ds s k x => match ds with
  | [t, d, e] => ∃ a ls c, t = treeD C a (.tup ls) c ∧ ls.length ≤ 256 ∧ d.pl = true ∧ e.pl = true ∧ (isIn 0 ((ls.length : Int) - 1) d = false → x ⟨CL, []⟩ s) ∧ (isIn 0 ((ls.length : Int) - 1) e = false → x ⟨CL, []⟩ s) ∧
    ∀ n m, d = .int n → e = .int m → 0 ≤ n → n < ls.length → 0 ≤ m → m < ls.length → (n = m → x ⟨CL, []⟩ s) ∧ ∀ lv : Nat, Met n m lv → n ≠ m → k (.tup [.int lv, .int (n / (2 : Int) ^ lv)]) s
  | _ => False
abbrev s_Tree_locks : Stmt := inClass (top 21) 2
abbrev N_Tree_locks : List Str := ["self", "node", "lock", "aside"]
theorem sc_Tree_locks : FnScope N_Tree_locks ["self"] (defScope s_Tree_locks) := ⟨rfl, rfl, rfl, by decide +kernel, rfl, by decide +kernel, by decide +kernel⟩
abbrev s_members : Stmt := top 29
abbrev N_members : List Str := ["tree", "leaf", "member"]
theorem sc_members : FnScope N_members ["tree"] (defScope s_members) := ⟨rfl, rfl, rfl, by decide +kernel, rfl, by decide +kernel, by decide +kernel⟩
abbrev s_meeting : Stmt := top 30
abbrev N_meeting : List Str := ["tree", "one", "other", "level"]
theorem sc_meeting : FnScope N_meeting ["tree", "one", "other"] (defScope s_meeting) := ⟨rfl, rfl, rfl, by decide +kernel, rfl, by decide +kernel, by decide +kernel⟩
theorem wDc_map {S : Type} {g : WG} {wk wv : WE S} {vs : List Nat} {env : List Sl} {s : S} {x : Xc → S → Prop} (f : D → List Key × D) : ∀ {ds : List D} {acc : List (List Key × D)} {k : List (List Key × D) → S → Prop},
    (∀ d ∈ ds, ∀ kt : List Key → D → S → Prop, kt (f d).1 (f d).2 s → g d (wp env vs) fun e1 => wk e1 s (fun y s2 => wv e1 s2 (fun z s3 => match y with
      | .tup ys => ∃ kk, D.keys ys = some kk ∧ kt kk z s3
      | _ => False) x) x) → k (ds.foldl (fun a d => putD a (f d).1 (f d).2) acc) s → wDc g (fun _ s k _ => k true s) wk wv vs ds acc env s k x
  | [], _, _, _, hk => hk
  | d :: r, acc, k, h, hk => by
    unfold wDc
    simp only [if_true]
    exact h d (by simp) (fun kk z s3 => wDc g (fun _ s k _ => k true s) wk wv vs r (putD acc kk z) env s3 k x) (wDc_map f (fun e he => h e (by simp [he])) hk)
theorem nds_cons {h : Nat} {ls : List D} {a b : Int} {d : D} {r : List D} (q : nds h ls a b (d :: r) = true) : ∃ l i lock v, d = .tup [.tup [.int l, .int i], lock, v] ∧ nodeB h (.tup [.int l, .int i]) = true ∧ leP [l, i] [a, b] = false ∧ lockOk lock = true ∧ asideOk l i ls v = true ∧ nds h ls l i r = true := by
  match d, q with
  | .tup [.tup [.int l, .int i], lock, v], q =>
    simp only [nds, Bool.and_eq_true, Bool.not_eq_true'] at q
    exact ⟨l, i, lock, v, rfl, q.1.1.1.1, q.1.1.1.2, q.1.1.2, q.1.2, q.2⟩
theorem nds_mem {h : Nat} {ls : List D} : ∀ {ns : List D} {a b : Int} {d : D}, nds h ls a b ns = true → d ∈ ns → ∃ l i lock v, d = .tup [.tup [.int l, .int i], lock, v] ∧ nodeB h (.tup [.int l, .int i]) = true ∧ leP [l, i] [a, b] = false ∧ lockOk lock = true ∧ asideOk l i ls v = true
  | e :: r, a, b, d, q, hd => by
    obtain ⟨l, i, lock, v, rfl, q1, q2, q3, q4, q5⟩ := nds_cons q
    rcases List.mem_cons.mp hd with rfl | hd
    · exact ⟨l, i, lock, v, rfl, q1, q2, q3, q4⟩
    · obtain ⟨l', i', k', v', rfl, p1, p2, p3, p4⟩ := nds_mem q5 hd
      refine ⟨l', i', k', v', rfl, p1, ?_, p3, p4⟩
      rw [leP2] at p2 q2 ⊢
      simp at p2 q2 ⊢
      omega
theorem lk_fold {h : Nat} {ls : List D} : ∀ {ns : List D} {a b : Int} {acc : List (List Key × D)}, nds h ls a b ns = true → (∀ p ∈ acc, ∃ l i : Int, p.1 = [.inl l, .inl i] ∧ leP [l, i] [a, b] = true) → ns.foldl (fun a d => putD a (lkOf d).1 (lkOf d).2) acc = acc ++ lk ns
  | [], _, _, acc, _, _ => by simp [lk]
  | d :: r, a, b, acc, q, ha => by
    obtain ⟨l, i, lock, v, rfl, q1, q2, q3, q4, q5⟩ := nds_cons q
    have new : putD acc [.inl l, .inl i] (.tup [lock, v]) = acc ++ [([.inl l, .inl i], .tup [lock, v])] := by
      unfold putD
      rw [if_neg]
      intro z
      obtain ⟨p, hp, e⟩ := List.any_eq_true.mp z
      have e := of_decide_eq_true e
      obtain ⟨l', i', e2, h2⟩ := ha p hp
      rw [e2] at e
      simp at e
      rw [e.1, e.2, q2] at h2
      cases h2
    rw [List.foldl_cons]
    show r.foldl _ (putD acc [.inl l, .inl i] (.tup [lock, v])) = _
    rw [new, lk_fold q5 fun p hp => ?_]
    · simp [lk, lkOf]
    · rcases List.mem_append.mp hp with hp | hp
      · obtain ⟨l', i', e2, h2⟩ := ha p hp
        refine ⟨l', i', e2, ?_⟩
        rw [leP2] at h2 q2 ⊢
        simp at h2 q2 ⊢
        omega
      · rw [List.mem_singleton.mp hp]
        exact ⟨l, i, rfl, by rw [leP2]; simp⟩
theorem enum_shape : ∀ {n : Nat} {ds : List D} {d : D}, d ∈ enumD n ds → ∃ i e, d = .tup [.int i, e]
  | _, [], _, h => by cases h
  | n, x :: r, d, h => by
    rcases List.mem_cons.mp h with rfl | h
    · exact ⟨_, _, rfl⟩
    · exact enum_shape h
theorem enum_mem {ls : List D} : ∀ {ds pre : List D}, ls = pre ++ ds → (((enumD pre.length ds).filter fun d => match d with | .tup [_, .non] => false | _ => true).map fun d => match d with | .tup [i, _] => i | _ => .non) = mem ls (rngD pre.length ds.length)
  | [], pre, _ => by simp [enumD, rngD, mem]
  | d :: r, pre, e => by
    have ih := enum_mem (ls := ls) (ds := r) (pre := pre ++ [d]) (by rw [e]; simp)
    have at_ : atI ls (pre.length : Int) = some d := by
      rw [e]
      exact (atI_nat (by simp))
    rw [show (pre ++ [d]).length = pre.length + 1 by simp] at ih
    show ((D.tup [.int (pre.length : Nat), d] :: enumD (pre.length + 1) r).filter _).map _ = mem ls (rngD pre.length (r.length + 1))
    rw [rngD_cons, show ((pre.length : Int) + 1) = ((pre.length + 1 : Nat) : Int) by omega]
    cases d with
    | non =>
      have : seen ls pre.length = false := by unfold seen; rw [at_]
      rw [List.filter_cons_of_neg (by simp), ih]
      unfold mem
      rw [List.filter_cons_of_neg (by simp [this])]
    | _ =>
      have : seen ls pre.length = true := by unfold seen; rw [at_]
      rw [List.filter_cons_of_pos (by simp), List.map_cons, ih]
      unfold mem
      rw [List.filter_cons_of_pos (by simp [this])]
section
variable {S : Type} {W : Wd S} {P : Program} {w : World} {K : PySem.W.Frag} {mg : Str → Option Value} {base : Heap} {CT CL CN : Addr}
theorem ok_Tree_locks (T : Tx P w K mg) (cT : Cl K CT) {f : Addr} {fd : FuncData} (F : FunD K "locks" "Tree.locks" (defArgs s_Tree_locks) (defBody s_Tree_locks) (defScope s_Tree_locks) [] [] f fd) : Fn P w K mg base 1 f fd ["self"] (spX W (wfLocks CT)) := by
  refine fn_data F sc_Tree_locks (fun ds s k x h => ?_) fun cv A outer s H G hr gd => ⟨_, (pss_one (ps_ret (pe_dcT (own := [("node", 1), ("lock", 2), ("aside", 3)]) (huB hr) (by rfl) sc_Tree_locks.nd (kpi (K := K) (kFld (K := K) (pv 0) rfl)) (blkOk_by (own := [("node", 1), ("lock", 2), ("aside", 3)]) (N := N_Tree_locks) (sc := defScope s_Tree_locks) (by decide +kernel)) (fun _ _ _ _ _ => kTup (K := K) (n := 3) rfl (pgs_cons (pg_name (i := 1) sc_Tree_locks.nd rfl (Or.inl rfl)) (pgs_cons (pg_name (i := 2) sc_Tree_locks.nd rfl (Or.inl rfl)) (pgs_cons (pg_name (i := 3) sc_Tree_locks.nd rfl (Or.inl rfl)) pgs_nil)))) (fun _ _ _ _ _ => pts_nil) (fun _ _ _ _ _ => (pv 1)) (fun _ _ _ _ _ => (pe_tup (pa_cons (pv 2) (pa_cons (pv 3) pa_nil))))))), ?_⟩
  · match ds, h with
    | [_], _ => rfl
  · have c1 := cT.cls
    have c2 := cT.n3
    apply bodyW
    · walk_at "sim"
    intro ds s k x hok h
    match ds, h with
    | [_], ⟨a, b, ns, h, ls, rfl, hn, hl, hk⟩ =>
      simp [treeD, lkN]
      refine ⟨by rw [sizeLine_eq]; omega, wDc_map lkOf (fun d hd kt hkt => ?_) ?_⟩
      · obtain ⟨l, i, lock, v, rfl, _⟩ := nds_mem hn hd
        simp
        exact ⟨by decide, _, rfl, hkt⟩
      · rw [lk_fold hn (fun p hp => by cases hp)]
        exact hk
theorem ok_members (T : Tx P w K mg) (cT : Cl K CT) {f : Addr} {fd : FuncData} (F : FD K "members" s_members f fd) : Fn P w K mg base 1 f fd ["tree"] (spX W (wfMems CT)) := by
  refine fn_data F sc_members (fun ds s k x h => ?_) fun cv A outer s H G hr gd => ⟨_, (pss_one (ps_ret (pe_callTy (kTuple (K := K)) (by rfl) T.tuple (by decide +kernel) (pa_cons (pe_lc (own := [("leaf", 1), ("member", 2)]) (g := gTup K 2 (gCons (gName 1) (gCons (gName 2) gNil))) (by rfl) sc_members.nd (pi_enumT (K := K) rfl T.enumerate (pa_cons (kFld (K := K) (pv 0) rfl) pa_nil)) (blkOk_by (own := [("leaf", 1), ("member", 2)]) (N := N_members) (sc := defScope s_members) (by decide +kernel)) (fun _ _ _ _ _ => kTup (K := K) (n := 2) rfl (pgs_cons (pg_name (i := 1) sc_members.nd rfl (Or.inl rfl)) (pgs_cons (pg_name (i := 2) sc_members.nd rfl (Or.inl rfl)) pgs_nil))) (fun _ _ _ _ _ => (pts_one (pt_cmpR op_notN1 (pv 2) pe_non (nomark _)))) (fun _ _ _ _ _ => (pv 1))) pa_nil)))), ?_⟩
  · match ds, h with
    | [_], _ => rfl
  · have c1 := cT.cls
    have c2 := cT.n2
    apply bodyW
    · walk_at "sim"
    intro ds s k x hok h
    match ds, h with
    | [_], ⟨a, ls, c, rfl, hl, hk⟩ =>
      simp [treeD, lkL]
      refine ⟨by rw [enumD_len, sizeLine_eq]; omega, ?_⟩
      refine wLc_pure (fun d => match d with | .tup [_, .non] => false | _ => true) (fun d => match d with | .tup [i, _] => i | _ => .non) (fun d hd kt kf h1 h2 => ?_) ?_
      · obtain ⟨i, e, rfl⟩ : ∃ i e, d = .tup [.int i, e] := enum_shape hd
        cases e <;> simp at h1 h2 ⊢ <;> assumption
      · have := enum_mem (ls := ls) (ds := ls) (pre := []) rfl
        simp only [List.length_nil] at this
        rw [this]
        exact hk
theorem ok_meeting (T : Tx P w K mg) (cT : Cl K CT) (r_NoLeaf : E0c K mg "NoLeaf" CL) (f_check_leaf : Df P w K mg base 3 "check_leaf" (spX W (wfCkL CT CL))) {f : Addr} {fd : FuncData} (F : FD K "meeting" s_meeting f fd) : Fn P w K mg base 4 f fd ["tree", "one", "other"] (spX W (wfMeet CT CL)) := by
  refine fn_data F sc_meeting (fun ds s k x h => ?_) fun cv A outer s H G hr gd => ⟨_, (pss_cons (ps_expr (pe_df f_check_leaf hr (by omega) gd rfl (fun σ => Gl.own_pass (takes_of rfl rfl rfl rfl) σ) (pa_cons (pv 0) (pa_cons (pv 1) pa_nil))))
    (pss_cons (ps_expr (pe_df f_check_leaf hr (by omega) gd rfl (fun σ => Gl.own_pass (takes_of rfl rfl rfl rfl) σ) (pa_cons (pv 0) (pa_cons (pv 2) pa_nil))))
    (pss_cons (ps_if (pt_cmpR (kEq (K := K) hr) (pv 1) (pv 2) (nomark _)) (pss_one (ps_raise rfl (takes_of rfl rfl rfl rfl) (pmk_0 r_NoLeaf.exc (r_NoLeaf.raises rfl) r_NoLeaf.mgx r_NoLeaf.keep rfl))) pss_nil)
    (pss_cons (ps_set (i := 3) sc_meeting.nd rfl (Or.inl rfl) pe_int)
    (pss_cons (ps_while (passes_of rfl) (pt_cmpR (kNe (K := K) hr) (pe_op op_shr (pv 1) (pv 3)) (pe_op op_shr (pv 2) (pv 3)) (nomark _)) (pss_one (ps_aug (i := 3) sc_meeting.nd rfl (Or.inl rfl) pe_int ip_add)))
    (pss_one (ps_ret (pe_tup (pa_cons (pv 3) (pa_cons (pe_op op_shr (pv 1) (pv 3)) pa_nil)))))))))), ?_⟩
  · match ds, h with
    | [_, _, _], _ => rfl
  · apply bodyW
    · walk_at "sim"
    intro ds s k x hok h
    match ds, h with
    | [_, d, e], ⟨a, ls, c, rfl, l8, p1, p2, h1, h2, h3⟩ =>
      simp [wfCkL]
      refine ⟨_, ls, ⟨_, rfl⟩, p1, ?_⟩
      by_cases q1 : isIn 0 ((ls.length : Int) - 1) d = true
      · rw [if_pos q1]
        refine ⟨_, ls, ⟨_, rfl⟩, p2, ?_⟩
        by_cases q2 : isIn 0 ((ls.length : Int) - 1) e = true
        · rw [if_pos q2]
          obtain ⟨n, rfl, n0, n1⟩ := isIn_int q1
          obtain ⟨m, rfl, m0, m1⟩ := isIn_int q2
          obtain ⟨h4, h5⟩ := h3 n m rfl rfl n0 (by omega) m0 (by omega)
          show if decide (n = m) = true then _ else _
          by_cases q : n = m
          · rw [if_pos (by simpa using q)]
            exact h4 q
          · rw [if_neg (by simpa using q)]
            have z : ∀ y : Int, 0 ≤ y → y < 256 → y / (2 : Int) ^ 8 = 0 := fun y a b => Int.ediv_eq_zero_of_lt a b
            refine wWh_ind (fun v env s' => ∃ t : Nat, v = 9 - t ∧ s' = s ∧ 1 ≤ t ∧ t ≤ 8 ∧ (∀ j : Nat, 1 ≤ j → j < t → n / (2 : Int) ^ j ≠ m / (2 : Int) ^ j) ∧ env = [.dat (treeD CT a (.tup ls) c), .dat (.int n), .dat (.int m), .dat (.int (t : Int))]) (n := 8) ⟨1, rfl, rfl, by omega, by omega, fun j h1 h2 => by omega, rfl⟩ (fun v ih env s' hp => ?_)
            obtain ⟨t, rfl, rfl, t1, t8, ht, rfl⟩ := hp
            by_cases eq : n / (2 : Int) ^ t = m / (2 : Int) ^ t
            · refine ⟨1, ?_⟩
              unfold wWhN
              simp [eq]
              exact ⟨by decide, by have := h5 t ⟨t1, t8, eq, ht⟩ q; rw [eq] at this; exact this⟩
            · have t7 : t < 8 := by
                rcases Nat.lt_or_ge t 8 with h | h
                · exact h
                · exfalso
                  have : t = 8 := by omega
                  subst this
                  exact eq ((z n n0 (by omega)).trans (z m m0 (by omega)).symm)
              obtain ⟨j, hj⟩ := ih (9 - (t + 1)) [.dat (treeD CT a (.tup ls) c), .dat (.int n), .dat (.int m), .dat (.int ((t + 1 : Nat) : Int))] s' (by omega) ⟨t + 1, rfl, rfl, by omega, by omega, fun j h1 h2 => by
                rcases Nat.lt_or_ge j t with h | h
                · exact ht j h1 h
                · have : j = t := by omega
                  subst this
                  exact eq, rfl⟩
              refine ⟨j + 1, ?_⟩
              unfold wWhN
              simp [eq]
              exact hj
        · rw [if_neg q2]
          exact h2 (by simpa using q2)
      · rw [if_neg q1]
        exact h1 (by simpa using q1)
end
end Law
set_option Elab.async false
set_option linter.all false
set_option maxRecDepth 100000
set_option maxHeartbeats 8000000
namespace Law
open PySem PySem.Spec PyProof.Rows L2 Gl Dw
local macro_rules | `(tactic| walk_at "sc") => `(tactic| first
  | exact True.intro
  | (show _ ≤ sizeLine; decide +kernel))
local macro_rules | `(tactic| walk_at "sim") => `(tactic| first
  | ((with_reducible apply ss_seq) <;> walk_at "sim")
  | with_reducible exact ss_next
  | ((with_reducible apply ss_raise) <;> walk_at "sim")
  | with_reducible exact ss_raise0
  | ((with_reducible apply ss_try); walk_at "sim"; (intro _; walk_at "sim"); walk_at "sim")
  | ((with_reducible apply loc_if) <;> walk_at "sim")
  | with_reducible exact loc_asgDf
  | with_reducible exact loc_asgMk
  | ((with_reducible apply loc_seq) <;> walk_at "sim")
  | with_reducible exact loc_const
  | with_reducible exact SimHs.nil
  | ((with_reducible apply SimHs.cons); (intro _ _ _ _ _ _; walk_at "sim"); walk_at "sim")
  | with_reducible exact ss_brk
  | with_reducible exact ss_cont
  | with_reducible exact ss_retN
  | ((with_reducible apply ss_ret) <;> walk_at "sim")
  | ((with_reducible apply ss_if) <;> walk_at "sim")
  | ((with_reducible apply ss_asgO); (with_reducible assumption); walk_at "sim")
  | ((with_reducible apply ss_setL) <;> walk_at "sim")
  | ((with_reducible apply ss_pop) <;> walk_at "sim")
  | ((with_reducible apply ss_popAt) <;> walk_at "sim")
  | ((with_reducible apply ss_asg) <;> walk_at "sim")
  | ((with_reducible apply ss_par) <;> walk_at "sim")
  | ((with_reducible apply ss_par3) <;> walk_at "sim")
  | ((with_reducible apply ss_aug) <;> walk_at "sim")
  | ((with_reducible apply ss_app) <;> walk_at "sim")
  | ((with_reducible apply ss_ext) <;> walk_at "sim")
  | ((with_reducible apply ss_drop) <;> walk_at "sim")
  | ((with_reducible apply ss_for) <;> walk_at "sim")
  | ((with_reducible apply ss_while) <;> walk_at "sim")
  | with_reducible exact tg_name
  | ((with_reducible apply tg_tup) <;> walk_at "sim")
  | ((with_reducible apply tgs_cons) <;> walk_at "sim")
  | with_reducible exact tgs_nil
  | with_reducible exact sim_bgetE
  | ((with_reducible apply sim_tupRev) <;> walk_at "sim")
  | with_reducible exact sim_bget
  | ((with_reducible apply ss_bput) <;> walk_at "sim")
  | ((with_reducible apply ss_baug) <;> walk_at "sim")
  | with_reducible exact so_ixB
  | with_reducible exact sc_lenB
  | with_reducible exact so_radd
  | with_reducible exact so_rsub
  | ((with_reducible apply sim_dgetT) <;> walk_at "sim")
  | ((with_reducible apply sim_dinT) <;> walk_at "sim")
  | ((with_reducible apply sim_dnotInT) <;> walk_at "sim")
  | ((with_reducible apply sim_mt0) <;> walk_at "sim")
  | ((with_reducible apply sim_dcE) <;> walk_at "sim")
  | ((with_reducible apply si_enumT) <;> walk_at "sim")
  | with_reducible exact sc_sortI
  | with_reducible exact sim_var
  | with_reducible exact sim_varG
  | with_reducible exact sim_nil
  | with_reducible exact sim_nilB
  | ((with_reducible apply sim_cons) <;> walk_at "sim")
  | ((with_reducible apply sim_consB) <;> walk_at "sim")
  | ((with_reducible apply sim_c); walk_at "sc")
  | ((with_reducible apply sim_op) <;> walk_at "sim")
  | ((with_reducible apply sim_un) <;> walk_at "sim")
  | ((with_reducible apply sim_isG); (with_reducible assumption); walk_at "sim")
  | ((with_reducible apply sim_cb) <;> walk_at "sim")
  | ((with_reducible apply sim_tup) <;> walk_at "sim")
  | ((with_reducible apply sim_lst) <;> walk_at "sim")
  | ((with_reducible apply sim_lstF) <;> walk_at "sim")
  | ((with_reducible apply sim_call) <;> walk_at "sim")
  | ((with_reducible apply sim_callN) <;> walk_at "sim")
  | ((with_reducible apply sim_sl) <;> walk_at "sim")
  | with_reducible exact sp_no
  | ((with_reducible apply sp_part) <;> walk_at "sim")
  | ((with_reducible apply sim_test) <;> walk_at "sim")
  | ((with_reducible apply sim_tB) <;> walk_at "sim")
  | ((with_reducible apply sim_and) <;> walk_at "sim")
  | ((with_reducible apply sim_or) <;> walk_at "sim")
  | ((with_reducible apply sim_not) <;> walk_at "sim")
  | with_reducible exact sim_yes
  | ((with_reducible apply sim_andV) <;> walk_at "sim")
  | ((with_reducible apply sim_orV) <;> walk_at "sim")
  | ((with_reducible apply sim_notV) <;> walk_at "sim")
  | ((with_reducible apply sim_if) <;> walk_at "sim")
  | ((with_reducible apply sim_chain) <;> walk_at "sim")
  | ((with_reducible apply sim_lcF) <;> walk_at "sim")
  | ((with_reducible apply sim_lcE) <;> walk_at "sim")
  | ((with_reducible apply sim_lstRgF) <;> walk_at "sim")
  | ((with_reducible apply sim_lstRg) <;> walk_at "sim")
  | ((with_reducible apply sim_tupRg) <;> walk_at "sim")
  | ((with_reducible apply sim_rg1) <;> walk_at "sim")
  | ((with_reducible apply sim_rg2) <;> walk_at "sim")
  | ((with_reducible apply sim_listF) <;> walk_at "sim")
  | ((with_reducible apply sim_addF) <;> walk_at "sim")
  | ((with_reducible apply sim_join) <;> walk_at "sim")
  | ((with_reducible apply sim_lenSetS) <;> walk_at "sim")
  | ((with_reducible apply sim_fldT); (with_reducible assumption); (with_reducible assumption); walk_at "sim")
  | ((with_reducible apply sim_mk) <;> walk_at "sim")
  | ((with_reducible apply sim_mkN) <;> walk_at "sim")
  | ((with_reducible apply sim_xf); (with_reducible assumption))
  | with_reducible exact so_eqO
  | ((with_reducible apply si_x) <;> walk_at "sim")
  | ((with_reducible apply si_tup) <;> walk_at "sim")
  | ((with_reducible apply si_list) <;> walk_at "sim")
  | ((with_reducible apply si_str) <;> walk_at "sim")
  | ((with_reducible apply si_rng1) <;> walk_at "sim")
  | ((with_reducible apply si_rng2) <;> walk_at "sim")
  | ((with_reducible apply si_enum) <;> walk_at "sim")
  | ((with_reducible apply si_zip) <;> walk_at "sim")
  | with_reducible exact so_addX
  | with_reducible exact so_mulX
  | with_reducible exact so_divX
  | with_reducible exact so_eqX
  | with_reducible exact so_neX
  | with_reducible exact so_inX
  | with_reducible exact so_notInX
  | with_reducible exact so_ltX
  | with_reducible exact so_gtX
  | with_reducible exact so_geX
  | with_reducible exact so_leX
  | ((with_reducible apply so_i0s); (intros; exact True.intro))
  | ((with_reducible apply so_iCs); (intros; exact True.intro))
  | ((with_reducible apply su_is); (intros; exact True.intro))
  | with_reducible exact so_eq
  | with_reducible exact so_ne
  | with_reducible exact so_isN
  | with_reducible exact so_notN
  | with_reducible exact so_isB
  | with_reducible exact so_notB
  | with_reducible exact so_ixL
  | with_reducible exact so_ixT
  | with_reducible exact so_ixS
  | with_reducible exact so_ix
  | with_reducible exact so_in
  | with_reducible exact so_str
  | with_reducible exact so_inS
  | with_reducible exact so_notInS
  | with_reducible exact so_catT
  | with_reducible exact so_catL
  | with_reducible exact so_addS
  | with_reducible exact so_mulS
  | with_reducible exact so_repT
  | with_reducible exact so_eqD
  | with_reducible exact so_neD
  | with_reducible exact so_inD
  | with_reducible exact so_notInD
  | with_reducible exact so_leT
  | with_reducible exact sc_len
  | with_reducible exact sc_int
  | with_reducible exact sc_abs
  | with_reducible exact sc_str
  | with_reducible exact sc_mm
  | with_reducible exact sc_list
  | with_reducible exact sc_tuple
  | with_reducible exact sc_sum
  | with_reducible exact sc_all
  | with_reducible exact sc_any
  | with_reducible exact sc_isi
  | with_reducible exact sc_isiT
  | with_reducible exact sc_repr
  | with_reducible exact sl_x
  | with_reducible exact sl_t
  | with_reducible exact sl_l
  | with_reducible exact sl_s
  | ((with_reducible apply SimE.g); walk_at "sim")
  | (intros; decide)
  | skip)

def isNd (l i : Int) : D → Bool
  | .tup (.tup [.int a, .int b] :: _) => decide (a = l) && decide (b = i)
  | _ => false
def asOf : D → List D
  | .tup [_, _, .tup as] => as
  | _ => []
/-- who is aside at the node, if it isn't blank -/
def nodeAt (ns : List D) (l i : Int) : Option (List D) := (ns.find? (isNd l i)).map asOf
def res (ls ns : List D) : Nat → Int → List D
  | 0, i => if seen ls i = true then [.tup [.int 0, .int i]] else []
  | l + 1, i => match nodeAt ns ((l + 1 : Nat) : Int) i with
    | some as => .tup [.int ((l + 1 : Nat) : Int), .int i] :: as.map fun d => .tup [.int 0, d]
    | none => res ls ns l (2 * i) ++ res ls ns l (2 * i + 1)
/-- who of these holds the node -/
def hdp (ls as : List D) : D → Bool
  | .int n => seen ls n && !inD (.int n) as
  | _ => false
def hold (ls ns : List D) (l : Nat) (i : Int) : List D := match (if l = 0 then some [] else nodeAt ns l i) with
  | none => []
  | some as => (ben l i).filter (hdp ls as)
/-- l, i is a node of a tree of height h -/
def Nd (h : Nat) (l : Nat) (i : Int) : Prop := l ≤ h ∧ 0 ≤ i ∧ (i + 1) * (2 : Int) ^ l ≤ (2 : Int) ^ h
def wfRes (C : Addr) (n : Nat) : WF S := fun ds s k _ => match ds with
  | [t, d, e] => ∃ a h ls ns, ∃ (l : Nat) (i : Int), t = treeD C a (.tup ls) (.tup ns) ∧ d = .dit (lk ns) ∧ e = .tup [.int l, .int i] ∧ Gt h ls ns ∧ l < n ∧ Nd h l i ∧ k (.lst (res ls ns l i)) s
  | _ => False
/-- a thing of a tree that is asked for a node -/
def wfNd (C CN : Addr) (g : List D → List D → Nat → Int → List D) : WF S := fun ds s k x => match ds with
  | [t, d] => ∃ (h : Nat) (ls ns : List D), t = treeD C (.int h) (.tup ls) (.tup ns) ∧ Gt h ls ns ∧ d.pl = true ∧ (∀ (l : Nat) (i : Int), d = .tup [.int l, .int i] → Nd h l i → k (.tup (g ls ns l i)) s) ∧ (nodeG h d = false → x ⟨CN, []⟩ s)
  | _ => False
abbrev s_resolved : Stmt := top 27
abbrev N_resolved : List Str := ["tree", "locks", "node", "level", "index", "leaf"]
theorem sc_resolved : FnScope N_resolved ["tree", "locks", "node"] (defScope s_resolved) := ⟨rfl, rfl, rfl, by decide +kernel, rfl, by decide +kernel, by decide +kernel⟩
abbrev s_resolution : Stmt := top 28
abbrev N_resolution : List Str := ["tree", "node"]
theorem sc_resolution : FnScope N_resolution ["tree", "node"] (defScope s_resolution) := ⟨rfl, rfl, rfl, by decide +kernel, rfl, by decide +kernel, by decide +kernel⟩
abbrev s_holders : Stmt := top 31
abbrev N_holders : List Str := ["tree", "node", "locks", "aside", "leaf"]
theorem sc_holders : FnScope N_holders ["tree", "node"] (defScope s_holders) := ⟨rfl, rfl, rfl, by decide +kernel, rfl, by decide +kernel, by decide +kernel⟩
theorem nd_of {h : Nat} {d : D} (q : nodeG h d = true) : ∃ (l : Nat) (i : Int), d = .tup [.int l, .int i] ∧ Nd h l i := by
  match d, q with
  | .tup [.int l, b], q =>
    simp only [nodeG, Bool.and_eq_true, decide_eq_true_eq] at q
    obtain ⟨⟨l0, l1⟩, q⟩ := q
    obtain ⟨i, rfl, i0, i1⟩ := isIn_int q
    obtain ⟨m, rfl⟩ := Int.eq_ofNat_of_zero_le l0
    have lm : m ≤ h := by omega
    refine ⟨m, i, rfl, lm, i0, ?_⟩
    have e : (2 : Int) ^ h = (2 : Int) ^ (h - m) * (2 : Int) ^ m := by rw [← Int.pow_add]; congr 1; omega
    rw [e]
    have i1 : i ≤ 2 ^ (h - m) - 1 := i1
    exact Int.mul_le_mul_of_nonneg_right (by omega) (Int.pow_nonneg (by decide))
theorem val_lk {h : Nat} {ls : List D} {l i : Int} : ∀ {ns : List D} {a b : Int}, nds h ls a b ns = true → valD (lk ns) [.inl l, .inl i] = (ns.find? (isNd l i)).map fun d => (lkOf d).2
  | [], _, _, _ => rfl
  | d :: r, a, b, q => by
    obtain ⟨l', i', lock, v, rfl, _, _, _, _, q5⟩ := nds_cons q
    have ih := val_lk (l := l) (i := i) q5
    unfold valD at ih ⊢
    show ((([.inl l', .inl i'], D.tup [lock, v]) :: lk r).find? _).map _ = _
    rw [List.find?_cons, List.find?_cons]
    by_cases e : l' = l ∧ i' = i
    · obtain ⟨rfl, rfl⟩ := e
      simp [isNd, lkOf]
    · have e1 : decide (([.inl l', .inl i'] : List Key) = [.inl l, .inl i]) = false := by
        apply decide_eq_false
        intro z
        simp at z
        exact e z
      have e2 : isNd l i (.tup [.tup [.int l', .int i'], lock, v]) = false := by
        simp [isNd]
        intro z y
        exact e ⟨z, y⟩
      rw [e1, e2]
      exact ih
/-- the node's entry: nobody, or its lock with those aside, that ascend beneath it -/
theorem node_val {h : Nat} {ls ns : List D} {l i : Int} (g : nds h ls 0 0 ns = true) : (valD (lk ns) [.inl l, .inl i] = none ∧ nodeAt ns l i = none) ∨ ∃ lock as, valD (lk ns) [.inl l, .inl i] = some (.tup [lock, .tup as]) ∧ nodeAt ns l i = some as ∧ asd l i ls (-1) as = true := by
  rw [val_lk g]
  unfold nodeAt
  cases e : ns.find? (isNd l i) with
  | none => exact .inl ⟨rfl, rfl⟩
  | some d =>
    obtain ⟨l', i', lock, v, rfl, _, _, _, q4⟩ := nds_mem g (List.mem_of_find?_eq_some e)
    have p := List.find?_some e
    simp [isNd] at p
    obtain ⟨rfl, rfl⟩ := p
    cases v with
    | tup as => exact .inr ⟨lock, as, rfl, rfl, q4⟩
    | _ => cases q4
theorem asd_len {l : Nat} {i : Int} {ls : List D} : ∀ {as : List D} {a : Int}, asd l i ls a as = true → i * 2 ^ l - 1 ≤ a → (as.length : Int) ≤ i * 2 ^ l + 2 ^ l - 1 - a ∨ as = []
  | [], _, _, _ => .inr rfl
  | .int n :: r, a, q, ha => by
    simp only [asd, Bool.and_eq_true, decide_eq_true_eq] at q
    obtain ⟨⟨q1, q2, q3⟩, q4⟩ := q
    unfold ben at q2
    rw [inD_rng] at q2
    simp at q2
    rcases asd_len q4 (by omega) with h | h
    · left
      simp
      omega
    · subst h
      left
      simp
      omega
theorem asd_le {l : Nat} {i : Int} {ls as : List D} (q : asd l i ls (-1) as = true) (i0 : 0 ≤ i) : as.length ≤ 2 ^ l := by
  match as, q with
  | [], _ => exact Nat.zero_le _
  | .int n :: r, q =>
    simp only [asd, Bool.and_eq_true, decide_eq_true_eq] at q
    obtain ⟨⟨q1, q2, q3⟩, q4⟩ := q
    unfold ben at q2
    rw [inD_rng] at q2
    simp at q2
    have c : ((2 : Int) ^ l) = ((2 ^ l : Nat) : Int) := by simp
    rcases asd_len q4 (by omega) with h | h
    · simp
      omega
    · subst h
      simp
      exact Nat.one_le_two_pow
theorem Gt.nodes {h : Nat} {ls ns : List D} (g : Gt h ls ns) : nds h ls 0 0 ns = true := g.2.2.2.1
theorem Gt.len {h : Nat} {ls ns : List D} (g : Gt h ls ns) : ls.length = 2 ^ h := by
  have := g.2.1
  simp [leavesOk] at this
  exact this.1.1
theorem at_some {ls : List D} {i : Int} (i0 : 0 ≤ i) (i1 : i < ls.length) : ∃ x, atI ls i = some x ∧ ls[i.toNat]? = some x := by
  obtain ⟨j, rfl⟩ := Int.eq_ofNat_of_zero_le i0
  have hj : j < ls.length := by omega
  exact ⟨ls[j], atI_nat (by rw [List.getElem?_eq_getElem hj]), by simp [hj]⟩
theorem Nd.half {h l : Nat} {i : Int} (q : Nd h (l + 1) i) : Nd h l (2 * i) ∧ Nd h l (2 * i + 1) := by
  obtain ⟨q1, q2, q3⟩ := q
  have p0 : (0 : Int) ≤ (2 : Int) ^ l := Int.pow_nonneg (by decide)
  have e : (i + 1) * (2 : Int) ^ (l + 1) = (2 * i + 1 + 1) * (2 : Int) ^ l := by
    rw [Int.pow_succ, Int.mul_comm ((2 : Int) ^ l) 2, ← Int.mul_assoc, show (i + 1) * 2 = 2 * i + 1 + 1 by omega]
  rw [e] at q3
  refine ⟨⟨by omega, by omega, ?_⟩, ⟨by omega, by omega, q3⟩⟩
  rw [Int.add_mul (2 * i + 1) 1] at q3
  omega
theorem res_len {h : Nat} {ls ns : List D} (g : nds h ls 0 0 ns = true) : ∀ {l : Nat} {i : Int}, 0 ≤ i → (res ls ns l i).length ≤ 2 ^ (l + 1)
  | 0, i, _ => by
    unfold res
    split <;> simp
  | l + 1, i, i0 => by
    unfold res
    have p : 0 < 2 ^ (l + 1) := Nat.two_pow_pos _
    have e : 2 ^ (l + 1 + 1) = 2 ^ (l + 1) * 2 := Nat.pow_succ ..
    rcases node_val (l := ((l + 1 : Nat) : Int)) (i := i) g with ⟨_, hn⟩ | ⟨lock, as, _, hn, ha⟩
    · rw [hn]
      have h1 := res_len g (l := l) (i := 2 * i) (by omega)
      have h2 := res_len g (l := l) (i := 2 * i + 1) (by omega)
      simp only [List.length_append]
      omega
    · rw [hn]
      have := asd_le ha i0
      simp
      omega
theorem ite_t {p a b : Prop} [Decidable p] (h : p) (x : a) : if p then a else b := by rw [if_pos h]; exact x
theorem ite_f {p a b : Prop} [Decidable p] (h : ¬ p) (x : b) : if p then a else b := by rw [if_neg h]; exact x
theorem hdp_turn {ls as : List D} {n : Int} {b : Bool} (hb : b = seen ls n) {kt kf : Prop} (h1 : hdp ls as (.int n) = true → kt) (h2 : hdp ls as (.int n) = false → kf) :
    if b = true then (if inD (.int n) as = true then kf else kt) else kf := by
  subst hb
  by_cases q : seen ls n = true
  · refine ite_t q ?_
    by_cases z : inD (.int n) as = true
    · exact ite_t z (h2 (by simp [hdp, z]))
    · exact ite_f z (h1 (by simp [hdp, q, z]))
  · exact ite_f q (h2 (by simp [hdp, q]))
section
variable {S : Type} {W : Wd S} {P : Program} {w : World} {K : PySem.W.Frag} {mg : Str → Option Value} {base : Heap} {CT CL CN : Addr} {n : Nat}
theorem ok_resolved (T : Tx P w K mg) (cT : Cl K CT) (f_resolved : Df P w K mg base (n + 1) "resolved" (spX W (wfRes CT n))) {f : Addr} {fd : FuncData} (F : FD K "resolved" s_resolved f fd) : Fn P w K mg base (n + 2) f fd ["tree", "locks", "node"] (spX W (wfRes CT (n + 1))) := by
  refine fn_data F sc_resolved (fun ds s k x h => ?_) fun cv A outer s H G hr gd => ⟨_, (pss_cons (ps_asg (pv 2) (kTup (K := K) (n := 2) rfl (pgs_cons (pg_name (i := 3) sc_resolved.nd rfl (Or.inl rfl)) (pgs_cons (pg_name (i := 4) sc_resolved.nd rfl (Or.inl rfl)) pgs_nil))))
    (pss_cons (ps_if (pt_cmpR (kEq (K := K) hr) (pv 3) pe_int (nomark _)) (pss_one (ps_ret (pe_ifExp (pt_cmpR op_isN1 (pe_ix (kIx (K := K)) (kFld (K := K) (pv 0) rfl) (pv 4) (fun _ _ => rfl)) pe_non (nomark _)) (pe_lst pa_nil) (pe_lst (pa_cons (pv 2) pa_nil))))) pss_nil)
    (pss_cons (ps_if (pt_cmp (pc_din (huB hr) (pv 2) (pv 1))) (pss_one (ps_ret (pe_op (kAdd (K := K)) (pe_lst (pa_cons (pv 2) pa_nil)) (pe_lc (own := [("leaf", 5)]) (g := gName 5) (by rfl) sc_resolved.nd (kpi (K := K) (pe_ix (kIx (K := K)) (pe_dget (huB hr) (pv 1) (pv 2) (fun _ _ => rfl)) pe_int (fun _ _ => rfl))) (blkOk_by (own := [("leaf", 5)]) (N := N_resolved) (sc := defScope s_resolved) (by decide +kernel)) (fun _ _ _ _ _ => pg_name (i := 5) sc_resolved.nd rfl (Or.inl rfl)) (fun _ _ _ _ _ => pts_nil) (fun _ _ _ _ _ => (pe_tup (pa_cons pe_int (pa_cons (pv 5) pa_nil)))))))) pss_nil)
    (pss_one (ps_ret (pe_op (kAdd (K := K)) (pe_df f_resolved hr (by omega) gd rfl (fun σ => Gl.no_pass σ) (pa_cons (pv 0) (pa_cons (pv 1) (pa_cons (pe_tup (pa_cons (pe_op op_sub (pv 3) pe_int) (pa_cons (pe_op (kMul (K := K)) pe_int (pv 4)) pa_nil))) pa_nil)))) (pe_df f_resolved hr (by omega) gd rfl (fun σ => Gl.no_pass σ) (pa_cons (pv 0) (pa_cons (pv 1) (pa_cons (pe_tup (pa_cons (pe_op op_sub (pv 3) pe_int) (pa_cons (pe_op (kAdd (K := K)) (pe_op (kMul (K := K)) pe_int (pv 4)) pe_int) pa_nil))) pa_nil)))))))))), ?_⟩
  · match ds, h with
    | [_, _, _], _ => rfl
  · have c1 := cT.cls
    have c3 := cT.n2
    apply bodyW
    · walk_at "sim"
    intro ds s k x hok h
    match ds, h with
    | [_, _, _], ⟨a, h, ls, ns, l, i, rfl, rfl, rfl, g, ln, nd, hk⟩ =>
      simp [treeD, lkL, wfRes]
      have h8 := g.1
      have ll := g.len
      obtain ⟨n1, n2, n3⟩ := nd
      have nd : Nd h l i := ⟨n1, n2, n3⟩
      cases l with
      | zero =>
        rw [if_pos rfl]
        have i1 : i < ls.length := by
          have c : ((2 : Int) ^ h) = ((2 ^ h : Nat) : Int) := by simp
          rw [c, Int.pow_zero, Int.mul_one] at n3
          omega
        obtain ⟨y, hy, _⟩ := at_some n2 i1
        unfold res seen at hk
        rw [hy] at hk ⊢
        cases y with
        | non => exact hk
        | _ => exact ⟨by decide, hk⟩
      | succ l =>
        rw [if_neg (Nat.succ_ne_zero l)]
        refine ⟨[.inl ((l + 1 : Nat) : Int), .inl i], rfl, ?_⟩
        have p9 : 2 ^ (l + 1) ≤ 2 ^ 8 := Nat.pow_le_pow_right (by decide) (by omega)
        rcases node_val (l := ((l + 1 : Nat) : Int)) (i := i) g.nodes with ⟨hv, hn⟩ | ⟨lock, as, hv, hn, ha⟩
        · unfold res at hk
          rw [hn] at hk
          rw [hv, if_neg (by simp)]
          have l1 := res_len g.nodes (l := l) (i := 2 * i) (by omega)
          have l2 := res_len g.nodes (l := l) (i := 2 * i + 1) (by omega)
          exact ⟨.inl (.inl ⟨by decide, by decide⟩), by decide, a, h, ls, ns, ⟨rfl, rfl, rfl⟩, rfl, l, 2 * i, ⟨by omega, rfl⟩, g, by omega, nd.half.1, .inl (.inl ⟨by decide, by decide⟩), by decide, a, h, ls, ns, ⟨rfl, rfl, rfl⟩, rfl, l, 2 * i + 1, ⟨by omega, rfl⟩, g, by omega, nd.half.2, by rw [sizeLine_eq]; omega, hk⟩
        · unfold res at hk
          rw [hn] at hk
          rw [hv, if_pos (show (some (D.tup [lock, D.tup as])).isSome = true from rfl)]
          have la := asd_le ha n2
          refine ⟨by decide, _, rfl, _, hv, ?_⟩
          refine ⟨by rw [sizeLine_eq]; omega, wLc_map (fun d => .tup [.int 0, d]) (fun d hd kt hkt => ?_) ?_⟩
          · simp
            exact ⟨by decide, hkt⟩
          · exact ⟨by rw [List.length_map, sizeLine_eq]; omega, hk⟩
theorem ok_resolution (T : Tx P w K mg) (cT : Cl K CT) (f_check_node : Df P w K mg base 4 "check_node" (spX W (wfCkN CT CN))) (f_resolved : Df P w K mg base 11 "resolved" (spX W (wfRes CT 9))) (q_Tree_locks : Cf P w K mg base 1 CT "locks" (spX W (wfLocks CT))) {f : Addr} {fd : FuncData} (F : FD K "resolution" s_resolution f fd) :
    Fn P w K mg base 12 f fd ["tree", "node"] (spX W (wfNd CT CN fun ls ns l i => res ls ns l i)) := by
  refine fn_data F sc_resolution (fun ds s k x h => ?_) fun cv A outer s H G hr gd => ⟨_, (pss_cons (ps_expr (pe_df f_check_node hr (by omega) gd rfl (fun σ => Gl.own_pass (takes_of rfl rfl rfl rfl) σ) (pa_cons (pv 0) (pa_cons (pv 1) pa_nil))))
    (pss_one (ps_ret (pe_callTy (kTuple (K := K)) (by rfl) T.tuple (by decide +kernel) (pa_cons (pe_df f_resolved hr (by omega) gd rfl (fun σ => Gl.no_pass σ) (pa_cons (pv 0) (pa_cons (pe_mt0 q_Tree_locks hr (by omega) gd (fun σ => Gl.no_pass σ) (pv 0)) (pa_cons (pv 1) pa_nil)))) pa_nil))))), ?_⟩
  · match ds, h with
    | [_, _], _ => rfl
  · have c1 := cT.cls
    have c3 := cT.n2
    apply bodyW
    · walk_at "sim"
    intro ds s k x hok h
    match ds, h with
    | [_, d], ⟨h, ls, ns, rfl, g, hp, hy, hn⟩ =>
      simp [wfCkN, wfLocks, wfRes]
      have h8 := g.1
      refine ⟨h, ⟨_, _, rfl⟩, by omega, by omega, hp, ?_⟩
      by_cases q : nodeG (h : Int).toNat d = true
      · rw [if_pos q]
        obtain ⟨l, i, rfl, nd⟩ := nd_of q
        refine ⟨rfl, fun a b hm => ?_, _, _, ns, rfl, ⟨h, ls, g.nodes⟩, Nat.le_trans g.2.2.2.2.1 (by decide), _, h, ls, ns, rfl, rfl, l, i, rfl, g, by have := nd.1; omega, nd, hy l i rfl nd⟩
        simp at hm
        rcases hm with ⟨rfl, _⟩ | ⟨rfl, _⟩ | ⟨rfl, _⟩ <;> decide
      · rw [if_neg q]
        exact hn (by simpa using q)
theorem ok_holders (T : Tx P w K mg) (cT : Cl K CT) (f_check_node : Df P w K mg base 4 "check_node" (spX W (wfCkN CT CN))) (f_leaves_beneath : Df P w K mg base 1 "leaves_beneath" (spX W wfBen)) (q_Tree_locks : Cf P w K mg base 1 CT "locks" (spX W (wfLocks CT))) {f : Addr} {fd : FuncData} (F : FD K "holders" s_holders f fd) :
    Fn P w K mg base 12 f fd ["tree", "node"] (spX W (wfNd CT CN fun ls ns l i => hold ls ns l i)) := by
  refine fn_data F sc_holders (fun ds s k x h => ?_) fun cv A outer s H G hr gd => ⟨_, (pss_cons (ps_expr (pe_df f_check_node hr (by omega) gd rfl (fun σ => Gl.own_pass (takes_of rfl rfl rfl rfl) σ) (pa_cons (pv 0) (pa_cons (pv 1) pa_nil))))
    (pss_cons (ps_set (i := 2) sc_holders.nd rfl (Or.inl rfl) (pe_mt0 q_Tree_locks hr (by omega) gd (fun σ => Gl.no_pass σ) (pv 0)))
    (pss_cons (ps_if (PW.pt (pw_and (pt_cmpR op_gtX (pe_ix (kIx (K := K)) (pv 1) pe_int (fun _ _ => rfl)) pe_int (nomark _)) (pw_and1 (pt_cmp (pc_dnotin (huB hr) (pv 1) (pv 2)))))) (pss_one (ps_ret (pe_tup pa_nil))) pss_nil)
    (pss_cons (ps_set (i := 3) sc_holders.nd rfl (Or.inr rfl) (pe_ifExp (pt_cmpR op_gtX (pe_ix (kIx (K := K)) (pv 1) pe_int (fun _ _ => rfl)) pe_int (nomark _)) (pe_ix (kIx (K := K)) (pe_dget (huB hr) (pv 2) (pv 1) (fun _ _ => rfl)) pe_int (fun _ _ => rfl)) (pe_tup pa_nil)))
    (pss_one (ps_ret (pe_callTy (kTuple (K := K)) (by rfl) T.tuple (by decide +kernel) (pa_cons (pe_lc (own := [("leaf", 4)]) (g := gName 4) (by rfl) sc_holders.nd (kpi (K := K) (pe_df f_leaves_beneath hr (by omega) gd rfl (fun σ => Gl.no_pass σ) (pa_cons (pv 1) pa_nil))) (blkOk_by (own := [("leaf", 4)]) (N := N_holders) (sc := defScope s_holders) (by decide +kernel)) (fun _ _ _ _ _ => pg_name (i := 4) sc_holders.nd rfl (Or.inl rfl)) (fun _ _ _ _ _ => (pts_one (PW.pt (pw_and (pt_cmpR op_notN1 (pe_ix (kIx (K := K)) (kFld (K := K) (pv 0) rfl) (pv 4) (fun _ _ => rfl)) pe_non (nomark _)) (pw_and1 (pt_cmpR (kNotIn (K := K) hr) (pv 4) (pv 3) rfl)))))) (fun _ _ _ _ _ => (pv 4))) pa_nil)))))))), ?_⟩
  · match ds, h with
    | [_, _], _ => rfl
  · have c1 := cT.cls
    have c3 := cT.n2
    apply bodyW
    · walk_at "sim"
    intro ds s k x hok h
    match ds, h with
    | [_, d], ⟨h, ls, ns, rfl, g, hp, hy, hn⟩ =>
      simp [wfCkN, wfLocks, wfBen]
      have h8 := g.1
      refine ⟨h, ⟨_, _, rfl⟩, by omega, by omega, hp, ?_⟩
      by_cases q : nodeG (h : Int).toNat d = true
      · rw [if_pos q]
        obtain ⟨l, i, rfl, nd⟩ := nd_of q
        refine ⟨rfl, fun a b hm => ?_, _, _, ns, rfl, ⟨h, ls, g.nodes⟩, Nat.le_trans g.2.2.2.2.1 (by decide), ?_⟩
        · simp at hm
          rcases hm with ⟨rfl, _⟩ | ⟨rfl, _⟩ | ⟨rfl, _⟩ <;> decide
        have key := hy l i rfl nd
        simp only [hold] at key
        obtain ⟨n1, n2, n3⟩ := nd
        have n1 : l ≤ h := n1
        have c : ((2 : Int) ^ h) = ((2 ^ h : Nat) : Int) := by simp
        have cl : ((2 : Int) ^ l) = ((2 ^ l : Nat) : Int) := by simp
        have ll := g.len
        have n3 : (i + 1) * (2 : Int) ^ l ≤ (2 : Int) ^ h := n3
        have p8 : 2 ^ h ≤ 2 ^ 8 := Nat.pow_le_pow_right (by decide) h8
        have pl : 2 ^ l ≤ 2 ^ h := Nat.pow_le_pow_right (by decide) n1
        have i8 : i ≤ 256 := by
          have : (i + 1) * 1 ≤ (i + 1) * (2 : Int) ^ l := Int.mul_le_mul_of_nonneg_left (by rw [cl]; have := Nat.two_pow_pos l; omega) (by omega)
          omega
        have turn : ∀ d ∈ ben l i, ∃ n : Int, d = .int n ∧ 0 ≤ n ∧ n < ls.length := fun d hd => by
          have e : (i + 1) * (2 : Int) ^ l = i * 2 ^ l + 2 ^ l := by rw [Int.add_mul, Int.one_mul]
          have p : (0 : Int) ≤ i * 2 ^ l := Int.mul_nonneg n2 (Int.pow_nonneg (by decide))
          unfold ben at hd
          rw [rngD_eq] at hd
          obtain ⟨j, hj, rfl⟩ := List.mem_map.mp hd
          have hj := List.mem_range.mp hj
          exact ⟨_, rfl, by simp only [Int.toNat_natCast] at hj ⊢; omega, by simp only [Int.toNat_natCast] at hj ⊢; omega⟩
        by_cases l0 : l = 0
        · subst l0
          refine ite_f (p := (0 : Int) < ((0 : Nat) : Int)) (by omega) ?_
          refine ite_f (p := (0 : Int) < ((0 : Nat) : Int)) (by omega) ?_
          refine ⟨by omega, by omega, n2, i8, by simp [ben, rngD_len]; decide, ?_⟩
          refine wLc_pure (hdp ls []) id (fun d hd kt kf h1 h2 => ?_) ?_
          · obtain ⟨n, rfl, n0, n1⟩ := turn d hd
            obtain ⟨y, hy, _⟩ := at_some n0 n1
            simp [treeD, lkL, hy, flatIn, D.sv]
            exact hdp_turn (by unfold seen; rw [hy]; cases y <;> rfl) h1 h2
          · rw [List.map_id]
            exact key
        · have l1 : (0 : Int) < (l : Int) := by omega
          rw [if_neg l0] at key
          refine ite_t (p := (0 : Int) < (l : Int)) l1 ?_
          refine ⟨[.inl (l : Int), .inl i], rfl, ?_⟩
          rcases node_val (l := (l : Int)) (i := i) g.nodes with ⟨hv, hnn⟩ | ⟨lock, as, hv, hnn, ha⟩
          · rw [hnn] at key
            exact ite_t hv key
          · rw [hnn] at key
            refine ite_f (by rw [hv]; simp) ?_
            refine ite_t (p := (0 : Int) < (l : Int)) l1 ?_
            refine ⟨[.inl (l : Int), .inl i], rfl, _, hv, ?_⟩
            refine ⟨by omega, by omega, n2, i8, by simp only [ben, rngD_len, Int.toNat_natCast]; rw [sizeLine_eq]; omega, ?_⟩
            obtain ⟨xs, rfl⟩ := ints_of (asd_ints _ _ _ _ _ ha)
            refine wLc_pure (hdp ls (xs.map D.int)) id (fun d hd kt kf h1 h2 => ?_) ?_
            · obtain ⟨n, rfl, n0, n1⟩ := turn d hd
              obtain ⟨y, hy, _⟩ := at_some n0 n1
              have fl := flatIn_ints n xs
              simp [treeD, lkL, hy, fl]
              exact hdp_turn (by unfold seen; rw [hy]; cases y <;> rfl) h1 h2
            · rw [List.map_id]
              exact key
      · rw [if_neg q]
        exact hn (by simpa using q)
end
end Law
set_option Elab.async false
set_option linter.all false
set_option maxRecDepth 100000
set_option maxHeartbeats 8000000
namespace Law
open PySem PySem.Spec PyProof.Rows L2 Gl Dw
local macro_rules | `(tactic| walk_at "sc") => `(tactic| first
  | exact True.intro
  | (show _ ≤ sizeLine; decide +kernel))
local macro_rules | `(tactic| walk_at "sim") => `(tactic| first
  | ((with_reducible apply ss_seq) <;> walk_at "sim")
  | with_reducible exact ss_next
  | ((with_reducible apply ss_raise) <;> walk_at "sim")
  | with_reducible exact ss_raise0
  | ((with_reducible apply ss_try); walk_at "sim"; (intro _; walk_at "sim"); walk_at "sim")
  | ((with_reducible apply loc_if) <;> walk_at "sim")
  | with_reducible exact loc_asgDf
  | with_reducible exact loc_asgMk
  | ((with_reducible apply loc_seq) <;> walk_at "sim")
  | with_reducible exact loc_const
  | with_reducible exact SimHs.nil
  | ((with_reducible apply SimHs.cons); (intro _ _ _ _ _ _; walk_at "sim"); walk_at "sim")
  | with_reducible exact ss_brk
  | with_reducible exact ss_cont
  | with_reducible exact ss_retN
  | ((with_reducible apply ss_ret) <;> walk_at "sim")
  | ((with_reducible apply ss_if) <;> walk_at "sim")
  | ((with_reducible apply ss_asgO); (with_reducible assumption); walk_at "sim")
  | ((with_reducible apply ss_setL) <;> walk_at "sim")
  | ((with_reducible apply ss_pop) <;> walk_at "sim")
  | ((with_reducible apply ss_popAt) <;> walk_at "sim")
  | ((with_reducible apply ss_asg) <;> walk_at "sim")
  | ((with_reducible apply ss_par) <;> walk_at "sim")
  | ((with_reducible apply ss_par3) <;> walk_at "sim")
  | ((with_reducible apply ss_aug) <;> walk_at "sim")
  | ((with_reducible apply ss_app) <;> walk_at "sim")
  | ((with_reducible apply ss_ext) <;> walk_at "sim")
  | ((with_reducible apply ss_drop) <;> walk_at "sim")
  | ((with_reducible apply ss_for) <;> walk_at "sim")
  | ((with_reducible apply ss_while) <;> walk_at "sim")
  | with_reducible exact tg_name
  | ((with_reducible apply tg_tup) <;> walk_at "sim")
  | ((with_reducible apply tgs_cons) <;> walk_at "sim")
  | with_reducible exact tgs_nil
  | with_reducible exact sim_bgetE
  | ((with_reducible apply sim_tupRev) <;> walk_at "sim")
  | with_reducible exact sim_bget
  | ((with_reducible apply ss_bput) <;> walk_at "sim")
  | ((with_reducible apply ss_baug) <;> walk_at "sim")
  | with_reducible exact so_ixB
  | with_reducible exact sc_lenB
  | with_reducible exact so_radd
  | with_reducible exact so_rsub
  | ((with_reducible apply sim_dgetT) <;> walk_at "sim")
  | ((with_reducible apply sim_dinT) <;> walk_at "sim")
  | ((with_reducible apply sim_dnotInT) <;> walk_at "sim")
  | ((with_reducible apply sim_mt0) <;> walk_at "sim")
  | ((with_reducible apply sim_dcE) <;> walk_at "sim")
  | ((with_reducible apply si_enumT) <;> walk_at "sim")
  | with_reducible exact sc_sortI
  | with_reducible exact sim_var
  | with_reducible exact sim_varG
  | with_reducible exact sim_nil
  | with_reducible exact sim_nilB
  | ((with_reducible apply sim_cons) <;> walk_at "sim")
  | ((with_reducible apply sim_consB) <;> walk_at "sim")
  | ((with_reducible apply sim_c); walk_at "sc")
  | ((with_reducible apply sim_op) <;> walk_at "sim")
  | ((with_reducible apply sim_un) <;> walk_at "sim")
  | ((with_reducible apply sim_isG); (with_reducible assumption); walk_at "sim")
  | ((with_reducible apply sim_cb) <;> walk_at "sim")
  | ((with_reducible apply sim_tup) <;> walk_at "sim")
  | ((with_reducible apply sim_lst) <;> walk_at "sim")
  | ((with_reducible apply sim_lstF) <;> walk_at "sim")
  | ((with_reducible apply sim_call) <;> walk_at "sim")
  | ((with_reducible apply sim_callN) <;> walk_at "sim")
  | ((with_reducible apply sim_sl) <;> walk_at "sim")
  | with_reducible exact sp_no
  | ((with_reducible apply sp_part) <;> walk_at "sim")
  | ((with_reducible apply sim_test) <;> walk_at "sim")
  | ((with_reducible apply sim_tB) <;> walk_at "sim")
  | ((with_reducible apply sim_and) <;> walk_at "sim")
  | ((with_reducible apply sim_or) <;> walk_at "sim")
  | ((with_reducible apply sim_not) <;> walk_at "sim")
  | with_reducible exact sim_yes
  | ((with_reducible apply sim_andV) <;> walk_at "sim")
  | ((with_reducible apply sim_orV) <;> walk_at "sim")
  | ((with_reducible apply sim_notV) <;> walk_at "sim")
  | ((with_reducible apply sim_if) <;> walk_at "sim")
  | ((with_reducible apply sim_chain) <;> walk_at "sim")
  | ((with_reducible apply sim_lcF) <;> walk_at "sim")
  | ((with_reducible apply sim_lcE) <;> walk_at "sim")
  | ((with_reducible apply sim_lstRgF) <;> walk_at "sim")
  | ((with_reducible apply sim_lstRg) <;> walk_at "sim")
  | ((with_reducible apply sim_tupRg) <;> walk_at "sim")
  | ((with_reducible apply sim_rg1) <;> walk_at "sim")
  | ((with_reducible apply sim_rg2) <;> walk_at "sim")
  | ((with_reducible apply sim_listF) <;> walk_at "sim")
  | ((with_reducible apply sim_addF) <;> walk_at "sim")
  | ((with_reducible apply sim_join) <;> walk_at "sim")
  | ((with_reducible apply sim_lenSetS) <;> walk_at "sim")
  | ((with_reducible apply sim_fldT); (with_reducible assumption); (with_reducible assumption); walk_at "sim")
  | ((with_reducible apply sim_mk) <;> walk_at "sim")
  | ((with_reducible apply sim_mkN) <;> walk_at "sim")
  | ((with_reducible apply sim_xf); (with_reducible assumption))
  | with_reducible exact so_eqO
  | ((with_reducible apply si_x) <;> walk_at "sim")
  | ((with_reducible apply si_tup) <;> walk_at "sim")
  | ((with_reducible apply si_list) <;> walk_at "sim")
  | ((with_reducible apply si_str) <;> walk_at "sim")
  | ((with_reducible apply si_rng1) <;> walk_at "sim")
  | ((with_reducible apply si_rng2) <;> walk_at "sim")
  | ((with_reducible apply si_enum) <;> walk_at "sim")
  | ((with_reducible apply si_zip) <;> walk_at "sim")
  | with_reducible exact so_addX
  | with_reducible exact so_mulX
  | with_reducible exact so_divX
  | with_reducible exact so_eqX
  | with_reducible exact so_neX
  | with_reducible exact so_inX
  | with_reducible exact so_notInX
  | with_reducible exact so_ltX
  | with_reducible exact so_gtX
  | with_reducible exact so_geX
  | with_reducible exact so_leX
  | ((with_reducible apply so_i0s); (intros; exact True.intro))
  | ((with_reducible apply so_iCs); (intros; exact True.intro))
  | ((with_reducible apply su_is); (intros; exact True.intro))
  | with_reducible exact so_eq
  | with_reducible exact so_ne
  | with_reducible exact so_isN
  | with_reducible exact so_notN
  | with_reducible exact so_isB
  | with_reducible exact so_notB
  | with_reducible exact so_ixL
  | with_reducible exact so_ixT
  | with_reducible exact so_ixS
  | with_reducible exact so_ix
  | with_reducible exact so_in
  | with_reducible exact so_str
  | with_reducible exact so_inS
  | with_reducible exact so_notInS
  | with_reducible exact so_catT
  | with_reducible exact so_catL
  | with_reducible exact so_addS
  | with_reducible exact so_mulS
  | with_reducible exact so_repT
  | with_reducible exact so_eqD
  | with_reducible exact so_neD
  | with_reducible exact so_inD
  | with_reducible exact so_notInD
  | with_reducible exact so_leT
  | with_reducible exact sc_len
  | with_reducible exact sc_int
  | with_reducible exact sc_abs
  | with_reducible exact sc_str
  | with_reducible exact sc_mm
  | with_reducible exact sc_list
  | with_reducible exact sc_tuple
  | with_reducible exact sc_sum
  | with_reducible exact sc_all
  | with_reducible exact sc_any
  | with_reducible exact sc_isi
  | with_reducible exact sc_isiT
  | with_reducible exact sc_repr
  | with_reducible exact sl_x
  | with_reducible exact sl_t
  | with_reducible exact sl_l
  | with_reducible exact sl_s
  | ((with_reducible apply SimE.g); walk_at "sim")
  | (intros; decide)
  | skip)

def wfWays : WF S := fun ds s k _ => match ds with
  | [.int h, .int n] => 0 ≤ h ∧ h ≤ 8 ∧ 0 ≤ n ∧ n ≤ 256 ∧ k (.lst [.tup (ups h.toNat n), .tup (bes h.toNat n)]) s
  | _ => False
def wfDueR (n : Nat) : WF S := fun ds s k _ => match ds with
  | [t, e] => ∃ (h : Nat) (ls ns : List D) (l : Nat) (i : Int), t = .lst [.int h, .tup ls, .tup ns] ∧ e = .tup [.int l, .int i] ∧ Gt h ls ns ∧ l < n ∧ Nd h l i ∧ k (.tup (res ls ns l i)) s
  | _ => False
def wfDueH : WF S := fun ds s k _ => match ds with
  | [t, e] => ∃ (h : Nat) (ls ns : List D) (l : Nat) (i : Int), t = .lst [.int h, .tup ls, .tup ns] ∧ e = .tup [.int l, .int i] ∧ Gt h ls ns ∧ Nd h l i ∧ k (.tup (hold ls ns l i)) s
  | _ => False
def wfMet : WF S := fun ds s k _ => match ds with
  | [.int n, .int m] => 0 ≤ n ∧ n < 256 ∧ 0 ≤ m ∧ m < 256 ∧ n ≠ m ∧ ∀ lv : Nat, Met n m lv → k (.tup [.int lv, .int (n / (2 : Int) ^ lv)]) s
  | _ => False
abbrev s__law_ways : Stmt := top 41
abbrev N__law_ways : List Str := ["height", "leaf", "above", "others", "index", "level"]
theorem sc__law_ways : FnScope N__law_ways ["height", "leaf"] (defScope s__law_ways) := ⟨rfl, rfl, rfl, by decide +kernel, rfl, by decide +kernel, by decide +kernel⟩
abbrev s__law_due_resolution : Stmt := top 42
abbrev N__law_due_resolution : List Str := ["parts", "node", "known", "one", "leaf", "level", "index"]
theorem sc__law_due_resolution : FnScope N__law_due_resolution ["parts", "node"] (defScope s__law_due_resolution) := ⟨rfl, rfl, rfl, by decide +kernel, rfl, by decide +kernel, by decide +kernel⟩
abbrev s__law_due_holders : Stmt := top 43
abbrev N__law_due_holders : List Str := ["parts", "node", "known", "one", "leaf"]
theorem sc__law_due_holders : FnScope N__law_due_holders ["parts", "node"] (defScope s__law_due_holders) := ⟨rfl, rfl, rfl, by decide +kernel, rfl, by decide +kernel, by decide +kernel⟩
abbrev s__law_met : Stmt := top 44
abbrev N__law_met : List Str := ["one", "other", "level", "k"]
theorem sc__law_met : FnScope N__law_met ["one", "other"] (defScope s__law_met) := ⟨rfl, rfl, rfl, by decide +kernel, rfl, by decide +kernel, by decide +kernel⟩
theorem filt {h : Nat} {ls ns : List D} {l i : Int} (g : nds h ls 0 0 ns = true) : (ns.filter (isNd l i) = [] ∧ nodeAt ns l i = none) ∨ ∃ lock as r, ns.filter (isNd l i) = .tup [.tup [.int l, .int i], lock, .tup as] :: r ∧ nodeAt ns l i = some as ∧ asd l i ls (-1) as = true := by
  have e : (ns.filter (isNd l i)).head? = ns.find? (isNd l i) := List.head?_filter
  unfold nodeAt
  rw [← e]
  cases q : ns.filter (isNd l i) with
  | nil => exact .inl ⟨rfl, rfl⟩
  | cons y r =>
    have hy : y ∈ ns.filter (isNd l i) := by rw [q]; simp
    obtain ⟨h1, h2⟩ := List.mem_filter.mp hy
    obtain ⟨l', i', lock, v, rfl, _, _, _, q4⟩ := nds_mem g h1
    simp [isNd] at h2
    obtain ⟨rfl, rfl⟩ := h2
    cases v with
    | tup as => exact .inr ⟨lock, as, r, rfl, rfl, q4⟩
    | _ => cases q4
/-- the comparing of a node -/
theorem eq_nd {l i l' i' : Int} {k : Bool → Prop} (h : k (decide (l' = l) && decide (i' = i))) : ∃ a b, (D.tup [.int l', .int i']).py = some a ∧ (D.tup [.int l, .int i]).py = some b ∧ SeqAt.shaped a = true ∧ SeqAt.shaped b = true ∧ k (PyData.eqv a b) := by
  refine ⟨.tuple [.int l', .int i'], .tuple [.int l, .int i], rfl, rfl, rfl, rfl, ?_⟩
  have : PyData.eqv (.tuple [.int l', .int i']) (.tuple [.int l, .int i]) = (decide (l' = l) && decide (i' = i)) := by
    simp only [PyData.eqv, PyData.eqvAll, Bool.and_true]
    rfl
  rw [this]
  exact h
theorem met_ex {n m : Int} (n0 : 0 ≤ n) (n1 : n < 256) (m0 : 0 ≤ m) (m1 : m < 256) : ∃ lv, Met n m lv := by
  have z : ∀ y : Int, 0 ≤ y → y < 256 → y / (2 : Int) ^ 8 = 0 := fun y a b => Int.ediv_eq_zero_of_lt a b
  have go : ∀ u t : Nat, t + u = 8 → 1 ≤ t → (∀ j : Nat, 1 ≤ j → j < t → n / (2 : Int) ^ j ≠ m / (2 : Int) ^ j) → ∃ lv, Met n m lv := by
    intro u
    induction u with
    | zero =>
      intro t ht t1 h
      have : t = 8 := by omega
      subst this
      exact ⟨8, by omega, by omega, by rw [z n n0 n1, z m m0 m1], h⟩
    | succ u ih =>
      intro t ht t1 h
      by_cases q : n / (2 : Int) ^ t = m / (2 : Int) ^ t
      · exact ⟨t, t1, by omega, q, h⟩
      · refine ih (t + 1) (by omega) (by omega) fun j h1 h2 => ?_
        rcases Nat.lt_or_ge j t with h3 | h3
        · exact h j h1 h3
        · have : j = t := by omega
          subst this
          exact q
  exact go 7 1 rfl (by omega) fun j h1 h2 => by omega
theorem met_eq {n m : Int} {a b : Nat} (h : Met n m a) (h' : Met n m b) : a = b := by
  obtain ⟨a1, a2, a3, a4⟩ := h
  obtain ⟨b1, b2, b3, b4⟩ := h'
  rcases Nat.lt_trichotomy a b with q | q | q
  · exact absurd a3 (b4 a a1 q)
  · exact q
  · exact absurd b3 (a4 b b1 q)
theorem cdiv2 (y : Int) (h0 : 0 ≤ y) (h1 : y ≤ 256) : CDiv y 2 ∨ CDivW y 2 := by
  exact .inl ⟨by decide, by decide⟩
theorem at0 {α : Type} {a : α} {r : List α} : atI (a :: r) 0 = some a := atI_nat (j := 0) rfl
theorem at1 {α : Type} {a b : α} {r : List α} : atI (a :: b :: r) 1 = some b := atI_nat (j := 1) rfl
theorem at2 {α : Type} {a b c : α} {r : List α} : atI (a :: b :: c :: r) 2 = some c := atI_nat (j := 2) rfl
/-- the leaves beneath a node -/
theorem nd_turn {h : Nat} {ls ns : List D} {l : Nat} {i : Int} (g : Gt h ls ns) (nd : Nd h l i) : i ≤ 256 ∧ (ben (l : Int) i).length ≤ 256 ∧ ∀ d ∈ ben (l : Int) i, ∃ n : Int, d = .int n ∧ 0 ≤ n ∧ n < ls.length := by
  obtain ⟨n1, n2, n3⟩ := nd
  have h8 := g.1
  have c : ((2 : Int) ^ h) = ((2 ^ h : Nat) : Int) := by simp
  have cl : ((2 : Int) ^ l) = ((2 ^ l : Nat) : Int) := by simp
  have ll := g.len
  have p8 : 2 ^ h ≤ 2 ^ 8 := Nat.pow_le_pow_right (by decide) h8
  have pl : 2 ^ l ≤ 2 ^ h := Nat.pow_le_pow_right (by decide) n1
  refine ⟨?_, by simp only [ben, rngD_len, Int.toNat_natCast]; omega, fun d hd => ?_⟩
  · have : (i + 1) * 1 ≤ (i + 1) * (2 : Int) ^ l := Int.mul_le_mul_of_nonneg_left (by rw [cl]; have := Nat.two_pow_pos l; omega) (by omega)
    omega
  · have e : (i + 1) * (2 : Int) ^ l = i * 2 ^ l + 2 ^ l := by rw [Int.add_mul, Int.one_mul]
    have p : (0 : Int) ≤ i * 2 ^ l := Int.mul_nonneg n2 (Int.pow_nonneg (by decide))
    unfold ben at hd
    rw [rngD_eq] at hd
    obtain ⟨j, hj, rfl⟩ := List.mem_map.mp hd
    have hj := List.mem_range.mp hj
    exact ⟨_, rfl, by simp only [Int.toNat_natCast] at hj ⊢; omega, by simp only [Int.toNat_natCast] at hj ⊢; omega⟩
theorem half_more (n : Int) (t : Nat) : n / (2 : Int) ^ t / 2 = n / (2 : Int) ^ (t + 1) := by
  rw [Int.pow_succ, Int.ediv_ediv_of_nonneg (Int.pow_nonneg (by decide))]
section
variable {S : Type} {W : Wd S} {P : Program} {w : World} {K : PySem.W.Frag} {mg : Str → Option Value} {base : Heap} {CT CL CN : Addr} {n : Nat}
theorem ok_law_ways (T : Tx P w K mg) {f : Addr} {fd : FuncData} (F : FD K "_law_ways" s__law_ways f fd) : Fn P w K mg base 1 f fd ["height", "leaf"] (spX W wfWays) := by
  refine fn_data F sc__law_ways (fun ds s k x h => ?_) fun cv A outer s H G hr gd => ⟨_, (pss_cons (ps_set (i := 2) sc__law_ways.nd rfl (Or.inl rfl) (pe_lst pa_nil))
    (pss_cons (ps_set (i := 3) sc__law_ways.nd rfl (Or.inl rfl) (pe_lst pa_nil))
    (pss_cons (ps_set (i := 4) sc__law_ways.nd rfl (Or.inl rfl) (pv 1))
    (pss_cons (ps_for (passes_of rfl) rfl (pi_range1 rfl T.range (pa_cons (pv 0) pa_nil)) (pg_name (i := 5) sc__law_ways.nd rfl (Or.inl rfl))
      (pss_cons (ps_expr (pe_bm PySem.F.plainAttrs_list PySem.F.slot_list_append PySem.F.type_list_append mt_append (pv 3) (pa_cons (pe_tup (pa_cons (pv 5) (pa_cons (pe_ifExp (pt_cmpR (kEq (K := K) hr) (pe_op op_mod (pe_callTy Rd.cr_int (by rfl) T.int (by decide +kernel) (pa_cons (pv 4) pa_nil)) pe_int) pe_int (nomark _)) (pe_op (kAdd (K := K)) (pv 4) pe_int) (pe_op op_sub (pv 4) pe_int)) pa_nil))) pa_nil)))
    (pss_cons (ps_set (i := 4) sc__law_ways.nd rfl (Or.inl rfl) (pe_op op_divX (pv 4) pe_int))
    (pss_one (ps_expr (pe_bm PySem.F.plainAttrs_list PySem.F.slot_list_append PySem.F.type_list_append mt_append (pv 2) (pa_cons (pe_tup (pa_cons (pe_op (kAdd (K := K)) (pv 5) pe_int) (pa_cons (pv 4) pa_nil))) pa_nil)))))))
    (pss_one (ps_ret (pe_lst (pa_cons (pe_callTy (kTuple (K := K)) (by rfl) T.tuple (by decide +kernel) (pa_cons (pv 2) pa_nil)) (pa_cons (pe_callTy (kTuple (K := K)) (by rfl) T.tuple (by decide +kernel) (pa_cons (pv 3) pa_nil)) pa_nil))))))))), ?_⟩
  · match ds, h with
    | [.int _, .int _], _ => rfl
  · 
    have ow2 : OwnSl 2 := ⟨⟩
    have ow3 : OwnSl 3 := ⟨⟩
    apply bodyW
    · walk_at "sim"
    intro ds s k x hok h
    match ds, h with
    | [.int h, .int n], ⟨h0, h8, n0, n8, hk⟩ =>
      simp
      obtain ⟨m, rfl⟩ := Int.eq_ofNat_of_zero_le h0
      refine ⟨by rw [sizeLine_eq]; omega, by omega, ?_⟩
      refine wFor_ind (fun r env s' => ∃ (t : Nat) (v5 : Sl), s' = s ∧ t ≤ m ∧ r = rngD (t : Int) (m - t) ∧ env = [.dat (.int m), .dat (.int n), .own (ups t n), .own (bes t n), .dat (.int (n / (2 : Int) ^ t)), v5]) ⟨0, .no, rfl, by omega, rfl, by simp [ups, bes]⟩ (fun env s' hp => ?_) fun d r ih env s' hp => ?_
      · obtain ⟨t, v5, rfl, ht, e0, rfl⟩ := hp
        have : t = m := by
          cases e : m - t with
          | zero => omega
          | succ u => rw [e] at e0; simp [rngD] at e0
        subst this
        exact ⟨by decide, hk⟩
      · obtain ⟨t, v5, rfl, ht, e0, rfl⟩ := hp
        obtain ⟨u, hu⟩ : ∃ u, m - t = u + 1 := by
          cases e : m - t with
          | zero => rw [e] at e0; simp [rngD] at e0
          | succ u => exact ⟨u, rfl⟩
        rw [hu, rngD_cons] at e0
        obtain ⟨rfl, rfl⟩ := List.cons.inj e0
        simp
        have e1 : ups t n ++ [D.tup [.int ((t : Int) + 1), .int (n / 2 ^ t / 2)]] = ups (t + 1) n := by
          rw [half_more]
          simp [ups, List.range_succ]
        have go := fun (v : Sl) (q : Int) (hq : bes t n ++ [D.tup [.int (t : Int), .int q]] = bes (t + 1) n) => ih [.dat (.int m), .dat (.int n), .own (ups t n ++ [D.tup [.int ((t : Int) + 1), .int (n / 2 ^ t / 2)]]), .own (bes t n ++ [D.tup [.int (t : Int), .int q]]), .dat (.int (n / 2 ^ t / 2)), .dat (.int (t : Int))] s'
          ⟨t + 1, _, rfl, by omega, by rw [show m - (t + 1) = u by omega]; rfl, by rw [hq, e1, half_more]⟩
        have lu : (ups t n).length = t := by simp [ups]
        have lb : (bes t n).length = t := by simp [bes]
        have dv : CDiv (n / 2 ^ t) 2 ∨ CDivW (n / 2 ^ t) 2 := cdiv2 _ (Int.ediv_nonneg n0 (Int.pow_nonneg (by decide))) (by have := Int.ediv_le_self ((2 : Int) ^ t) n0; omega)
        have tl : t < sizeLine := by rw [sizeLine_eq]; omega
        by_cases q : n / 2 ^ t % 2 = 0
        · refine ite_t q ⟨by decide, by rw [lb]; exact tl, dv, by decide, by rw [lu]; exact tl, go .no _ ?_⟩
          simp [bes, List.range_succ, q]
        · have q1 : n / 2 ^ t % 2 = 1 := by omega
          refine ite_f q ⟨by decide, by rw [lb]; exact tl, dv, by decide, by rw [lu]; exact tl, go .no _ ?_⟩
          simp [bes, List.range_succ, q1]
          omega
theorem ok_law_due_resolution (T : Tx P w K mg) (f__law_due_resolution : Df P w K mg base (n + 1) "_law_due_resolution" (spX W (wfDueR n))) {f : Addr} {fd : FuncData} (F : FD K "_law_due_resolution" s__law_due_resolution f fd) : Fn P w K mg base (n + 2) f fd ["parts", "node"] (spX W (wfDueR (n + 1))) := by
  refine fn_data F sc__law_due_resolution (fun ds s k x h => ?_) fun cv A outer s H G hr gd => ⟨_, (pss_cons (ps_if (pt_cmpR (kEq (K := K) hr) (pe_ix (kIx (K := K)) (pv 1) pe_int (fun _ _ => rfl)) pe_int (nomark _)) (pss_one (ps_ret (pe_ifExp (pt_cmpR op_notN1 (pe_ix (kIx (K := K)) (pe_ix (kIx (K := K)) (pv 0) pe_int (fun _ _ => rfl)) (pe_ix (kIx (K := K)) (pv 1) pe_int (fun _ _ => rfl)) (fun _ _ => rfl)) pe_non (nomark _)) (pe_tup (pa_cons (pe_tup (pa_cons pe_int (pa_cons (pe_ix (kIx (K := K)) (pv 1) pe_int (fun _ _ => rfl)) pa_nil))) pa_nil)) (pe_tup pa_nil)))) pss_nil)
    (pss_cons (ps_setLc (i := 2) (y := "known") (own := [("one", 3)]) (g := gName 3) (by rfl) sc__law_due_resolution.nd rfl rfl (sw_true rfl rfl rfl (by decide +kernel)) (kpi (K := K) (pe_ix (kIx (K := K)) (pv 0) pe_int (fun _ _ => rfl))) (blkOk_by (own := [("one", 3)]) (N := N__law_due_resolution) (sc := defScope s__law_due_resolution) (by decide +kernel)) (fun _ _ _ _ _ => pg_name (i := 3) sc__law_due_resolution.nd rfl (Or.inl rfl)) (fun _ _ _ _ _ => (pts_one (pt_cmpR (kEq (K := K) hr) (pe_ix (kIx (K := K)) (pv 3) pe_int (fun _ _ => rfl)) (pv 1) (nomark _)))) (fun _ _ _ _ _ => (pv 3)))
    (pss_cons (ps_if (pt_cmpR op_gtX (pe_callB (kLen (K := K)) (by rfl) T.len (by decide +kernel) (pa_cons (pv 2) pa_nil)) pe_int (nomark _)) (pss_one (ps_ret (pe_op (kAdd (K := K)) (pe_tup (pa_cons (pv 1) pa_nil)) (pe_callTy (kTuple (K := K)) (by rfl) T.tuple (by decide +kernel) (pa_cons (pe_lc (own := [("leaf", 4)]) (g := gName 4) (by rfl) sc__law_due_resolution.nd (kpi (K := K) (pe_ix (kIx (K := K)) (pe_ix (kIx (K := K)) (pv 2) pe_int (fun _ _ => rfl)) pe_int (fun _ _ => rfl))) (blkOk_by (own := [("leaf", 4)]) (N := N__law_due_resolution) (sc := defScope s__law_due_resolution) (by decide +kernel)) (fun _ _ _ _ _ => pg_name (i := 4) sc__law_due_resolution.nd rfl (Or.inl rfl)) (fun _ _ _ _ _ => pts_nil) (fun _ _ _ _ _ => (pe_tup (pa_cons pe_int (pa_cons (pv 4) pa_nil))))) pa_nil))))) pss_nil)
    (pss_cons (ps_asg (pv 1) (kTup (K := K) (n := 2) rfl (pgs_cons (pg_name (i := 5) sc__law_due_resolution.nd rfl (Or.inl rfl)) (pgs_cons (pg_name (i := 6) sc__law_due_resolution.nd rfl (Or.inl rfl)) pgs_nil))))
    (pss_one (ps_ret (pe_op (kAdd (K := K)) (pe_df f__law_due_resolution hr (by omega) gd rfl (fun σ => Gl.no_pass σ) (pa_cons (pv 0) (pa_cons (pe_tup (pa_cons (pe_op op_sub (pv 5) pe_int) (pa_cons (pe_op (kMul (K := K)) pe_int (pv 6)) pa_nil))) pa_nil))) (pe_df f__law_due_resolution hr (by omega) gd rfl (fun σ => Gl.no_pass σ) (pa_cons (pv 0) (pa_cons (pe_tup (pa_cons (pe_op op_sub (pv 5) pe_int) (pa_cons (pe_op (kAdd (K := K)) (pe_op (kMul (K := K)) pe_int (pv 6)) pe_int) pa_nil))) pa_nil)))))))))), ?_⟩
  · match ds, h with
    | [_, _], _ => rfl
  · apply bodyW
    · walk_at "sim"
    intro ds s k x hok h
    match ds, h with
    | [_, _], ⟨h, ls, ns, l, i, rfl, rfl, g, ln, nd, hk⟩ =>
      simp [wfDueR]
      have h8 := g.1
      have ll := g.len
      obtain ⟨n1, n2, n3⟩ := nd
      have nd : Nd h l i := ⟨n1, n2, n3⟩
      cases l with
      | zero =>
        rw [if_pos rfl]
        have i1 : i < ls.length := by
          have c : ((2 : Int) ^ h) = ((2 ^ h : Nat) : Int) := by simp
          rw [c, Int.pow_zero, Int.mul_one] at n3
          omega
        obtain ⟨y, hy, _⟩ := at_some n2 i1
        unfold res seen at hk
        rw [hy] at hk ⊢
        cases y with
        | non => exact hk
        | _ => exact ⟨by decide, by decide, hk⟩
      | succ l =>
        rw [if_neg (Nat.succ_ne_zero l)]
        refine ⟨Nat.le_trans g.2.2.2.2.1 (by decide), wLc_pure (isNd ((l + 1 : Nat) : Int) i) id (fun d hd kt kf h1 h2 => ?_) ?_⟩
        · obtain ⟨l', i', lock, v, rfl, _⟩ := nds_mem g.nodes hd
          simp [-D.py, -D.pys]
          obtain ⟨a, b, e1, e2, e3, e4, e5⟩ := eq_nd (l := ((l + 1 : Nat) : Int)) (i := i) (l' := l') (i' := i') (k := fun z => if z = true then kt (D.tup [D.tup [D.int l', D.int i'], lock, v]) s else kf s) (by
            by_cases z : (decide (l' = ((l + 1 : Nat) : Int)) && decide (i' = i)) = true
            · exact ite_t z (h1 z)
            · exact ite_f z (h2 (by simpa [isNd] using z)))
          exact ⟨a, e1, b, e2, e3, e4, e5⟩
        · rw [List.map_id]
          have p9 : 2 ^ (l + 1) ≤ 2 ^ 8 := Nat.pow_le_pow_right (by decide) (by omega)
          rcases filt (l := ((l + 1 : Nat) : Int)) (i := i) g.nodes with ⟨e, hn⟩ | ⟨lock, as, r, e, hn, ha⟩
          · unfold res at hk
            rw [hn] at hk
            rw [e]
            have l1 := res_len g.nodes (l := l) (i := 2 * i) (by omega)
            have l2 := res_len g.nodes (l := l) (i := 2 * i + 1) (by omega)
            refine ite_f (by simp) ?_
            exact ⟨.inl (.inl ⟨by decide, by decide⟩), by decide, h, ls, ns, ⟨rfl, rfl, rfl⟩, l, 2 * i, ⟨by omega, rfl⟩, g, by omega, nd.half.1, .inl (.inl ⟨by decide, by decide⟩), by decide, h, ls, ns, ⟨rfl, rfl, rfl⟩, l, 2 * i + 1, ⟨by omega, rfl⟩, g, by omega, nd.half.2, by rw [sizeLine_eq]; omega, hk⟩
          · unfold res at hk
            rw [hn] at hk
            rw [e]
            have la := asd_le ha n2
            refine ite_t (by simp) ⟨by decide, ?_⟩
            rw [at0]
            refine ⟨by rw [sizeLine_eq]; omega, wLc_map (fun d => .tup [.int 0, d]) (fun d hd kt hkt => ?_) ?_⟩
            · simp
              exact ⟨by decide, hkt⟩
            · exact ⟨by rw [List.length_map, sizeLine_eq]; omega, hk⟩
theorem ok_law_due_holders (T : Tx P w K mg) (f__law_beneath : Df P w K mg base 1 "_law_beneath" (spX W wfBen)) {f : Addr} {fd : FuncData} (F : FD K "_law_due_holders" s__law_due_holders f fd) : Fn P w K mg base 2 f fd ["parts", "node"] (spX W wfDueH) := by
  refine fn_data F sc__law_due_holders (fun ds s k x h => ?_) fun cv A outer s H G hr gd => ⟨_, (pss_cons (ps_if (pt_cmpR (kEq (K := K) hr) (pe_ix (kIx (K := K)) (pv 1) pe_int (fun _ _ => rfl)) pe_int (nomark _)) (pss_one (ps_ret (pe_ifExp (pt_cmpR op_notN1 (pe_ix (kIx (K := K)) (pe_ix (kIx (K := K)) (pv 0) pe_int (fun _ _ => rfl)) (pe_ix (kIx (K := K)) (pv 1) pe_int (fun _ _ => rfl)) (fun _ _ => rfl)) pe_non (nomark _)) (pe_tup (pa_cons (pe_ix (kIx (K := K)) (pv 1) pe_int (fun _ _ => rfl)) pa_nil)) (pe_tup pa_nil)))) pss_nil)
    (pss_cons (ps_set (i := 2) sc__law_due_holders.nd rfl (Or.inr rfl) (pe_lc (own := [("one", 3)]) (g := gName 3) (by rfl) sc__law_due_holders.nd (kpi (K := K) (pe_ix (kIx (K := K)) (pv 0) pe_int (fun _ _ => rfl))) (blkOk_by (own := [("one", 3)]) (N := N__law_due_holders) (sc := defScope s__law_due_holders) (by decide +kernel)) (fun _ _ _ _ _ => pg_name (i := 3) sc__law_due_holders.nd rfl (Or.inl rfl)) (fun _ _ _ _ _ => (pts_one (pt_cmpR (kEq (K := K) hr) (pe_ix (kIx (K := K)) (pv 3) pe_int (fun _ _ => rfl)) (pv 1) (nomark _)))) (fun _ _ _ _ _ => (pv 3))))
    (pss_cons (ps_if (pt_cmpR (kEq (K := K) hr) (pe_callB (kLen (K := K)) (by rfl) T.len (by decide +kernel) (pa_cons (pv 2) pa_nil)) pe_int (nomark _)) (pss_one (ps_ret (pe_tup pa_nil))) pss_nil)
    (pss_one (ps_ret (pe_callTy (kTuple (K := K)) (by rfl) T.tuple (by decide +kernel) (pa_cons (pe_lc (own := [("leaf", 4)]) (g := gName 4) (by rfl) sc__law_due_holders.nd (kpi (K := K) (pe_df f__law_beneath hr (by omega) gd rfl (fun σ => Gl.no_pass σ) (pa_cons (pv 1) pa_nil))) (blkOk_by (own := [("leaf", 4)]) (N := N__law_due_holders) (sc := defScope s__law_due_holders) (by decide +kernel)) (fun _ _ _ _ _ => pg_name (i := 4) sc__law_due_holders.nd rfl (Or.inl rfl)) (fun _ _ _ _ _ => (pts_one (PW.pt (pw_and (pt_cmpR op_notN1 (pe_ix (kIx (K := K)) (pe_ix (kIx (K := K)) (pv 0) pe_int (fun _ _ => rfl)) (pv 4) (fun _ _ => rfl)) pe_non (nomark _)) (pw_and1 (pt_cmpR (kNotIn (K := K) hr) (pv 4) (pe_ix (kIx (K := K)) (pe_ix (kIx (K := K)) (pv 2) pe_int (fun _ _ => rfl)) pe_int (fun _ _ => rfl)) rfl)))))) (fun _ _ _ _ _ => (pv 4))) pa_nil))))))), ?_⟩
  · match ds, h with
    | [_, _], _ => rfl
  · apply bodyW
    · walk_at "sim"
    intro ds s k x hok h
    match ds, h with
    | [_, _], ⟨h, ls, ns, l, i, rfl, rfl, g, nd, hk⟩ =>
      simp [wfBen]
      have h8 := g.1
      have ll := g.len
      obtain ⟨n1, n2, n3⟩ := nd
      have nd : Nd h l i := ⟨n1, n2, n3⟩
      simp only [hold] at hk
      by_cases l0 : l = 0
      · subst l0
        rw [if_pos rfl]
        have i1 : i < ls.length := by
          have c : ((2 : Int) ^ h) = ((2 ^ h : Nat) : Int) := by simp
          rw [c, Int.pow_zero, Int.mul_one] at n3
          omega
        obtain ⟨y, hy, _⟩ := at_some n2 i1
        have e : (ben ((0 : Nat) : Int) i).filter (hdp ls []) = if seen ls i = true then [.int i] else [] := by
          have : ben ((0 : Nat) : Int) i = [.int i] := by simp [ben, rngD]
          rw [this]
          by_cases q : seen ls i = true <;> simp [hdp, q, inD]
        have hk : k (.tup ((ben ((0 : Nat) : Int) i).filter (hdp ls []))) s := hk
        rw [e] at hk
        unfold seen at hk
        rw [hy] at hk ⊢
        cases y with
        | non => exact hk
        | _ => exact ⟨by decide, hk⟩
      · rw [if_neg l0] at hk ⊢
        refine ⟨Nat.le_trans g.2.2.2.2.1 (by decide), wLc_pure (isNd (l : Int) i) id (fun d hd kt kf h1 h2 => ?_) ?_⟩
        · obtain ⟨l', i', lock, v, rfl, _⟩ := nds_mem g.nodes hd
          simp [-D.py, -D.pys]
          obtain ⟨a, b, e1, e2, e3, e4, e5⟩ := eq_nd (l := (l : Int)) (i := i) (l' := l') (i' := i') (k := fun z => if z = true then kt (D.tup [D.tup [D.int l', D.int i'], lock, v]) s else kf s) (by
            by_cases z : (decide (l' = (l : Int)) && decide (i' = i)) = true
            · exact ite_t z (h1 z)
            · exact ite_f z (h2 (by simpa [isNd] using z)))
          exact ⟨a, e1, b, e2, e3, e4, e5⟩
        · rw [List.map_id]
          rcases filt (l := (l : Int)) (i := i) g.nodes with ⟨e, hn⟩ | ⟨lock, as, r, e, hn, ha⟩
          · rw [hn] at hk
            rw [e]
            exact ite_t rfl hk
          · rw [hn] at hk
            rw [e]
            obtain ⟨i8, lb, turn⟩ := nd_turn g nd
            refine ite_f (by simp) ⟨by omega, n2, i8, by rw [sizeLine_eq]; omega, ?_⟩
            obtain ⟨xs, rfl⟩ := ints_of (asd_ints _ _ _ _ _ ha)
            refine wLc_pure (hdp ls (xs.map D.int)) id (fun d hd kt kf h1 h2 => ?_) (by rw [List.map_id]; exact hk)
            obtain ⟨n, rfl, n0, n1⟩ := turn d hd
            obtain ⟨y, hy, _⟩ := at_some n0 n1
            have fl := flatIn_ints n xs
            simp [hy, fl, at0, at1, at2]
            exact hdp_turn (by unfold seen; rw [hy]; cases y <;> rfl) h1 h2
theorem ok_law_met (T : Tx P w K mg) {f : Addr} {fd : FuncData} (F : FD K "_law_met" s__law_met f fd) : Fn P w K mg base 1 f fd ["one", "other"] (spX W wfMet) := by
  refine fn_data F sc__law_met (fun ds s k x h => ?_) fun cv A outer s H G hr gd => ⟨_, (pss_cons (ps_set (i := 2) sc__law_met.nd rfl (Or.inl rfl) pe_int)
    (pss_cons (ps_for (passes_of rfl) rfl (pi_range1 rfl T.range (pa_cons pe_int pa_nil)) (pg_name (i := 3) sc__law_met.nd rfl (Or.inl rfl))
      (pss_one (ps_if (pt_cmpR (kNe (K := K) hr) (pv 0) (pv 1) (nomark _)) (pss_one (ps_par3 (i := 0) (j := 1) (l := 2) (by rfl) sc__law_met.nd rfl rfl rfl (by decide) (by decide) (by decide) rfl rfl rfl (pa_cons (pe_op op_divX (pv 0) pe_int) (pa_cons (pe_op op_divX (pv 1) pe_int) (pa_cons (pe_op (kAdd (K := K)) (pv 2) pe_int) pa_nil))) (by rfl))) pss_nil)))
    (pss_one (ps_ret (pe_tup (pa_cons (pv 2) (pa_cons (pv 0) pa_nil))))))), ?_⟩
  · match ds, h with
    | [.int _, .int _], _ => rfl
  · apply bodyW
    · walk_at "sim"
    intro ds s k x hok h
    match ds, h with
    | [.int n, .int m], ⟨n0, n1, m0, m1, ne, hk⟩ =>
      simp
      obtain ⟨lv, hm⟩ := met_ex n0 n1 m0 m1
      have hk := hk lv hm
      obtain ⟨m1, m2, m3, m4⟩ := hm
      refine ⟨by decide, ?_⟩
      refine wFor_ind (fun r env s' => ∃ (t c : Nat) (v : Sl), s' = s ∧ t ≤ 9 ∧ c = min t lv ∧ r = rngD (t : Int) (9 - t) ∧ env = [.dat (.int (n / (2 : Int) ^ c)), .dat (.int (m / (2 : Int) ^ c)), .dat (.int (c : Int)), v]) ⟨0, 0, .no, rfl, by omega, by omega, rfl, by simp⟩ (fun env s' hp => ?_) fun d r ih env s' hp => ?_
      · obtain ⟨t, c, v, rfl, ht, hc, e0, rfl⟩ := hp
        have : t = 9 := by
          cases e : 9 - t with
          | zero => omega
          | succ u => rw [e] at e0; simp [rngD] at e0
        have : c = lv := by omega
        subst this
        exact ⟨by decide, hk⟩
      · obtain ⟨t, c, v, rfl, ht, hc, e0, rfl⟩ := hp
        obtain ⟨u, hu⟩ : ∃ u, 9 - t = u + 1 := by
          cases e : 9 - t with
          | zero => rw [e] at e0; simp [rngD] at e0
          | succ u => exact ⟨u, rfl⟩
        rw [hu, rngD_cons] at e0
        obtain ⟨rfl, rfl⟩ := List.cons.inj e0
        by_cases q : n / (2 : Int) ^ c = m / (2 : Int) ^ c
        · have : c = lv := by
            rcases Nat.lt_or_ge c lv with h | h
            · cases c with
              | zero => simp at q; exact absurd q ne
              | succ c => exact absurd q (m4 _ (by omega) h)
            · omega
          simp [q]
          exact ih _ _ ⟨t + 1, c, .dat (.int (t : Int)), rfl, by omega, by omega, by rw [show 9 - (t + 1) = u by omega]; rfl, by rw [q]⟩
        · have cl : c < lv := by
            rcases Nat.lt_or_ge c lv with h | h
            · exact h
            · have : c = lv := by omega
              subst this
              exact absurd m3 q
          have dv : ∀ y : Int, 0 ≤ y → y < 256 → CDiv (y / 2 ^ c) 2 ∨ CDivW (y / 2 ^ c) 2 := fun y y0 y1 => cdiv2 _ (Int.ediv_nonneg y0 (Int.pow_nonneg (by decide))) (by have := Int.ediv_le_self ((2 : Int) ^ c) y0; omega)
          simp [q]
          exact ⟨dv n n0 (by omega), dv m m0 (by omega), ih _ _ ⟨t + 1, c + 1, .dat (.int (t : Int)), rfl, by omega, by omega, by rw [show 9 - (t + 1) = u by omega]; rfl, by rw [half_more, half_more]; rfl⟩⟩
end
end Law
set_option Elab.async false
set_option linter.all false
set_option maxRecDepth 100000
set_option maxHeartbeats 8000000
namespace Law
open PySem PySem.Spec PyProof.Rows L2 Gl Dw
local macro_rules | `(tactic| walk_at "sc") => `(tactic| first
  | exact True.intro
  | (show _ ≤ sizeLine; decide +kernel))
local macro_rules | `(tactic| walk_at "sim") => `(tactic| first
  | ((with_reducible apply ss_seq) <;> walk_at "sim")
  | with_reducible exact ss_next
  | ((with_reducible apply ss_raise) <;> walk_at "sim")
  | with_reducible exact ss_raise0
  | ((with_reducible apply ss_try); walk_at "sim"; (intro _; walk_at "sim"); walk_at "sim")
  | ((with_reducible apply loc_if) <;> walk_at "sim")
  | with_reducible exact loc_asgDf
  | with_reducible exact loc_asgMk
  | ((with_reducible apply loc_seq) <;> walk_at "sim")
  | with_reducible exact loc_const
  | with_reducible exact SimHs.nil
  | ((with_reducible apply SimHs.cons); (intro _ _ _ _ _ _; walk_at "sim"); walk_at "sim")
  | with_reducible exact ss_brk
  | with_reducible exact ss_cont
  | with_reducible exact ss_retN
  | ((with_reducible apply ss_ret) <;> walk_at "sim")
  | ((with_reducible apply ss_if) <;> walk_at "sim")
  | ((with_reducible apply ss_asgO); (with_reducible assumption); walk_at "sim")
  | ((with_reducible apply ss_setL) <;> walk_at "sim")
  | ((with_reducible apply ss_pop) <;> walk_at "sim")
  | ((with_reducible apply ss_popAt) <;> walk_at "sim")
  | ((with_reducible apply ss_asg) <;> walk_at "sim")
  | ((with_reducible apply ss_par) <;> walk_at "sim")
  | ((with_reducible apply ss_par3) <;> walk_at "sim")
  | ((with_reducible apply ss_aug) <;> walk_at "sim")
  | ((with_reducible apply ss_app) <;> walk_at "sim")
  | ((with_reducible apply ss_ext) <;> walk_at "sim")
  | ((with_reducible apply ss_drop) <;> walk_at "sim")
  | ((with_reducible apply ss_for) <;> walk_at "sim")
  | ((with_reducible apply ss_while) <;> walk_at "sim")
  | with_reducible exact tg_name
  | ((with_reducible apply tg_tup) <;> walk_at "sim")
  | ((with_reducible apply tgs_cons) <;> walk_at "sim")
  | with_reducible exact tgs_nil
  | with_reducible exact sim_bgetE
  | ((with_reducible apply sim_tupRev) <;> walk_at "sim")
  | with_reducible exact sim_bget
  | ((with_reducible apply ss_bput) <;> walk_at "sim")
  | ((with_reducible apply ss_baug) <;> walk_at "sim")
  | with_reducible exact so_ixB
  | with_reducible exact sc_lenB
  | with_reducible exact so_radd
  | with_reducible exact so_rsub
  | ((with_reducible apply sim_dgetT) <;> walk_at "sim")
  | ((with_reducible apply sim_dinT) <;> walk_at "sim")
  | ((with_reducible apply sim_dnotInT) <;> walk_at "sim")
  | ((with_reducible apply sim_mt0) <;> walk_at "sim")
  | ((with_reducible apply sim_dcE) <;> walk_at "sim")
  | ((with_reducible apply si_enumT) <;> walk_at "sim")
  | with_reducible exact sc_sortI
  | with_reducible exact sim_var
  | with_reducible exact sim_varG
  | with_reducible exact sim_nil
  | with_reducible exact sim_nilB
  | ((with_reducible apply sim_cons) <;> walk_at "sim")
  | ((with_reducible apply sim_consB) <;> walk_at "sim")
  | ((with_reducible apply sim_c); walk_at "sc")
  | ((with_reducible apply sim_op) <;> walk_at "sim")
  | ((with_reducible apply sim_un) <;> walk_at "sim")
  | ((with_reducible apply sim_isG); (with_reducible assumption); walk_at "sim")
  | ((with_reducible apply sim_cb) <;> walk_at "sim")
  | ((with_reducible apply sim_tup) <;> walk_at "sim")
  | ((with_reducible apply sim_lst) <;> walk_at "sim")
  | ((with_reducible apply sim_lstF) <;> walk_at "sim")
  | ((with_reducible apply sim_call) <;> walk_at "sim")
  | ((with_reducible apply sim_callN) <;> walk_at "sim")
  | ((with_reducible apply sim_sl) <;> walk_at "sim")
  | with_reducible exact sp_no
  | ((with_reducible apply sp_part) <;> walk_at "sim")
  | ((with_reducible apply sim_test) <;> walk_at "sim")
  | ((with_reducible apply sim_tB) <;> walk_at "sim")
  | ((with_reducible apply sim_and) <;> walk_at "sim")
  | ((with_reducible apply sim_or) <;> walk_at "sim")
  | ((with_reducible apply sim_not) <;> walk_at "sim")
  | with_reducible exact sim_yes
  | ((with_reducible apply sim_andV) <;> walk_at "sim")
  | ((with_reducible apply sim_orV) <;> walk_at "sim")
  | ((with_reducible apply sim_notV) <;> walk_at "sim")
  | ((with_reducible apply sim_if) <;> walk_at "sim")
  | ((with_reducible apply sim_chain) <;> walk_at "sim")
  | ((with_reducible apply sim_lcF) <;> walk_at "sim")
  | ((with_reducible apply sim_lcE) <;> walk_at "sim")
  | ((with_reducible apply sim_lstRgF) <;> walk_at "sim")
  | ((with_reducible apply sim_lstRg) <;> walk_at "sim")
  | ((with_reducible apply sim_tupRg) <;> walk_at "sim")
  | ((with_reducible apply sim_rg1) <;> walk_at "sim")
  | ((with_reducible apply sim_rg2) <;> walk_at "sim")
  | ((with_reducible apply sim_listF) <;> walk_at "sim")
  | ((with_reducible apply sim_addF) <;> walk_at "sim")
  | ((with_reducible apply sim_join) <;> walk_at "sim")
  | ((with_reducible apply sim_lenSetS) <;> walk_at "sim")
  | ((with_reducible apply sim_fldT); (with_reducible assumption); (with_reducible assumption); walk_at "sim")
  | ((with_reducible apply sim_mk) <;> walk_at "sim")
  | ((with_reducible apply sim_mkN) <;> walk_at "sim")
  | ((with_reducible apply sim_xf); (with_reducible assumption))
  | with_reducible exact so_eqO
  | ((with_reducible apply si_x) <;> walk_at "sim")
  | ((with_reducible apply si_tup) <;> walk_at "sim")
  | ((with_reducible apply si_list) <;> walk_at "sim")
  | ((with_reducible apply si_str) <;> walk_at "sim")
  | ((with_reducible apply si_rng1) <;> walk_at "sim")
  | ((with_reducible apply si_rng2) <;> walk_at "sim")
  | ((with_reducible apply si_enum) <;> walk_at "sim")
  | ((with_reducible apply si_zip) <;> walk_at "sim")
  | with_reducible exact so_addX
  | with_reducible exact so_mulX
  | with_reducible exact so_divX
  | with_reducible exact so_eqX
  | with_reducible exact so_neX
  | with_reducible exact so_inX
  | with_reducible exact so_notInX
  | with_reducible exact so_ltX
  | with_reducible exact so_gtX
  | with_reducible exact so_geX
  | with_reducible exact so_leX
  | ((with_reducible apply so_i0s); (intros; exact True.intro))
  | ((with_reducible apply so_iCs); (intros; exact True.intro))
  | ((with_reducible apply su_is); (intros; exact True.intro))
  | with_reducible exact so_eq
  | with_reducible exact so_ne
  | with_reducible exact so_isN
  | with_reducible exact so_notN
  | with_reducible exact so_isB
  | with_reducible exact so_notB
  | with_reducible exact so_ixL
  | with_reducible exact so_ixT
  | with_reducible exact so_ixS
  | with_reducible exact so_ix
  | with_reducible exact so_in
  | with_reducible exact so_str
  | with_reducible exact so_inS
  | with_reducible exact so_notInS
  | with_reducible exact so_catT
  | with_reducible exact so_catL
  | with_reducible exact so_addS
  | with_reducible exact so_mulS
  | with_reducible exact so_repT
  | with_reducible exact so_eqD
  | with_reducible exact so_neD
  | with_reducible exact so_inD
  | with_reducible exact so_notInD
  | with_reducible exact so_leT
  | with_reducible exact sc_len
  | with_reducible exact sc_int
  | with_reducible exact sc_abs
  | with_reducible exact sc_str
  | with_reducible exact sc_mm
  | with_reducible exact sc_list
  | with_reducible exact sc_tuple
  | with_reducible exact sc_sum
  | with_reducible exact sc_all
  | with_reducible exact sc_any
  | with_reducible exact sc_isi
  | with_reducible exact sc_isiT
  | with_reducible exact sc_repr
  | with_reducible exact sl_x
  | with_reducible exact sl_t
  | with_reducible exact sl_l
  | with_reducible exact sl_s
  | ((with_reducible apply SimE.g); walk_at "sim")
  | (intros; decide)
  | skip)

/-- who holds the nodes of a row -/
def hD (ls ns : List D) : D → List D
  | .tup [.int l, .int i] => hold ls ns l.toNat i
  | _ => []
def benI (l : Nat) (i : Int) : List Int := (List.range (2 ^ l)).map fun (j : Nat) => i * (2 : Int) ^ l + j
theorem ben_I (l : Nat) (i : Int) : ben (l : Int) i = (benI l i).map D.int := by
  simp [ben, benI, rngD_eq, List.map_map, Function.comp_def]
theorem benI_lt (l : Nat) (i : Int) : (benI l i).Pairwise (· < ·) := List.Pairwise.map _ (fun a b h => by omega) List.pairwise_lt_range
theorem ben_half (l : Nat) (i : Int) : ben ((l + 1 : Nat) : Int) i = ben (l : Int) (2 * i) ++ ben (l : Int) (2 * i + 1) := by
  rw [ben_I, ben_I, ben_I, ← List.map_append]
  congr 1
  unfold benI
  rw [Nat.pow_succ, Nat.mul_two, List.range_add, List.map_append, List.map_map]
  have p : (2 : Int) ^ (l + 1) = 2 ^ l + 2 ^ l := by rw [Int.pow_succ]; omega
  have c : ((2 : Int) ^ l) = ((2 ^ l : Nat) : Int) := by simp
  congr 1
  · refine List.map_congr_left fun j _ => ?_
    rw [p, Int.mul_add, Int.mul_assoc 2 i, Int.two_mul]
  · refine List.map_congr_left fun j _ => ?_
    show i * (2 : Int) ^ (l + 1) + ((2 ^ l + j : Nat) : Int) = _
    rw [p, Int.mul_add, Int.add_mul (2 * i), Int.one_mul, Int.mul_assoc 2 i, Int.two_mul, Int.natCast_add, ← c]
    omega
def seenI (ls : List D) (n : Int) : Bool := seen ls n
theorem mem_I (ls : List D) (ns : List Int) : mem ls (ns.map D.int) = (ns.filter (seenI ls)).map D.int := by
  unfold mem
  rw [List.filter_map]
  rfl
theorem chain_lt : ∀ {xs : List Int} {a : Int}, chain a xs = true → xs.Pairwise (· < ·) ∧ ∀ x ∈ xs, a < x
  | [], _, _ => ⟨.nil, fun x h => by cases h⟩
  | n :: r, a, h => by
    simp only [chain, Bool.and_eq_true, decide_eq_true_eq] at h
    obtain ⟨h1, h2⟩ := chain_lt h.2
    refine ⟨.cons h2 h1, fun x hx => ?_⟩
    rcases List.mem_cons.mp hx with rfl | hx
    · exact h.1
    · have := h2 x hx
      omega
theorem nodup_of_lt {xs : List Int} (h : xs.Pairwise (· < ·)) : xs.Nodup := h.imp fun h => by omega
/-- those aside beside those who hold: all members beneath -/
theorem aside_perm {ls : List D} {l : Nat} {i : Int} {xs : List Int} (h : asd (l : Int) i ls (-1) (xs.map D.int) = true) : ((ben (l : Int) i).filter (hdp ls (xs.map D.int)) ++ xs.map D.int).Perm (mem ls (ben (l : Int) i)) := by
  rw [asd_split] at h
  obtain ⟨h1, h2⟩ := Bool.and_eq_true_iff.mp h
  have h2 := List.all_eq_true.mp h2
  rw [ben_I, mem_I, List.filter_map, ← List.map_append]
  refine List.Perm.map _ ?_
  have e : (benI l i).filter (hdp ls (xs.map D.int) ∘ D.int) = ((benI l i).filter (seenI ls)).filter fun n => !decide (n ∈ xs) := by
    rw [List.filter_filter]
    refine List.filter_congr fun n _ => ?_
    show (seen ls n && !inD (.int n) (xs.map D.int)) = _
    rw [inD_ints, Bool.and_comm]
    rfl
  rw [e]
  refine List.perm_append_comm.trans ((List.Perm.append_right _ ?_).trans (List.filter_append_perm (fun n => decide (n ∈ xs)) ((benI l i).filter (seenI ls))))
  refine (List.perm_ext_iff_of_nodup (nodup_of_lt (chain_lt h1).1) ((nodup_of_lt (benI_lt l i)).filter _ |>.filter _)).mpr fun n => ?_
  rw [List.mem_filter, List.mem_filter]
  constructor
  · intro hn
    have q := h2 n hn
    obtain ⟨q1, q2⟩ := Bool.and_eq_true_iff.mp q
    rw [ben_I, inD_ints] at q1
    exact ⟨⟨of_decide_eq_true q1, q2⟩, decide_eq_true hn⟩
  · exact fun hn => of_decide_eq_true hn.2
theorem res_nd {h : Nat} {ls ns : List D} (g : Gt h ls ns) : ∀ {l : Nat} {i : Int}, Nd h l i → (∀ d ∈ res ls ns l i, ∃ (l' : Nat) (i' : Int), d = .tup [.int l', .int i'] ∧ Nd h l' i') ∧ ((res ls ns l i).flatMap (hD ls ns)).Perm (mem ls (ben (l : Int) i))
  | 0, i, nd => by
    have b0 : ben ((0 : Nat) : Int) i = [.int i] := by simp [ben, rngD]
    have h0 : hold ls ns 0 i = mem ls [.int i] := by
      show (ben ((0 : Nat) : Int) i).filter (hdp ls []) = _
      rw [b0]
      by_cases q : seen ls i = true <;> simp [hdp, q, inD, mem]
    unfold res
    by_cases q : seen ls i = true
    · rw [if_pos q, b0]
      refine ⟨fun d hd => ?_, ?_⟩
      · rw [List.mem_singleton.mp hd]
        exact ⟨0, i, rfl, nd⟩
      · show (hold ls ns 0 i ++ []).Perm _
        rw [h0, List.append_nil]
    · rw [if_neg q, b0]
      refine ⟨fun d hd => by (cases hd), ?_⟩
      simp [mem, q]
  | l + 1, i, nd => by
    have i0 := nd.2.1
    rcases node_val (l := ((l + 1 : Nat) : Int)) (i := i) g.nodes with ⟨_, hn⟩ | ⟨lock, as, _, hn, ha⟩
    · unfold res
      rw [hn]
      obtain ⟨a1, a2⟩ := res_nd g nd.half.1
      obtain ⟨b1, b2⟩ := res_nd g nd.half.2
      refine ⟨fun d hd => (List.mem_append.mp hd).elim (a1 d) (b1 d), ?_⟩
      rw [List.flatMap_append, ben_half]
      unfold mem at a2 b2 ⊢
      rw [List.filter_append]
      exact a2.append b2
    · unfold res
      rw [hn]
      obtain ⟨xs, rfl⟩ := ints_of (asd_ints _ _ _ _ _ ha)
      have hx : ∀ n ∈ xs, inD (.int n) (ben ((l + 1 : Nat) : Int) i) = true ∧ seen ls n = true := fun n hn => by
        have ha2 := ha
        rw [asd_split] at ha2
        exact Bool.and_eq_true_iff.mp (List.all_eq_true.mp (Bool.and_eq_true_iff.mp ha2).2 n hn)
      refine ⟨fun d hd => ?_, ?_⟩
      · rcases List.mem_cons.mp hd with rfl | hd
        · exact ⟨l + 1, i, rfl, nd⟩
        · obtain ⟨e, he, rfl⟩ := List.mem_map.mp hd
          obtain ⟨n, hn2, rfl⟩ := List.mem_map.mp he
          obtain ⟨q1, q2, q3⟩ := ben_in (hx n hn2).1 i0
          simp only [Int.toNat_natCast] at q2
          have := nd.2.2
          exact ⟨0, n, rfl, by omega, q3, by rw [Int.pow_zero, Int.mul_one]; omega⟩
      · have e1 : hD ls ns (.tup [.int ((l + 1 : Nat) : Int), .int i]) = (ben ((l + 1 : Nat) : Int) i).filter (hdp ls (xs.map D.int)) := by
          show hold ls ns ((l + 1 : Nat) : Int).toNat i = _
          rw [Int.toNat_natCast]
          unfold hold
          rw [if_neg (Nat.succ_ne_zero l), hn]
        have e2 : ((xs.map D.int).map fun d => D.tup [.int 0, d]).flatMap (hD ls ns) = xs.map D.int := by
          have : ∀ ys : List Int, (∀ n ∈ ys, seen ls n = true) → ((ys.map D.int).map fun d => D.tup [.int 0, d]).flatMap (hD ls ns) = ys.map D.int := by
            intro ys
            induction ys with
            | nil => intro _; rfl
            | cons n r ih =>
              intro hs
              rw [List.map_cons, List.map_cons, List.flatMap_cons, ih fun m hm => hs m (by simp [hm])]
              have h1 : hD ls ns (.tup [.int 0, .int n]) = [.int n] := by
                show (ben ((0 : Nat) : Int) n).filter (hdp ls []) = _
                have b0 : ben ((0 : Nat) : Int) n = [.int n] := by simp [ben, rngD]
                rw [b0]
                simp [hdp, hs n (by simp), inD]
              rw [h1]
              rfl
          exact this xs fun n hn => (hx n hn).2
        rw [List.flatMap_cons, e1, e2]
        exact aside_perm ha
theorem ndG {h l : Nat} {i : Int} (nd : Nd h l i) : nodeG h (.tup [.int l, .int i]) = true := by
  obtain ⟨n1, n2, n3⟩ := nd
  have e : (2 : Int) ^ h = (2 : Int) ^ (h - l) * (2 : Int) ^ l := by rw [← Int.pow_add]; congr 1; omega
  have cl : ((2 : Int) ^ l) = ((2 ^ l : Nat) : Int) := by simp
  rw [e] at n3
  have : i + 1 ≤ (2 : Int) ^ (h - l) := Int.le_of_mul_le_mul_right n3 (by rw [cl]; have := Nat.two_pow_pos l; omega)
  simp only [nodeG, isIn, Int.toNat_natCast, Bool.and_eq_true, decide_eq_true_eq]
  omega
theorem shaped_refl {p : PyData} (h : SeqAt.shaped p = true) : PyData.eqv p p = true := by
  refine SeqAt.eqv_refl p ?_
  unfold SeqAt.shaped at h
  exact (Bool.and_eq_true_iff.mp h).1
def ny : D → Bool
  | .non => false
  | _ => true
def unI : D → Int
  | .int n => n
  | _ => 0
theorem map_unI (xs : List Int) : (xs.map D.int).map unI = xs := by
  rw [List.map_map]
  exact List.map_id xs
theorem ints_D (xs : List Int) : D.ints (xs.map D.int) = some xs := by
  induction xs with
  | nil => rfl
  | cons x r ih =>
    show (D.ints (r.map D.int)).map (x :: ·) = _
    rw [ih]
    rfl
theorem perm_ints {ds : List D} {xs : List Int} (h : ds.Perm (xs.map D.int)) : ∃ ys : List Int, ds = ys.map D.int ∧ ys.Perm xs := by
  obtain ⟨ys, rfl⟩ := ints_of (List.all_eq_true.mpr fun d hd => by
    obtain ⟨n, _, rfl⟩ := List.mem_map.mp (h.mem_iff.mp hd)
    rfl)
  have := h.map unI
  rw [map_unI, map_unI] at this
  exact ⟨ys, rfl, this⟩
theorem sorted_is {ms xs : List Int} (p : ms.Perm xs) (h : ms.Pairwise (· ≤ ·)) (h' : xs.Pairwise (· < ·)) : ms = xs :=
  List.Perm.eq_of_pairwise (le := (· ≤ ·)) (fun a b _ _ h1 h2 => by omega) h (h'.imp fun h => by omega) p
def wfParted (C : Addr) : WF S := fun ds s k _ => match ds with
  | [t, p, e] => ∃ (h : Nat) (ls ns : List D) (l : Nat) (i : Int), t = treeD C (.int h) (.tup ls) (.tup ns) ∧ p = .lst [.int h, .tup ls, .tup ns] ∧ e = .tup [.int l, .int i] ∧ Gt h ls ns ∧ Nd h l i ∧ k (.bl true) s
  | _ => False
def wfTold9 (C : Addr) : WF S := fun ds s k _ => match ds with
  | [.int way, t, d] => ∃ (h : Nat) (ls ns : List D), t = treeD C (.int h) (.tup ls) (.tup ns) ∧ Gt h ls ns ∧ d.pl = true ∧
    ((0 ≤ way ∧ way ≤ 3 ∧ (isIn 0 ((ls.length : Int) - 1) d = false ∨ way = 2 ∧ d = .int 0) ∧ k (.tup [.str "leaf", .bl false]) s) ∨ ((way = 4 ∨ way = 5) ∧ nodeG h d = false ∧ k (.tup [.str "node", .bl true]) s))
  | _ => False
abbrev s__law_parted : Stmt := top 45
abbrev N__law_parted : List Str := ["tree", "parts", "node", "found", "held", "one", "leaf"]
theorem sc__law_parted : FnScope N__law_parted ["tree", "parts", "node"] (defScope s__law_parted) := ⟨rfl, rfl, rfl, by decide +kernel, rfl, by decide +kernel, by decide +kernel⟩
abbrev s__law_told : Stmt := top 46
abbrev N__law_told : List Str := ["way", "tree", "thing", "found", "error"]
theorem sc__law_told : FnScope N__law_told ["way", "tree", "thing"] (defScope s__law_told) := ⟨rfl, rfl, rfl, by decide +kernel, rfl, by decide +kernel, by decide +kernel⟩
section
variable {S : Type} {W : Wd S} {P : Program} {w : World} {K : PySem.W.Frag} {mg : Str → Option Value} {base : Heap} {CT CL CN CP : Addr}
theorem ok_law_parted (T : Tx P w K mg) (f_resolution : Df P w K mg base 12 "resolution" (spX W (wfNd CT CN fun ls ns l i => res ls ns l i))) (f_holders : Df P w K mg base 12 "holders" (spX W (wfNd CT CN fun ls ns l i => hold ls ns l i))) (f__law_beneath : Df P w K mg base 1 "_law_beneath" (spX W wfBen)) {f : Addr} {fd : FuncData} (F : FD K "_law_parted" s__law_parted f fd) :
    Fn P w K mg base 13 f fd ["tree", "parts", "node"] (spX W (wfParted CT)) := by
  refine fn_data F sc__law_parted (fun ds s k x h => ?_) fun cv A outer s H G hr gd => ⟨_, (pss_cons (ps_set (i := 3) sc__law_parted.nd rfl (Or.inl rfl) (pe_df f_resolution hr (by omega) gd rfl (fun σ => Gl.no_pass σ) (pa_cons (pv 0) (pa_cons (pv 2) pa_nil))))
    (pss_cons (ps_set (i := 4) sc__law_parted.nd rfl (Or.inl rfl) (pe_lst pa_nil))
    (pss_cons (ps_for (passes_of rfl) rfl (kpi (K := K) (pv 3)) (pg_name (i := 5) sc__law_parted.nd rfl (Or.inl rfl))
      (pss_one (ps_expr (pe_bm PySem.F.plainAttrs_list PySem.F.slot_list_extend PySem.F.type_list_extend mt_extend (pv 4) (pa_cons (pe_callTy (kList (K := K)) (by rfl) T.list (by decide +kernel) (pa_cons (pe_df f_holders hr (by omega) gd rfl (fun σ => Gl.no_pass σ) (pa_cons (pv 0) (pa_cons (pv 5) pa_nil))) pa_nil)) pa_nil)))))
    (pss_one (ps_ret (pe_cmpR (kEq (K := K) hr) (pe_callB (kSorted (K := K)) (by rfl) T.sorted (by decide +kernel) (pa_cons (pv 4) pa_nil)) (pe_lc (own := [("leaf", 6)]) (g := gName 6) (by rfl) sc__law_parted.nd (kpi (K := K) (pe_df f__law_beneath hr (by omega) gd rfl (fun σ => Gl.no_pass σ) (pa_cons (pv 2) pa_nil))) (blkOk_by (own := [("leaf", 6)]) (N := N__law_parted) (sc := defScope s__law_parted) (by decide +kernel)) (fun _ _ _ _ _ => pg_name (i := 6) sc__law_parted.nd rfl (Or.inl rfl)) (fun _ _ _ _ _ => (pts_one (pt_cmpR op_notN1 (pe_ix (kIx (K := K)) (pe_ix (kIx (K := K)) (pv 1) pe_int (fun _ _ => rfl)) (pv 6) (fun _ _ => rfl)) pe_non (nomark _)))) (fun _ _ _ _ _ => (pv 6))) (nomark _))))))), ?_⟩
  · match ds, h with
    | [_, _, _], _ => rfl
  · 
    have ow4 : OwnSl 4 := ⟨⟩
    apply bodyW
    · walk_at "sim"
    intro ds s k x hok h
    match ds, h with
    | [_, _, _], ⟨ht, ls, ns, l, i, rfl, rfl, rfl, g, nd, hk⟩ =>
      simp [wfNd, wfBen, -D.py, -D.pys]
      have len : (mem ls (ben (l : Int) i)).length ≤ 256 := Nat.le_trans (List.length_filter_le _ _) (nd_turn g nd).2.1
      obtain ⟨shape, pm⟩ := res_nd g nd
      have h8 := g.1
      refine ⟨ht, ls, ns, rfl, g, fun l1 e nd1 => ?_, ndG nd⟩
      have : l = l1 := by omega
      subst this
      refine wFor_ind (fun r env s' => ∃ (dn : List D) (v5 v6 : Sl), s' = s ∧ res ls ns l i = dn ++ r ∧ env = [.dat (treeD CT (.int ht) (.tup ls) (.tup ns)), .dat (.lst [.int ht, .tup ls, .tup ns]), .dat (.tup [.int l, .int i]), .dat (.tup (res ls ns l i)), .own (dn.flatMap (hD ls ns)), v5, v6]) ⟨[], .no, .no, rfl, rfl, rfl⟩ (fun env s' hp => ?_) fun d r ih env s' hp => ?_
      · obtain ⟨dn, v5, v6, rfl, e0, rfl⟩ := hp
        rw [List.append_nil] at e0
        rw [← e0]
        rw [ben_I, mem_I] at pm
        obtain ⟨fs, ef, pf⟩ := perm_ints pm
        rw [ef]
        refine ⟨fs, ints_D fs, fun ms p1 p2 => ?_⟩
        have hB := (benI_lt l i).filter (seenI ls)
        have em := sorted_is (p1.trans pf) p2 hB
        subst em
        obtain ⟨i8, lb, turn⟩ := nd_turn g nd
        have n1 := nd.1
        refine ⟨by omega, by omega, nd.2.1, i8, by rw [sizeLine_eq]; omega, ?_⟩
        refine wLc_pure (fun d => match d with | .int n => seen ls n | _ => false) id (fun d hd kt kf h1 h2 => ?_) ?_
        · obtain ⟨n, rfl, n0, n1⟩ := turn d hd
          obtain ⟨y, hy, _⟩ := at_some n0 n1
          simp [hy, at1]
          have hs : seen ls n = ny y := by unfold seen; rw [hy]; cases y <;> rfl
          simp only at h1 h2
          rw [hs] at h1 h2
          cases y <;> first | exact h1 rfl | exact h2 rfl
        · rw [List.map_id]
          show ∃ a, (D.lst _).py = some a ∧ ∃ b, (D.lst (mem ls (ben (l : Int) i))).py = some b ∧ _
          rw [ben_I, mem_I]
          have bn : ∀ n ∈ (benI l i).filter (seenI ls), 0 ≤ n ∧ n ≤ 256 := fun n hn => by
            have hm : D.int n ∈ ben (l : Int) i := by
              rw [ben_I]
              exact List.mem_map_of_mem (List.mem_filter.mp hn).1
            obtain ⟨m, e, m0, m1⟩ := turn _ hm
            cases e
            have := g.len
            have p8 : 2 ^ ht ≤ 2 ^ 8 := Nat.pow_le_pow_right (by decide) h8
            omega
          have lq : Lq 40 0 256 (((benI l i).filter (seenI ls)).map D.int) := ⟨by rw [ben_I, mem_I] at len; exact len, fun d hd => by
            obtain ⟨n, hn, rfl⟩ := List.mem_map.mp hd
            have := bn n hn
            exact Pq.int ⟨by omega, by omega⟩⟩
          obtain ⟨p, e, sh⟩ := lq.lst.shaped (by decide)
          refine ⟨p, e, p, e, sh, sh, ?_⟩
          rw [shaped_refl sh]
          exact hk
      · obtain ⟨dn, v5, v6, rfl, e0, rfl⟩ := hp
        obtain ⟨l', i', rfl, nd'⟩ := shape d (by rw [e0]; simp)
        have hh : hD ls ns (.tup [.int (l' : Int), .int i']) = hold ls ns l' i' := rfl
        have le : (dn.flatMap (hD ls ns)).length + (hold ls ns l' i').length ≤ 256 := by
          have := pm.length_eq
          rw [e0, List.flatMap_append, List.flatMap_cons, List.length_append, List.length_append, hh] at this
          omega
        simp [wfNd, -List.length_flatMap, -D.py, -D.pys]
        refine ⟨ht, ls, ns, rfl, g, fun l1 e nd1 => ?_, ndG nd'⟩
        have : l' = l1 := by omega
        subst this
        refine ⟨by rw [sizeLine_eq]; omega, ih _ _ ⟨dn ++ [.tup [.int (l' : Int), .int i']], .dat (.tup [.int (l' : Int), .int i']), v6, rfl, by simpa using e0, ?_⟩⟩
        rw [List.flatMap_append]
        simp [hh]
theorem ok_law_told (T : Tx P w K mg) (g_NoLeaf : mg "NoLeaf" = some (.ref CL)) (g_NoNode : mg "NoNode" = some (.ref CN)) (v_NoNode : ∃ u, mg "NoNode" = some u ∧ RelV (.ref CN) u) (v_PostError : ∃ u, mg "PostError" = some u ∧ RelV (.ref CP) u)
    (xL : ExcC K CL) (xN : ExcC K CN) (eLL : PySem.W.exmOne K (.ref CL) (.ref CL) = some true) (eNL : PySem.W.exmOne K (.ref CN) (.ref CL) = some false) (eNN : PySem.W.exmOne K (.ref CN) (.ref CN) = some true)
    (kLN : PySem.W.kitOne K (.ref CL) (.ref CN) = some false) (kNP : PySem.W.kitOne K (.ref CN) (.ref CP) = some true)
    (f_path : Df P w K mg base 4 "path" (spX W (wfLeaf CT CL ups))) (f_beside : Df P w K mg base 4 "beside" (spX W (wfLeaf CT CL bes))) (f_meeting : Df P w K mg base 4 "meeting" (spX W (wfMeet CT CL)))
    (f_resolution : Df P w K mg base 12 "resolution" (spX W (wfNd CT CN fun ls ns l i => res ls ns l i))) (f_holders : Df P w K mg base 12 "holders" (spX W (wfNd CT CN fun ls ns l i => hold ls ns l i))) {f : Addr} {fd : FuncData} (F : FD K "_law_told" s__law_told f fd) :
    Fn P w K mg base 13 f fd ["way", "tree", "thing"] (spX W (wfTold9 CT)) := by
  refine fn_data F sc__law_told (fun ds s k x h => ?_) fun cv A outer s H G hr gd => ⟨_, (pss_cons (ps_set (i := 3) sc__law_told.nd rfl (Or.inl rfl) pe_str)
    (pss_cons (ps_try_mix (K := K) rfl rfl sc__law_told.nd (fun W pn xe tk po => (pss_one (ps_if (pt_cmpR (kEq (K := K) hr) (pv 0) pe_int (nomark _)) (pss_one (ps_set (i := 3) sc__law_told.nd rfl (Or.inl rfl) (pe_df f_path hr (by omega) gd rfl (fun σ => passAt tk σ) (pa_cons (pv 1) (pa_cons (pv 2) pa_nil))))) (pss_one (ps_if (pt_cmpR (kEq (K := K) hr) (pv 0) pe_int (nomark _)) (pss_one (ps_set (i := 3) sc__law_told.nd rfl (Or.inl rfl) (pe_df f_beside hr (by omega) gd rfl (fun σ => passAt tk σ) (pa_cons (pv 1) (pa_cons (pv 2) pa_nil))))) (pss_one (ps_if (pt_cmpR (kEq (K := K) hr) (pv 0) pe_int (nomark _)) (pss_one (ps_set (i := 3) sc__law_told.nd rfl (Or.inl rfl) (pe_df f_meeting hr (by omega) gd rfl (fun σ => passAt tk σ) (pa_cons (pv 1) (pa_cons (pv 2) (pa_cons pe_int pa_nil)))))) (pss_one (ps_if (pt_cmpR (kEq (K := K) hr) (pv 0) pe_int (nomark _)) (pss_one (ps_set (i := 3) sc__law_told.nd rfl (Or.inl rfl) (pe_df f_meeting hr (by omega) gd rfl (fun σ => passAt tk σ) (pa_cons (pv 1) (pa_cons pe_int (pa_cons (pv 2) pa_nil)))))) (pss_one (ps_if (pt_cmpR (kEq (K := K) hr) (pv 0) pe_int (nomark _)) (pss_one (ps_set (i := 3) sc__law_told.nd rfl (Or.inl rfl) (pe_df f_resolution hr (by omega) gd rfl (fun σ => passAt tk σ) (pa_cons (pv 1) (pa_cons (pv 2) pa_nil))))) (pss_one (ps_set (i := 3) sc__law_told.nd rfl (Or.inl rfl) (pe_df f_holders hr (by omega) gd rfl (fun σ => passAt tk σ) (pa_cons (pv 1) (pa_cons (pv 2) pa_nil))))))))))))))))
    (HdsX.named (i := 4) rfl rfl ⟨rfl, by decide, .inl g_NoLeaf⟩
    (fun a oe cls d pn hz hf => (pss_one (ps_set (i := 3) sc__law_told.nd rfl (Or.inl rfl) (pe_tup (pa_cons pe_str (pa_cons (pe_callB (kIsG (K := K) hz hf) (by rfl) T.isinstance (by decide +kernel) (pa_cons (pv 4) (pa_cons (C8.pe_gc rfl v_NoNode) pa_nil))) pa_nil)))))) (HdsX.named (i := 4) rfl rfl ⟨rfl, by decide, .inl g_NoNode⟩
    (fun a oe cls d pn hz hf => (pss_one (ps_set (i := 3) sc__law_told.nd rfl (Or.inl rfl) (pe_tup (pa_cons pe_str (pa_cons (pe_callB (kIsG (K := K) hz hf) (by rfl) T.isinstance (by decide +kernel) (pa_cons (pv 4) (pa_cons (C8.pe_gc rfl v_PostError) pa_nil))) pa_nil)))))) HdsX.rest)))
    (pss_one (ps_ret (pv 3))))), ?_⟩
  · match ds, h with
    | [.int _, _, _], _ => rfl
  · apply bodyW
    · walk_at "sim"
    intro ds s k x hok h
    match ds, h with
    | [.int way, _, d], ⟨h, ls, ns, rfl, g, hp, hk⟩ =>
      have len : ls.length ≤ 256 := by
        rw [g.len]
        exact Nat.pow_le_pow_right (by decide : 0 < 2) g.1
      have l0 : 0 < ls.length := by
        rw [g.len]
        exact Nat.two_pow_pos h
      have h8 := g.1
      simp [wfNd, wfLeaf, wfMeet]
      refine ⟨fun j => by match j with | 0 => rfl | 1 => rfl | 2 => rfl | 3 => rfl | 4 => rfl | j + 5 => rfl, ?_⟩
      rcases hk with ⟨w0, w3, hd, hk⟩ | ⟨hw, hd, hk⟩
      · have nd : way ≠ 2 → ∀ n, d = .int n → 0 ≤ n → n ≤ (ls.length : Int) - 1 → False := fun hw n e n0 n1 => by
          rcases hd with hd | hd
          · rw [e] at hd
            simp [isIn] at hd
            omega
          · exact hw hd.1
        have hw : way = 0 ∨ way = 1 ∨ way = 2 ∨ way = 3 := by omega
        rcases hw with rfl | rfl | rfl | rfl
        · refine ite_t rfl ⟨h, ls, ⟨_, rfl⟩, by omega, by omega, len, hp, fun n e n0 n1 => (nd (by decide) n e n0 n1).elim, fun _ => ?_⟩
          simp [wMixW, endsNW, eLL, kLN, xL]
          exact ⟨by decide, hk⟩
        · refine ite_f (by decide) (ite_t rfl ⟨h, ls, ⟨_, rfl⟩, by omega, by omega, len, hp, fun n e n0 n1 => (nd (by decide) n e n0 n1).elim, fun _ => ?_⟩)
          simp [wMixW, endsNW, eLL, kLN, xL]
          exact ⟨by decide, hk⟩
        · refine ite_f (by decide) (ite_f (by decide) (ite_t rfl ⟨_, ls, ⟨_, rfl⟩, len, hp, fun _ => ?_, fun _ => ?_, ?_⟩))
          · simp [wMixW, endsNW, eLL, kLN, xL]
            exact ⟨by decide, hk⟩
          · simp [wMixW, endsNW, eLL, kLN, xL]
            exact ⟨by decide, hk⟩
          · intro n e n0 n1 _
            rcases hd with hd | ⟨_, hd⟩
            · rw [e] at hd
              simp [isIn] at hd
              omega
            · rw [e] at hd
              injection hd with z
              refine ⟨fun _ => ?_, fun _ _ ne => absurd z ne⟩
              simp [wMixW, endsNW, eLL, kLN, xL]
              exact ⟨by decide, hk⟩
        · refine ite_f (by decide) (ite_f (by decide) (ite_f (by decide) (ite_t rfl ⟨_, ls, ⟨_, rfl⟩, len, hp, fun _ => ?_, fun _ => ?_, ?_⟩)))
          · simp [wMixW, endsNW, eLL, kLN, xL]
            exact ⟨by decide, hk⟩
          · simp [wMixW, endsNW, eLL, kLN, xL]
            exact ⟨by decide, hk⟩
          · intro n m _ e _ _ m0 m1
            exact (nd (by decide) m e m0 (by omega)).elim
      · rcases hw with rfl | rfl
        · refine ite_f (by decide) (ite_f (by decide) (ite_f (by decide) (ite_f (by decide) (ite_t rfl ⟨h, ls, ns, rfl, g, hp, fun l i e nd => ?_, fun _ => ?_⟩))))
          · rw [e, ndG nd] at hd
            cases hd
          · simp [wMixW, endsNW, eNL, eNN, kNP, xN]
            exact ⟨by decide, hk⟩
        · refine ite_f (by decide) (ite_f (by decide) (ite_f (by decide) (ite_f (by decide) (ite_f (by decide) ⟨h, ls, ns, rfl, g, hp, fun l i e nd => ?_, fun _ => ?_⟩))))
          · rw [e, ndG nd] at hd
            cases hd
          · simp [wMixW, endsNW, eNL, eNN, kNP, xN]
            exact ⟨by decide, hk⟩
end
end Law
set_option Elab.async false
set_option linter.all false
set_option maxRecDepth 100000
set_option maxHeartbeats 8000000
namespace Law
open PySem PySem.Spec PyProof.Rows L2 Gl Dw
local macro_rules | `(tactic| walk_at "sc") => `(tactic| first
  | exact True.intro
  | (show _ ≤ sizeLine; decide +kernel))
local macro_rules | `(tactic| walk_at "sim") => `(tactic| first
  | ((with_reducible apply ss_seq) <;> walk_at "sim")
  | with_reducible exact ss_next
  | ((with_reducible apply ss_raise) <;> walk_at "sim")
  | with_reducible exact ss_raise0
  | ((with_reducible apply ss_try); walk_at "sim"; (intro _; walk_at "sim"); walk_at "sim")
  | ((with_reducible apply loc_if) <;> walk_at "sim")
  | with_reducible exact loc_asgDf
  | with_reducible exact loc_asgMk
  | ((with_reducible apply loc_seq) <;> walk_at "sim")
  | with_reducible exact loc_const
  | with_reducible exact SimHs.nil
  | ((with_reducible apply SimHs.cons); (intro _ _ _ _ _ _; walk_at "sim"); walk_at "sim")
  | with_reducible exact ss_brk
  | with_reducible exact ss_cont
  | with_reducible exact ss_retN
  | ((with_reducible apply ss_ret) <;> walk_at "sim")
  | ((with_reducible apply ss_if) <;> walk_at "sim")
  | ((with_reducible apply ss_asgO); (with_reducible assumption); walk_at "sim")
  | ((with_reducible apply ss_setL) <;> walk_at "sim")
  | ((with_reducible apply ss_pop) <;> walk_at "sim")
  | ((with_reducible apply ss_popAt) <;> walk_at "sim")
  | ((with_reducible apply ss_asg) <;> walk_at "sim")
  | ((with_reducible apply ss_par) <;> walk_at "sim")
  | ((with_reducible apply ss_par3) <;> walk_at "sim")
  | ((with_reducible apply ss_aug) <;> walk_at "sim")
  | ((with_reducible apply ss_app) <;> walk_at "sim")
  | ((with_reducible apply ss_ext) <;> walk_at "sim")
  | ((with_reducible apply ss_drop) <;> walk_at "sim")
  | ((with_reducible apply ss_for) <;> walk_at "sim")
  | ((with_reducible apply ss_while) <;> walk_at "sim")
  | with_reducible exact tg_name
  | ((with_reducible apply tg_tup) <;> walk_at "sim")
  | ((with_reducible apply tgs_cons) <;> walk_at "sim")
  | with_reducible exact tgs_nil
  | with_reducible exact sim_bgetE
  | ((with_reducible apply sim_tupRev) <;> walk_at "sim")
  | with_reducible exact sim_bget
  | ((with_reducible apply ss_bput) <;> walk_at "sim")
  | ((with_reducible apply ss_baug) <;> walk_at "sim")
  | with_reducible exact so_ixB
  | with_reducible exact sc_lenB
  | with_reducible exact so_radd
  | with_reducible exact so_rsub
  | ((with_reducible apply sim_dgetT) <;> walk_at "sim")
  | ((with_reducible apply sim_dinT) <;> walk_at "sim")
  | ((with_reducible apply sim_dnotInT) <;> walk_at "sim")
  | ((with_reducible apply sim_mt0) <;> walk_at "sim")
  | ((with_reducible apply sim_dcE) <;> walk_at "sim")
  | ((with_reducible apply si_enumT) <;> walk_at "sim")
  | with_reducible exact sc_sortI
  | with_reducible exact sim_var
  | with_reducible exact sim_varG
  | with_reducible exact sim_nil
  | with_reducible exact sim_nilB
  | ((with_reducible apply sim_cons) <;> walk_at "sim")
  | ((with_reducible apply sim_consB) <;> walk_at "sim")
  | ((with_reducible apply sim_c); walk_at "sc")
  | ((with_reducible apply sim_op) <;> walk_at "sim")
  | ((with_reducible apply sim_un) <;> walk_at "sim")
  | ((with_reducible apply sim_isG); (with_reducible assumption); walk_at "sim")
  | ((with_reducible apply sim_cb) <;> walk_at "sim")
  | ((with_reducible apply sim_tup) <;> walk_at "sim")
  | ((with_reducible apply sim_lst) <;> walk_at "sim")
  | ((with_reducible apply sim_lstF) <;> walk_at "sim")
  | ((with_reducible apply sim_call) <;> walk_at "sim")
  | ((with_reducible apply sim_callN) <;> walk_at "sim")
  | ((with_reducible apply sim_sl) <;> walk_at "sim")
  | with_reducible exact sp_no
  | ((with_reducible apply sp_part) <;> walk_at "sim")
  | ((with_reducible apply sim_test) <;> walk_at "sim")
  | ((with_reducible apply sim_tB) <;> walk_at "sim")
  | ((with_reducible apply sim_and) <;> walk_at "sim")
  | ((with_reducible apply sim_or) <;> walk_at "sim")
  | ((with_reducible apply sim_not) <;> walk_at "sim")
  | with_reducible exact sim_yes
  | ((with_reducible apply sim_andV) <;> walk_at "sim")
  | ((with_reducible apply sim_orV) <;> walk_at "sim")
  | ((with_reducible apply sim_notV) <;> walk_at "sim")
  | ((with_reducible apply sim_if) <;> walk_at "sim")
  | ((with_reducible apply sim_chain) <;> walk_at "sim")
  | ((with_reducible apply sim_lcF) <;> walk_at "sim")
  | ((with_reducible apply sim_lcE) <;> walk_at "sim")
  | ((with_reducible apply sim_lstRgF) <;> walk_at "sim")
  | ((with_reducible apply sim_lstRg) <;> walk_at "sim")
  | ((with_reducible apply sim_tupRg) <;> walk_at "sim")
  | ((with_reducible apply sim_rg1) <;> walk_at "sim")
  | ((with_reducible apply sim_rg2) <;> walk_at "sim")
  | ((with_reducible apply sim_listF) <;> walk_at "sim")
  | ((with_reducible apply sim_addF) <;> walk_at "sim")
  | ((with_reducible apply sim_join) <;> walk_at "sim")
  | ((with_reducible apply sim_lenSetS) <;> walk_at "sim")
  | ((with_reducible apply sim_fldT); (with_reducible assumption); (with_reducible assumption); walk_at "sim")
  | ((with_reducible apply sim_mk) <;> walk_at "sim")
  | ((with_reducible apply sim_mkN) <;> walk_at "sim")
  | ((with_reducible apply sim_xf); (with_reducible assumption))
  | with_reducible exact so_eqO
  | ((with_reducible apply si_x) <;> walk_at "sim")
  | ((with_reducible apply si_tup) <;> walk_at "sim")
  | ((with_reducible apply si_list) <;> walk_at "sim")
  | ((with_reducible apply si_str) <;> walk_at "sim")
  | ((with_reducible apply si_rng1) <;> walk_at "sim")
  | ((with_reducible apply si_rng2) <;> walk_at "sim")
  | ((with_reducible apply si_enum) <;> walk_at "sim")
  | ((with_reducible apply si_zip) <;> walk_at "sim")
  | with_reducible exact so_addX
  | with_reducible exact so_mulX
  | with_reducible exact so_divX
  | with_reducible exact so_eqX
  | with_reducible exact so_neX
  | with_reducible exact so_inX
  | with_reducible exact so_notInX
  | with_reducible exact so_ltX
  | with_reducible exact so_gtX
  | with_reducible exact so_geX
  | with_reducible exact so_leX
  | ((with_reducible apply so_i0s); (intros; exact True.intro))
  | ((with_reducible apply so_iCs); (intros; exact True.intro))
  | ((with_reducible apply su_is); (intros; exact True.intro))
  | with_reducible exact so_eq
  | with_reducible exact so_ne
  | with_reducible exact so_isN
  | with_reducible exact so_notN
  | with_reducible exact so_isB
  | with_reducible exact so_notB
  | with_reducible exact so_ixL
  | with_reducible exact so_ixT
  | with_reducible exact so_ixS
  | with_reducible exact so_ix
  | with_reducible exact so_in
  | with_reducible exact so_str
  | with_reducible exact so_inS
  | with_reducible exact so_notInS
  | with_reducible exact so_catT
  | with_reducible exact so_catL
  | with_reducible exact so_addS
  | with_reducible exact so_mulS
  | with_reducible exact so_repT
  | with_reducible exact so_eqD
  | with_reducible exact so_neD
  | with_reducible exact so_inD
  | with_reducible exact so_notInD
  | with_reducible exact so_leT
  | with_reducible exact sc_len
  | with_reducible exact sc_int
  | with_reducible exact sc_abs
  | with_reducible exact sc_str
  | with_reducible exact sc_mm
  | with_reducible exact sc_list
  | with_reducible exact sc_tuple
  | with_reducible exact sc_sum
  | with_reducible exact sc_all
  | with_reducible exact sc_any
  | with_reducible exact sc_isi
  | with_reducible exact sc_isiT
  | with_reducible exact sc_repr
  | with_reducible exact sl_x
  | with_reducible exact sl_t
  | with_reducible exact sl_l
  | with_reducible exact sl_s
  | ((with_reducible apply SimE.g); walk_at "sim")
  | (intros; decide)
  | skip)

def wfRefused (C : Addr) : WF Box := fun ds s k _ => match ds with
  | [.opq a, t, p] => ∃ (h : Nat) (ls ns : List D), t = treeD C (.int h) (.tup ls) (.tup ns) ∧ p = .lst [.int h, .tup ls, .tup ns] ∧ Gt h ls ns ∧ Bo a s ∧ ∀ s', Bo a s' → k (.bl true) s'
  | _ => False
abbrev s__law_refused : Stmt := top 47
abbrev N__law_refused : List Str := ["box", "tree", "parts", "many", "leaf", "height", "level", "nodes", "node", "way"]
theorem sc__law_refused : FnScope N__law_refused ["box", "tree", "parts"] (defScope s__law_refused) := ⟨rfl, rfl, rfl, by decide +kernel, rfl, by decide +kernel, by decide +kernel⟩
abbrev pL : PyData := .tuple [.str "leaf", .bool false]
abbrev pN : PyData := .tuple [.str "node", .bool true]
theorem shL : SeqAt.shaped pL = true := by decide +kernel
theorem shN : SeqAt.shaped pN = true := by decide +kernel
theorem gen7 {S : Type} {A B C D1 E1 F1 G1 R : WS S} {KK : WEnds S} {env : List Sl} {s : S} (I : List Sl → S → Prop) (h : ∀ r : WS S, (∀ env s, I env s → r KK env s) → wSeq A (wSeq B (wSeq C (wSeq D1 (wSeq E1 (wSeq F1 (wSeq G1 r)))))) KK env s) (h2 : ∀ env s, I env s → R KK env s) :
    wSeq A (wSeq B (wSeq C (wSeq D1 (wSeq E1 (wSeq F1 (wSeq G1 R)))))) KK env s := h R h2
theorem ixB_lst {ds : List D} {i : Int} {s : Box} {k : D → Box → Prop} (i0 : 0 ≤ i) (i1 : i < ds.length) (h : ∀ d ∈ ds, k d s) : wIxB (.lst ds) (.int i) s k := by
  show (match atI ds i with | some x => k x s | none => False)
  rw [atI_nat' i0 i1]
  exact h _ (List.getElem_mem _)
section
variable {P : Program} {w : World} {K : PySem.W.Frag} {mg : Str → Option Value} {base : Heap} {CT : Addr}
theorem ok_law_refused (T : Tx P w K mg) (f__law_draw : Df P w K mg base 3 "_law_draw" (spX BW wfDraw)) (f__law_beneath : Df P w K mg base 1 "_law_beneath" (spX BW wfBen)) (f__law_told : Df P w K mg base 13 "_law_told" (spX BW (wfTold9 CT))) {f : Addr} {fd : FuncData} (F : FD K "_law_refused" s__law_refused f fd) :
    Fn P w K mg base 14 f fd ["box", "tree", "parts"] (spX BW (wfRefused CT)) := by
  refine fn_data F sc__law_refused (fun ds s k x h => ?_) fun cv A outer s H G hr gd => ⟨_, (pss_cons (ps_set (i := 3) sc__law_refused.nd rfl (Or.inl rfl) (pe_callB (kLen (K := K)) (by rfl) T.len (by decide +kernel) (pa_cons (pe_ix (kIx (K := K)) (pv 2) pe_int (fun _ _ => rfl)) pa_nil)))
    (pss_cons (ps_set (i := 4) sc__law_refused.nd rfl (Or.inl rfl) (pe_ix (kIx (K := K)) (pe_lst (pa_cons (pe_un un_neg pe_int) (pa_cons (pv 3) (pa_cons (pe_op (kAdd (K := K)) (pv 3) pe_int) (pa_cons pe_bl (pa_cons pe_bl (pa_cons pe_non (pa_cons pe_str (pa_cons (pe_tup (pa_cons pe_int pa_nil)) (pa_cons (pe_lst (pa_cons pe_int pa_nil)) (pa_cons (pe_op op_pow pe_int pe_int) (pa_cons (pe_tup (pa_cons pe_int (pa_cons pe_int pa_nil))) pa_nil)))))))))))) (pe_df f__law_draw hr (by omega) gd rfl (fun σ => Gl.no_pass σ) (pa_cons (pv 0) (pa_cons pe_int pa_nil))) (fun _ _ => rfl)))
    (pss_cons (ps_set (i := 5) sc__law_refused.nd rfl (Or.inl rfl) (pe_ix (kIx (K := K)) (pv 2) pe_int (fun _ _ => rfl)))
    (pss_cons (ps_set (i := 6) sc__law_refused.nd rfl (Or.inl rfl) (pe_df f__law_draw hr (by omega) gd rfl (fun σ => Gl.no_pass σ) (pa_cons (pv 0) (pa_cons (pe_op (kAdd (K := K)) (pv 5) pe_int) pa_nil))))
    (pss_cons (ps_set (i := 7) sc__law_refused.nd rfl (Or.inl rfl) (pe_lst (pa_cons (pe_tup (pa_cons (pe_op (kAdd (K := K)) (pv 5) pe_int) (pa_cons pe_int pa_nil))) (pa_cons (pe_tup (pa_cons (pe_un un_neg pe_int) (pa_cons pe_int pa_nil))) (pa_cons (pe_tup (pa_cons (pv 6) (pa_cons (pe_callB (kLen (K := K)) (by rfl) T.len (by decide +kernel) (pa_cons (pe_df f__law_beneath hr (by omega) gd rfl (fun σ => Gl.no_pass σ) (pa_cons (pe_tup (pa_cons (pe_op op_sub (pv 5) (pv 6)) (pa_cons pe_int pa_nil))) pa_nil)) pa_nil)) pa_nil))) (pa_cons (pe_tup (pa_cons (pv 6) (pa_cons (pe_un un_neg pe_int) pa_nil))) (pa_cons (pe_tup (pa_cons pe_int pa_nil)) (pa_cons (pe_lst (pa_cons pe_int (pa_cons pe_int pa_nil))) (pa_cons pe_non (pa_cons pe_int pa_nil))))))))))
    (pss_cons (ps_set (i := 7) sc__law_refused.nd rfl (Or.inl rfl) (pe_op (kAdd (K := K)) (pv 7) (pe_lst (pa_cons (pe_tup (pa_cons pe_bl (pa_cons pe_int pa_nil))) (pa_cons (pe_tup (pa_cons pe_int (pa_cons pe_bl pa_nil))) (pa_cons (pe_tup (pa_cons pe_str (pa_cons pe_int pa_nil))) (pa_cons (pe_tup (pa_cons pe_int (pa_cons pe_int (pa_cons pe_int pa_nil)))) (pa_cons (pe_tup (pa_cons (pv 6) (pa_cons pe_non pa_nil))) pa_nil))))))))
    (pss_cons (ps_set (i := 8) sc__law_refused.nd rfl (Or.inl rfl) (pe_ix (kIx (K := K)) (pv 7) (pe_df f__law_draw hr (by omega) gd rfl (fun σ => Gl.no_pass σ) (pa_cons (pv 0) (pa_cons (pe_callB (kLen (K := K)) (by rfl) T.len (by decide +kernel) (pa_cons (pv 7) pa_nil)) pa_nil))) (fun _ _ => rfl)))
    (pss_cons (ps_for (passes_of rfl) rfl (pi_range1 rfl T.range (pa_cons pe_int pa_nil)) (pg_name (i := 9) sc__law_refused.nd rfl (Or.inl rfl))
      (pss_one (ps_if (pt_cmpR (kNe (K := K) hr) (pe_df f__law_told hr (by omega) gd rfl (fun σ => Gl.no_pass σ) (pa_cons (pv 9) (pa_cons (pv 1) (pa_cons (pv 4) pa_nil)))) (pe_tup (pa_cons pe_str (pa_cons pe_bl pa_nil))) (nomark _)) (pss_one (ps_ret pe_bl)) pss_nil)))
    (pss_one (ps_ret (pe_and (pe_cmpR (kEq (K := K) hr) (pe_df f__law_told hr (by omega) gd rfl (fun σ => Gl.no_pass σ) (pa_cons pe_int (pa_cons (pv 1) (pa_cons (pv 8) pa_nil)))) (pe_tup (pa_cons pe_str (pa_cons pe_bl pa_nil))) (nomark _)) (pe_one (pe_cmpR (kEq (K := K) hr) (pe_df f__law_told hr (by omega) gd rfl (fun σ => Gl.no_pass σ) (pa_cons pe_int (pa_cons (pv 1) (pa_cons (pv 8) pa_nil)))) (pe_tup (pa_cons pe_str (pa_cons pe_bl pa_nil))) (nomark _)))))))))))))), ?_⟩
  · match ds, h with
    | [.opq _, _, _], _ => rfl
  · apply bodyW
    · walk_at "sim"
    intro ds s k x hok h
    match ds, h with
    | [.opq a, _, _], ⟨h, ls, ns, rfl, rfl, g, hb, hk⟩ =>
      have cp : CPow 10 30 := ⟨by decide, by decide, by decide⟩
      have h8 := g.1
      have ll := g.len
      have p8 : 2 ^ h ≤ 2 ^ 8 := Nat.pow_le_pow_right (by decide) h8
      refine gen7 (fun env s => ∃ (y z : D) (v3 v5 v6 v7 v9 : Sl), Bo a s ∧ env = [.dat (.opq a), .dat (treeD CT (.int h) (.tup ls) (.tup ns)), .dat (.lst [.int h, .tup ls, .tup ns]), v3, .dat y, v5, v6, v7, .dat z, v9] ∧ y.pl = true ∧ isIn 0 ((ls.length : Int) - 1) y = false ∧ z.pl = true ∧ nodeG h z = false) (fun r hr => ?_) fun env s hI => ?_
      · refine ⟨(by decide : 1 ≤ sizeLine), (by decide : 1 ≤ sizeLine), cp, (by decide : 2 ≤ sizeLine), (by decide : 11 ≤ sizeLine), hb, (by decide : (0 : Int) < 11), (by decide : (11 : Int) ≤ 10 ^ 30), fun s1 i b1 i0 i1 => ixB_lst (ds := [.int (-1), .int ls.length, .int ((ls.length : Int) + 5), .bl true, .bl false, .non, .str "0", .tup [.int 0], .lst [.int 0], .int (10 ^ 30), .tup [.int 0, .int 0]]) i0 (by simpa using i1) fun y hy => ?_⟩
        have hy2 : y.pl = true ∧ isIn 0 ((ls.length : Int) - 1) y = false := by
          simp only [List.mem_cons, List.not_mem_nil, or_false] at hy
          rcases hy with rfl | rfl | rfl | rfl | rfl | rfl | rfl | rfl | rfl | rfl | rfl <;> simp [isIn] <;> omega
        refine ⟨b1, (by omega : (0 : Int) < (h : Int) + 1), (by omega : (h : Int) + 1 ≤ 10 ^ 30), fun s2 lv b2 l0 l1 => ?_⟩
        obtain ⟨l, rfl⟩ := Int.eq_ofNat_of_zero_le l0
        have lh : l ≤ h := by omega
        have bl : (ben ((h : Int) - (l : Int)) 0).length = 2 ^ (h - l) := by
          simp only [ben, rngD_len]
          rw [show ((h : Int) - (l : Int)).toNat = h - l by omega]
        refine ⟨(by decide : 2 ≤ sizeLine), (by decide : 2 ≤ sizeLine), (by decide : 2 ≤ sizeLine), (by omega : (0 : Int) ≤ (h : Int) - l), (by omega : (h : Int) - l ≤ 8), (by decide : (0 : Int) ≤ 0), (by decide : (0 : Int) ≤ 256), (by decide : 2 ≤ sizeLine), (by decide : 2 ≤ sizeLine), (by decide : 1 ≤ sizeLine), (by decide : 2 ≤ sizeLine), (by decide : 8 ≤ sizeLine), ?_⟩
        refine ⟨(by decide : 2 ≤ sizeLine), (by decide : 2 ≤ sizeLine), (by decide : 2 ≤ sizeLine), (by decide : 3 ≤ sizeLine), (by decide : 2 ≤ sizeLine), (by decide : 5 ≤ sizeLine), (by decide : 8 + 5 ≤ sizeLine), ?_⟩
        refine ⟨b2, (by decide : (0 : Int) < 13), (by decide : (13 : Int) ≤ 10 ^ 30), fun s3 j b3 j0 j1 => ixB_lst (ds := [.tup [.int ((h : Int) + 1), .int 0], .tup [.int (-1), .int 0], .tup [.int l, .int (ben ((h : Int) - (l : Int)) 0).length], .tup [.int l, .int (-1)], .tup [.int 0], .lst [.int 0, .int 0], .non, .int 0, .tup [.bl true, .int 0], .tup [.int 0, .bl false], .tup [.str "0", .int 0], .tup [.int 0, .int 0, .int 0], .tup [.int l, .non]]) j0 (by simpa using j1) fun z hz => ?_⟩
        rw [bl] at hz
        have hz2 : z.pl = true ∧ nodeG h z = false := by
          simp only [List.mem_cons, List.not_mem_nil, or_false] at hz
          rcases hz with rfl | rfl | rfl | rfl | rfl | rfl | rfl | rfl | rfl | rfl | rfl | rfl | rfl
          all_goals first | (simp [nodeG, isIn]; done) | skip
          · simp [nodeG, isIn]
            omega
          · have c : ((2 ^ (h - l) : Nat) : Int) = (2 : Int) ^ (h - l) := by simp
            simp [nodeG, isIn, -Int.natCast_pow]
            rw [c]
            omega
        exact hr _ s3 ⟨y, z, _, _, _, _, _, b3, rfl, hy2.1, hy2.2, hz2.1, hz2.2⟩
      · obtain ⟨y, z, v3, v5, v6, v7, v9, hb, rfl, y1, y2, z1, z2⟩ := hI
        refine ⟨by decide, by decide, ?_⟩
        refine wFor_ind (fun r env s' => ∃ (t : Nat) (v9 : Sl), s' = s ∧ t ≤ 4 ∧ r = rngD (t : Int) (4 - t) ∧ env = [.dat (.opq a), .dat (treeD CT (.int h) (.tup ls) (.tup ns)), .dat (.lst [.int h, .tup ls, .tup ns]), v3, .dat y, v5, v6, v7, .dat z, v9]) ⟨0, v9, rfl, by omega, rfl, rfl⟩ (fun env s' hp => ?_) fun d r ih env s' hp => ?_
        · obtain ⟨t, v9, rfl, ht, e0, rfl⟩ := hp
          refine ⟨h, ls, ns, rfl, g, z1, .inr ⟨.inl rfl, z2, (by decide : 2 ≤ sizeLine), pN, pN, rfl, rfl, shN, shN, ite_t (shaped_refl shN) ?_⟩⟩
          refine ⟨h, ls, ns, rfl, g, z1, .inr ⟨.inr rfl, z2, (by decide : 2 ≤ sizeLine), pN, pN, rfl, rfl, shN, shN, ?_⟩⟩
          show k (.bl (PyData.eqv pN pN)) s'
          rw [shaped_refl shN]
          exact hk s' hb
        · obtain ⟨t, v9, rfl, ht, e0, rfl⟩ := hp
          obtain ⟨u, hu⟩ : ∃ u, 4 - t = u + 1 := by
            cases e : 4 - t with
            | zero => rw [e] at e0; simp [rngD] at e0
            | succ u => exact ⟨u, rfl⟩
          rw [hu, rngD_cons] at e0
          obtain ⟨rfl, rfl⟩ := List.cons.inj e0
          refine ⟨h, ls, ns, rfl, g, y1, .inl ⟨(by omega : (0 : Int) ≤ (t : Int)), (by omega : (t : Int) ≤ 3), .inl y2, (by decide : 2 ≤ sizeLine), ?_⟩⟩
          refine ⟨pL, pL, rfl, rfl, shL, shL, ite_f (by rw [shaped_refl shL]; decide) ?_⟩
          exact ih _ _ ⟨t + 1, _, rfl, by omega, by rw [show 4 - (t + 1) = u by omega]; rfl, rfl⟩
end
end Law
set_option Elab.async false
set_option linter.all false
set_option maxRecDepth 100000
set_option maxHeartbeats 8000000
namespace Law
open PySem PySem.Spec PyProof.Rows L2 Gl Dw
local macro_rules | `(tactic| walk_at "sc") => `(tactic| first
  | exact True.intro
  | (show _ ≤ sizeLine; decide +kernel))
local macro_rules | `(tactic| walk_at "sim") => `(tactic| first
  | ((with_reducible apply ss_seq) <;> walk_at "sim")
  | with_reducible exact ss_next
  | ((with_reducible apply ss_raise) <;> walk_at "sim")
  | with_reducible exact ss_raise0
  | ((with_reducible apply ss_try); walk_at "sim"; (intro _; walk_at "sim"); walk_at "sim")
  | ((with_reducible apply loc_if) <;> walk_at "sim")
  | with_reducible exact loc_asgDf
  | with_reducible exact loc_asgMk
  | ((with_reducible apply loc_seq) <;> walk_at "sim")
  | with_reducible exact loc_const
  | with_reducible exact SimHs.nil
  | ((with_reducible apply SimHs.cons); (intro _ _ _ _ _ _; walk_at "sim"); walk_at "sim")
  | with_reducible exact ss_brk
  | with_reducible exact ss_cont
  | with_reducible exact ss_retN
  | ((with_reducible apply ss_ret) <;> walk_at "sim")
  | ((with_reducible apply ss_if) <;> walk_at "sim")
  | ((with_reducible apply ss_asgO); (with_reducible assumption); walk_at "sim")
  | ((with_reducible apply ss_setL) <;> walk_at "sim")
  | ((with_reducible apply ss_pop) <;> walk_at "sim")
  | ((with_reducible apply ss_popAt) <;> walk_at "sim")
  | ((with_reducible apply ss_asg) <;> walk_at "sim")
  | ((with_reducible apply ss_par) <;> walk_at "sim")
  | ((with_reducible apply ss_par3) <;> walk_at "sim")
  | ((with_reducible apply ss_aug) <;> walk_at "sim")
  | ((with_reducible apply ss_app) <;> walk_at "sim")
  | ((with_reducible apply ss_ext) <;> walk_at "sim")
  | ((with_reducible apply ss_drop) <;> walk_at "sim")
  | ((with_reducible apply ss_for) <;> walk_at "sim")
  | ((with_reducible apply ss_while) <;> walk_at "sim")
  | with_reducible exact tg_name
  | ((with_reducible apply tg_tup) <;> walk_at "sim")
  | ((with_reducible apply tgs_cons) <;> walk_at "sim")
  | with_reducible exact tgs_nil
  | with_reducible exact sim_bgetE
  | ((with_reducible apply sim_tupRev) <;> walk_at "sim")
  | with_reducible exact sim_bget
  | ((with_reducible apply ss_bput) <;> walk_at "sim")
  | ((with_reducible apply ss_baug) <;> walk_at "sim")
  | with_reducible exact so_ixB
  | with_reducible exact sc_lenB
  | with_reducible exact so_radd
  | with_reducible exact so_rsub
  | ((with_reducible apply sim_dgetT) <;> walk_at "sim")
  | ((with_reducible apply sim_dinT) <;> walk_at "sim")
  | ((with_reducible apply sim_dnotInT) <;> walk_at "sim")
  | ((with_reducible apply sim_mt0) <;> walk_at "sim")
  | ((with_reducible apply sim_dcE) <;> walk_at "sim")
  | ((with_reducible apply si_enumT) <;> walk_at "sim")
  | with_reducible exact sc_sortI
  | with_reducible exact sim_var
  | with_reducible exact sim_varG
  | with_reducible exact sim_nil
  | with_reducible exact sim_nilB
  | ((with_reducible apply sim_cons) <;> walk_at "sim")
  | ((with_reducible apply sim_consB) <;> walk_at "sim")
  | ((with_reducible apply sim_c); walk_at "sc")
  | ((with_reducible apply sim_op) <;> walk_at "sim")
  | ((with_reducible apply sim_un) <;> walk_at "sim")
  | ((with_reducible apply sim_isG); (with_reducible assumption); walk_at "sim")
  | ((with_reducible apply sim_cb) <;> walk_at "sim")
  | ((with_reducible apply sim_tup) <;> walk_at "sim")
  | ((with_reducible apply sim_lst) <;> walk_at "sim")
  | ((with_reducible apply sim_lstF) <;> walk_at "sim")
  | ((with_reducible apply sim_call) <;> walk_at "sim")
  | ((with_reducible apply sim_callN) <;> walk_at "sim")
  | ((with_reducible apply sim_sl) <;> walk_at "sim")
  | with_reducible exact sp_no
  | ((with_reducible apply sp_part) <;> walk_at "sim")
  | ((with_reducible apply sim_test) <;> walk_at "sim")
  | ((with_reducible apply sim_tB) <;> walk_at "sim")
  | ((with_reducible apply sim_and) <;> walk_at "sim")
  | ((with_reducible apply sim_or) <;> walk_at "sim")
  | ((with_reducible apply sim_not) <;> walk_at "sim")
  | with_reducible exact sim_yes
  | ((with_reducible apply sim_andV) <;> walk_at "sim")
  | ((with_reducible apply sim_orV) <;> walk_at "sim")
  | ((with_reducible apply sim_notV) <;> walk_at "sim")
  | ((with_reducible apply sim_if) <;> walk_at "sim")
  | ((with_reducible apply sim_chain) <;> walk_at "sim")
  | ((with_reducible apply sim_lcF) <;> walk_at "sim")
  | ((with_reducible apply sim_lcE) <;> walk_at "sim")
  | ((with_reducible apply sim_lstRgF) <;> walk_at "sim")
  | ((with_reducible apply sim_lstRg) <;> walk_at "sim")
  | ((with_reducible apply sim_tupRg) <;> walk_at "sim")
  | ((with_reducible apply sim_rg1) <;> walk_at "sim")
  | ((with_reducible apply sim_rg2) <;> walk_at "sim")
  | ((with_reducible apply sim_listF) <;> walk_at "sim")
  | ((with_reducible apply sim_addF) <;> walk_at "sim")
  | ((with_reducible apply sim_join) <;> walk_at "sim")
  | ((with_reducible apply sim_lenSetS) <;> walk_at "sim")
  | ((with_reducible apply sim_fldT); (with_reducible assumption); (with_reducible assumption); walk_at "sim")
  | ((with_reducible apply sim_mk) <;> walk_at "sim")
  | ((with_reducible apply sim_mkN) <;> walk_at "sim")
  | ((with_reducible apply sim_xf); (with_reducible assumption))
  | with_reducible exact so_eqO
  | ((with_reducible apply si_x) <;> walk_at "sim")
  | ((with_reducible apply si_tup) <;> walk_at "sim")
  | ((with_reducible apply si_list) <;> walk_at "sim")
  | ((with_reducible apply si_str) <;> walk_at "sim")
  | ((with_reducible apply si_rng1) <;> walk_at "sim")
  | ((with_reducible apply si_rng2) <;> walk_at "sim")
  | ((with_reducible apply si_enum) <;> walk_at "sim")
  | ((with_reducible apply si_zip) <;> walk_at "sim")
  | with_reducible exact so_addX
  | with_reducible exact so_mulX
  | with_reducible exact so_divX
  | with_reducible exact so_eqX
  | with_reducible exact so_neX
  | with_reducible exact so_inX
  | with_reducible exact so_notInX
  | with_reducible exact so_ltX
  | with_reducible exact so_gtX
  | with_reducible exact so_geX
  | with_reducible exact so_leX
  | ((with_reducible apply so_i0s); (intros; exact True.intro))
  | ((with_reducible apply so_iCs); (intros; exact True.intro))
  | ((with_reducible apply su_is); (intros; exact True.intro))
  | with_reducible exact so_eq
  | with_reducible exact so_ne
  | with_reducible exact so_isN
  | with_reducible exact so_notN
  | with_reducible exact so_isB
  | with_reducible exact so_notB
  | with_reducible exact so_ixL
  | with_reducible exact so_ixT
  | with_reducible exact so_ixS
  | with_reducible exact so_ix
  | with_reducible exact so_in
  | with_reducible exact so_str
  | with_reducible exact so_inS
  | with_reducible exact so_notInS
  | with_reducible exact so_catT
  | with_reducible exact so_catL
  | with_reducible exact so_addS
  | with_reducible exact so_mulS
  | with_reducible exact so_repT
  | with_reducible exact so_eqD
  | with_reducible exact so_neD
  | with_reducible exact so_inD
  | with_reducible exact so_notInD
  | with_reducible exact so_leT
  | with_reducible exact sc_len
  | with_reducible exact sc_int
  | with_reducible exact sc_abs
  | with_reducible exact sc_str
  | with_reducible exact sc_mm
  | with_reducible exact sc_list
  | with_reducible exact sc_tuple
  | with_reducible exact sc_sum
  | with_reducible exact sc_all
  | with_reducible exact sc_any
  | with_reducible exact sc_isi
  | with_reducible exact sc_isiT
  | with_reducible exact sc_repr
  | with_reducible exact sl_x
  | with_reducible exact sl_t
  | with_reducible exact sl_l
  | with_reducible exact sl_s
  | ((with_reducible apply SimE.g); walk_at "sim")
  | (intros; decide)
  | skip)

abbrev s__law_box : Stmt := top 34
abbrev N__law_box : List Str := ["script"]
theorem sc__law_box : FnScope N__law_box ["script"] (defScope s__law_box) := ⟨rfl, rfl, rfl, by decide +kernel, rfl, by decide +kernel, by decide +kernel⟩
abbrev s_law : Stmt := top 48
abbrev N_law : List Str := ["script", "box", "turn", "parts", "tree", "many", "leaf", "k", "other", "ways", "due", "found", "level", "node"]
theorem sc_law : FnScope N_law ["script"] (defScope s_law) := ⟨rfl, rfl, rfl, by decide +kernel, rfl, by decide +kernel, by decide +kernel⟩
def spLaw (K : PySem.W.Frag) : Sp := fun vs H Q _ => ∃ (a : Addr) (ns : List Int), vs = [.ref a] ∧ ns.length ≤ 1000 ∧ SqL K H a (ns.map V.int) ∧ ∀ H', Q (.bl true) H'
theorem cut {S : Type} {A R : WS S} {KK : WEnds S} {env : List Sl} {s : S} (I : List Sl → S → Prop) (h : ∀ r : WEnds S, (∀ e t, I e t → r.nx e t) → A r env s) (h2 : ∀ e t, I e t → R KK e t) : wSeq A R KK env s := h { KK with nx := R KK } h2
theorem last {S : Type} {A : WS S} {KK : WEnds S} {env : List Sl} {s : S} (I : List Sl → S → Prop) (h : ∀ r : WEnds S, (∀ e t, I e t → r.nx e t) → A r env s) (h2 : ∀ e t, I e t → KK.nx e t) : A KK env s := h KK h2
theorem iteB {c : Bool} {p q : Prop} (h1 : c = true → p) (h2 : c = false → q) : if c = true then p else q := by
  cases c with
  | true => exact ite_t rfl (h1 rfl)
  | false => exact ite_f (by decide) (h2 rfl)
theorem Gt.bad {h : Nat} {ls ns : List D} (g : Gt h ls ns) : bad (.int h) (.tup ls) (.tup ns) = none := by
  have h8 : (h : Int) ≤ 8 := by have := g.1; omega
  unfold Law.bad
  simp [isIn, h8, g.2.1, g.2.2.2.1]
theorem ini_ok {bd : Option Str} {k : Prop} {x : Str → Prop} (h : bd = none) (hk : k) : (match bd with | none => k | some z => x z) := by
  subst h
  exact hk
theorem ixB_at {ds : List D} {i : Int} {y : D} {s : Box} {k : D → Box → Prop} (h : atI ds i = some y) (hk : k y s) : wIxB (.tup ds) (.int i) s k := by
  show (match atI ds i with | some x => k x s | none => False)
  rw [h]
  exact hk
theorem leaf_ok {S : Type} {C CL : Addr} {g : Nat → Int → List D} {h : Nat} {ls : List D} {c : D} {n : Int} {s : S} {k : D → S → Prop} {x : Xc → S → Prop} (h8 : h ≤ 8) (l8 : ls.length ≤ 256) (n0 : 0 ≤ n) (n1 : n < ls.length) (hk : k (.tup (g h n)) s) : wfLeaf C CL g [treeD C (.int h) (.tup ls) c, .int n] s k x := by
  refine ⟨h, ls, c, rfl, by omega, by omega, l8, rfl, fun n' e _ _ => ?_, fun q => ?_⟩
  · cases e
    exact hk
  · simp [isIn] at q
    omega
theorem meet_ok {S : Type} {C CL : Addr} {a : D} {ls : List D} {c : D} {n m : Int} {lv : Nat} {s : S} {k : D → S → Prop} {x : Xc → S → Prop} (l8 : ls.length ≤ 256) (n0 : 0 ≤ n) (n1 : n < ls.length) (m0 : 0 ≤ m) (m1 : m < ls.length) (ne : n ≠ m) (hm : Met n m lv) (hk : k (.tup [.int lv, .int (n / (2 : Int) ^ lv)]) s) : wfMeet C CL [treeD C a (.tup ls) c, .int n, .int m] s k x := by
  refine ⟨a, ls, c, rfl, l8, rfl, rfl, fun q => ?_, fun q => ?_, fun n' m' e e' _ _ _ _ => ⟨fun z => ?_, fun lv' hm' _ => ?_⟩⟩
  · simp [isIn] at q
    omega
  · simp [isIn] at q
    omega
  · cases e
    cases e'
    exact absurd z ne
  · cases e
    cases e'
    rw [met_eq hm' hm]
    exact hk
theorem met_ok {S : Type} {n m : Int} {s : S} {k : D → S → Prop} {x : Xc → S → Prop} (n0 : 0 ≤ n) (n1 : n < 256) (m0 : 0 ≤ m) (m1 : m < 256) (ne : n ≠ m) (hk : ∀ lv, Met n m lv → k (.tup [.int lv, .int (n / (2 : Int) ^ lv)]) s) : wfMet [.int n, .int m] s k x := ⟨n0, n1, m0, m1, ne, hk⟩
theorem told0 {S : Type} {C : Addr} {h : Nat} {ls ns : List D} {s : S} {k : D → S → Prop} {x : Xc → S → Prop} (g : Gt h ls ns) (hk : k (.tup [.str "leaf", .bl false]) s) : wfTold9 C [.int 2, treeD C (.int h) (.tup ls) (.tup ns), .int 0] s k x :=
  ⟨h, ls, ns, rfl, g, rfl, .inl ⟨by decide, by decide, .inr ⟨rfl, rfl⟩, hk⟩⟩
theorem nd_ok {S : Type} {C CN : Addr} {g : List D → List D → Nat → Int → List D} {h : Nat} {ls ns : List D} {l : Nat} {i : Int} {s : S} {k : D → S → Prop} {x : Xc → S → Prop} (q : Gt h ls ns) (nd : Nd h l i) (hk : k (.tup (g ls ns l i)) s) : wfNd C CN g [treeD C (.int h) (.tup ls) (.tup ns), .tup [.int l, .int i]] s k x := by
  refine ⟨h, ls, ns, rfl, q, rfl, fun l' i' e _ => ?_, fun z => ?_⟩
  · simp at e
    have e1 : l = l' := by omega
    obtain ⟨_, rfl⟩ := e
    subst e1
    exact hk
  · rw [ndG nd] at z
    cases z
theorem Nd.small {h l : Nat} {i : Int} (nd : Nd h l i) (h8 : h ≤ 8) : l ≤ 8 ∧ 0 ≤ i ∧ i ≤ 256 := by
  obtain ⟨n1, n2, n3⟩ := nd
  have c : ((2 : Int) ^ h) = ((2 ^ h : Nat) : Int) := by simp
  have cl : ((2 : Int) ^ l) = ((2 ^ l : Nat) : Int) := by simp
  have p8 : 2 ^ h ≤ 2 ^ 8 := Nat.pow_le_pow_right (by decide) h8
  have : (i + 1) * 1 ≤ (i + 1) * (2 : Int) ^ l := Int.mul_le_mul_of_nonneg_left (by rw [cl]; have := Nat.two_pow_pos l; omega) (by omega)
  omega
theorem Nd.of {h l : Nat} {i : Int} (n1 : l ≤ h) (i0 : 0 ≤ i) (i1 : i < ((2 ^ (h - l) : Nat) : Int)) : Nd h l i := by
  refine ⟨n1, i0, ?_⟩
  have e : (2 : Int) ^ h = (2 : Int) ^ (h - l) * (2 : Int) ^ l := by rw [← Int.pow_add]; congr 1; omega
  have c : ((2 ^ (h - l) : Nat) : Int) = (2 : Int) ^ (h - l) := by simp
  rw [c] at i1
  rw [e]
  exact Int.mul_le_mul_of_nonneg_right (by omega) (Int.pow_nonneg (by decide))
theorem res_q {h : Nat} {ls ns : List D} {l : Nat} {i : Int} (g : Gt h ls ns) (nd : Nd h l i) : Lq 100 1 512 (res ls ns l i) := by
  refine ⟨Nat.le_trans (res_len g.nodes nd.2.1) (Nat.pow_le_pow_right (j := 9) (by decide) (by have := nd.1; have := g.1; omega)), fun d hd => ?_⟩
  obtain ⟨l', i', rfl, nd'⟩ := (res_nd g nd).1 d hd
  have := nd'.small g.1
  exact (Lq.cons (Pq.int ⟨by omega, by omega⟩) (Lq.one (Pq.int ⟨by omega, by omega⟩))).tup.mono (by decide) (by decide)
theorem hold_q {h : Nat} {ls ns : List D} {l : Nat} {i : Int} (g : Gt h ls ns) (nd : Nd h l i) : Lq 100 1 512 (hold ls ns l i) := by
  obtain ⟨i8, lb, turn⟩ := nd_turn g nd
  have ll := g.len
  have p8 : 2 ^ h ≤ 2 ^ 8 := Nat.pow_le_pow_right (by decide) g.1
  have key : ∀ as, Lq 100 1 512 ((ben (l : Int) i).filter (hdp ls as)) := fun as => ⟨Nat.le_trans (List.length_filter_le _ _) (by omega), fun d hd => by
    obtain ⟨n, rfl, n0, n1⟩ := turn d (List.mem_filter.mp hd).1
    exact (Pq.int ⟨by omega, by omega⟩).mono (by decide) (by decide)⟩
  unfold hold
  cases (if l = 0 then some [] else nodeAt ns (l : Int) i) with
  | none => exact ⟨Nat.zero_le _, fun d hd => by cases hd⟩
  | some as => exact key as
theorem Pq.lst3 {a b c : D} {x y z k : Nat} (h1 : Pq x k a) (h2 : Pq y k b) (h3 : Pq z k c) : Pq (x + y + z + 10) (k + 1) (.lst [a, b, c]) := by
  obtain ⟨a1, a2, a3⟩ := h1
  obtain ⟨b1, b2, b3⟩ := h2
  obtain ⟨c1, c2, c3⟩ := h3
  refine ⟨by rw [sm_lst]; simp [a1, b1, c1], ?_, ?_⟩
  · simp only [D.wd, D.wds]
    omega
  · simp only [D.dp, D.dps]
    omega
theorem bls_all : ∀ {ys : List D}, (∀ y ∈ ys, y = .bl true) → ∃ bs, D.bls ys = some bs ∧ false ∉ bs
  | [], _ => ⟨[], rfl, by simp⟩
  | y :: r, h => by
    obtain ⟨bs, e, q⟩ := bls_all (ys := r) fun z hz => h z (by simp [hz])
    rw [h y (by simp)]
    refine ⟨true :: bs, ?_, by simp [q]⟩
    show (D.bls r).map (true :: ·) = _
    rw [e]
    rfl
section
variable {P : Program} {w : World} {K : PySem.W.Frag} {mg : Str → Option Value} {base : Heap} {CT CL CN CB : Addr}
theorem ok_box (T : Tx P w K mg) {f : Addr} {fd : FuncData} (F : FD K "_law_box" s__law_box f fd) : Fn P w K mg base 1 f fd ["script"] (spBox K) := by
  refine fn_body F sc__law_box (fun vs H Q E h => ?_) (fun cv A outer s H vs Q E hr gd h => ?_)
  · obtain ⟨a, ns, rfl, _⟩ := h
    rfl
  · obtain ⟨a, ns, rfl, hS, hQ⟩ := h
    exact ⟨_, (pss_one (ps_ret (pe_disp (pps_cons pe_str (pe_callTy (kList (K := K)) (by rfl) T.list (by decide +kernel) (pa_cons (pv 0) pa_nil)) (pps_cons pe_str pe_int (pps_cons pe_str pe_int (pps_cons pe_str pe_int (pps_cons pe_str pe_bl (pps_cons pe_str pe_int pps_nil)))))) (by rfl) (by rfl) (fun z => by cases z) (by decide)))), box_made hS hQ⟩
theorem ok_law (T : Tx P w K mg) (cT : Cl K CT) (f__law_box : Df P w K mg base 1 "_law_box" (spBox K)) (f__law_tree : Df P w K mg base 5 "_law_tree" (spX BW wfTree)) (f__law_draw : Df P w K mg base 3 "_law_draw" (spX BW wfDraw)) (f__law_beneath : Df P w K mg base 1 "_law_beneath" (spX BW wfBen))
    (kTree : Cm P w K mg base 5 "Tree" CT (spIni BW CT (wfIni CT CB))) (f_members : Df P w K mg base 1 "members" (spX BW (wfMems CT))) (f__law_ways : Df P w K mg base 1 "_law_ways" (spX BW wfWays)) (f_path : Df P w K mg base 4 "path" (spX BW (wfLeaf CT CL ups))) (f_beside : Df P w K mg base 4 "beside" (spX BW (wfLeaf CT CL bes)))
    (f_meeting : Df P w K mg base 4 "meeting" (spX BW (wfMeet CT CL))) (f__law_met : Df P w K mg base 1 "_law_met" (spX BW wfMet)) (f__law_told : Df P w K mg base 13 "_law_told" (spX BW (wfTold9 CT))) (f__law_due_resolution : Df P w K mg base 10 "_law_due_resolution" (spX BW (wfDueR 9)))
    (f_resolution : Df P w K mg base 12 "resolution" (spX BW (wfNd CT CN fun ls ns l i => res ls ns l i))) (f_holders : Df P w K mg base 12 "holders" (spX BW (wfNd CT CN fun ls ns l i => hold ls ns l i))) (f__law_due_holders : Df P w K mg base 2 "_law_due_holders" (spX BW wfDueH)) (f__law_parted : Df P w K mg base 13 "_law_parted" (spX BW (wfParted CT)))
    (f__law_refused : Df P w K mg base 14 "_law_refused" (spX BW (wfRefused CT)))
    {f : Addr} {fd : FuncData} (F : FD K "law" s_law f fd) : Fn P w K mg base 15 f fd ["script"] (spLaw K) := by
  refine fn_body F sc_law (fun vs H Q E h => ?_) (fun cv A outer s H vs Q E hr gd h => ?_)
  · obtain ⟨a, ns, rfl, _⟩ := h
    rfl
  · obtain ⟨a, ns, rfl, hl, hS, hQ⟩ := h
    have c1 := cT.cls
    have c2 := cT.n1
    have c3 := cT.n2
    have c4 := cT.n3
    refine ⟨_, (pss_cons (ps_set (i := 1) sc_law.nd rfl (Or.inr rfl) (pe_df f__law_box hr (by omega) gd rfl (fun σ => Gl.no_pass σ) (pa_cons (pv 0) pa_nil)))
    (pss_cons (ps_for (passes_of rfl) rfl (pi_range1 rfl T.range (pa_cons pe_int pa_nil)) (pg_name (i := 2) sc_law.nd rfl (Or.inl rfl))
      (pss_cons (ps_set (i := 3) sc_law.nd rfl (Or.inr rfl) (pe_df f__law_tree hr (by omega) gd rfl (fun σ => Gl.no_pass σ) (pa_cons (pv 1) (pa_cons (pe_ifExp (pt_cmpR (kEq (K := K) hr) (pe_df f__law_draw hr (by omega) gd rfl (fun σ => Gl.no_pass σ) (pa_cons (pv 1) (pa_cons pe_int pa_nil))) pe_int (nomark _)) pe_int pe_int) pa_nil))))
    (pss_cons (ps_set (i := 4) sc_law.nd rfl (Or.inr rfl) (pe_mkC kTree hr (by omega) gd rfl (fun σ => Gl.no_pass σ) (pa_cons (pe_ix (kIx (K := K)) (pv 3) pe_int (fun _ _ => rfl)) (pa_cons (pe_ix (kIx (K := K)) (pv 3) pe_int (fun _ _ => rfl)) (pa_cons (pe_ix (kIx (K := K)) (pv 3) pe_int (fun _ _ => rfl)) pa_nil)))))
    (pss_cons (ps_set (i := 5) sc_law.nd rfl (Or.inl rfl) (pe_callB (kLen (K := K)) (by rfl) T.len (by decide +kernel) (pa_cons (pe_ix (kIx (K := K)) (pv 3) pe_int (fun _ _ => rfl)) pa_nil)))
    (pss_cons (ps_if (pt_cmpR (kNe (K := K) hr) (pe_df f_members hr (by omega) gd rfl (fun σ => Gl.no_pass σ) (pa_cons (pv 4) pa_nil)) (pe_callTy (kTuple (K := K)) (by rfl) T.tuple (by decide +kernel) (pa_cons (pe_lc (own := [("leaf", 6)]) (g := gName 6) (by rfl) sc_law.nd (pi_range1 rfl T.range (pa_cons (pv 5) pa_nil)) (blkOk_by (own := [("leaf", 6)]) (N := N_law) (sc := defScope s_law) (by decide +kernel)) (fun _ _ _ _ _ => pg_name (i := 6) sc_law.nd rfl (Or.inl rfl)) (fun _ _ _ _ _ => (pts_one (pt_cmpR op_notN1 (pe_ix (kIx (K := K)) (pe_ix (kIx (K := K)) (pv 3) pe_int (fun _ _ => rfl)) (pv 6) (fun _ _ => rfl)) pe_non (nomark _)))) (fun _ _ _ _ _ => (pv 6))) pa_nil)) (nomark _)) (pss_one (ps_ret pe_bl)) pss_nil)
    (pss_cons (ps_for (passes_of rfl) rfl (pi_range1 rfl T.range (pa_cons (pe_callB (cr_min2 rfl) (by rfl) T.min (by decide +kernel) (pa_cons (pv 5) (pa_cons pe_int pa_nil))) pa_nil)) (pg_name (i := 7) sc_law.nd rfl (Or.inl rfl))
      (pss_cons (ps_set (i := 6) sc_law.nd rfl (Or.inl rfl) (pe_ifExp (pt_cmpR op_ltX (pv 5) pe_int (nomark _)) (pv 7) (pe_df f__law_draw hr (by omega) gd rfl (fun σ => Gl.no_pass σ) (pa_cons (pv 1) (pa_cons (pv 5) pa_nil)))))
    (pss_cons (ps_set (i := 8) sc_law.nd rfl (Or.inl rfl) (pe_df f__law_draw hr (by omega) gd rfl (fun σ => Gl.no_pass σ) (pa_cons (pv 1) (pa_cons (pv 5) pa_nil))))
    (pss_cons (ps_set (i := 9) sc_law.nd rfl (Or.inl rfl) (pe_df f__law_ways hr (by omega) gd rfl (fun σ => Gl.no_pass σ) (pa_cons (pe_ix (kIx (K := K)) (pv 3) pe_int (fun _ _ => rfl)) (pa_cons (pv 6) pa_nil))))
    (pss_cons (ps_if (pt_cmpR (kNe (K := K) hr) (pe_callB (kRepr (K := K) hr gd) (by rfl) T.repr (by decide +kernel) (pa_cons (pe_lst (pa_cons (pe_df f_path hr (by omega) gd rfl (fun σ => Gl.no_pass σ) (pa_cons (pv 4) (pa_cons (pv 6) pa_nil))) (pa_cons (pe_df f_beside hr (by omega) gd rfl (fun σ => Gl.no_pass σ) (pa_cons (pv 4) (pa_cons (pv 6) pa_nil))) pa_nil))) pa_nil)) (pe_callB (kRepr (K := K) hr gd) (by rfl) T.repr (by decide +kernel) (pa_cons (pv 9) pa_nil)) (nomark _)) (pss_one (ps_ret pe_bl)) pss_nil)
    (pss_cons (ps_set (i := 10) sc_law.nd rfl (Or.inl rfl) (pe_ifExp (pt_cmpR (kEq (K := K) hr) (pv 6) (pv 8) (nomark _)) (pe_tup (pa_cons pe_str (pa_cons pe_bl pa_nil))) (pe_df f__law_met hr (by omega) gd rfl (fun σ => Gl.no_pass σ) (pa_cons (pv 6) (pa_cons (pv 8) pa_nil)))))
    (pss_cons (ps_set (i := 11) sc_law.nd rfl (Or.inl rfl) (pe_ifExp (PW.pt (pw_and (pt_cmpR (kEq (K := K) hr) (pv 6) (pv 8) (nomark _)) (pw_and1 (pt_cmpR (kEq (K := K) hr) (pv 6) pe_int (nomark _))))) (pe_df f__law_told hr (by omega) gd rfl (fun σ => Gl.no_pass σ) (pa_cons pe_int (pa_cons (pv 4) (pa_cons (pv 6) pa_nil)))) pe_non))
    (pss_one (ps_if (PW.pt (pw_or (PW.pt (pw_and (pt_cmpR op_notN1 (pv 11) pe_non (nomark _)) (pw_and1 (pt_cmpR (kNe (K := K) hr) (pv 11) (pv 10) (nomark _))))) (pw_or1 (PW.pt (pw_and (pt_cmpR (kNe (K := K) hr) (pv 6) (pv 8) (nomark _)) (pw_and1 (pt_cmpR (kNe (K := K) hr) (pe_callB (kRepr (K := K) hr gd) (by rfl) T.repr (by decide +kernel) (pa_cons (pe_df f_meeting hr (by omega) gd rfl (fun σ => Gl.no_pass σ) (pa_cons (pv 4) (pa_cons (pv 6) (pa_cons (pv 8) pa_nil)))) pa_nil)) (pe_callB (kRepr (K := K) hr gd) (by rfl) T.repr (by decide +kernel) (pa_cons (pv 10) pa_nil)) (nomark _)))))))) (pss_one (ps_ret pe_bl)) pss_nil)))))))))
    (pss_cons (ps_for (passes_of rfl) rfl (pi_range1 rfl T.range (pa_cons pe_int pa_nil)) (pg_name (i := 7) sc_law.nd rfl (Or.inl rfl))
      (pss_cons (ps_set (i := 12) sc_law.nd rfl (Or.inl rfl) (pe_ifExp (pt_cmpR op_gtX (pv 7) pe_int (nomark _)) (pe_df f__law_draw hr (by omega) gd rfl (fun σ => Gl.no_pass σ) (pa_cons (pv 1) (pa_cons (pe_op (kAdd (K := K)) (pe_ix (kIx (K := K)) (pv 3) pe_int (fun _ _ => rfl)) pe_int) pa_nil))) (pe_ix (kIx (K := K)) (pv 3) pe_int (fun _ _ => rfl))))
    (pss_cons (ps_set (i := 13) sc_law.nd rfl (Or.inl rfl) (pe_tup (pa_cons (pv 12) (pa_cons (pe_df f__law_draw hr (by omega) gd rfl (fun σ => Gl.no_pass σ) (pa_cons (pv 1) (pa_cons (pe_callB (kLen (K := K)) (by rfl) T.len (by decide +kernel) (pa_cons (pe_df f__law_beneath hr (by omega) gd rfl (fun σ => Gl.no_pass σ) (pa_cons (pe_tup (pa_cons (pe_op op_sub (pe_ix (kIx (K := K)) (pv 3) pe_int (fun _ _ => rfl)) (pv 12)) (pa_cons pe_int pa_nil))) pa_nil)) pa_nil)) pa_nil))) pa_nil))))
    (pss_cons (ps_set (i := 10) sc_law.nd rfl (Or.inl rfl) (pe_df f__law_due_resolution hr (by omega) gd rfl (fun σ => Gl.no_pass σ) (pa_cons (pv 3) (pa_cons (pv 13) pa_nil))))
    (pss_cons (ps_if (PW.pt (pw_or (pt_cmpR (kNe (K := K) hr) (pe_callB (kRepr (K := K) hr gd) (by rfl) T.repr (by decide +kernel) (pa_cons (pe_df f_resolution hr (by omega) gd rfl (fun σ => Gl.no_pass σ) (pa_cons (pv 4) (pa_cons (pv 13) pa_nil))) pa_nil)) (pe_callB (kRepr (K := K) hr gd) (by rfl) T.repr (by decide +kernel) (pa_cons (pv 10) pa_nil)) (nomark _)) (pw_or1 (pt_cmpR (kNe (K := K) hr) (pe_callB (kRepr (K := K) hr gd) (by rfl) T.repr (by decide +kernel) (pa_cons (pe_df f_holders hr (by omega) gd rfl (fun σ => Gl.no_pass σ) (pa_cons (pv 4) (pa_cons (pv 13) pa_nil))) pa_nil)) (pe_callB (kRepr (K := K) hr gd) (by rfl) T.repr (by decide +kernel) (pa_cons (pe_df f__law_due_holders hr (by omega) gd rfl (fun σ => Gl.no_pass σ) (pa_cons (pv 3) (pa_cons (pv 13) pa_nil))) pa_nil)) (nomark _))))) (pss_one (ps_ret pe_bl)) pss_nil)
    (pss_one (ps_if (pt_not (pt_val (pe_df f__law_parted hr (by omega) gd rfl (fun σ => Gl.no_pass σ) (pa_cons (pv 4) (pa_cons (pv 3) (pa_cons (pv 13) pa_nil)))))) (pss_one (ps_ret pe_bl)) pss_nil)))))))
    (pss_cons (ps_if (pt_not (pt_val (pe_callB (kAll (K := K) rfl) (by rfl) T.all (by decide +kernel) (pa_cons (pe_lc (own := [("k", 7)]) (g := gName 7) (by rfl) sc_law.nd (pi_range1 rfl T.range (pa_cons pe_int pa_nil)) (blkOk_by (own := [("k", 7)]) (N := N_law) (sc := defScope s_law) (by decide +kernel)) (fun _ _ _ _ _ => pg_name (i := 7) sc_law.nd rfl (Or.inl rfl)) (fun _ _ _ _ _ => pts_nil) (fun _ _ _ _ _ => (pe_df f__law_refused hr (by omega) gd rfl (fun σ => Gl.no_pass σ) (pa_cons (pv 1) (pa_cons (pv 4) (pa_cons (pv 3) pa_nil)))))) pa_nil)))) (pss_one (ps_ret pe_bl)) pss_nil)
    (pss_one (ps_if (pt_cmpR (kNe (K := K) hr) (pe_callB (kRepr (K := K) hr gd) (by rfl) T.repr (by decide +kernel) (pa_cons (pe_lst (pa_cons (kFld (K := K) (pv 4) rfl) (pa_cons (kFld (K := K) (pv 4) rfl) (pa_cons (kFld (K := K) (pv 4) rfl) pa_nil)))) pa_nil)) (pe_callB (kRepr (K := K) hr gd) (by rfl) T.repr (by decide +kernel) (pa_cons (pv 3) pa_nil)) (nomark _)) (pss_one (ps_ret pe_bl)) pss_nil))))))))))
    (pss_one (ps_ret pe_bl)))), ?_⟩
    refine law_start hS (Nat.le_trans hl (by decide)) hQ (by decide) ?_
    apply bodyG
    · intro G
      walk_at "sim"
    intro b hb h0
    refine ⟨by decide, by decide, ?_⟩
    refine wFor_ind (fun _ env s => ∃ (p : Addr) (v2 v3 v4 v5 v6 v7 v8 v9 v10 v11 v12 v13 : Sl), Bo p s ∧ env = [.dat (.opq a), .dat (.opq p), v2, v3, v4, v5, v6, v7, v8, v9, v10, v11, v12, v13]) ⟨b.a, .no, .no, .no, .no, .no, .no, .no, .no, .no, .no, .no, .no, ⟨rfl, by rw [h0]; exact Int.le_refl _⟩, rfl⟩ (fun _ _ _ => rfl) fun d r ih env s hp => ?_
    obtain ⟨p, v2, v3, v4, v5, v6, v7, v8, v9, v10, v11, v12, v13, hB, rfl⟩ := hp
    refine cut (fun env s => ∃ (h : Nat) (ls ns : List D), Gt h ls ns ∧ Bo p s ∧ env = [.dat (.opq a), .dat (.opq p), .dat d, .dat (.lst [.int h, .tup ls, .tup ns]), v4, v5, v6, v7, v8, v9, v10, v11, v12, v13]) (fun r hr => ?_) fun env s hI => ?_
    · refine ⟨hB, (by decide : (0 : Int) < 30), (by decide : (30 : Int) ≤ 10 ^ 30), fun s1 i b1 i0 i1 => iteB (fun _ => ?_) fun _ => ?_⟩
      · exact ⟨b1, (by decide : (0 : Int) ≤ 8), (by decide : (8 : Int) ≤ 8), fun s2 h ls ns b2 h8 l1 l2 n1 n2 => hr _ _ ⟨h, ls, ns, ⟨h8, l1, l2, n1, n2⟩, b2, rfl⟩⟩
      · exact ⟨b1, (by decide : (0 : Int) ≤ 5), (by decide : (5 : Int) ≤ 8), fun s2 h ls ns b2 h8 l1 l2 n1 n2 => hr _ _ ⟨h, ls, ns, ⟨h8, l1, l2, n1, n2⟩, b2, rfl⟩⟩
    obtain ⟨h, ls, ns, g, hB, rfl⟩ := hI
    have h8 := g.1
    have ll := g.len
    have p8 : 2 ^ h ≤ 2 ^ 8 := Nat.pow_le_pow_right (by decide) h8
    have pp := Nat.two_pow_pos h
    have hi : (h : Int) ≤ 10000000000000000000000000000000 := by omega
    have px : Pq 200 7 (.int h) := (Pq.int ⟨by omega, hi⟩).mono (by decide) (by decide)
    have py : Pq 80000 7 (.tup ls) := g.2.2.1.tup.mono (by decide) (by decide)
    have pz : Pq 9000000 7 (.tup ns) := g.2.2.2.2.tup.mono (by decide) (by decide)
    let E3 := fun (v6 v7 v8 v9 v10 v11 v12 v13 : Sl) => ([.dat (.opq a), .dat (.opq p), .dat d, .dat (.lst [.int h, .tup ls, .tup ns]), .dat (treeD CT (.int h) (.tup ls) (.tup ns)), .dat (.int ls.length), v6, v7, v8, v9, v10, v11, v12, v13] : List Sl)
    let I3 := fun (env : List Sl) (s : Box) => ∃ (v6 v7 v8 v9 v10 v11 v12 v13 : Sl), Bo p s ∧ env = E3 v6 v7 v8 v9 v10 v11 v12 v13
    refine cut (fun env s => Bo p s ∧ env = [.dat (.opq a), .dat (.opq p), .dat d, .dat (.lst [.int h, .tup ls, .tup ns]), .dat (treeD CT (.int h) (.tup ls) (.tup ns)), v5, v6, v7, v8, v9, v10, v11, v12, v13]) (fun r hr => ?_) fun env s hI => ?_
    · refine ⟨px.1, py.1, pz.1, ?_⟩
      simp only [g.bad]
      exact hr _ _ ⟨hB, rfl⟩
    obtain ⟨hB, rfl⟩ := hI
    refine cut I3 (fun r hr => hr _ _ ⟨v6, v7, v8, v9, v10, v11, v12, v13, hB, rfl⟩) fun env s hI => ?_
    refine cut I3 (fun r hr => ?_) fun env s hI => ?_
    · obtain ⟨v6, v7, v8, v9, v10, v11, v12, v13, hB, rfl⟩ := hI
      refine ⟨_, ls, _, rfl, (by omega : ls.length ≤ 256), ?_⟩
      refine ⟨by rw [sizeLine_eq]; omega, by omega, by rw [rngD_len, sizeLine_eq]; omega, ?_⟩
      refine wLc_pure (fun d => match d with | .int n => seen ls n | _ => false) id (fun d hd kt kf h1 h2 => ?_) ?_
      · obtain ⟨j, hj, rfl⟩ := List.mem_map.mp (by rw [rngD_eq] at hd; exact hd)
        have hj := List.mem_range.mp hj
        have n0 : (0 : Int) ≤ 0 + (j : Int) := by omega
        obtain ⟨y, hy, _⟩ := at_some (ls := ls) n0 (by omega)
        rw [Int.zero_add] at hy
        have hs : seen ls (j : Int) = ny y := by unfold seen; rw [hy]; cases y <;> rfl
        simp only [Int.zero_add] at h1 h2
        rw [hs] at h1 h2
        clear ih
        simp [E3, hy, at1] at h1 h2 ⊢
        cases y <;> first | exact h1 rfl | exact h2 rfl
      · rw [List.map_id]
        have lq : Lq 40 0 256 (mem ls (rngD 0 ls.length)) := ⟨Nat.le_trans (List.length_filter_le _ _) (by rw [rngD_len]; omega), fun d hd => by
          have hd := (List.mem_filter.mp hd).1
          rw [rngD_eq] at hd
          obtain ⟨j, hj, rfl⟩ := List.mem_map.mp hd
          have hj := List.mem_range.mp hj
          exact Pq.int ⟨by omega, by omega⟩⟩
        obtain ⟨p, e, sh⟩ := lq.tup.shaped (by decide)
        refine ⟨p, p, e, e, sh, sh, ite_f (by rw [shaped_refl sh]; decide) ?_⟩
        exact hr _ _ ⟨v6, v7, v8, v9, v10, v11, v12, v13, hB, rfl⟩
    obtain ⟨v6, v7, v8, v9, v10, v11, v12, v13, hB, rfl⟩ := hI
    refine cut I3 (fun r hr => ?_) fun env s hI => ?_
    · clear ih
      have mm : ∃ u : Nat, (if (12 : Int) < (ls.length : Int) then (12 : Int) else (ls.length : Int)) = u ∧ u ≤ 12 ∧ u ≤ ls.length := by
        by_cases q : (12 : Int) < (ls.length : Int)
        · exact ⟨12, by rw [if_pos q]; rfl, by omega, by omega⟩
        · exact ⟨ls.length, by rw [if_neg q], by omega, by omega⟩
      obtain ⟨u, eu, u1, u2⟩ := mm
      have e1 : (fun i j : Int => if j < i then j else i) (ls.length : Int) 12 = u := eu
      refine ⟨by rw [e1, sizeLine_eq]; omega, by rw [e1]; omega, ?_⟩
      rw [e1, Int.toNat_natCast]
      refine wFor_ind (fun r env s => (∀ d ∈ r, ∃ k : Nat, d = .int k ∧ k < u) ∧ I3 env s) ⟨fun d hd => ?_, v6, v7, v8, v9, v10, v11, v12, v13, hB, rfl⟩ (fun env s hp => hr _ _ hp.2) fun d r' ih env s hp => ?_
      · rw [rngD_eq] at hd
        obtain ⟨j, hj, rfl⟩ := List.mem_map.mp hd
        exact ⟨j, by rw [Int.zero_add], List.mem_range.mp hj⟩
      obtain ⟨hr', v6, v7, v8, v9, v10, v11, v12, v13, hB, rfl⟩ := hp
      obtain ⟨k, rfl, hk⟩ := hr' d (by simp)
      have l256 : ls.length ≤ 256 := by omega
      refine cut (fun env s => ∃ n : Int, 0 ≤ n ∧ n < ls.length ∧ Bo p s ∧ env = E3 (.dat (.int n)) (.dat (.int k)) v8 v9 v10 v11 v12 v13) (fun r hr => ?_) fun env s hI => ?_
      · refine iteB (fun q => hr _ _ ⟨k, by omega, by omega, hB, rfl⟩) fun q => ⟨hB, (by omega : (0 : Int) < ls.length), (by omega : (ls.length : Int) ≤ 10 ^ 30), fun s1 i b1 i0 i1 => hr _ _ ⟨i, i0, i1, b1, rfl⟩⟩
      obtain ⟨n, n0, n1, hB, rfl⟩ := hI
      refine cut (fun env s => ∃ m : Int, 0 ≤ m ∧ m < ls.length ∧ Bo p s ∧ env = E3 (.dat (.int n)) (.dat (.int k)) (.dat (.int m)) v9 v10 v11 v12 v13) (fun r hr => ?_) fun env s hI => ?_
      · exact ⟨hB, (by omega : (0 : Int) < ls.length), (by omega : (ls.length : Int) ≤ 10 ^ 30), fun s1 i b1 i0 i1 => hr _ _ ⟨i, i0, i1, b1, rfl⟩⟩
      obtain ⟨m, m0, m1, hB, rfl⟩ := hI
      have lu : (ups h n).length = h := by simp [ups]
      have lb : (bes h n).length = h := by simp [bes]
      have hdiv : ∀ j : Nat, 0 ≤ n / (2 : Int) ^ j ∧ n / (2 : Int) ^ j ≤ 256 := fun j => ⟨Int.ediv_nonneg n0 (Int.pow_nonneg (by decide)), by have := Int.ediv_le_self ((2 : Int) ^ j) n0; omega⟩
      have lq : Lq 100 1 8 (ups h n) := ⟨by omega, fun d hd => by
        obtain ⟨j, hj, rfl⟩ := List.mem_map.mp hd
        have hj := List.mem_range.mp hj
        have := hdiv (j + 1)
        exact (Lq.cons (Pq.int ⟨by omega, by omega⟩) (Lq.one (Pq.int ⟨by omega, by omega⟩))).tup.mono (by decide) (by decide)⟩
      have lq2 : Lq 100 1 8 (bes h n) := ⟨by omega, fun d hd => by
        obtain ⟨j, hj, rfl⟩ := List.mem_map.mp hd
        have hj := List.mem_range.mp hj
        have := hdiv j
        exact (Lq.cons (Pq.int ⟨by omega, by omega⟩) (Lq.one (Pq.int ⟨by omega, by omega⟩))).tup.mono (by decide) (by decide)⟩
      obtain ⟨q, q1, q2, q3, q4⟩ := (Lq.cons lq.tup (Lq.one lq2.tup)).lst.shown (by rw [sizeLine_eq]; decide) (by decide)
      refine cut (fun env s => Bo p s ∧ env = E3 (.dat (.int n)) (.dat (.int k)) (.dat (.int m)) (.dat (.lst [.tup (ups h n), .tup (bes h n)])) v10 v11 v12 v13) (fun r hr => ?_) fun env s hI => ?_
      · exact ⟨(by omega : (0 : Int) ≤ h), (by omega : (h : Int) ≤ 8), n0, (by omega : n ≤ 256), hr _ _ ⟨hB, rfl⟩⟩
      obtain ⟨hB, rfl⟩ := hI
      refine cut (fun env s => Bo p s ∧ env = E3 (.dat (.int n)) (.dat (.int k)) (.dat (.int m)) (.dat (.lst [.tup (ups h n), .tup (bes h n)])) v10 v11 v12 v13) (fun r hr => ?_) fun env s hI => ?_
      · simp [E3, -D.py, -D.pys]
        refine leaf_ok h8 l256 n0 n1 ?_
        refine leaf_ok h8 l256 n0 n1 ?_
        exact ⟨by decide, q, q1, q2, q3, q4, q, q1, q2, q3, q4, ite_t rfl (hr _ _ ⟨hB, rfl⟩)⟩
      obtain ⟨hB, rfl⟩ := hI
      let E4 := fun (du v11 : Sl) => E3 (.dat (.int n)) (.dat (.int k)) (.dat (.int m)) (.dat (.lst [.tup (ups h n), .tup (bes h n)])) du v11 v12 v13
      refine cut (fun env s => ∃ du, (n = m ∧ du = .tup [.str "leaf", .bl false] ∨ n ≠ m ∧ ∃ lv, Met n m lv ∧ du = .tup [.int lv, .int (n / (2 : Int) ^ lv)]) ∧ Bo p s ∧ env = E4 (.dat du) v11) (fun r hr => ?_) fun env s hI => ?_
      · refine iteB (fun q => ⟨by decide, hr _ _ ⟨_, .inl ⟨of_decide_eq_true q, rfl⟩, hB, rfl⟩⟩) fun q => ?_
        simp [E3]
        refine met_ok n0 (by omega) m0 (by omega) (of_decide_eq_false q) fun lv hm => ?_
        exact hr _ _ ⟨_, .inr ⟨of_decide_eq_false q, lv, hm, rfl⟩, hB, rfl⟩
      obtain ⟨du, hdu, hB, rfl⟩ := hI
      refine cut (fun env s => ∃ fo, (fo = .non ∨ n = m ∧ fo = .tup [.str "leaf", .bl false]) ∧ Bo p s ∧ env = E4 (.dat du) (.dat fo)) (fun r hr => ?_) fun env s hI => ?_
      · refine iteB (fun q => iteB (fun z => ?_) fun z => hr _ _ ⟨_, .inl rfl, hB, rfl⟩) fun q => hr _ _ ⟨_, .inl rfl, hB, rfl⟩
        have z := of_decide_eq_true z
        subst z
        simp [E4, E3]
        refine told0 g ?_
        exact hr _ _ ⟨_, .inr ⟨of_decide_eq_true q, rfl⟩, hB, rfl⟩
      obtain ⟨fo, hfo, hB, rfl⟩ := hI
      have fin := ih (E4 (.dat du) (.dat fo)) s ⟨fun d hd => hr' d (by simp [hd]), .dat (.int n), .dat (.int k), .dat (.int m), .dat (.lst [.tup (ups h n), .tup (bes h n)]), .dat du, .dat fo, v12, v13, hB, rfl⟩
      refine last (fun env s' => env = E4 (.dat du) (.dat fo) ∧ s' = s) (fun r hr => ?_) fun _ _ e => by
        obtain ⟨rfl, rfl⟩ := e
        exact fin
      have fin := hr _ _ ⟨rfl, rfl⟩
      rcases hdu with ⟨rfl, rfl⟩ | ⟨ne, lv, hm, rfl⟩
      · rcases hfo with rfl | ⟨_, rfl⟩
        · simp [E4, E3]
          exact fin
        · simp [E4, E3, -D.py, -D.pys]
          refine ⟨pL, rfl, pL, rfl, shL, shL, ?_⟩
          rw [shaped_refl shL]
          exact fin
      · rcases hfo with rfl | ⟨e, _⟩
        · simp [E4, E3, ne, -D.py, -D.pys]
          refine meet_ok l256 n0 n1 m0 m1 ne hm ?_
          have dv := hdiv lv
          have := hm.2.1
          obtain ⟨q, q1, q2, q3, q4⟩ := (Lq.cons (Pq.int (i := (lv : Int)) ⟨by omega, by omega⟩) (Lq.one (Pq.int (i := n / 2 ^ lv) ⟨by omega, by omega⟩))).tup.shown (by rw [sizeLine_eq]; decide) (by decide)
          exact ⟨q, q1, q2, q3, q4, q, q1, q2, q3, q4, ite_t rfl fin⟩
        · exact absurd e ne
    obtain ⟨v6, v7, v8, v9, v10, v11, v12, v13, hB, rfl⟩ := hI
    let E5 := fun (v7 v10 v12 v13 : Sl) => E3 v6 v7 v8 v9 v10 v11 v12 v13
    refine cut (fun env s => ∃ v7 v10 v12 v13, Bo p s ∧ env = E5 v7 v10 v12 v13) (fun r hr => ?_) fun env s hI => ?_
    · clear ih
      refine ⟨by decide, by decide, ?_⟩
      refine wFor_ind (fun r env s => (∀ d ∈ r, ∃ k : Nat, d = .int k) ∧ ∃ v7 v10 v12 v13, Bo p s ∧ env = E5 v7 v10 v12 v13) ⟨fun d hd => ?_, v7, v10, v12, v13, hB, rfl⟩ (fun env s hp => hr _ _ hp.2) fun d r' ih env s hp => ?_
      · rw [rngD_eq] at hd
        obtain ⟨j, hj, rfl⟩ := List.mem_map.mp hd
        exact ⟨j, by rw [Int.zero_add]⟩
      obtain ⟨hr', v7, v10, v12, v13, hB, rfl⟩ := hp
      obtain ⟨k, rfl⟩ := hr' d (by simp)
      refine cut (fun env s => ∃ l : Nat, l ≤ h ∧ Bo p s ∧ env = E5 (.dat (.int k)) v10 (.dat (.int l)) v13) (fun r hr => ?_) fun env s hI => ?_
      · refine iteB (fun q => ⟨hB, (by omega : (0 : Int) < (h : Int) + 1), (by omega : (h : Int) + 1 ≤ 10 ^ 30), fun s1 i b1 i0 i1 => ?_⟩) fun q => hr _ _ ⟨h, Nat.le_refl _, hB, rfl⟩
        obtain ⟨l, rfl⟩ := Int.eq_ofNat_of_zero_le i0
        exact hr _ _ ⟨l, by omega, b1, rfl⟩
      obtain ⟨l, lh, hB, rfl⟩ := hI
      refine cut (fun env s => ∃ i : Int, Nd h l i ∧ Bo p s ∧ env = E5 (.dat (.int k)) v10 (.dat (.int l)) (.dat (.tup [.int l, .int i]))) (fun r hr => ?_) fun env s hI => ?_
      · simp [E5, E3, wfBen, wfDraw]
        have bl : (ben ((h : Int) - (l : Int)) 0).length = 2 ^ (h - l) := by
          simp only [ben, rngD_len]
          rw [show ((h : Int) - (l : Int)).toNat = h - l by omega]
        rw [bl]
        have q8 : 2 ^ (h - l) ≤ 2 ^ 8 := Nat.pow_le_pow_right (by decide) (by omega)
        exact ⟨by decide, lh, by omega, hB, Nat.two_pow_pos _, Int.le_trans (Int.ofNat_le.mpr q8) (by decide), fun s' i b i0 i1 => ⟨by decide, hr _ _ ⟨i, Nd.of lh i0 i1, b, rfl⟩⟩⟩
      obtain ⟨i, nd, hB, rfl⟩ := hI
      refine cut (fun env s => Bo p s ∧ env = E5 (.dat (.int k)) (.dat (.tup (res ls ns l i))) (.dat (.int l)) (.dat (.tup [.int l, .int i]))) (fun r hr => ?_) fun env s hI => ?_
      · exact ⟨h, ls, ns, l, i, rfl, rfl, g, (by omega : l < 9), nd, hr _ _ ⟨hB, rfl⟩⟩
      obtain ⟨hB, rfl⟩ := hI
      refine cut (fun env s => Bo p s ∧ env = E5 (.dat (.int k)) (.dat (.tup (res ls ns l i))) (.dat (.int l)) (.dat (.tup [.int l, .int i]))) (fun r hr => ?_) fun env s hI => ?_
      · simp [E5, E3, -D.py, -D.pys]
        refine nd_ok g nd ?_
        obtain ⟨q, q1, q2, q3, q4⟩ := (res_q g nd).tup.shown (by rw [sizeLine_eq]; decide) (by decide)
        refine ⟨q, q1, q2, q3, q4, q, q1, q2, q3, q4, ite_t rfl ?_⟩
        refine nd_ok g nd ?_
        obtain ⟨q, q1, q2, q3, q4⟩ := (hold_q g nd).tup.shown (by rw [sizeLine_eq]; decide) (by decide)
        refine ⟨q, q1, q2, q3, q4, h, ls, ns, l, i, rfl, rfl, g, nd, q, q1, q2, q3, q4, ite_t rfl ?_⟩
        exact hr _ _ ⟨hB, rfl⟩
      obtain ⟨hB, rfl⟩ := hI
      refine ⟨h, ls, ns, l, i, rfl, rfl, rfl, g, nd, ite_f (by decide) ?_⟩
      exact ih _ _ ⟨fun d hd => hr' d (by simp [hd]), _, _, _, _, hB, rfl⟩
    obtain ⟨v7, v10, v12, v13, hB, rfl⟩ := hI
    refine cut (fun env s => Bo p s ∧ env = E5 v7 v10 v12 v13) (fun r hr => ?_) fun env s hI => ?_
    · clear ih
      simp [E5, E3, -D.py, -D.pys]
      refine ⟨by decide, by decide, wLc_dr (Bo p) (fun d => d = .bl true) (fun d hd s hs kt hk => ?_) hB fun s2 ys hs2 hl hy => ?_⟩
      · exact ⟨h, ls, ns, rfl, rfl, g, hs, fun s' b => hk s' _ b rfl⟩
      · obtain ⟨bs, e, q⟩ := bls_all hy
        exact ⟨bs, e, ite_f q (hr _ _ ⟨hs2, rfl⟩)⟩
    obtain ⟨hB, rfl⟩ := hI
    refine last (fun env s' => env = E5 v7 v10 v12 v13 ∧ s' = s) (fun r hr => ?_) fun _ _ e => by
      obtain ⟨rfl, rfl⟩ := e
      exact ih _ _ ⟨_, _, _, _, _, _, _, _, _, _, _, _, _, hB, rfl⟩
    have fin := hr _ _ ⟨rfl, rfl⟩
    clear ih
    simp [E5, E3, treeD, lkH, lkL, lkN, -D.py, -D.pys]
    obtain ⟨q, q1, q2, q3, q4⟩ := (Pq.lst3 px py pz).shown (by decide) (by decide)
    exact ⟨by decide, q, q1, q2, q3, q4, q, q1, q2, q3, q4, ite_t rfl fin⟩
end
end Law
set_option Elab.async false
set_option linter.all false
set_option maxRecDepth 100000
set_option maxHeartbeats 0
namespace Law
open PySem PySem.Spec PyProof.Rows L2 Gl Dw
abbrev PP : Program := PySem.Challenge.pw_veilpost_k09_whole_paths_and_resolutions
def frees : List Str := ["all", "bool", "enumerate", "int", "isinstance", "len", "list", "min", "range", "repr", "set", "sorted", "str", "super", "tuple", "zip"]
def dd (x : Str) (s : Stmt) : He.DefD := ⟨(x, none), x, x, defArgs s, defBody s, defScope s, [], []⟩
def fns : List He.DefD := [dd "is_integer" s_is_integer, dd "is_within" s_is_within, dd "is_tuple_of" s_is_tuple_of, dd "is_name" s_is_name, dd "is_lock" s_is_lock, dd "is_member" s_is_member, dd "are_leaves" s_are_leaves, dd "leaves_beneath" s_leaves_beneath, dd "is_node" s_is_node, dd "_law_beneath" s__law_beneath, dd "is_aside" s_is_aside, dd "are_nodes" s_are_nodes, dd "_law_mixed" s__law_mixed, dd "_law_refill" s__law_refill, dd "_law_draw" s__law_draw, dd "_law_name" s__law_name, dd "_law_lock" s__law_lock, dd "_law_tree" s__law_tree, ⟨("Tree", some "__init__"), "__init__", "Tree.__init__", defArgs s_Tree___init__, defBody s_Tree___init__, defScope s_Tree___init__, [], []⟩, ⟨("Tree", some "locks"), "locks", "Tree.locks", defArgs s_Tree_locks, defBody s_Tree_locks, defScope s_Tree_locks, [], []⟩, dd "check_leaf" s_check_leaf, dd "check_node" s_check_node, dd "nodes_above" s_nodes_above, dd "path" s_path, dd "beside" s_beside, dd "resolved" s_resolved, dd "resolution" s_resolution, dd "members" s_members, dd "meeting" s_meeting, dd "holders" s_holders, dd "_law_box" s__law_box, dd "_law_ways" s__law_ways, dd "_law_due_resolution" s__law_due_resolution, dd "_law_due_holders" s__law_due_holders, dd "_law_met" s__law_met, dd "_law_parted" s__law_parted, dd "_law_told" s__law_told, dd "_law_refused" s__law_refused, dd "law" s_law]
def fas : List He.Fa := [.glo "is_integer", .glo "is_within", .glo "is_tuple_of", .glo "is_name", .glo "is_lock", .glo "is_member", .glo "are_leaves", .glo "leaves_beneath", .glo "is_node", .glo "_law_beneath", .glo "is_aside", .glo "are_nodes", .glo "_law_mixed", .glo "_law_refill", .glo "_law_draw", .glo "_law_name", .glo "_law_lock", .glo "_law_tree", .glo "check_leaf", .glo "check_node", .glo "nodes_above", .glo "path", .glo "beside", .glo "resolved", .glo "resolution", .glo "members", .glo "meeting", .glo "holders", .glo "_law_box", .glo "_law_ways", .glo "_law_due_resolution", .glo "_law_due_holders", .glo "_law_met", .glo "_law_parted", .glo "_law_told", .glo "_law_refused", .glo "law", .int "MOST_HIGH" 8, .int "MOST_SIGNS" 12, .str "SIGNS" "abcdefghijklmnopqrstuvwxyz", .glo "PostError", .glo "BadTree", .glo "NoLeaf", .glo "NoNode", .glo "Tree", .cls "Tree", .noat "Tree" "height", .noat "Tree" "leaves", .noat "Tree" "nodes", .exm "NoLeaf" "NoLeaf" true, .exm "NoNode" "NoLeaf" false, .exm "NoNode" "NoNode" true]
theorem bot {S : Type} {W : Wd S} {P : Program} {w : World} {K : PySem.W.Frag} {mg : Str → Option Value} {base : Heap} {n : Nat} {f : Addr} {fd : FuncData} {ps : List Str} {wf : List D → S → (D → S → Prop) → (Xc → S → Prop) → Prop} (h : ∀ ds s k x, ¬ wf ds s k x) : Fn P w K mg base n f fd ps (spX W wf) :=
  ⟨fun vs H Q E z => (let ⟨_, _, _, _, _, _, _, q, _⟩ := z; (h _ _ _ _ q).elim), fun _ _ _ _ _ _ _ _ _ _ _ _ _ _ z => (let ⟨_, _, _, _, _, _, _, q, _⟩ := z; (h _ _ _ _ q).elim)⟩
def e0B (K : PySem.W.Frag) (C : Addr) : Bool := PySem.W.excIn K C He.veBase "ValueError.__new__" && PySem.W.keepIn K (.ref C)
def exs (K : PySem.W.Frag) : List Bool := [Ex.badB PP.main.file K (He.ga K "BadTree") "part", excB K (He.ga K "BadTree"), rsB K (He.ga K "BadTree"), e0B K (He.ga K "NoLeaf"), excB K (He.ga K "NoLeaf"), rsB K (He.ga K "NoLeaf"), e0B K (He.ga K "NoNode"), excB K (He.ga K "NoNode"), rsB K (He.ga K "NoNode"), incB K (He.ga K "Tree"), mkB K (He.ga K "Tree"), metB K (He.ga K "Tree") "locks", decide (PySem.W.kitOne K (.ref (He.ga K "NoLeaf")) (.ref (He.ga K "NoNode")) = some false), decide (PySem.W.kitOne K (.ref (He.ga K "NoNode")) (.ref (He.ga K "PostError")) = some true)]
def exK (K : PySem.W.Frag) : Bool := frees.all (fun x => (He.Fa.free x).ok K) && (exs K).all id
def obM (K : PySem.W.Frag) : List Ex.FnM := (["BadTree"] : List Str).map fun m => Ex.obsM K m
def vaM : List Ex.FnM := [Ex.valM "BadTree.__init__" (inClass (top 6) 0)]
def KK (g : Addr → Option Obj) : PySem.W.Frag := He.frG g (cStatics :: sysModules :: He.asD g 5)
abbrev AlM : Type := He.AlD × Bool × List Ex.FnM
def obK (K : PySem.W.Frag) : AlM := (He.obsD fas fns K, exK K, obM K)
def vaK : AlM := (He.valD fns, true, vaM)
def hk : PySem.W.Hook where
  α := AlM
  obs := fun s => obK (KK s.heap.get?)
  val := fun _ => vaK
  says := fun _ h => ∃ K : PySem.W.Frag, K.In h ∧ obK K = vaK
  of := fun _ _ e => ⟨_, He.frG_in, e⟩
  keeps := fun _ _ _ ⟨K, hK, c⟩ k => ⟨K, PySem.W.Frag.In.keeps hK k, c⟩
theorem facts {w : World} {K : PySem.W.Frag} {h : Heap} {mg : Str → Option Value} {f : Addr} (X : K.In h) (G : h.Ns mainGlobals mg) (hfa : mg ("law" : Str) = some (.ref f)) (c : obK K = vaK) :
    ∃ fd : FuncData, (∀ (s : Shared) (v : Value), BindsTo s fd ⟨[v], []⟩ [("script", v)]) ∧ ∀ base : Heap, K.In base → base.Ns mainGlobals mg → Fn PP w K mg base 15 f fd ["script"] (spLaw K) := by
  have c0 : He.SaysD fas fns K := congrArg (fun z : AlM => z.1) c
  have c2 : exK K = true := congrArg (fun z : AlM => z.2.1) c
  have c3 : obM K = vaM := congrArg (fun z : AlM => z.2.2) c
  obtain ⟨e1, e2⟩ := Ex.ba c2
  have ext : ∀ (i : Nat) {b : Bool}, (exs K)[i]? = some b → b = true := fun i b hb => List.all_eq_true.mp e2 b (List.mem_of_getElem? hb)
  have fr : ∀ (i : Nat) {x : Str}, frees[i]? = some x → mg x = none := fun i x hx => He.free_ok X G (List.all_eq_true.mp e1 x (List.mem_of_getElem? hx))
  have int : ∀ {x : Str} {i : Int}, (He.Fa.int x i).ok K = true → ∃ u, mg x = some u ∧ RelV (.int i) u := fun h => by obtain ⟨t, q⟩ := He.int_ok X G h; exact ⟨_, q, t, rfl⟩
  have str : ∀ {x z : Str}, (He.Fa.str x z).ok K = true → ∃ u, mg x = some u ∧ RelV (.str z) u := fun h => by obtain ⟨t, q⟩ := He.str_ok X G h; exact ⟨_, q, t, rfl⟩
  have T : Tx PP w K mg := ⟨fr 0 rfl, fr 1 rfl, fr 2 rfl, fr 3 rfl, fr 4 rfl, fr 5 rfl, fr 6 rfl, fr 7 rfl, fr 8 rfl, fr 9 rfl, fr 10 rfl, fr 11 rfl, fr 12 rfl, fr 13 rfl, fr 14 rfl, fr 15 rfl, int (c0.fact 37 (f := .int "MOST_HIGH" 8) rfl), int (c0.fact 38 (f := .int "MOST_SIGNS" 12) rfl), str (c0.fact 39 (f := .str "SIGNS" "abcdefghijklmnopqrstuvwxyz") rfl)⟩
  have g_PostError : mg "PostError" = some (.ref (He.ga K "PostError")) := He.glo_ok X G (c0.fact 40 (f := .glo "PostError") rfl)
  have v_PostError : ∃ u, mg "PostError" = some u ∧ RelV (.ref (He.ga K "PostError")) u := ⟨_, g_PostError, rfl⟩
  have g_BadTree : mg "BadTree" = some (.ref (He.ga K "BadTree")) := He.glo_ok X G (c0.fact 41 (f := .glo "BadTree") rfl)
  have v_BadTree : ∃ u, mg "BadTree" = some u ∧ RelV (.ref (He.ga K "BadTree")) u := ⟨_, g_BadTree, rfl⟩
  have g_NoLeaf : mg "NoLeaf" = some (.ref (He.ga K "NoLeaf")) := He.glo_ok X G (c0.fact 42 (f := .glo "NoLeaf") rfl)
  have v_NoLeaf : ∃ u, mg "NoLeaf" = some u ∧ RelV (.ref (He.ga K "NoLeaf")) u := ⟨_, g_NoLeaf, rfl⟩
  have g_NoNode : mg "NoNode" = some (.ref (He.ga K "NoNode")) := He.glo_ok X G (c0.fact 43 (f := .glo "NoNode") rfl)
  have v_NoNode : ∃ u, mg "NoNode" = some u ∧ RelV (.ref (He.ga K "NoNode")) u := ⟨_, g_NoNode, rfl⟩
  have g_Tree : mg "Tree" = some (.ref (He.ga K "Tree")) := He.glo_ok X G (c0.fact 44 (f := .glo "Tree") rfl)
  have v_Tree : ∃ u, mg "Tree" = some u ∧ RelV (.ref (He.ga K "Tree")) u := ⟨_, g_Tree, rfl⟩
  have bad_BadTree : Ex.BadC PP K (He.ga K "BadTree") "part" := Ex.badC_of (st := inClass (top 6) 0) (q := "BadTree.__init__") (ext 0 rfl) (List.cons.inj (show Ex.obsM K _ :: _ = _ from c3)).1 rfl rfl rfl (by kernel_rfl) rfl rfl rfl rfl (fun env => ⟨_, rfl⟩) (fun kV doc pm ct cdv an cc s x v => .of_eq rfl)
  obtain ⟨xf_BadTree, exc_BadTree⟩ := excB_ok (ext 1 rfl)
  obtain ⟨r1_BadTree, r2_BadTree⟩ := rsB_ok (ext 2 rfl)
  have r_NoLeaf : E0c K mg "NoLeaf" (He.ga K "NoLeaf") := ⟨g_NoLeaf, (Ex.ba (ext 3 rfl)).1, (Ex.ba (ext 3 rfl)).2, (rsB_ok (ext 5 rfl)).1, (rsB_ok (ext 5 rfl)).2⟩
  obtain ⟨xf_NoLeaf, exc_NoLeaf⟩ := excB_ok (ext 4 rfl)
  have r_NoNode : E0c K mg "NoNode" (He.ga K "NoNode") := ⟨g_NoNode, (Ex.ba (ext 6 rfl)).1, (Ex.ba (ext 6 rfl)).2, (rsB_ok (ext 8 rfl)).1, (rsB_ok (ext 8 rfl)).2⟩
  obtain ⟨xf_NoNode, exc_NoNode⟩ := excB_ok (ext 7 rfl)
  have cls_Tree : Cls K (He.ga K "Tree") := He.cls_ok (c0.fact 45 (f := .cls "Tree") rfl)
  have no_Tree_height : NoAttr K (He.ga K "Tree") "height" := He.eqO_ok (c0.fact 46 (f := .noat "Tree" "height") rfl)
  have no_Tree_leaves : NoAttr K (He.ga K "Tree") "leaves" := He.eqO_ok (c0.fact 47 (f := .noat "Tree" "leaves") rfl)
  have no_Tree_nodes : NoAttr K (He.ga K "Tree") "nodes" := He.eqO_ok (c0.fact 48 (f := .noat "Tree" "nodes") rfl)
  obtain ⟨inc_Tree, sub_Tree⟩ := incB_ok (ext 9 rfl) cls_Tree
  have mk_Tree := mkB_ok (ext 10 rfl)
  have me_Tree_locks := metB_ok (ext 11 rfl)
  have kit_NoLeaf_NoNode : PySem.W.kitOne K (.ref (He.ga K "NoLeaf")) (.ref (He.ga K "NoNode")) = some false := of_decide_eq_true (ext 12 rfl)
  have kit_NoNode_PostError : PySem.W.kitOne K (.ref (He.ga K "NoNode")) (.ref (He.ga K "PostError")) = some true := of_decide_eq_true (ext 13 rfl)
  have exm_NoLeaf_NoLeaf : PySem.W.exmOne K (.ref (He.ga K "NoLeaf")) (.ref (He.ga K "NoLeaf")) = some true := of_decide_eq_true (c0.fact 49 (f := .exm "NoLeaf" "NoLeaf" true) rfl)
  have exm_NoNode_NoLeaf : PySem.W.exmOne K (.ref (He.ga K "NoNode")) (.ref (He.ga K "NoLeaf")) = some false := of_decide_eq_true (c0.fact 50 (f := .exm "NoNode" "NoLeaf" false) rfl)
  have exm_NoNode_NoNode : PySem.W.exmOne K (.ref (He.ga K "NoNode")) (.ref (He.ga K "NoNode")) = some true := of_decide_eq_true (c0.fact 51 (f := .exm "NoNode" "NoNode" true) rfl)
  obtain ⟨fd_is_integer, F_is_integer⟩ := c0.def_ 0 (d := dd "is_integer" s_is_integer) rfl
  have F_is_integer : FD K "is_integer" s_is_integer (He.ga K "is_integer") fd_is_integer := F_is_integer
  have m_is_integer := He.glo_ok X G (c0.fact 0 (f := .glo "is_integer") rfl)
  have b_is_integer := FunD.bindsA (ps := ["thing"]) F_is_integer fun _ _ _ _ _ _ us hl => match us, hl with | [_], _ => rfl
  obtain ⟨fd_is_within, F_is_within⟩ := c0.def_ 1 (d := dd "is_within" s_is_within) rfl
  have F_is_within : FD K "is_within" s_is_within (He.ga K "is_within") fd_is_within := F_is_within
  have m_is_within := He.glo_ok X G (c0.fact 1 (f := .glo "is_within") rfl)
  have b_is_within := FunD.bindsA (ps := ["thing", "least", "most"]) F_is_within fun _ _ _ _ _ _ us hl => match us, hl with | [_, _, _], _ => rfl
  obtain ⟨fd_is_tuple_of, F_is_tuple_of⟩ := c0.def_ 2 (d := dd "is_tuple_of" s_is_tuple_of) rfl
  have F_is_tuple_of : FD K "is_tuple_of" s_is_tuple_of (He.ga K "is_tuple_of") fd_is_tuple_of := F_is_tuple_of
  have m_is_tuple_of := He.glo_ok X G (c0.fact 2 (f := .glo "is_tuple_of") rfl)
  have b_is_tuple_of := FunD.bindsA (ps := ["thing", "size"]) F_is_tuple_of fun _ _ _ _ _ _ us hl => match us, hl with | [_, _], _ => rfl
  obtain ⟨fd_is_name, F_is_name⟩ := c0.def_ 3 (d := dd "is_name" s_is_name) rfl
  have F_is_name : FD K "is_name" s_is_name (He.ga K "is_name") fd_is_name := F_is_name
  have m_is_name := He.glo_ok X G (c0.fact 3 (f := .glo "is_name") rfl)
  have b_is_name := FunD.bindsA (ps := ["thing"]) F_is_name fun _ _ _ _ _ _ us hl => match us, hl with | [_], _ => rfl
  obtain ⟨fd_is_lock, F_is_lock⟩ := c0.def_ 4 (d := dd "is_lock" s_is_lock) rfl
  have F_is_lock : FD K "is_lock" s_is_lock (He.ga K "is_lock") fd_is_lock := F_is_lock
  have m_is_lock := He.glo_ok X G (c0.fact 4 (f := .glo "is_lock") rfl)
  have b_is_lock := FunD.bindsA (ps := ["thing"]) F_is_lock fun _ _ _ _ _ _ us hl => match us, hl with | [_], _ => rfl
  obtain ⟨fd_is_member, F_is_member⟩ := c0.def_ 5 (d := dd "is_member" s_is_member) rfl
  have F_is_member : FD K "is_member" s_is_member (He.ga K "is_member") fd_is_member := F_is_member
  have m_is_member := He.glo_ok X G (c0.fact 5 (f := .glo "is_member") rfl)
  have b_is_member := FunD.bindsA (ps := ["thing"]) F_is_member fun _ _ _ _ _ _ us hl => match us, hl with | [_], _ => rfl
  obtain ⟨fd_are_leaves, F_are_leaves⟩ := c0.def_ 6 (d := dd "are_leaves" s_are_leaves) rfl
  have F_are_leaves : FD K "are_leaves" s_are_leaves (He.ga K "are_leaves") fd_are_leaves := F_are_leaves
  have m_are_leaves := He.glo_ok X G (c0.fact 6 (f := .glo "are_leaves") rfl)
  have b_are_leaves := FunD.bindsA (ps := ["thing", "height"]) F_are_leaves fun _ _ _ _ _ _ us hl => match us, hl with | [_, _], _ => rfl
  obtain ⟨fd_leaves_beneath, F_leaves_beneath⟩ := c0.def_ 7 (d := dd "leaves_beneath" s_leaves_beneath) rfl
  have F_leaves_beneath : FD K "leaves_beneath" s_leaves_beneath (He.ga K "leaves_beneath") fd_leaves_beneath := F_leaves_beneath
  have m_leaves_beneath := He.glo_ok X G (c0.fact 7 (f := .glo "leaves_beneath") rfl)
  have b_leaves_beneath := FunD.bindsA (ps := ["node"]) F_leaves_beneath fun _ _ _ _ _ _ us hl => match us, hl with | [_], _ => rfl
  obtain ⟨fd_is_node, F_is_node⟩ := c0.def_ 8 (d := dd "is_node" s_is_node) rfl
  have F_is_node : FD K "is_node" s_is_node (He.ga K "is_node") fd_is_node := F_is_node
  have m_is_node := He.glo_ok X G (c0.fact 8 (f := .glo "is_node") rfl)
  have b_is_node := FunD.bindsA (ps := ["thing", "height", "least"]) F_is_node fun _ _ _ _ _ _ us hl => match us, hl with | [_, _, _], _ => rfl
  obtain ⟨fd__law_beneath, F__law_beneath⟩ := c0.def_ 9 (d := dd "_law_beneath" s__law_beneath) rfl
  have F__law_beneath : FD K "_law_beneath" s__law_beneath (He.ga K "_law_beneath") fd__law_beneath := F__law_beneath
  have m__law_beneath := He.glo_ok X G (c0.fact 9 (f := .glo "_law_beneath") rfl)
  have b__law_beneath := FunD.bindsA (ps := ["node"]) F__law_beneath fun _ _ _ _ _ _ us hl => match us, hl with | [_], _ => rfl
  obtain ⟨fd_is_aside, F_is_aside⟩ := c0.def_ 10 (d := dd "is_aside" s_is_aside) rfl
  have F_is_aside : FD K "is_aside" s_is_aside (He.ga K "is_aside") fd_is_aside := F_is_aside
  have m_is_aside := He.glo_ok X G (c0.fact 10 (f := .glo "is_aside") rfl)
  have b_is_aside := FunD.bindsA (ps := ["thing", "node", "leaves"]) F_is_aside fun _ _ _ _ _ _ us hl => match us, hl with | [_, _, _], _ => rfl
  obtain ⟨fd_are_nodes, F_are_nodes⟩ := c0.def_ 11 (d := dd "are_nodes" s_are_nodes) rfl
  have F_are_nodes : FD K "are_nodes" s_are_nodes (He.ga K "are_nodes") fd_are_nodes := F_are_nodes
  have m_are_nodes := He.glo_ok X G (c0.fact 11 (f := .glo "are_nodes") rfl)
  have b_are_nodes := FunD.bindsA (ps := ["thing", "height", "leaves"]) F_are_nodes fun _ _ _ _ _ _ us hl => match us, hl with | [_, _, _], _ => rfl
  obtain ⟨fd__law_mixed, F__law_mixed⟩ := c0.def_ 12 (d := dd "_law_mixed" s__law_mixed) rfl
  have F__law_mixed : FD K "_law_mixed" s__law_mixed (He.ga K "_law_mixed") fd__law_mixed := F__law_mixed
  have m__law_mixed := He.glo_ok X G (c0.fact 12 (f := .glo "_law_mixed") rfl)
  have b__law_mixed := FunD.bindsA (ps := ["number", "place"]) F__law_mixed fun _ _ _ _ _ _ us hl => match us, hl with | [_, _], _ => rfl
  obtain ⟨fd__law_refill, F__law_refill⟩ := c0.def_ 13 (d := dd "_law_refill" s__law_refill) rfl
  have F__law_refill : FD K "_law_refill" s__law_refill (He.ga K "_law_refill") fd__law_refill := F__law_refill
  have m__law_refill := He.glo_ok X G (c0.fact 13 (f := .glo "_law_refill") rfl)
  have b__law_refill := FunD.bindsA (ps := ["box"]) F__law_refill fun _ _ _ _ _ _ us hl => match us, hl with | [_], _ => rfl
  obtain ⟨fd__law_draw, F__law_draw⟩ := c0.def_ 14 (d := dd "_law_draw" s__law_draw) rfl
  have F__law_draw : FD K "_law_draw" s__law_draw (He.ga K "_law_draw") fd__law_draw := F__law_draw
  have m__law_draw := He.glo_ok X G (c0.fact 14 (f := .glo "_law_draw") rfl)
  have b__law_draw := FunD.bindsA (ps := ["box", "menu"]) F__law_draw fun _ _ _ _ _ _ us hl => match us, hl with | [_, _], _ => rfl
  obtain ⟨fd__law_name, F__law_name⟩ := c0.def_ 15 (d := dd "_law_name" s__law_name) rfl
  have F__law_name : FD K "_law_name" s__law_name (He.ga K "_law_name") fd__law_name := F__law_name
  have m__law_name := He.glo_ok X G (c0.fact 15 (f := .glo "_law_name") rfl)
  have b__law_name := FunD.bindsA (ps := ["box"]) F__law_name fun _ _ _ _ _ _ us hl => match us, hl with | [_], _ => rfl
  obtain ⟨fd__law_lock, F__law_lock⟩ := c0.def_ 16 (d := dd "_law_lock" s__law_lock) rfl
  have F__law_lock : FD K "_law_lock" s__law_lock (He.ga K "_law_lock") fd__law_lock := F__law_lock
  have m__law_lock := He.glo_ok X G (c0.fact 16 (f := .glo "_law_lock") rfl)
  have b__law_lock := FunD.bindsA (ps := ["box"]) F__law_lock fun _ _ _ _ _ _ us hl => match us, hl with | [_], _ => rfl
  obtain ⟨fd__law_tree, F__law_tree⟩ := c0.def_ 17 (d := dd "_law_tree" s__law_tree) rfl
  have F__law_tree : FD K "_law_tree" s__law_tree (He.ga K "_law_tree") fd__law_tree := F__law_tree
  have m__law_tree := He.glo_ok X G (c0.fact 17 (f := .glo "_law_tree") rfl)
  have b__law_tree := FunD.bindsA (ps := ["box", "most"]) F__law_tree fun _ _ _ _ _ _ us hl => match us, hl with | [_, _], _ => rfl
  obtain ⟨fd_Tree___init__, F_Tree___init__⟩ := c0.def_ 18 (d := ⟨("Tree", some "__init__"), "__init__", "Tree.__init__", defArgs s_Tree___init__, defBody s_Tree___init__, defScope s_Tree___init__, [], []⟩) rfl
  have F_Tree___init__ : FunD K "__init__" "Tree.__init__" (defArgs s_Tree___init__) (defBody s_Tree___init__) (defScope s_Tree___init__) [] [] (He.ma K (He.ga K "Tree") "__init__") fd_Tree___init__ := F_Tree___init__
  have b_Tree___init__ := FunD.bindsA (ps := ["self", "height", "leaves", "nodes"]) F_Tree___init__ fun _ _ _ _ _ _ us hl => match us, hl with | [_, _, _, _], _ => rfl
  obtain ⟨fd_Tree_locks, F_Tree_locks⟩ := c0.def_ 19 (d := ⟨("Tree", some "locks"), "locks", "Tree.locks", defArgs s_Tree_locks, defBody s_Tree_locks, defScope s_Tree_locks, [], []⟩) rfl
  have F_Tree_locks : FunD K "locks" "Tree.locks" (defArgs s_Tree_locks) (defBody s_Tree_locks) (defScope s_Tree_locks) [] [] (He.ma K (He.ga K "Tree") "locks") fd_Tree_locks := F_Tree_locks
  have b_Tree_locks := FunD.bindsA (ps := ["self"]) F_Tree_locks fun _ _ _ _ _ _ us hl => match us, hl with | [_], _ => rfl
  obtain ⟨fd_check_leaf, F_check_leaf⟩ := c0.def_ 20 (d := dd "check_leaf" s_check_leaf) rfl
  have F_check_leaf : FD K "check_leaf" s_check_leaf (He.ga K "check_leaf") fd_check_leaf := F_check_leaf
  have m_check_leaf := He.glo_ok X G (c0.fact 18 (f := .glo "check_leaf") rfl)
  have b_check_leaf := FunD.bindsA (ps := ["tree", "thing"]) F_check_leaf fun _ _ _ _ _ _ us hl => match us, hl with | [_, _], _ => rfl
  obtain ⟨fd_check_node, F_check_node⟩ := c0.def_ 21 (d := dd "check_node" s_check_node) rfl
  have F_check_node : FD K "check_node" s_check_node (He.ga K "check_node") fd_check_node := F_check_node
  have m_check_node := He.glo_ok X G (c0.fact 19 (f := .glo "check_node") rfl)
  have b_check_node := FunD.bindsA (ps := ["tree", "thing"]) F_check_node fun _ _ _ _ _ _ us hl => match us, hl with | [_, _], _ => rfl
  obtain ⟨fd_nodes_above, F_nodes_above⟩ := c0.def_ 22 (d := dd "nodes_above" s_nodes_above) rfl
  have F_nodes_above : FD K "nodes_above" s_nodes_above (He.ga K "nodes_above") fd_nodes_above := F_nodes_above
  have m_nodes_above := He.glo_ok X G (c0.fact 20 (f := .glo "nodes_above") rfl)
  have b_nodes_above := FunD.bindsA (ps := ["height", "leaf"]) F_nodes_above fun _ _ _ _ _ _ us hl => match us, hl with | [_, _], _ => rfl
  obtain ⟨fd_path, F_path⟩ := c0.def_ 23 (d := dd "path" s_path) rfl
  have F_path : FD K "path" s_path (He.ga K "path") fd_path := F_path
  have m_path := He.glo_ok X G (c0.fact 21 (f := .glo "path") rfl)
  have b_path := FunD.bindsA (ps := ["tree", "leaf"]) F_path fun _ _ _ _ _ _ us hl => match us, hl with | [_, _], _ => rfl
  obtain ⟨fd_beside, F_beside⟩ := c0.def_ 24 (d := dd "beside" s_beside) rfl
  have F_beside : FD K "beside" s_beside (He.ga K "beside") fd_beside := F_beside
  have m_beside := He.glo_ok X G (c0.fact 22 (f := .glo "beside") rfl)
  have b_beside := FunD.bindsA (ps := ["tree", "leaf"]) F_beside fun _ _ _ _ _ _ us hl => match us, hl with | [_, _], _ => rfl
  obtain ⟨fd_resolved, F_resolved⟩ := c0.def_ 25 (d := dd "resolved" s_resolved) rfl
  have F_resolved : FD K "resolved" s_resolved (He.ga K "resolved") fd_resolved := F_resolved
  have m_resolved := He.glo_ok X G (c0.fact 23 (f := .glo "resolved") rfl)
  have b_resolved := FunD.bindsA (ps := ["tree", "locks", "node"]) F_resolved fun _ _ _ _ _ _ us hl => match us, hl with | [_, _, _], _ => rfl
  obtain ⟨fd_resolution, F_resolution⟩ := c0.def_ 26 (d := dd "resolution" s_resolution) rfl
  have F_resolution : FD K "resolution" s_resolution (He.ga K "resolution") fd_resolution := F_resolution
  have m_resolution := He.glo_ok X G (c0.fact 24 (f := .glo "resolution") rfl)
  have b_resolution := FunD.bindsA (ps := ["tree", "node"]) F_resolution fun _ _ _ _ _ _ us hl => match us, hl with | [_, _], _ => rfl
  obtain ⟨fd_members, F_members⟩ := c0.def_ 27 (d := dd "members" s_members) rfl
  have F_members : FD K "members" s_members (He.ga K "members") fd_members := F_members
  have m_members := He.glo_ok X G (c0.fact 25 (f := .glo "members") rfl)
  have b_members := FunD.bindsA (ps := ["tree"]) F_members fun _ _ _ _ _ _ us hl => match us, hl with | [_], _ => rfl
  obtain ⟨fd_meeting, F_meeting⟩ := c0.def_ 28 (d := dd "meeting" s_meeting) rfl
  have F_meeting : FD K "meeting" s_meeting (He.ga K "meeting") fd_meeting := F_meeting
  have m_meeting := He.glo_ok X G (c0.fact 26 (f := .glo "meeting") rfl)
  have b_meeting := FunD.bindsA (ps := ["tree", "one", "other"]) F_meeting fun _ _ _ _ _ _ us hl => match us, hl with | [_, _, _], _ => rfl
  obtain ⟨fd_holders, F_holders⟩ := c0.def_ 29 (d := dd "holders" s_holders) rfl
  have F_holders : FD K "holders" s_holders (He.ga K "holders") fd_holders := F_holders
  have m_holders := He.glo_ok X G (c0.fact 27 (f := .glo "holders") rfl)
  have b_holders := FunD.bindsA (ps := ["tree", "node"]) F_holders fun _ _ _ _ _ _ us hl => match us, hl with | [_, _], _ => rfl
  obtain ⟨fd__law_box, F__law_box⟩ := c0.def_ 30 (d := dd "_law_box" s__law_box) rfl
  have F__law_box : FD K "_law_box" s__law_box (He.ga K "_law_box") fd__law_box := F__law_box
  have m__law_box := He.glo_ok X G (c0.fact 28 (f := .glo "_law_box") rfl)
  have b__law_box := FunD.bindsA (ps := ["script"]) F__law_box fun _ _ _ _ _ _ us hl => match us, hl with | [_], _ => rfl
  obtain ⟨fd__law_ways, F__law_ways⟩ := c0.def_ 31 (d := dd "_law_ways" s__law_ways) rfl
  have F__law_ways : FD K "_law_ways" s__law_ways (He.ga K "_law_ways") fd__law_ways := F__law_ways
  have m__law_ways := He.glo_ok X G (c0.fact 29 (f := .glo "_law_ways") rfl)
  have b__law_ways := FunD.bindsA (ps := ["height", "leaf"]) F__law_ways fun _ _ _ _ _ _ us hl => match us, hl with | [_, _], _ => rfl
  obtain ⟨fd__law_due_resolution, F__law_due_resolution⟩ := c0.def_ 32 (d := dd "_law_due_resolution" s__law_due_resolution) rfl
  have F__law_due_resolution : FD K "_law_due_resolution" s__law_due_resolution (He.ga K "_law_due_resolution") fd__law_due_resolution := F__law_due_resolution
  have m__law_due_resolution := He.glo_ok X G (c0.fact 30 (f := .glo "_law_due_resolution") rfl)
  have b__law_due_resolution := FunD.bindsA (ps := ["parts", "node"]) F__law_due_resolution fun _ _ _ _ _ _ us hl => match us, hl with | [_, _], _ => rfl
  obtain ⟨fd__law_due_holders, F__law_due_holders⟩ := c0.def_ 33 (d := dd "_law_due_holders" s__law_due_holders) rfl
  have F__law_due_holders : FD K "_law_due_holders" s__law_due_holders (He.ga K "_law_due_holders") fd__law_due_holders := F__law_due_holders
  have m__law_due_holders := He.glo_ok X G (c0.fact 31 (f := .glo "_law_due_holders") rfl)
  have b__law_due_holders := FunD.bindsA (ps := ["parts", "node"]) F__law_due_holders fun _ _ _ _ _ _ us hl => match us, hl with | [_, _], _ => rfl
  obtain ⟨fd__law_met, F__law_met⟩ := c0.def_ 34 (d := dd "_law_met" s__law_met) rfl
  have F__law_met : FD K "_law_met" s__law_met (He.ga K "_law_met") fd__law_met := F__law_met
  have m__law_met := He.glo_ok X G (c0.fact 32 (f := .glo "_law_met") rfl)
  have b__law_met := FunD.bindsA (ps := ["one", "other"]) F__law_met fun _ _ _ _ _ _ us hl => match us, hl with | [_, _], _ => rfl
  obtain ⟨fd__law_parted, F__law_parted⟩ := c0.def_ 35 (d := dd "_law_parted" s__law_parted) rfl
  have F__law_parted : FD K "_law_parted" s__law_parted (He.ga K "_law_parted") fd__law_parted := F__law_parted
  have m__law_parted := He.glo_ok X G (c0.fact 33 (f := .glo "_law_parted") rfl)
  have b__law_parted := FunD.bindsA (ps := ["tree", "parts", "node"]) F__law_parted fun _ _ _ _ _ _ us hl => match us, hl with | [_, _, _], _ => rfl
  obtain ⟨fd__law_told, F__law_told⟩ := c0.def_ 36 (d := dd "_law_told" s__law_told) rfl
  have F__law_told : FD K "_law_told" s__law_told (He.ga K "_law_told") fd__law_told := F__law_told
  have m__law_told := He.glo_ok X G (c0.fact 34 (f := .glo "_law_told") rfl)
  have b__law_told := FunD.bindsA (ps := ["way", "tree", "thing"]) F__law_told fun _ _ _ _ _ _ us hl => match us, hl with | [_, _, _], _ => rfl
  obtain ⟨fd__law_refused, F__law_refused⟩ := c0.def_ 37 (d := dd "_law_refused" s__law_refused) rfl
  have F__law_refused : FD K "_law_refused" s__law_refused (He.ga K "_law_refused") fd__law_refused := F__law_refused
  have m__law_refused := He.glo_ok X G (c0.fact 35 (f := .glo "_law_refused") rfl)
  have b__law_refused := FunD.bindsA (ps := ["box", "tree", "parts"]) F__law_refused fun _ _ _ _ _ _ us hl => match us, hl with | [_, _, _], _ => rfl
  obtain ⟨fd_law, F_law⟩ := c0.def_ 38 (d := dd "law" s_law) rfl
  have F_law : FD K "law" s_law (He.ga K "law") fd_law := F_law
  have m_law := He.glo_ok X G (c0.fact 36 (f := .glo "law") rfl)
  have b_law := FunD.bindsA (ps := ["script"]) F_law fun _ _ _ _ _ _ us hl => match us, hl with | [_], _ => rfl
  have e := hfa.symm.trans m_law
  cases e
  refine ⟨fd_law, fun s v => b_law s [v] rfl, fun base _ _ => ?_⟩
  have f_is_integer := df_of F_is_integer m_is_integer (ok_is_integer (W := BW) (w := w) (base := base) T  F_is_integer) b_is_integer
  have f_is_within := df_of F_is_within m_is_within (ok_is_within (W := BW) (w := w) (base := base) T f_is_integer F_is_within) b_is_within
  have f_is_tuple_of := df_of F_is_tuple_of m_is_tuple_of (ok_is_tuple_of (W := BW) (w := w) (base := base) T  F_is_tuple_of) b_is_tuple_of
  have f_is_name := df_of F_is_name m_is_name (ok_is_name (W := BW) (w := w) (base := base) T  F_is_name) b_is_name
  have f_is_lock := df_of F_is_lock m_is_lock (ok_is_lock (W := BW) (w := w) (base := base) T f_is_integer F_is_lock) b_is_lock
  have f_is_member := df_of F_is_member m_is_member (ok_is_member (W := BW) (w := w) (base := base) T f_is_tuple_of f_is_name f_is_lock F_is_member) b_is_member
  have f_are_leaves := df_of F_are_leaves m_are_leaves (ok_are_leaves (W := BW) (w := w) (base := base) T f_is_tuple_of f_is_member F_are_leaves) b_are_leaves
  have f_leaves_beneath := df_of F_leaves_beneath m_leaves_beneath (ok_leaves_beneath (W := BW) (w := w) (base := base) T  F_leaves_beneath) b_leaves_beneath
  have f_is_node := df_of F_is_node m_is_node (ok_is_node (W := BW) (w := w) (base := base) T f_is_tuple_of f_is_within F_is_node) b_is_node
  have f_is_node0 := df_of F_is_node m_is_node (ok_is_node0 (W := BW) (w := w) (base := base) T f_is_tuple_of f_is_within F_is_node) b_is_node
  have f__law_beneath := df_of F__law_beneath m__law_beneath (ok__law_beneath (W := BW) (w := w) (base := base) T  F__law_beneath) b__law_beneath
  have f_is_aside := df_of F_is_aside m_is_aside (ok_is_aside (W := BW) (w := w) (base := base) T f_is_integer f_leaves_beneath F_is_aside) b_is_aside
  have f_are_nodes := df_of F_are_nodes m_are_nodes (ok_are_nodes (W := BW) (w := w) (base := base) T f_is_tuple_of f_is_node f_is_lock f_is_aside F_are_nodes) b_are_nodes
  have f__law_mixed := df_of F__law_mixed m__law_mixed (ok__law_mixed (W := BW) (w := w) (base := base) T  F__law_mixed) b__law_mixed
  have f__law_refill := df_of F__law_refill m__law_refill (ok__law_refill (w := w) (base := base) T f__law_mixed F__law_refill) b__law_refill
  have f__law_draw := df_of F__law_draw m__law_draw (ok__law_draw (w := w) (base := base) T f__law_mixed f__law_refill F__law_draw) b__law_draw
  have f__law_name := df_of F__law_name m__law_name (ok__law_name (w := w) (base := base) T f__law_draw F__law_name) b__law_name
  have f__law_lock := df_of F__law_lock m__law_lock (ok__law_lock (w := w) (base := base) T f__law_draw F__law_lock) b__law_lock
  have f__law_tree := df_of F__law_tree m__law_tree (ok__law_tree (w := w) (base := base) T f__law_beneath f__law_draw f__law_name f__law_lock F__law_tree) b__law_tree
  have kTree := Cm.mk (P := PP) ⟨_, _, _, mk_Tree, (ok_Tree_init (W := BW) (w := w) (base := base) T ⟨bad_BadTree, g_BadTree, T.super, r1_BadTree, r2_BadTree⟩ ⟨cls_Tree, no_Tree_height, no_Tree_leaves, no_Tree_nodes⟩ f_is_within f_are_leaves f_are_nodes F_Tree___init__), binds_of b_Tree___init__⟩ g_Tree
  have q_Tree_locks : Cf PP w K mg base 1 (He.ga K "Tree") "locks" _ := ⟨⟨_, _, _, (ok_Tree_locks (W := BW) (w := w) (base := base) T ⟨cls_Tree, no_Tree_height, no_Tree_leaves, no_Tree_nodes⟩ F_Tree_locks), ⟨me_Tree_locks.1, me_Tree_locks.2, F_Tree_locks.kp⟩, binds_of b_Tree_locks⟩, cls_Tree⟩
  have f_check_leaf := df_of F_check_leaf m_check_leaf (ok_check_leaf (W := BW) (w := w) (base := base) T ⟨cls_Tree, no_Tree_height, no_Tree_leaves, no_Tree_nodes⟩ r_NoLeaf f_is_within F_check_leaf) b_check_leaf
  have f_check_node := df_of F_check_node m_check_node (ok_check_node (W := BW) (w := w) (base := base) T ⟨cls_Tree, no_Tree_height, no_Tree_leaves, no_Tree_nodes⟩ r_NoNode f_is_node0 F_check_node) b_check_node
  have f_nodes_above := df_of F_nodes_above m_nodes_above (ok_nodes_above (W := BW) (w := w) (base := base) T  F_nodes_above) b_nodes_above
  have f_path := df_of F_path m_path (ok_path (W := BW) (w := w) (base := base) T ⟨cls_Tree, no_Tree_height, no_Tree_leaves, no_Tree_nodes⟩ f_check_leaf f_nodes_above F_path) b_path
  have f_beside := df_of F_beside m_beside (ok_beside (W := BW) (w := w) (base := base) T ⟨cls_Tree, no_Tree_height, no_Tree_leaves, no_Tree_nodes⟩ f_check_leaf F_beside) b_beside
  have rec_resolved : ∀ n, Df PP w K mg base (n + 1) "resolved" (spX BW (wfRes (He.ga K "Tree") n)) := fun n => by
    induction n with
    | zero => exact df_of F_resolved m_resolved (bot fun ds s k x h => by
        unfold wfRes at h
        split at h
        · obtain ⟨_, _, _, _, l, _, _, _, _, _, h, _⟩ := h
          omega
        · exact h) b_resolved
    | succ n ih => exact df_of F_resolved m_resolved (ok_resolved (W := BW) (w := w) (base := base) T ⟨cls_Tree, no_Tree_height, no_Tree_leaves, no_Tree_nodes⟩ ih F_resolved) b_resolved
  have f_resolved := (rec_resolved 9).up (by decide : 9 + 1 ≤ 11)
  have f_resolution := df_of F_resolution m_resolution (ok_resolution (W := BW) (w := w) (base := base) T ⟨cls_Tree, no_Tree_height, no_Tree_leaves, no_Tree_nodes⟩ f_check_node f_resolved q_Tree_locks F_resolution) b_resolution
  have f_members := df_of F_members m_members (ok_members (W := BW) (w := w) (base := base) T ⟨cls_Tree, no_Tree_height, no_Tree_leaves, no_Tree_nodes⟩ F_members) b_members
  have f_meeting := df_of F_meeting m_meeting (ok_meeting (W := BW) (w := w) (base := base) T ⟨cls_Tree, no_Tree_height, no_Tree_leaves, no_Tree_nodes⟩ r_NoLeaf f_check_leaf F_meeting) b_meeting
  have f_holders := df_of F_holders m_holders (ok_holders (W := BW) (w := w) (base := base) T ⟨cls_Tree, no_Tree_height, no_Tree_leaves, no_Tree_nodes⟩ f_check_node f_leaves_beneath q_Tree_locks F_holders) b_holders
  have f__law_box := df_of F__law_box m__law_box (ok_box (w := w) (base := base) T  F__law_box) b__law_box
  have f__law_ways := df_of F__law_ways m__law_ways (ok_law_ways (W := BW) (w := w) (base := base) T  F__law_ways) b__law_ways
  have rec__law_due_resolution : ∀ n, Df PP w K mg base (n + 1) "_law_due_resolution" (spX BW (wfDueR n)) := fun n => by
    induction n with
    | zero => exact df_of F__law_due_resolution m__law_due_resolution (bot fun ds s k x h => by
        unfold wfDueR at h
        split at h
        · obtain ⟨_, _, _, l, _, _, _, _, h, _⟩ := h
          omega
        · exact h) b__law_due_resolution
    | succ n ih => exact df_of F__law_due_resolution m__law_due_resolution (ok_law_due_resolution (W := BW) (w := w) (base := base) T ih F__law_due_resolution) b__law_due_resolution
  have f__law_due_holders := df_of F__law_due_holders m__law_due_holders (ok_law_due_holders (W := BW) (w := w) (base := base) T f__law_beneath F__law_due_holders) b__law_due_holders
  have f__law_met := df_of F__law_met m__law_met (ok_law_met (W := BW) (w := w) (base := base) T  F__law_met) b__law_met
  have f__law_parted := df_of F__law_parted m__law_parted (ok_law_parted (W := BW) (w := w) (base := base) T f_resolution f_holders f__law_beneath F__law_parted) b__law_parted
  have f__law_told := df_of F__law_told m__law_told (ok_law_told (W := BW) (w := w) (base := base) T g_NoLeaf g_NoNode v_NoNode v_PostError exc_NoLeaf exc_NoNode exm_NoLeaf_NoLeaf exm_NoNode_NoLeaf exm_NoNode_NoNode kit_NoLeaf_NoNode kit_NoNode_PostError f_path f_beside f_meeting f_resolution f_holders F__law_told) b__law_told
  have f__law_refused := df_of F__law_refused m__law_refused (ok_law_refused (w := w) (base := base) T f__law_draw f__law_beneath f__law_told F__law_refused) b__law_refused
  exact (ok_law (w := w) (base := base) T ⟨cls_Tree, no_Tree_height, no_Tree_leaves, no_Tree_nodes⟩ f__law_box f__law_tree f__law_draw f__law_beneath kTree f_members f__law_ways f_path f_beside f_meeting f__law_met f__law_told (rec__law_due_resolution 9) f_resolution f_holders f__law_due_holders f__law_parted f__law_refused F_law)
end Law
set_option Elab.async false
set_option linter.all false
set_option maxRecDepth 100000
set_option maxHeartbeats 0
open PySem PySem.W PySem.Calls PyProof.Rows
theorem PySem.Challenge.cw_veilpost_k09_whole_paths_and_resolutions_holds : PySem.Challenge.rw_veilpost_k09_whole_paths_and_resolutions.Holds := by
  w_on; o_law; o_head Law.hk; (case hw => w_witness2)
  refine Gl.law_end (l := PySem.Challenge.rw_veilpost_k09_whole_paths_and_resolutions) (n := 63) (k := 15) (x := "script") rfl (by decide) (by kernel_rfl) ⟨rfl, by decide, by decide⟩ ?F
  intro w mg fa h Y G hmg
  obtain ⟨K, KX, c⟩ := Y
  obtain ⟨fd, hb, hF⟩ := Law.facts (w := w) KX G hmg c
  exact ⟨K, fd, Law.spLaw K, KX, hb, fun H a ns hl _ hS => ⟨a, ns, rfl, Nat.le_trans hl (by decide), hS, fun _ => rfl⟩, hF⟩
