import PyProof.Rows.All
import Wide.All
import OpenK.AllK
import Wide.FinOn
import HandS.Words
import HandS.WordsList
import HandS.WordsDict
import HandS.WordsExc
import HandS.Comp
import HandS.Codes
import HandS.Wide
import HandS.Iter
import HandS.TupAny
import HandS.IsInst
import HandS.Defaults
import HandS.HeadEnd
import KE.KExcSuper
import KE.KExcIs
import HandS.ExcInit
import HandS.ExcField
import HandS.ExcIs
import HandS.ExcValue
import HandS.HeadHook4
import HandS.DictComp
import HandS.Style
import PyProof.ReprRoads
import PyProof.CallFns
import HandS.Text
import HandS.TupMul
import HandS.Walk
import PyProof.StrOps2
import HandS.Small
import HandS.Deep
import HandS.Zip
import HandS.Rev
import HandS.RevTup
import HandS.OwnEq
import HandS.Steps
import HandS.Strs
import HandS.SetKeys
import HandS.TupLe
import HandS.Conv
import HandS.Exc
import Lean
import HandS.Head0
import HandS.Head1
import HandS.Head2
import HandS.HeadHook1
import HandS.HeadHook2
import HandS.HeadHook3
import KE.GoesEnum
import HandS.SortInts
import HandS.Keys
import HandS.SortRule
import KE.KDictCopyH
import KE.KDictSum
import KE.KeyNested
import HandS.More
import KE.KDictZip
import KE.GoesMore
import PySem.Challenge.RW_veilpost_k80_whole_lives_of_watches
set_option Elab.async false
set_option maxRecDepth 100000
set_option maxHeartbeats 4000000
set_option linter.unusedVariables false
/-! Gl: promises of defs where it is known that no repr is under way around them. -/
namespace Gl
open PySem PySem.Spec PyProof.Rows L2

structure Fn (P : Program) (w : World) (K : PySem.W.Frag) (mg : Str → Option Value) (base : Heap) (k : Nat) (f : Addr) (fd : FuncData) (ps : List Str) (sp : Sp) : Prop where
  many : ∀ vs H Q E, sp vs H Q E → vs.length = ps.length
  go : ∀ (A : Around) (outer : List Env) (s : Shared) (H : Hp) (args : Args) (us : List Value) (vs : List V) (Q : VK) (E : XK),
    Room k A → A.guards = some [] → Env0 P w K mg base A outer s H → BindsTo s fd args (ps.zip us) → Vals vs us →
    sp vs H Q E → codeAny (model P w) A (.call (.ref f) args) (CR (L2.CX P w) outer P w H s Q E) s

section
variable {P : Program} {w : World} {K : PySem.W.Frag} {mg : Str → Option Value} {base : Heap}
theorem Fn.up {j k : Nat} {f : Addr} {fd : FuncData} {ps : List Str} {sp : Sp} (F : Fn P w K mg base j f fd ps sp) (h : j ≤ k) : Fn P w K mg base k f fd ps sp :=
  ⟨F.many, fun A outer s H args us vs Q E r g => F.go A outer s H args us vs Q E (r.mono h) g⟩

/-- a def by its body: what stands at f, and the reading of the body -/
theorem fn_body {x qual : Str} {pa : Arguments} {bd : List Stmt} {sc : Scope} {dvs : List V} {kws : List (Str × V)} {f : Addr} {fd : FuncData} {N ps : List Str} {k : Nat} {sp : Sp}
    (F : FunD K x qual pa bd sc dvs kws f fd) (S : FnScope N ps sc) (many : ∀ vs H Q E, sp vs H Q E → vs.length = ps.length)
    (body : ∀ (cv : Value) (A : Around) (outer : List Env) (s : Shared) (H : Hp) (vs : List V) (Q : VK) (E : XK),
      Room k (A.deeper (envOfC qual sc s.heap.objs.size f cv)) → A.guards = some [] → sp vs H Q E →
      ∃ t, PSs (cxOf (L2.CX P w) P w K mg base N qual sc f cv A outer s H E) bd t ∧ t ⟨fun _ H' => Q .non H', Q, fun _ _ => False, fun _ _ => False⟩ (L2.start N vs) H) :
    Fn P w K mg base (k + 1) f fd ps sp := by
  obtain ⟨oc, od, dV, kV, doc, pm, an, cv, ct, osl, rfl, at_f, code, _, _⟩ := F.ex
  refine ⟨many, fun A outer s H args us vs Q E room gd e0 binds rel pre => ?_⟩
  have KX : K.In s.heap := e0.mod.kin.keeps fun b o e => (e0.bs b o e).1
  have noLim : s.heap.NoLimit := e0.mod.nolimit.keeps fun b o e => (e0.bs b o e).1
  have par : ∀ y ∈ ps.zip us, sc.names.lookup y.1 = some .local ∨ (sc.names.lookup y.1 = some .cell ∧ ((cellsFrom (s.heap.objs.size + 1) sc.names []).lookup y.1).isSome = true) := by
    rintro ⟨n, v⟩ hy
    rcases S.par n (List.of_mem_zip hy).1 with q | q
    · exact Or.inl q
    · exact Or.inr ⟨q, PySem.W.cellsFrom_some _ _ _ (Or.inl q)⟩
  refine codeAny_call_function room.depth (KX _ _ at_f) rfl S.co S.gen rfl (PySem.W.codeRec_of KX code) (binds _ _ _ _ ?_)
  refine wpAny_newFunctionEnv_cells S.kind par fun env he s1 inCall => ?_
  subst he
  obtain ⟨t, der, rd⟩ := body cv A outer s H vs Q E (room.deeper _) gd pre
  have I := inv_start (CX := L2.CX P w) (qual := qual) (f := f) (cd := cv) (A := A) (E := E) S room.hd e0 (many _ _ _ _ pre) rel inCall
  refine ⟨noLim.keeps inCall.toInCall.keep, codeAny_func (wpAny_mono (der.run [] s1 (L2.start N vs) H _ I rd) (fun fl s' hs => ?_) fun e s' hs => hs)⟩
  cases fl with
  | ret u =>
    obtain ⟨v, σ', H', J, rv, q⟩ := hs
    exact ⟨v, H', J.os, J.bare, J.base, J.hok, rv, q⟩
  | next =>
    obtain ⟨σ', H', J, q⟩ := hs
    exact ⟨V.non, H', J.os, J.bare, J.base, J.hok, rfl, q⟩
  | brk => obtain ⟨_, _, _, q⟩ := hs; exact q.elim
  | cont => obtain ⟨_, _, _, q⟩ := hs; exact q.elim

/-- a def of the module that may be called by its name -/
structure Df (P : Program) (w : World) (K : PySem.W.Frag) (mg : Str → Option Value) (base : Heap) (k : Nat) (x : Str) (sp : Sp) : Prop where
  ex : ∃ (f : Addr) (fd : FuncData) (ps : List Str), Fn P w K mg base k f fd ps sp ∧ mg x = some (.ref f) ∧ PySem.W.keepIn K (.ref f) = true ∧ Binds K fd ps []
theorem Df.up {j k : Nat} {x : Str} {sp : Sp} (F : Df P w K mg base j x sp) (h : j ≤ k) : Df P w K mg base k x sp := by
  obtain ⟨f, fd, ps, a, b⟩ := F.ex
  exact ⟨f, fd, ps, a.up h, b⟩
end

/-! what of an exception is wished where: in a def's own body; in a try's body -/
theorem no_pass {X : Cx} (σ : L2.St) : PassesAt (L2.CX X.prog X.w) X σ E0 := fun pins H s e s' I c => passL pins σ H s e s' I c

/-- f(..): E what is wished of an exception, by the slots -/
def tDf (sp : Sp) (E : L2.St → XK) (t : TA) : TE := fun σ H Q => t σ H fun vs H1 => sp vs H1 Q (E σ)
section
variable {X : Cx} {k j : Nat} {f C : Addr} {fd : FuncData} {ps : List Str} {sp : Sp} {E : L2.St → XK} {x m : Str} {p pos apos : Pos} {e o : Expr} {es : List Expr} {ta : TE} {t : TA}
theorem run_df {pins : List (Addr × Obj)} {σ : L2.St} {H : Hp} {s : Shared} {Q : VK} {us : List Value} {vs : List V} {E' : XK} (F : Fn X.prog X.w X.K X.mg X.base k f fd ps sp) (hr : Room k X.A) (hG : X.A.guards = some []) (hb : Binds X.K fd ps [])
    (hx : PassesAt (L2.CX X.prog X.w) X σ E') (I : Inv X pins σ H s) (r : Vals vs us) (h : sp vs H Q E') : wpAny (model X.prog X.w) X.A (call (.ref f) us) (EP X pins σ Q) X.xe s := by
  have len : (us ++ []).length = ps.length := by rw [List.append_nil, ← r.length]; exact F.many _ _ _ _ h
  have b := hb s us I.kIn len
  rw [List.append_nil] at b
  refine wpAny_call (codeAny_mono (F.go X.A X.stack s H ⟨us, []⟩ us vs Q E' hr hG I.env0 b r h) fun res s' hq => ?_)
  match res, hq with
  | .error err, hq => exact hx pins H s err s' I hq
  | .ok (.ret u), hq => exact I.after hq
theorem pe_df (F : Df X.prog X.w X.K X.mg X.base k x sp) (hr : Room j X.A) (hk : k ≤ j) (hG : X.A.guards = some []) (hg : Gl X x) (hx : ∀ σ, PassesAt (L2.CX X.prog X.w) X σ (E σ)) (ha : PA X (e :: es) t)
    (hd : (x == ("__debug__" : Str)) = false := by decide) (he : starEach (e :: es) X.env = (false, eval e X.env) :: starEach es X.env := by rfl) (hp : (backTo pos (starEach es X.env)).any (·.1) = false := by rfl) : PE X (.Call (.Name x p) (e :: es) [] pos) (tDf sp E t) := by
  obtain ⟨f, fd, ps, F, hm, kp, hb⟩ := F.ex
  refine ⟨fun pins s σ H Q I h => wpAny_Call_Name_kw (ld_glob I hg hm ?_ hd)⟩
  exact PySem.W.callWith_K (h₀ := X.base) I.ok.mod.kin kp (thn (ha.run pos pins s σ H _ I h) fun us s1 ⟨vs, H1, I1, r, q⟩ => ⟨I1.kIn, run_df F (hr.mono hk) hG hb (hx σ) I1 r q⟩) he hp
theorem pe_df0 (F : Df X.prog X.w X.K X.mg X.base k x sp) (hr : Room j X.A) (hk : k ≤ j) (hG : X.A.guards = some []) (hg : Gl X x) (hx : ∀ σ, PassesAt (L2.CX X.prog X.w) X σ (E σ))
    (hd : (x == ("__debug__" : Str)) = false := by decide) : PE X (.Call (.Name x p) [] [] pos) (tDf sp E tNil) := by
  obtain ⟨f, fd, ps, F, hm, kp, hb⟩ := F.ex
  refine ⟨fun pins s σ H Q I h => wpAny_Call_Name_kw (ld_glob I hg hm ?_ hd)⟩
  exact PySem.W.callWith_K0 I.kIn kp (run_df (us := []) F (hr.mono hk) hG hb (hx σ) I .nil h)
end

/-- the law's own call at its heap h: H tells of the script alone -/
theorem call_at {P : Program} {w : World} {K : PySem.W.Frag} {mg mb : Str → Option Value} {k : Nat} {f a : Addr} {fd : FuncData} {x : Str} {sp : Sp} {s : Shared} {us : List Value} {H : Hp}
    (KX : K.In s.heap) (glob : s.heap.Ns mainGlobals mg) (bl : s.heap.Ns builtinsNs mb) (boot : ∀ y : Str, y ≠ "__name__" → mb y = bootBuiltins y) (lim : s.heap.NoLimit) (gens : s.gens = #[])
    (at_a : s.heap.get? a = some { cls := .type "list", data := .seq us.toArray }) (room : Room k callerA) (go : ∀ base : Heap, K.In base → base.Ns mainGlobals mg → Fn P w K mg base k f fd [x] sp)
    (bind : ∀ (s : Shared) (u : Value), BindsTo s fd ⟨[u], []⟩ [(x, u)]) (pre : sp [.ref a] H (fun v _ => v = .bl true) fun _ _ _ => False)
    (only : ∀ b, H b = none ∨ (b = a ∧ K.lookup a = none ∧ ∃ o xs, H b = some (.frz o (.lst xs)))) (ok : HOk P w H s.heap) :
    codeAny (model P w) callerA (.call (.ref f) ⟨[.ref a], []⟩) (fun r t => r = .ok (.ret (.bool true)) ∧ OldK s.heap t.heap ∧ t.os = s.os ∧ AllBare t.gens) s := by
  have free : ∀ {b : Addr}, b ≠ a → H b = none := fun {b} nb => (only b).elim id fun q => absurd q.1 nb
  have stay : ∀ {b : Addr} {o : Obj}, s.heap.get? b = some o → b ≠ a → (hidT s.heap H).get? b = some o := fun e nb => hidT_get e (free nb)
  have noDict : ∀ {b : Addr} {m : Str → Option Value}, s.heap.Ns b m → b ≠ a := by
    rintro b m ⟨o, es, ep, e, d, _⟩ rfl
    rw [at_a] at e
    cases e
    cases d
  have nsIn : ∀ {b : Addr} {m : Str → Option Value}, s.heap.Ns b m → (hidT s.heap H).Ns b m := fun {b m} q => by
    have nb := noDict q
    obtain ⟨o, es, ep, e, r⟩ := q
    exact ⟨o, es, ep, stay e nb, r⟩
  have kin : K.In (hidT s.heap H) := fun b o e => by
    refine hidT_get (KX b o e) ?_
    rcases only b with q | ⟨q, l, _⟩
    · exact q
    · rw [q, l] at e
      cases e
  obtain ⟨mc, l1, l2⟩ := lim
  have e0 : Env0 P w K mg (hidT s.heap H) callerA [] s H :=
    { frames := rfl, mod := ⟨kin, nsIn glob, ⟨mb, nsIn bl, boot⟩, ⟨mc, nsIn l1, l2⟩⟩, bs := fun b o e => of_hidT e, bsz := Nat.le_of_eq (hidT_size _ _), funs := trivial, frf := fun b z => (by cases z), hok := ok, bare := AllBare.of_eq gens }
  refine codeAny_mono ((go _ kin (nsIn glob)).go callerA [] s H ⟨[.ref a], []⟩ [.ref a] [.ref a] _ _ room rfl e0 (bind s (.ref a)) (.cons rfl .nil) pre) fun r t done => ?_
  match r, done with
  | .error e, done =>
    obtain ⟨_, _, _, _, _, _, _, _, _, _, _, _, z⟩ := done
    exact z.elim
  | .ok (.ret u), done =>
    obtain ⟨v, H', os, bare, un, ok', rv, q⟩ := done
    have qv : v = .bl true := q
    subst qv
    obtain rfl : u = Value.bool true := rv
    refine ⟨rfl, OldK.of_keep fun b o e => ?_, os, bare⟩
    rcases only b with q | ⟨_, _, ob, xs, q⟩
    · exact un.keep b o e q (fun z => nomatch z) (fun z => nomatch z)
    · have h1 := (ok b _ q).1
      have h2 := (ok' b _ (un.frzs b ob _ q)).1
      rw [e] at h1
      cases h1
      exact h2

/-- the law itself: how it is called at the end -/
theorem law_end {l : PySem.W.OpenLaw} {n k : Nat} {q : Program} {loose : List Str} {XP : (Str → Option Value) → Heap → Prop} {YP : World → Heap → Prop} {d : DefRec} {x : Str}
    (hn : l.most = some n) (hn2 : n ≤ sizeLine) (hdf : d.params.defaults = []) (hr : Room k callerA)
    (F : ∀ (w : World) (mg : Str → Option Value) (fa : Addr) (h : Heap), YP w h → h.Ns mainGlobals mg → mg d.name = some (.ref fa) →
      ∃ (K : PySem.W.Frag) (fd : FuncData) (sp : Sp), K.In h ∧ (∀ (s : Shared) (u : Value), BindsTo s fd ⟨[u], []⟩ [(x, u)]) ∧
        (∀ (H : Hp) (a : Addr) (ns : List Int), ns.length ≤ n → Only H → SqL K H a (ns.map V.int) → sp [.ref a] H (fun v _ => v = .bl true) fun _ _ _ => False) ∧
        ∀ base : Heap, K.In base → base.Ns mainGlobals mg → Fn l.prog w K mg base k fa fd [x] sp) :
    PySem.W.WalkO q loose XP YP l.row.toRowW d [] (fun f vs => PySem.call f vs) := by
  refine Att.attach_call hn hdf fun w s₀ s mg mb f o pm cd doc a us ns G Y _ _ _ hmg at_a nums short gens => ?_
  obtain ⟨K, fd, sp, KX, bind, pre, go⟩ := F w mg f _ Y G.T.g hmg
  have rv := vals_ints nums
  have size : us.length ≤ sizeLine := by rw [nums.length]; exact Nat.le_trans short hn2
  cases look : K.lookup a with
  | some ob =>
    have e := KX a ob look
    rw [at_a] at e
    cases e
    exact call_at (H := fun _ => none) (x := x) KX G.T.g G.T.b G.T.builtins G.T.nolimit gens at_a hr go bind
      (pre _ a ns short (fun _ => Or.inl rfl) (Or.inr ⟨_, us.toArray, _, look, rfl, rfl, rfl, by rw [List.size_toArray]; exact size, by simpa using rv⟩)) (fun _ => Or.inl rfl) (fun b u z => nomatch z)
  | none =>
    have one : ∀ b, (if b = a then some (HO.frz { cls := .type "list", data := .seq us.toArray } (.lst (ns.map V.int))) else none) = none ∨
        (b = a ∧ K.lookup a = none ∧ ∃ ob xs, (if b = a then some (HO.frz { cls := .type "list", data := .seq us.toArray } (.lst (ns.map V.int))) else none) = some (.frz ob (.lst xs))) := fun b => by
      by_cases hb : b = a
      · exact Or.inr ⟨hb, look, _, _, if_pos hb⟩
      · exact Or.inl (if_neg hb)
    refine call_at (x := x) (H := fun b => if b = a then some (HO.frz { cls := .type "list", data := .seq us.toArray } (.lst (ns.map V.int))) else none) KX G.T.g G.T.b G.T.builtins G.T.nolimit gens at_a hr go bind
      (pre _ a ns short (fun b => (one b).elim Or.inl fun z => Or.inr z.2.2) (Or.inl (Or.inr ⟨_, if_pos rfl⟩))) one (fun b u z => ?_)
    rcases one b with q | ⟨rfl, _, _⟩
    · exact absurd (q.symm.trans z) (by simp)
    · have z2 := (if_pos rfl).symm.trans z
      cases z2
      exact ⟨at_a, by rw [rv.length]; exact size, us, _, rv, at_a⟩
end Gl
set_option Elab.async false
set_option linter.all false
set_option maxRecDepth 100000
set_option maxHeartbeats 4000000
/-! Ex: own errors whose making hands the part on to the base's making and keeps it as a field. -/
namespace Ex
open PySem PySem.W PySem.Calls PyProof.Rows PySem.HandSPX
def iA (fld : Str) (p1 p2 : Pos) : Arguments := { posonlyargs := [], args := [{ arg := "self", annotation := none, pos := p1 }, { arg := fld, annotation := none, pos := p2 }], vararg := none, kwonlyargs := [], kw_defaults := [], kwarg := none, defaults := [] }
def iB (fld : Str) (p0 p1 p2 p3 p4 p5 p6 p7 p8 p9 : Pos) : List Stmt :=
  [.Expr (.Call (.Attribute (.Call (.Name "super" p0) [] [] p1) "__init__" p2) [.Name fld p3] [] p4) p5, .Assign [.Attribute (.Name "self" p6) fld p7] (.Name fld p8) p9]
def iS (fld : Str) : Scope := { kind := .function, names := [(PySem.Str.ofString "self", .local), (fld, .local), (PySem.Str.ofString "__class__", .free), (PySem.Str.ofString "super", .globalImplicit)], isGenerator := false, isCoroutine := false, more := [] }
structure BadC (P : Program) (K : Frag) (C : Addr) (fld : Str) : Prop where
  cls : ∃ nm q N bs bm sn sub ab col dd k0 k1 k2 k3 k5, K.lookup C = some (excClassObj nm q C N bs bm true sn sub ab col dd k0 k1 k2 k3 k5 "ValueError.__new__") ∧ refsVE bm = true
  sa : findIn K (.ref C) "__setattr__" = some (some (.builtin "object.__setattr__"))
  noN : findIn K (.ref C) fld = some none
  kC : keepIn K (.ref C) = true
  exC : subIn K (.ref C) (.type "BaseException") = some true
  tyC : typeIn K (.ref C) = some (.type "type")
  subV : subIn K (.ref C) (.type "ValueError") = some true
  mro : mroIn K C (.ref C) = some true
  sup : ks_superIn K C C "__init__" = some (some (.builtin "ValueError.__init__"))
  opq : nsIn K cStatics "thirdparty.any" = some none
  top : (P.main.scope.names.lookup ("super" : Str)).isSome = false
  fne : (fld == ("self" : Str)) = false
  fnc : (fld == ("__class__" : Str)) = false
  fns : (fld == ("super" : Str)) = false
  fnd : (fld == ("__debug__" : Str)) = false
  init : ∃ (fI cc cda : Addr) (oc kV doc pm ct ccl cl : Value) (od an cdd cld : Option Addr) (osl ccs csl : Array (Option Value)) (p1 p2 q0 q1 q2 q3 q4 q5 q6 q7 q8 q9 : Pos) (q : Str) (vs : Array Value) (file : Str) (tf : Tok),
    findIn K (.ref C) "__init__" = some (some (.ref fI)) ∧ typeIn K (.ref fI) = some (.type "function") ∧
    K.lookup fI = some ⟨oc, od, .func (ksFn "__init__" q (iA fld p1 p2) (iB fld q0 q1 q2 q3 q4 q5 q6 q7 q8 q9) (iS fld) .none kV doc pm an (.ref cda) ct cc), osl⟩ ∧ codeIn K (.ref cda) q = true ∧
    K.lookup cc = some ⟨cl, cld, .cell (some (.ref C)), csl⟩ ∧ K.lookup cda = some ⟨ccl, cdd, .fields vs, ccs⟩ ∧ vs[2]? = some (.str file tf) ∧ ((P.main.file : Str) == file) = true ∧
    (∀ env : Env, ∃ pl : Sem Bool, eval (.Call (.Attribute (.Call (.Name "super" q0) [] [] q1) "__init__" q2) [.Name fld q3] [] q4) env = (do
      let ov ← attributeBase (.Call (.Name "super" q0) [] [] q1) "__init__" env (eval (.Call (.Name "super" q0) [] [] q1) env)
      standAt q2.atName
      let (f, first) ← holding [ov] (getMethod ov "__init__" pl)
      callWith q4 f first (backTo q4 (starEach [.Name fld q3] env)) [])) ∧
    ∀ (s : Shared) (x v : Value), BindsTo s (ksFn "__init__" q (iA fld p1 p2) (iB fld q0 q1 q2 q3 q4 q5 q6 q7 q8 q9) (iS fld) .none kV doc pm an (.ref cda) ct cc) ⟨[x, v], []⟩ [("self", x), (fld, v)]
theorem lk_self {fld : Str} {x v : Value} (h : (fld == ("self" : Str)) = false) : ([("self", x), (fld, v)] : List (Str × Value)).reverse.lookup ("self" : Str) = some x := by
  have h2 : (("self" : Str) == fld) = false := by rw [beq_eq_false_iff_ne] at h ⊢; exact fun z => h z.symm
  show List.lookup ("self" : Str) [(fld, v), ("self", x)] = some x
  simp [List.lookup, h2]
theorem lk_fld {fld : Str} {x v : Value} : ([("self", x), (fld, v)] : List (Str × Value)).reverse.lookup fld = some v := by
  show List.lookup fld [(fld, v), ("self", x)] = some v
  simp [List.lookup]
theorem sc_self {fld : Str} : (iS fld).names.lookup ("self" : Str) = some .local := by simp [iS, List.lookup]
theorem sc_fld {fld : Str} : (iS fld).names.lookup fld = some .local := by
  by_cases h : fld = ("self" : Str)
  · subst h; exact sc_self
  · have h2 : (fld == ("self" : Str)) = false := beq_eq_false_iff_ne.mpr h
    have h3 : (fld == PySem.Str.ofString "self") = false := h2
    simp [iS, List.lookup, h3]
theorem sc_cls {fld : Str} (h : (fld == ("__class__" : Str)) = false) : (iS fld).names.lookup ("__class__" : Str) = some .free := by
  have h2 : (("__class__" : Str) == fld) = false := by rw [beq_eq_false_iff_ne] at h ⊢; exact fun z => h z.symm
  have h3 : (("__class__" : Str) == PySem.Str.ofString "self") = false := by decide
  simp [iS, List.lookup, h2, h3]
theorem sc_sup {fld : Str} (h : (fld == ("super" : Str)) = false) : (iS fld).names.lookup ("super" : Str) = some .globalImplicit := by
  have h2 : (("super" : Str) == fld) = false := by rw [beq_eq_false_iff_ne] at h ⊢; exact fun z => h z.symm
  have h3 : (("super" : Str) == PySem.Str.ofString "self") = false := by decide
  have h4 : (("super" : Str) == PySem.Str.ofString "__class__") = false := by decide
  simp [iS, List.lookup, h2, h3, h4]
/-- what the making leaves of a fresh exception at x -/
structure InitEnd (h h' : Heap) (x C dx t1 : Addr) (fld : Str) (v : Value) : Prop where
  keep : ∀ b o, b ≠ x → h.get? b = some o → h'.get? b = some o
  obj : h'.get? x = some { cls := .ref C, dict := some dx, data := .fields #[.ref t1, .none, .none, .none, .bool false, .none] }
  dbig : h.objs.size ≤ dx
  dne : dx ≠ x
  ns : h'.Ns1 dx (fun y => if y = fld then some v else none)
section
variable {prog : Program} {w : World} {A : Around} {E : Value → Shared → Prop} {R : Result → Shared → Prop} {s : Shared} {K : Frag} {mg mb : Str → Option Value} {C fI cc cda : Addr} {fld : Str}
theorem one_size (v : Value) : [v].length ≤ sizeLine := by
  rw [sizeLine_eq]
  exact (by decide : 1 ≤ 16777216)
theorem ld1 {M : Model} {s : Shared} {env : Env} {m : Str → Option Value} {x : Str} {pos : Pos} {v : Value} {Q : Value → Shared → Prop} {A : Around} {E : Value → Shared → Prop} (hk : env.scope.kind = .function) (hl : env.kindOf x = some .local) (hn : s.heap.Ns env.locals m) (hv : m x = some v) (hd : (x == ("__debug__" : Str)) = false) (h : Q v s) :
    wpAny M A (eval (.Name x pos) env) Q E s := wpAny_Name (wpAny_loadName_local hk hl hn hv h) hd
/-- the base's making, bound, called -/
theorem call_mw {u e t0 : Addr} {rest : List Value} {Q : Value → Shared → Prop} {h : Heap} {g : Array GenState} {d : Drawn} {t : Nat} {os : OsState} {nm q : Str} {N : Addr} {bs bm : List Value} {hdct : Bool} {sn : List Str} {sub : List Value} {ab : Bool} {col : Option Bool} {dd : Option Addr} {k0 k1 k2 k3 k5 : Option Value}
    (hC : h.get? C = some (excClassObj nm q C N bs bm hdct sn sub ab col dd k0 k1 k2 k3 k5 "ValueError.__new__")) (he : h.get? e = some (excO C t0)) (hu : h.get? u = some (kxs_mw "ValueError.__init__" e)) (hrest : rest.length ≤ sizeLine)
    (hq : ∀ h' t1, (∀ b o, b ≠ e → h.get? b = some o → h'.get? b = some o) → h.objs.size ≤ h'.objs.size → h'.get? e = some (excO C t1) → Q .none ⟨h', g, d, t, os⟩) :
    wpAny (model prog w) A (call (.ref u) rest) Q E ⟨h, g, d, t, os⟩ := by
  refine wpAny_call (codeAny_of_tree ?_)
  show wpAny _ A.in1 (callAny (.ref u) ⟨rest, []⟩) _ _ _
  simp only [callAny]
  refine wpAny_bind (wpAny_load hu ?_)
  simp only [kxs_mw, show (Value.type "method-wrapper" == Value.type "method" || Value.type "method-wrapper" == Value.type "builtin_function_or_method" || Value.type "method-wrapper" == Value.type "method-wrapper") = true by decide, if_true]
  refine KFB.if_so (by decide) ?_
  refine wpAny_bind (check_bound_init F.excBase_ValueError.toExcCallFacts hC he rfl ?_)
  refine wpAny_bind (wpAny_pure (wpAny_pure ?_))
  refine ⟨plainId_quiet F.excBase_ValueError.init.plain _, codeAny_builtin F.excBase_ValueError.initEntry ?_⟩
  refine exc_init_tree (cls := .ref C) (t0 := t0) (dv := none) (c2 := .none) (c3 := .none) (b4 := .bool false) he hrest (fun h' k e' t' => ?_)
  exact hq h' _ k (Nat.le_of_lt (Heap.lt_size t')) e'
theorem bad_init (T : BadC prog K C fld) {oc kV doc pm ct ccl cl : Value} {od an cdd cld : Option Addr} {osl ccs csl : Array (Option Value)} {p1 p2 q0 q1 q2 q3 q4 q5 q6 q7 q8 q9 : Pos} {q : Str} {vs : Array Value} {file : Str} {tf : Tok}
    (ho : K.lookup fI = some ⟨oc, od, .func (ksFn "__init__" q (iA fld p1 p2) (iB fld q0 q1 q2 q3 q4 q5 q6 q7 q8 q9) (iS fld) .none kV doc pm an (.ref cda) ct cc), osl⟩) (hcd : codeIn K (.ref cda) q = true)
    (hcell : K.lookup cc = some ⟨cl, cld, .cell (some (.ref C)), csl⟩) (hcode : K.lookup cda = some ⟨ccl, cdd, .fields vs, ccs⟩) (hvs : vs[2]? = some (.str file tf)) (hfile : ((prog.main.file : Str) == file) = true)
    (hmc : ∀ env : Env, ∃ pl : Sem Bool, eval (.Call (.Attribute (.Call (.Name "super" q0) [] [] q1) "__init__" q2) [.Name fld q3] [] q4) env = (do
      let ov ← attributeBase (.Call (.Name "super" q0) [] [] q1) "__init__" env (eval (.Call (.Name "super" q0) [] [] q1) env)
      standAt q2.atName
      let (f, first) ← holding [ov] (getMethod ov "__init__" pl)
      callWith q4 f first (backTo q4 (starEach [.Name fld q3] env)) []))
    {x t0 : Addr} {v : Value} (hbind : BindsTo s (ksFn "__init__" q (iA fld p1 p2) (iB fld q0 q1 q2 q3 q4 q5 q6 q7 q8 q9) (iS fld) .none kV doc pm an (.ref cda) ct cc) ⟨[.ref x, v], []⟩ [("self", .ref x), (fld, v)])
    (X : K.In s.heap) (hg : s.heap.Ns mainGlobals mg) (hgs : mg "super" = none) (hb : s.heap.Ns builtinsNs mb) (hbs : mb "super" = some (.type "super")) (hlim : s.heap.NoLimit) (hx : s.heap.get? x = some (excO C t0)) (hnx : K.lookup x = none) (hroom : A.depth < recursionLimit)
    (hq : ∀ h' tk dx t1, InitEnd s.heap h' x C dx t1 fld v → R (.ok (.ret .none)) { s with heap := h', toks := tk }) :
    codeAny (model prog w) A (.call (.ref fI) ⟨[.ref x, v], []⟩) R s := by
  obtain ⟨nm, q', N, bs, bm, sn, sub, ab, col, dd, k0, k1, k2, k3, k5, hC, hbm⟩ := T.cls
  have hcl : clsIn K C = some { name := nm, bases := bs, mro := .ref C :: bm, ns := N, qualname := q', hasDict := true, slotNames := sn, subclasses := sub, abstract := ab, collection := col, hasDel := false } := by unfold clsIn; rw [hC] <;> rfl
  refine ks_codeAny_call_defAt (fd := ksFn "__init__" q (iA fld p1 p2) (iB fld q0 q1 q2 q3 q4 q5 q6 q7 q8 q9) (iS fld) .none kV doc pm an (.ref cda) ct cc) (binds := [("self", .ref x), (fld, v)]) hroom (X _ _ ho) rfl hlim (codeRec_of X hcd) rfl hbind ?_ ?_ (fun h₁ hns k => ?_)
  · intro y hy
    simp only [ksFn, fnX, iS, List.mem_cons, List.not_mem_nil, or_false] at hy
    rcases hy with rfl | rfl | rfl | rfl <;> exact fun z => nomatch z
  · intro y hy
    simp only [List.mem_cons, List.not_mem_nil, or_false] at hy
    rcases hy with rfl | rfl
    · exact sc_self
    · exact sc_fld
  · obtain ⟨hp, g, d, t, os⟩ := s
    have X₁ : K.In h₁ := X.keeps k
    have hx₁ := k _ _ hx
    have hC₁ := X₁ _ _ hC
    obtain ⟨pl, hpl⟩ := hmc (callEnv (ksFn "__init__" q (iA fld p1 p2) (iB fld q0 q1 q2 q3 q4 q5 q6 q7 q8 q9) (iS fld) .none kV doc pm an (.ref cda) ct cc) hp.objs.size fI)
    refine ks_wpAt_execs_cons (ks_wpAt_Expr_any (ks_wpAt_MethodCall ?_ hpl))
    refine ks_wpAt_super_base (f := fI) (cc := cda) (sc_sup T.fns) (sc_cls T.fnc) rfl rfl (X₁ _ _ ho) rfl rfl rfl (X₁ _ _ hcode) rfl hvs hfile T.top ?_
    refine ks_loadName_global rfl (sc_sup T.fns) (loadGlobal_builtin (hg.keeps k) hgs (hb.keeps k) hbs ⟨rfl, ?_⟩)
    refine wpAny_loadName_free rfl (sc_cls T.fnc) rfl ⟨_, X₁ _ _ hcell, rfl⟩ ?_
    refine wpAny_loadName_local rfl sc_self hns (lk_self T.fne) ?_
    refine ks_wpAny_isType_cls hC₁ rfl ⟨rfl, ?_⟩
    refine ks_wpAny_call_super hC₁ rfl hx₁ rfl (fun c e => nomatch e) (looks_mroIn X₁ T.mro) (fun h₂ e₂ k₂ => ?_)
    have X₂ : K.In h₂ := X₁.keeps k₂
    have hx₂ := k₂ _ _ hx₁
    have hsup := T.sup
    unfold ks_superIn at hsup
    rw [hcl] at hsup
    have I₂ : InstAt h₂ x (excO C t0) C none := ⟨hx₂, rfl, rfl, trivial⟩
    refine kxs_getMethod kxs_ValueError e₂ (looks_opaque X₂ T.opq) (l₀ := Value.ref C :: bm) ?_ rfl X₂ hsup (I₂.type.andThen (looks_subIn X₂ T.subV)) (fun z => by rw [z, hC] at hnx; cases hnx) (by decide) ?_
    · exact fun A Q E s k q => wpAny_bind ((looks_clsIn X₂ hcl) A _ E s k (wpAny_pure q))
    · have k₃ : ∀ b o, h₂.get? b = some o → (h₂.push (kxs_mw "ValueError.__init__" x)).get? b = some o := fun b o e => Heap.get?_push_of_some _ e
      refine kxs_callWith (i := "ValueError.__init__") (x := x) rfl (evalArgs_plain (Calls.spliced_cons (ld1 rfl sc_fld ((hns.keeps k₂).keeps k₃) lk_fld T.fnd (Calls.spliced_nil ⟨Heap.get?_push_at rfl rfl, ?_⟩))))
      refine call_mw (X₂.keeps k₃ _ _ hC) (k₃ _ _ hx₂) (Heap.get?_push_at rfl rfl) (one_size v) (fun h₄ t1 k₄ sz₄ hx₄ => ?_)
      have keep₄ : ∀ b o, b ≠ x → h₁.get? b = some o → h₄.get? b = some o := fun b o hb e => k₄ b o hb (k₃ _ _ (k₂ _ _ e))
      have X₄ : K.In h₄ := fun b o e => keep₄ b o (fun z => by rw [z, hnx] at e; cases e) (X₁ b o e)
      have hns₄ := hns.at (fun o e => keep₄ _ o (Nat.ne_of_gt (Heap.lt_size hx)) e)
      refine wpAt_of_wpAny (wpAny_execs_cons (plainObj_wpAny_Assign_Attribute (ld1 rfl sc_fld hns₄ lk_fld T.fnd (ld1 rfl sc_self hns₄ (lk_self T.fne) (by decide) ?_))))
      refine set_plain X₄ (ox := excO C t1) (od := none) ⟨hx₄, rfl, rfl, trivial⟩ T.sa ?_
      refine exc_osa X₄ hx₄ hcl (show refsVE (.ref C :: bm) = true from hbm) rfl T.noN (fun h₅ tk₅ dx k₅ dn dne hx₅ hn₅ => ?_)
      show wpAny _ _ (execs _ _) _ _ _
      refine wpAny_execs_nil (hq h₅ tk₅ dx t1 ⟨fun b o hb e => k₅ b o hb (keep₄ b o hb (k b o e)), hx₅, ?_, dne, hn₅⟩)
      have a1 : hp.objs.size < h₁.objs.size := hns.lt
      have a2 : h₁.objs.size < h₂.objs.size := Heap.lt_size e₂
      have a3 : h₂.objs.size ≤ h₄.objs.size := Nat.le_trans (by rw [Heap.size_push]; omega) sz₄
      have a4 : h₄.objs.size ≤ dx := dn
      exact Nat.le_trans (Nat.le_of_lt a1) (Nat.le_trans (Nat.le_of_lt a2) (Nat.le_trans a3 a4))
/-- a made one -/
structure OwnMade (h h' : Heap) (e C d : Addr) (fld : Str) (v : Value) : Prop where
  keep : ∀ b o, h.get? b = some o → h'.get? b = some o
  new : h.objs.size ≤ e
  obj : ∃ t1 : Addr, h'.get? e = some { cls := .ref C, dict := some d, data := .fields #[.ref t1, .none, .none, .none, .bool false, .none] }
  dbig : h.objs.size ≤ d
  dne : d ≠ e
  ns : h'.Ns1 d (fun y => if y = fld then some v else none)
theorem bad_made (T : BadC prog K C fld) {v : Value} (X : K.In s.heap) (hg : s.heap.Ns mainGlobals mg) (hgs : mg "super" = none) (hb : s.heap.Ns builtinsNs mb) (hbs : mb "super" = some (.type "super")) (hlim : s.heap.NoLimit) (hroom : A.depth + 1 < recursionLimit)
    (hq : ∀ h' tk e d, OwnMade s.heap h' e C d fld v → R (.ok (.ret (.ref e))) { s with heap := h', toks := tk }) :
    codeAny (model prog w) A (.call (.ref C) ⟨[v], []⟩) R s := by
  obtain ⟨nm, q, N, bs, bm, sn, sub, ab, col, dd, k0, k1, k2, k3, k5, hC, hbm⟩ := T.cls
  obtain ⟨fI, cc, cda, oc, kV, doc, pm, ct, ccl, cl, od, an, cdd, cld, osl, ccs, csl, p1, p2, q0, q1, q2, q3, q4, q5, q6, q7, q8, q9, q, vs, file, tf, iC, tI, ho, hcd, hcell, hcode, hvs, hfile, hmc, hbind⟩ := T.init
  obtain ⟨hp, g, dr, tk, os⟩ := s
  have k : ∀ b o, hp.get? b = some o → ((hp.push (kdv_tup [v])).push (excO C hp.objs.size)).get? b = some o := fun b o e => Heap.get?_push_of_some _ (Heap.get?_push_of_some _ e)
  have hget : ((hp.push (kdv_tup [v])).push (excO C hp.objs.size)).get? (hp.objs.size + 1) = some (excO C hp.objs.size) := by heap_get
  have hnx : K.lookup (hp.objs.size + 1) = none := by
    cases e : K.lookup (hp.objs.size + 1) with
    | none => rfl
    | some o =>
      have z : hp.get? (hp.objs.size + 1) = some o := X _ _ e
      exact absurd (Nat.lt_of_succ_lt (Heap.lt_size z)) (Nat.lt_irrefl _)
  refine call_own F.excBase_ValueError (fun X => refsVE_contains X bm hbm) (X _ _ hC) (looks_findIn X iC) (fun self => bind_fn X self tI) (one_size v) ?_
  refine bad_init (s := ⟨(hp.push (kdv_tup [v])).push (excO C hp.objs.size), g, dr, tk, os⟩) T ho hcd hcell hcode hvs hfile hmc (hbind _ _ _) (X.keeps k) (hg.keeps k) hgs (hb.keeps k) hbs (hlim.keeps k) hget hnx ?_ fun h' tk' dx t1 ⟨k', hx, dn, dne, hns⟩ => ?_
  · show A.depth + 1 < recursionLimit
    exact hroom
  · have old : ∀ b o, hp.get? b = some o → h'.get? b = some o := fun b o e => k' b o (Nat.ne_of_lt (Nat.lt_succ_of_lt (Heap.lt_size e))) (k b o e)
    have z : hp.objs.size + 1 + 1 ≤ dx := by
      first
        | (simpa only [Heap.size_push] using dn)
        | exact dn
        | (have q := dn; rw [Heap.size_push, Heap.size_push] at q; exact q)
    exact ⟨rfl, hq h' tk' (hp.objs.size + 1) dx ⟨old, Nat.le_succ _, ⟨t1, hx⟩, Nat.le_trans (Nat.le_trans (Nat.le_succ _) (Nat.le_succ _)) z, dne, hns⟩⟩
end
end Ex

namespace L2
open PySem PySem.Spec PyProof.Rows
section
variable {X : Cx}
/-- C(e), C an own error that keeps its part in the field fld -/
def tMkE (K : PySem.W.Frag) (C : Addr) (fld : Str) (te : TE) : TE := fun σ H Q => te σ H fun v H1 => ∀ a d, H1 d = none → H1 a = none → a ≠ d → Q (.ref a) (upd (upd H1 d (.xd [(fld, v)])) a (exo a C (some d)))
theorem relO_one {fld : Str} {v : V} {v' : Value} (r : RelV v v') (f : Str) : RelO (List.lookup f [(fld, v)]) (if f = fld then some v' else none) := relO_put (fs := []) (mA := fun _ => none) r (fun _ => True.intro) f
/-- C(), C an own error of no own making -/
def tMkN (C : Addr) : TE := fun σ H Q => ∀ a, H a = none → Q (.ref a) (upd H a (exo a C none))
/-- e.fld -/
def tFldE (K : PySem.W.Frag) (n : Str) (te : TE) : TE := fun σ H Q => te σ H fun x H1 => ∃ (a C d : Addr) (v : V), x = .ref a ∧ XfC K C ∧ PySem.W.findIn K (.ref C) n = some none ∧ H1 a = some (exo a C (some d)) ∧ H1 d = some (.xd [(n, v)]) ∧ Q v H1
end
/-- isinstance(e, c) of such an error -/
def rIsX (K : PySem.W.Frag) : List V → Hp → VK → Prop := fun xs H Q => ∃ (a C : Addr) (d : Option Addr) (c : V) (cv : Value) (b : Bool), xs = [.ref a, c] ∧ H a = some (exo a C d) ∧ ExcC K C ∧ (∀ u, RelV c u → u = cv) ∧ (∀ dd, d = some dd → ∃ fs, H dd = some (.xd fs)) ∧ PySem.W.kitOne K (.ref C) cv = some b ∧ Q (.bl b) H
end L2
set_option Elab.async false
set_option maxRecDepth 100000
set_option maxHeartbeats 4000000
/-! Rd: readings, one lemma a construct; the tactic walk_at "rd" goes along a reading as far as it is plain. -/
namespace Rd
open PySem L2

/-! built-in calls by names of our own -/
def rLen (K : PySem.W.Frag) : List V → Hp → VK → Prop := fun xs H Q => (∃ p ys, xs = [.ref p] ∧ (SqL K H p ys ∨ SqT K H p ys) ∧ Q (.int ys.length) H) ∨ ∃ z, xs = [.str z] ∧ z.length ≤ sizeLine ∧ Q (.int z.length) H
theorem cr_len {X : Cx} : CallR X (.builtin "len") (rLen X.K) := call_len_seq.or call_len_str
def rInt : List V → Hp → VK → Prop := fun xs H Q => (∃ i, xs = [.int i] ∧ Q (.int i) H) ∨ ∃ k, xs = [.bl k] ∧ Q (.int (if k then 1 else 0)) H
theorem cr_int {X : Cx} : CallR X (.type "int") rInt := call_int1
def rAbs : List V → Hp → VK → Prop := fun xs H Q => ∃ i, xs = [.int i] ∧ Q (.int (if i < 0 then -i else i)) H
theorem cr_abs {X : Cx} : CallR X (.builtin "abs") rAbs := call_abs
def rListOf (K : PySem.W.Frag) : List V → Hp → VK → Prop := fun xs H Q => ∃ p ys, xs = [.ref p] ∧ (SqL K H p ys ∨ SqT K H p ys) ∧ ∀ l, H l = none → Q (.ref l) (upd H l (.lst ys))
theorem cr_list {X : Cx} : CallR X (.type "list") (rListOf X.K) := call_list_of
def rTupOf (K : PySem.W.Frag) : List V → Hp → VK → Prop := fun xs H Q => ∃ p ys, xs = [.ref p] ∧ ((SqL K H p ys ∧ ∀ l, H l = none → Q (.ref l) (upd H l (.tup ys))) ∨ (SqT K H p ys ∧ Q (.ref p) H))
theorem cr_tuple {X : Cx} : CallR X (.type "tuple") (rTupOf X.K) := call_tuple_of

section
variable {σ : L2.St} {H : Hp} {Q : VK} {D : Ends} {K : PySem.W.Frag}
variable {nx bk ct : L2.St → Hp → Prop} {rt : VK}
theorem seq {t u : TS} (h : t ⟨u ⟨nx, rt, bk, ct⟩, rt, bk, ct⟩ σ H) : tSeq t u ⟨nx, rt, bk, ct⟩ σ H := h
theorem next (h : nx σ H) : tNext ⟨nx, rt, bk, ct⟩ σ H := h
theorem brk (h : bk σ H) : tBreak ⟨nx, rt, bk, ct⟩ σ H := h
theorem cont (h : ct σ H) : tCont ⟨nx, rt, bk, ct⟩ σ H := h
theorem asg {te : TE} {g : TG} (h : te σ H fun x H1 => g x σ H1 nx) : tAsg te g ⟨nx, rt, bk, ct⟩ σ H := h
theorem gname {i : Nat} {v : V} {R : L2.St → Hp → Prop} (h : R (σ.set i (some v)) H) : gName i v σ H R := h
theorem ret {te : TE} (h : te σ H rt) : tRet te ⟨nx, rt, bk, ct⟩ σ H := h
theorem drop {te : TE} (h : te σ H fun _ H1 => nx σ H1) : tDrop te ⟨nx, rt, bk, ct⟩ σ H := h
theorem ifs {c : TT} {t u : TS} (h : c σ H fun b H1 => if b = true then t D σ H1 else u D σ H1) : tIfS c t u D σ H := h
theorem par {i j : Nat} {ta : TA} (h : ta σ H fun vs H1 => ∃ v w, vs = [v, w] ∧ nx ((σ.set i (some v)).set j (some w)) H1) : tPar i j ta ⟨nx, rt, bk, ct⟩ σ H := h
/-! expressions -/
theorem var {i : Nat} {v : V} (h0 : σ[i]? = some (some v)) (h : Q v H) : tVar i σ H Q := ⟨v, h0, h⟩
theorem cst {v : V} (h : Q v H) : tC v σ H Q := h
theorem op {r : R2} {ta tb : TE} (h : ta σ H fun x H1 => tb σ H1 fun y H2 => r x y H2 Q) : tOp r ta tb σ H Q := h
theorem un {r : V → Hp → VK → Prop} {ta : TE} (h : ta σ H fun x H1 => r x H1 Q) : tUn r ta σ H Q := h
theorem cb {r : List V → Hp → VK → Prop} {t : TA} (h : t σ H fun vs H1 => r vs H1 Q) : tCB r t σ H Q := h
theorem anil {R : List V → Hp → Prop} (h : R [] H) : tNil σ H R := h
theorem acons {ta : TE} {tr : TA} {R : List V → Hp → Prop} (h : ta σ H fun x H1 => tr σ H1 fun xs H2 => R (x :: xs) H2) : tCons ta tr σ H R := h
/-! tests -/
theorem test {t : TE} {R : Bool → Hp → Prop} (h : t σ H fun x H' => ∃ k, x = .bl k ∧ R k H') : tTest t σ H R := h
theorem tb {t : TE} {R : Bool → Hp → Prop} (h : t σ H fun x H' => ∃ k, x = .bl k ∧ R k H') : tB t σ H R := h
theorem iteT {A B : Prop} (h : A) : if true = true then A else B := by rw [if_pos rfl]; exact h
theorem iteF {A B : Prop} (h : B) : if false = true then A else B := by rw [if_neg Bool.false_ne_true]; exact h
/-! operators by values -/
theorem i0 {g : Int → Int → V} {i j : Int} (h : Q (g i j) H) : rI0 g (.int i) (.int j) H Q := ⟨i, j, rfl, rfl, h⟩
theorem iC {C : Int → Int → Prop} {g : Int → Int → V} {i j : Int} (hc : C i j) (h : Q (g i j) H) : rI C g (.int i) (.int j) H Q := ⟨i, j, rfl, rfl, hc, h⟩
theorem u1 {g : Int → V} {i : Int} (h : Q (g i) H) : rU g (.int i) H Q := ⟨i, rfl, h⟩
theorem lenL {p : Addr} {ys : List V} (h1 : SqL K H p ys) (h : Q (.int ys.length) H) : rLen K [V.ref p] H Q := .inl ⟨p, ys, rfl, .inl h1, h⟩
theorem int1 {i : Int} (h : Q (.int i) H) : rInt [V.int i] H Q := .inl ⟨i, rfl, h⟩
theorem abs1 {i : Int} (h : Q (.int (if i < 0 then -i else i)) H) : rAbs [V.int i] H Q := ⟨i, rfl, h⟩
theorem bm {T : String} {r : V → List V → Hp → VK → Prop} {to : TE} {t : TA} (h : to σ H fun x H1 => tyV K T x H1 ∧ t σ H1 fun xs H2 => r x xs H2 Q) : tBM K T r to t σ H Q := h
theorem pop {l : Addr} {xs : List V} {y : V} (h1 : H l = some (.lst xs)) (h3 : xs[xs.length - 1]? = some y) (h : Q y (upd H l (.lst xs.dropLast))) : rPop (.ref l) [] H Q := ⟨l, xs, y, rfl, rfl, h1, h3, h⟩
theorem lst {t : TA} (h : t σ H fun xs H1 => xs.length ≤ sizeLine ∧ ∀ p, H1 p = none → Q (.ref p) (upd H1 p (.lst xs))) : tLst t σ H Q := h
theorem tup {t : TA} (h : t σ H fun xs H1 => xs.length ≤ sizeLine ∧ ∀ p, H1 p = none → Q (.ref p) (upd H1 p (.tup xs))) : tTup t σ H Q := h
theorem new {n : Nat} {o : HO} {R : V → Hp → Prop} (h1 : n ≤ 1000) (h : ∀ p, H p = none → R (.ref p) (upd H p o)) : n ≤ sizeLine ∧ ∀ p, H p = none → R (.ref p) (upd H p o) := ⟨Nat.le_trans h1 (by decide), h⟩
theorem sl {r : V → Option Int → Option Int → Hp → VK → Prop} {te : TE} {tl th : TO} (h : te σ H fun x H1 => tl σ H1 fun l H2 => th σ H2 fun u H3 => r x l u H3 Q) : tSl r te tl th σ H Q := h
theorem part {t : TE} {R : Option Int → Hp → Prop} (h : t σ H fun x H1 => ∃ i, x = .int i ∧ R (some i) H1) : tPart t σ H R := h
theorem szl {xs : List V} (h : xs.length ≤ 1000) : xs.length ≤ sizeLine := Nat.le_trans h (by decide)
theorem call {sp : Sp} {dvs : List V} {E : XK} {t : TA} (h : t σ H fun vs H1 => sp (vs ++ dvs) H1 Q E) : tCall sp dvs E t σ H Q := h
end
/-! own calls, own errors, joined lists, unequal things -/
section
variable {σ : L2.St} {H : Hp} {Q : VK} {K : PySem.W.Frag}
def rNeA (K : PySem.W.Frag) : R2 := fun x y H Q => rNe x y H Q ∨ rNeD K x y H Q ∨ rNeDA x y H Q
theorem upd_upd {H : Hp} {a : Addr} {o u : HO} : upd (upd H a o) a u = upd H a u := by
  funext b
  by_cases e : b = a
  · rw [e, upd_same, upd_same]
  · rw [upd_ne e, upd_ne e, upd_ne e]
theorem same_new {H : Hp} {a : Addr} {o : HO} (h : H a = none) : Same H (upd H a o) := fun b u e => by rw [upd_ne (ne_of_none e h)]; exact e
theorem lcW {g : TG} {tt : TT} {te : TE} {vs : List Nat} {H1 : Hp} {a : Addr} {xs : List V} (h1 : SqL K H1 a xs) (h2 : xs.length ≤ 1000) {p : V → Bool} {f : V → V}
    (step : ∀ x, x ∈ xs → ∀ (H2 : Hp) (S : VK) (F : Hp → Prop), Same H1 H2 → (p x = true → S (f x) H2) → (p x = false → F H2) → g x (wipe σ vs) H2 fun σ2 H3 => wipe σ2 vs = wipe σ vs ∧ tt σ2 H3 fun b H4 => if b = true then te σ2 H4 S else F H4)
    (last : ∀ D, H1 D = none → Q (.ref D) (upd H1 D (.lst ((xs.filter p).map f)))) (D : Addr) (hD : H1 D = none) :
    ∃ W : Nat → Nat → Hp → Prop, (∃ m, W 0 m (upd H1 D (.lst []))) ∧ ∀ i m H, W i m H →
      ((Itl K a).stop i H ∧ Q (.ref D) H) ∨ ((Itl K a).go i H ∧ ∃ Nx : Hp → Prop, (∀ H', Nx H' → ∃ m', m' < m ∧ W (i + 1) m' H') ∧ ∀ x H', (Itl K a).yld i H x H' → g x (wipe σ vs) H' fun σ2 H2 => wipe σ2 vs = wipe σ vs ∧ tt σ2 H2 fun b H3 =>
        if b = true then te σ2 H3 fun y H4 => ∃ acc, H4 D = some (.lst acc) ∧ acc.length < sizeLine ∧ Nx (upd H4 D (.lst (acc ++ [y]))) else Nx H3) := by
  refine lc_list (xs := xs) (D := D) (fun i H => H = upd H1 D (.lst (((xs.take i).filter p).map f))) (by simp) (fun i H hi e => ?_) (fun i x H e1 e2 => ?_) (fun H e => ?_)
  · subst e
    exact (same_new hD).seq h1
  · subst e2
    have tk : xs.take (i + 1) = xs.take i ++ [x] := by rw [List.take_succ, e1]; rfl
    refine step x (List.mem_of_getElem? e1) _ _ _ (same_new hD) (fun hp => ⟨_, upd_same, ?_, ?_⟩) (fun hp => ?_)
    · rw [List.length_map]
      refine Nat.lt_of_le_of_lt (Nat.le_trans (List.length_filter_le _ _) (Nat.le_trans (List.length_take_le _ _) (Nat.le_refl i))) (small1000 ?_)
      have := (List.getElem?_eq_some_iff.mp e1).1
      omega
    · rw [upd_upd, tk, List.filter_append, List.map_append]
      simp [hp]
    · show upd H1 D _ = upd H1 D _
      rw [tk, List.filter_append, List.map_append]
      simp [hp]
  · subst e
    rw [List.take_length]
    exact last D hD
theorem lcSl {i : Nat} {lo hi : Option Int} {tlo thi : TO} {g : TG} {tt : TT} {te : TE} {vs : List Nat} {a : Addr} {xs : List V} (h0 : σ[i]? = some (some (.ref a))) (h1 : SqL K H a xs) (h2 : (cutV xs lo hi).length ≤ 1000)
    (hlo : ∀ R : Option Int → Hp → Prop, R lo H → tlo σ H R) (hhi : ∀ R : Option Int → Hp → Prop, R hi H → thi σ H R) (p : V → Bool) (f : V → V)
    (step : ∀ x, x ∈ cutV xs lo hi → ∀ (H2 : Hp) (S : VK) (F : Hp → Prop), Same H H2 → (p x = true → S (f x) H2) → (p x = false → F H2) → g x (wipe σ vs) H2 fun σ2 H3 => wipe σ2 vs = wipe σ vs ∧ tt σ2 H3 fun b H4 => if b = true then te σ2 H4 S else F H4)
    (last : ∀ q, H q = none → ∀ D, upd H q (.lst (cutV xs lo hi)) D = none → Q (.ref D) (upd (upd H q (.lst (cutV xs lo hi))) D (.lst (((cutV xs lo hi).filter p).map f)))) : tLc (iList K (tSl (rSlL K) (tVar i) tlo thi)) g tt te vs σ H Q :=
  ⟨_, h0, hlo _ (hhi _ ⟨a, xs, rfl, h1, fun q hq => ⟨q, rfl, ⟨_, .of upd_same⟩, lcW (.of upd_same) h2 (fun x hx H2 S F hS => step x hx H2 S F ((same_new hq).trans hS)) (last q hq)⟩⟩)⟩
end
end Rd
set_option Elab.async false
set_option linter.all false
set_option maxRecDepth 100000
set_option maxHeartbeats 4000000
/-! Dt: data that stand on the heap away from the places in B, which alone may change. -/
namespace Dt
open PySem PySem.Spec PyProof.Rows L2
def kD : Key → PyData
  | .inl i => .int i
  | .inr x => .str x
mutual
inductive Da (B : Addr → Prop) (H : Hp) : V → PyData → Prop
  | non : Da B H .non .none
  | bl (b : Bool) : Da B H (.bl b) (.bool b)
  | int (i : Int) : Da B H (.int i) (.int i)
  | str {x : Str} (h : x.length ≤ 1000) : Da B H (.str x) (.str x)
  | lst {a : Addr} {xs : List V} {ds : List PyData} : H a = some (.lst xs) → ¬ B a → DaL B H xs ds → Da B H (.ref a) (.list ds)
  | tup {a : Addr} {xs : List V} {ds : List PyData} : H a = some (.tup xs) → ¬ B a → DaL B H xs ds → Da B H (.ref a) (.tuple ds)
  | dc0 {a : Addr} : H a = some (.dK []) → ¬ B a → Da B H (.ref a) (.dict [])
  | dc1 {a : Addr} {k : Key} {v : V} {d : PyData} : H a = some (.dK [(k, v)]) → ¬ B a → Da B H v d → Da B H (.ref a) (.dict [(kD k, d)])
inductive DaL (B : Addr → Prop) (H : Hp) : List V → List PyData → Prop
  | nil : DaL B H [] []
  | cons {v : V} {vs : List V} {d : PyData} {ds : List PyData} : Da B H v d → DaL B H vs ds → DaL B H (v :: vs) (d :: ds)
end
/-- all that was tracked away from B is as it was -/
def Kp (B : Addr → Prop) (H H' : Hp) : Prop := ∀ b o, H b = some o → ¬ B b → H' b = some o
theorem Kp.refl (B : Addr → Prop) (H : Hp) : Kp B H H := fun _ _ h _ => h
theorem Kp.trans {B : Addr → Prop} {H H1 H2 : Hp} (a : Kp B H H1) (b : Kp B H1 H2) : Kp B H H2 := fun c o h n => b c o (a c o h n) n
theorem Kp.of {B : Addr → Prop} {H H' : Hp} (s : Same H H') : Kp B H H' := fun b o h _ => s b o h
theorem Kp.new {B : Addr → Prop} {H H' : Hp} {a : Addr} {o : HO} (s : Kp B H H') (h : H' a = none) : Kp B H (upd H' a o) := fun b u e n => by
  have z := s b u e n
  rw [upd_ne (ne_of_none z h)]
  exact z
mutual
theorem Da.keep {B : Addr → Prop} {H H' : Hp} (s : Kp B H H') : ∀ {v : V} {d : PyData}, Da B H v d → Da B H' v d
  | _, _, .non => .non
  | _, _, .bl b => .bl b
  | _, _, .int i => .int i
  | _, _, .str h => .str h
  | _, _, .lst e n h => .lst (s _ _ e n) n (h.keep s)
  | _, _, .tup e n h => .tup (s _ _ e n) n (h.keep s)
  | _, _, .dc0 e n => .dc0 (s _ _ e n) n
  | _, _, .dc1 e n h => .dc1 (s _ _ e n) n (h.keep s)
theorem DaL.keep {B : Addr → Prop} {H H' : Hp} (s : Kp B H H') : ∀ {vs : List V} {ds : List PyData}, DaL B H vs ds → DaL B H' vs ds
  | _, _, .nil => .nil
  | _, _, .cons h t => .cons (h.keep s) (t.keep s)
end
theorem DaL.len {B : Addr → Prop} {H : Hp} : ∀ {vs : List V} {ds : List PyData}, DaL B H vs ds → vs.length = ds.length
  | _, _, .nil => rfl
  | _, _, .cons _ t => by rw [List.length_cons, List.length_cons, t.len]
theorem DaL.get {B : Addr → Prop} {H : Hp} : ∀ {vs : List V} {ds : List PyData} {i : Nat} {v : V}, DaL B H vs ds → vs[i]? = some v → ∃ d, ds[i]? = some d ∧ Da B H v d
  | _, _, 0, _, .cons h _, e => by
    cases e
    exact ⟨_, rfl, h⟩
  | _, _, i + 1, w, .cons _ t, e => t.get (i := i) (v := w) (by simpa using e)
  | _, _, _, _, .nil, e => by cases e
theorem DaL.get' {B : Addr → Prop} {H : Hp} : ∀ {vs : List V} {ds : List PyData} {i : Nat} {d : PyData}, DaL B H vs ds → ds[i]? = some d → ∃ v, vs[i]? = some v ∧ Da B H v d
  | _, _, 0, _, .cons h _, e => by
    cases e
    exact ⟨_, rfl, h⟩
  | _, _, i + 1, w, .cons _ t, e => t.get' (i := i) (d := w) (by simpa using e)
  | _, _, _, _, .nil, e => by cases e
theorem DaL.app {B : Addr → Prop} {H : Hp} : ∀ {vs us : List V} {ds es : List PyData}, DaL B H vs ds → DaL B H us es → DaL B H (vs ++ us) (ds ++ es)
  | _, _, _, _, .nil, h => h
  | _, _, _, _, .cons a t, h => .cons a (t.app h)
theorem DaL.drop {B : Addr → Prop} {H : Hp} : ∀ {vs : List V} {ds : List PyData} (n : Nat), DaL B H vs ds → DaL B H (vs.drop n) (ds.drop n)
  | _, _, 0, h => h
  | _, _, n + 1, .nil => .nil
  | _, _, n + 1, .cons _ t => t.drop n
theorem DaL.take {B : Addr → Prop} {H : Hp} : ∀ {vs : List V} {ds : List PyData} (n : Nat), DaL B H vs ds → DaL B H (vs.take n) (ds.take n)
  | _, _, 0, _ => .nil
  | _, _, n + 1, .nil => .nil
  | _, _, n + 1, .cons a t => .cons a (t.take n)
theorem DaL.mem {B : Addr → Prop} {H : Hp} {vs : List V} {ds : List PyData} {v : V} (h : DaL B H vs ds) (hv : v ∈ vs) : ∃ d, d ∈ ds ∧ Da B H v d := by
  obtain ⟨i, hi, e⟩ := List.mem_iff_getElem.mp hv
  obtain ⟨d, e1, e2⟩ := h.get (i := i) (v := v) (by rw [List.getElem?_eq_getElem hi, e])
  exact ⟨d, List.mem_of_getElem? e1, e2⟩
/-- the cut of data, as of values -/
def cutD (ds : List PyData) (lo hi : Option Int) : List PyData := (ds.drop (HT.sIx ds.length 0 lo)).take (HT.sIx ds.length ds.length hi - HT.sIx ds.length 0 lo)
theorem DaL.cut {B : Addr → Prop} {H : Hp} {vs : List V} {ds : List PyData} (h : DaL B H vs ds) (lo hi : Option Int) : DaL B H (cutV vs lo hi) (cutD ds lo hi) := by
  unfold cutV cutD
  rw [h.len]
  exact (h.drop _).take _
/-- a value's type -/
def tyD : PyData → Value
  | .none => .type "NoneType"
  | .bool _ => .type "bool"
  | .int _ => .type "int"
  | .str _ => .type "str"
  | .list _ => .type "list"
  | .tuple _ => .type "tuple"
  | .dict _ => .type "dict"
theorem Da.ty {B : Addr → Prop} {H : Hp} {K : PySem.W.Frag} {v : V} {d : PyData} (h : Da B H v d) : TyX K H v (tyD d) := by
  cases h with
  | non => exact .base .non
  | bl b => exact .base (.bl b)
  | int i => exact .base (.int i)
  | str h => exact .base (.str _)
  | lst e _ _ => exact .base (.lst e)
  | tup e _ _ => exact .base (.tup e)
  | dc0 e _ => exact .base (.dK e)
  | dc1 e _ _ => exact .base (.dK e)
def isT (n : String) (d : PyData) : Bool := match n, d with
  | "tuple", .tuple _ => true
  | "list", .list _ => true
  | "str", .str _ => true
  | "int", .int _ => true
  | "int", .bool _ => true
  | "bool", .bool _ => true
  | _, _ => false
/-! what they read as -/
section
variable {X : Cx} {pins : List (Addr × Obj)} {σ : L2.St} {H : Hp} {s : Shared} {B : Addr → Prop}
theorem key_reads {P : Program} {w : World} {k : Key} {v : Value} {h : Heap} (e : (mixKind P w).is k v = true) : Reads h v (kD k) [] := by
  rcases keyIs_shape e with ⟨i, t, rfl, rfl⟩ | ⟨x, t, rfl, rfl⟩
  · exact .int i t
  · exact .str x t
mutual
theorem Da.reads (I : Inv X pins σ H s) (hm : H sysModules = none) : ∀ {d : PyData} {v : V} {u : Value}, Da B H v d → RelV v u → ∃ as, Reads s.heap u d as ∧ sysModules ∉ as
  | _, _, _, .non, r => by
    cases r
    exact ⟨_, Reads.none, by simp⟩
  | _, _, _, .bl b, r => by
    cases r
    exact ⟨_, Reads.bool b, by simp⟩
  | _, _, _, .int i, r => by
    obtain ⟨t, rfl⟩ := r
    exact ⟨_, Reads.int i t, by simp⟩
  | _, _, _, .str _, r => by
    obtain ⟨t, rfl⟩ := r
    exact ⟨_, Reads.str _ t, by simp⟩
  | _, _, _, .lst (a := a) e n ha, r => by
    cases r
    obtain ⟨its, rv, ⟨o, n, ho, hc, _, hd⟩, _⟩ := I.list (SqL.of e)
    obtain ⟨as, hr, hs⟩ := DaL.reads I hm ha rv
    refine ⟨_, Reads.list ho hc hd hr, fun z => ?_⟩
    rcases List.mem_cons.mp z with z | z
    · rw [← z, hm] at e
      cases e
    · exact hs z
  | _, _, _, .tup e n ha, r => by
    cases r
    obtain ⟨its, rv, ⟨o, ho, hc, n, hd⟩, _⟩ := I.tuple (SqT.of e)
    obtain ⟨as, hr, hs⟩ := DaL.reads I hm ha rv
    exact ⟨_, Reads.tuple ho hc hd hr, hs⟩
  | _, _, _, .dc0 (a := a) e n, r => by
    cases r
    obtain ⟨_, hsm, vs, hk, o, es, ep, ho, hx, hd, _, hp, _⟩ := (show ObjOk X.prog X.w H s.heap a (.dK []) from I.hok a _ e)
    cases hk
    have hp' : Pairs (mixKind X.prog X.w) es.toList [] := hp
    cases hes : es.toList with
    | cons x r => rw [hes] at hp'; cases hp'
    | nil =>
      refine ⟨_, Reads.dict (kvs := []) ho hx.1 hd (by rw [hes]; exact .nil) (by rw [hes]; exact .nil), fun z => ?_⟩
      have z : sysModules = a := by simpa using z
      rw [← z] at hsm
      simp at hsm
  | _, _, _, .dc1 (a := a) (k := k) (v := w) (d := d) e n hv, r => by
    cases r
    obtain ⟨_, hsm, vs, hk, o, es, ep, ho, hx, hd, _, hp, _⟩ := (show ObjOk X.prog X.w H s.heap a (.dK [(k, w)]) from I.hok a _ e)
    cases hk with
    | cons hq hk =>
      cases hk
      rename_i kv
      obtain ⟨h1, h2⟩ := hq
      dsimp only at h1 h2
      cases hes : es.toList with
      | nil => rw [hes] at hp; cases hp
      | cons x r =>
        rw [hes] at hp
        cases hp with
        | cons p1 p2 p3 =>
          cases p3
          rw [← h1] at p1
          rw [← p2] at h2
          obtain ⟨as, hr, hs⟩ := Da.reads I hm hv h2
          refine ⟨_, Reads.dict (kvs := [(kD k, d)]) ho hx.1 hd (by rw [hes]; exact .cons (key_reads p1) .nil) (by rw [hes]; exact .cons hr .nil), fun z => ?_⟩
          have z : sysModules = a ∨ sysModules ∈ as := by simpa using z
          rcases z with z | z
          · rw [← z] at hsm
            simp at hsm
          · exact hs z
theorem DaL.reads (I : Inv X pins σ H s) (hm : H sysModules = none) : ∀ {ds : List PyData} {vs : List V} {us : List Value}, DaL B H vs ds → Vals vs us → ∃ as, ReadsAll s.heap us ds as ∧ sysModules ∉ as
  | _, _, _, .nil, r => by
    cases r
    exact ⟨_, ReadsAll.nil, by simp⟩
  | _, _, _, .cons h1 h2, r => by
    cases r with
    | cons r1 r2 =>
      obtain ⟨as, q1, n1⟩ := Da.reads I hm h1 r1
      obtain ⟨bs, q2, n2⟩ := DaL.reads I hm h2 r2
      exact ⟨_, ReadsAll.cons q1 q2, by rw [List.mem_append]; rintro (z | z); exact n1 z; exact n2 z⟩
end
/-- repr of such data -/
def rRepr (B : Addr → Prop) : List V → Hp → VK → Prop := fun xs H Q => ∃ v d, xs = [v] ∧ Da B H v d ∧ d.showable = true ∧ d.shown.length ≤ sizeLine ∧ d.depth ≤ 190 ∧ Q (.str d.shown) H
end
end Dt
set_option Elab.async false
set_option linter.all false
set_option maxRecDepth 100000
set_option maxHeartbeats 4000000
/-! Dg: the readings' words for data. -/
namespace Dt
open PySem PySem.Spec PyProof.Rows L2
/-- d.get(text, x), d a dict of the written part -/
def tKGet2 (K : PySem.W.Frag) (w : World) (td ty tx : TE) : TE := fun σ H Q => td σ H fun x H1 => ∃ a es n, x = .ref a ∧ KDict K w a es n ∧ ty σ H1 fun y H2 => tx σ H2 fun d H3 => ∃ z v, y = .str z ∧ (∀ u0, RelV d u0 → RelV v ((findBy Value.isStrOf es z).getD u0)) ∧ Q v H3
/-- a text times an int -/
def mulT (z : Str) (n : Int) : Str := ⟨(List.replicate n.toNat z.cps).foldl (· ++ ·) #[]⟩
def rMulS : R2 := fun x y H Q => ∃ z n, x = .str z ∧ y = .int n ∧ 2 ≤ n ∧ n ≤ 1000 ∧ (n == 1 || z.length == 0) = false ∧ z.length ≤ 1000 ∧ Builtin.Str.tooLong (z.length * n.toNat) = false ∧ (mulT z n).length ≤ sizeLine ∧ Q (.str (mulT z n)) H
theorem op_mulS {X : Cx} : OpR X (binaryOp .Mult) rMulS := by
  intro pins s σ H x y v u Q I rx ry h
  obtain ⟨z, n, rfl, rfl, h1, h2, h3, h4, h5, h6, q⟩ := h
  obtain ⟨t, rfl⟩ := rx
  obtain ⟨t', rfl⟩ := ry
  refine P.mul_str (by rw [decide_eq_false (by omega), decide_eq_false (by omega)]; rfl) (fun _ _ => ?_) (fun _ _ => h5) ?_
  · have h7 : (1000 : Int) ≤ (2 ^ 63 - 1) / n := by
      rw [Int.le_ediv_iff_mul_le (by omega)]
      omega
    omega
  · rw [if_neg (by omega), if_neg (by rw [h3]; exact Bool.false_ne_true)]
    exact ⟨h6, ⟨.str (mulT z n), H, I.tok _, ⟨_, rfl⟩, q⟩⟩
/-- B stands -/
def Tr (B : Addr → Prop) (H : Hp) : Prop := ∀ a, H a = none → ¬ B a
theorem Tr.same {B : Addr → Prop} {H H' : Hp} (t : Tr B H) (s : Same H H') : Tr B H' := fun a h => t a (s.free h)
theorem Tr.none {H : Hp} : Tr (fun _ => False) H := fun _ _ z => z
theorem Da.same {B : Addr → Prop} {H H' : Hp} {v : V} {d : PyData} (h : Da B H v d) (s : Same H H') : Da B H' v d := h.keep (.of s)
theorem DaL.same {B : Addr → Prop} {H H' : Hp} {v : List V} {d : List PyData} (h : DaL B H v d) (s : Same H H') : DaL B H' v d := h.keep (.of s)
mutual
theorem Da.imp {B B' : Addr → Prop} {H : Hp} (h : ∀ a o, H a = some o → ¬ B a → ¬ B' a) : ∀ {v : V} {d : PyData}, Da B H v d → Da B' H v d
  | _, _, .non => .non
  | _, _, .bl b => .bl b
  | _, _, .int i => .int i
  | _, _, .str x => .str x
  | _, _, .lst e n l => .lst e (h _ _ e n) (l.imp h)
  | _, _, .tup e n l => .tup e (h _ _ e n) (l.imp h)
  | _, _, .dc0 e n => .dc0 e (h _ _ e n)
  | _, _, .dc1 e n l => .dc1 e (h _ _ e n) (l.imp h)
theorem DaL.imp {B B' : Addr → Prop} {H : Hp} (h : ∀ a o, H a = some o → ¬ B a → ¬ B' a) : ∀ {vs : List V} {ds : List PyData}, DaL B H vs ds → DaL B' H vs ds
  | _, _, .nil => .nil
  | _, _, .cons a t => .cons (a.imp h) (t.imp h)
end
section
variable {σ : L2.St} {H : Hp} {Q : VK} {K : PySem.W.Frag} {B : Addr → Prop}
theorem cutV_whole {α : Type} {xs : List α} {lo hi : Option Int} (h : HT.sIx xs.length 0 lo = 0 ∧ HT.sIx xs.length xs.length hi = xs.length) : (xs.drop (HT.sIx xs.length 0 lo)).take (HT.sIx xs.length xs.length hi - HT.sIx xs.length 0 lo) = xs := by
  rw [h.1, h.2]
  simp
/-- a slice of a tuple -/
theorem sl {v : V} {ds : List PyData} {lo hi : Option Int} (h : Da B H v (.tuple ds)) (t : Tr B H) (k : ∀ (u : V) (H' : Hp), Same H H' → Da B H' u (.tuple (cutD ds lo hi)) → Q u H') : rSlA K v lo hi H Q := by
  cases h with
  | @tup a xs _ e n hl =>
    refine ⟨a, xs, rfl, .of e, fun hw => k _ _ (Same.refl _) ?_, fun hw p hp => k _ _ (Rd.same_new hp) ?_⟩
    · have hw' : HT.sIx ds.length 0 lo = 0 ∧ HT.sIx ds.length ds.length hi = ds.length := by rw [hl.len] at hw; exact hw
      unfold cutD
      rw [cutV_whole hw']
      exact .tup e n hl
    · exact .tup upd_same (t _ hp) ((hl.cut lo hi).same (Rd.same_new hp))
end
end Dt
set_option Elab.async false
set_option linter.all false
set_option maxRecDepth 100000
set_option maxHeartbeats 4000000
/-! Dw: readings over data. D: a value with all that hangs on it, no heap; what changes is kept apart (Wd). -/
namespace Dw
open PySem PySem.Spec PyProof.Rows L2
inductive D where
  | non | bl (b : Bool) | int (i : Int) | str (x : Str)
  | lst (ds : List D) | tup (ds : List D)
  | dic (kvs : List (Key × D)) | dit (kvs : List (List Key × D))
  | obj (C : Addr) (fs : List (Str × D))
  | opq (a : Addr) | ty (n : String)
  deriving Inhabited
mutual
inductive Da (B : Addr → Prop) (H : Hp) : V → D → Prop
  | non : Da B H .non .non
  | bl (b : Bool) : Da B H (.bl b) (.bl b)
  | int (i : Int) : Da B H (.int i) (.int i)
  | str {x : Str} (h : x.length ≤ sizeLine) : Da B H (.str x) (.str x)
  | lst {a : Addr} {xs : List V} {ds : List D} : H a = some (.lst xs) → ¬ B a → DaL B H xs ds → ds.length ≤ sizeLine → Da B H (.ref a) (.lst ds)
  | tup {a : Addr} {xs : List V} {ds : List D} : H a = some (.tup xs) → ¬ B a → DaL B H xs ds → ds.length ≤ sizeLine → Da B H (.ref a) (.tup ds)
  | dic {a : Addr} {xs : List (Key × V)} {ds : List (Key × D)} : H a = some (.dK xs) → ¬ B a → DaK B H xs ds → Da B H (.ref a) (.dic ds)
  | dit {a : Addr} {xs : List (List Key × V)} {ds : List (List Key × D)} : H a = some (.dT xs) → ¬ B a → DaT B H xs ds → Da B H (.ref a) (.dit ds)
  | obj {a C dx : Addr} {xs : List (Str × V)} {ds : List (Str × D)} : H a = some (.ins C dx xs) → ¬ B a → DaF B H xs ds → Da B H (.ref a) (.obj C ds)
  | opq (a : Addr) : Da B H (.ref a) (.opq a)
  | ty (n : String) : Da B H (.ty n) (.ty n)
inductive DaL (B : Addr → Prop) (H : Hp) : List V → List D → Prop
  | nil : DaL B H [] []
  | cons {v : V} {vs : List V} {d : D} {ds : List D} : Da B H v d → DaL B H vs ds → DaL B H (v :: vs) (d :: ds)
inductive DaK (B : Addr → Prop) (H : Hp) : List (Key × V) → List (Key × D) → Prop
  | nil : DaK B H [] []
  | cons {k : Key} {v : V} {vs : List (Key × V)} {d : D} {ds : List (Key × D)} : Da B H v d → DaK B H vs ds → DaK B H ((k, v) :: vs) ((k, d) :: ds)
inductive DaT (B : Addr → Prop) (H : Hp) : List (List Key × V) → List (List Key × D) → Prop
  | nil : DaT B H [] []
  | cons {k : List Key} {v : V} {vs : List (List Key × V)} {d : D} {ds : List (List Key × D)} : Da B H v d → DaT B H vs ds → DaT B H ((k, v) :: vs) ((k, d) :: ds)
inductive DaF (B : Addr → Prop) (H : Hp) : List (Str × V) → List (Str × D) → Prop
  | nil : DaF B H [] []
  | cons {k : Str} {v : V} {vs : List (Str × V)} {d : D} {ds : List (Str × D)} : Da B H v d → DaF B H vs ds → DaF B H ((k, v) :: vs) ((k, d) :: ds)
end
/-- from B and H to B' and H': what data stand on stands -/
def Mv (B : Addr → Prop) (H : Hp) (B' : Addr → Prop) (H' : Hp) : Prop := ∀ a o, H a = some o → ¬ B a → H' a = some o ∧ ¬ B' a
theorem Mv.refl {B : Addr → Prop} {H : Hp} : Mv B H B H := fun _ _ h n => ⟨h, n⟩
theorem Mv.trans {B B' B'' : Addr → Prop} {H H' H'' : Hp} (m : Mv B H B' H') (n : Mv B' H' B'' H'') : Mv B H B'' H'' := fun a o h b => n a o (m a o h b).1 (m a o h b).2
mutual
theorem Da.mv {B B' : Addr → Prop} {H H' : Hp} (s : Mv B H B' H') : ∀ {v : V} {d : D}, Da B H v d → Da B' H' v d
  | _, _, .non => .non
  | _, _, .bl b => .bl b
  | _, _, .int i => .int i
  | _, _, .str h => .str h
  | _, _, .lst e n h z => .lst (s _ _ e n).1 (s _ _ e n).2 (h.mv s) z
  | _, _, .tup e n h z => .tup (s _ _ e n).1 (s _ _ e n).2 (h.mv s) z
  | _, _, .dic e n h => .dic (s _ _ e n).1 (s _ _ e n).2 (h.mv s)
  | _, _, .dit e n h => .dit (s _ _ e n).1 (s _ _ e n).2 (h.mv s)
  | _, _, .obj e n h => .obj (s _ _ e n).1 (s _ _ e n).2 (h.mv s)
  | _, _, .opq a => .opq a
  | _, _, .ty n => .ty n
theorem DaL.mv {B B' : Addr → Prop} {H H' : Hp} (s : Mv B H B' H') : ∀ {vs : List V} {ds : List D}, DaL B H vs ds → DaL B' H' vs ds
  | _, _, .nil => .nil
  | _, _, .cons h t => .cons (h.mv s) (t.mv s)
theorem DaK.mv {B B' : Addr → Prop} {H H' : Hp} (s : Mv B H B' H') : ∀ {vs : List (Key × V)} {ds : List (Key × D)}, DaK B H vs ds → DaK B' H' vs ds
  | _, _, .nil => .nil
  | _, _, .cons h t => .cons (h.mv s) (t.mv s)
theorem DaT.mv {B B' : Addr → Prop} {H H' : Hp} (s : Mv B H B' H') : ∀ {vs : List (List Key × V)} {ds : List (List Key × D)}, DaT B H vs ds → DaT B' H' vs ds
  | _, _, .nil => .nil
  | _, _, .cons h t => .cons (h.mv s) (t.mv s)
theorem DaF.mv {B B' : Addr → Prop} {H H' : Hp} (s : Mv B H B' H') : ∀ {vs : List (Str × V)} {ds : List (Str × D)}, DaF B H vs ds → DaF B' H' vs ds
  | _, _, .nil => .nil
  | _, _, .cons h t => .cons (h.mv s) (t.mv s)
end
section
variable {B : Addr → Prop} {H : Hp}
theorem DaL.len : ∀ {vs : List V} {ds : List D}, DaL B H vs ds → vs.length = ds.length
  | _, _, .nil => rfl
  | _, _, .cons _ t => by rw [List.length_cons, List.length_cons, t.len]
theorem DaL.get : ∀ {vs : List V} {ds : List D} {i : Nat} {v : V}, DaL B H vs ds → vs[i]? = some v → ∃ d, ds[i]? = some d ∧ Da B H v d
  | _, _, 0, _, .cons h _, e => by
    cases e
    exact ⟨_, rfl, h⟩
  | _, _, i + 1, w, .cons _ t, e => t.get (i := i) (v := w) (by simpa using e)
  | _, _, _, _, .nil, e => by cases e
theorem DaL.get' : ∀ {vs : List V} {ds : List D} {i : Nat} {d : D}, DaL B H vs ds → ds[i]? = some d → ∃ v, vs[i]? = some v ∧ Da B H v d
  | _, _, 0, _, .cons h _, e => by
    cases e
    exact ⟨_, rfl, h⟩
  | _, _, i + 1, w, .cons _ t, e => t.get' (i := i) (d := w) (by simpa using e)
  | _, _, _, _, .nil, e => by cases e
theorem DaL.app : ∀ {vs us : List V} {ds es : List D}, DaL B H vs ds → DaL B H us es → DaL B H (vs ++ us) (ds ++ es)
  | _, _, _, _, .nil, h => h
  | _, _, _, _, .cons a t, h => .cons a (t.app h)
theorem DaL.drop : ∀ {vs : List V} {ds : List D} (n : Nat), DaL B H vs ds → DaL B H (vs.drop n) (ds.drop n)
  | _, _, 0, h => h
  | _, _, n + 1, .nil => .nil
  | _, _, n + 1, .cons _ t => t.drop n
theorem DaL.take : ∀ {vs : List V} {ds : List D} (n : Nat), DaL B H vs ds → DaL B H (vs.take n) (ds.take n)
  | _, _, 0, _ => .nil
  | _, _, n + 1, .nil => .nil
  | _, _, n + 1, .cons a t => .cons a (t.take n)
theorem DaL.setAt : ∀ {vs : List V} {ds : List D} (i : Nat) {v : V} {d : D}, DaL B H vs ds → Da B H v d → DaL B H (vs.set i v) (ds.set i d)
  | _, _, _, _, _, .nil, _ => .nil
  | _, _, 0, _, _, .cons _ t, h => .cons h t
  | _, _, i + 1, _, _, .cons a t, h => .cons a (t.setAt i h)
theorem DaL.erase : ∀ {vs : List V} {ds : List D} (i : Nat), DaL B H vs ds → DaL B H (vs.eraseIdx i) (ds.eraseIdx i)
  | _, _, _, .nil => .nil
  | _, _, 0, .cons _ t => t
  | _, _, i + 1, .cons a t => .cons a (t.erase i)
theorem DaL.mem {vs : List V} {ds : List D} {v : V} (h : DaL B H vs ds) (hv : v ∈ vs) : ∃ d, d ∈ ds ∧ Da B H v d := by
  obtain ⟨i, hi, e⟩ := List.mem_iff_getElem.mp hv
  obtain ⟨d, e1, e2⟩ := h.get (i := i) (v := v) (by rw [List.getElem?_eq_getElem hi, e])
  exact ⟨d, List.mem_of_getElem? e1, e2⟩
theorem DaF.look : ∀ {vs : List (Str × V)} {ds : List (Str × D)} {f : Str} {d : D}, DaF B H vs ds → ds.lookup f = some d → ∃ v, vs.lookup f = some v ∧ Da B H v d
  | _, _, f, d, .nil, e => by cases e
  | _, _, f, d, .cons (k := k) h t, e => by
    by_cases q : (f == k) = true
    · rw [List.lookup_cons, q] at e
      cases e
      exact ⟨_, by rw [List.lookup_cons, q], h⟩
    · have q' : (f == k) = false := by simpa using q
      rw [List.lookup_cons, q'] at e
      obtain ⟨v, e1, h1⟩ := t.look e
      exact ⟨v, by rw [List.lookup_cons, q']; exact e1, h1⟩
theorem DaF.len : ∀ {vs : List (Str × V)} {ds : List (Str × D)}, DaF B H vs ds → vs.length = ds.length
  | _, _, .nil => rfl
  | _, _, .cons _ t => by rw [List.length_cons, List.length_cons, t.len]
end
/-! the sizes that all data have -/
mutual
def D.ok : D → Prop
  | .str x => x.length ≤ sizeLine
  | .lst ds => ds.length ≤ sizeLine ∧ D.oks ds
  | .tup ds => ds.length ≤ sizeLine ∧ D.oks ds
  | _ => True
def D.oks : List D → Prop
  | [] => True
  | d :: r => d.ok ∧ D.oks r
end
mutual
theorem Da.ok {B : Addr → Prop} {H : Hp} : ∀ {d : D} {v : V}, Da B H v d → d.ok
  | .non, _, _ => by unfold D.ok; exact True.intro
  | .bl _, _, _ => by unfold D.ok; exact True.intro
  | .int _, _, _ => by unfold D.ok; exact True.intro
  | .str _, _, h => by
    cases h with
    | str h => unfold D.ok; exact h
  | .lst ds, _, h => by
    cases h with
    | lst e n l z => unfold D.ok; exact ⟨z, DaL.oks l⟩
  | .tup ds, _, h => by
    cases h with
    | tup e n l z => unfold D.ok; exact ⟨z, DaL.oks l⟩
  | .dic _, _, _ => by unfold D.ok; exact True.intro
  | .dit _, _, _ => by unfold D.ok; exact True.intro
  | .obj _ _, _, _ => by unfold D.ok; exact True.intro
  | .opq _, _, _ => by unfold D.ok; exact True.intro
  | .ty _, _, _ => by unfold D.ok; exact True.intro
theorem DaL.oks {B : Addr → Prop} {H : Hp} : ∀ {ds : List D} {vs : List V}, DaL B H vs ds → D.oks ds
  | [], _, _ => by unfold D.oks; exact True.intro
  | d :: r, _, h => by
    cases h with
    | cons a t => unfold D.oks; exact ⟨Da.ok a, DaL.oks t⟩
end
theorem D.oks_mem : ∀ {ds : List D} {d : D}, D.oks ds → d ∈ ds → d.ok
  | _ :: _, _, h, .head _ => by
    unfold D.oks at h
    exact h.1
  | _ :: _, _, h, .tail _ m => by
    unfold D.oks at h
    exact D.oks_mem h.2 m
/-- what changes: C the places, J what holds of them, by the state -/
structure Wd (S : Type) where
  C : S → Addr → Prop
  J : S → Hp → Prop
  tr : ∀ s H a, J s H → C s a → H a ≠ none
  st : ∀ s H H', J s H → (∀ a, C s a → H' a = H a) → (∀ a xs, H a = some (.tup xs) → H' a = some (.tup xs)) → J s H'
  ct : ∀ s H a xs, J s H → C s a → H a ≠ some (.tup xs)
section
variable {S : Type} (W : Wd S)
structure Fr (s : S) (H : Hp) (s' : S) (H' : Hp) : Prop where
  kp : ∀ b o, H b = some o → ¬ W.C s b → H' b = some o
  grow : ∀ a, W.C s a → W.C s' a
  new : ∀ a, W.C s' a → W.C s a ∨ H a = none
structure At (R : Addr → Prop) (s : S) (H : Hp) : Prop where
  j : W.J s H
  r : ∀ a, R a → H a ≠ none ∧ ¬ W.C s a
  t : ∀ a xs, R a → H a ≠ some (.tup xs)
def Bf (R : Addr → Prop) (s : S) : Addr → Prop := fun a => R a ∨ W.C s a
end
section
variable {S : Type} {W : Wd S} {R : Addr → Prop} {s s' s'' : S} {H H' H'' : Hp}
theorem Fr.refl : Fr W s H s H := ⟨fun _ _ h _ => h, fun _ h => h, fun _ h => .inl h⟩
theorem Fr.trans (f : Fr W s H s' H') (g : Fr W s' H' s'' H'') : Fr W s H s'' H'' where
  kp b o h n := by
    have h' := f.kp b o h n
    refine g.kp b o h' fun c => ?_
    rcases f.new b c with q | q
    · exact n q
    · rw [q] at h; cases h
  grow a c := g.grow a (f.grow a c)
  new a c := by
    rcases g.new a c with q | q
    · exact f.new a q
    · cases h : H a with
      | none => exact .inr rfl
      | some o =>
        by_cases n : W.C s a
        · exact .inl n
        · rw [f.kp a o h n] at q; cases q
theorem Fr.mv (f : Fr W s H s' H') : Mv (Bf W R s) H (Bf W R s') H' := fun a o h n => ⟨f.kp a o h fun c => n (.inr c), fun c => by
  rcases c with c | c
  · exact n (.inl c)
  · rcases f.new a c with q | q
    · exact n (.inr q)
    · rw [q] at h; cases h⟩
theorem At.fr (t : At W R s H) (f : Fr W s H s' H') (j : W.J s' H') : At W R s' H' where
  j := j
  r a r := by
    obtain ⟨h, n⟩ := t.r a r
    cases e : H a with
    | none => exact absurd e h
    | some o =>
      refine ⟨by rw [f.kp a o e n]; simp, fun c => ?_⟩
      rcases f.new a c with q | q
      · exact n q
      · rw [q] at e; cases e
  t a xs r z := by
    obtain ⟨h, n⟩ := t.r a r
    cases e : H a with
    | none => exact absurd e h
    | some o =>
      rw [f.kp a o e n] at z
      cases z
      exact t.t a xs r e
theorem At.fresh (t : At W R s H) {p : Addr} (h : H p = none) : ¬ Bf W R s p := fun z => by
  rcases z with z | z
  · exact (t.r p z).1 h
  · exact W.tr s H p t.j z h
/-- a tuple is none of the things that change -/
theorem At.tup (t : At W R s H) {a : Addr} {xs : List V} (e : H a = some (.tup xs)) : ¬ Bf W R s a := fun z => z.elim (fun r => t.t a xs r e) fun c => W.ct s H a xs t.j c e
theorem Fr.new_at {p : Addr} {o : HO} (h : H p = none) (t : At W R s H) : Fr W s H s (upd H p o) := ⟨fun b u e _ => by rw [upd_ne (ne_of_none e h)]; exact e, fun _ c => c, fun _ c => .inl c⟩
theorem At.new_at {p : Addr} {o : HO} (h : H p = none) (t : At W R s H) : At W R s (upd H p o) := by
  refine t.fr (Fr.new_at h t) (W.st s H _ t.j (fun a c => ?_) fun a xs e => ?_)
  · rw [upd_ne fun z => W.tr s H a t.j c (by rw [z]; exact h)]
  · rw [upd_ne (ne_of_none e h)]
    exact e
theorem At.imp {R' : Addr → Prop} (t : At W R s H) (h : ∀ a, R' a → R a) : At W R' s H := ⟨t.j, fun a r => t.r a (h a r), fun a xs r => t.t a xs (h a r)⟩
theorem Da.imp {B B' : Addr → Prop} {v : V} {d : D} (h : Da B H v d) (q : ∀ a, B' a → B a) : Da B' H v d := h.mv fun a o e n => ⟨e, fun b => n (q a b)⟩
theorem DaL.imp {B B' : Addr → Prop} {v : List V} {d : List D} (h : DaL B H v d) (q : ∀ a, B' a → B a) : DaL B' H v d := h.mv fun a o e n => ⟨e, fun b => n (q a b)⟩
end
end Dw
set_option Elab.async false
set_option linter.all false
set_option maxRecDepth 100000
set_option maxHeartbeats 4000000
/-! Ds: what a reading says over data: SimE, SimT, SimA, SimS .. -/
namespace Dw
open PySem PySem.Spec PyProof.Rows L2
/-- a slot: data; a list, a dict of the def's own that may still change; the instance that is being made -/
inductive Sl where
  | no | dat (d : D) | own (ds : List D) | ownk (ds : List (Key × D)) | ownt (ds : List (List Key × D))
  deriving Inhabited
@[simp] def sg : List Sl → Nat → Sl
  | [], _ => .no
  | a :: _, 0 => a
  | _ :: r, i + 1 => sg r i
@[simp] def ss : List Sl → Nat → Sl → List Sl
  | [], _, _ => []
  | _ :: r, 0, x => x :: r
  | a :: r, i + 1, x => a :: ss r i x
def Sl.isO : Sl → Bool
  | .own _ => true
  | .ownk _ => true
  | .ownt _ => true
  | _ => false
theorem ss_len : ∀ (e : List Sl) (i : Nat) (x : Sl), (ss e i x).length = e.length
  | [], _, _ => rfl
  | _ :: r, 0, _ => rfl
  | a :: r, i + 1, x => congrArg (· + 1) (ss_len r i x)
theorem sg_ss_ne : ∀ (e : List Sl) (i j : Nat) (x : Sl), i ≠ j → sg (ss e i x) j = sg e j
  | [], _, _, _, _ => rfl
  | _ :: r, 0, 0, _, h => absurd rfl h
  | _ :: r, 0, j + 1, _, _ => rfl
  | a :: r, i + 1, 0, _, _ => rfl
  | a :: r, i + 1, j + 1, x, h => sg_ss_ne r i j x fun z => h (by rw [z])
theorem sg_ss : ∀ (e : List Sl) (i : Nat) (x : Sl), i < e.length → sg (ss e i x) i = x
  | [], _, _, h => absurd h (Nat.not_lt_zero _)
  | _ :: r, 0, _, _ => rfl
  | a :: r, i + 1, x, h => sg_ss r i x (Nat.lt_of_succ_lt_succ h)
theorem ss_out : ∀ (e : List Sl) (i : Nat) (x : Sl), e.length ≤ i → ss e i x = e
  | [], _, _, _ => rfl
  | _ :: r, 0, _, h => absurd h (by simp)
  | a :: r, i + 1, x, h => congrArg (a :: ·) (ss_out r i x (Nat.le_of_succ_le_succ h))
theorem sg_out : ∀ (e : List Sl) (i : Nat), e.length ≤ i → sg e i = .no
  | [], _, _ => rfl
  | _ :: r, 0, h => absurd h (by simp)
  | a :: r, i + 1, h => sg_out r i (Nat.le_of_succ_le_succ h)
/-- an exception: its class, its fields -/
structure Xc where
  C : Addr
  fs : List (Str × D)
def XcR (B : Addr → Prop) (H : Hp) (c : Xc) (cls : Value) (d : Option Addr) : Prop :=
  cls = .ref c.C ∧ ((c.fs = [] ∧ d = none) ∨ ∃ a xs, d = some a ∧ H a = some (.xd xs) ∧ ¬ B a ∧ DaF B H xs c.fs)
/-- how a def was entered -/
structure Gm (S : Type) where
  H0 : Hp
  s0 : S
  R0 : Addr → Prop
  E : XK
abbrev WE (S : Type) := List Sl → S → (D → S → Prop) → (Xc → S → Prop) → Prop
abbrev WT (S : Type) := List Sl → S → (Bool → S → Prop) → (Xc → S → Prop) → Prop
abbrev WA (S : Type) := List Sl → S → (List D → S → Prop) → (Xc → S → Prop) → Prop
structure WEnds (S : Type) where
  nx : List Sl → S → Prop
  rt : D → S → Prop
  bk : List Sl → S → Prop
  ct : List Sl → S → Prop
  xc : Xc → S → Prop
abbrev WS (S : Type) := WEnds S → List Sl → S → Prop
section
variable {S : Type} (W : Wd S) (G : Gm S)
/-- what a slot that may still change holds -/
inductive OwnR (R : Addr → Prop) (s : S) (H : Hp) (p : Addr) : Sl → Prop
  | lst {xs : List V} {ds : List D} : H p = some (.lst xs) → DaL (Bf W R s) H xs ds → ds.length ≤ sizeLine → OwnR R s H p (.own ds)
  | dic {xs : List (Key × V)} {ds : List (Key × D)} : H p = some (.dK xs) → DaK (Bf W R s) H xs ds → OwnR R s H p (.ownk ds)
  | dit {xs : List (List Key × V)} {ds : List (List Key × D)} : H p = some (.dT xs) → DaT (Bf W R s) H xs ds → OwnR R s H p (.ownt ds)
structure EnvR (R : Addr → Prop) (s : S) (H : Hp) (σ : L2.St) (env : List Sl) : Prop where
  len : σ.length = env.length
  dat : ∀ i d, sg env i = .dat d → ∃ v, σ[i]? = some (some v) ∧ Da (Bf W R s) H v d
  own : ∀ i, (sg env i).isO = true → ∃ p, σ[i]? = some (some (.ref p)) ∧ R p ∧ G.H0 p = none ∧ OwnR W R s H p (sg env i)
  uniq : ∀ i j p, (sg env i).isO = true → (sg env j).isO = true → σ[i]? = some (some (.ref p)) → σ[j]? = some (some (.ref p)) → i = j
structure Rel (R : Addr → Prop) (env : List Sl) (σ : L2.St) (H : Hp) (s : S) : Prop where
  at_ : At W R s H
  fr : Fr W G.s0 G.H0 s H
  r0 : ∀ a, G.R0 a → R a
  z0 : At W G.R0 G.s0 G.H0
  env : EnvR W G R s H σ env
def XOk (x : Xc → S → Prop) : Prop := ∀ c s' cls d H', x c s' → Fr W G.s0 G.H0 s' H' → W.J s' H' → XcR (Bf W G.R0 s') H' c cls d → G.E cls d H'
/-- shallow: the outermost thing may be the def's own -/
inductive Ag (R : Addr → Prop) (s : S) (H : Hp) : V → D → Prop
  | da {v : V} {d : D} : Da (Bf W R s) H v d → Ag R s H v d
  | lst {a : Addr} {xs : List V} {ds : List D} : H a = some (.lst xs) → ¬ W.C s a → DaL (Bf W R s) H xs ds → ds.length ≤ sizeLine → Ag R s H (.ref a) (.lst ds)
  | dic {a : Addr} {xs : List (Key × V)} {ds : List (Key × D)} : H a = some (.dK xs) → ¬ W.C s a → DaK (Bf W R s) H xs ds → Ag R s H (.ref a) (.dic ds)
  | dit {a : Addr} {xs : List (List Key × V)} {ds : List (List Key × D)} : H a = some (.dT xs) → ¬ W.C s a → DaT (Bf W R s) H xs ds → Ag R s H (.ref a) (.dit ds)
inductive AgL (R : Addr → Prop) (s : S) (H : Hp) : List V → List D → Prop
  | nil : AgL R s H [] []
  | cons {v : V} {vs : List V} {d : D} {ds : List D} : Ag W R s H v d → AgL R s H vs ds → AgL R s H (v :: vs) (d :: ds)
def SimE (t : TE) (w : WE S) : Prop := ∀ R env σ H s, Rel W G R env σ H s → ∀ k x, w env s k x → XOk W G x → ∀ Q : VK,
  (∀ d s' v H', k d s' → Fr W s H s' H' → W.J s' H' → Da (Bf W R s') H' v d → Q v H') → t σ H Q
def SimG (t : TE) (w : WE S) : Prop := ∀ R env σ H s, Rel W G R env σ H s → ∀ k x, w env s k x → XOk W G x → ∀ Q : VK,
  (∀ d s' v H', k d s' → Fr W s H s' H' → W.J s' H' → Ag W R s' H' v d → Q v H') → t σ H Q
/-- a new list -/
def SimF (t : TE) (w : List Sl → S → (List D → S → Prop) → (Xc → S → Prop) → Prop) : Prop := ∀ R env σ H s, Rel W G R env σ H s → ∀ k x, w env s k x → XOk W G x → ∀ Q : VK,
  (∀ ds s' p xs H', k ds s' → Fr W s H s' H' → W.J s' H' → H p = none → H' p = some (.lst xs) → ¬ Bf W R s' p → DaL (Bf W (fun a => R a ∨ a = p) s') H' xs ds → ds.length ≤ sizeLine → Q (.ref p) H') → t σ H Q
def SimT (t : TT) (w : WT S) : Prop := ∀ R env σ H s, Rel W G R env σ H s → ∀ k x, w env s k x → XOk W G x → ∀ Q : Bool → Hp → Prop,
  (∀ b s' H', k b s' → Fr W s H s' H' → W.J s' H' → Q b H') → t σ H Q
def SimA (t : TA) (w : WA S) : Prop := ∀ R env σ H s, Rel W G R env σ H s → ∀ k x, w env s k x → XOk W G x → ∀ Q : List V → Hp → Prop,
  (∀ ds s' vs H', k ds s' → Fr W s H s' H' → W.J s' H' → DaL (Bf W R s') H' vs ds → Q vs H') → t σ H Q
def SimB (t : TA) (w : WA S) : Prop := ∀ R env σ H s, Rel W G R env σ H s → ∀ k x, w env s k x → XOk W G x → ∀ Q : List V → Hp → Prop,
  (∀ ds s' vs H', k ds s' → Fr W s H s' H' → W.J s' H' → AgL W R s' H' vs ds → Q vs H') → t σ H Q
/-- where a statement may end -/
structure EndsR (R : Addr → Prop) (s : S) (H : Hp) (K : WEnds S) (Dn : Ends) : Prop where
  nx : ∀ R' env' σ' H' s', K.nx env' s' → Rel W G R' env' σ' H' s' → Mv (Bf W R s) H (Bf W R' s') H' → Dn.nx σ' H'
  rt : ∀ d s' v H', K.rt d s' → Fr W G.s0 G.H0 s' H' → W.J s' H' → Da (Bf W G.R0 s') H' v d → Dn.rt v H'
  bk : ∀ R' env' σ' H' s', K.bk env' s' → Rel W G R' env' σ' H' s' → Mv (Bf W R s) H (Bf W R' s') H' → Dn.bk σ' H'
  ct : ∀ R' env' σ' H' s', K.ct env' s' → Rel W G R' env' σ' H' s' → Mv (Bf W R s) H (Bf W R' s') H' → Dn.ct σ' H'
  xc : XOk W G K.xc
def SimS (t : TS) (w : WS S) : Prop := ∀ R env σ H s, Rel W G R env σ H s → ∀ K, w K env s → ∀ Dn : Ends, EndsR W G R s H K Dn → t Dn σ H
/-- a binary operator by values -/
def SimO (r : R2) (w : D → D → S → (D → S → Prop) → Prop) : Prop := ∀ R s H, At W R s H → ∀ x y d e, Ag W R s H x d → Ag W R s H y e → ∀ k, w d e s k → ∀ Q : VK,
  (∀ d' v H', k d' s → Fr W s H s H' → W.J s H' → Da (Bf W R s) H' v d' → Q v H') → r x y H Q
def SimU (r : V → Hp → VK → Prop) (w : D → S → (D → S → Prop) → Prop) : Prop := ∀ R s H, At W R s H → ∀ x d, Ag W R s H x d → ∀ k, w d s k → ∀ Q : VK,
  (∀ d' v H', k d' s → Fr W s H s H' → W.J s H' → Da (Bf W R s) H' v d' → Q v H') → r x H Q
/-- a built-in called -/
def SimC (r : List V → Hp → VK → Prop) (w : List D → S → (D → S → Prop) → Prop) : Prop := ∀ R s H, At W R s H → ∀ xs ds, AgL W R s H xs ds → ∀ k, w ds s k → ∀ Q : VK,
  (∀ d' v H', k d' s → Fr W s H s H' → W.J s H' → Da (Bf W R s) H' v d' → Q v H') → r xs H Q
end
section
variable {S : Type} {W : Wd S} {G : Gm S} {R R' : Addr → Prop} {env : List Sl} {σ : L2.St} {H H' : Hp} {s s' : S}
theorem OwnR.fr {p : Addr} {a : Sl} (o : OwnR W R s H p a) (hc : ¬ W.C s p) (f : Fr W s H s' H') : OwnR W R s' H' p a := by
  cases o with
  | lst e l z => exact .lst (f.kp _ _ e hc) (l.mv f.mv) z
  | dic e l => exact .dic (f.kp _ _ e hc) (l.mv f.mv)
  | dit e l => exact .dit (f.kp _ _ e hc) (l.mv f.mv)
theorem OwnR.mv {p : Addr} {a : Sl} (o : OwnR W R s H p a) (m : Mv (Bf W R s) H (Bf W R' s') H') (e : ∀ u, H p = some u → H' p = some u) : OwnR W R' s' H' p a := by
  cases o with
  | lst q l z => exact .lst (e _ q) (l.mv m) z
  | dic q l => exact .dic (e _ q) (l.mv m)
  | dit q l => exact .dit (e _ q) (l.mv m)
theorem Rel.step (r : Rel W G R env σ H s) (f : Fr W s H s' H') (j : W.J s' H') : Rel W G R env σ H' s' where
  at_ := r.at_.fr f j
  fr := r.fr.trans f
  r0 := r.r0
  z0 := r.z0
  env := ⟨r.env.len, fun i d e => by obtain ⟨v, h1, h2⟩ := r.env.dat i d e; exact ⟨v, h1, h2.mv f.mv⟩,
    fun i e => by obtain ⟨p, h1, h2, h3, h4⟩ := r.env.own i e; exact ⟨p, h1, h2, h3, h4.fr (r.at_.r p h2).2 f⟩, r.env.uniq⟩
theorem EndsR.step {K : WEnds S} {Dn : Ends} (e : EndsR W G R s H K Dn) (m : Mv (Bf W R s) H (Bf W R' s') H') : EndsR W G R' s' H' K Dn where
  nx R2 env2 σ2 H2 s2 k r m2 := e.nx R2 env2 σ2 H2 s2 k r (m.trans m2)
  rt := e.rt
  bk R2 env2 σ2 H2 s2 k r m2 := e.bk R2 env2 σ2 H2 s2 k r (m.trans m2)
  ct R2 env2 σ2 H2 s2 k r m2 := e.ct R2 env2 σ2 H2 s2 k r (m.trans m2)
  xc := e.xc
theorem Ag.fr {v : V} {d : D} (a : Ag W R s H v d) (f : Fr W s H s' H') : Ag W R s' H' v d := by
  have nc : ∀ {a : Addr} {o : HO}, H a = some o → ¬ W.C s a → ¬ W.C s' a := fun {a o} e n c => (f.new a c).elim n fun z => by rw [z] at e; cases e
  cases a with
  | da h => exact .da (h.mv f.mv)
  | lst e n l z => exact .lst (f.kp _ _ e n) (nc e n) (l.mv f.mv) z
  | dic e n l => exact .dic (f.kp _ _ e n) (nc e n) (l.mv f.mv)
  | dit e n l => exact .dit (f.kp _ _ e n) (nc e n) (l.mv f.mv)
theorem AgL.fr {vs : List V} {ds : List D} (a : AgL W R s H vs ds) (f : Fr W s H s' H') : AgL W R s' H' vs ds := by
  induction a with
  | nil => exact .nil
  | cons h _ ih => exact .cons (h.fr f) ih
theorem DaL.ag {vs : List V} {ds : List D} (a : DaL (Bf W R s) H vs ds) : AgL W R s H vs ds := by
  induction vs generalizing ds with
  | nil => cases a; exact .nil
  | cons v vs ih =>
    cases a with
    | cons h t => exact .cons (.da h) (ih t)
theorem SimE.g {t : TE} {w : WE S} (h : SimE W G t w) : SimG W G t w := fun R env σ H s r k x hw ox Q hQ => h R env σ H s r k x hw ox Q fun d s' v H' hk f j a => hQ d s' v H' hk f j (.da a)
/-- a fresh place is new to the def -/
theorem Rel.new0 (r : Rel W G R env σ H s) {p : Addr} (h : H p = none) : G.H0 p = none := by
  cases e : G.H0 p with
  | none => rfl
  | some o =>
    by_cases c : W.C G.s0 p
    · exact absurd h (W.tr s H p r.at_.j (r.fr.grow p c))
    · rw [r.fr.kp p o e c] at h
      cases h
/-- a slot set to data -/
theorem Rel.setD (r : Rel W G R env σ H s) (i : Nat) {v : V} {d : D} (h : Da (Bf W R s) H v d) : Rel W G R (ss env i (.dat d)) (σ.set i (some v)) H s := by
  refine ⟨r.at_, r.fr, r.r0, r.z0, ?_⟩
  by_cases hi : i < env.length
  · have hi' : i < σ.length := by rw [r.env.len]; exact hi
    have sv : (σ.set i (some v))[i]? = some (some v) := by rw [List.getElem?_set_self hi']
    have sn : ∀ j, i ≠ j → (σ.set i (some v))[j]? = σ[j]? := fun j n => List.getElem?_set_ne n
    refine ⟨by rw [List.length_set, ss_len]; exact r.env.len, fun j e he => ?_, fun j he => ?_, fun j l p h1 h2 h3 h4 => ?_⟩
    · by_cases n : i = j
      · subst n
        rw [sg_ss _ _ _ hi] at he
        cases he
        exact ⟨v, sv, h⟩
      · rw [sg_ss_ne _ _ _ _ n] at he
        rw [sn j n]
        exact r.env.dat j e he
    · by_cases n : i = j
      · subst n
        rw [sg_ss _ _ _ hi] at he
        cases he
      · rw [sg_ss_ne _ _ _ _ n] at he ⊢
        rw [sn j n]
        exact r.env.own j he
    · have n1 : i ≠ j := by
        rintro rfl
        rw [sg_ss _ _ _ hi] at h1
        cases h1
      have n2 : i ≠ l := by
        rintro rfl
        rw [sg_ss _ _ _ hi] at h2
        cases h2
      rw [sg_ss_ne _ _ _ _ n1] at h1
      rw [sg_ss_ne _ _ _ _ n2] at h2
      rw [sn j n1] at h3
      rw [sn l n2] at h4
      exact r.env.uniq j l p h1 h2 h3 h4
  · rw [ss_out _ _ _ (Nat.le_of_not_lt hi), List.set_eq_of_length_le (by rw [r.env.len]; exact Nat.le_of_not_lt hi)]
    exact r.env
/-- a slot set to a thing of the def's own, new at p -/
theorem Rel.setO {s0 : S} {Hs : Hp} (r0 : Rel W G R env σ Hs s0) (f : Fr W s0 Hs s H) (j : W.J s H) (i : Nat) {p : Addr} {a : Sl} (hp : Hs p = none) (hn : H p ≠ none) (nb : ¬ Bf W R s p) (h : OwnR W (fun a => R a ∨ a = p) s H p a) (ho : a.isO = true) (hi : i < env.length) :
    Rel W G (fun a => R a ∨ a = p) (ss env i a) (σ.set i (some (.ref p))) H s ∧ Mv (Bf W R s0) Hs (Bf W (fun a => R a ∨ a = p) s) H := by
  have r := r0.step f j
  have m0 : Mv (Bf W R s0) Hs (Bf W (fun a => R a ∨ a = p) s) H := fun b o e n => by
    have z := (f.mv (R := R)) b o e n
    refine ⟨z.1, fun q => ?_⟩
    rcases q with (q | q) | q
    · exact z.2 (.inl q)
    · rw [q, hp] at e; cases e
    · exact z.2 (.inr q)
  refine ⟨⟨⟨j, fun b q => ?_, fun b xs q w => ?_⟩, r.fr, fun b q => .inl (r.r0 b q), r.z0, ?_⟩, m0⟩
  · rcases q with q | q
    · exact r.at_.r b q
    · rw [q]
      exact ⟨hn, fun c => nb (.inr c)⟩
  · rcases q with q | q
    · exact r.at_.t b xs q w
    · rw [q] at w
      cases h with
      | lst e _ _ => rw [e] at w; cases w
      | dic e _ => rw [e] at w; cases w
      | dit e _ => rw [e] at w; cases w
  · have hi' : i < σ.length := by rw [r.env.len]; exact hi
    have sv : (σ.set i (some (.ref p)))[i]? = some (some (.ref p)) := by rw [List.getElem?_set_self hi']
    have sn : ∀ l, i ≠ l → (σ.set i (some (.ref p)))[l]? = σ[l]? := fun l n => List.getElem?_set_ne n
    have neq : ∀ l q, (sg env l).isO = true → σ[l]? = some (some (.ref q)) → q ≠ p := fun l q h1 h2 => by
      rintro rfl
      obtain ⟨q', e1, e2, _, _⟩ := r.env.own l h1
      rw [h2] at e1
      cases e1
      exact nb (.inl e2)
    refine ⟨by rw [List.length_set, ss_len]; exact r.env.len, fun l e he => ?_, fun l he => ?_, fun l m q h1 h2 h3 h4 => ?_⟩
    · by_cases n : i = l
      · subst n
        rw [sg_ss _ _ _ hi] at he
        subst he
        cases ho
      · rw [sg_ss_ne _ _ _ _ n] at he
        rw [sn l n]
        obtain ⟨v, e1, e2⟩ := r0.env.dat l e he
        exact ⟨v, e1, e2.mv m0⟩
    · by_cases n : i = l
      · subst n
        rw [sg_ss _ _ _ hi]
        exact ⟨p, sv, .inr rfl, r0.new0 hp, h⟩
      · rw [sg_ss_ne _ _ _ _ n] at he ⊢
        rw [sn l n]
        obtain ⟨q, e1, e2, e3, e4⟩ := r0.env.own l he
        refine ⟨q, e1, .inl e2, e3, ?_⟩
        have nc := (r0.at_.r q e2).2
        exact e4.mv m0 fun u z => f.kp _ _ z nc
    · by_cases n1 : i = l
      · by_cases n2 : i = m
        · rw [← n1, ← n2]
        · subst n1
          rw [sv] at h3
          cases h3
          rw [sg_ss_ne _ _ _ _ n2] at h2
          rw [sn m n2] at h4
          exact absurd rfl (neq m p h2 h4)
      · by_cases n2 : i = m
        · subst n2
          rw [sv] at h4
          cases h4
          rw [sg_ss_ne _ _ _ _ n1] at h1
          rw [sn l n1] at h3
          exact absurd rfl (neq l p h1 h3)
        · rw [sg_ss_ne _ _ _ _ n1] at h1
          rw [sg_ss_ne _ _ _ _ n2] at h2
          rw [sn l n1] at h3
          rw [sn m n2] at h4
          exact r.env.uniq l m q h1 h2 h3 h4
/-- the def's own thing in slot i changed in its place -/
theorem Rel.chg (r : Rel W G R env σ H s) {i : Nat} {p : Addr} {a : Sl} {o : HO} (e : σ[i]? = some (some (.ref p))) (hO : (sg env i).isO = true) (h : OwnR W R s (upd H p o) p a) (ho : a.isO = true) :
    Rel W G R (ss env i a) σ (upd H p o) s ∧ Mv (Bf W R s) H (Bf W R s) (upd H p o) := by
  obtain ⟨p', e1, e2, e3, e4⟩ := r.env.own i hO
  rw [e] at e1
  cases e1
  have nc := (r.at_.r p e2).2
  have m : Mv (Bf W R s) H (Bf W R s) (upd H p o) := fun b u q n => by
    refine ⟨?_, n⟩
    rw [upd_ne fun z => n (by rw [z]; exact .inl e2)]
    exact q
  have hi : i < env.length := by
    rw [← r.env.len]
    exact (List.getElem?_eq_some_iff.mp e).1
  have at' : At W R s (upd H p o) := by
    refine ⟨W.st s H _ r.at_.j (fun b c => upd_ne fun z => nc (by rw [← z]; exact c)) fun b xs e => (by rw [upd_ne fun z => r.at_.t p xs e2 (by rw [← z]; exact e)]; exact e), fun b q => ?_, fun b xs q w => ?_⟩
    · by_cases z : b = p
      · rw [z, upd_same]
        exact ⟨by simp, nc⟩
      · rw [upd_ne z]
        exact r.at_.r b q
    · by_cases z : b = p
      · rw [z] at w
        cases h with
        | lst e _ _ => rw [e] at w; cases w
        | dic e _ => rw [e] at w; cases w
        | dit e _ => rw [e] at w; cases w
      · rw [upd_ne z] at w
        exact r.at_.t b xs q w
  refine ⟨⟨at', ⟨fun b u q n => ?_, r.fr.grow, r.fr.new⟩, r.r0, r.z0, ?_⟩, m⟩
  · rw [upd_ne (fun z => by rw [z, e3] at q; cases q)]
    exact r.fr.kp b u q n
  · refine ⟨by rw [ss_len]; exact r.env.len, fun l d he => ?_, fun l he => ?_, fun l l2 q h1 h2 h3 h4 => ?_⟩
    · by_cases n : i = l
      · subst n
        rw [sg_ss _ _ _ hi] at he
        subst he
        cases ho
      · rw [sg_ss_ne _ _ _ _ n] at he
        obtain ⟨v, q1, q2⟩ := r.env.dat l d he
        exact ⟨v, q1, q2.mv m⟩
    · by_cases n : i = l
      · subst n
        rw [sg_ss _ _ _ hi]
        exact ⟨p, e, e2, e3, h⟩
      · rw [sg_ss_ne _ _ _ _ n] at he ⊢
        obtain ⟨q, q1, q2, q3, q4⟩ := r.env.own l he
        have ne : q ≠ p := by
          rintro rfl
          exact n (r.env.uniq i l q hO he e q1)
        refine ⟨q, q1, q2, q3, ?_⟩
        exact q4.mv m fun u z => by rw [upd_ne ne]; exact z
    · have f : ∀ l, (sg (ss env i a) l).isO = true → (sg env l).isO = true := fun l he => by
        by_cases n : i = l
        · subst n
          exact hO
        · rw [sg_ss_ne _ _ _ _ n] at he
          exact he
      exact r.env.uniq l l2 q (f l h1) (f l2 h2) h3 h4
@[simp] def Sl.frz : Sl → Sl
  | .own ds => .dat (.lst ds)
  | .ownk ds => .dat (.dic ds)
  | .ownt ds => .dat (.dit ds)
  | a => a
/-- the def's own thing in slot i is data from now on -/
theorem Rel.frz (r : Rel W G R env σ H s) (i : Nat) : ∃ R', Rel W G R' (ss env i (sg env i).frz) σ H s ∧ (∀ a, R' a → R a) := by
  by_cases hO : (sg env i).isO = true
  · obtain ⟨p, e, e2, e3, e4⟩ := r.env.own i hO
    have sub : ∀ a, (R a ∧ a ≠ p) → R a := fun a h => h.1
    have sub' : ∀ a, Bf W (fun a => R a ∧ a ≠ p) s a → Bf W R s a := fun a h => h.elim (fun q => .inl q.1) .inr
    have hi : i < env.length := by
      rw [← r.env.len]
      exact (List.getElem?_eq_some_iff.mp e).1
    have nb : ¬ Bf W (fun a => R a ∧ a ≠ p) s p := fun q => q.elim (fun z => z.2 rfl) (r.at_.r p e2).2
    refine ⟨fun a => R a ∧ a ≠ p, ⟨r.at_.imp sub, r.fr, fun a q => ⟨r.r0 a q, fun z => (r.z0.r a q).1 (by rw [z]; exact e3)⟩, r.z0, ?_⟩, sub⟩
    refine ⟨by rw [ss_len]; exact r.env.len, fun l d he => ?_, fun l he => ?_, fun l l2 q h1 h2 h3 h4 => ?_⟩
    · by_cases n : i = l
      · subst n
        rw [sg_ss _ _ _ hi] at he
        refine ⟨.ref p, e, ?_⟩
        generalize hg : sg env i = a at e4 he
        cases e4 with
        | lst e l z => cases he; exact .lst e nb (l.imp sub') z
        | dic e l => cases he; exact .dic e nb (l.mv fun a o e n => ⟨e, fun b => n (sub' a b)⟩)
        | dit e l => cases he; exact .dit e nb (l.mv fun a o e n => ⟨e, fun b => n (sub' a b)⟩)
      · rw [sg_ss_ne _ _ _ _ n] at he
        obtain ⟨v, q1, q2⟩ := r.env.dat l d he
        exact ⟨v, q1, q2.imp sub'⟩
    · by_cases n : i = l
      · subst n
        rw [sg_ss _ _ _ hi] at he
        revert he
        cases sg env i <;> intro he <;> cases he
      · rw [sg_ss_ne _ _ _ _ n] at he ⊢
        obtain ⟨q, q1, q2, q3, q4⟩ := r.env.own l he
        have ne : q ≠ p := by
          rintro rfl
          exact n (r.env.uniq i l q hO he e q1)
        refine ⟨q, q1, ⟨q2, ne⟩, q3, ?_⟩
        exact q4.mv (fun a o e n => ⟨e, fun b => n (sub' a b)⟩) fun u z => z
    · have f : ∀ l, (sg (ss env i (sg env i).frz) l).isO = true → (sg env l).isO = true := fun l he => by
        by_cases n : i = l
        · subst n
          exact hO
        · rw [sg_ss_ne _ _ _ _ n] at he
          exact he
      exact r.env.uniq l l2 q (f l h1) (f l2 h2) h3 h4
  · refine ⟨R, ?_, fun _ h => h⟩
    have e : (sg env i).frz = sg env i := by
      revert hO
      cases sg env i <;> intro hO <;> first | rfl | exact absurd rfl hO
    rw [e]
    have e2 : ∀ (env : List Sl) (i : Nat), ss env i (sg env i) = env := fun env => by
      induction env with
      | nil => intro i; rfl
      | cons a r ih =>
        intro i
        cases i with
        | zero => rfl
        | succ i => exact congrArg (a :: ·) (ih i)
    rw [e2]
    exact r
end
end Dw
set_option Elab.async false
set_option linter.all false
set_option maxRecDepth 100000
set_option maxHeartbeats 4000000
/-! De: expressions over data. -/
namespace Dw
open PySem PySem.Spec PyProof.Rows L2
section
variable {S : Type}
@[simp] def wVar (i : Nat) : WE S := fun env s k _ => match sg env i with
  | .dat d => k d s
  | _ => False
@[simp] def wVarG (i : Nat) : WE S := fun env s k _ => match sg env i with
  | .dat d => k d s
  | .own ds => k (.lst ds) s
  | .ownk ds => k (.dic ds) s
  | .ownt ds => k (.dit ds) s
  | _ => False
@[simp] def vD : V → D
  | .non => .non
  | .bl b => .bl b
  | .int i => .int i
  | .str x => .str x
  | .ref a => .opq a
  | .ty n => .ty n
  | _ => .non
def Sc : V → Prop
  | .str x => x.length ≤ sizeLine
  | .byt _ => False
  | .flt _ => False
  | _ => True
@[simp] def wC (v : V) : WE S := fun _ s k _ => k (vD v) s
@[simp] def wOp (wo : D → D → S → (D → S → Prop) → Prop) (wa wb : WE S) : WE S := fun env s k x => wa env s (fun d s1 => wb env s1 (fun e s2 => wo d e s2 k) x) x
@[simp] def wUn (wo : D → S → (D → S → Prop) → Prop) (wa : WE S) : WE S := fun env s k x => wa env s (fun d s1 => wo d s1 k) x
@[simp] def wNil : WA S := fun _ s k _ => k [] s
@[simp] def wCons (wa : WE S) (wr : WA S) : WA S := fun env s k x => wa env s (fun d s1 => wr env s1 (fun ds s2 => k (d :: ds) s2) x) x
@[simp] def wCB (wc : List D → S → (D → S → Prop) → Prop) (wa : WA S) : WE S := fun env s k x => wa env s (fun ds s1 => wc ds s1 k) x
@[simp] def wTup (wa : WA S) : WE S := fun env s k x => wa env s (fun ds s1 => ds.length ≤ sizeLine ∧ k (.tup ds) s1) x
@[simp] def wLst (wa : WA S) : WE S := fun env s k x => wa env s (fun ds s1 => ds.length ≤ sizeLine ∧ k (.lst ds) s1) x
@[simp] def wLstF (wa : WA S) : List Sl → S → (List D → S → Prop) → (Xc → S → Prop) → Prop := fun env s k x => wa env s (fun ds s1 => ds.length ≤ sizeLine ∧ k ds s1) x
@[simp] def wTest (wa : WE S) : WT S := fun env s k x => wa env s (fun d s1 => match d with
  | .bl b => k b s1
  | _ => False) x
@[simp] def wAnd (wa wb : WT S) : WT S := fun env s k x => wa env s (fun b s1 => if b = true then wb env s1 k x else k false s1) x
@[simp] def wOr (wa wb : WT S) : WT S := fun env s k x => wa env s (fun b s1 => if b = true then k true s1 else wb env s1 k x) x
@[simp] def wNot (wa : WT S) : WT S := fun env s k x => wa env s (fun b s1 => k (!b) s1) x
@[simp] def wAndV (wa wb : WE S) : WE S := fun env s k x => wa env s (fun d s1 => match d with
  | .bl b => if b = true then wb env s1 k x else k (.bl false) s1
  | _ => False) x
@[simp] def wOrV (wa wb : WE S) : WE S := fun env s k x => wa env s (fun d s1 => match d with
  | .bl b => if b = true then k (.bl true) s1 else wb env s1 k x
  | _ => False) x
@[simp] def wNotV (wa : WE S) : WE S := fun env s k x => wa env s (fun d s1 => match d with
  | .bl b => k (.bl (!b)) s1
  | _ => False) x
@[simp] def wIf (wt : WT S) (wa wb : WE S) : WE S := fun env s k x => wt env s (fun b s1 => if b = true then wa env s1 k x else wb env s1 k x) x
@[simp] def wChain (wo wo' : D → D → S → (D → S → Prop) → Prop) (wa wb wc : WE S) : WE S := fun env s k x => wa env s (fun d s1 => wb env s1 (fun e s2 => wo d e s2 fun z s3 => match z with
  | .bl b => if b = true then wc env s3 (fun u s4 => wo' e u s4 k) x else k (.bl false) s3
  | _ => False) x) x
end
section
variable {S : Type} {W : Wd S} {G : Gm S} {K : PySem.W.Frag}
theorem Sc.da {v : V} (h : Sc v) {B : Addr → Prop} {H : Hp} : Da B H v (vD v) := by
  cases v with
  | non => exact .non
  | bl b => exact .bl b
  | int i => exact .int i
  | str x => exact .str h
  | byt b => exact h.elim
  | flt b => exact h.elim
  | ref a => exact .opq a
  | ty n => exact .ty n
theorem sim_var {i : Nat} : SimE W G (tVar i) (wVar i) := by
  intro R env σ H s r k x hw ox Q hQ
  unfold wVar at hw
  cases e : sg env i with
  | dat d =>
    rw [e] at hw
    obtain ⟨v, h1, h2⟩ := r.env.dat i d e
    exact ⟨v, h1, hQ d s v H hw .refl r.at_.j h2⟩
  | _ => rw [e] at hw; exact hw.elim
theorem sim_varG {i : Nat} : SimG W G (tVar i) (wVarG i) := by
  intro R env σ H s r k x hw ox Q hQ
  unfold wVarG at hw
  have ow : (sg env i).isO = true → ∃ p, σ[i]? = some (some (.ref p)) ∧ R p ∧ OwnR W R s H p (sg env i) := fun h => by
    obtain ⟨p, h1, h2, _, h4⟩ := r.env.own i h
    exact ⟨p, h1, h2, h4⟩
  cases e : sg env i with
  | dat d =>
    rw [e] at hw
    obtain ⟨v, h1, h2⟩ := r.env.dat i d e
    exact ⟨v, h1, hQ d s v H hw .refl r.at_.j (.da h2)⟩
  | no => rw [e] at hw; exact hw.elim
  | own ds =>
    rw [e] at hw ow
    obtain ⟨p, h1, h2, h4⟩ := ow rfl
    cases h4 with
    | lst q l z => exact ⟨.ref p, h1, hQ _ s _ H hw .refl r.at_.j (.lst q (r.at_.r p h2).2 l z)⟩
  | ownk ds =>
    rw [e] at hw ow
    obtain ⟨p, h1, h2, h4⟩ := ow rfl
    cases h4 with
    | dic q l => exact ⟨.ref p, h1, hQ _ s _ H hw .refl r.at_.j (.dic q (r.at_.r p h2).2 l)⟩
  | ownt ds =>
    rw [e] at hw ow
    obtain ⟨p, h1, h2, h4⟩ := ow rfl
    cases h4 with
    | dit q l => exact ⟨.ref p, h1, hQ _ s _ H hw .refl r.at_.j (.dit q (r.at_.r p h2).2 l)⟩
theorem sim_c {v : V} (h : Sc v) : SimE W G (tC v) (wC v) := fun R env σ H s r k x hw ox Q hQ => hQ _ s v H hw .refl r.at_.j h.da
theorem sim_op {r : R2} {wo : D → D → S → (D → S → Prop) → Prop} {ta tb : TE} {wa wb : WE S} (ho : SimO W r wo) (ha : SimG W G ta wa) (hb : SimG W G tb wb) : SimE W G (tOp r ta tb) (wOp wo wa wb) :=
  fun R env σ H s rl k x hw ox Q hQ => ha R env σ H s rl _ x hw ox _ fun d s1 v H1 hw1 f1 j1 a1 => hb R env σ H1 s1 (rl.step f1 j1) _ x hw1 ox _ fun e s2 u H2 hw2 f2 j2 a2 =>
    ho R s2 H2 ((rl.step f1 j1).step f2 j2).at_ v u d e (a1.fr f2) a2 k hw2 Q fun d' z H' hk f j a => hQ d' s2 z H' hk ((f1.trans f2).trans f) j a
theorem sim_un {r : V → Hp → VK → Prop} {wo : D → S → (D → S → Prop) → Prop} {ta : TE} {wa : WE S} (ho : SimU W r wo) (ha : SimG W G ta wa) : SimE W G (tUn r ta) (wUn wo wa) :=
  fun R env σ H s rl k x hw ox Q hQ => ha R env σ H s rl _ x hw ox _ fun d s1 v H1 hw1 f1 j1 a1 => ho R s1 H1 (rl.step f1 j1).at_ v d a1 k hw1 Q fun d' z H' hk f j a => hQ d' s1 z H' hk (f1.trans f) j a
theorem sim_nil : SimA W G tNil wNil := fun R env σ H s rl k x hw ox Q hQ => hQ [] s [] H hw .refl rl.at_.j .nil
theorem sim_nilB : SimB W G tNil wNil := fun R env σ H s rl k x hw ox Q hQ => hQ [] s [] H hw .refl rl.at_.j .nil
theorem sim_cons {ta : TE} {tr : TA} {wa : WE S} {wr : WA S} (ha : SimE W G ta wa) (hr : SimA W G tr wr) : SimA W G (tCons ta tr) (wCons wa wr) :=
  fun R env σ H s rl k x hw ox Q hQ => ha R env σ H s rl _ x hw ox _ fun d s1 v H1 hw1 f1 j1 a1 => hr R env σ H1 s1 (rl.step f1 j1) _ x hw1 ox _ fun ds s2 vs H2 hw2 f2 j2 a2 =>
    hQ (d :: ds) s2 (v :: vs) H2 hw2 (f1.trans f2) j2 (.cons (a1.mv f2.mv) a2)
theorem sim_consB {ta : TE} {tr : TA} {wa : WE S} {wr : WA S} (ha : SimG W G ta wa) (hr : SimB W G tr wr) : SimB W G (tCons ta tr) (wCons wa wr) :=
  fun R env σ H s rl k x hw ox Q hQ => ha R env σ H s rl _ x hw ox _ fun d s1 v H1 hw1 f1 j1 a1 => hr R env σ H1 s1 (rl.step f1 j1) _ x hw1 ox _ fun ds s2 vs H2 hw2 f2 j2 a2 =>
    hQ (d :: ds) s2 (v :: vs) H2 hw2 (f1.trans f2) j2 (.cons (a1.fr f2) a2)
theorem sim_cb {r : List V → Hp → VK → Prop} {wc : List D → S → (D → S → Prop) → Prop} {ta : TA} {wa : WA S} (hc : SimC W r wc) (ha : SimB W G ta wa) : SimE W G (tCB r ta) (wCB wc wa) :=
  fun R env σ H s rl k x hw ox Q hQ => ha R env σ H s rl _ x hw ox _ fun ds s1 vs H1 hw1 f1 j1 a1 => hc R s1 H1 (rl.step f1 j1).at_ vs ds a1 k hw1 Q fun d' z H' hk f j a => hQ d' s1 z H' hk (f1.trans f) j a
theorem sim_tup {ta : TA} {wa : WA S} (ha : SimA W G ta wa) : SimE W G (tTup ta) (wTup wa) :=
  fun R env σ H s rl k x hw ox Q hQ => ha R env σ H s rl _ x hw ox _ fun ds s1 vs H1 hw1 f1 j1 a1 => ⟨by rw [a1.len]; exact hw1.1, fun p hp => by
    have at1 := (rl.step f1 j1).at_
    exact hQ _ s1 _ _ hw1.2 (f1.trans (.new_at hp at1)) (at1.new_at hp).j (.tup upd_same (at1.fresh hp) (a1.mv (Fr.new_at hp at1).mv) hw1.1)⟩
theorem sim_lst {ta : TA} {wa : WA S} (ha : SimA W G ta wa) : SimE W G (tLst ta) (wLst wa) :=
  fun R env σ H s rl k x hw ox Q hQ => ha R env σ H s rl _ x hw ox _ fun ds s1 vs H1 hw1 f1 j1 a1 => ⟨by rw [a1.len]; exact hw1.1, fun p hp => by
    have at1 := (rl.step f1 j1).at_
    exact hQ _ s1 _ _ hw1.2 (f1.trans (.new_at hp at1)) (at1.new_at hp).j (.lst upd_same (at1.fresh hp) (a1.mv (Fr.new_at hp at1).mv) hw1.1)⟩
/-- data away from a fresh place -/
theorem At.off {R : Addr → Prop} {s : S} {H : Hp} {p : Addr} {o : HO} (t : At W R s H) (hp : H p = none) : Mv (Bf W R s) H (Bf W (fun a => R a ∨ a = p) s) (upd H p o) := fun a u e n => by
  have ne : a ≠ p := fun z => by rw [z, hp] at e; cases e
  exact ⟨by rw [upd_ne ne]; exact e, fun q => q.elim (fun z => z.elim (fun y => n (.inl y)) ne) fun y => n (.inr y)⟩
theorem Fr.none {s s' : S} {H H' : Hp} {p : Addr} (f : Fr W s H s' H') (a : W.J s H) (h : H' p = none) (j' : W.J s' H') : H p = none := by
  cases e : H p with
  | none => rfl
  | some o =>
    by_cases c : W.C s p
    · exact absurd h (W.tr s' H' p j' (f.grow p c))
    · rw [f.kp p o e c] at h
      cases h
theorem sim_lstF {ta : TA} {wa : WA S} (ha : SimA W G ta wa) : SimF W G (tLst ta) (wLstF wa) :=
  fun R env σ H s rl k x hw ox Q hQ => ha R env σ H s rl _ x hw ox _ fun ds s1 vs H1 hw1 f1 j1 a1 => ⟨by rw [a1.len]; exact hw1.1, fun p hp => by
    have at1 := (rl.step f1 j1).at_
    exact hQ _ s1 p _ _ hw1.2 (f1.trans (.new_at hp at1)) (at1.new_at hp).j (f1.none rl.at_.j hp j1) upd_same (at1.fresh hp) (a1.mv (at1.off hp)) hw1.1⟩
theorem sim_test {t : TE} {w : WE S} (h : SimG W G t w) : SimT W G (tTest t) (wTest w) :=
  fun R env σ H s rl k x hw ox Q hQ => h R env σ H s rl _ x hw ox _ fun d s1 v H1 hw1 f1 j1 a1 => by
    cases d with
    | bl b =>
      cases a1 with
      | da a => cases a; exact ⟨b, rfl, hQ b s1 H1 hw1 f1 j1⟩
    | _ => exact hw1.elim
theorem sim_tB {t : TE} {w : WE S} (h : SimG W G t w) : SimT W G (tB t) (wTest w) :=
  fun R env σ H s rl k x hw ox Q hQ => h R env σ H s rl _ x hw ox _ fun d s1 v H1 hw1 f1 j1 a1 => by
    cases d with
    | bl b =>
      cases a1 with
      | da a => cases a; exact ⟨b, rfl, hQ b s1 H1 hw1 f1 j1⟩
    | _ => exact hw1.elim
theorem sim_and {t u : TT} {w v : WT S} (h : SimT W G t w) (h' : SimT W G u v) : SimT W G (tAnd t u) (wAnd w v) :=
  fun R env σ H s rl k x hw ox Q hQ => h R env σ H s rl _ x hw ox _ fun b s1 H1 hw1 f1 j1 => by
    cases b with
    | true => exact Rd.iteT (h' R env σ H1 s1 (rl.step f1 j1) k x hw1 ox Q fun b s2 H2 hk f j => hQ b s2 H2 hk (f1.trans f) j)
    | false => exact Rd.iteF (hQ _ s1 H1 (by simpa using hw1) f1 j1)
theorem sim_or {t u : TT} {w v : WT S} (h : SimT W G t w) (h' : SimT W G u v) : SimT W G (tOr t u) (wOr w v) :=
  fun R env σ H s rl k x hw ox Q hQ => h R env σ H s rl _ x hw ox _ fun b s1 H1 hw1 f1 j1 => by
    cases b with
    | true => exact Rd.iteT (hQ _ s1 H1 (by simpa using hw1) f1 j1)
    | false => exact Rd.iteF (h' R env σ H1 s1 (rl.step f1 j1) k x (by simpa using hw1) ox Q fun b s2 H2 hk f j => hQ b s2 H2 hk (f1.trans f) j)
theorem sim_not {t : TT} {w : WT S} (h : SimT W G t w) : SimT W G (tNot t) (wNot w) :=
  fun R env σ H s rl k x hw ox Q hQ => h R env σ H s rl _ x hw ox _ fun b s1 H1 hw1 f1 j1 => hQ _ s1 H1 hw1 f1 j1
theorem sim_yes : SimT W G tYes (fun _ s k _ => k true s) := fun R env σ H s rl k x hw ox Q hQ => hQ _ s H hw .refl rl.at_.j
theorem sim_andV {t u : TE} {w v : WE S} (h : SimG W G t w) (h' : SimE W G u v) : SimE W G (tAndV t u) (wAndV w v) :=
  fun R env σ H s rl k x hw ox Q hQ => h R env σ H s rl _ x hw ox _ fun d s1 z H1 hw1 f1 j1 a1 => by
    cases d with
    | bl b =>
      cases a1 with
      | da a =>
        cases a
        refine ⟨b, rfl, ?_⟩
        cases b with
        | true => exact Rd.iteT (h' R env σ H1 s1 (rl.step f1 j1) k x (by simpa using hw1) ox Q fun b s2 z H2 hk f j a => hQ b s2 z H2 hk (f1.trans f) j a)
        | false => exact Rd.iteF (hQ _ s1 _ H1 (by simpa using hw1) f1 j1 (.bl _))
    | _ => exact hw1.elim
theorem sim_orV {t u : TE} {w v : WE S} (h : SimG W G t w) (h' : SimE W G u v) : SimE W G (tOrV t u) (wOrV w v) :=
  fun R env σ H s rl k x hw ox Q hQ => h R env σ H s rl _ x hw ox _ fun d s1 z H1 hw1 f1 j1 a1 => by
    cases d with
    | bl b =>
      cases a1 with
      | da a =>
        cases a
        refine ⟨b, rfl, ?_⟩
        cases b with
        | true => exact Rd.iteT (hQ _ s1 _ H1 (by simpa using hw1) f1 j1 (.bl _))
        | false => exact Rd.iteF (h' R env σ H1 s1 (rl.step f1 j1) k x (by simpa using hw1) ox Q fun b s2 z H2 hk f j a => hQ b s2 z H2 hk (f1.trans f) j a)
    | _ => exact hw1.elim
theorem sim_notV {t : TE} {w : WE S} (h : SimG W G t w) : SimE W G (tNotV t) (wNotV w) :=
  fun R env σ H s rl k x hw ox Q hQ => h R env σ H s rl _ x hw ox _ fun d s1 z H1 hw1 f1 j1 a1 => by
    cases d with
    | bl b =>
      cases a1 with
      | da a => cases a; exact ⟨b, rfl, hQ _ s1 _ H1 hw1 f1 j1 (.bl _)⟩
    | _ => exact hw1.elim
theorem sim_if {t : TT} {ta tb : TE} {w : WT S} {wa wb : WE S} (h : SimT W G t w) (ha : SimE W G ta wa) (hb : SimE W G tb wb) : SimE W G (tIf t ta tb) (wIf w wa wb) :=
  fun R env σ H s rl k x hw ox Q hQ => h R env σ H s rl _ x hw ox _ fun b s1 H1 hw1 f1 j1 => by
    cases b with
    | true => exact Rd.iteT (ha R env σ H1 s1 (rl.step f1 j1) k x (by simpa using hw1) ox Q fun b s2 z H2 hk f j a => hQ b s2 z H2 hk (f1.trans f) j a)
    | false => exact Rd.iteF (hb R env σ H1 s1 (rl.step f1 j1) k x (by simpa using hw1) ox Q fun b s2 z H2 hk f j a => hQ b s2 z H2 hk (f1.trans f) j a)
theorem sim_chain {r r' : R2} {wo wo' : D → D → S → (D → S → Prop) → Prop} {ta tb tc : TE} {wa wb wc : WE S} (ho : SimO W r wo) (ho' : SimO W r' wo') (ha : SimG W G ta wa) (hb : SimG W G tb wb) (hc : SimG W G tc wc) :
    SimE W G (tChain r r' ta tb tc) (wChain wo wo' wa wb wc) :=
  fun R env σ H s rl k x hw ox Q hQ => ha R env σ H s rl _ x hw ox _ fun d s1 v H1 hw1 f1 j1 a1 => hb R env σ H1 s1 (rl.step f1 j1) _ x hw1 ox _ fun e s2 u H2 hw2 f2 j2 a2 => by
    have r2 := (rl.step f1 j1).step f2 j2
    refine ho R s2 H2 r2.at_ v u d e (a1.fr f2) a2 _ hw2 _ fun z zv H3 hk f3 j3 a3 => ?_
    cases z with
    | bl b =>
      cases a3
      refine ⟨b, rfl, ?_⟩
      have r3 := r2.step f3 j3
      cases b with
      | true =>
        refine Rd.iteT (hc R env σ H3 s2 r3 _ x (by simpa using hk) ox _ fun u' s4 uv H4 hw4 f4 j4 a4 => ?_)
        exact ho' R s4 H4 (r3.step f4 j4).at_ u uv e u' ((a2.fr f3).fr f4) a4 k hw4 Q fun d' z H' hk f j a => hQ d' s4 z H' hk ((((f1.trans f2).trans f3).trans f4).trans f) j a
      | false => exact Rd.iteF (hQ _ s2 _ H3 (by simpa using hk) ((f1.trans f2).trans f3) j3 (.bl _))
    | _ => exact hk.elim
/-- a def by its word over data: what it gives (k), what it raises (x) -/
def spX (W : Wd S) (wf : List D → S → (D → S → Prop) → (Xc → S → Prop) → Prop) : Sp := fun vs H Q E => ∃ R ds s k x, At W R s H ∧ DaL (Bf W R s) H vs ds ∧ wf ds s k x ∧
  (∀ d s' v H', k d s' → Fr W s H s' H' → W.J s' H' → Da (Bf W R s') H' v d → Q v H') ∧
  ∀ c s' cls d H', x c s' → Fr W s H s' H' → W.J s' H' → XcR (Bf W R s') H' c cls d → E cls d H'
@[simp] def wCall (wf : List D → S → (D → S → Prop) → (Xc → S → Prop) → Prop) (wa : WA S) : WE S := fun env s k x => wa env s (fun ds s1 => wf ds s1 k x) x
@[simp] def wCallN (wf : List D → S → (D → S → Prop) → (Xc → S → Prop) → Prop) (wa : WA S) : WE S := fun env s k x => wa env s (fun ds s1 => wf ds s1 k fun _ _ => False) x
theorem XcR.imp {B B' : Addr → Prop} {H : Hp} {c : Xc} {cls : Value} {d : Option Addr} (h : XcR B H c cls d) (q : ∀ a, B' a → B a) : XcR B' H c cls d := by
  obtain ⟨h1, h2⟩ := h
  refine ⟨h1, h2.imp id ?_⟩
  rintro ⟨a, xs, e1, e2, e3, e4⟩
  exact ⟨a, xs, e1, e2, fun z => e3 (q a z), e4.mv fun a o e n => ⟨e, fun b => n (q a b)⟩⟩
/-- a call that raises nothing -/
theorem sim_callN {wf : List D → S → (D → S → Prop) → (Xc → S → Prop) → Prop} {ta : TA} {wa : WA S} {E : L2.St → XK} (ha : SimA W G ta wa) : SimE W G (Gl.tDf (spX W wf) E ta) (wCallN wf wa) :=
  fun R env σ H s rl k x hw ox Q hQ => ha R env σ H s rl _ x hw ox _ fun ds s1 vs H1 hw1 f1 j1 a1 => by
    have r1 := rl.step f1 j1
    exact ⟨R, ds, s1, k, _, r1.at_, a1, hw1, fun d s' v H' hk f j a => hQ d s' v H' hk (f1.trans f) j a, fun c s' cls d H' hx f j a => hx.elim⟩
end
end Dw
set_option Elab.async false
set_option linter.all false
set_option maxRecDepth 100000
set_option maxHeartbeats 4000000
/-! Do: operators, built-ins, slices over data. -/
namespace Dw
open PySem PySem.Spec PyProof.Rows L2
/-! readings by names of our own -/
def rStr (p : Str → Str → Bool) : R2 := fun x y H Q => ∃ i j, x = .str i ∧ y = .str j ∧ Q (.bl (p i j)) H
theorem op_ltS {X : Cx} : OpR X (compareOp .Lt) (rStr fun i j => decide (i.cps.toList < j.cps.toList)) := op_lt_str
theorem op_leS {X : Cx} : OpR X (compareOp .LtE) (rStr fun i j => !decide (j.cps.toList < i.cps.toList)) := op_le_str
theorem op_gtS {X : Cx} : OpR X (compareOp .Gt) (rStr fun i j => decide (j.cps.toList < i.cps.toList)) := op_gt_str
theorem op_geS {X : Cx} : OpR X (compareOp .GtE) (rStr fun i j => !decide (i.cps.toList < j.cps.toList)) := op_ge_str
def rAddS : R2 := fun x y H Q => ∃ i j, x = .str i ∧ y = .str j ∧ i.length + j.length ≤ sizeLine ∧ Q (.str (i ++ j)) H
theorem op_addS {X : Cx} : OpR X (binaryOp .Add) rAddS := op_add_str
def rMM (f : Int → Int → Int) : List V → Hp → VK → Prop := fun xs H Q => ∃ i j, xs = [.int i, .int j] ∧ Q (.int (f i j)) H
def rStrI : List V → Hp → VK → Prop := fun xs H Q => ∃ i, xs = [.int i] ∧ i.natAbs.log2 < 1920 ∧ Q (.str (toString i)) H
theorem cr_str {X : Cx} : CallR X (.type "str") rStrI := call_str_int
section
variable {S : Type}
@[simp] def wI0 (g : Int → Int → V) : D → D → S → (D → S → Prop) → Prop := fun d e s k => match d, e with
  | .int i, .int j => k (vD (g i j)) s
  | _, _ => False
@[simp] def wIC (C : Int → Int → Prop) (g : Int → Int → V) : D → D → S → (D → S → Prop) → Prop := fun d e s k => match d, e with
  | .int i, .int j => C i j ∧ k (vD (g i j)) s
  | _, _ => False
@[simp] def wU (g : Int → V) : D → S → (D → S → Prop) → Prop := fun d s k => match d with
  | .int i => k (vD (g i)) s
  | _ => False
@[simp] def D.sv : D → Option V
  | .non => some .non
  | .bl b => some (.bl b)
  | .int i => some (.int i)
  | .str x => some (.str x)
  | _ => none
@[simp] def D.eqs : D → D → Option Bool
  | .non, .non => some true | .non, .int _ => some false | .int _, .non => some false | .non, .bl _ => some false | .bl _, .non => some false | .non, .str _ => some false | .str _, .non => some false
  | .int i, .int j => some (decide (i = j)) | .bl i, .bl j => some (decide (i = j)) | .str i, .str j => some (decide (i = j))
  | .int _, .str _ => some false | .str _, .int _ => some false | .bl _, .str _ => some false | .str _, .bl _ => some false
  | _, _ => none
@[simp] def wEq : D → D → S → (D → S → Prop) → Prop := fun d e s k => match d.eqs e with
  | some b => k (.bl b) s
  | none => False
@[simp] def wNe : D → D → S → (D → S → Prop) → Prop := fun d e s k => match d.eqs e with
  | some b => k (.bl (!b)) s
  | none => False
@[simp] def wIsN : D → D → S → (D → S → Prop) → Prop := fun d e s k => match e with
  | .non => k (.bl (match d with | .non => true | _ => false)) s
  | _ => False
@[simp] def wNotN : D → D → S → (D → S → Prop) → Prop := fun d e s k => match e with
  | .non => k (.bl (match d with | .non => false | _ => true)) s
  | _ => False
@[simp] def wIsB : D → D → S → (D → S → Prop) → Prop := fun d e s k => match d, e with
  | .bl a, .bl b => k (.bl (decide (a = b))) s
  | _, _ => False
@[simp] def wNotB : D → D → S → (D → S → Prop) → Prop := fun d e s k => match d, e with
  | .bl a, .bl b => k (.bl (!decide (a = b))) s
  | _, _ => False
@[simp] def wIxL : D → D → S → (D → S → Prop) → Prop := fun d e s k => match d, e with
  | .lst ds, .int i => (match atI ds i with
    | some x => k x s
    | none => False)
  | _, _ => False
@[simp] def wIxT : D → D → S → (D → S → Prop) → Prop := fun d e s k => match d, e with
  | .tup ds, .int i => (match atI ds i with
    | some x => k x s
    | none => False)
  | _, _ => False
@[simp] def wIx : D → D → S → (D → S → Prop) → Prop := fun d e s k => match d, e with
  | .lst ds, .int i => (match atI ds i with
    | some x => k x s
    | none => False)
  | .tup ds, .int i => (match atI ds i with
    | some x => k x s
    | none => False)
  | .str z, .int i => (match atI z.cps.toList i with
    | some c => k (.str ⟨#[c]⟩) s
    | none => False)
  | _, _ => False
@[simp] def D.items : D → Option (List D)
  | .lst ds => some ds
  | .tup ds => some ds
  | _ => none
def inD (d : D) (ds : List D) : Bool := ds.any fun e => match e.sv, d.sv with
  | some v, some u => eqV v u
  | _, _ => false
@[simp] def wIn (neg : Bool) : D → D → S → (D → S → Prop) → Prop := fun d e s k => match e.items with
  | some ds => d.sv.isSome = true ∧ ds.all (fun z => z.sv.isSome) = true ∧ k (.bl (if neg then !inD d ds else inD d ds)) s
  | none => False
@[simp] def wStr (p : Str → Str → Bool) : D → D → S → (D → S → Prop) → Prop := fun d e s k => match d, e with
  | .str i, .str j => k (.bl (p i j)) s
  | _, _ => False
@[simp] def wInS : D → D → S → (D → S → Prop) → Prop := fun d e s k => match d, e with
  | .str x, .str z => ∃ c, x = ⟨#[c]⟩ ∧ k (.bl (decide (c ∈ z.cps.toList))) s
  | _, _ => False
@[simp] def wNotInS : D → D → S → (D → S → Prop) → Prop := fun d e s k => match d, e with
  | .str x, .str z => ∃ c, x = ⟨#[c]⟩ ∧ k (.bl (!decide (c ∈ z.cps.toList))) s
  | _, _ => False
@[simp] def wCatT : D → D → S → (D → S → Prop) → Prop := fun d e s k => match d, e with
  | .tup a, .tup b => a.length + b.length ≤ sizeLine ∧ k (.tup (a ++ b)) s
  | _, _ => False
@[simp] def wCatL : D → D → S → (D → S → Prop) → Prop := fun d e s k => match d, e with
  | .lst a, .lst b => a.length + b.length ≤ sizeLine ∧ k (.lst (a ++ b)) s
  | _, _ => False
@[simp] def wAddS : D → D → S → (D → S → Prop) → Prop := fun d e s k => match d, e with
  | .str a, .str b => a.length + b.length ≤ sizeLine ∧ k (.str (a ++ b)) s
  | _, _ => False
@[simp] def wMulS : D → D → S → (D → S → Prop) → Prop := fun d e s k => match d, e with
  | .str z, .int n => 2 ≤ n ∧ n ≤ 1000 ∧ (n == 1 || z.length == 0) = false ∧ z.length ≤ 1000 ∧ Builtin.Str.tooLong (z.length * n.toNat) = false ∧ (Dt.mulT z n).length ≤ sizeLine ∧ k (.str (Dt.mulT z n)) s
  | _, _ => False
@[simp] def wRepT : D → D → S → (D → S → Prop) → Prop := fun d e s k => match d, e with
  | .tup a, .int n => a ≠ [] ∧ 2 ≤ n ∧ n ≤ 1000 ∧ a.length ≤ 1000 ∧ a.length * n.toNat ≤ sizeLine ∧ k (.tup (List.replicate n.toNat a).flatten) s
  | _, _ => False
@[simp] def wRepL : D → D → S → (D → S → Prop) → Prop := fun d e s k => match d, e with
  | .lst a, .int n => -(2 ^ 63) ≤ n ∧ n < 2 ^ 63 ∧ a.length * n.toNat ≤ sizeLine ∧ k (.lst (List.replicate n.toNat a).flatten) s
  | _, _ => False
mutual
@[simp] def D.py : D → Option PyData
  | .non => some .none
  | .bl b => some (.bool b)
  | .int i => some (.int i)
  | .str x => some (.str x)
  | .lst ds => (D.pys ds).map .list
  | .tup ds => (D.pys ds).map .tuple
  | _ => none
@[simp] def D.pys : List D → Option (List PyData)
  | [] => some []
  | d :: r => match d.py, D.pys r with
    | some a, some b => some (a :: b)
    | _, _ => none
end
@[simp] def wEqD : D → D → S → (D → S → Prop) → Prop := fun d e s k => ∃ a b, d.py = some a ∧ e.py = some b ∧ SeqAt.shaped a = true ∧ SeqAt.shaped b = true ∧ k (.bl (PyData.eqv a b)) s
@[simp] def wNeD : D → D → S → (D → S → Prop) → Prop := fun d e s k => ∃ a b, d.py = some a ∧ e.py = some b ∧ SeqAt.shaped a = true ∧ SeqAt.shaped b = true ∧ k (.bl (!PyData.eqv a b)) s
@[simp] def wInD : D → D → S → (D → S → Prop) → Prop := fun d e s k => ∃ a bs, d.py = some a ∧ e.py = some (.list bs) ∧ SeqAt.shaped a = true ∧ SeqAt.shaped (.list bs) = true ∧ k (.bl (bs.any fun z => PyData.eqv z a)) s
@[simp] def wNotInD : D → D → S → (D → S → Prop) → Prop := fun d e s k => ∃ a bs, d.py = some a ∧ e.py = some (.list bs) ∧ SeqAt.shaped a = true ∧ SeqAt.shaped (.list bs) = true ∧ k (.bl (!bs.any fun z => PyData.eqv z a)) s
def D.ints : List D → Option (List Int)
  | [] => some []
  | .int i :: r => (D.ints r).map (i :: ·)
  | _ => none
def D.bls : List D → Option (List Bool)
  | [] => some []
  | .bl i :: r => (D.bls r).map (i :: ·)
  | _ => none
def D.strs : List D → Option (List Str)
  | [] => some []
  | .str i :: r => (D.strs r).map (i :: ·)
  | _ => none
@[simp] def wLtT (f : List Int → List Int → Bool) : D → D → S → (D → S → Prop) → Prop := fun d e s k => match d, e with
  | .tup a, .tup b => ∃ ns ms, D.ints a = some ns ∧ D.ints b = some ms ∧ k (.bl (f ns ms)) s
  | _, _ => False
/-! built-ins -/
@[simp] def wLen : List D → S → (D → S → Prop) → Prop := fun ds s k => match ds with
  | [.lst xs] => k (.int xs.length) s
  | [.tup xs] => k (.int xs.length) s
  | [.str x] => k (.int x.length) s
  | _ => False
@[simp] def wInt : List D → S → (D → S → Prop) → Prop := fun ds s k => match ds with
  | [.int i] => k (.int i) s
  | [.bl b] => k (.int (if b then 1 else 0)) s
  | _ => False
@[simp] def wAbs : List D → S → (D → S → Prop) → Prop := fun ds s k => match ds with
  | [.int i] => k (.int (if i < 0 then -i else i)) s
  | _ => False
@[simp] def wStrI : List D → S → (D → S → Prop) → Prop := fun ds s k => match ds with
  | [.int i] => i.natAbs.log2 < 1920 ∧ (toString i : Str).length ≤ sizeLine ∧ k (.str (toString i)) s
  | _ => False
@[simp] def wMM (f : Int → Int → Int) : List D → S → (D → S → Prop) → Prop := fun ds s k => match ds with
  | [.int i, .int j] => k (.int (f i j)) s
  | _ => False
@[simp] def wListOf : List D → S → (D → S → Prop) → Prop := fun ds s k => match ds with
  | [.lst xs] => k (.lst xs) s
  | [.tup xs] => k (.lst xs) s
  | _ => False
@[simp] def wTupOf : List D → S → (D → S → Prop) → Prop := fun ds s k => match ds with
  | [.lst xs] => k (.tup xs) s
  | [.tup xs] => k (.tup xs) s
  | _ => False
@[simp] def wSum : List D → S → (D → S → Prop) → Prop := fun ds s k => match ds with
  | [.lst xs] => ∃ ns, D.ints xs = some ns ∧ k (.int ns.sum) s
  | _ => False
@[simp] def wAll : List D → S → (D → S → Prop) → Prop := fun ds s k => match ds with
  | [.lst xs] => ∃ ns, D.bls xs = some ns ∧ k (.bl (ns.all id)) s
  | _ => False
@[simp] def wAny : List D → S → (D → S → Prop) → Prop := fun ds s k => match ds with
  | [.lst xs] => ∃ ns, D.bls xs = some ns ∧ k (.bl (ns.any id)) s
  | _ => False
/-- is it of this built-in class -/
@[simp] def D.isT (n : String) : D → Option Bool
  | .non => some false
  | .bl _ => some (n = "bool" || n = "int")
  | .int _ => some (n = "int")
  | .str _ => some (n = "str")
  | .lst _ => some (n = "list")
  | .tup _ => some (n = "tuple")
  | .dic _ => some (n = "dict")
  | .dit _ => some (n = "dict")
  | _ => none
def known6 : List String := ["tuple", "list", "str", "int", "bool", "dict"]
def D.isTs : List D → D → Option Bool
  | [], d => if (d.isT "int").isSome = true then some false else none
  | .ty n :: r, d => if n ∈ known6 then (match d.isT n, D.isTs r d with
    | some a, some b => some (a || b)
    | _, _ => none) else none
  | _, _ => none
@[simp] def wIsi : List D → S → (D → S → Prop) → Prop := fun ds s k => match ds with
  | [d, .ty n] => n ∈ known6 ∧ (match d.isT n with
    | some b => k (.bl b) s
    | none => False)
  | _ => False
@[simp] def wIsiT : List D → S → (D → S → Prop) → Prop := fun ds s k => match ds with
  | [d, .tup ts] => (match D.isTs ts d with
    | some b => k (.bl b) s
    | none => False)
  | _ => False
def cutD (ds : List D) (lo hi : Option Int) : List D := (ds.drop (HT.sIx ds.length 0 lo)).take (HT.sIx ds.length ds.length hi - HT.sIx ds.length 0 lo)
abbrev WO (S : Type) := List Sl → S → (Option Int → S → Prop) → (Xc → S → Prop) → Prop
@[simp] def wNoPart : WO S := fun _ s k _ => k none s
@[simp] def wPart (w : WE S) : WO S := fun env s k x => w env s (fun d s1 => match d with
  | .int i => k (some i) s1
  | _ => False) x
@[simp] def wSl (wr : D → Option Int → Option Int → S → (D → S → Prop) → Prop) (we : WE S) (wl wh : WO S) : WE S := fun env s k x => we env s (fun d s1 => wl env s1 (fun l s2 => wh env s2 (fun h s3 => wr d l h s3 k) x) x) x
@[simp] def wSlT : D → Option Int → Option Int → S → (D → S → Prop) → Prop := fun d l h s k => match d with
  | .tup ds => k (.tup (cutD ds l h)) s
  | _ => False
@[simp] def wSlL : D → Option Int → Option Int → S → (D → S → Prop) → Prop := fun d l h s k => match d with
  | .lst ds => k (.lst (cutD ds l h)) s
  | _ => False
@[simp] def wSlS : D → Option Int → Option Int → S → (D → S → Prop) → Prop := fun d l h s k => match d with
  | .str z => k (.str (cutS z l h)) s
  | _ => False
end
section
variable {S : Type} (W : Wd S) (G : Gm S)
def SimP (t : TO) (w : WO S) : Prop := ∀ R env σ H s, Rel W G R env σ H s → ∀ k x, w env s k x → XOk W G x → ∀ Q : Option Int → Hp → Prop,
  (∀ o s' H', k o s' → Fr W s H s' H' → W.J s' H' → Q o H') → t σ H Q
def SimL (r : V → Option Int → Option Int → Hp → VK → Prop) (w : D → Option Int → Option Int → S → (D → S → Prop) → Prop) : Prop := ∀ R s H, At W R s H → ∀ x d, Ag W R s H x d → ∀ l h k, w d l h s k → ∀ Q : VK,
  (∀ d' v H', k d' s → Fr W s H s H' → W.J s H' → Da (Bf W R s) H' v d' → Q v H') → r x l h H Q
end
section
variable {S : Type} {W : Wd S} {G : Gm S} {K : PySem.W.Frag} {R : Addr → Prop} {s : S} {H : Hp}
/-! what a shallow thing is -/
theorem Ag.lstI {v : V} {ds : List D} (a : Ag W R s H v (.lst ds)) : ∃ p xs, v = .ref p ∧ H p = some (.lst xs) ∧ DaL (Bf W R s) H xs ds ∧ ds.length ≤ sizeLine := by
  cases a with
  | da h => cases h with
    | lst e n l z => exact ⟨_, _, rfl, e, l, z⟩
  | lst e n l z => exact ⟨_, _, rfl, e, l, z⟩
theorem Ag.tupI {v : V} {ds : List D} (a : Ag W R s H v (.tup ds)) : ∃ p xs, v = .ref p ∧ H p = some (.tup xs) ∧ DaL (Bf W R s) H xs ds ∧ Da (Bf W R s) H v (.tup ds) ∧ ds.length ≤ sizeLine := by
  cases a with
  | da h =>
    cases h with
    | tup e n l z => exact ⟨_, _, rfl, e, l, .tup e n l z, z⟩
theorem Ag.intI {v : V} {i : Int} (a : Ag W R s H v (.int i)) : v = .int i := by
  cases a with
  | da h => cases h; rfl
theorem Ag.blI {v : V} {i : Bool} (a : Ag W R s H v (.bl i)) : v = .bl i := by
  cases a with
  | da h => cases h; rfl
theorem Ag.strI {v : V} {i : Str} (a : Ag W R s H v (.str i)) : v = .str i ∧ i.length ≤ sizeLine := by
  cases a with
  | da h => cases h with
    | str h => exact ⟨rfl, h⟩
theorem Ag.nonI {v : V} (a : Ag W R s H v .non) : v = .non := by
  cases a with
  | da h => cases h; rfl
theorem Ag.tyI {v : V} {n : String} (a : Ag W R s H v (.ty n)) : v = .ty n := by
  cases a with
  | da h => cases h; rfl
theorem Ag.svI {v : V} {d : D} {u : V} (a : Ag W R s H v d) (h : d.sv = some u) : v = u := by
  cases d with
  | non => cases h; exact a.nonI
  | bl b => cases h; exact a.blI
  | int b => cases h; exact a.intI
  | str b => cases h; exact a.strI.1
  | _ => cases h
theorem AgL.one {vs : List V} {d : D} (a : AgL W R s H vs [d]) : ∃ v, vs = [v] ∧ Ag W R s H v d := by
  cases a with
  | cons h t => cases t; exact ⟨_, rfl, h⟩
theorem AgL.two {vs : List V} {d e : D} (a : AgL W R s H vs [d, e]) : ∃ v u, vs = [v, u] ∧ Ag W R s H v d ∧ Ag W R s H u e := by
  cases a with
  | cons h t =>
    obtain ⟨u, rfl, h2⟩ := t.one
    exact ⟨_, _, rfl, h, h2⟩
/-! operators -/
theorem so_i0 {g : Int → Int → V} (hs : ∀ i j, Sc (g i j) := by intros; exact True.intro) : SimO W (rI0 g) (wI0 g) := fun R s H at_ x y d e a b k hw Q hQ => by
  cases d with
  | int i => cases e with
    | int j => exact ⟨i, j, a.intI, b.intI, hQ _ _ H hw .refl at_.j (hs i j).da⟩
    | _ => exact hw.elim
  | _ => exact hw.elim
theorem so_iC {C : Int → Int → Prop} {g : Int → Int → V} (hs : ∀ i j, Sc (g i j) := by intros; exact True.intro) : SimO W (rI C g) (wIC C g) := fun R s H at_ x y d e a b k hw Q hQ => by
  cases d with
  | int i => cases e with
    | int j => exact ⟨i, j, a.intI, b.intI, hw.1, hQ _ _ H hw.2 .refl at_.j (hs i j).da⟩
    | _ => exact hw.elim
  | _ => exact hw.elim
theorem su_i {g : Int → V} (hs : ∀ i, Sc (g i) := by intros; exact True.intro) : SimU W (rU g) (wU g) := fun R s H at_ x d a k hw Q hQ => by
  cases d with
  | int i => exact ⟨i, a.intI, hQ _ _ H hw .refl at_.j (hs i).da⟩
  | _ => exact hw.elim
theorem D.eqs_sv {d e : D} {b : Bool} (h : d.eqs e = some b) : ∃ u v, d.sv = some u ∧ e.sv = some v ∧ scal u v = true ∧ b = decide (u = v) := by
  cases d <;> cases e <;> first
    | (cases h; exact ⟨_, _, rfl, rfl, rfl, by simp⟩)
    | cases h
theorem so_eq : SimO W rEq wEq := fun R s H at_ x y d e a b k hw Q hQ => by
  unfold wEq at hw
  cases h : d.eqs e with
  | none => rw [h] at hw; exact hw.elim
  | some c =>
    rw [h] at hw
    obtain ⟨u, v, h1, h2, h3, rfl⟩ := D.eqs_sv h
    rw [a.svI h1, b.svI h2]
    exact ⟨h3, hQ _ _ H hw .refl at_.j (.bl _)⟩
theorem so_ne : SimO W rNe wNe := fun R s H at_ x y d e a b k hw Q hQ => by
  unfold wNe at hw
  cases h : d.eqs e with
  | none => rw [h] at hw; exact hw.elim
  | some c =>
    rw [h] at hw
    obtain ⟨u, v, h1, h2, h3, rfl⟩ := D.eqs_sv h
    rw [a.svI h1, b.svI h2]
    exact ⟨h3, hQ _ _ H hw .refl at_.j (.bl _)⟩
theorem DaL.atI {B : Addr → Prop} {vs : List V} {ds : List D} {i : Int} {d : D} (h : DaL B H vs ds) (e : L2.atI ds i = some d) : ∃ v, L2.atI vs i = some v ∧ Da B H v d := by
  unfold L2.atI at e ⊢
  rw [h.len]
  cases q : ixN ds.length i with
  | none => rw [q] at e; cases e
  | some j =>
    rw [q] at e
    exact h.get' e
theorem so_ixL : SimO W (rIxL K) wIxL := fun R s H at_ x y d e a b k hw Q hQ => by
  cases d with
  | lst ds => cases e with
    | int i =>
      obtain ⟨p, xs, rfl, e1, l, lz⟩ := a.lstI
      simp only [wIxL] at hw
      cases q : atI ds i with
      | none => rw [q] at hw; exact hw.elim
      | some z =>
        rw [q] at hw
        obtain ⟨v, e2, h2⟩ := l.atI q
        exact ⟨p, xs, i, v, rfl, b.intI, .of e1, e2, hQ _ _ H hw .refl at_.j h2⟩
    | _ => exact hw.elim
  | _ => exact hw.elim
theorem so_ixT : SimO W (rIxT K) wIxT := fun R s H at_ x y d e a b k hw Q hQ => by
  cases d with
  | tup ds => cases e with
    | int i =>
      obtain ⟨p, xs, rfl, e1, l, _, lz⟩ := a.tupI
      simp only [wIxT] at hw
      cases q : atI ds i with
      | none => rw [q] at hw; exact hw.elim
      | some z =>
        rw [q] at hw
        obtain ⟨v, e2, h2⟩ := l.atI q
        exact ⟨p, xs, i, v, rfl, b.intI, .of e1, e2, hQ _ _ H hw .refl at_.j h2⟩
    | _ => exact hw.elim
  | _ => exact hw.elim
theorem one_le : ∀ c : Nat, (⟨#[c]⟩ : Str).length ≤ sizeLine := fun c => by
  show 1 ≤ sizeLine
  decide
theorem so_ix : SimO W (rIx K) wIx := fun R s H at_ x y d e a b k hw Q hQ => by
  cases d with
  | lst ds => cases e with
    | int i => exact .inl (so_ixL (K := K) R s H at_ x y _ _ a b k hw Q hQ)
    | _ => exact hw.elim
  | tup ds => cases e with
    | int i => exact .inr (.inl (so_ixT (K := K) R s H at_ x y _ _ a b k hw Q hQ))
    | _ => exact hw.elim
  | str z => cases e with
    | int i =>
      simp only [wIx] at hw
      cases q : atI z.cps.toList i with
      | none => rw [q] at hw; exact hw.elim
      | some c =>
        rw [q] at hw
        exact .inr (.inr ⟨z, i, c, a.strI.1, b.intI, a.strI.2, q, hQ _ _ H hw .refl at_.j (.str (one_le c))⟩)
    | _ => exact hw.elim
  | _ => exact hw.elim
theorem DaL.svs {B : Addr → Prop} {vs : List V} {ds : List D} (h : DaL B H vs ds) (q : ds.all (fun z => z.sv.isSome) = true) : ds.map (·.sv) = vs.map some := by
  induction vs generalizing ds with
  | nil => cases h; rfl
  | cons v vs ih =>
    cases h with
    | cons h1 t =>
      rw [List.all_cons, Bool.and_eq_true] at q
      rw [List.map_cons, List.map_cons, ih t q.2]
      congr 1
      cases h1 <;> first | rfl | exact absurd q.1 (by simp)
theorem sv_flat {d : D} {u : V} (h : d.sv = some u) : flatV u = true := by
  cases d <;> cases h <;> rfl
theorem so_in {neg : Bool} : SimO W (rIn K neg) (wIn neg) := fun R s H at_ x y d e a b k hw Q hQ => by
  have key : ∀ (p : Addr) (xs : List V) (ds : List D), y = .ref p → (SqL K H p xs ∨ SqT K H p xs) → DaL (Bf W R s) H xs ds → (d.sv.isSome = true ∧ ds.all (fun z => z.sv.isSome) = true ∧ k (.bl (if neg then !inD d ds else inD d ds)) s) → rIn K neg x y H Q := by
    rintro p xs ds rfl hs l ⟨h1, h2, h3⟩
    obtain ⟨u, hu⟩ := Option.isSome_iff_exists.mp h1
    have ex := a.svI hu
    subst ex
    have m := l.svs h2
    have ein : inV x xs = inD d ds := by
      clear h3 h2 hs l
      unfold inV inD
      induction xs generalizing ds with
      | nil => cases ds with
        | nil => rfl
        | cons _ _ => cases m
      | cons z zs ih => cases ds with
        | nil => cases m
        | cons c cs =>
          rw [List.map_cons, List.map_cons] at m
          injection m with m1 m2
          rw [List.any_cons, List.any_cons, ih cs m2, m1, hu]
    refine ⟨p, xs, rfl, hs, sv_flat hu, ?_, ?_⟩
    · rw [List.all_eq_true]
      intro z hz
      obtain ⟨c, hc, dc⟩ := l.mem hz
      have := List.all_eq_true.mp h2 c hc
      obtain ⟨u, hu⟩ := Option.isSome_iff_exists.mp this
      have e := (Ag.da (W := W) (R := R) (s := s) dc).svI hu
      rw [e]
      exact sv_flat hu
    · rw [ein]
      exact hQ _ _ H h3 .refl at_.j (.bl _)
  cases e with
  | lst ds =>
    obtain ⟨p, xs, rfl, e1, l, lz⟩ := b.lstI
    exact key p xs ds rfl (.inl (.of e1)) l hw
  | tup ds =>
    obtain ⟨p, xs, rfl, e1, l, _, lz⟩ := b.tupI
    exact key p xs ds rfl (.inr (.of e1)) l hw
  | _ => exact hw.elim
theorem so_inS : SimO W rInS wInS := fun R s H at_ x y d e a b k hw Q hQ => by
  cases d with
  | str i => cases e with
    | str j =>
      obtain ⟨c, rfl, hw⟩ := hw
      exact ⟨c, j, a.strI.1, b.strI.1, hQ _ _ H hw .refl at_.j (.bl _)⟩
    | _ => exact hw.elim
  | _ => exact hw.elim
theorem so_notInS : SimO W rNotInS wNotInS := fun R s H at_ x y d e a b k hw Q hQ => by
  cases d with
  | str i => cases e with
    | str j =>
      obtain ⟨c, rfl, hw⟩ := hw
      exact ⟨c, j, a.strI.1, b.strI.1, hQ _ _ H hw .refl at_.j (.bl _)⟩
    | _ => exact hw.elim
  | _ => exact hw.elim
theorem so_catT : SimO W (rCatA K) wCatT := fun R s H at_ x y d e a b k hw Q hQ => by
  cases d with
  | tup ds => cases e with
    | tup es =>
      obtain ⟨p, xs, rfl, e1, l1, da1, lz1⟩ := a.tupI
      obtain ⟨q, ys, rfl, e2, l2, da2, lz2⟩ := b.tupI
      refine ⟨p, q, xs, ys, rfl, rfl, .of e1, .of e2, by rw [l1.len, l2.len]; exact hw.1, fun hx => ?_, fun hx hy => ?_, fun hx hy r hr => ?_⟩
      · subst hx
        cases l1
        exact hQ _ _ H hw.2 .refl at_.j da2
      · subst hy
        cases l2
        have := hw.2
        rw [List.append_nil] at this
        exact hQ _ _ H this .refl at_.j da1
      · exact hQ _ _ _ hw.2 (.new_at hr at_) (at_.new_at hr).j (.tup upd_same (at_.fresh hr) ((l1.app l2).mv (Fr.new_at hr at_).mv) (by rw [List.length_append]; exact hw.1))
    | _ => exact hw.elim
  | _ => exact hw.elim
theorem so_catL : SimO W rCat wCatL := fun R s H at_ x y d e a b k hw Q hQ => by
  cases d with
  | lst ds => cases e with
    | lst es =>
      obtain ⟨p, xs, rfl, e1, l1, lz1⟩ := a.lstI
      obtain ⟨q, ys, rfl, e2, l2, lz2⟩ := b.lstI
      exact ⟨p, q, xs, ys, rfl, rfl, e1, e2, by rw [l1.len, l2.len]; exact hw.1, fun r hr => hQ _ _ _ hw.2 (.new_at hr at_) (at_.new_at hr).j (.lst upd_same (at_.fresh hr) ((l1.app l2).mv (Fr.new_at hr at_).mv) (by rw [List.length_append]; exact hw.1))⟩
    | _ => exact hw.elim
  | _ => exact hw.elim
theorem len_app (a b : Str) : (a ++ b).length = a.length + b.length := by
  show (a.cps ++ b.cps).size = _
  rw [Array.size_append]
  rfl
theorem so_addS : SimO W rAddS wAddS := fun R s H at_ x y d e a b k hw Q hQ => by
  cases d with
  | str i => cases e with
    | str j => exact ⟨i, j, a.strI.1, b.strI.1, hw.1, hQ _ _ H hw.2 .refl at_.j (.str (by rw [len_app]; exact hw.1))⟩
    | _ => exact hw.elim
  | _ => exact hw.elim
theorem so_mulS : SimO W Dt.rMulS wMulS := fun R s H at_ x y d e a b k hw Q hQ => by
  cases d with
  | str i => cases e with
    | int j =>
      obtain ⟨h1, h2, h3, h4, h5, h6, h7⟩ := hw
      exact ⟨i, j, a.strI.1, b.intI, h1, h2, h3, h4, h5, h6, hQ _ _ H h7 .refl at_.j (.str h6)⟩
    | _ => exact hw.elim
  | _ => exact hw.elim
theorem DaL.rep {B : Addr → Prop} {vs : List V} {ds : List D} (h : DaL B H vs ds) : ∀ n, DaL B H (List.replicate n vs).flatten (List.replicate n ds).flatten
  | 0 => .nil
  | n + 1 => by
    rw [List.replicate_succ, List.replicate_succ, List.flatten_cons, List.flatten_cons]
    exact h.app (h.rep n)
theorem rep_len {α : Type} (n : Nat) (l : List α) : (List.replicate n l).flatten.length = n * l.length := by
  induction n with
  | zero => simp
  | succ n ih => rw [List.replicate_succ, List.flatten_cons, List.length_append, ih, Nat.succ_mul, Nat.add_comm]
theorem so_repT : SimO W (rRepT K) wRepT := fun R s H at_ x y d e a b k hw Q hQ => by
  cases d with
  | tup ds => cases e with
    | int j =>
      obtain ⟨h1, h2, h3, h4, h5, h6⟩ := hw
      obtain ⟨p, xs, rfl, e1, l1, da1, lz1⟩ := a.tupI
      exact ⟨p, j, xs, rfl, b.intI, .of e1, fun z => h1 (by subst z; cases l1; rfl), h2, h3, by rw [l1.len]; exact h4, fun r hr =>
        hQ _ _ _ h6 (.new_at hr at_) (at_.new_at hr).j (.tup upd_same (at_.fresh hr) ((l1.rep _).mv (Fr.new_at hr at_).mv) (by rw [rep_len, Nat.mul_comm]; exact h5))⟩
    | _ => exact hw.elim
  | _ => exact hw.elim
mutual
theorem Da.py {B : Addr → Prop} : ∀ {d : D} {v : V} {p : PyData}, Da B H v d → d.py = some p → Dp K H v p
  | .non, _, _, h, e => by
    cases h
    cases e
    exact .non
  | .bl b, _, _, h, e => by
    cases h
    cases e
    exact .bl b
  | .int i, _, _, h, e => by
    cases h
    cases e
    exact .int i
  | .str x, _, _, h, e => by
    cases h
    cases e
    exact .str x
  | .lst ds, _, _, h, e => by
    cases h with
    | lst e1 n l _ =>
      unfold D.py at e
      obtain ⟨ps, e2, rfl⟩ := Option.map_eq_some_iff.mp e
      exact .lst (.of e1) (DaL.pys l e2)
  | .tup ds, _, _, h, e => by
    cases h with
    | tup e1 n l _ =>
      unfold D.py at e
      obtain ⟨ps, e2, rfl⟩ := Option.map_eq_some_iff.mp e
      exact .tup (.of e1) (DaL.pys l e2)
  | .dic _, _, _, _, e => by cases e
  | .dit _, _, _, _, e => by cases e
  | .obj _ _, _, _, _, e => by cases e
  | .opq _, _, _, _, e => by cases e
  | .ty _, _, _, _, e => by cases e
theorem DaL.pys {B : Addr → Prop} : ∀ {ds : List D} {vs : List V} {ps : List PyData}, DaL B H vs ds → D.pys ds = some ps → DpAll K H vs ps
  | [], _, _, h, e => by
    cases h
    cases e
    exact .nil
  | d :: r, _, _, h, e => by
    cases h with
    | cons h1 t =>
      unfold D.pys at e
      cases e1 : d.py with
      | none => rw [e1] at e; cases e
      | some a =>
        cases e2 : D.pys r with
        | none => rw [e1, e2] at e; cases e
        | some b =>
          rw [e1, e2] at e
          cases e
          exact .cons (Da.py h1 e1) (DaL.pys t e2)
end
theorem Ag.py {v : V} {d : D} {p : PyData} (a : Ag W R s H v d) (e : d.py = some p) : Dp K H v p := by
  cases a with
  | da h => exact h.py e
  | lst e1 n l _ =>
    unfold D.py at e
    obtain ⟨ps, e2, rfl⟩ := Option.map_eq_some_iff.mp e
    exact .lst (.of e1) (l.pys e2)
  | dic => cases e
  | dit => cases e
theorem so_eqD : SimO W (rEqD K) wEqD := fun R s H at_ x y d e a b k hw Q hQ => by
  obtain ⟨p, q, h1, h2, h3, h4, h5⟩ := hw
  exact ⟨p, q, a.py h1, b.py h2, h3, h4, hQ _ _ H h5 .refl at_.j (.bl _)⟩
theorem so_neD : SimO W (rNeD K) wNeD := fun R s H at_ x y d e a b k hw Q hQ => by
  obtain ⟨p, q, h1, h2, h3, h4, h5⟩ := hw
  exact ⟨p, q, a.py h1, b.py h2, h3, h4, hQ _ _ H h5 .refl at_.j (.bl _)⟩
theorem so_inD : SimO W (rInD K) wInD := fun R s H at_ x y d e a b k hw Q hQ => by
  obtain ⟨p, q, h1, h2, h3, h4, h5⟩ := hw
  exact ⟨p, q, a.py h1, b.py h2, h3, h4, hQ _ _ H h5 .refl at_.j (.bl _)⟩
theorem so_notInD : SimO W (rNotInD K) wNotInD := fun R s H at_ x y d e a b k hw Q hQ => by
  obtain ⟨p, q, h1, h2, h3, h4, h5⟩ := hw
  exact ⟨p, q, a.py h1, b.py h2, h3, h4, hQ _ _ H h5 .refl at_.j (.bl _)⟩
theorem DaL.ints {B : Addr → Prop} : ∀ {ds : List D} {vs : List V} {ns : List Int}, DaL B H vs ds → D.ints ds = some ns → vs = ns.map V.int
  | [], _, _, .nil, e => by cases e; rfl
  | .int i :: r, _, _, .cons h t, e => by
    cases h
    unfold D.ints at e
    obtain ⟨ms, e2, rfl⟩ := Option.map_eq_some_iff.mp e
    rw [List.map_cons, t.ints e2]
  | .non :: _, _, _, _, e => by cases e
  | .bl _ :: _, _, _, _, e => by cases e
  | .str _ :: _, _, _, _, e => by cases e
  | .lst _ :: _, _, _, _, e => by cases e
  | .tup _ :: _, _, _, _, e => by cases e
  | .dic _ :: _, _, _, _, e => by cases e
  | .dit _ :: _, _, _, _, e => by cases e
  | .obj _ _ :: _, _, _, _, e => by cases e
  | .opq _ :: _, _, _, _, e => by cases e
  | .ty _ :: _, _, _, _, e => by cases e
theorem DaL.bls {B : Addr → Prop} : ∀ {ds : List D} {vs : List V} {ns : List Bool}, DaL B H vs ds → D.bls ds = some ns → vs = ns.map V.bl
  | [], _, _, .nil, e => by cases e; rfl
  | .bl i :: r, _, _, .cons h t, e => by
    cases h
    unfold D.bls at e
    obtain ⟨ms, e2, rfl⟩ := Option.map_eq_some_iff.mp e
    rw [List.map_cons, t.bls e2]
  | .non :: _, _, _, _, e => by cases e
  | .int _ :: _, _, _, _, e => by cases e
  | .str _ :: _, _, _, _, e => by cases e
  | .lst _ :: _, _, _, _, e => by cases e
  | .tup _ :: _, _, _, _, e => by cases e
  | .dic _ :: _, _, _, _, e => by cases e
  | .dit _ :: _, _, _, _, e => by cases e
  | .obj _ _ :: _, _, _, _, e => by cases e
  | .opq _ :: _, _, _, _, e => by cases e
  | .ty _ :: _, _, _, _, e => by cases e
theorem DaL.strs {B : Addr → Prop} : ∀ {ds : List D} {vs : List V} {ns : List Str}, DaL B H vs ds → D.strs ds = some ns → vs = ns.map V.str
  | [], _, _, .nil, e => by cases e; rfl
  | .str i :: r, _, _, .cons h t, e => by
    cases h
    unfold D.strs at e
    obtain ⟨ms, e2, rfl⟩ := Option.map_eq_some_iff.mp e
    rw [List.map_cons, t.strs e2]
  | .non :: _, _, _, _, e => by cases e
  | .int _ :: _, _, _, _, e => by cases e
  | .bl _ :: _, _, _, _, e => by cases e
  | .lst _ :: _, _, _, _, e => by cases e
  | .tup _ :: _, _, _, _, e => by cases e
  | .dic _ :: _, _, _, _, e => by cases e
  | .dit _ :: _, _, _, _, e => by cases e
  | .obj _ _ :: _, _, _, _, e => by cases e
  | .opq _ :: _, _, _, _, e => by cases e
  | .ty _ :: _, _, _, _, e => by cases e
def rTT (K : PySem.W.Frag) (f : List Int → List Int → Bool) : R2 := fun x y H Q => ∃ (a b : Addr) (ns ms : List Int), x = .ref a ∧ y = .ref b ∧ SqT K H a (ns.map V.int) ∧ SqT K H b (ms.map V.int) ∧ Q (.bl (f ns ms)) H
/-! built-ins -/
theorem sc_len : SimC W (Rd.rLen K) wLen := fun R s H at_ xs ds a k hw Q hQ => by
  match ds, a, hw with
  | [.lst es], a, hw =>
    obtain ⟨v, rfl, a1⟩ := a.one
    obtain ⟨p, ys, rfl, e, l, lz⟩ := a1.lstI
    exact .inl ⟨p, ys, rfl, .inl (.of e), hQ _ _ H (by simpa [l.len] using hw) .refl at_.j (.int _)⟩
  | [.tup es], a, hw =>
    obtain ⟨v, rfl, a1⟩ := a.one
    obtain ⟨p, ys, rfl, e, l, _, lz⟩ := a1.tupI
    exact .inl ⟨p, ys, rfl, .inr (.of e), hQ _ _ H (by simpa [l.len] using hw) .refl at_.j (.int _)⟩
  | [.str z], a, hw =>
    obtain ⟨v, rfl, a1⟩ := a.one
    exact .inr ⟨z, by rw [a1.strI.1], a1.strI.2, hQ _ _ H hw .refl at_.j (.int _)⟩
theorem sc_int : SimC W Rd.rInt wInt := fun R s H at_ xs ds a k hw Q hQ => by
  match ds, a, hw with
  | [.int i], a, hw =>
    obtain ⟨v, rfl, a1⟩ := a.one
    exact .inl ⟨i, by rw [a1.intI], hQ _ _ H hw .refl at_.j (.int _)⟩
  | [.bl i], a, hw =>
    obtain ⟨v, rfl, a1⟩ := a.one
    exact .inr ⟨i, by rw [a1.blI], hQ _ _ H hw .refl at_.j (.int _)⟩
theorem sc_str : SimC W rStrI wStrI := fun R s H at_ xs ds a k hw Q hQ => by
  match ds, a, hw with
  | [.int i], a, hw =>
    obtain ⟨v, rfl, a1⟩ := a.one
    exact ⟨i, by rw [a1.intI], hw.1, hQ _ _ H hw.2.2 .refl at_.j (.str hw.2.1)⟩
theorem sc_tuple : SimC W (Rd.rTupOf K) wTupOf := fun R s H at_ xs ds a k hw Q hQ => by
  match ds, a, hw with
  | [.lst es], a, hw =>
    obtain ⟨v, rfl, a1⟩ := a.one
    obtain ⟨p, ys, rfl, e, l, lz⟩ := a1.lstI
    exact ⟨p, ys, rfl, .inl ⟨.of e, fun r hr => hQ _ _ _ hw (.new_at hr at_) (at_.new_at hr).j (.tup upd_same (at_.fresh hr) (l.mv (Fr.new_at hr at_).mv) lz)⟩⟩
  | [.tup es], a, hw =>
    obtain ⟨v, rfl, a1⟩ := a.one
    obtain ⟨p, ys, rfl, e, l, d, lz⟩ := a1.tupI
    exact ⟨p, ys, rfl, .inr ⟨.of e, hQ _ _ H hw .refl at_.j d⟩⟩
theorem sc_all : SimC W (rAll K) wAll := fun R s H at_ xs ds a k hw Q hQ => by
  match ds, a, hw with
  | [.lst es], a, ⟨ns, h1, hw⟩ =>
    obtain ⟨v, rfl, a1⟩ := a.one
    obtain ⟨p, ys, rfl, e, l, lz⟩ := a1.lstI
    have := l.bls h1
    subst this
    exact ⟨p, ns, rfl, .of e, hQ _ _ H hw .refl at_.j (.bl _)⟩
def D.tyv : D → Option Value
  | .non => some (.type "NoneType")
  | .bl _ => some (.type "bool")
  | .int _ => some (.type "int")
  | .str _ => some (.type "str")
  | .lst _ => some (.type "list")
  | .tup _ => some (.type "tuple")
  | .dic _ => some (.type "dict")
  | .dit _ => some (.type "dict")
  | _ => none
theorem Ag.tyv {v : V} {d : D} {t : Value} (a : Ag W R s H v d) (h : d.tyv = some t) : TyX K H v t := by
  cases a with
  | da q =>
    cases q with
    | non => cases h; exact .base .non
    | bl b => cases h; exact .base (.bl b)
    | int i => cases h; exact .base (.int i)
    | str z => cases h; exact .base (.str _)
    | lst e _ _ _ => cases h; exact .base (.lst e)
    | tup e _ _ _ => cases h; exact .base (.tup e)
    | dic e _ _ => cases h; exact .base (.dK e)
    | dit e _ _ => cases h; exact .base (.dT e)
    | _ => cases h
  | lst e _ _ _ => cases h; exact .base (.lst e)
  | dic e _ _ => cases h; exact .base (.dK e)
  | dit e _ _ => cases h; exact .base (.dT e)
theorem isT_kit {d : D} {n : String} {b : Bool} (hn : n ∈ known6) (h : d.isT n = some b) : ∃ t, d.tyv = some t ∧ PySem.W.kitOne K t (.type n) = some b := by
  simp only [known6, List.mem_cons, List.not_mem_nil, or_false] at hn
  rcases hn with rfl | rfl | rfl | rfl | rfl | rfl <;> cases d <;> first | (cases h; exact ⟨_, rfl, rfl⟩) | cases h
theorem sc_isi : SimC W (rIsi K) wIsi := fun R s H at_ xs ds a k hw Q hQ => by
  match ds, a, hw with
  | [d, .ty n], a, ⟨hn, hw⟩ =>
    obtain ⟨v, u, rfl, a1, b1⟩ := a.two
    cases h : d.isT n with
    | none => rw [h] at hw; exact hw.elim
    | some c =>
      rw [h] at hw
      obtain ⟨t, h1, h2⟩ := isT_kit (K := K) hn h
      exact ⟨v, u, t, .type n, c, rfl, by rw [b1.tyI]; exact .ty n, a1.tyv h1, h2, hQ _ _ H hw .refl at_.j (.bl _)⟩
end
section
variable {S : Type} {W : Wd S} {G : Gm S} {K : PySem.W.Frag}
theorem sp_no : SimP W G tNoPart wNoPart := fun R env σ H s rl k x hw ox Q hQ => hQ none s H hw .refl rl.at_.j
theorem sp_part {t : TE} {w : WE S} (h : SimG W G t w) : SimP W G (tPart t) (wPart w) := fun R env σ H s rl k x hw ox Q hQ => h R env σ H s rl _ x hw ox _ fun d s1 v H1 hw1 f1 j1 a1 => by
  cases d with
  | int i => exact ⟨i, a1.intI, hQ _ s1 H1 hw1 f1 j1⟩
  | _ => exact hw1.elim
theorem sim_sl {r : V → Option Int → Option Int → Hp → VK → Prop} {wr : D → Option Int → Option Int → S → (D → S → Prop) → Prop} {te : TE} {tl th : TO} {we : WE S} {wl wh : WO S} (hr : SimL W r wr) (he : SimG W G te we) (hl : SimP W G tl wl) (hh : SimP W G th wh) :
    SimE W G (tSl r te tl th) (wSl wr we wl wh) := fun R env σ H s rl k x hw ox Q hQ => he R env σ H s rl _ x hw ox _ fun d s1 v H1 hw1 f1 j1 a1 => hl R env σ H1 s1 (rl.step f1 j1) _ x hw1 ox _ fun l s2 H2 hw2 f2 j2 =>
    hh R env σ H2 s2 ((rl.step f1 j1).step f2 j2) _ x hw2 ox _ fun u s3 H3 hw3 f3 j3 => hr R s3 H3 (((rl.step f1 j1).step f2 j2).step f3 j3).at_ v d ((a1.fr f2).fr f3) l u k hw3 Q fun d' z H' hk f j a => hQ d' s3 z H' hk (((f1.trans f2).trans f3).trans f) j a
theorem cutD_len (ds : List D) (lo hi : Option Int) : (cutD ds lo hi).length ≤ ds.length := by
  unfold cutD
  rw [List.length_take, List.length_drop]
  omega
theorem DaL.cut {B : Addr → Prop} {H : Hp} {vs : List V} {ds : List D} (h : DaL B H vs ds) (lo hi : Option Int) : DaL B H (cutV vs lo hi) (cutD ds lo hi) := by
  unfold cutV cutD
  rw [h.len]
  exact (h.drop _).take _
theorem sl_t : SimL W (rSlA K) wSlT := fun R s H at_ x d a l h k hw Q hQ => by
  cases d with
  | tup ds =>
    obtain ⟨p, xs, rfl, e, hl, da, lz⟩ := a.tupI
    refine ⟨p, xs, rfl, .of e, fun hx => ?_, fun hx r hr => ?_⟩
    · have hx' : HT.sIx ds.length 0 l = 0 ∧ HT.sIx ds.length ds.length h = ds.length := by rw [hl.len] at hx; exact hx
      have hw' : k (.tup (cutD ds l h)) s := hw
      unfold cutD at hw'
      rw [Dt.cutV_whole hx'] at hw'
      exact hQ _ _ H hw' .refl at_.j da
    · exact hQ _ _ _ hw (.new_at hr at_) (at_.new_at hr).j (.tup upd_same (at_.fresh hr) ((hl.cut l h).mv (Fr.new_at hr at_).mv) (Nat.le_trans (cutD_len _ _ _) lz))
  | _ => exact hw.elim
theorem sl_l : SimL W (rSlL K) wSlL := fun R s H at_ x d a l h k hw Q hQ => by
  cases d with
  | lst ds =>
    obtain ⟨p, xs, rfl, e, hl, lz⟩ := a.lstI
    exact ⟨p, xs, rfl, .of e, fun r hr => hQ _ _ _ hw (.new_at hr at_) (at_.new_at hr).j (.lst upd_same (at_.fresh hr) ((hl.cut l h).mv (Fr.new_at hr at_).mv) (Nat.le_trans (cutD_len _ _ _) lz))⟩
  | _ => exact hw.elim
theorem cutS_le (z : Str) (l h : Option Int) : (cutS z l h).length ≤ z.length := by
  show (Array.size _) ≤ _
  rw [cutS]
  simp only [List.size_toArray, List.length_take, List.length_drop]
  have : z.cps.toList.length = z.length := by simp [Str.length]
  omega
theorem sl_s : SimL W rSlS wSlS := fun R s H at_ x d a l h k hw Q hQ => by
  cases d with
  | str z => exact ⟨z, a.strI.1, a.strI.2, hQ _ _ H hw .refl at_.j (.str (Nat.le_trans (cutS_le z l h) a.strI.2))⟩
  | _ => exact hw.elim
end
end Dw
set_option Elab.async false
set_option linter.all false
set_option maxRecDepth 100000
set_option maxHeartbeats 4000000
/-! Dn: what is walked, targets, comprehensions, statements, defs over data. -/
namespace Dw
open PySem PySem.Spec PyProof.Rows L2 RZ
abbrev WG := D → List Sl → (List Sl → Prop) → Prop
abbrev WI (S : Type) := List Sl → S → (List D → S → Prop) → (Xc → S → Prop) → Prop
section
variable {S : Type} (W : Wd S) (G : Gm S)
/-- an iterator of just these items, while St holds -/
structure Itr (J : It) (ds : List D) (St : (Addr → Prop) → S → Hp → Prop) : Prop where
  mv : ∀ R s H R' s' H', St R s H → Mv (Bf W R s) H (Bf W R' s') H' → St R' s' H'
  go : ∀ i R s H, i < ds.length → St R s H → J.go i H
  stop : ∀ R s H, St R s H → J.stop ds.length H
  yld : ∀ i R s H x H', i < ds.length → St R s H → At W R s H → J.yld i H x H' → ∃ d, ds[i]? = some d ∧ Fr W s H s H' ∧ W.J s H' ∧ Da (Bf W R s) H' x d
def SimI (t : TI) (w : WI S) : Prop := ∀ R env σ H s, Rel W G R env σ H s → ∀ k x, w env s k x → XOk W G x → ∀ Q : It → Hp → Prop,
  (∀ ds s' J H' St, k ds s' → Fr W s H s' H' → W.J s' H' → Itr W J ds St → St R s' H' → Q J H') → t σ H Q
/-- a target; us the slots that it sets -/
def SimTg (us : List Nat) (g : TG) (w : WG) : Prop := ∀ R env σ H s, Rel W G R env σ H s → ∀ v d, Da (Bf W R s) H v d → ∀ k, w d env k → ∀ Q : L2.St → Hp → Prop,
  (∀ env' σ', k env' → Rel W G R env' σ' H s → (∀ j, j ∉ us → σ'[j]? = σ[j]?) → σ'.length = σ.length → Q σ' H) → g v σ H Q
def SimTgs (us : List Nat) (g : TGs) (w : List D → List Sl → (List Sl → Prop) → Prop) : Prop := ∀ R env σ H s, Rel W G R env σ H s → ∀ v d, DaL (Bf W R s) H v d → ∀ k, w d env k → ∀ Q : L2.St → Hp → Prop,
  (∀ env' σ', k env' → Rel W G R env' σ' H s → (∀ j, j ∉ us → σ'[j]? = σ[j]?) → σ'.length = σ.length → Q σ' H) → g v σ H Q
end
section
variable {S : Type}
@[simp] def wName (i : Nat) : WG := fun d env k => k (ss env i (.dat d))
@[simp] def wGTup (n : Nat) (w : List D → List Sl → (List Sl → Prop) → Prop) : WG := fun d env k => match d with
  | .tup ds => ds.length = n ∧ w ds env k
  | _ => False
@[simp] def wGNil : List D → List Sl → (List Sl → Prop) → Prop := fun ds env k => match ds with
  | [] => k env
  | _ => False
@[simp] def wGCons (w : WG) (u : List D → List Sl → (List Sl → Prop) → Prop) : List D → List Sl → (List Sl → Prop) → Prop := fun ds env k => match ds with
  | d :: r => w d env fun e => u r e k
  | _ => False
def pairD : List D → List D → List D
  | a :: r, b :: t => .tup [a, b] :: pairD r t
  | _, _ => []
def enumD : Nat → List D → List D
  | _, [] => []
  | n, d :: r => .tup [.int (n : Int), d] :: enumD (n + 1) r
@[simp] def wiTup (w : WE S) : WI S := fun env s k x => w env s (fun d s1 => match d with
  | .tup ds => k ds s1
  | _ => False) x
@[simp] def wiList (w : WE S) : WI S := fun env s k x => w env s (fun d s1 => match d with
  | .lst ds => k ds s1
  | _ => False) x
def signs (z : Str) : List D := z.cps.toList.map fun c => .str ⟨#[c]⟩
@[simp] def wiStr (w : WE S) : WI S := fun env s k x => w env s (fun d s1 => match d with
  | .str z => k (signs z) s1
  | _ => False) x
def rngD (lo : Int) (n : Nat) : List D := (List.range n).map fun i => .int (lo + (i : Nat))
@[simp] def wiRng1 (w : WA S) : WI S := fun env s k x => w env s (fun ds s1 => match ds with
  | [.int j] => j < sizeLine ∧ -(2 ^ 62) ≤ j ∧ k (rngD 0 j.toNat) s1
  | _ => False) x
@[simp] def wiRng2 (w : WA S) : WI S := fun env s k x => w env s (fun ds s1 => match ds with
  | [.int i, .int j] => j - i < sizeLine ∧ (-(2 ^ 62) ≤ i ∧ i < 2 ^ 62 ∧ -(2 ^ 62) ≤ j ∧ j < 2 ^ 62) ∧ k (rngD i (j - i).toNat) s1
  | _ => False) x
@[simp] def wiEnum (w : WA S) : WI S := fun env s k x => w env s (fun ds s1 => match ds with
  | [.lst es] => k (enumD 0 es) s1
  | _ => False) x
@[simp] def wiZip (w : WA S) : WI S := fun env s k x => w env s (fun ds s1 => match ds with
  | [.lst es, .lst fs] => k (pairD es fs) s1
  | [.tup es, .tup fs] => k (pairD es fs) s1
  | _ => False) x
@[simp] def wiRev (w : WE S) : WI S := fun env s k x => w env s (fun d s1 => match d with
  | .lst es => k es.reverse s1
  | .tup es => k es.reverse s1
  | _ => False) x
end
section
variable {S : Type} {W : Wd S} {G : Gm S} {K : PySem.W.Frag}
theorem tg_name {i : Nat} : SimTg W G [i] (gName i) (wName i) := fun R env σ H s rl v d a k hw Q hQ => hQ _ _ hw (rl.setD i a) (fun j hj => by
  rw [List.getElem?_set_ne (by simp at hj; omega)]) (List.length_set ..)
theorem tgs_nil : SimTgs W G [] gNil wGNil := fun R env σ H s rl v d a k hw Q hQ => by
  cases a with
  | nil => exact ⟨rfl, hQ _ _ hw rl (fun _ _ => rfl) rfl⟩
  | cons _ _ => exact hw.elim
theorem tgs_cons {g : TG} {u : TGs} {w : WG} {wu : List D → List Sl → (List Sl → Prop) → Prop} {us vs : List Nat} (hg : SimTg W G us g w) (hu : SimTgs W G vs u wu) : SimTgs W G (us ++ vs) (gCons g u) (wGCons w wu) := fun R env σ H s rl v d a k hw Q hQ => by
  cases a with
  | nil => exact hw.elim
  | cons a t => exact ⟨_, _, rfl, hg R env σ H s rl _ _ a _ hw _ fun env' σ' hk rl' ag ln => hu R env' σ' H s rl' _ _ t k hk Q fun env2 σ2 hk2 rl2 ag2 ln2 =>
      hQ env2 σ2 hk2 rl2 (fun j hj => by rw [ag2 j fun z => hj (List.mem_append.mpr (.inr z)), ag j fun z => hj (List.mem_append.mpr (.inl z))]) (ln2.trans ln)⟩
theorem tg_tup {n : Nat} {u : TGs} {wu : List D → List Sl → (List Sl → Prop) → Prop} {us : List Nat} (hu : SimTgs W G us u wu) : SimTg W G us (gTup K n u) (wGTup n wu) := fun R env σ H s rl v d a k hw Q hQ => by
  cases d with
  | tup ds =>
    cases a with
    | tup e nb l z => exact ⟨_, _, rfl, .of e, by rw [l.len]; exact hw.1, hu R env σ H s rl _ _ l k hw.2 Q hQ⟩
  | _ => exact hw.elim
theorem itr_tup {a : Addr} {ds : List D} : Itr W (Itt K a) ds (fun R s H => Da (Bf W R s) H (.ref a) (.tup ds)) where
  mv R s H R' s' H' h m := h.mv m
  go i R s H hi h := by
    cases h with
    | tup e n l z =>
      obtain ⟨v, hv, _⟩ := l.get' (i := i) (d := ds[i]) (List.getElem?_eq_getElem hi)
      exact ⟨_, v, .of e, hv⟩
  stop R s H h := by
    cases h with
    | tup e n l z => exact ⟨_, .of e, Nat.le_of_eq l.len⟩
  yld i R s H x H' hi h at_ y := by
    cases h with
    | tup e n l z =>
      obtain ⟨rfl, y⟩ := y
      obtain ⟨d, hd, q⟩ := l.get (y _ (.of e))
      exact ⟨d, hd, .refl, at_.j, q⟩
theorem itr_lst {a : Addr} {ds : List D} : Itr W (Itl K a) ds (fun R s H => Da (Bf W R s) H (.ref a) (.lst ds)) where
  mv R s H R' s' H' h m := h.mv m
  go i R s H hi h := by
    cases h with
    | lst e n l z =>
      obtain ⟨v, hv, _⟩ := l.get' (i := i) (d := ds[i]) (List.getElem?_eq_getElem hi)
      exact ⟨_, v, .of e, hv⟩
  stop R s H h := by
    cases h with
    | lst e n l z => exact ⟨_, .of e, Nat.le_of_eq l.len⟩
  yld i R s H x H' hi h at_ y := by
    cases h with
    | lst e n l z =>
      obtain ⟨rfl, y⟩ := y
      obtain ⟨d, hd, q⟩ := l.get (y _ (.of e))
      exact ⟨d, hd, .refl, at_.j, q⟩
theorem itr_str {z : Str} : Itr W (Its z) (signs z) (fun R s H => True) where
  mv R s H R' s' H' h m := h
  go i R s H hi h := by
    show i < z.cps.size
    simpa [signs] using hi
  stop R s H h := by
    show z.cps.size ≤ _
    simp [signs]
  yld i R s H x H' hi h at_ y := by
    obtain ⟨rfl, c, hc, rfl⟩ := y
    refine ⟨.str ⟨#[c]⟩, ?_, .refl, at_.j, .str (one_le c)⟩
    unfold signs
    rw [List.getElem?_map, Array.getElem?_toList, hc]
    rfl
theorem itr_rng {lo : Int} {n : Nat} : Itr W (L2.Itr lo n) (rngD lo n) (fun R s H => True) where
  mv R s H R' s' H' h m := h
  go i R s H hi h := by
    show i < n
    simpa [rngD] using hi
  stop R s H h := by
    show n ≤ _
    simp [rngD]
  yld i R s H x H' hi h at_ y := by
    obtain ⟨rfl, rfl⟩ := y
    refine ⟨.int (lo + (i : Nat)), ?_, .refl, at_.j, .int _⟩
    have hi' : i < n := by simpa [rngD] using hi
    unfold rngD
    rw [List.getElem?_map, List.getElem?_range hi']
    rfl
theorem enumD_len : ∀ (n : Nat) (ds : List D), (enumD n ds).length = ds.length
  | _, [] => rfl
  | n, d :: r => congrArg (· + 1) (enumD_len (n + 1) r)
theorem enumD_get : ∀ (n : Nat) (ds : List D) (i : Nat) (d : D), ds[i]? = some d → (enumD n ds)[i]? = some (.tup [.int ((n + i : Nat) : Int), d])
  | _, [], _, _, h => by cases h
  | n, e :: r, 0, d, h => by cases h; rfl
  | n, e :: r, i + 1, d, h => by
    have := enumD_get (n + 1) r i d h
    rw [show n + (i + 1) = n + 1 + i by omega]
    exact this
theorem two_le : (2 : Nat) ≤ sizeLine := by decide
theorem pairD_len : ∀ (ds es : List D), (pairD ds es).length = min ds.length es.length
  | [], _ => by simp [pairD]
  | _ :: _, [] => by simp [pairD]
  | a :: r, b :: t => by
    show (pairD r t).length + 1 = min (r.length + 1) (t.length + 1)
    rw [pairD_len r t]
    omega
theorem pairD_get : ∀ (ds es : List D) (i : Nat) (d e : D), ds[i]? = some d → es[i]? = some e → (pairD ds es)[i]? = some (.tup [d, e])
  | [], _, _, _, _, h, _ => by cases h
  | _ :: _, [], _, _, _, _, h => by cases h
  | a :: r, b :: t, 0, d, e, h1, h2 => by cases h1; cases h2; rfl
  | a :: r, b :: t, i + 1, d, e, h1, h2 => pairD_get r t i d e h1 h2
theorem itr_zipL {a b : Addr} {ds es : List D} : Itr W (Itz K a b) (pairD ds es) (fun R s H => Da (Bf W R s) H (.ref a) (.lst ds) ∧ Da (Bf W R s) H (.ref b) (.lst es)) where
  mv R s H R' s' H' h m := ⟨h.1.mv m, h.2.mv m⟩
  go i R s H hi h := by
    rw [pairD_len] at hi
    obtain ⟨h1, h2⟩ := h
    cases h1 with
    | lst e n l z =>
      cases h2 with
      | lst e2 n2 l2 z2 =>
        obtain ⟨v, hv, _⟩ := l.get' (i := i) (d := ds[i]'(by omega)) (List.getElem?_eq_getElem _)
        obtain ⟨u, hu, _⟩ := l2.get' (i := i) (d := es[i]'(by omega)) (List.getElem?_eq_getElem _)
        exact ⟨_, _, v, u, .of e, .of e2, hv, hu⟩
  stop R s H h := by
    obtain ⟨h1, h2⟩ := h
    cases h1 with
    | lst e n l z =>
      cases h2 with
      | lst e2 n2 l2 z2 => exact ⟨_, _, .of e, .of e2, by rw [pairD_len, l.len, l2.len]; omega⟩
  yld i R s H x H' hi h at_ y := by
    obtain ⟨h1, h2⟩ := h
    cases h1 with
    | lst e n l z =>
      cases h2 with
      | lst e2 n2 l2 z2 =>
        obtain ⟨T, v, u, rfl, hT, rfl, y1, y2⟩ := y
        obtain ⟨d, hd, q⟩ := l.get (y1 _ (.of e))
        obtain ⟨d2, hd2, q2⟩ := l2.get (y2 _ (.of e2))
        exact ⟨_, pairD_get ds es i d d2 hd hd2, .new_at hT at_, (at_.new_at hT).j, .tup upd_same (at_.fresh hT) (.cons (q.mv (Fr.new_at hT at_).mv) (.cons (q2.mv (Fr.new_at hT at_).mv) .nil)) two_le⟩
theorem itr_zipT {a b : Addr} {ds es : List D} : Itr W (ItzT K a b) (pairD ds es) (fun R s H => Da (Bf W R s) H (.ref a) (.tup ds) ∧ Da (Bf W R s) H (.ref b) (.tup es)) where
  mv R s H R' s' H' h m := ⟨h.1.mv m, h.2.mv m⟩
  go i R s H hi h := by
    rw [pairD_len] at hi
    obtain ⟨h1, h2⟩ := h
    cases h1 with
    | tup e n l z =>
      cases h2 with
      | tup e2 n2 l2 z2 =>
        obtain ⟨v, hv, _⟩ := l.get' (i := i) (d := ds[i]'(by omega)) (List.getElem?_eq_getElem _)
        obtain ⟨u, hu, _⟩ := l2.get' (i := i) (d := es[i]'(by omega)) (List.getElem?_eq_getElem _)
        exact ⟨_, _, v, u, .of e, .of e2, hv, hu⟩
  stop R s H h := by
    obtain ⟨h1, h2⟩ := h
    cases h1 with
    | tup e n l z =>
      cases h2 with
      | tup e2 n2 l2 z2 => exact ⟨_, _, .of e, .of e2, by rw [pairD_len, l.len, l2.len]; omega⟩
  yld i R s H x H' hi h at_ y := by
    obtain ⟨h1, h2⟩ := h
    cases h1 with
    | tup e n l z =>
      cases h2 with
      | tup e2 n2 l2 z2 =>
        obtain ⟨T, v, u, rfl, hT, rfl, y1, y2⟩ := y
        obtain ⟨d, hd, q⟩ := l.get (y1 _ (.of e))
        obtain ⟨d2, hd2, q2⟩ := l2.get (y2 _ (.of e2))
        exact ⟨_, pairD_get ds es i d d2 hd hd2, .new_at hT at_, (at_.new_at hT).j, .tup upd_same (at_.fresh hT) (.cons (q.mv (Fr.new_at hT at_).mv) (.cons (q2.mv (Fr.new_at hT at_).mv) .nil)) two_le⟩
theorem si_rng1 {t : TA} {w : WA S} (h : SimB W G t w) : SimI W G (iRng1 t) (wiRng1 w) := fun R env σ H s rl k x hw ox Q hQ => h R env σ H s rl _ x hw ox _ fun ds s1 vs H1 hw1 f1 j1 a1 => by
  match ds, a1, hw1 with
  | [.int j], a1, ⟨h1, h2, hw1⟩ =>
    obtain ⟨v, rfl, a⟩ := a1.one
    exact ⟨j, by rw [a.intI], h2, by rw [sizeLine_eq] at h1; omega, hQ _ s1 _ H1 _ hw1 f1 j1 itr_rng True.intro⟩
theorem si_zip {t : TA} {w : WA S} (h : SimA W G t w) : SimI W G (iZipA K t) (wiZip w) := fun R env σ H s rl k x hw ox Q hQ => h R env σ H s rl _ x hw ox _ fun ds s1 vs H1 hw1 f1 j1 a1 => by
  match ds, a1, hw1 with
  | [.lst es, .lst fs], .cons a (.cons b .nil), hw1 =>
    cases a with
    | lst e n l z => cases b with
      | lst e2 n2 l2 z2 => exact ⟨_, _, _, _, rfl, .inl ⟨.of e, .of e2, hQ _ s1 _ H1 _ hw1 f1 j1 itr_zipL ⟨.lst e n l z, .lst e2 n2 l2 z2⟩⟩⟩
  | [.tup es, .tup fs], .cons a (.cons b .nil), hw1 =>
    cases a with
    | tup e n l z => cases b with
      | tup e2 n2 l2 z2 => exact ⟨_, _, _, _, rfl, .inr ⟨.of e, .of e2, hQ _ s1 _ H1 _ hw1 f1 j1 itr_zipT ⟨.tup e n l z, .tup e2 n2 l2 z2⟩⟩⟩
end
/-! comprehensions -/
@[simp] def wp : List Sl → List Nat → List Sl
  | e, [] => e
  | e, v :: vs => ss (wp e vs) v .no
section
variable {S : Type}
def wLc (g : WG) (tt : WT S) (te : WE S) (vs : List Nat) : List D → List Sl → S → (List D → S → Prop) → (Xc → S → Prop) → Prop
  | [], _, s, k, _ => k [] s
  | d :: r, env, s, k, x => g d (wp env vs) fun env1 => tt env1 s (fun b s1 => if b = true then te env1 s1 (fun y s2 => wLc g tt te vs r env s2 (fun ys s3 => k (y :: ys) s3) x) x else wLc g tt te vs r env s1 k x) x
@[simp] def wLcE (wi : WI S) (g : WG) (tt : WT S) (te : WE S) (vs : List Nat) : WE S := fun env s k x => wi env s (fun ds s1 => ds.length ≤ sizeLine ∧ wLc g tt te vs ds env s1 (fun ys s2 => k (.lst ys) s2) x) x
@[simp] def wLcF (wi : WI S) (g : WG) (tt : WT S) (te : WE S) (vs : List Nat) : WI S := fun env s k x => wi env s (fun ds s1 => ds.length ≤ sizeLine ∧ wLc g tt te vs ds env s1 k x) x
end
section
variable {S : Type} {W : Wd S} {G : Gm S} {K : PySem.W.Frag}
theorem Rel.setN {R : Addr → Prop} {env : List Sl} {σ : L2.St} {H : Hp} {s : S} (r : Rel W G R env σ H s) (i : Nat) : Rel W G R (ss env i .no) (σ.set i none) H s := by
  refine ⟨r.at_, r.fr, r.r0, r.z0, ?_⟩
  by_cases hi : i < env.length
  · have sn : ∀ j, i ≠ j → (σ.set i none)[j]? = σ[j]? := fun j n => List.getElem?_set_ne n
    have nn : ∀ j, (sg (ss env i .no) j).isO = true → i ≠ j := fun j h => by
      rintro rfl
      rw [sg_ss _ _ _ hi] at h
      cases h
    refine ⟨by rw [List.length_set, ss_len]; exact r.env.len, fun j e he => ?_, fun j he => ?_, fun j l p h1 h2 h3 h4 => ?_⟩
    · by_cases n : i = j
      · subst n
        rw [sg_ss _ _ _ hi] at he
        cases he
      · rw [sg_ss_ne _ _ _ _ n] at he
        rw [sn j n]
        exact r.env.dat j e he
    · have n := nn j he
      rw [sg_ss_ne _ _ _ _ n] at he ⊢
      rw [sn j n]
      exact r.env.own j he
    · have n1 := nn j h1
      have n2 := nn l h2
      rw [sg_ss_ne _ _ _ _ n1] at h1
      rw [sg_ss_ne _ _ _ _ n2] at h2
      rw [sn j n1] at h3
      rw [sn l n2] at h4
      exact r.env.uniq j l p h1 h2 h3 h4
  · rw [ss_out _ _ _ (Nat.le_of_not_lt hi), List.set_eq_of_length_le (by rw [r.env.len]; exact Nat.le_of_not_lt hi)]
    exact r.env
theorem Rel.wipe {R : Addr → Prop} {env : List Sl} {σ : L2.St} {H : Hp} {s : S} (r : Rel W G R env σ H s) : ∀ vs : List Nat, Rel W G R (wp env vs) (L2.wipe σ vs) H s
  | [] => r
  | v :: vs => (r.wipe vs).setN v
theorem wipe_get (σ : L2.St) : ∀ (vs : List Nat) (j : Nat), (L2.wipe σ vs)[j]? = if j ∈ vs ∧ j < σ.length then some none else σ[j]?
  | [], j => by simp [L2.wipe]
  | v :: vs, j => by
    show ((L2.wipe σ vs).set v none)[j]? = _
    rw [List.getElem?_set]
    have := wipe_get σ vs j
    by_cases h : v = j
    · subst h
      by_cases hl : v < σ.length
      · rw [if_pos rfl, if_pos (by rw [L2.wipe_length]; exact hl), if_pos ⟨by simp, hl⟩]
      · rw [if_pos rfl, if_neg (by rw [L2.wipe_length]; exact hl), if_neg (fun z => hl z.2), List.getElem?_eq_none (Nat.le_of_not_lt hl)]
    · rw [if_neg h, this]
      have e : (j ∈ v :: vs) ↔ j ∈ vs := by simp [List.mem_cons, Ne.symm h]
      simp only [e]
theorem wipe_eq {σ σ2 : L2.St} {us vs : List Nat} (hl : σ2.length = σ.length) (hs : ∀ j, j ∈ us → j ∈ vs) (h : ∀ j, j ∉ us → σ2[j]? = (L2.wipe σ vs)[j]?) : L2.wipe σ2 vs = L2.wipe σ vs := by
  refine List.ext_getElem? fun j => ?_
  rw [wipe_get σ2, hl]
  by_cases m : j ∈ vs ∧ j < σ.length
  · rw [if_pos m, wipe_get σ, if_pos m]
  · rw [if_neg m]
    by_cases u : j ∈ us
    · have hj : σ.length ≤ j := Nat.le_of_not_lt fun z => m ⟨hs j u, z⟩
      rw [List.getElem?_eq_none (by rw [hl]; exact hj), List.getElem?_eq_none (by rw [L2.wipe_length]; exact hj)]
    · exact h j u
/-- a new list beside the slots, changed -/
theorem Rel.side {R : Addr → Prop} {env : List Sl} {σ : L2.St} {H : Hp} {s : S} (r : Rel W G R env σ H s) {p : Addr} {o : HO} (hp : R p) (hz : G.H0 p = none) (hn : ∀ i, (sg env i).isO = true → σ[i]? ≠ some (some (.ref p))) (ho : ∀ xs, o ≠ .tup xs := by intro _ h; cases h) :
    Rel W G R env σ (upd H p o) s ∧ Mv (Bf W R s) H (Bf W R s) (upd H p o) := by
  have nc := (r.at_.r p hp).2
  have m : Mv (Bf W R s) H (Bf W R s) (upd H p o) := fun b u q n => by
    refine ⟨?_, n⟩
    rw [upd_ne fun z => n (by rw [z]; exact .inl hp)]
    exact q
  refine ⟨⟨⟨W.st s H _ r.at_.j (fun b c => upd_ne fun z => nc (by rw [← z]; exact c)) fun b xs e => (by rw [upd_ne fun z => r.at_.t p xs hp (by rw [← z]; exact e)]; exact e), fun b q => ?_, fun b xs q w => ?_⟩, ⟨fun b u q n => ?_, r.fr.grow, r.fr.new⟩, r.r0, r.z0, ⟨r.env.len, fun i d e => ?_, fun i e => ?_, r.env.uniq⟩⟩, m⟩
  · by_cases z : b = p
    · rw [z, upd_same]
      exact ⟨by simp, nc⟩
    · rw [upd_ne z]
      exact r.at_.r b q
  · by_cases z : b = p
    · rw [z, upd_same] at w
      cases w
      exact ho xs rfl
    · rw [upd_ne z] at w
      exact r.at_.t b xs q w
  · rw [upd_ne (fun z => by rw [z, hz] at q; cases q)]
    exact r.fr.kp b u q n
  · obtain ⟨v, h1, h2⟩ := r.env.dat i d e
    exact ⟨v, h1, h2.mv m⟩
  · obtain ⟨q, h1, h2, h3, h4⟩ := r.env.own i e
    refine ⟨q, h1, h2, h3, h4.mv m fun u z => ?_⟩
    rw [upd_ne fun z => hn i e (by rw [h1, z])]
    exact z
theorem Rel.more {R : Addr → Prop} {env : List Sl} {σ : L2.St} {H : Hp} {s : S} (r : Rel W G R env σ H s) {p : Addr} {o : HO} (hp : H p = none) (ho : ∀ xs, o ≠ .tup xs := by intro _ h; cases h) : Rel W G (fun a => R a ∨ a = p) env σ (upd H p o) s := by
  have nf := r.at_.fresh hp
  have m := r.at_.off (o := o) hp
  have at1 := r.at_.new_at (o := o) hp
  refine ⟨⟨at1.j, fun b q => ?_, fun b xs q w => ?_⟩, r.fr.trans (Fr.new_at hp r.at_), fun b q => .inl (r.r0 b q), r.z0, ⟨r.env.len, fun i d e => ?_, fun i e => ?_, r.env.uniq⟩⟩
  · rcases q with q | q
    · exact at1.r b q
    · rw [q, upd_same]
      exact ⟨by simp, fun c => nf (.inr c)⟩
  · rcases q with q | q
    · exact at1.t b xs q w
    · rw [q, upd_same] at w
      cases w
      exact ho xs rfl
  · obtain ⟨v, h1, h2⟩ := r.env.dat i d e
    exact ⟨v, h1, h2.mv m⟩
  · obtain ⟨q, h1, h2, h3, h4⟩ := r.env.own i e
    refine ⟨q, h1, .inl h2, h3, h4.mv m fun u z => ?_⟩
    rw [upd_ne fun z => (r.at_.r q h2).1 (by rw [z]; exact hp)]
    exact z
theorem sim_lcF {us : List Nat} {wi : TI} {g : TG} {tt : TT} {te : TE} {vs : List Nat} {wI : WI S} {wg : WG} {wt : WT S} {we : WE S} (hi : SimI W G wi wI) (hg : SimTg W G us g wg) (ht : SimT W G tt wt) (he : SimE W G te we) (hs : ∀ j, j ∈ us → j ∈ vs := by decide) :
    SimF W G (tLc wi g tt te vs) (wLcF wI wg wt we vs) := by
  intro R env σ H s rl k x hw ox Q hQ
  refine hi R env σ H s rl _ x hw ox _ fun ds s1 J H1 St hw1 f1 j1 it st p hp => ?_
  obtain ⟨hlen, hw1⟩ := hw1
  have r1 := rl.step f1 j1
  have rm := r1.more (o := .lst []) hp
  have m0 := r1.at_.off (o := .lst []) hp
  have hz := r1.new0 hp
  have hn : ∀ i, (sg env i).isO = true → σ[i]? ≠ some (some (.ref p)) := fun i e z => by
    obtain ⟨q, h1, h2, _⟩ := r1.env.own i e
    rw [z] at h1
    cases h1
    exact (r1.at_.r p h2).1 hp
  refine ⟨fun i m H2 => m = ds.length - i ∧ i ≤ ds.length ∧ ∃ s2 acc da, wLc wg wt we vs (ds.drop i) env s2 (fun ys s3 => k (da ++ ys) s3) x ∧ H2 p = some (.lst acc) ∧ acc.length ≤ i ∧ DaL (Bf W (fun a => R a ∨ a = p) s2) H2 acc da ∧
      Rel W G (fun a => R a ∨ a = p) env σ H2 s2 ∧ St (fun a => R a ∨ a = p) s2 H2 ∧ Fr W s1 H1 s2 H2, ⟨ds.length, by simp, Nat.zero_le _, s1, [], [], hw1, upd_same, Nat.le_refl _, .nil, rm, it.mv _ _ _ _ _ _ st m0, .new_at hp r1.at_⟩, ?_⟩
  rintro i m H2 ⟨rfl, hi', s2, acc, da, hw2, e2, la, da2, rl2, st2, f2⟩
  by_cases hlt : i < ds.length
  · refine .inr ⟨it.go i _ _ _ hlt st2, fun H' => i + 1 ≤ ds.length ∧ ∃ s2 acc da, wLc wg wt we vs (ds.drop (i + 1)) env s2 (fun ys s3 => k (da ++ ys) s3) x ∧ H' p = some (.lst acc) ∧ acc.length ≤ i + 1 ∧ DaL (Bf W (fun a => R a ∨ a = p) s2) H' acc da ∧
      Rel W G (fun a => R a ∨ a = p) env σ H' s2 ∧ St (fun a => R a ∨ a = p) s2 H' ∧ Fr W s1 H1 s2 H', fun H' h => ⟨ds.length - (i + 1), by omega, rfl, h⟩, fun v H3 hy => ?_⟩
    obtain ⟨d, hd, f3, j3, a3⟩ := it.yld i _ _ _ v H3 hlt st2 rl2.at_ hy
    have dr : ds.drop i = d :: ds.drop (i + 1) := by
      have h1 := List.getElem?_eq_some_iff.mp hd
      obtain ⟨h2, h3⟩ := h1
      rw [List.drop_eq_getElem_cons h2, h3]
    rw [dr] at hw2
    have rl3 := rl2.step f3 j3
    have e3 := f3.kp _ _ e2 (rl2.at_.r p (.inr rfl)).2
    refine hg _ _ _ H3 s2 (rl3.wipe vs) v d a3 _ hw2 _ fun env1 σ1 hw3 rl4 ag ln => ⟨wipe_eq (ln.trans (L2.wipe_length σ vs)) hs ag, ?_⟩
    refine ht _ _ _ H3 s2 rl4 _ x hw3 ox _ fun b s4 H4 hw4 f4 j4 => ?_
    have rl5 := rl3.step f4 j4
    have st5 := it.mv _ _ _ _ _ _ (it.mv _ _ _ _ _ _ st2 f3.mv) f4.mv
    have e4 := f4.kp _ _ e3 (rl3.at_.r p (.inr rfl)).2
    cases b with
    | false => exact Rd.iteF ⟨hlt, s4, acc, da, by simpa using hw4, e4, by omega, (da2.mv f3.mv).mv f4.mv, rl5, st5, (f2.trans f3).trans f4⟩
    | true =>
      refine Rd.iteT (he _ _ _ H4 s4 (rl4.step f4 j4) _ x (by simpa using hw4) ox _ fun y s5 yv H5 hw5 f5 j5 a5 => ?_)
      have e5 := f5.kp _ _ e4 (rl5.at_.r p (.inr rfl)).2
      have rl6 := rl5.step f5 j5
      obtain ⟨rl7, m7⟩ := rl6.side (o := .lst (acc ++ [yv])) (.inr rfl) hz hn
      refine ⟨acc, e5, by rw [sizeLine_eq] at hlen ⊢; omega, hlt, s5, acc ++ [yv], da ++ [y], ?_, upd_same, by simp; omega, ?_, rl7, it.mv _ _ _ _ _ _ (it.mv _ _ _ _ _ _ st5 f5.mv) m7, ?_⟩
      · simpa using hw5
      · exact ((((da2.mv f3.mv).mv f4.mv).mv f5.mv).app (.cons a5 .nil)).mv m7
      · have f6 := ((f2.trans f3).trans f4).trans f5
        exact ⟨fun b o e n => by
          rw [upd_ne fun z => by rw [z, hp] at e; cases e]
          exact f6.kp b o e n, f6.grow, f6.new⟩
  · have e : i = ds.length := by omega
    subst e
    rw [List.drop_length] at hw2
    refine .inl ⟨it.stop _ _ _ st2, ?_⟩
    have nb : ¬ Bf W R s2 p := fun z => z.elim (fun q => (r1.at_.r p q).1 hp) (rl2.at_.r p (.inr rfl)).2
    exact hQ da s2 p acc H2 (by have hw2' : k (da ++ []) s2 := hw2; rwa [List.append_nil] at hw2') (f1.trans f2) rl2.at_.j (f1.none rl.at_.j hp j1) e2 nb da2 (by rw [← da2.len]; exact Nat.le_trans la hlen)
end
end Dw
set_option Elab.async false
set_option linter.all false
set_option maxRecDepth 100000
set_option maxHeartbeats 4000000
/-! Dm: statements and defs over data. -/
namespace Dw
open PySem PySem.Spec PyProof.Rows L2 RZ
section
variable {S : Type}
@[simp] def wSeq (u v : WS S) : WS S := fun K env s => u { K with nx := fun e t => v K e t } env s
@[simp] def wNext : WS S := fun K env s => K.nx env s
@[simp] def wBreak : WS S := fun K env s => K.bk env s
@[simp] def wCont : WS S := fun K env s => K.ct env s
@[simp] def wRetN : WS S := fun K env s => K.rt .non s
@[simp] def frzA (env : List Sl) : List Sl := env.map Sl.frz
@[simp] def wRet (w : WE S) : WS S := fun K env s => w (frzA env) s K.rt K.xc
@[simp] def wDrop (w : WE S) : WS S := fun K env s => w env s (fun _ t => K.nx env t) K.xc
@[simp] def wIfS (c : WT S) (u v : WS S) : WS S := fun K env s => c env s (fun b t => if b = true then u K env t else v K env t) K.xc
@[simp] def wAsg (w : WE S) (g : WG) : WS S := fun K env s => w env s (fun d t => g d env fun e => K.nx e t) K.xc
@[simp] def wAsgO (w : WI S) (i : Nat) : WS S := fun K env s => w env s (fun ds t => K.nx (ss env i (.own ds)) t) K.xc
@[simp] def wPar (i j : Nat) (w : WA S) : WS S := fun K env s => w env s (fun ds t => match ds with
  | [d, e] => K.nx (ss (ss env i (.dat d)) j (.dat e)) t
  | _ => False) K.xc
@[simp] def wPar3 (i j l : Nat) (w : WA S) : WS S := fun K env s => w env s (fun ds t => match ds with
  | [d, e, f] => K.nx (ss (ss (ss env i (.dat d)) j (.dat e)) l (.dat f)) t
  | _ => False) K.xc
@[simp] def wAug (i : Nat) (w : WE S) (f : Int → Int → Int) : WS S := fun K env s => match sg env i with
  | .dat (.int a) => w env s (fun d t => match d with
    | .int b => K.nx (ss env i (.dat (.int (f a b)))) t
    | _ => False) K.xc
  | _ => False
def wFor (g : WG) (b : WS S) : List D → WS S
  | [] => fun K env s => K.nx env s
  | d :: r => fun K env s => g d env fun e => b { K with nx := fun e t => wFor g b r K e t, ct := fun e t => wFor g b r K e t, bk := K.nx } e s
@[simp] def wForE (wi : WI S) (g : WG) (b : WS S) : WS S := fun K env s => wi env s (fun ds t => wFor g b ds K env t) K.xc
def wWhN (c : WT S) (b : WS S) : Nat → WS S
  | 0 => fun _ _ _ => False
  | n + 1 => fun K env s => c env s (fun q t => if q = true then b { K with nx := fun e u => wWhN c b n K e u, ct := fun e u => wWhN c b n K e u, bk := K.nx } env t else K.nx env t) K.xc
@[simp] def wWhile (c : WT S) (b : WS S) : WS S := fun K env s => ∃ n, wWhN c b n K env s
/-- a thing of the def's own is data from here on -/
@[simp] def wFrz (i : Nat) (w : WS S) : WS S := fun K env s => w K (ss env i (sg env i).frz) s
@[simp] def wApp (i : Nat) (w : WE S) : WS S := fun K env s => match sg env i with
  | .own ds => w env s (fun d t => ds.length < sizeLine ∧ K.nx (ss env i (.own (ds ++ [d]))) t) K.xc
  | _ => False
@[simp] def wExt (i : Nat) (w : WE S) : WS S := fun K env s => match sg env i with
  | .own ds => w env s (fun d t => match d with
    | .lst es => ds.length + es.length ≤ sizeLine ∧ K.nx (ss env i (.own (ds ++ es))) t
    | _ => False) K.xc
  | _ => False
@[simp] def wSetL (i : Nat) (wv wk : WE S) : WS S := fun K env s => match sg env i with
  | .own ds => wv env s (fun v t => wk env t (fun k u => match k with
    | .int z => (match ixN ds.length z with
      | some j => K.nx (ss env i (.own (ds.set j v))) u
      | none => False)
    | _ => False) K.xc) K.xc
  | _ => False
/-- x = l.pop(i), l.pop() of the def's own list -/
@[simp] def wPopAt (i : Nat) (w : WE S) (g : WG) : WS S := fun K env s => match sg env i with
  | .own ds => w env s (fun k t => match k with
    | .int z => -(2 ^ 63) ≤ z ∧ z < 2 ^ 63 ∧ (match seqIndex? z ds.length with
      | some j => (match ds[j]? with
        | some d => g d (ss env i (.own (ds.eraseIdx j))) fun e => K.nx e t
        | none => False)
      | none => False)
    | _ => False) K.xc
  | _ => False
@[simp] def wPop (i : Nat) (g : WG) : WS S := fun K env s => match sg env i with
  | .own ds => (match ds[ds.length - 1]? with
    | some d => g d (ss env i (.own ds.dropLast)) fun e => K.nx e s
    | none => False)
  | _ => False
end
section
variable {S : Type} {W : Wd S} {G : Gm S} {K : PySem.W.Frag}
theorem ss_seq {t u : TS} {w v : WS S} (h : SimS W G t w) (h' : SimS W G u v) : SimS W G (tSeq t u) (wSeq w v) := fun R env σ H s rl K hw Dn e =>
  h R env σ H s rl _ hw _ ⟨fun R' env' σ' H' s' hk rl' m => h' R' env' σ' H' s' rl' K hk Dn (e.step m), e.rt, e.bk, e.ct, e.xc⟩
theorem ss_next : SimS W G tNext wNext := fun R env σ H s rl K hw Dn e => e.nx R env σ H s hw rl .refl
theorem Rel.frzN {R : Addr → Prop} {env : List Sl} {σ : L2.St} {H : Hp} {s : S} (r : Rel W G R env σ H s) : ∀ n, n ≤ env.length → ∃ R' env', Rel W G R' env' σ H s ∧ (∀ a, R' a → R a) ∧ (∀ i, i < n → sg env' i = (sg env i).frz) ∧ (∀ i, n ≤ i → sg env' i = sg env i) ∧ env'.length = env.length
  | 0, _ => ⟨R, env, r, fun _ h => h, fun i h => absurd h (Nat.not_lt_zero i), fun _ _ => rfl, rfl⟩
  | n + 1, hn => by
    obtain ⟨R1, env1, r1, h1, h2, h3, h4⟩ := r.frzN n (by omega)
    obtain ⟨R2, r2, h5⟩ := r1.frz n
    refine ⟨R2, _, r2, fun a h => h1 a (h5 a h), fun i hi => ?_, fun i hi => ?_, by rw [ss_len, h4]⟩
    · by_cases e : n = i
      · subst e
        rw [sg_ss _ _ _ (by omega), h3 _ (Nat.le_refl _)]
      · rw [sg_ss_ne _ _ _ _ e]
        exact h2 i (by omega)
    · rw [sg_ss_ne _ _ _ _ (by omega)]
      exact h3 i (by omega)
theorem sg_map : ∀ (env : List Sl) (i : Nat), sg (env.map Sl.frz) i = (sg env i).frz
  | [], _ => rfl
  | a :: r, 0 => rfl
  | a :: r, i + 1 => sg_map r i
theorem env_ext : ∀ (a b : List Sl), a.length = b.length → (∀ i, sg a i = sg b i) → a = b
  | [], [], _, _ => rfl
  | [], _ :: _, h, _ => by cases h
  | _ :: _, [], h, _ => by cases h
  | x :: r, y :: t, h, e => by
    rw [show x = y from e 0, env_ext r t (Nat.succ.inj h) fun i => e (i + 1)]
theorem Rel.frzAll {R : Addr → Prop} {env : List Sl} {σ : L2.St} {H : Hp} {s : S} (r : Rel W G R env σ H s) : ∃ R', Rel W G R' (frzA env) σ H s ∧ (∀ a, R' a → R a) := by
  obtain ⟨R1, env1, r1, h1, h2, h3, h4⟩ := r.frzN env.length (Nat.le_refl _)
  refine ⟨R1, ?_, h1⟩
  rw [show frzA env = env1 from env_ext _ _ (by simp [h4]) fun i => ?_]
  · exact r1
  · unfold frzA
    rw [sg_map]
    by_cases hi : i < env.length
    · rw [h2 i hi]
    · rw [h3 i (by omega), sg_out _ _ (by omega)]
      rfl
theorem ss_ret {t : TE} {w : WE S} (h : SimE W G t w) : SimS W G (tRet t) (wRet w) := fun R env σ H s rl K hw Dn e => by
  obtain ⟨R', rl', hs⟩ := rl.frzAll
  exact h R' _ σ H s rl' K.rt K.xc hw e.xc _ fun d s' v H' hk f j a => e.rt d s' v H' hk (rl'.fr.trans f) j (a.imp fun b z => z.imp (rl'.r0 b) id)
theorem ss_drop {t : TE} {w : WE S} (h : SimG W G t w) : SimS W G (tDrop t) (wDrop w) := fun R env σ H s rl K hw Dn e =>
  h R env σ H s rl _ K.xc hw e.xc _ fun d s' v H' hk f j a => e.nx R env σ H' s' hk (rl.step f j) f.mv
theorem ss_if {c : TT} {t u : TS} {wc : WT S} {w v : WS S} (hc : SimT W G c wc) (h : SimS W G t w) (h' : SimS W G u v) : SimS W G (tIfS c t u) (wIfS wc w v) := fun R env σ H s rl K hw Dn e =>
  hc R env σ H s rl _ K.xc hw e.xc _ fun b s' H' hk f j => by
    cases b with
    | true => exact Rd.iteT (h R env σ H' s' (rl.step f j) K (by simpa using hk) Dn (e.step f.mv))
    | false => exact Rd.iteF (h' R env σ H' s' (rl.step f j) K (by simpa using hk) Dn (e.step f.mv))
theorem ss_asg {t : TE} {g : TG} {w : WE S} {wg : WG} {us : List Nat} (h : SimE W G t w) (hg : SimTg W G us g wg) : SimS W G (tAsg t g) (wAsg w wg) := fun R env σ H s rl K hw Dn e =>
  h R env σ H s rl _ K.xc hw e.xc _ fun d s' v H' hk f j a => hg R env σ H' s' (rl.step f j) v d a _ hk _ fun env' σ' hk' rl' _ _ => e.nx R env' σ' H' s' hk' rl' f.mv
/-- slot i is the def's own list -/
structure OwnSl (i : Nat) : Prop where
  mk ::
theorem ss_par {i j : Nat} {t : TA} {w : WA S} (h : SimA W G t w) : SimS W G (tPar i j t) (wPar i j w) := fun R env σ H s rl K hw Dn e =>
  h R env σ H s rl _ K.xc hw e.xc _ fun ds s' vs H' hk f j a => by
    match ds, a, hk with
    | [d, e'], .cons a (.cons b .nil), hk => exact ⟨_, _, rfl, e.nx R _ _ H' s' hk (((rl.step f j).setD _ a).setD _ b) f.mv⟩
theorem ss_for {us : List Nat} {wi : TI} {g : TG} {tb : TS} {wI : WI S} {wg : WG} {wb : WS S} (hi : SimI W G wi wI) (hg : SimTg W G us g wg) (hb : SimS W G tb wb) : SimS W G (tFor wi g tb) (wForE wI wg wb) := by
  intro R env σ H s rl K hw Dn e
  refine hi R env σ H s rl _ K.xc hw e.xc _ fun ds s1 J H1 St hw1 f1 j1 it st => ?_
  have r1 := rl.step f1 j1
  refine ⟨fun i m σ2 H2 => m = ds.length - i ∧ i ≤ ds.length ∧ ∃ R2 env2 s2, wFor wg wb (ds.drop i) K env2 s2 ∧ Rel W G R2 env2 σ2 H2 s2 ∧ St R2 s2 H2 ∧ Mv (Bf W R s) H (Bf W R2 s2) H2, ⟨ds.length, by simp, Nat.zero_le _, R, env, s1, hw1, r1, st, f1.mv⟩, ?_⟩
  rintro i m σ2 H2 ⟨rfl, hi', R2, env2, s2, hw2, rl2, st2, m2⟩
  by_cases hlt : i < ds.length
  · refine .inr ⟨it.go i _ _ _ hlt st2, fun σ3 H3 => i + 1 ≤ ds.length ∧ ∃ R3 env3 s3, wFor wg wb (ds.drop (i + 1)) K env3 s3 ∧ Rel W G R3 env3 σ3 H3 s3 ∧ St R3 s3 H3 ∧ Mv (Bf W R s) H (Bf W R3 s3) H3, fun σ3 H3 h => ⟨ds.length - (i + 1), by omega, rfl, h⟩, fun v H3 hy => ?_⟩
    obtain ⟨d, hd, f3, j3, a3⟩ := it.yld i _ _ _ v H3 hlt st2 rl2.at_ hy
    have dr : ds.drop i = d :: ds.drop (i + 1) := by
      obtain ⟨h2, h3⟩ := List.getElem?_eq_some_iff.mp hd
      rw [List.drop_eq_getElem_cons h2, h3]
    rw [dr] at hw2
    have rl3 := rl2.step f3 j3
    have st3 := it.mv _ _ _ _ _ _ st2 f3.mv
    refine hg _ _ _ H3 s2 rl3 v d a3 _ hw2 _ fun env4 σ4 hw4 rl4 _ _ => ?_
    refine hb R2 env4 σ4 H3 s2 rl4 _ hw4 _ ⟨fun R5 env5 σ5 H5 s5 hk rl5 m5 => ?_, e.rt, fun R5 env5 σ5 H5 s5 hk rl5 m5 => ?_, fun R5 env5 σ5 H5 s5 hk rl5 m5 => ?_, e.xc⟩
    · exact ⟨hlt, R5, env5, s5, hk, rl5, it.mv _ _ _ _ _ _ st3 m5, (m2.trans f3.mv).trans m5⟩
    · exact e.nx R5 env5 σ5 H5 s5 hk rl5 ((m2.trans f3.mv).trans m5)
    · exact ⟨hlt, R5, env5, s5, hk, rl5, it.mv _ _ _ _ _ _ st3 m5, (m2.trans f3.mv).trans m5⟩
  · have eq : i = ds.length := by omega
    subst eq
    rw [List.drop_length] at hw2
    exact .inl ⟨it.stop _ _ _ st2, e.nx R2 env2 σ2 H2 s2 hw2 rl2 m2⟩
theorem ss_while {c : TT} {tb : TS} {wc : WT S} {wb : WS S} (hc : SimT W G c wc) (hb : SimS W G tb wb) : SimS W G (tWhile c tb) (wWhile wc wb) := by
  intro R env σ H s rl K hw Dn e
  obtain ⟨n, hw⟩ := hw
  refine ⟨fun m σ2 H2 => ∃ R2 env2 s2, wWhN wc wb m K env2 s2 ∧ Rel W G R2 env2 σ2 H2 s2 ∧ Mv (Bf W R s) H (Bf W R2 s2) H2, ⟨n, R, env, s, hw, rl, .refl⟩, ?_⟩
  rintro m σ2 H2 ⟨R2, env2, s2, hw2, rl2, m2⟩
  cases m with
  | zero => exact hw2.elim
  | succ m =>
    refine hc R2 env2 σ2 H2 s2 rl2 _ K.xc hw2 e.xc _ fun b s3 H3 hk f3 j3 => ?_
    cases b with
    | true =>
      refine Rd.iteT ⟨fun σ4 H4 => ∃ R2 env2 s2, wWhN wc wb m K env2 s2 ∧ Rel W G R2 env2 σ4 H4 s2 ∧ Mv (Bf W R s) H (Bf W R2 s2) H4, fun σ4 H4 h => ⟨m, Nat.lt_succ_self m, h⟩, ?_⟩
      rw [if_pos rfl] at hk
      refine hb R2 env2 σ2 H3 s3 (rl2.step f3 j3) _ hk _ ⟨fun R5 env5 σ5 H5 s5 hk rl5 m5 => ?_, e.rt, fun R5 env5 σ5 H5 s5 hk rl5 m5 => ?_, fun R5 env5 σ5 H5 s5 hk rl5 m5 => ?_, e.xc⟩
      · exact ⟨R5, env5, s5, hk, rl5, (m2.trans f3.mv).trans m5⟩
      · exact e.nx R5 env5 σ5 H5 s5 hk rl5 ((m2.trans f3.mv).trans m5)
      · exact ⟨R5, env5, s5, hk, rl5, (m2.trans f3.mv).trans m5⟩
    | false => exact Rd.iteF (e.nx R2 env2 σ2 H3 s3 (by simpa using hk) (rl2.step f3 j3) (m2.trans f3.mv))
/-! the def's own list changed -/
theorem Rel.ownL {R : Addr → Prop} {env : List Sl} {σ : L2.St} {H : Hp} {s : S} (r : Rel W G R env σ H s) {i : Nat} {ds : List D} (q : sg env i = .own ds) : ∃ p xs, σ[i]? = some (some (.ref p)) ∧ H p = some (.lst xs) ∧ DaL (Bf W R s) H xs ds ∧ ds.length ≤ sizeLine ∧ ¬ W.C s p ∧
    ∀ (s' : S) (H' : Hp), Fr W s H s' H' → W.J s' H' → ∀ ys es, DaL (Bf W R s') H' ys es → es.length ≤ sizeLine → Rel W G R (ss env i (.own es)) σ (upd H' p (.lst ys)) s' ∧ Mv (Bf W R s) H (Bf W R s') (upd H' p (.lst ys)) := by
  have hO : (sg env i).isO = true := by rw [q]; rfl
  obtain ⟨p, e1, e2, e3, e4⟩ := r.env.own i hO
  rw [q] at e4
  cases e4 with
  | lst e l z =>
    refine ⟨p, _, e1, e, l, z, (r.at_.r p e2).2, fun s' H' f j ys es l' z' => ?_⟩
    have r' := r.step f j
    have m' : Mv (Bf W R s') H' (Bf W R s') (upd H' p (.lst ys)) := fun b u q n => ⟨by rw [upd_ne fun z => n (by rw [z]; exact .inl e2)]; exact q, n⟩
    obtain ⟨a, b⟩ := r'.chg (o := .lst ys) e1 hO (.lst upd_same (l'.mv m') z') rfl
    exact ⟨a, f.mv.trans b⟩
theorem ss_app {i : Nat} {te : TE} {w : WE S} (h : SimE W G te w) : SimS W G (tDrop (tBM K "list" rAppend (tVar i) (tCons te tNil))) (wApp i w) := fun R env σ H s rl KK hw Dn e => by
  unfold wApp at hw
  cases q : sg env i with
  | own ds =>
    rw [q] at hw
    obtain ⟨p, xs, e1, e2, l, z, nc, ch⟩ := rl.ownL q
    refine ⟨.ref p, e1, .inl ⟨rfl, xs, .of e2⟩, h R env σ H s rl _ KK.xc hw e.xc _ fun d s' v H' hk f j a => ?_⟩
    obtain ⟨rl', m⟩ := ch s' H' f j (xs ++ [v]) (ds ++ [d]) ((l.mv f.mv).app (.cons a .nil)) (by rw [List.length_append]; have := hk.1; simp; omega)
    exact ⟨p, xs, v, rfl, rfl, f.kp _ _ e2 nc, by rw [l.len]; exact hk.1, e.nx R _ σ _ s' hk.2 rl' m⟩
  | _ => rw [q] at hw; exact hw.elim
theorem ss_setL {i : Nat} {tv tk : TE} {wv wk : WE S} (hv : SimE W G tv wv) (hk : SimG W G tk wk) : SimS W G (tAsg tv (gSub (tVar i) tk rSetL)) (wSetL i wv wk) := fun R env σ H s rl KK hw Dn e => by
  unfold wSetL at hw
  cases q : sg env i with
  | own ds =>
    rw [q] at hw
    refine hv R env σ H s rl _ KK.xc hw e.xc _ fun d s1 v H1 hw1 f1 j1 a1 => ?_
    have rl1 := rl.step f1 j1
    obtain ⟨p, xs, e1, e2, l, z, nc, ch⟩ := rl1.ownL q
    refine ⟨.ref p, e1, hk R env σ H1 s1 rl1 _ KK.xc hw1 e.xc _ fun d2 s2 v2 H2 hw2 f2 j2 a2 => ?_⟩
    cases d2 with
    | int zi =>
      dsimp only at hw2
      cases qi : ixN ds.length zi with
      | none => rw [qi] at hw2; exact hw2.elim
      | some jj =>
        rw [qi] at hw2
        obtain ⟨rl', m⟩ := ch s2 H2 f2 j2 (xs.set jj v) (ds.set jj d) ((l.mv f2.mv).setAt jj (a1.mv f2.mv)) (by rw [List.length_set]; exact z)
        exact ⟨p, xs, zi, jj, rfl, a2.intI, f2.kp _ _ e2 nc, by rw [l.len]; exact qi, e.nx R _ σ _ s2 hw2 rl' (f1.mv.trans m)⟩
    | _ => exact hw2.elim
  | _ => rw [q] at hw; exact hw.elim
theorem ss_pop {i : Nat} {g : TG} {wg : WG} {us : List Nat} (hg : SimTg W G us g wg) : SimS W G (tAsg (tBM0 K "list" rPop (tVar i)) g) (wPop i wg) := fun R env σ H s rl KK hw Dn e => by
  unfold wPop at hw
  cases q : sg env i with
  | own ds =>
    rw [q] at hw
    obtain ⟨p, xs, e1, e2, l, z, nc, ch⟩ := rl.ownL q
    dsimp only at hw
    cases qd : ds[ds.length - 1]? with
    | none => rw [qd] at hw; exact hw.elim
    | some d =>
      rw [qd] at hw
      obtain ⟨v, ev, a⟩ := l.get' qd
      have dl : DaL (Bf W R s) H xs.dropLast ds.dropLast := by
        rw [List.dropLast_eq_take, List.dropLast_eq_take, l.len]
        exact l.take _
      obtain ⟨rl', m⟩ := ch s H .refl rl.at_.j xs.dropLast ds.dropLast dl (by simp; omega)
      exact ⟨.ref p, e1, .inl ⟨rfl, xs, .of e2⟩, p, xs, v, rfl, rfl, e2, by rw [l.len]; exact ev, hg R _ σ _ s rl' v d (a.mv m) _ hw _ fun env' σ' hk rl2 _ _ => e.nx R env' σ' _ s hk rl2 m⟩
  | _ => rw [q] at hw; exact hw.elim
end
/-! defs -/
@[simp] def envOf (n : Nat) (ds : List D) : List Sl := ds.map Sl.dat ++ List.replicate (n - ds.length) .no
section
variable {S : Type} {W : Wd S}
theorem sg_dat : ∀ (ds : List D) (r : List Sl) (i : Nat) (d : D), sg (ds.map Sl.dat ++ r) i = .dat d → (ds[i]? = some d) ∨ (ds.length ≤ i ∧ sg r (i - ds.length) = .dat d)
  | [], r, i, d, h => .inr ⟨Nat.zero_le _, h⟩
  | a :: t, r, 0, d, h => by
    cases h
    exact .inl rfl
  | a :: t, r, i + 1, d, h => by
    rcases sg_dat t r i d h with q | q
    · exact .inl q
    · exact .inr ⟨Nat.succ_le_succ q.1, by simpa [Nat.succ_sub_succ] using q.2⟩
theorem sg_rep : ∀ (n i : Nat), sg (List.replicate n Sl.no) i = .no
  | 0, _ => rfl
  | n + 1, 0 => rfl
  | n + 1, i + 1 => sg_rep n i
theorem sg_noO : ∀ (ds : List D) (n i : Nat), (sg (ds.map Sl.dat ++ List.replicate n .no) i).isO = false
  | [], n, i => by
    show (sg (List.replicate n Sl.no) i).isO = false
    rw [sg_rep]
    rfl
  | a :: t, n, 0 => rfl
  | a :: t, n, i + 1 => sg_noO t n i
theorem rel_start {R : Addr → Prop} {s : S} {H : Hp} {vs : List V} {ds : List D} {E : XK} {N : List Str} (a : At W R s H) (l : DaL (Bf W R s) H vs ds) : Rel W ⟨H, s, R, E⟩ R (envOf N.length ds) (L2.start N vs) H s := by
  refine ⟨a, .refl, fun _ h => h, a, ⟨by simp [L2.start, l.len], fun i d h => ?_, fun i h => ?_, fun i j p h => ?_⟩⟩
  · rcases sg_dat _ _ _ _ h with q | q
    · obtain ⟨v, hv, dv⟩ := l.get' q
      refine ⟨v, ?_, dv⟩
      unfold L2.start
      rw [List.getElem?_append_left (by rw [List.length_map, l.len]; exact (List.getElem?_eq_some_iff.mp q).1), List.getElem?_map, hv]
      rfl
    · have := q.2
      rw [sg_rep] at this
      cases this
  · rw [envOf, sg_noO] at h
    cases h
  · rw [envOf, sg_noO] at h
    cases h
theorem bodyW {G : Gm S} {t : TS} {ws : WS S} {O : WS S → Prop} (sim : SimS W G t ws) (ob : O ws) : ∃ ws : WS S, SimS W G t ws ∧ O ws := ⟨ws, sim, ob⟩
/-- a def by its body over data -/
theorem fn_data {P : Program} {w : World} {K : PySem.W.Frag} {mg : Str → Option Value} {base : Heap} {x qual : Str} {pa : Arguments} {bd : List Stmt} {sc : Scope} {dvs : List V} {kws : List (Str × V)} {f : Addr} {fd : FuncData} {N ps : List Str} {k : Nat}
    {wf : List D → S → (D → S → Prop) → (Xc → S → Prop) → Prop}
    (F : FunD K x qual pa bd sc dvs kws f fd) (Sc : FnScope N ps sc) (many : ∀ ds s k x, wf ds s k x → ds.length = ps.length)
    (body : ∀ (cv : Value) (A : Around) (outer : List Env) (s : Shared) (H : Hp) (G : Gm S), Room k (A.deeper (envOfC qual sc s.heap.objs.size f cv)) → A.guards = some [] →
      ∃ t, PSs (cxOf (L2.CX P w) P w K mg base N qual sc f cv A outer s H G.E) bd t ∧ ∃ ws : WS S, SimS W G t ws ∧
        ∀ (ds : List D) (s : S) (k : D → S → Prop) (x : Xc → S → Prop), (∀ d ∈ ds, d.ok) → wf ds s k x → ws ⟨fun _ s => k .non s, k, fun _ _ => False, fun _ _ => False, x⟩ (envOf N.length ds) s) :
    Gl.Fn P w K mg base (k + 1) f fd ps (spX W wf) := by
  refine Gl.fn_body F Sc (fun vs H Q E h => ?_) (fun cv A outer s H vs Q E hr gd h => ?_)
  · obtain ⟨R, ds, s, k, x, a, l, hw, _⟩ := h
    rw [l.len]
    exact many _ _ _ _ hw
  · obtain ⟨R, ds, s1, k1, x, a, l, hw, hQ, hE⟩ := h
    obtain ⟨t, ht, ws, sim, ob⟩ := body cv A outer s H ⟨H, s1, R, E⟩ hr gd
    refine ⟨t, ht, sim R _ _ H s1 (rel_start a l) _ (ob ds s1 k1 x (fun d hd => D.oks_mem l.oks hd) hw) _ ⟨?_, ?_, ?_, ?_, ?_⟩⟩
    · intro R' env' σ' H' s' hk rl m
      exact hQ _ s' _ H' hk rl.fr rl.at_.j .non
    · intro d s' v H' hk f j a
      exact hQ d s' v H' hk f j a
    · intro _ _ _ _ _ hk
      exact hk.elim
    · intro _ _ _ _ _ hk
      exact hk.elim
    · intro c s' cls d H' hx f j a
      exact hE c s' cls d H' hx f j a
end
end Dw
set_option Elab.async false
set_option linter.all false
set_option maxRecDepth 100000
set_option maxHeartbeats 3200000
/-! Sk: set(list of keys), keys of any kind. -/
namespace Sk
open PySem PySem.Spec PyProof.Rows L2
section
variable {κ : Type} [DecidableEq κ]
/-- one more met -/
def met1 (σ : List κ) (v : κ) : List κ := if v ∈ σ then σ else σ ++ [v]
def met (ks : List κ) (i : Nat) : List κ := (ks.take i).foldl met1 []
end
section
variable {κ : Type} [DecidableEq κ] {prog : Program} {w : World} {knd : KeyKind prog w κ}
variable {A : Around} {R : Result → Shared → Prop} {I : Addr} {fp wr : List Addr} {G : Array GenState → Array GenState → Prop} {n : Nat} {P : Nat → Value → Prop} {St : Nat → Shared → Prop}
end
section
variable {κ : Type} [DecidableEq κ] {prog : Program} {w : World} {knd : KeyKind prog w κ} {A : Around} {E : Value → Shared → Prop} {s : Shared}
end
section
variable {X : Cx}
/-- len(set(l)), l a list of ints and texts -/
def tLenSetK (K : PySem.W.Frag) (ta : TE) : TE := fun σ H Q => ta σ H fun x H1 => ∃ (l : Addr) (ks : List Key), x = .ref l ∧ SqL K H1 l (ks.map kV) ∧ ks.length ≤ 4000 ∧ Q (.int ((met ks ks.length).length : Nat)) H1
end
end Sk
set_option Elab.async false
set_option linter.all false
set_option maxRecDepth 100000
set_option maxHeartbeats 4000000
/-! Dx: further words over data: joins, len(set(..)), repr, fields, classes in tuples. -/
namespace Dw
open PySem PySem.Spec PyProof.Rows L2 RZ
/-! readings by names -/
def rJoin (K : PySem.W.Frag) : V → List V → Hp → VK → Prop := fun x xs H Q => ∃ a p, ∃ ys : List Str, x = .str a ∧ xs = [.ref p] ∧ (SqL K H p (ys.map V.str) ∨ SqT K H p (ys.map V.str)) ∧
      (ys.map (·.length)).sum + ys.length * a.length ≤ 16777216 ∧ Q (.str (Txt.join a ys)) H
section
variable {X : Cx}
/-- repr of data without dicts -/
def rReprD (K : PySem.W.Frag) : List V → Hp → VK → Prop := fun xs H Q => ∃ v d, xs = [v] ∧ Dp K H v d ∧ d.showable = true ∧ d.shown.length ≤ sizeLine ∧ d.depth ≤ 190 ∧ Q (.str d.shown) H
mutual
theorem dp_nodict {K : PySem.W.Frag} {H : Hp} : ∀ (d : PyData) (v : V), Dp K H v d → d.hasDict = false
  | .none, _, _ => by unfold PyData.hasDict; rfl
  | .bool _, _, _ => by unfold PyData.hasDict; rfl
  | .int _, _, _ => by unfold PyData.hasDict; rfl
  | .str _, _, _ => by unfold PyData.hasDict; rfl
  | .list ds, _, h => by
    cases h with
    | lst _ l =>
      unfold PyData.hasDict
      exact dp_nodicts ds _ l
  | .tuple ds, _, h => by
    cases h with
    | tup _ l =>
      unfold PyData.hasDict
      exact dp_nodicts ds _ l
  | .dict _, _, h => by cases h
theorem dp_nodicts {K : PySem.W.Frag} {H : Hp} : ∀ (ds : List PyData) (vs : List V), DpAll K H vs ds → PyData.hasDictAll ds = false
  | [], _, _ => by unfold PyData.hasDictAll; rfl
  | d :: r, _, h => by
    cases h with
    | cons a t =>
      unfold PyData.hasDictAll
      rw [dp_nodict d _ a, dp_nodicts r _ t]
      rfl
end
theorem cr_repr {k : Nat} (hr : Room k X.A) (hG : X.A.guards = some []) : CallR X (.builtin "repr") (rReprD X.K) := by
  intro pins s σ H xs us Q I r h
  obtain ⟨v, d, rfl, hd, h1, h2, h3, q⟩ := h
  obtain ⟨u, rfl, rv⟩ : ∃ u, us = [u] ∧ RelV v u := by
    cases r with
    | cons a b =>
      cases b
      exact ⟨_, rfl, a⟩
  obtain ⟨as, hR⟩ := Dp.reads I d v u hd rv
  have nd := dp_nodict d v hd
  have un := hr.un
  have big : ∀ a, u = Value.ref a → wpAny (model X.prog X.w) X.A (call (.builtin "repr") [u]) (EP X pins σ Q) X.xe s := by
    rintro a rfl
    refine repr_of_reads' hR h1 (fun z => by rw [nd] at z; cases z) hG (by omega) (fun _ _ e => e) (fun h' u' tk k => ?_) h2
    exact ⟨.str d.shown, H, I.kept (t' := tk) k, ⟨u', rfl⟩, q⟩
  have fin : ∀ tk u', EP X pins σ Q (.str d.shown u') { s with toks := tk } := fun tk u' => ⟨.str d.shown, H, I.tok _, ⟨u', rfl⟩, q⟩
  cases hd with
  | non =>
    cases rv
    exact P.repr_of_none (fin _ _)
  | bl b =>
    cases rv
    refine P.repr_of_bool ?_
    have := fin (s.toks + 1) s.toks
    rw [PyData.shown] at this
    exact this
  | int i =>
    obtain ⟨t, rfl⟩ := rv
    exact P.repr_of_int (by simpa [PyData.showable] using h1) (fin _ _)
  | str _ =>
    obtain ⟨t, rfl⟩ := rv
    exact P.repr_of_str (fin _ _) (by simpa [PyData.shown] using h2)
  | lst _ _ => exact big _ rv
  | tup _ _ => exact big _ rv
end
/-- ns <= ms of two rows of ints -/
def leP (ns ms : List Int) : Bool := Ob.lexAt (fun j => decide (ns.getD j 0 = ms.getD j 0)) (fun j => decide (ns.getD j 0 ≤ ms.getD j 0)) (decide (ns.length ≤ ms.length)) 0 (min ns.length ms.length)
section
variable {S : Type}
@[simp] def wJoin (wo we : WE S) : WE S := fun env s k x => wo env s (fun a s1 => match a with
  | .str z => we env s1 (fun d s2 => match d.items with
    | some ds => ∃ ys, D.strs ds = some ys ∧ (ys.map (·.length)).sum + ys.length * z.length ≤ 16777216 ∧ (Txt.join z ys).length ≤ sizeLine ∧ k (.str (Txt.join z ys)) s2
    | none => False) x
  | _ => False) x
@[simp] def wRepr : List D → S → (D → S → Prop) → Prop := fun ds s k => match ds with
  | [d] => ∃ p, d.py = some p ∧ p.showable = true ∧ p.shown.length ≤ sizeLine ∧ p.depth ≤ 190 ∧ k (.str p.shown) s
  | _ => False
def D.keys : List D → Option (List Key)
  | [] => some []
  | .int i :: r => (D.keys r).map (.inl i :: ·)
  | .str x :: r => (D.keys r).map (.inr x :: ·)
  | _ => none
@[simp] def wLenSet (we : WE S) : WE S := fun env s k x => we env s (fun d s1 => match d with
  | .lst ds => ∃ ks, D.keys ds = some ks ∧ ks.length ≤ 4000 ∧ k (.int ((Sk.met ks ks.length).length : Nat)) s1
  | _ => False) x
@[simp] def wIxS : D → D → S → (D → S → Prop) → Prop := fun d e s k => match d, e with
  | .str z, .int i => (match atI z.cps.toList i with
    | some c => k (.str ⟨#[c]⟩) s
    | none => False)
  | _, _ => False
@[simp] def wLeT : D → D → S → (D → S → Prop) → Prop := fun d e s k => match d, e with
  | .tup a, .tup b => ∃ ns ms, D.ints a = some ns ∧ D.ints b = some ms ∧ k (.bl (leP ns ms)) s
  | _, _ => False
/-- e.f of an instance of a class of which Cl tells -/
@[simp] def wFld (f : Str) (Cl : Addr → Prop) (w : WE S) : WE S := fun env s k x => w env s (fun d s1 => match d with
  | .obj C fs => Cl C ∧ (match fs.lookup f with
    | some e => k e s1
    | none => False)
  | _ => False) x
end
section
variable {S : Type} {W : Wd S} {G : Gm S} {K : PySem.W.Frag}
theorem SimF.e {t : TE} {w : WI S} (h : SimF W G t w) : SimE W G t (fun env s k x => w env s (fun ds s1 => k (.lst ds) s1) x) := fun R env σ H s rl k x hw ox Q hQ => h R env σ H s rl _ x hw ox Q fun ds s1 p xs H1 hk f j hp e nb l z =>
  hQ _ s1 _ H1 hk f j (.lst e nb (l.imp fun a q => q.imp .inl id) z)
theorem sim_lcE {us : List Nat} {wi : TI} {g : TG} {tt : TT} {te : TE} {vs : List Nat} {wI : WI S} {wg : WG} {wt : WT S} {we : WE S} (hi : SimI W G wi wI) (hg : SimTg W G us g wg) (ht : SimT W G tt wt) (he : SimE W G te we) (hs : ∀ j, j ∈ us → j ∈ vs := by decide) :
    SimE W G (tLc wi g tt te vs) (wLcE wI wg wt we vs) := (sim_lcF hi hg ht he hs).e
theorem DaL.keys {B : Addr → Prop} {H : Hp} : ∀ {ds : List D} {vs : List V} {ns : List Key}, DaL B H vs ds → D.keys ds = some ns → vs = ns.map kV
  | [], _, _, .nil, e => by cases e; rfl
  | .int i :: r, _, _, .cons h t, e => by
    cases h
    unfold D.keys at e
    obtain ⟨ms, e2, rfl⟩ := Option.map_eq_some_iff.mp e
    rw [List.map_cons, t.keys e2]
    rfl
  | .str i :: r, _, _, .cons h t, e => by
    cases h
    unfold D.keys at e
    obtain ⟨ms, e2, rfl⟩ := Option.map_eq_some_iff.mp e
    rw [List.map_cons, t.keys e2]
    rfl
  | .non :: _, _, _, _, e => by cases e
  | .bl _ :: _, _, _, _, e => by cases e
  | .lst _ :: _, _, _, _, e => by cases e
  | .tup _ :: _, _, _, _, e => by cases e
  | .dic _ :: _, _, _, _, e => by cases e
  | .dit _ :: _, _, _, _, e => by cases e
  | .obj _ _ :: _, _, _, _, e => by cases e
  | .opq _ :: _, _, _, _, e => by cases e
  | .ty _ :: _, _, _, _, e => by cases e
theorem sc_repr : SimC W (rReprD K) wRepr := fun R s H at_ xs ds a k hw Q hQ => by
  match ds, a, hw with
  | [d], a, ⟨p, h1, h2, h3, h4, h5⟩ =>
    obtain ⟨v, rfl, a1⟩ := a.one
    exact ⟨v, p, rfl, a1.py h1, h2, h3, h4, hQ _ _ H h5 .refl at_.j (.str h3)⟩
theorem so_leT : SimO W (rLeT K) wLeT := fun R s H at_ x y d e a b k hw Q hQ => by
  cases d with
  | tup ds => cases e with
    | tup es =>
      obtain ⟨ns, ms, h1, h2, h3⟩ := hw
      obtain ⟨p, xs, rfl, e1, l1, _, _⟩ := a.tupI
      obtain ⟨q, ys, rfl, e2, l2, _, _⟩ := b.tupI
      have := l1.ints h1
      subst this
      have := l2.ints h2
      subst this
      exact ⟨p, q, ns, ms, rfl, rfl, .of e1, .of e2, hQ _ _ H h3 .refl at_.j (.bl _)⟩
    | _ => exact hw.elim
  | _ => exact hw.elim
end
end Dw
set_option Elab.async false
set_option linter.all false
set_option maxRecDepth 100000
set_option maxHeartbeats 4000000
/-! Dy: operators that the data choose. -/
namespace Dw
open PySem PySem.Spec PyProof.Rows L2 RZ
section
variable {X : Cx} {k : Nat}
def rAddX (K : PySem.W.Frag) : R2 := fun x y H Q => rI0 (fun i j => .int (i + j)) x y H Q ∨ rCatA K x y H Q ∨ rCat x y H Q ∨ rAddS x y H Q
theorem op_addX : OpR X (binaryOp .Add) (rAddX X.K) := op_add.or (op_catA.or (op_cat.or op_addS))
def rMulX (K : PySem.W.Frag) : R2 := fun x y H Q => rI CMul (fun i j => .int (i * j)) x y H Q ∨ rI CMulW (fun i j => .int (i * j)) x y H Q ∨ rRepT K x y H Q ∨ rRep x y H Q ∨ Dt.rMulS x y H Q
theorem op_mulX : OpR X (binaryOp .Mult) (rMulX X.K) := op_mul.or (op_mulW.or (op_repT.or (op_rep.or Dt.op_mulS)))
def rDivX : R2 := fun x y H Q => rI CDiv (fun i j => .int (i / j)) x y H Q ∨ rI CDivW (fun i j => .int (i / j)) x y H Q
theorem op_divX : OpR X (binaryOp .FloorDiv) rDivX := op_fdiv.or op_fdivW
def rEqX (K : PySem.W.Frag) : R2 := fun x y H Q => rEq x y H Q ∨ rEqD K x y H Q
theorem op_eqX (hr : Room k X.A) : OpR X (compareOp .Eq) (rEqX X.K) := op_eq.or (op_eqD hr.units)
def rNeX (K : PySem.W.Frag) : R2 := fun x y H Q => rNe x y H Q ∨ rNeD K x y H Q
theorem op_neX (hr : Room k X.A) : OpR X (compareOp .NotEq) (rNeX X.K) := op_ne.or (op_neD hr.units)
def rInX (K : PySem.W.Frag) : R2 := fun x y H Q => rIn K false x y H Q ∨ rInS x y H Q ∨ rInD K x y H Q
theorem op_inX (hr : Room k X.A) : OpR X (compareOp .In) (rInX X.K) := op_in_seq.or (op_inS.or (op_inD (by have := hr.un; omega)))
def rNotInX (K : PySem.W.Frag) : R2 := fun x y H Q => rIn K true x y H Q ∨ rNotInS x y H Q ∨ rNotInD K x y H Q
theorem op_notInX (hr : Room k X.A) : OpR X (compareOp .NotIn) (rNotInX X.K) := op_notIn_seq.or (op_notInS.or (op_notInD (by have := hr.un; omega)))
def rLtX : R2 := fun x y H Q => rI0 (fun i j => .bl (decide (i < j))) x y H Q ∨ rStr (fun i j => decide (i.cps.toList < j.cps.toList)) x y H Q
theorem op_ltX : OpR X (compareOp .Lt) rLtX := op_lt.or op_ltS
def rGtX : R2 := fun x y H Q => rI0 (fun i j => .bl (decide (j < i))) x y H Q ∨ rStr (fun i j => decide (j.cps.toList < i.cps.toList)) x y H Q
theorem op_gtX : OpR X (compareOp .Gt) rGtX := op_gt.or op_gtS
def rGeX : R2 := fun x y H Q => rI0 (fun i j => .bl (decide (j ≤ i))) x y H Q ∨ rStr (fun i j => !decide (i.cps.toList < j.cps.toList)) x y H Q
theorem op_geX : OpR X (compareOp .GtE) rGeX := op_ge.or op_geS
def rLeX (K : PySem.W.Frag) : R2 := fun x y H Q => rI0 (fun i j => .bl (decide (i ≤ j))) x y H Q ∨ rStr (fun i j => !decide (j.cps.toList < i.cps.toList)) x y H Q ∨ rLeT K x y H Q
theorem op_leX (hr : Room k X.A) : OpR X (compareOp .LtE) (rLeX X.K) := op_le.or (op_leS.or (op_leT hr.units0))
def rSlX (K : PySem.W.Frag) : V → Option Int → Option Int → Hp → VK → Prop := fun x lo hi H Q => rSlA K x lo hi H Q ∨ rSlL K x lo hi H Q ∨ rSlS x lo hi H Q
theorem sl_X : SlR X (rSlX X.K) := sl_tupA.or (sl_list.or sl_str)
/-- a list, a tuple, a text walked -/
def iX (K : PySem.W.Frag) (te : TE) : TI := fun σ H R => te σ H fun v H1 => (∃ a, v = .ref a ∧ (∃ xs, SqL K H1 a xs) ∧ R (Itl K a) H1) ∨ (∃ a, v = .ref a ∧ (∃ xs, SqT K H1 a xs) ∧ R (Itt K a) H1) ∨ ∃ x, v = .str x ∧ R (Its x) H1
theorem pi_X {tg e : Expr} {te : TE} (he : PE X e te) : PI X tg e (iX X.K te) := by
  refine ⟨fun pins s σ H R I h => thn (he.run pins s σ H _ I h) fun v s1 ⟨y, H1, I1, r1, q1⟩ => ?_⟩
  rcases q1 with ⟨a, rfl, ⟨xs, hq⟩, q⟩ | ⟨a, rfl, ⟨xs, hq⟩, q⟩ | ⟨x, rfl, q⟩
  · obtain rfl : v = Value.ref a := r1
    obtain ⟨its, rv, p, hz⟩ := I1.list hq
    exact wpAny_pyIter_list p.isList (pi_one (tk := s1.toks) I1 _ (turn_list a _) ⟨_, Heap.get?_push_size _ rfl, rfl, rfl⟩ q)
  · obtain rfl : v = Value.ref a := r1
    obtain ⟨its, rv, p, hz⟩ := I1.tuple hq
    exact wpAny_pyIter_tuple (show s1.heap.IsTuple a its.toArray from p) (pi_one (tk := s1.toks) I1 _ (turn_tuple a _) ⟨_, Heap.get?_push_size _ rfl, rfl, rfl⟩ q)
  · obtain ⟨t, rfl⟩ := r1
    cases ha : x.cps.all (· < 128)
    · exact wpAny_pyIter_wide ha (pi_one (tk := s1.toks) I1 _ (turn_str _ x t "str_iterator" (.inr rfl)) ⟨_, Heap.get?_push_size _ rfl, rfl, rfl⟩ q)
    · exact wpAny_pyIter_ascii ha (pi_one (tk := s1.toks) I1 _ (turn_str _ x t "str_ascii_iterator" (.inl rfl)) ⟨_, Heap.get?_push_size _ rfl, rfl, rfl⟩ q)
/-! the same, K told -/
variable {K : PySem.W.Frag}
theorem kAdd (e : X.K = K := by rfl) : OpR X (binaryOp .Add) (rAddX K) := e ▸ op_addX
theorem kMul (e : X.K = K := by rfl) : OpR X (binaryOp .Mult) (rMulX K) := e ▸ op_mulX
theorem kEq (hr : Room k X.A) (e : X.K = K := by rfl) : OpR X (compareOp .Eq) (rEqX K) := e ▸ op_eqX hr
theorem kNe (hr : Room k X.A) (e : X.K = K := by rfl) : OpR X (compareOp .NotEq) (rNeX K) := e ▸ op_neX hr
theorem kIn (hr : Room k X.A) (e : X.K = K := by rfl) : OpR X (compareOp .In) (rInX K) := e ▸ op_inX hr
theorem kNotIn (hr : Room k X.A) (e : X.K = K := by rfl) : OpR X (compareOp .NotIn) (rNotInX K) := e ▸ op_notInX hr
theorem kLe (hr : Room k X.A) (e : X.K = K := by rfl) : OpR X (compareOp .LtE) (rLeX K) := e ▸ op_leX hr
theorem kSl (e : X.K = K := by rfl) : SlR X (rSlX K) := e ▸ sl_X
theorem kIx (e : X.K = K := by rfl) : IxR X (rIx K) := e ▸ ix_seq
theorem kLen (e : X.K = K := by rfl) : CallR X (.builtin "len") (Rd.rLen K) := e ▸ Rd.cr_len
theorem kTuple (e : X.K = K := by rfl) : CallR X (.type "tuple") (Rd.rTupOf K) := e ▸ Rd.cr_tuple
theorem kIsi (e : X.K = K := by rfl) : CallR X (.builtin "isinstance") (rIsi K) := e ▸ call_isi
theorem kAll (hc : X.calm = true) (e : X.K = K := by rfl) : CallR X (.builtin "all") (rAll K) := e ▸ cr_all hc
theorem kRepr (hr : Room k X.A) (hG : X.A.guards = some []) (e : X.K = K := by rfl) : CallR X (.builtin "repr") (rReprD K) := e ▸ cr_repr hr hG
theorem kTup {es : List Expr} {kk : Nat} {pos : Pos} {t : TGs} {n : Nat} (hc : X.calm = true) (h : PGs X es t)
    (hn : (assignEach es X.env).length = n := by rfl) (hst : (assignEach es X.env).findIdx? (·.1) = none := by rfl) (e : X.K = K := by rfl) : PG X (.Tuple es kk pos) (gTup K n t) := e ▸ pg_tup hc h hn hst
theorem kpi {tg e : Expr} {te : TE} (he : PE X e te) (e' : X.K = K := by rfl) : PI X tg e (iX K te) := e' ▸ pi_X he
end
section
variable {S : Type}
@[simp] def wiX (w : WE S) : WI S := fun env s k x => w env s (fun d s1 => match d with
  | .lst ds => k ds s1
  | .tup ds => k ds s1
  | .str z => k (signs z) s1
  | _ => False) x
@[simp] def wAddX : D → D → S → (D → S → Prop) → Prop := fun d e s k => match d, e with
  | .int i, .int j => k (.int (i + j)) s
  | .tup a, .tup b => a.length + b.length ≤ sizeLine ∧ k (.tup (a ++ b)) s
  | .lst a, .lst b => a.length + b.length ≤ sizeLine ∧ k (.lst (a ++ b)) s
  | .str a, .str b => a.length + b.length ≤ sizeLine ∧ k (.str (a ++ b)) s
  | _, _ => False
@[simp] def wMulX : D → D → S → (D → S → Prop) → Prop := fun d e s k => match d, e with
  | .int i, .int j => (CMul i j ∨ CMulW i j) ∧ k (.int (i * j)) s
  | .tup a, .int n => a ≠ [] ∧ 2 ≤ n ∧ n ≤ 1000 ∧ a.length ≤ 1000 ∧ a.length * n.toNat ≤ sizeLine ∧ k (.tup (List.replicate n.toNat a).flatten) s
  | .str z, .int n => 2 ≤ n ∧ n ≤ 1000 ∧ (n == 1 || z.length == 0) = false ∧ z.length ≤ 1000 ∧ Builtin.Str.tooLong (z.length * n.toNat) = false ∧ (Dt.mulT z n).length ≤ sizeLine ∧ k (.str (Dt.mulT z n)) s
  | .lst a, .int n => -(2 ^ 63) ≤ n ∧ n < 2 ^ 63 ∧ a.length * n.toNat ≤ sizeLine ∧ k (.lst (List.replicate n.toNat a).flatten) s
  | _, _ => False
@[simp] def wDivX : D → D → S → (D → S → Prop) → Prop := fun d e s k => match d, e with
  | .int i, .int j => (CDiv i j ∨ CDivW i j) ∧ k (.int (i / j)) s
  | _, _ => False
@[simp] def wEqX : D → D → S → (D → S → Prop) → Prop := fun d e s k => match d.eqs e with
  | some b => k (.bl b) s
  | none => ∃ a b, d.py = some a ∧ e.py = some b ∧ SeqAt.shaped a = true ∧ SeqAt.shaped b = true ∧ k (.bl (PyData.eqv a b)) s
@[simp] def wNeX : D → D → S → (D → S → Prop) → Prop := fun d e s k => match d.eqs e with
  | some b => k (.bl (!b)) s
  | none => ∃ a b, d.py = some a ∧ e.py = some b ∧ SeqAt.shaped a = true ∧ SeqAt.shaped b = true ∧ k (.bl (!PyData.eqv a b)) s
def flatIn (d : D) (ds : List D) : Bool := d.sv.isSome && ds.all fun z => z.sv.isSome
@[simp] def wInX : D → D → S → (D → S → Prop) → Prop := fun d e s k => match e with
  | .str z => (match d with
    | .str x => ∃ c, x = ⟨#[c]⟩ ∧ k (.bl (decide (c ∈ z.cps.toList))) s
    | _ => False)
  | .lst ds => if flatIn d ds = true then k (.bl (inD d ds)) s else ∃ a bs, d.py = some a ∧ (D.lst ds).py = some (.list bs) ∧ SeqAt.shaped a = true ∧ SeqAt.shaped (.list bs) = true ∧ k (.bl (bs.any fun z => PyData.eqv z a)) s
  | .tup ds => flatIn d ds = true ∧ k (.bl (inD d ds)) s
  | _ => False
@[simp] def wNotInX : D → D → S → (D → S → Prop) → Prop := fun d e s k => match e with
  | .str z => (match d with
    | .str x => ∃ c, x = ⟨#[c]⟩ ∧ k (.bl (!decide (c ∈ z.cps.toList))) s
    | _ => False)
  | .lst ds => if flatIn d ds = true then k (.bl (!inD d ds)) s else ∃ a bs, d.py = some a ∧ (D.lst ds).py = some (.list bs) ∧ SeqAt.shaped a = true ∧ SeqAt.shaped (.list bs) = true ∧ k (.bl (!bs.any fun z => PyData.eqv z a)) s
  | .tup ds => flatIn d ds = true ∧ k (.bl (!inD d ds)) s
  | _ => False
@[simp] def wCmpX (p : Int → Int → Bool) (q : Str → Str → Bool) : D → D → S → (D → S → Prop) → Prop := fun d e s k => match d, e with
  | .int i, .int j => k (.bl (p i j)) s
  | .str i, .str j => k (.bl (q i j)) s
  | _, _ => False
@[simp] def wLeX : D → D → S → (D → S → Prop) → Prop := fun d e s k => match d, e with
  | .int i, .int j => k (.bl (decide (i ≤ j))) s
  | .str i, .str j => k (.bl (!decide (j.cps.toList < i.cps.toList))) s
  | .tup a, .tup b => ∃ ns ms, D.ints a = some ns ∧ D.ints b = some ms ∧ k (.bl (leP ns ms)) s
  | _, _ => False
@[simp] def wSlX : D → Option Int → Option Int → S → (D → S → Prop) → Prop := fun d l h s k => match d with
  | .tup ds => k (.tup (cutD ds l h)) s
  | .lst ds => k (.lst (cutD ds l h)) s
  | .str z => k (.str (cutS z l h)) s
  | _ => False
end
section
variable {S : Type} {W : Wd S} {G : Gm S} {K : PySem.W.Frag}
theorem so_addX : SimO W (rAddX K) wAddX := fun R s H at_ x y d e a b k hw Q hQ => by
  cases d with
  | int i => cases e with
    | int j => exact .inl ⟨i, j, a.intI, b.intI, hQ _ _ H hw .refl at_.j (.int _)⟩
    | _ => exact hw.elim
  | tup i => cases e with
    | tup j => exact .inr (.inl (so_catT (K := K) R s H at_ x y (.tup i) (.tup j) a b k hw Q hQ))
    | _ => exact hw.elim
  | lst i => cases e with
    | lst j => exact .inr (.inr (.inl (so_catL R s H at_ x y (.lst i) (.lst j) a b k hw Q hQ)))
    | _ => exact hw.elim
  | str i => cases e with
    | str j => exact .inr (.inr (.inr (so_addS R s H at_ x y (.str i) (.str j) a b k hw Q hQ)))
    | _ => exact hw.elim
  | _ => exact hw.elim
theorem so_mulX : SimO W (rMulX K) wMulX := fun R s H at_ x y d e a b k hw Q hQ => by
  cases d with
  | int i => cases e with
    | int j =>
      rcases hw.1 with c | c
      · exact .inl ⟨i, j, a.intI, b.intI, c, hQ _ _ H hw.2 .refl at_.j (.int _)⟩
      · exact .inr (.inl ⟨i, j, a.intI, b.intI, c, hQ _ _ H hw.2 .refl at_.j (.int _)⟩)
    | _ => exact hw.elim
  | tup i => cases e with
    | int j => exact .inr (.inr (.inl (so_repT (K := K) R s H at_ x y (.tup i) (.int j) a b k hw Q hQ)))
    | _ => exact hw.elim
  | lst i => cases e with
    | int j =>
      obtain ⟨h1, h2, h3, h4⟩ := hw
      obtain ⟨p, xs, rfl, e1, l1, lz⟩ := a.lstI
      refine .inr (.inr (.inr (.inl ⟨p, j, xs, rfl, b.intI, e1, h1, h2, by rw [l1.len]; exact h3, fun r hr => ?_⟩)))
      exact hQ _ _ _ h4 (.new_at hr at_) (at_.new_at hr).j (.lst upd_same (at_.fresh hr) ((l1.rep _).mv (Fr.new_at hr at_).mv) (by rw [rep_len, Nat.mul_comm]; exact h3))
    | _ => exact hw.elim
  | str i => cases e with
    | int j => exact .inr (.inr (.inr (.inr (so_mulS R s H at_ x y (.str i) (.int j) a b k hw Q hQ))))
    | _ => exact hw.elim
  | _ => exact hw.elim
theorem so_divX : SimO W rDivX wDivX := fun R s H at_ x y d e a b k hw Q hQ => by
  cases d with
  | int i => cases e with
    | int j =>
      rcases hw.1 with c | c
      · exact .inl ⟨i, j, a.intI, b.intI, c, hQ _ _ H hw.2 .refl at_.j (.int _)⟩
      · exact .inr ⟨i, j, a.intI, b.intI, c, hQ _ _ H hw.2 .refl at_.j (.int _)⟩
    | _ => exact hw.elim
  | _ => exact hw.elim
theorem so_eqX : SimO W (rEqX K) wEqX := fun R s H at_ x y d e a b k hw Q hQ => by
  unfold wEqX at hw
  cases h : d.eqs e with
  | none =>
    rw [h] at hw
    exact .inr (so_eqD (K := K) R s H at_ x y d e a b k hw Q hQ)
  | some c =>
    rw [h] at hw
    exact .inl (so_eq R s H at_ x y d e a b k (by unfold wEq; rw [h]; exact hw) Q hQ)
theorem so_neX : SimO W (rNeX K) wNeX := fun R s H at_ x y d e a b k hw Q hQ => by
  unfold wNeX at hw
  cases h : d.eqs e with
  | none =>
    rw [h] at hw
    exact .inr (so_neD (K := K) R s H at_ x y d e a b k hw Q hQ)
  | some c =>
    rw [h] at hw
    exact .inl (so_ne R s H at_ x y d e a b k (by unfold wNe; rw [h]; exact hw) Q hQ)
theorem so_inX : SimO W (rInX K) wInX := fun R s H at_ x y d e a b k hw Q hQ => by
  cases e with
  | str z => cases d with
    | str i => exact .inr (.inl (so_inS R s H at_ x y (.str i) (.str z) a b k hw Q hQ))
    | _ => exact hw.elim
  | lst ds =>
    simp only [wInX] at hw
    split at hw
    · rename_i c
      rw [flatIn, Bool.and_eq_true] at c
      exact .inl (so_in (K := K) (neg := false) R s H at_ x y d (.lst ds) a b k ⟨c.1, c.2, by simpa using hw⟩ Q hQ)
    · exact .inr (.inr (so_inD (K := K) R s H at_ x y d (.lst ds) a b k hw Q hQ))
  | tup ds =>
    obtain ⟨c, hw⟩ := hw
    rw [flatIn, Bool.and_eq_true] at c
    exact .inl (so_in (K := K) (neg := false) R s H at_ x y d (.tup ds) a b k ⟨c.1, c.2, by simpa using hw⟩ Q hQ)
  | _ => exact hw.elim
theorem so_notInX : SimO W (rNotInX K) wNotInX := fun R s H at_ x y d e a b k hw Q hQ => by
  cases e with
  | str z => cases d with
    | str i => exact .inr (.inl (so_notInS R s H at_ x y (.str i) (.str z) a b k hw Q hQ))
    | _ => exact hw.elim
  | lst ds =>
    simp only [wNotInX] at hw
    split at hw
    · rename_i c
      rw [flatIn, Bool.and_eq_true] at c
      exact .inl (so_in (K := K) (neg := true) R s H at_ x y d (.lst ds) a b k ⟨c.1, c.2, by simpa using hw⟩ Q hQ)
    · exact .inr (.inr (so_notInD (K := K) R s H at_ x y d (.lst ds) a b k hw Q hQ))
  | tup ds =>
    obtain ⟨c, hw⟩ := hw
    rw [flatIn, Bool.and_eq_true] at c
    exact .inl (so_in (K := K) (neg := true) R s H at_ x y d (.tup ds) a b k ⟨c.1, c.2, by simpa using hw⟩ Q hQ)
  | _ => exact hw.elim
theorem so_ltX : SimO W rLtX (wCmpX (fun i j => decide (i < j)) fun i j => decide (i.cps.toList < j.cps.toList)) := fun R s H at_ x y d e a b k hw Q hQ => by
  cases d with
  | int i => cases e with
    | int j => exact .inl ⟨i, j, a.intI, b.intI, hQ _ _ H hw .refl at_.j (.bl _)⟩
    | _ => exact hw.elim
  | str i => cases e with
    | str j => exact .inr ⟨i, j, a.strI.1, b.strI.1, hQ _ _ H hw .refl at_.j (.bl _)⟩
    | _ => exact hw.elim
  | _ => exact hw.elim
theorem so_gtX : SimO W rGtX (wCmpX (fun i j => decide (j < i)) fun i j => decide (j.cps.toList < i.cps.toList)) := fun R s H at_ x y d e a b k hw Q hQ => by
  cases d with
  | int i => cases e with
    | int j => exact .inl ⟨i, j, a.intI, b.intI, hQ _ _ H hw .refl at_.j (.bl _)⟩
    | _ => exact hw.elim
  | str i => cases e with
    | str j => exact .inr ⟨i, j, a.strI.1, b.strI.1, hQ _ _ H hw .refl at_.j (.bl _)⟩
    | _ => exact hw.elim
  | _ => exact hw.elim
theorem so_geX : SimO W rGeX (wCmpX (fun i j => decide (j ≤ i)) fun i j => !decide (i.cps.toList < j.cps.toList)) := fun R s H at_ x y d e a b k hw Q hQ => by
  cases d with
  | int i => cases e with
    | int j => exact .inl ⟨i, j, a.intI, b.intI, hQ _ _ H hw .refl at_.j (.bl _)⟩
    | _ => exact hw.elim
  | str i => cases e with
    | str j => exact .inr ⟨i, j, a.strI.1, b.strI.1, hQ _ _ H hw .refl at_.j (.bl _)⟩
    | _ => exact hw.elim
  | _ => exact hw.elim
theorem so_leX : SimO W (rLeX K) wLeX := fun R s H at_ x y d e a b k hw Q hQ => by
  cases d with
  | int i => cases e with
    | int j => exact .inl ⟨i, j, a.intI, b.intI, hQ _ _ H hw .refl at_.j (.bl _)⟩
    | _ => exact hw.elim
  | str i => cases e with
    | str j => exact .inr (.inl ⟨i, j, a.strI.1, b.strI.1, hQ _ _ H hw .refl at_.j (.bl _)⟩)
    | _ => exact hw.elim
  | tup i => cases e with
    | tup j => exact .inr (.inr (so_leT (K := K) R s H at_ x y (.tup i) (.tup j) a b k hw Q hQ))
    | _ => exact hw.elim
  | _ => exact hw.elim
theorem sl_x : SimL W (rSlX K) wSlX := fun R s H at_ x d a l h k hw Q hQ => by
  cases d with
  | tup ds => exact .inl (sl_t (K := K) R s H at_ x (.tup ds) a l h k hw Q hQ)
  | lst ds => exact .inr (.inl (sl_l (K := K) R s H at_ x (.lst ds) a l h k hw Q hQ))
  | str z => exact .inr (.inr (sl_s R s H at_ x (.str z) a l h k hw Q hQ))
  | _ => exact hw.elim
theorem si_x {t : TE} {w : WE S} (h : SimE W G t w) : SimI W G (iX K t) (wiX w) := fun R env σ H s rl k x hw ox Q hQ => h R env σ H s rl _ x hw ox _ fun d s1 v H1 hw1 f1 j1 a1 => by
  cases d with
  | lst ds =>
    cases a1 with
    | lst e n l z => exact .inl ⟨_, rfl, ⟨_, .of e⟩, hQ ds s1 _ H1 _ hw1 f1 j1 itr_lst (.lst e n l z)⟩
  | tup ds =>
    cases a1 with
    | tup e n l z => exact .inr (.inl ⟨_, rfl, ⟨_, .of e⟩, hQ ds s1 _ H1 _ hw1 f1 j1 itr_tup (.tup e n l z)⟩)
  | str z =>
    cases a1
    exact .inr (.inr ⟨z, rfl, hQ (signs z) s1 _ H1 _ hw1 f1 j1 itr_str True.intro⟩)
  | _ => exact hw1.elim
end
end Dw
set_option Elab.async false
set_option linter.all false
set_option maxRecDepth 100000
set_option maxHeartbeats 4000000
/-! Dz: plain facts about the words over data. -/
namespace Dw
open PySem L2
section
variable {S : Type} {g : WG} {tt : WT S} {te : WE S} {vs : List Nat} {env : List Sl} {s : S} {x : Xc → S → Prop}
/-- a comprehension that changes nothing -/
theorem wLc_pure (p : D → Bool) (f : D → D) : ∀ {ds : List D} {k : List D → S → Prop}, (∀ d ∈ ds, ∀ (kt : D → S → Prop) (kf : S → Prop), (p d = true → kt (f d) s) → (p d = false → kf s) →
      g d (wp env vs) fun e1 => tt e1 s (fun b s1 => if b = true then te e1 s1 kt x else kf s1) x) → k ((ds.filter p).map f) s → wLc g tt te vs ds env s k x
  | [], k, _, hk => hk
  | d :: r, k, h, hk => by
    unfold wLc
    refine h d (by simp) (fun y s2 => wLc g tt te vs r env s2 (fun ys s3 => k (y :: ys) s3) x) (fun s1 => wLc g tt te vs r env s1 k x) (fun hp => ?_) fun hp => ?_
    · refine wLc_pure p f (fun e he => h e (by simp [he])) ?_
      rw [List.filter_cons_of_pos hp, List.map_cons] at hk
      exact hk
    · refine wLc_pure p f (fun e he => h e (by simp [he])) ?_
      rw [List.filter_cons_of_neg (by rw [hp]; exact Bool.false_ne_true)] at hk
      exact hk
theorem wLc_map (f : D → D) {ds : List D} {k : List D → S → Prop} (h : ∀ d ∈ ds, ∀ (kt : D → S → Prop), kt (f d) s → g d (wp env vs) fun e1 => te e1 s kt x) (hk : k (ds.map f) s) :
    wLc g (fun _ s k _ => k true s) te vs ds env s k x := by
  refine wLc_pure (fun _ => true) f (fun d hd kt kf h1 _ => ?_) (by rw [List.filter_eq_self.mpr (by simp)]; exact hk)
  simpa using h d hd kt (h1 rfl)
end
@[simp] theorem bls_map {α : Type} (f : α → Bool) : ∀ ds : List α, D.bls (ds.map fun d => D.bl (f d)) = some (ds.map f)
  | [] => rfl
  | d :: r => by
    show (D.bls (r.map fun d => D.bl (f d))).map (f d :: ·) = _
    rw [bls_map f r]
    rfl
@[simp] theorem bls_map' {α : Type} (f : α → Bool) (ds : List α) : D.bls (ds.map (D.bl ∘ f)) = some (ds.map f) := bls_map f ds
@[simp] theorem ints_map {α : Type} (f : α → Int) : ∀ ds : List α, D.ints (ds.map fun d => D.int (f d)) = some (ds.map f)
  | [] => rfl
  | d :: r => by
    show (D.ints (r.map fun d => D.int (f d))).map (f d :: ·) = _
    rw [ints_map f r]
    rfl
@[simp] theorem strs_map {α : Type} (f : α → Str) : ∀ ds : List α, D.strs (ds.map fun d => D.str (f d)) = some (ds.map f)
  | [] => rfl
  | d :: r => by
    show (D.strs (r.map fun d => D.str (f d))).map (f d :: ·) = _
    rw [strs_map f r]
    rfl
@[simp] theorem keys_map {α : Type} (f : α → Str) : ∀ ds : List α, D.keys (ds.map fun d => D.str (f d)) = some (ds.map fun d => .inr (f d))
  | [] => rfl
  | d :: r => by
    show (D.keys (r.map fun d => D.str (f d))).map ((.inr (f d) : Key) :: ·) = _
    rw [keys_map f r]
    rfl
/-! nothing but plain data within -/
mutual
def D.pl : D → Bool
  | .obj _ _ => false
  | .opq _ => false
  | .ty _ => false
  | .lst ds => D.pls ds
  | .tup ds => D.pls ds
  | .dic _ => false
  | .dit _ => false
  | _ => true
def D.pls : List D → Bool
  | [] => true
  | d :: r => d.pl && D.pls r
end
theorem D.pls_all : ∀ ds : List D, D.pls ds = ds.all D.pl
  | [] => by unfold D.pls; rfl
  | d :: r => by unfold D.pls; rw [D.pls_all r, List.all_cons]
@[simp] theorem pl_non : D.pl .non = true := by unfold D.pl; rfl
@[simp] theorem pl_bl (b : Bool) : D.pl (.bl b) = true := by unfold D.pl; rfl
@[simp] theorem pl_int (b : Int) : D.pl (.int b) = true := by unfold D.pl; rfl
@[simp] theorem pl_str (b : Str) : D.pl (.str b) = true := by unfold D.pl; rfl
@[simp] theorem pl_lst (ds : List D) : D.pl (.lst ds) = ds.all D.pl := by unfold D.pl; exact D.pls_all ds
@[simp] theorem pl_tup (ds : List D) : D.pl (.tup ds) = ds.all D.pl := by unfold D.pl; exact D.pls_all ds
@[simp] theorem pl_obj (C : Addr) (fs : List (Str × D)) : D.pl (.obj C fs) = false := by unfold D.pl; rfl
@[simp] theorem pl_opq (C : Addr) : D.pl (.opq C) = false := by unfold D.pl; rfl
@[simp] theorem pl_ty (n : String) : D.pl (.ty n) = false := by unfold D.pl; rfl
@[simp] theorem pl_dic (k) : D.pl (.dic k) = false := by unfold D.pl; rfl
@[simp] theorem pl_dit (k) : D.pl (.dit k) = false := by unfold D.pl; rfl
@[simp] theorem atI_0 {α : Type} (d : α) (ds : List α) : atI (d :: ds) 0 = some d := by
  unfold atI ixN
  rw [if_pos (by omega), if_pos (by simp <;> omega)]
  rfl
@[simp] theorem atI_1 {α : Type} (c d : α) (ds : List α) : atI (c :: d :: ds) 1 = some d := by
  unfold atI ixN
  rw [if_pos (by omega), if_pos (by simp <;> omega)]
  rfl
@[simp] theorem atI_2 {α : Type} (b c d : α) (ds : List α) : atI (b :: c :: d :: ds) 2 = some d := by
  unfold atI ixN
  rw [if_pos (by omega), if_pos (by simp <;> omega)]
  rfl
theorem so_i0s {S : Type} {W : Wd S} {g : Int → Int → V} (hs : ∀ i j, Sc (g i j)) : SimO W (rI0 g) (wI0 g) := so_i0 hs
theorem so_iCs {S : Type} {W : Wd S} {C : Int → Int → Prop} {g : Int → Int → V} (hs : ∀ i j, Sc (g i j)) : SimO W (rI C g) (wIC C g) := so_iC hs
theorem su_is {S : Type} {W : Wd S} {g : Int → V} (hs : ∀ i, Sc (g i)) : SimU W (rU g) (wU g) := su_i hs
/-! list(range(..)), tuple(range(..)) -/
section
variable {S : Type} {W : Wd S} {G : Gm S} {K : PySem.W.Frag}
abbrev WR (S : Type) := List Sl → S → (Int → Int → S → Prop) → (Xc → S → Prop) → Prop
def SimR (W : Wd S) (G : Gm S) (t : L2.St → Hp → (Int → Int → Hp → Prop) → Prop) (w : WR S) : Prop := ∀ R env σ H s, Rel W G R env σ H s → ∀ k x, w env s k x → XOk W G x → ∀ Q : Int → Int → Hp → Prop,
  (∀ a b s' H', k a b s' → Fr W s H s' H' → W.J s' H' → Q a b H') → t σ H Q
@[simp] def wRg1 (wa : WE S) : WR S := fun env s k x => wa env s (fun d s1 => match d with
  | .int n => k 0 n s1
  | _ => False) x
@[simp] def wRg2 (wa wb : WE S) : WR S := fun env s k x => wa env s (fun d s1 => wb env s1 (fun e s2 => match d, e with
  | .int i, .int j => k i j s2
  | _, _ => False) x) x
@[simp] def wLstRg (w : WR S) : WE S := fun env s k x => w env s (fun a b s1 => RgOk a b ∧ k (.lst (rngD a (b - a).toNat)) s1) x
@[simp] def wLstRgF (w : WR S) : WI S := fun env s k x => w env s (fun a b s1 => RgOk a b ∧ k (rngD a (b - a).toNat) s1) x
@[simp] def wTupRg (w : WR S) : WE S := fun env s k x => w env s (fun a b s1 => RgOk a b ∧ k (.tup (rngD a (b - a).toNat)) s1) x
theorem sim_rg1 {ta : TE} {wa : WE S} (h : SimG W G ta wa) : SimR W G (tRg1 ta) (wRg1 wa) := fun R env σ H s rl k x hw ox Q hQ => h R env σ H s rl _ x hw ox _ fun d s1 v H1 hw1 f1 j1 a1 => by
  cases d with
  | int n => exact ⟨n, a1.intI, hQ _ _ s1 H1 hw1 f1 j1⟩
  | _ => exact hw1.elim
theorem rg_da {B : Addr → Prop} {H : Hp} (a b : Int) : DaL B H (rgV a b) (rngD a (b - a).toNat) := by
  unfold rgV rngD
  generalize (List.range (b - a).toNat) = l
  induction l with
  | nil => exact .nil
  | cons i r ih => exact .cons (.int _) ih
theorem rg_len {a b : Int} (h : RgOk a b) : (rngD a (b - a).toNat).length ≤ sizeLine := by
  unfold rngD
  rw [List.length_map, List.length_range, sizeLine_eq]
  exact h.2.2.2.2
theorem sim_lstRg {t : L2.St → Hp → (Int → Int → Hp → Prop) → Prop} {w : WR S} (h : SimR W G t w) : SimE W G (tLstRg t) (wLstRg w) := fun R env σ H s rl k x hw ox Q hQ => h R env σ H s rl _ x hw ox _ fun a b s1 H1 hw1 f1 j1 => ⟨hw1.1, fun p hp => by
  have at1 := (rl.step f1 j1).at_
  exact hQ _ s1 _ _ hw1.2 (f1.trans (.new_at hp at1)) (at1.new_at hp).j (.lst upd_same (at1.fresh hp) (rg_da a b) (rg_len hw1.1))⟩
/-! new lists of the def's own by list(..), by + -/
@[simp] def wListF (wa : WA S) : WI S := fun env s k x => wa env s (fun ds s1 => match ds with
  | [.lst xs] => k xs s1
  | [.tup xs] => k xs s1
  | _ => False) x
@[simp] def wAddF (wa wb : WE S) : WI S := fun env s k x => wa env s (fun d s1 => wb env s1 (fun e s2 => match d, e with
  | .lst a, .lst b => a.length + b.length ≤ sizeLine ∧ k (a ++ b) s2
  | _, _ => False) x) x
end
theorem rngD_eq (a : Int) (n : Nat) : rngD a n = (List.range n).map fun i => D.int (a + (i : Nat)) := rfl
/-- a for by what holds ahead of each turn -/
theorem wFor_ind {S : Type} {g : WG} {b : WS S} {K : WEnds S} (P : List D → List Sl → S → Prop) {ds : List D} {env : List Sl} {s : S} (h0 : P ds env s) (hn : ∀ env s, P [] env s → K.nx env s)
    (hc : ∀ d r, (∀ env s, P r env s → wFor g b r K env s) → ∀ env s, P (d :: r) env s → g d env fun e => b { K with nx := fun e t => wFor g b r K e t, ct := fun e t => wFor g b r K e t, bk := K.nx } e s) : wFor g b ds K env s := by
  induction ds generalizing env s with
  | nil => exact hn env s h0
  | cons d r ih => exact hc d r (fun env s h => ih h) env s h0
mutual
/-- plain, its ints of at most thirty-one figures -/
def D.sm : D → Bool
  | .int i => decide (-(10 ^ 31) ≤ i) && decide (i ≤ 10 ^ 31)
  | .lst ds => D.sms ds
  | .tup ds => D.sms ds
  | .non => true
  | .bl _ => true
  | .str x => PySem.PyData.strOk x
  | _ => false
def D.sms : List D → Bool
  | [] => true
  | d :: r => d.sm && D.sms r
end
theorem D.sms_all : ∀ ds : List D, D.sms ds = ds.all D.sm
  | [] => by unfold D.sms; rfl
  | d :: r => by unfold D.sms; rw [D.sms_all r, List.all_cons]
@[simp] theorem sm_non : D.sm .non = true := by unfold D.sm; rfl
@[simp] theorem sm_bl (b : Bool) : D.sm (.bl b) = true := by unfold D.sm; rfl
@[simp] theorem sm_int (b : Int) : D.sm (.int b) = (decide (-(10 ^ 31) ≤ b) && decide (b ≤ 10 ^ 31)) := by unfold D.sm; rfl
@[simp] theorem sm_str (b : Str) : D.sm (.str b) = PySem.PyData.strOk b := by unfold D.sm; rfl
@[simp] theorem sm_lst (ds : List D) : D.sm (.lst ds) = ds.all D.sm := by unfold D.sm; exact D.sms_all ds
@[simp] theorem sm_tup (ds : List D) : D.sm (.tup ds) = ds.all D.sm := by unfold D.sm; exact D.sms_all ds
@[simp] theorem sm_obj (C : Addr) (fs : List (Str × D)) : D.sm (.obj C fs) = false := by unfold D.sm; rfl
@[simp] theorem sm_opq (C : Addr) : D.sm (.opq C) = false := by unfold D.sm; rfl
@[simp] theorem sm_ty (n : String) : D.sm (.ty n) = false := by unfold D.sm; rfl
@[simp] theorem sm_dic (k) : D.sm (.dic k) = false := by unfold D.sm; rfl
@[simp] theorem sm_dit (k) : D.sm (.dit k) = false := by unfold D.sm; rfl
mutual
theorem D.sm_pl : ∀ {d : D}, d.sm = true → d.pl = true
  | .non, _ => by simp
  | .bl _, _ => by simp
  | .int _, _ => by simp
  | .str _, _ => by simp
  | .lst ds, h => by
    rw [pl_lst]
    rw [sm_lst] at h
    exact D.sms_pls h
  | .tup ds, h => by
    rw [pl_tup]
    rw [sm_tup] at h
    exact D.sms_pls h
  | .dic _, h => by simp at h
  | .dit _, h => by simp at h
  | .obj _ _, h => by simp at h
  | .opq _, h => by simp at h
  | .ty _, h => by simp at h
theorem D.sms_pls : ∀ {ds : List D}, ds.all D.sm = true → ds.all D.pl = true
  | [], _ => rfl
  | d :: r, h => by
    rw [List.all_cons, Bool.and_eq_true] at h ⊢
    exact ⟨D.sm_pl h.1, D.sms_pls h.2⟩
end
/-! membership -/
theorem inD_ints (x : Int) : ∀ acc : List Int, inD (.int x) (acc.map fun y => D.int y) = decide (x ∈ acc)
  | [] => by simp [inD]
  | y :: r => by
    have ih := inD_ints x r
    unfold inD at ih ⊢
    rw [List.map_cons, List.any_cons, ih]
    show ((y == x) || _) = _
    by_cases h : x = y
    · subst h
      simp
    · have : (y == x) = false := by simpa using fun z => h z.symm
      simp [this, h]
theorem cut1 (d : D) (r : List D) : cutD (d :: r) (some 1) none = r := by
  unfold cutD
  rw [show HT.sIx (d :: r).length 0 (some 1) = 1 by rw [show ((1 : Int)) = ((1 : Nat) : Int) from rfl, HT.sIx_nat, List.length_cons]; omega, HT.sIx_none]
  simp
end Dw
set_option Elab.async false
set_option linter.all false
set_option maxRecDepth 100000
set_option maxHeartbeats 4000000
/-! Bx: the drawing's box (a dict with text keys at a place that changes, a list of ints beside it) over data. -/
namespace Dw
open PySem PySem.Spec PyProof.Rows L2
theorem huB {k : Nat} {A : Around} (r : Room k A) : A.units + 1 < cLine := by have := r.un; omega
structure Box where
  a : Addr
  c : Addr
  cells : List Int
  at_ : Int
  rest : Int
  many : Int
  great : Bool
  all : Int
def Box.kvs (b : Box) : List (Key × V) := [(.inr "cells", .ref b.c), (.inr "at", .int b.at_), (.inr "rest", .int b.rest), (.inr "many", .int b.many), (.inr "great", .bl b.great), (.inr "all", .int b.all)]
def BW : Wd Box where
  C b x := x = b.a ∨ x = b.c
  J b H := H b.a = some (.dK b.kvs) ∧ H b.c = some (.lst (b.cells.map V.int)) ∧ b.cells.length ≤ sizeLine
  tr := by
    rintro s H a ⟨h1, h2, _⟩ (rfl | rfl)
    · rw [h1]; simp
    · rw [h2]; simp
  ct := by
    rintro s H a xs ⟨h1, h2, _⟩ (rfl | rfl)
    · rw [h1]; simp
    · rw [h2]; simp
  st := by
    rintro s H H' ⟨h1, h2, h3⟩ h _
    exact ⟨(h _ (.inl rfl)).trans h1, (h _ (.inr rfl)).trans h2, h3⟩
def bget (b : Box) (k : Str) : Option D := if k = "cells" then some (.opq b.c) else if k = "at" then some (.int b.at_) else if k = "rest" then some (.int b.rest) else
  if k = "many" then some (.int b.many) else if k = "great" then some (.bl b.great) else if k = "all" then some (.int b.all) else none
def bput (b : Box) (k : Str) : D → Option Box
  | .int i => if k = "at" then some { b with at_ := i } else if k = "rest" then some { b with rest := i } else if k = "many" then some { b with many := i } else if k = "all" then some { b with all := i } else none
  | .bl g => if k = "great" then some { b with great := g } else none
  | _ => none
@[simp] theorem bget_cells (b : Box) : bget b "cells" = some (.opq b.c) := rfl
@[simp] theorem bget_at (b : Box) : bget b "at" = some (.int b.at_) := rfl
@[simp] theorem bget_rest (b : Box) : bget b "rest" = some (.int b.rest) := rfl
@[simp] theorem bget_many (b : Box) : bget b "many" = some (.int b.many) := rfl
@[simp] theorem bget_great (b : Box) : bget b "great" = some (.bl b.great) := rfl
@[simp] theorem bget_all (b : Box) : bget b "all" = some (.int b.all) := rfl
@[simp] theorem bput_at (b : Box) (i : Int) : bput b "at" (.int i) = some { b with at_ := i } := rfl
@[simp] theorem bput_rest (b : Box) (i : Int) : bput b "rest" (.int i) = some { b with rest := i } := rfl
@[simp] theorem bput_many (b : Box) (i : Int) : bput b "many" (.int i) = some { b with many := i } := rfl
@[simp] theorem bput_all (b : Box) (i : Int) : bput b "all" (.int i) = some { b with all := i } := rfl
@[simp] theorem bput_great (b : Box) (g : Bool) : bput b "great" (.bl g) = some { b with great := g } := rfl
@[simp] def wBGet (i : Nat) (k : Str) : WE Box := fun env s kk _ => match sg env i with
  | .dat (.opq a) => a = s.a ∧ (match bget s k with
    | some d => kk d s
    | none => False)
  | _ => False
@[simp] def wBPut (i : Nat) (k : Str) (wv : WE Box) : WS Box := fun KK env s => wv env s (fun d s1 => match sg env i with
  | .dat (.opq a) => a = s1.a ∧ (match bput s1 k d with
    | some s2 => KK.nx env s2
    | none => False)
  | _ => False) KK.xc
@[simp] def wBAug (i : Nat) (k : Str) (wo : D → D → Box → (D → Box → Prop) → Prop) (wv : WE Box) : WS Box := fun KK env s => match sg env i with
  | .dat (.opq a) => a = s.a ∧ (match bget s k with
    | some d => wv env s (fun e s1 => wo d e s1 fun z s2 => a = s2.a ∧ (match bput s2 k z with
      | some s3 => KK.nx env s3
      | none => False)) KK.xc
    | none => False)
  | _ => False
@[simp] def wIxB : D → D → Box → (D → Box → Prop) → Prop := fun d e s k => match d, e with
  | .opq c, .int i => c = s.c ∧ (match atI s.cells i with
    | some n => k (.int n) s
    | none => False)
  | d, e => wIx d e s k
@[simp] def wLenB : List D → Box → (D → Box → Prop) → Prop := fun ds s k => match ds with
  | [.opq c] => c = s.c ∧ k (.int s.cells.length) s
  | ds => wLen ds s k
section
variable {G : Gm Box} {K : PySem.W.Frag}
end
/-! ### comprehensions that draw -/
/-- what a comprehension with a filter takes -/
inductive Sub (Pd : D → D → Prop) : List D → List D → Prop
  | nil : Sub Pd [] []
  | skip {d : D} {ds ys : List D} : Sub Pd ds ys → Sub Pd (d :: ds) ys
  | take {d y : D} {ds ys : List D} : Pd d y → Sub Pd ds ys → Sub Pd (d :: ds) (y :: ys)
section
variable {S : Type} {g : WG} {tt : WT S} {te : WE S} {vs : List Nat} {env : List Sl} {x : Xc → S → Prop}
end
end Dw
set_option Elab.async false
set_option linter.all false
set_option maxRecDepth 100000
set_option maxHeartbeats 4000000
/-! Dv: how wide and how deep data are, for repr. -/
namespace Dw
open PySem PySem.Spec PyProof.Rows L2
/-! sizes -/
mutual
def sz : PyData → Nat
  | .none => 5
  | .bool _ => 6
  | .int i => (Str.ofString (toString i)).length + 1
  | .str x => (reprText x).length + 1
  | .list ds => 4 + szL ds
  | .tuple ds => 4 + szL ds
  | .dict kvs => 4 + szK kvs
def szL : List PyData → Nat
  | [] => 0
  | d :: r => sz d + 2 + szL r
def szK : List (PyData × PyData) → Nat
  | [] => 0
  | (a, b) :: r => sz a + sz b + 4 + szK r
end
theorem join_le : ∀ ts : List Str, (Str.join ", " ts).length ≤ piled ts := fun ts => by
  by_cases h : ts = []
  · subst h
    exact Nat.zero_le _
  · have := join_length_add ts h
    omega
theorem textFrom_le : ∀ (ts : List Str) (k : Nat) (acc : Str), (textFrom k acc ts).length ≤ acc.length + piled ts
  | [], k, acc => Nat.le_add_right _ _
  | t :: r, k, acc => by
    have h := textFrom_le r (k + 1) (acc ++ (if k > 0 then ", " else "" : String) ++ t)
    have e : (acc ++ (if k > 0 then ", " else "" : String) ++ t).length ≤ acc.length + 2 + t.length := by
      rw [strLen_append, strLen_append]
      by_cases c : k > 0
      · rw [if_pos c]
        exact Nat.le_refl _
      · rw [if_neg c]
        show acc.length + 0 + t.length ≤ _
        omega
    show (textFrom (k + 1) (acc ++ (if k > 0 then ", " else "" : String) ++ t) r).length ≤ _
    have e2 : piled (t :: r) = t.length + 2 + piled r := by simp [piled]
    omega
mutual
theorem shown_sz : ∀ d : PyData, d.shown.length ≤ sz d
  | .none => (by decide : 4 ≤ 5)
  | .bool b => by cases b <;> exact (by decide)
  | .int i => Nat.le_succ _
  | .str x => Nat.le_succ _
  | .list ds => by
    have h := shownAll_sz ds
    have h2 := textFrom_le (PyData.shownAll ds) 0 "["
    show (textFrom 0 "[" (PyData.shownAll ds) ++ "]").length ≤ 4 + szL ds
    rw [strLen_append]
    have e1 : ("]" : Str).length = 1 := rfl
    have e2 : ("[" : Str).length = 1 := rfl
    omega
  | .tuple ds => by
    have h := shownAll_sz ds
    have h2 := join_le (PyData.shownAll ds)
    show (("(" : Str) ++ Str.join ", " (PyData.shownAll ds) ++ (if (PyData.shownAll ds).length == 1 then ",)" else ")" : String)).length ≤ 4 + szL ds
    rw [strLen_append, strLen_append]
    have e1 : ("(" : Str).length = 1 := rfl
    have e2 : (Str.ofString (if (PyData.shownAll ds).length == 1 then ",)" else ")" : String)).length ≤ 2 := by split <;> decide
    omega
  | .dict kvs => by
    have h := shownKv_sz kvs
    have h2 := join_le (PyData.shownKv kvs)
    show (("{" : Str) ++ Str.join ", " (PyData.shownKv kvs) ++ "}").length ≤ 4 + szK kvs
    rw [strLen_append, strLen_append]
    have e1 : ("{" : Str).length = 1 := rfl
    have e2 : ("}" : Str).length = 1 := rfl
    omega
theorem shownAll_sz : ∀ ds : List PyData, piled (PyData.shownAll ds) ≤ szL ds
  | [] => Nat.le_refl _
  | d :: r => by
    have h1 := shown_sz d
    have h2 := shownAll_sz r
    show piled (d.shown :: PyData.shownAll r) ≤ sz d + 2 + szL r
    have e2 : piled (d.shown :: PyData.shownAll r) = d.shown.length + 2 + piled (PyData.shownAll r) := by simp [piled]
    omega
theorem shownKv_sz : ∀ ds : List (PyData × PyData), piled (PyData.shownKv ds) ≤ szK ds
  | [] => Nat.le_refl _
  | (a, b) :: r => by
    have h1 := shown_sz a
    have h3 := shown_sz b
    have h2 := shownKv_sz r
    show piled ((a.shown ++ ": " ++ b.shown) :: PyData.shownKv r) ≤ sz a + sz b + 4 + szK r
    have e2 : piled ((a.shown ++ ": " ++ b.shown) :: PyData.shownKv r) = (a.shown ++ ": " ++ b.shown).length + 2 + piled (PyData.shownKv r) := by simp [piled]
    rw [strLen_append, strLen_append] at e2
    have e3 : (": " : Str).length = 2 := rfl
    omega
end
mutual
def D.wd : D → Nat
  | .non => 5
  | .bl _ => 6
  | .int _ => 40
  | .str x => (reprText x).length + 1
  | .lst ds => 4 + D.wds ds
  | .tup ds => 4 + D.wds ds
  | _ => 0
def D.wds : List D → Nat
  | [] => 0
  | d :: r => d.wd + 2 + D.wds r
end
mutual
def D.dp : D → Nat
  | .lst ds => D.dps ds + 1
  | .tup ds => D.dps ds + 1
  | _ => 0
def D.dps : List D → Nat
  | [] => 0
  | d :: r => max d.dp (D.dps r)
end
theorem int_sz {i : Int} (h : -(10 ^ 31) ≤ i ∧ i ≤ 10 ^ 31) : (PyData.int i).showable = true ∧ sz (.int i) ≤ 40 := by
  have n : i.natAbs < 10 ^ 32 := by omega
  refine ⟨decide_eq_true ?_, ?_⟩
  · have : i.natAbs < 2 ^ 1920 := Nat.lt_trans n (Nat.lt_of_lt_of_le (by decide : (10 : Nat) ^ 32 < 2 ^ 107) (Nat.pow_le_pow_right (by decide) (by decide)))
    exact PySem.Flt.log2_lt_of (by decide) this
  · have := PySem.int_text_length_le10 (a := i) (k := 32) (by decide) n
    show (Str.ofString (toString i)).length + 1 ≤ 40
    have e : (Str.ofString (toString i)).length = (toString i).length := PySem.ofString_length _
    omega
mutual
theorem D.rp : ∀ {d : D}, d.sm = true → ∃ p, d.py = some p ∧ p.showable = true ∧ sz p ≤ d.wd ∧ p.depth ≤ d.dp
  | .non, _ => ⟨.none, rfl, rfl, by unfold D.wd; exact Nat.le_refl _, Nat.zero_le _⟩
  | .bl b, _ => ⟨.bool b, rfl, rfl, by unfold D.wd; exact Nat.le_refl _, Nat.zero_le _⟩
  | .int i, h => ⟨.int i, rfl, (int_sz (by simpa using h)).1, by unfold D.wd; exact (int_sz (by simpa using h)).2, Nat.zero_le _⟩
  | .str x, _ => ⟨.str x, rfl, rfl, by unfold D.wd; exact Nat.le_refl _, Nat.zero_le _⟩
  | .lst ds, h => by
    obtain ⟨ps, e, a, b, c⟩ := D.rps (ds := ds) (by simpa using h)
    exact ⟨.list ps, by simp [e], a, by unfold D.wd; exact Nat.add_le_add_left b 4, by unfold D.dp; exact Nat.succ_le_succ c⟩
  | .tup ds, h => by
    obtain ⟨ps, e, a, b, c⟩ := D.rps (ds := ds) (by simpa using h)
    exact ⟨.tuple ps, by simp [e], a, by unfold D.wd; exact Nat.add_le_add_left b 4, by unfold D.dp; exact Nat.succ_le_succ c⟩
  | .dic _, h => by simp at h
  | .dit _, h => by simp at h
  | .obj _ _, h => by simp at h
  | .opq _, h => by simp at h
  | .ty _, h => by simp at h
theorem D.rps : ∀ {ds : List D}, (∀ d ∈ ds, d.sm = true) → ∃ ps, D.pys ds = some ps ∧ PyData.showableAll ps = true ∧ szL ps ≤ D.wds ds ∧ PyData.depthAll ps ≤ D.dps ds
  | [], _ => ⟨[], rfl, rfl, Nat.zero_le _, Nat.zero_le _⟩
  | d :: r, h => by
    obtain ⟨p, e, a, b, c⟩ := D.rp (d := d) (h d (by simp))
    obtain ⟨ps, e2, a2, b2, c2⟩ := D.rps (ds := r) fun z hz => h z (by simp [hz])
    refine ⟨p :: ps, by simp [e, e2], by show (p.showable && PyData.showableAll ps) = true; rw [a, a2]; rfl, ?_, ?_⟩
    · unfold D.wds
      show sz p + 2 + szL ps ≤ _
      omega
    · unfold D.dps
      show max p.depth (PyData.depthAll ps) ≤ _
      omega
end
/-- good: plain with ints not too great, at most n wide, k deep -/
def Pq (n k : Nat) (d : D) : Prop := d.sm = true ∧ d.wd ≤ n ∧ d.dp ≤ k
def Lq (n k m : Nat) (ds : List D) : Prop := ds.length ≤ m ∧ ∀ d ∈ ds, Pq n k d
theorem Pq.mono {n k n' k' : Nat} {d : D} (h : Pq n k d) (a : n ≤ n') (b : k ≤ k') : Pq n' k' d := ⟨h.1, Nat.le_trans h.2.1 a, Nat.le_trans h.2.2 b⟩
theorem Lq.mono {n k m n' k' m' : Nat} {ds : List D} (h : Lq n k m ds) (a : n ≤ n') (b : k ≤ k') (c : m ≤ m') : Lq n' k' m' ds := ⟨Nat.le_trans h.1 c, fun d hd => (h.2 d hd).mono a b⟩
theorem wds_le {n : Nat} : ∀ {ds : List D}, (∀ d ∈ ds, d.wd ≤ n) → D.wds ds ≤ (n + 2) * ds.length
  | [], _ => by unfold D.wds; exact Nat.zero_le _
  | d :: r, h => by
    have h1 := h d (by simp)
    have h2 := wds_le (ds := r) fun z hz => h z (by simp [hz])
    unfold D.wds
    rw [List.length_cons, Nat.mul_succ]
    omega
theorem dps_le {k : Nat} : ∀ {ds : List D}, (∀ d ∈ ds, d.dp ≤ k) → D.dps ds ≤ k
  | [], _ => by unfold D.dps; exact Nat.zero_le _
  | d :: r, h => by
    have h1 := h d (by simp)
    have h2 := dps_le (ds := r) fun z hz => h z (by simp [hz])
    unfold D.dps
    omega
theorem Lq.wd {n k m : Nat} {ds : List D} (h : Lq n k m ds) : D.wds ds ≤ (n + 2) * m := Nat.le_trans (wds_le fun d hd => (h.2 d hd).2.1) (Nat.mul_le_mul_left _ h.1)
theorem Lq.tup {n k m : Nat} {ds : List D} (h : Lq n k m ds) : Pq (4 + (n + 2) * m) (k + 1) (.tup ds) := by
  refine ⟨by rw [sm_tup, List.all_eq_true]; exact fun d hd => (h.2 d hd).1, ?_, ?_⟩
  · unfold D.wd
    have := h.wd
    omega
  · unfold D.dp
    have := dps_le (ds := ds) (k := k) fun d hd => (h.2 d hd).2.2
    omega
theorem Lq.lst {n k m : Nat} {ds : List D} (h : Lq n k m ds) : Pq (4 + (n + 2) * m) (k + 1) (.lst ds) := by
  refine ⟨by rw [sm_lst, List.all_eq_true]; exact fun d hd => (h.2 d hd).1, ?_, ?_⟩
  · unfold D.wd
    have := h.wd
    omega
  · unfold D.dp
    have := dps_le (ds := ds) (k := k) fun d hd => (h.2 d hd).2.2
    omega
theorem Lq.nil {n k : Nat} : Lq n k 0 [] := ⟨Nat.le_refl _, fun _ h => by cases h⟩
theorem Lq.app {n k m l : Nat} {ds es : List D} (h : Lq n k m ds) (h' : Lq n k l es) : Lq n k (m + l) (ds ++ es) := ⟨by rw [List.length_append]; exact Nat.add_le_add h.1 h'.1, fun d hd => by
  rcases List.mem_append.mp hd with q | q
  · exact h.2 d q
  · exact h'.2 d q⟩
theorem Lq.one {n k : Nat} {d : D} (h : Pq n k d) : Lq n k 1 [d] := ⟨Nat.le_refl _, fun z hz => by rw [List.mem_singleton] at hz; rw [hz]; exact h⟩
theorem Lq.cons {n k m : Nat} {d : D} {ds : List D} (h : Pq n k d) (t : Lq n k m ds) : Lq n k (m + 1) (d :: ds) := ⟨by rw [List.length_cons]; exact Nat.succ_le_succ t.1, fun z hz => by
  rcases List.mem_cons.mp hz with rfl | q
  · exact h
  · exact t.2 z q⟩
theorem Lq.set {n k m : Nat} {d : D} {ds : List D} (i : Nat) (h : Lq n k m ds) (hd : Pq n k d) : Lq n k m (ds.set i d) := ⟨by rw [List.length_set]; exact h.1, fun z hz => by
  rcases List.mem_or_eq_of_mem_set hz with q | q
  · exact h.2 z q
  · rw [q]; exact hd⟩
theorem Lq.sub {n k m : Nat} {ds es : List D} (h : Lq n k m ds) (s : ∀ d ∈ es, d ∈ ds) (l : es.length ≤ m) : Lq n k m es := ⟨l, fun d hd => h.2 d (s d hd)⟩
theorem Pq.str {x : Str} {l : Nat} (h0 : ∀ c ∈ x.cps.toList, c < 0x110000) (hl : x.length ≤ l) : Pq (10 * l + 3) 0 (.str x) := by
  have h : ∀ c ∈ x.cps.toList, c < 16 ^ 8 := fun c hc => Nat.lt_trans (h0 c hc) (by decide)
  refine ⟨by
    rw [sm_str]
    unfold PySem.PyData.strOk
    rw [← Array.all_toList, List.all_eq_true]
    exact fun c hc => decide_eq_true (h0 c hc), ?_, by unfold D.dp; exact Nat.le_refl _⟩
  unfold D.wd
  have := PySem.StrLaws.reprText_len x h
  omega
theorem Pq.int {i : Int} (h : -(10 ^ 31) ≤ i ∧ i ≤ 10 ^ 31) : Pq 40 0 (.int i) := ⟨by simpa using h, by unfold D.wd; exact Nat.le_refl _, by unfold D.dp; exact Nat.le_refl _⟩
theorem Pq.non : Pq 5 0 .non := ⟨by simp, by unfold D.wd; exact Nat.le_refl _, by unfold D.dp; exact Nat.le_refl _⟩
theorem Pq.bl (b : Bool) : Pq 6 0 (.bl b) := ⟨by simp, by unfold D.wd; exact Nat.le_refl _, by unfold D.dp; exact Nat.le_refl _⟩
/-- what repr asks -/
theorem Pq.shown {n k : Nat} {d : D} (h : Pq n k d) (hn : n ≤ sizeLine) (hk : k ≤ 190) : ∃ p, d.py = some p ∧ p.showable = true ∧ p.shown.length ≤ sizeLine ∧ p.depth ≤ 190 := by
  obtain ⟨p, e, a, b, c⟩ := D.rp h.1
  exact ⟨p, e, a, Nat.le_trans (shown_sz p) (Nat.le_trans b (Nat.le_trans h.2.1 hn)), Nat.le_trans c (Nat.le_trans h.2.2 hk)⟩
end Dw
set_option Elab.async false
set_option linter.all false
set_option maxRecDepth 100000
set_option maxHeartbeats 4000000
/-! Rt: tuple(reversed(x)), x a tuple. -/
namespace Rt
open PySem PySem.Spec PyProof.Rows L2 RT
theorem short {n : Nat} (hn : n ≤ sizeLine) : Builtin.List.listTooLong ((n : Nat) : Int).toNat = false := decide_eq_false (Nat.not_lt.mpr hn)
section
variable {prog : Program} {w : World} {A : Around} {E : Value → Shared → Prop} {s : Shared}
end
/-- tuple(reversed(x)), x a tuple: a new tuple -/
def tTupRevT (K : PySem.W.Frag) (te : TE) : TE := fun σ H Q => te σ H fun v H1 => ∃ (a : Addr) (xs : List V), v = .ref a ∧ SqT K H1 a xs ∧ ∀ q, H1 q = none → Q (.ref q) (upd H1 q (.tup xs.reverse))
end Rt
set_option Elab.async false
set_option linter.all false
set_option maxRecDepth 100000
set_option maxHeartbeats 4000000
/-! Ru: tuple(reversed(tuple)) over data. -/
namespace Dw
open PySem PySem.Spec PyProof.Rows L2
section
variable {S : Type} {W : Wd S} {G : Gm S} {K : PySem.W.Frag}
@[simp] def wTupRev (wa : WE S) : WE S := fun env s k x => wa env s (fun d s1 => match d with
  | .tup ds => k (.tup ds.reverse) s1
  | _ => False) x
end
end Dw
set_option Elab.async false
set_option linter.all false
set_option maxRecDepth 100000
set_option maxHeartbeats 4000000
/-! Mk: an instance made, its __init__ promised where no repr is under way (Gl.Fn). -/
namespace Gl
open PySem PySem.Spec PyProof.Rows L2
theorem gd_make {A : Around} (h : A.guards = some []) (C : Addr) (us : List Value) (kw : List (Str × Value)) : (A.under (.builtin "type.__call__" ⟨.ref C :: us, kw⟩)).guards = some [] := by
  rw [← h]
  first | rfl | (simp [Around.under]; done) | kernel_rfl
section
variable {X : Cx} {k j : Nat} {f C : Addr} {fd : FuncData} {ps : List Str} {sp : Sp} {E : L2.St → XK} {x : Str} {p pos : Pos} {e : Expr} {es : List Expr} {t : TA}
/-- C(..) -/
def tMk (C : Addr) (sp : Sp) (E : L2.St → XK) (t : TA) : TE := fun σ H Q => t σ H fun vs H1 => ∀ a dx, H1 a = none → H1 dx = none → dx ≠ a →
  sp (.ref a :: vs) (upd (upd H1 dx (.own a)) a (.ins C dx [])) (fun v H2 => v = .non ∧ Q (.ref a) H2) (E σ)
theorem run_mk {pins : List (Addr × Obj)} {σ : L2.St} {H : Hp} {s : Shared} {Q : VK} {us : List Value} {vs : List V} {E' : XK} (M : Mk X.K C f) (F : Fn X.prog X.w X.K X.mg X.base k f fd ps sp) (hr : Room (k + 1) X.A) (hG : X.A.guards = some []) (hb : Binds X.K fd ps [])
    (hx : PassesAt (L2.CX X.prog X.w) X σ E') (I : Inv X pins σ H s) (r : Vals vs us)
    (h : ∀ a dx, H a = none → H dx = none → dx ≠ a → sp (.ref a :: vs) (upd (upd H dx (.own a)) a (.ins C dx [])) (fun v H2 => v = .non ∧ Q (.ref a) H2) E') :
    wpAny (model X.prog X.w) X.A (call (.ref C) us) (EP X pins σ Q) X.xe s := by
  have hq := h (s.heap.objs.size + 1) s.heap.objs.size (I.hok.fresh (Nat.le_succ _)) (I.hok.fresh (Nat.le_refl _)) (Nat.ne_of_lt (Nat.lt_succ_self _))
  have I2 := Inv.made (C := C) I
  have r2 : Vals (V.ref (s.heap.objs.size + 1) :: vs) (Value.ref (s.heap.objs.size + 1) :: us) := .cons rfl r
  have hl : (Value.ref (s.heap.objs.size + 1) :: us ++ []).length = ps.length := by
    have e := r2.length
    rw [F.many _ _ _ _ hq] at e
    rw [List.append_nil]
    exact e.symm
  have b := hb _ (Value.ref (s.heap.objs.size + 1) :: us) I2.kIn hl
  rw [List.append_nil] at b
  refine wpAny_call (make_map (f := f) I.kIn M.makes M.init (beq_iff_eq.mp M.fn) (codeAny_mono (F.go _ X.stack _ _ ⟨Value.ref (s.heap.objs.size + 1) :: us, []⟩ (Value.ref (s.heap.objs.size + 1) :: us) _ _ E' (hr.make C us [])
    (gd_make hG C us []) (I2.env0.make C us []) b r2 hq) fun r s' hq' => ?_))
  cases r with
  | error e => exact hx pins _ _ e s' I2 hq'
  | ok fl =>
    cases fl with
    | ret u =>
      obtain ⟨v, H', I3, rv, ev, q3⟩ := I2.after hq'
      subst ev
      exact ⟨rv, ⟨V.ref (s.heap.objs.size + 1), H', I3, rfl, q3⟩⟩
    | next => exact False.elim hq'
    | brk => exact False.elim hq'
    | cont => exact False.elim hq'
theorem pe_mk (M : Mk X.K C f) (F : Fn X.prog X.w X.K X.mg X.base k f fd ps sp) (hr : Room j X.A) (hk : k + 1 ≤ j) (hG : X.A.guards = some []) (hg : Gl X x) (hm : X.mg x = some (.ref C)) (hb : Binds X.K fd ps []) (hx : ∀ σ, PassesAt (L2.CX X.prog X.w) X σ (E σ))
    (ha : PA X (e :: es) t) (hdb : (x == ("__debug__" : Str)) = false := by decide) (he : starEach (e :: es) X.env = (false, eval e X.env) :: starEach es X.env := by rfl) (hpl : (backTo pos (starEach es X.env)).any (·.1) = false := by rfl) :
    PE X (.Call (.Name x p) (e :: es) [] pos) (tMk C sp E t) := by
  refine ⟨fun pins s σ H Q I h => ?_⟩
  refine wpAny_Call_Name_kw (ld_glob I hg hm ?_ hdb)
  refine PySem.W.callWith_K (h₀ := X.base) I.ok.mod.kin M.kp (thn (ha.run pos pins s σ H _ I h) fun us s1 ⟨vs, H1, I1, r, q⟩ => ⟨I1.kIn, ?_⟩) he hpl
  exact run_mk M F (hr.mono hk) hG hb (hx σ) I1 r q
end
end Gl
set_option Elab.async false
set_option linter.all false
set_option maxRecDepth 100000
set_option maxHeartbeats 4000000
/-! Xr: an own error that keeps its part, raised. -/
namespace L2
open PySem PySem.Spec PyProof.Rows
section
variable {X : Cx}
/-- raise C(e) -/
def tRaE (C : Addr) (fld : Str) (te : TE) : L2.St → Hp → XK → Prop := fun σ H Q => te σ H fun v H1 => ∀ d, H1 d = none → Q (.ref C) (some d) (upd H1 d (.xd [(fld, v)]))
theorem pmk_mkE {x : Str} {a : Expr} {te : TE} {p pos : Pos} {k : Nat} {C : Addr} {fld : Str} (T : Ex.BadC X.prog X.K C fld) (hR : Raises X (.ref C)) (hm : X.mg x = some (.ref C)) (hs : X.mg "super" = none) (hr : Room k X.A) (hk : 2 ≤ k) (ha : PE X a te) (hg : Gl X x)
    (hd : (x == ("__debug__" : Str)) = false := by decide) (he : starEach (a :: []) X.env = (false, eval a X.env) :: starEach [] X.env := by rfl) (hpl : (backTo pos (starEach [] X.env)).any (·.1) = false := by rfl) :
    PMk X (.Call (.Name x p) [a] [] pos) (tRaE C fld te) := by
  intro pins s σ H Q I h
  refine wpAny_Call_Name_kw (ld_glob I hg hm ?_ hd)
  refine PySem.W.callWith_K (h₀ := X.base) I.ok.mod.kin T.kC ?_ he hpl
  rw [he]
  show wpAny _ _ (spliced ((false, eval a X.env) :: backTo pos (starEach [] X.env))) _ _ s
  refine Calls.spliced_cons (thn (ha.run pins s σ H _ I h) fun u s1 ⟨v, H1, I1, r1, q1⟩ => ?_)
  refine Calls.spliced_nil ⟨I1.kIn, ?_⟩
  show wpAny _ _ (call (.ref C) [u]) _ _ _
  have hlim := I1.nolimit
  have E0 := I1.env0
  obtain ⟨hp, g, dr, tk, os⟩ := s1
  obtain ⟨mb, hb, hbb⟩ := E0.mod.blt
  refine wpAny_call (Ex.bad_made T I1.kIn (E0.mod.glob.keeps fun b o q => (E0.bs b o q).1) hs (hb.keeps fun b o q => (E0.bs b o q).1) ((hbb "super" (by decide)).trans rfl) hlim (by have := hr.dp; omega) fun h' tk' e d M => ?_)
  obtain ⟨t1, hoe⟩ := M.obj
  have hns := M.ns
  obtain ⟨G', g1, g2⟩ := restrict h' fun b => decide (b ≠ e)
  have gk : ∀ b, b ≠ e → G'.get? b = h'.get? b := fun b hb => g1 b (decide_eq_true hb)
  have ge : G'.get? e = none := g2 e (by simp)
  have old : ∀ b o, hp.get? b = some o → G'.get? b = some o := fun b o q => (gk b (Nat.ne_of_lt (Nat.lt_of_lt_of_le (Heap.lt_size q) M.new))).trans (M.keep b o q)
  have ob : ObjOk X.prog X.w (upd H1 d (.xd [(fld, v)])) G' d (.xd [(fld, v)]) :=
    ⟨_, hns.at (fun o q => (gk d M.dne).trans q), fun f => relO_one r1 f⟩
  have J : Inv X pins σ (upd H1 d (.xd [(fld, v)])) ⟨G', g, dr, tk', os⟩ := I1.laid (t' := tk') old M.dbig ob
  have hd1 : H1 d = none := I1.hok.fresh M.dbig
  have he1 : H1 e = none := I1.hok.fresh M.new
  have he2 : upd H1 d (.xd [(fld, v)]) e = none := by rw [upd_ne (Ne.symm M.dne)]; exact he1
  have kk : ∀ b u, G'.get? b = some u → h'.get? b = some u := fun b u q => by
    by_cases hb : b = e
    · rw [hb, ge] at q; cases q
    · rw [← gk b hb]; exact q
  exact ⟨e, _, _, _, _, .ref C, some d, rfl, J, kk, ge, hoe, ⟨rfl, rfl⟩, rfl, rfl, he2, rfl, J.bare, hR, q1 d hd1⟩
end
end L2
namespace Dw
open PySem PySem.Spec PyProof.Rows L2
section
variable {S : Type} {W : Wd S} {G : Gm S}
@[simp] def wRaise (C : Addr) (fld : Str) (we : WE S) : WS S := fun KK env s => we env s (fun d s1 => KK.xc ⟨C, [(fld, d)]⟩ s1) KK.xc
theorem ss_raise {C : Addr} {fld : Str} {te : TE} {we : WE S} (he : SimE W G te we) : SimS W G (fun _ σ H => tRaE C fld te σ H fun cls d H' => G.E cls d H') (wRaise C fld we) := fun R env σ H s rl KK hw Dn e => by
  refine he R env σ H s rl _ KK.xc hw e.xc _ fun d s1 v H1 hw1 f1 j1 a1 => fun p hp => ?_
  have rl1 := rl.step f1 j1
  have at1 := rl1.at_
  have sub : ∀ a, Bf W G.R0 s1 a → Bf W R s1 a := fun a z => z.imp (rl1.r0 a) id
  refine e.xc ⟨C, [(fld, d)]⟩ s1 _ _ _ hw1 (rl1.fr.trans (.new_at hp at1)) (at1.new_at hp).j ⟨rfl, .inr ⟨p, _, rfl, upd_same, fun z => at1.fresh hp (sub p z), ?_⟩⟩
  exact .cons ((a1.mv (Fr.new_at hp at1).mv).imp sub) .nil
end
end Dw
set_option Elab.async false
set_option linter.all false
set_option maxRecDepth 100000
set_option maxHeartbeats 4000000
/-! Mw: instances made, over data: what an __init__ promises (spIni), the word of C(..). -/
namespace Dw
open PySem PySem.Spec PyProof.Rows L2
section
variable {S : Type}
/-- an __init__: wf says (as of a def) what instance comes of it -/
def spIni (W : Wd S) (C : Addr) (wf : List D → S → (D → S → Prop) → (Xc → S → Prop) → Prop) : Sp := fun vs H Q E => ∃ (R : Addr → Prop) (s : S) (k : D → S → Prop) (x : Xc → S → Prop) (a dx : Addr) (vs0 : List V) (ds : List D),
  vs = .ref a :: vs0 ∧ H a = some (.ins C dx []) ∧ R a ∧ At W R s H ∧ DaL (Bf W R s) H vs0 ds ∧ wf ds s k x ∧
  (∀ fs s' vF H', k (.obj C fs) s' → Fr W s H s' H' → W.J s' H' → DaF (Bf W R s') H' vF fs → Q .non (upd H' a (.ins C dx vF))) ∧
  ∀ c s' cls d H', x c s' → Fr W s H s' H' → W.J s' H' → XcR (Bf W R s') H' c cls d → E cls d H'
variable {W : Wd S} {G : Gm S}
end
end Dw
set_option Elab.async false
set_option linter.all false
set_option maxRecDepth 100000
set_option maxHeartbeats 4000000
/-! Ty: try .. except C as n, with more clauses behind it that are never asked: each exception of the body is a C. -/
namespace L2
open PySem PySem.Spec PyProof.Rows
/-- what the first clause wishes: it takes the exception for certain -/
def wAsR (K : PySem.W.Frag) (c : Value) (i : Nat) (ts : Addr → Value → Option Addr → TS) (D : Ends) : WX := fun cls d σ H =>
  PySem.W.exmOne K cls c = some true ∧ ∀ a, H a = none → ts a cls d { nx := fun σ' H' => D.nx (σ'.set i none) H', rt := D.rt, bk := fun σ' H' => D.bk (σ'.set i none) H', ct := fun σ' H' => D.ct (σ'.set i none) H' } (σ.set i (some (.ref a))) H
section
variable {X : Cx} {x n : Str} {c : Value} {i : Nat} {body suite : List Stmt} {b₀ : Stmt} {np pos pos' : Pos} {tb : WX → TS} {ts : Addr → Value → Option Addr → TS} {rest : List ExceptHandler}
theorem ps_try_asR (hs : X.stack = X.env :: X.outer) (hf : X.env.frame = some X.env.locals) (hN : X.N.Nodup) (hi : X.N[i]? = some n) (hln : X.env.kindOf n = some .local) (hc : Names X x c)
    (hb : ∀ (W : WX) (pn : List (Addr × Obj)) (xe : Value → Shared → Prop), Takes (X.tr pn xe) W → PassesOwn (model X.prog X.w) X.A X.env xe → PSs (X.tr pn xe) body (tb W))
    (hsu : ∀ (a : Addr) (oe : Obj) (cls : Value) (d : Option Addr) (pn : List (Addr × Obj)), Zc cls d oe → (∃ vs, oe.data = .fields vs) → PSs (X.suite a ((a, oe) :: pn)) (b₀ :: suite) (ts a cls d)) :
    PS X (.Try body (.ExceptHandler (some (.Name x np)) (some n) (b₀ :: suite) pos' :: rest) [] [] pos) (fun D σ H => tb (wAsR X.K c i ts D) D σ H) := by
  refine ⟨fun pins s σ H D I h => ?_⟩
  have ok := I.ok
  have hfr : X.A.frames = some (X.env :: X.outer) := by rw [ok.frames, hs]
  have hloc : Loc X.env.scope n := .inl hln
  refine wpAny_Try_except ?_
  refine wpAny_mono ((hb (wAsR X.K c i ts D) (X.pn ++ pins) (fun e s₁ => wpAny (model X.prog X.w) X.A (noteFrame e X.env) (fun _ s₂ => wpAny (model X.prog X.w) X.A (setFlight e none) (fun _ s₃ =>
    wpAny (model X.prog X.w) X.A (handleBy e X.env (.ExceptHandler (some (.Name x np)) (some n) (b₀ :: suite) pos' :: rest)) (SP X pins D) X.xe s₃) X.xe s₂) X.xe s₁) (fun u s' xx => ?_) PassesOwn.looking).run [] s σ H D (I.toTry _) h) (fun f s1 hsp => ?_) (fun e s1 he => he)
  · obtain ⟨a, B, sI, pins', σ', H', cls, d, rfl, J', nb, up, sky, na, os, ag, hb1, hyes⟩ := xx
    have J : Inv X pins σ' H' sI := J'.ofTry ok
    have sky' : Sky B (X.env :: X.outer) a (Zc cls d) X.env.locals s'.heap := by rw [← hs]; exact sky
    show wpAny (model X.prog X.w) X.A (noteFrame (.ref a) X.env) _ _ _
    refine Sky.land Zc.steady hfr hf sky' fun h3 fl3 up3 => ?_
    have J3 : Inv X pins σ' H' { s' with heap := h3 } := J.landed nb fl3.1 (up.trans up3) os ag
    obtain ⟨oe3, vs3, he3, hz3, hd3⟩ := fl3.there
    have nfr : a ∉ frs (X.env :: X.outer) := fun hm => by
      obtain ⟨_, o', e', hnf⟩ := fl3.2.2.1.mem hm
      rw [he3] at e'; cases e'
      exact hnf _ hd3
    have nL : a ≠ X.env.locals := fun z => nfr (List.mem_filterMap.mpr ⟨X.env, List.mem_cons_self, by rw [hf, z]⟩)
    have nF : a ∉ X.fs := fun hm => by
      obtain ⟨e, he, q⟩ := List.mem_filterMap.mp hm
      exact nfr (List.mem_filterMap.mpr ⟨e, List.mem_cons_of_mem _ he, q⟩)
    have S3 := J3.suite he3 hd3 na nL nF
    refine wpAny_handleBy_cons (codeAny_handlers_test ?_) (by intro q; cases q)
    have LT : PySem.W.Looks (model X.prog X.w) h3 (typeOf (.ref a)) cls := fun A Q E s k q => wpAny_typeOf_ref (k _ _ he3) (by rw [hz3.1]; exact q)
    have LM := PySem.W.exm_one (M := model X.prog X.w) (J3.kIn) LT hb1
    have test : ∀ {Q : Value → Shared → Prop} {E : Value → Shared → Prop}, Q c { s' with heap := h3 } → wpAny (model X.prog X.w) (X.A.mark (some (.ref a))) (eval (.Name x np) X.env) Q E { s' with heap := h3 } := fun {Q E} q => by
      obtain ⟨hg, hdbg, hm | ⟨hm, hv, hnn⟩⟩ := hc
      · exact ld_glob (X := X.suite a ((a, oe3) :: (X.pn ++ pins))) S3 hg hm q hdbg
      · exact ld_blt (X := X.suite a ((a, oe3) :: (X.pn ++ pins))) S3 hg hm hv q hnn hdbg
    refine test (LM.here ?_)
    refine codeAny_handlers_suite_as ?_
    refine HandSPX.lands_againZ fl3 fun h4 fl4 up4 => ?_
    have J4 : Inv X pins σ' H' { s' with heap := h4 } := J.landed nb fl4.1 ((up.trans up3).trans up4) os ag
    obtain ⟨oe4, vs4, he4, hz4, hd4⟩ := fl4.there
    have S4 := J4.suite he4 hd4 na nL nF
    refine store_ok (X := X.suite a ((a, oe4) :: (X.pn ++ pins))) (v := .ref a) S4 hN hi hloc rfl (fun s5 S5 => ?_) (.inr hln)
    refine wpAny_mono ((hsu a oe4 cls d (X.pn ++ pins) hz4 ⟨_, hd4⟩).run [] s5 _ H' _ S5 (hyes a na)) (fun f s6 hsp => ?_) (fun _ _ z => False.elim z)
    have end_ : ∀ {σ6 : L2.St} {H6 : Hp} {Q : Shared → Prop}, Inv (X.suite a ((a, oe4) :: (X.pn ++ pins))) [] σ6 H6 s6 → (∀ s7, Inv X pins (σ6.set i none) H6 s7 → Q s7) →
        wpAny (model X.prog X.w) X.A (do bindName X.env n .none; unbindBehindTheSuite X.env n pos') (fun _ s7 => Q s7) X.xe s6 := fun {σ6 H6 Q} S6 hq => gone_ok (S6.unsuite ok) hN hi hln hq
    cases f with
    | next =>
      obtain ⟨σ6, H6, S6, q6⟩ := hsp
      exact end_ S6 fun s7 J7 => ⟨_, _, J7, q6⟩
    | brk =>
      obtain ⟨σ6, H6, S6, q6⟩ := hsp
      exact end_ S6 fun s7 J7 => ⟨_, _, J7, q6⟩
    | cont =>
      obtain ⟨σ6, H6, S6, q6⟩ := hsp
      exact end_ S6 fun s7 J7 => ⟨_, _, J7, q6⟩
    | ret u =>
      obtain ⟨v6, σ6, H6, S6, r6, q6⟩ := hsp
      exact end_ S6 fun s7 J7 => ⟨_, _, _, J7, r6, q6⟩
  · cases f with
    | next =>
      obtain ⟨σ', H', J', q⟩ := hsp
      exact wpAny_execs_nil ⟨σ', H', J'.ofTry ok, q⟩
    | brk =>
      obtain ⟨σ', H', J', q⟩ := hsp
      exact ⟨σ', H', J'.ofTry ok, q⟩
    | cont =>
      obtain ⟨σ', H', J', q⟩ := hsp
      exact ⟨σ', H', J'.ofTry ok, q⟩
    | ret u =>
      obtain ⟨v, σ', H', J', r, q⟩ := hsp
      exact ⟨v, σ', H', J'.ofTry ok, r, q⟩
end
end L2
set_option Elab.async false
set_option linter.all false
set_option maxRecDepth 100000
set_option maxHeartbeats 4000000
/-! Eo: x == y, x an instance whose class has an own __eq__, y such an instance or a tuple. -/
namespace Gl
open PySem PySem.Spec PyProof.Rows L2
def rEqO (K : PySem.W.Frag) (C : Addr) (sp : Sp) (E : XK) : R2 := fun x y H Q => ∃ a dx fs, x = .ref a ∧ H a = some (.ins C dx fs) ∧ (∃ b, y = .ref b ∧ ((∃ dy gs, H b = some (.ins C dy gs)) ∨ ∃ ys, SqT K H b ys)) ∧ sp [x, y] H (fun v H' => ∃ k, v = .bl k ∧ Q v H') E
section
variable {X : Cx} {n : Nat}
end
end Gl
set_option Elab.async false
set_option linter.all false
set_option maxRecDepth 100000
set_option maxHeartbeats 4000000
/-! Iw: over data: isinstance against an own class; == of an own class. -/
namespace Dw
open PySem PySem.Spec PyProof.Rows L2
structure InC (K : PySem.W.Frag) (C : Addr) : Prop where
  c : C8.InsC K C
  tup : PySem.W.kitOne K (.type "tuple") (.ref C) = some false
section
variable {S : Type} {W : Wd S} {G : Gm S} {K : PySem.W.Frag}
@[simp] def wIsiC (C : Addr) : List D → S → (D → S → Prop) → Prop := fun ds s k => match ds with
  | [.obj C' _, .opq c] => C' = C ∧ c = C ∧ k (.bl true) s
  | [.tup _, .opq c] => c = C ∧ k (.bl false) s
  | _ => False
@[simp] def wEqO (C : Addr) (wf : List D → S → (D → S → Prop) → (Xc → S → Prop) → Prop) : D → D → S → (D → S → Prop) → Prop := fun d e s k => match d, e with
  | .obj C' fs, .obj C'' gs => C' = C ∧ C'' = C ∧ wf [.obj C' fs, .obj C'' gs] s (fun r s' => s' = s ∧ (∃ b, r = .bl b) ∧ k r s) fun _ _ => False
  | .obj C' fs, .tup es => C' = C ∧ wf [.obj C' fs, .tup es] s (fun r s' => s' = s ∧ (∃ b, r = .bl b) ∧ k r s) fun _ _ => False
  | _, _ => False
end
end Dw
set_option Elab.async false
set_option linter.all false
set_option maxRecDepth 100000
set_option maxHeartbeats 4000000
/-! Tw: over data: try .. except C as n (Ty's ps_try_asR); in the suite n.field, isinstance(n, C). -/
namespace L2
open PySem PySem.Spec PyProof.Rows
/-- isinstance(e, c), e the exception with fields that the suite holds -/
def rIsF (K : PySem.W.Frag) (a : Addr) (cls : Value) (d : Option Addr) : List V → Hp → VK → Prop := fun xs H Q => ∃ (D dd : Addr) (fs : List (Str × V)) (c : V) (cv : Value) (b : Bool), cls = .ref D ∧ ExcC K D ∧ d = some dd ∧ H dd = some (.xd fs) ∧ xs = [.ref a, c] ∧ (∀ u, RelV c u → u = cv) ∧ PySem.W.kitOne K (.ref D) cv = some b ∧ Q (.bl b) H
end L2
namespace Dw
open PySem PySem.Spec PyProof.Rows L2
def scD : D → Bool
  | .non => true
  | .bl _ => true
  | .int _ => true
  | .str _ => true
  | _ => false
theorem Da.sc {B B' : Addr → Prop} {H H' : Hp} {v : V} {d : D} (a : Da B H v d) (h : scD d = true) : Da B' H' v d := by
  cases a with
  | non => exact .non
  | bl b => exact .bl b
  | int i => exact .int i
  | str hs => exact .str hs
  | _ => cases h
section
variable {S : Type} {W : Wd S} {G : Gm S} {K : PySem.W.Frag} {R : Addr → Prop} {env : List Sl} {σ : L2.St} {H : Hp} {s : S}
theorem Rel.un {R' : Addr → Prop} {env' : List Sl} {σ' : L2.St} {H' : Hp} {s' : S} {E : XK} (r : Rel W G R env σ H s) (r2 : Rel W ⟨H, s, G.R0, E⟩ R' env' σ' H' s') : Rel W G R' env' σ' H' s' :=
  ⟨r2.at_, r.fr.trans r2.fr, r2.r0, r.z0, ⟨r2.env.len, r2.env.dat, fun i q => by obtain ⟨p, h1, h2, h3, h4⟩ := r2.env.own i q; exact ⟨p, h1, h2, r.new0 h3, h4⟩, r2.env.uniq⟩⟩
/-- the exception that a suite was entered with -/
structure XF (W : Wd S) (G : Gm S) (xc : Xc) (cls : Value) (d : Option Addr) : Prop where
  cls : cls = .ref xc.C
  at_ : (xc.fs = [] ∧ d = none) ∨ ∃ dd xs, d = some dd ∧ G.H0 dd = some (.xd xs) ∧ ¬ W.C G.s0 dd ∧ DaF (Bf W G.R0 G.s0) G.H0 xs xc.fs
@[simp] def wTryAs (K : PySem.W.Frag) (c : Value) (i i0 : Nat) (we : WE S) (wr : WS S) (wh : Addr → Xc → WS S) : WS S := fun KK env s => (∀ j, (sg env j).isO = false) ∧
  we env s (fun d s1 => wr KK (ss env i0 (.dat d)) s1) (fun xc s1 => PySem.W.exmOne K (.ref xc.C) c = some true ∧
    ∀ a, wh a xc { KK with nx := fun e t => KK.nx (ss e i .no) t, bk := fun e t => KK.bk (ss e i .no) t, ct := fun e t => KK.ct (ss e i .no) t } (ss env i (.dat (.opq a))) s1)
@[simp] def wXf (i : Nat) (a : Addr) (xc : Xc) (C : Addr) (f : Str) : WE S := fun env s k _ => sg env i = .dat (.opq a) ∧ xc.C = C ∧ ∃ d, xc.fs.lookup f = some d ∧ scD d = true ∧ k d s
@[simp] def wIsF (K : PySem.W.Frag) (a : Addr) (xc : Xc) (wa : WA S) : WE S := fun env s k x => xc.fs ≠ [] ∧ ExcC K xc.C ∧ wa env s (fun ds s1 => match ds with
  | [.opq e, .opq c] => e = a ∧ ∃ b, PySem.W.kitOne K (.ref xc.C) (.ref c) = some b ∧ k (.bl b) s1
  | [.opq e, .ty n] => e = a ∧ ∃ b, PySem.W.kitOne K (.ref xc.C) (.type n) = some b ∧ k (.bl b) s1
  | _ => False) x
end
end Dw
set_option Elab.async false
set_option linter.all false
set_option maxRecDepth 100000
set_option maxHeartbeats 4000000
/-! Mc: an own class with its __init__, its __eq__, packed. -/
namespace Gl
open PySem PySem.Spec PyProof.Rows L2
/-- C(..) by the name x -/
structure Cm (P : Program) (w : World) (K : PySem.W.Frag) (mg : Str → Option Value) (base : Heap) (n : Nat) (x : Str) (C : Addr) (sp : Sp) : Prop where
  ex : ∃ (f : Addr) (fd : FuncData) (ps : List Str), Mk K C f ∧ Fn P w K mg base n f fd ps sp ∧ Binds K fd ps []
  mgx : mg x = some (.ref C)
/-- x == y of the class C -/
structure Ce (P : Program) (w : World) (K : PySem.W.Frag) (mg : Str → Option Value) (base : Heap) (n : Nat) (C : Addr) (sp : Sp) : Prop where
  ex : ∃ (f : Addr) (fd : FuncData) (ps : List Str), Fn P w K mg base n f fd ps sp ∧ PySem.W.findIn K (.ref C) "__eq__" = some (some (.ref f)) ∧ PySem.W.isFn K (.ref f) = true ∧ Binds K fd ps []
  sub : PySem.W.subIn K (.type "tuple") (.ref C) = some false
section
variable {X : Cx} {k j : Nat} {C : Addr} {sp : Sp} {E : L2.St → XK} {x : Str} {p pos : Pos} {e : Expr} {es : List Expr} {t : TA}
theorem pe_mkC (M : Cm X.prog X.w X.K X.mg X.base k x C sp) (hr : Room j X.A) (hk : k + 1 ≤ j) (hG : X.A.guards = some []) (hg : Gl X x) (hx : ∀ σ, PassesAt (L2.CX X.prog X.w) X σ (E σ))
    (ha : PA X (e :: es) t) (hdb : (x == ("__debug__" : Str)) = false := by decide) (he : starEach (e :: es) X.env = (false, eval e X.env) :: starEach es X.env := by rfl) (hpl : (backTo pos (starEach es X.env)).any (·.1) = false := by rfl) :
    PE X (.Call (.Name x p) (e :: es) [] pos) (tMk C sp E t) := by
  obtain ⟨f, fd, ps, m, F, b⟩ := M.ex
  exact pe_mk m F hr hk hG hg M.mgx b hx ha hdb he hpl
end
end Gl
namespace L2
open PySem PySem.Spec PyProof.Rows
section
variable {X : Cx} {K : PySem.W.Frag}
theorem kFld {e : Expr} {te : TE} {pos : Pos} {n : Str} (he : PE X e te) (hb : attributeBase e n X.env (eval e X.env) = eval e X.env) (e' : X.K = K := by rfl) : PE X (.Attribute e n pos) (tFld K te n) := e' ▸ pe_fld he hb
end
end L2
namespace Dw
open PySem PySem.Spec PyProof.Rows L2
section
variable {S : Type} {W : Wd S} {G : Gm S}
end
end Dw
set_option Elab.async false
set_option linter.all false
set_option maxRecDepth 100000
set_option maxHeartbeats 4000000
/-! Lb: the drawing's box made of the script; the law's body behind it, over data. -/
namespace Dw
open PySem PySem.Spec PyProof.Rows L2
def boxOf (p c : Addr) (ns : List Int) : Box := ⟨p, c, ns, 0, 0, 0, false, 0⟩
def boxH (H : Hp) (p c : Addr) (ns : List Int) : Hp := upd (upd (upd H p (.dK [])) c (.lst (ns.map V.int))) p (.dK (boxOf p c ns).kvs)
def spBox (K : PySem.W.Frag) : Sp := fun vs H Q _ => ∃ (a : Addr) (ns : List Int), vs = [.ref a] ∧ SqL K H a (ns.map V.int) ∧ ∀ p c, H p = none → H c = none → c ≠ p → Q (.ref p) (boxH H p c ns)
abbrev trsBox (K : PySem.W.Frag) : List (TE × TE) := [(tC (.str "cells"), tCB (Rd.rListOf K) (tCons (tVar 0) tNil)), (tC (.str "at"), tC (.int 0)), (tC (.str "rest"), tC (.int 0)), (tC (.str "many"), tC (.int 0)), (tC (.str "great"), tC (.bl false)), (tC (.str "all"), tC (.int 0))]
end Dw
set_option Elab.async false
set_option linter.all false
set_option maxRecDepth 100000
set_option maxHeartbeats 8000000
/-! an own error's class, told by one look -/
namespace Ex
open PySem PySem.W PySem.Calls PyProof.Rows PySem.HandSPX
theorem ba {a b : Bool} (h : (a && b) = true) : a = true ∧ b = true := Bool.and_eq_true_iff.mp h
def clsB (K : Frag) (C : Addr) : Bool := match K.lookup C with
  | some ⟨.type "type", _, .cls cd, sl⟩ => (match cd.mro, sl.toList with
    | .ref C' :: bm, [_, _, _, _, some (.builtin n), _] => C' == C && n == "ValueError.__new__" && !cd.hasDel && cd.hasDict && refsVE bm
    | _, _ => false)
  | _ => false
theorem clsB_ok {K : Frag} {C : Addr} (q : clsB K C = true) : ∃ nm q N bs bm sn sub ab col dd k0 k1 k2 k3 k5, K.lookup C = some (excClassObj nm q C N bs bm true sn sub ab col dd k0 k1 k2 k3 k5 "ValueError.__new__") ∧ refsVE bm = true := by
  unfold clsB at q
  split at q
  · rename_i dd cd sl ho
    split at q
    · rename_i C' bm k0 k1 k2 k3 n k5 hm hs
      simp only [Bool.and_eq_true, beq_iff_eq, Bool.not_eq_true'] at q
      obtain ⟨⟨⟨⟨rfl, rfl⟩, hdel⟩, hdd⟩, hv⟩ := q
      obtain ⟨nm, bs, mro, ns, qn, hd, sn, sub, ab, col, del⟩ := cd
      dsimp only at hm hdel hdd
      subst hm hdel hdd
      have hsl : sl = #[k0, k1, k2, k3, some (.builtin "ValueError.__new__"), k5] := by
        obtain ⟨l⟩ := sl
        simp only at hs
        rw [hs]
      subst hsl
      exact ⟨nm, qn, ns, bs, bm, sn, sub, ab, col, dd, k0, k1, k2, k3, k5, ho, hv⟩
    · cases q
  · cases q
/-- the making's cell and code -/
def iniB (file : Str) (K : Frag) (C : Addr) (fd : FuncData) : Bool := codeIn K fd.code fd.qualname && ((match fd.defaults with
    | .none => true
    | _ => false) && ((match fd.closure with
    | [(_, cc)] => (match K.lookup cc with
      | some ⟨_, _, .cell (some (.ref D)), _⟩ => D == C
      | _ => false)
    | _ => false) && (match fd.code with
    | .ref cda => (match K.lookup cda with
      | some ⟨_, _, .fields vs, _⟩ => (match (vs[2]? : Option Value) with
        | some (.str f _) => file == f
        | _ => false)
      | _ => false)
    | _ => false)))
def badB (file : Str) (K : Frag) (C : Addr) (f : Str) : Bool := clsB K C && (decide (findIn K (.ref C) "__setattr__" = some (some (.builtin "object.__setattr__"))) && (decide (findIn K (.ref C) f = some none) && (keepIn K (.ref C) &&
  (decide (subIn K (.ref C) (.type "BaseException") = some true) && (decide (typeIn K (.ref C) = some (.type "type")) && (decide (subIn K (.ref C) (.type "ValueError") = some true) && (decide (mroIn K C (.ref C) = some true) &&
  (decide (ks_superIn K C C "__init__" = some (some (.builtin "ValueError.__init__"))) && (decide (nsIn K cStatics "thirdparty.any" = some none) && (decide (findIn K (.ref C) "__init__" = some (some (.ref (He.ma K C "__init__")))) &&
  (decide (typeIn K (.ref (He.ma K C "__init__")) = some (.type "function")) && (match K.lookup (He.ma K C "__init__") with
    | some ⟨_, _, .func fd, _⟩ => iniB file K C fd
    | _ => false))))))))))))
abbrev FnM : Type := Option (Str × Str × Arguments × FuncBody × Scope × Addr × List Str × Addr)
def obsM (K : Frag) (x : Str) : FnM := match K.lookup (He.ma K (He.ga K x) "__init__") with
  | some ⟨_, _, .func fd, _⟩ => some (fd.name, fd.qualname, fd.params, fd.body, fd.scope, fd.globals, fd.closure.map (·.1), fd.builtins)
  | _ => none
def valM (q : Str) (st : Stmt) : FnM := some ("__init__", q, L2.defArgs st, .stmts (L2.defBody st), L2.defScope st, mainGlobals, ["__class__"], builtinsNs)
theorem badC_of {P : Program} {K : Frag} {x f q : Str} {st : Stmt} (b : badB P.main.file K (He.ga K x) f = true) (o : obsM K x = valM q st) {p1 p2 q0 q1 q2 q3 q4 q5 q6 q7 q8 q9 : Pos}
    (ha : L2.defArgs st = iA f p1 p2) (hb : L2.defBody st = iB f q0 q1 q2 q3 q4 q5 q6 q7 q8 q9) (hs : L2.defScope st = iS f) (top : (P.main.scope.names.lookup ("super" : Str)).isSome = false)
    (f1 : (f == ("self" : Str)) = false) (f2 : (f == ("__class__" : Str)) = false) (f3 : (f == ("super" : Str)) = false) (f4 : (f == ("__debug__" : Str)) = false)
    (hmc : ∀ env : Env, ∃ pl : Sem Bool, eval (.Call (.Attribute (.Call (.Name "super" q0) [] [] q1) "__init__" q2) [.Name f q3] [] q4) env = (do
      let ov ← attributeBase (.Call (.Name "super" q0) [] [] q1) "__init__" env (eval (.Call (.Name "super" q0) [] [] q1) env)
      standAt q2.atName
      let (m, first) ← holding [ov] (getMethod ov "__init__" pl)
      callWith q4 m first (backTo q4 (starEach [.Name f q3] env)) []))
    (hbind : ∀ (kV doc pm ct cdv : Value) (an : Option Addr) (cc : Addr) (s : Shared) (x v : Value), BindsTo s (ksFn "__init__" q (iA f p1 p2) (iB f q0 q1 q2 q3 q4 q5 q6 q7 q8 q9) (iS f) .none kV doc pm an cdv ct cc) ⟨[x, v], []⟩ [("self", x), (f, v)]) :
    BadC P K (He.ga K x) f := by
  obtain ⟨b1, b⟩ := ba b
  obtain ⟨b2, b⟩ := ba b
  obtain ⟨b3, b⟩ := ba b
  obtain ⟨b4, b⟩ := ba b
  obtain ⟨b5, b⟩ := ba b
  obtain ⟨b6, b⟩ := ba b
  obtain ⟨b7, b⟩ := ba b
  obtain ⟨b8, b⟩ := ba b
  obtain ⟨b9, b⟩ := ba b
  obtain ⟨b10, b⟩ := ba b
  obtain ⟨b11, b⟩ := ba b
  obtain ⟨b12, b⟩ := ba b
  refine ⟨clsB_ok b1, of_decide_eq_true b2, of_decide_eq_true b3, b4, of_decide_eq_true b5, of_decide_eq_true b6, of_decide_eq_true b7, of_decide_eq_true b8, of_decide_eq_true b9, of_decide_eq_true b10, top, f1, f2, f3, f4, ?_⟩
  unfold obsM at o
  cases e : K.lookup (He.ma K (He.ga K x) "__init__") with
  | none =>
    rw [e] at b
    cases b
  | some ob =>
    obtain ⟨oc, od, dt, osl⟩ := ob
    rw [e] at b o
    cases dt with
    | func fd =>
      obtain ⟨n1, n2, n3, n4, n5, n6, cl, n8, n9, n10, n11, n12, n13, n14, n15⟩ := fd
      have e2 : (some (n1, n2, n3, n4, n5, n6, cl.map (·.1), n15) : FnM) = some (("__init__" : Str), q, L2.defArgs st, FuncBody.stmts (L2.defBody st), L2.defScope st, mainGlobals, [("__class__" : Str)], builtinsNs) := o
      simp only [Option.some.injEq, Prod.mk.injEq] at e2
      obtain ⟨h1, h2, h3, h4, h5, h6, h7, h8⟩ := e2
      rw [ha] at h3
      rw [hb] at h4
      rw [hs] at h5
      subst h1 h2 h3 h4 h5 h6 h8
      have b' : iniB P.main.file K (He.ga K x) _ = true := b
      unfold iniB at b'
      obtain ⟨c1, b'⟩ := ba b'
      obtain ⟨c2, b'⟩ := ba b'
      obtain ⟨c3, c4⟩ := ba b'
      dsimp only at c1 c2 c3 c4
      cases n8 with
      | none =>
        match cl, h7, c3 with
        | [(y, cc)], h7, c3 =>
          have hy : y = "__class__" := by simpa using h7
          subst hy
          cases ec : K.lookup cc with
          | none =>
            simp only [ec] at c3
            cases c3
          | some oc' =>
            obtain ⟨cl1, cl2, cdt, cl3⟩ := oc'
            simp only [ec] at c3
            cases cdt with
            | cell v =>
              cases v with
              | none => cases c3
              | some v =>
                cases v with
                | ref D =>
                  have hD : D = He.ga K x := by simpa using c3
                  subst hD
                  cases n13 with
                  | ref cda =>
                    dsimp only at c4
                    cases ed : K.lookup cda with
                    | none =>
                      simp only [ed] at c4
                      cases c4
                    | some od' =>
                      obtain ⟨d1, d2, ddt, d3⟩ := od'
                      simp only [ed] at c4
                      cases ddt with
                      | fields vs =>
                        dsimp only at c4
                        cases ev : vs[2]? with
                        | none =>
                          simp only [ev] at c4
                          cases c4
                        | some v =>
                          simp only [ev] at c4
                          cases v with
                          | str fl tf =>
                            exact ⟨_, cc, cda, oc, n9, n10, n11, n14, d1, cl1, od, n12, d2, cl2, osl, d3, cl3, p1, p2, q0, q1, q2, q3, q4, q5, q6, q7, q8, q9, n2, vs, fl, tf, of_decide_eq_true b11, of_decide_eq_true b12, e, c1, ec, ed, ev, c4, hmc, fun s x v => hbind _ _ _ _ _ _ _ s x v⟩
                          | _ => cases c4
                      | _ => cases c4
                  | _ => cases c4
                | _ => cases c3
            | _ => cases c3
      | _ => cases c2
    | _ => cases b
end Ex

/-! own classes told by looks -/
namespace Dw
open PySem PySem.Spec PyProof.Rows L2
def xcB (K : PySem.W.Frag) (C : Addr) : Bool := decide (PySem.W.findIn K (.ref C) "__class__" = some (some (.builtin "object.__class__"))) && (decide (PySem.W.specialIn K (.builtin "object.__class__") "__get__" = some (some (.builtin "getset_descriptor.__get__"))) &&
  (decide (PySem.W.takesIn K (.builtin "object.__class__") = some true) && decide (PySem.W.mroIn K C (.type "object") = some true)))
/-- an own error as it is caught -/
def excB (K : PySem.W.Frag) (C : Addr) : Bool := xfB K C && xcB K C
theorem excB_ok {K : PySem.W.Frag} {C : Addr} (h : excB K C = true) : XfC K C ∧ ExcC K C := by
  obtain ⟨a, b⟩ := Ex.ba h
  have xf := xfB_ok a
  obtain ⟨b1, b⟩ := Ex.ba b
  obtain ⟨b2, b⟩ := Ex.ba b
  obtain ⟨b3, b4⟩ := Ex.ba b
  exact ⟨xf, xf.ga, xf.gg, xf.exC, xf.hdC, of_decide_eq_true b1, of_decide_eq_true b2, of_decide_eq_true b3, of_decide_eq_true b4⟩
/-- an own error as it is raised -/
def rsB (K : PySem.W.Frag) (C : Addr) : Bool := decide (PySem.W.subIn K (.ref C) (.type "BaseException") = some true) && decide (PySem.W.typeIn K (.ref C) = some (.type "type"))
theorem rsB_ok {K : PySem.W.Frag} {C : Addr} (h : rsB K C = true) : PySem.W.subIn K (.ref C) (.type "BaseException") = some true ∧ PySem.W.typeIn K (.ref C) = some (.type "type") := by
  obtain ⟨a, b⟩ := Ex.ba h
  exact ⟨of_decide_eq_true a, of_decide_eq_true b⟩
/-- isinstance against an own class; its instances beside tuples -/
def incB (K : PySem.W.Frag) (C : Addr) : Bool := xcB K C && (decide (PySem.W.kitOne K (.ref C) (.ref C) = some true) && (decide (PySem.W.kitOne K (.type "tuple") (.ref C) = some false) && decide (PySem.W.subIn K (.type "tuple") (.ref C) = some false)))
theorem incB_ok {K : PySem.W.Frag} {C : Addr} (h : incB K C = true) (c : Cls K C) : InC K C ∧ PySem.W.subIn K (.type "tuple") (.ref C) = some false := by
  obtain ⟨a, b⟩ := Ex.ba h
  obtain ⟨b1, b⟩ := Ex.ba b
  obtain ⟨b2, b3⟩ := Ex.ba b
  obtain ⟨a1, a⟩ := Ex.ba a
  obtain ⟨a2, a⟩ := Ex.ba a
  obtain ⟨a3, a4⟩ := Ex.ba a
  exact ⟨⟨⟨c, of_decide_eq_true a1, of_decide_eq_true a2, of_decide_eq_true a3, of_decide_eq_true a4, of_decide_eq_true b1⟩, of_decide_eq_true b2⟩, of_decide_eq_true b3⟩
/-- the class C has the own method m -/
def metB (K : PySem.W.Frag) (C : Addr) (m : Str) : Bool := decide (PySem.W.findIn K (.ref C) m = some (some (.ref (He.ma K C m)))) && PySem.W.isFn K (.ref (He.ma K C m))
theorem metB_ok {K : PySem.W.Frag} {C : Addr} {m : Str} (h : metB K C m = true) : PySem.W.findIn K (.ref C) m = some (some (.ref (He.ma K C m))) ∧ PySem.W.isFn K (.ref (He.ma K C m)) = true := by
  obtain ⟨a, b⟩ := Ex.ba h
  exact ⟨of_decide_eq_true a, b⟩
def mkB (K : PySem.W.Frag) (C : Addr) : Bool := PySem.W.makesIn K C && (metB K C "__init__" && PySem.W.keepIn K (.ref C))
theorem mkB_ok {K : PySem.W.Frag} {C : Addr} (h : mkB K C = true) : Mk K C (He.ma K C "__init__") := by
  obtain ⟨a, b⟩ := Ex.ba h
  obtain ⟨b, c⟩ := Ex.ba b
  obtain ⟨d, e⟩ := metB_ok b
  exact ⟨a, d, e, c⟩
theorem binds_of {K : PySem.W.Frag} {fd : FuncData} {ps : List Str} (hb : ∀ (s : Shared) (us : List Value), us.length = ps.length → BindsTo s fd ⟨us, []⟩ (ps.zip us)) : Binds K fd ps [] := fun s us _ hl => by
  rw [List.append_nil] at hl ⊢
  exact hb s us hl
end Dw
namespace Gl
open PySem PySem.Spec PyProof.Rows L2
theorem df_of {P : Program} {w : World} {K : PySem.W.Frag} {mg : Str → Option Value} {base : Heap} {x qual : Str} {pa : Arguments} {bd : List Stmt} {sc : Scope} {dvs : List V} {kws : List (Str × V)} {f : Addr} {fd : FuncData} {k : Nat} {ps : List Str} {sp : Sp} (F : FunD K x qual pa bd sc dvs kws f fd) (hm : mg x = some (.ref f)) (G : Fn P w K mg base k f fd ps sp) (hb : ∀ (s : Shared) (us : List Value), us.length = ps.length → BindsTo s fd ⟨us, []⟩ (ps.zip us)) : Df P w K mg base k x sp :=
  ⟨f, fd, ps, G, hm, F.kp, Dw.binds_of hb⟩
end Gl
set_option Elab.async false
set_option linter.all false
set_option maxRecDepth 100000
set_option maxHeartbeats 4000000
/-! Nw: raise X(); o.m(); sorted of ints; enumerate over a tuple. -/
namespace L2
open PySem PySem.Spec PyProof.Rows
section
variable {X : Cx}
/-- raise C() -/
def tRa0 (C : Addr) : L2.St → Hp → XK → Prop := fun _ H Q => Q (.ref C) none H
theorem pmk_0 {x : Str} {p pos : Pos} {C : Addr} (q : PySem.W.excIn X.K C He.veBase "ValueError.__new__" = true) (hR : Raises X (.ref C)) (hm : X.mg x = some (.ref C)) (kC : PySem.W.keepIn X.K (.ref C) = true) (hg : Gl X x)
    (hd : (x == ("__debug__" : Str)) = false := by decide) : PMk X (.Call (.Name x p) [] [] pos) (tRa0 C) := fun pins s σ H Q I h => by
  refine wpAny_Call_Name_kw (ld_glob I hg hm (PySem.W.callWith_K0 I.kIn kC ?_) hd)
  obtain ⟨bm, N, n1, n2, bs, e1, e2, e3, e4, e5, e6, k0, k1, k2, k3, k5, mN, c1, c2, c3, c4⟩ := exc_obj I.kIn q
  exact wpAny_call_exc_subT PySem.F.excBase_ValueError c4 c1 c2 c3 (fun h' a made => mk_of I made hR h (I.hok.gone made.new)) (by show 0 ≤ sizeLine; omega)
end
end L2
namespace Gl
open PySem PySem.Spec PyProof.Rows L2
/-- o.m() -/
def tMt0 (C : Addr) (m : Str) (sp : Sp) (E : L2.St → XK) (ta : TE) : TE := fun σ H Q => ta σ H fun x H1 => ∃ a dx fs, x = .ref a ∧ H1 a = some (.ins C dx fs) ∧ fs.lookup m = none ∧ sp [x] H1 Q (E σ)
/-- the method m of the class C -/
structure Cf (P : Program) (w : World) (K : PySem.W.Frag) (mg : Str → Option Value) (base : Heap) (n : Nat) (C : Addr) (m : Str) (sp : Sp) : Prop where
  ex : ∃ (f : Addr) (fd : FuncData) (ps : List Str), Fn P w K mg base n f fd ps sp ∧ Meth K C m f ∧ Binds K fd ps []
  cls : Cls K C
section
variable {X : Cx} {k j : Nat} {C : Addr} {sp : Sp} {E : L2.St → XK} {m : Str} {pos apos : Pos} {o : Expr} {ta : TE}
theorem pe_mt0 {pl : Sem Bool} (M : Cf X.prog X.w X.K X.mg X.base k C m sp) (hr : Room j X.A) (hk : k ≤ j) (hG : X.A.guards = some []) (hx : ∀ σ, PassesAt (L2.CX X.prog X.w) X σ (E σ)) (he : PE X o ta)
    (ht : eval (.Call (.Attribute o m apos) [] [] pos) X.env = (do
      let ov ← eval o X.env
      standAt apos.atName
      let (f, first) ← holding [ov] (getMethod ov m pl)
      callWith pos f first (backTo pos (starEach [] X.env)) (backToKw pos (keywordEach [] X.env))) := by rfl) : PE X (.Call (.Attribute o m apos) [] [] pos) (tMt0 C m sp E ta) := by
  obtain ⟨f, fd, ps, F, mt, b⟩ := M.ex
  refine ⟨fun pins s σ H Q I h => PySem.W.methodCall_KW (pl := pl) (thn (he.run pins s σ H _ I h) fun u s1 hh => ?_) ht⟩
  obtain ⟨x, H1, I1, rx, a, dx, fs, rfl, ea, l, q⟩ := hh
  cases rx
  refine getmeth_ok I1 ea M.cls mt l (PySem.W.callWith_K0 (first := [.ref a]) I1.kIn mt.kp ?_)
  exact run_df (us := [.ref a]) (vs := [.ref a]) F (hr.mono hk) hG b (hx σ) I1 (.cons (show RelV (.ref a) (.ref a) from rfl) .nil) q
end
end Gl
namespace Dw
open PySem PySem.Spec PyProof.Rows L2
section
variable {S : Type} {W : Wd S} {G : Gm S} {K : PySem.W.Frag}
@[simp] def wRaise0 (C : Addr) : WS S := fun KK env s => KK.xc ⟨C, []⟩ s
theorem ss_raise0 {C : Addr} : SimS W G (fun _ σ H => tRa0 C σ H fun cls d H' => G.E cls d H') (wRaise0 C) := fun R env σ H s rl KK hw Dn e =>
  e.xc ⟨C, []⟩ s _ _ _ hw rl.fr rl.at_.j ⟨rfl, .inl ⟨rfl, rfl⟩⟩
@[simp] def wMt0 (C : Addr) (m : Str) (wf : List D → S → (D → S → Prop) → (Xc → S → Prop) → Prop) (we : WE S) : WE S := fun env s k x => we env s (fun d s1 => match d with
  | .obj C' fs => C' = C ∧ fs.lookup m = none ∧ wf [.obj C' fs] s1 k fun _ _ => False
  | _ => False) x
@[simp] def wSortI : List D → S → (D → S → Prop) → Prop := fun ds s k => match ds with
  | [.lst xs] => ∃ ns, D.ints xs = some ns ∧ ∀ ms : List Int, ms.Perm ns → ms.Pairwise (· ≤ ·) → k (.lst (ms.map D.int)) s
  | _ => False
theorem daL_ints {B : Addr → Prop} {H : Hp} : ∀ ms : List Int, DaL B H (ms.map V.int) (ms.map D.int)
  | [] => .nil
  | m :: r => .cons (.int m) (daL_ints r)
theorem sc_sortI : SimC W (rSortedI K) wSortI := fun R s H at_ xs ds a k hw Q hQ => by
  match ds, a, hw with
  | [.lst es], a, ⟨ns, hn, hk⟩ =>
    obtain ⟨v, rfl, a1⟩ := a.one
    have fin : ∀ (p : Addr) (vs : List V), H p = some (.lst vs) → DaL (Bf W R s) H vs es → es.length ≤ sizeLine → rSortedI K [.ref p] H Q := fun p vs e l z => by
      have ev := l.ints hn
      subst ev
      refine ⟨p, ns, rfl, .of e, fun ms q pm pw hq => hQ _ _ _ (hk ms pm pw) (.new_at hq at_) (at_.new_at hq).j (.lst upd_same (at_.fresh hq) (daL_ints ms) ?_)⟩
      have e1 := l.len
      rw [List.length_map] at e1
      rw [List.length_map, pm.length_eq, e1]
      exact z
    cases a1 with
    | da a1 =>
      cases a1 with
      | lst e n l z => exact fin _ _ e l z
    | lst e n l z => exact fin _ _ e l z
end
end Dw
set_option Elab.async false
set_option linter.all false
set_option maxRecDepth 100000
set_option maxHeartbeats 4000000
/-! Et: enumerate over a tuple. -/
namespace PySem
open Sem (wp)
end PySem
namespace L2
open PySem PySem.Spec PyProof.Rows
/-- the tuple at a, each item in a new pair -/
def IteT (K : PySem.W.Frag) (a : Addr) : It where
  go i H := ∃ (xs : List V) (x : V), SqT K H a xs ∧ xs[i]? = some x
  yld i H v H' := ∃ T x, v = .ref T ∧ H T = none ∧ H' = upd H T (.tup [.int (i : Nat), x]) ∧ ∀ xs, SqT K H a xs → xs[i]? = some x
  stop i H := ∃ xs : List V, SqT K H a xs ∧ xs.length = i
def StT (a e it : Addr) (i : Nat) (h : Heap) : Prop := (∃ old, IsEnum h e it ((i : Nat) : Int) old) ∧ h.IsTupleIter it a i ∧ e ≠ it
def iEnumT (K : PySem.W.Frag) (ta : TA) : TI := fun σ H R => ta σ H fun vs H1 => ∃ a xs, vs = [.ref a] ∧ SqT K H1 a xs ∧ R (IteT K a) H1
end L2
namespace Dw
open PySem PySem.Spec PyProof.Rows L2
section
variable {S : Type} {W : Wd S} {G : Gm S} {K : PySem.W.Frag}
@[simp] def wiEnumT (w : WA S) : WI S := fun env s k x => w env s (fun ds s1 => match ds with
  | [.tup es] => k (enumD 0 es) s1
  | _ => False) x
end
end Dw
set_option Elab.async false
set_option linter.all false
set_option maxRecDepth 100000
set_option maxHeartbeats 4000000
/-! Dc: {k: v for ..} with tuples for keys; in, [] of such dicts, over data. -/
namespace L2
open PySem PySem.Spec PyProof.Rows
/-- {k: v for target in iter if ..}, k a tuple of ints and texts: D the new dict -/
def tDcT (wi : TI) (g : TG) (tt : TT) (tk tv : TE) (vs : List Nat) : TE := fun σ H Q => wi σ H fun J H1 => ∀ D, H1 D = none → ∃ W : Nat → Nat → Hp → Prop, (∃ m, W 0 m (upd H1 D (.dT []))) ∧ ∀ i m H, W i m H →
  (J.stop i H ∧ Q (.ref D) H) ∨ (J.go i H ∧ ∃ Nx : Hp → Prop, (∀ H', Nx H' → ∃ m', m' < m ∧ W (i + 1) m' H') ∧ ∀ x H', J.yld i H x H' → g x (wipe σ vs) H' fun σ2 H2 => wipe σ2 vs = wipe σ vs ∧ tt σ2 H2 fun b H3 =>
    if b = true then tk σ2 H3 fun y H4 => tv σ2 H4 fun z H5 => ∃ kvs k q, y = .ref q ∧ H5 q = some (.tup (k.map kV)) ∧ H5 D = some (.dT kvs) ∧ kvs.length < sizeLine ∧ Nx (upd H5 D (.dT (putK kvs k z))) else Nx H3)
section
variable {X : Cx} {kx vx tg iter : Expr} {ifs : List Expr} {scope : Scope} {own : List (Str × Nat)} {pos : Pos} {wi : TI} {g : TG} {tt : TT} {tk tv : TE}
end
end L2
set_option Elab.async false
set_option linter.all false
set_option maxRecDepth 100000
set_option maxHeartbeats 4000000
/-! Dd: dicts with tuples for keys, over data. -/
namespace Dw
open PySem PySem.Spec PyProof.Rows L2
def valD (kvs : List (List Key × D)) (k : List Key) : Option D := (kvs.find? fun kv => decide (kv.1 = k)).map (·.2)
def putD (kvs : List (List Key × D)) (k : List Key) (v : D) : List (List Key × D) :=
  if (kvs.any fun kv => decide (kv.1 = k)) = true then kvs.map (fun kv => if kv.1 = k then (kv.1, v) else kv) else kvs ++ [(k, v)]
section
variable {B : Addr → Prop} {H : Hp}
theorem DaT.len : ∀ {vs : List (List Key × V)} {ds : List (List Key × D)}, DaT B H vs ds → vs.length = ds.length
  | _, _, .nil => rfl
  | _, _, .cons _ t => by rw [List.length_cons, List.length_cons, t.len]
theorem DaT.imp {B' : Addr → Prop} {v : List (List Key × V)} {d : List (List Key × D)} (h : DaT B H v d) (q : ∀ a, B' a → B a) : DaT B' H v d := h.mv fun a o e n => ⟨e, fun b => n (q a b)⟩
theorem DaT.val {k : List Key} : ∀ {vs : List (List Key × V)} {ds : List (List Key × D)}, DaT B H vs ds → (valV vs k = none ∧ valD ds k = none) ∨ ∃ v d, valV vs k = some v ∧ valD ds k = some d ∧ Da B H v d
  | _, _, .nil => .inl ⟨rfl, rfl⟩
  | _, _, .cons (k := k') (v := v) (d := d) h t => by
    by_cases e : k' = k
    · exact .inr ⟨v, d, valV_pos e, by simp [valD, List.find?_cons, e], h⟩
    · rw [valV_neg e]
      have : ∀ r : List (List Key × D), valD ((k', d) :: r) k = valD r k := fun r => by simp [valD, List.find?_cons, e]
      rw [this]
      exact t.val
theorem DaT.any {k : List Key} : ∀ {vs : List (List Key × V)} {ds : List (List Key × D)}, DaT B H vs ds → (vs.any fun kv => decide (kv.1 = k)) = ds.any fun kv => decide (kv.1 = k)
  | _, _, .nil => rfl
  | _, _, .cons h t => by rw [List.any_cons, List.any_cons, t.any]
theorem DaT.snoc {k : List Key} {v : V} {d : D} : ∀ {vs : List (List Key × V)} {ds : List (List Key × D)}, DaT B H vs ds → Da B H v d → DaT B H (vs ++ [(k, v)]) (ds ++ [(k, d)])
  | _, _, .nil, h => .cons h .nil
  | _, _, .cons a t, h => .cons a (t.snoc h)
theorem DaT.repl {k : List Key} {v : V} {d : D} : ∀ {vs : List (List Key × V)} {ds : List (List Key × D)}, DaT B H vs ds → Da B H v d → DaT B H (vs.map fun kv => if kv.1 = k then (kv.1, v) else kv) (ds.map fun kv => if kv.1 = k then (kv.1, d) else kv)
  | _, _, .nil, h => .nil
  | _, _, .cons (k := k') a t, h => by
    rw [List.map_cons, List.map_cons]
    by_cases e : k' = k
    · rw [if_pos e, if_pos e]
      exact .cons h (t.repl h)
    · rw [if_neg e, if_neg e]
      exact .cons a (t.repl h)
theorem DaT.put {vs : List (List Key × V)} {ds : List (List Key × D)} {k : List Key} {v : V} {d : D} (t : DaT B H vs ds) (h : Da B H v d) : DaT B H (putK vs k v) (putD ds k d) := by
  unfold putK putD
  rw [t.any]
  split
  · exact t.repl h
  · exact t.snoc h
theorem putD_len (kvs : List (List Key × D)) (k : List Key) (v : D) : (putD kvs k v).length ≤ kvs.length + 1 := by
  unfold putD
  split <;> simp
end
section
variable {S : Type}
def wDc (g : WG) (tt : WT S) (wk wv : WE S) (vs : List Nat) : List D → List (List Key × D) → List Sl → S → (List (List Key × D) → S → Prop) → (Xc → S → Prop) → Prop
  | [], acc, _, s, k, _ => k acc s
  | d :: r, acc, env, s, k, x => g d (wp env vs) fun e1 => tt e1 s (fun b s1 => if b = true then wk e1 s1 (fun y s2 => wv e1 s2 (fun z s3 => match y with
    | .tup ys => ∃ kk, D.keys ys = some kk ∧ wDc g tt wk wv vs r (putD acc kk z) env s3 k x
    | _ => False) x) x else wDc g tt wk wv vs r acc env s1 k x) x
@[simp] def wDcE (wi : WI S) (g : WG) (tt : WT S) (wk wv : WE S) (vs : List Nat) : WE S := fun env s k x => wi env s (fun ds s1 => ds.length < sizeLine ∧ wDc g tt wk wv vs ds [] env s1 (fun ys s2 => k (.dit ys) s2) x) x
@[simp] def wDGetT (wd wk : WE S) : WE S := fun env s k x => wd env s (fun d s1 => wk env s1 (fun e s2 => match d, e with
  | .dit kvs, .tup es => ∃ kk v, D.keys es = some kk ∧ valD kvs kk = some v ∧ k v s2
  | _, _ => False) x) x
@[simp] def wDInT (wk wd : WE S) : WE S := fun env s k x => wk env s (fun e s1 => wd env s1 (fun d s2 => match d, e with
  | .dit kvs, .tup es => ∃ kk, D.keys es = some kk ∧ k (.bl (valD kvs kk).isSome) s2
  | _, _ => False) x) x
@[simp] def wDNotInT (wk wd : WE S) : WE S := fun env s k x => wk env s (fun e s1 => wd env s1 (fun d s2 => match d, e with
  | .dit kvs, .tup es => ∃ kk, D.keys es = some kk ∧ k (.bl (!(valD kvs kk).isSome)) s2
  | _, _ => False) x) x
variable {W : Wd S} {G : Gm S} {K : PySem.W.Frag}
theorem Da.key {B : Addr → Prop} {H : Hp} {v : V} {es : List D} {kk : List Key} (a : Da B H v (.tup es)) (h : D.keys es = some kk) : ∃ q, v = .ref q ∧ H q = some (.tup (kk.map kV)) := by
  cases a with
  | tup e n l z => exact ⟨_, rfl, by rw [e, l.keys h]⟩
end
end Dw
set_option Elab.async false
set_option linter.all false
set_option maxRecDepth 100000
set_option maxHeartbeats 4000000
/-! Tz: try with several except clauses, with and without a name; clauses behind these are never asked. -/
namespace L2
open PySem PySem.Spec PyProof.Rows
abbrev Clause := Value × Option Nat × (Addr → Value → Option Addr → TS)
def endsN (i : Nat) (D : Ends) : Ends := { nx := fun σ' H' => D.nx (σ'.set i none) H', rt := D.rt, bk := fun σ' H' => D.bk (σ'.set i none) H', ct := fun σ' H' => D.ct (σ'.set i none) H' }
/-- what the clauses wish of an exception of the body -/
def wMix (K : PySem.W.Frag) (D : Ends) : List Clause → WX
  | [] => fun _ _ _ _ => False
  | (c, none, ts) :: r => fun cls d σ H => ∃ b, PySem.W.exmOne K cls c = some b ∧ (b = true → ∀ a, H a = none → ts a cls d D σ H) ∧ (b = false → wMix K D r cls d σ H)
  | (c, some i, ts) :: r => fun cls d σ H => ∃ b, PySem.W.exmOne K cls c = some b ∧ (b = true → ∀ a, H a = none → ts a cls d (endsN i D) (σ.set i (some (.ref a))) H) ∧ (b = false → wMix K D r cls d σ H)
def tTry (K : PySem.W.Frag) (l : List Clause) (tb : WX → TS) : TS := fun D σ H => tb (wMix K D l) D σ H
inductive HdsX (X : Cx) : List ExceptHandler → List Clause → Prop
  | rest {hds : List ExceptHandler} : HdsX X hds []
  | bare {x : Str} {c : Value} {ts : Addr → Value → Option Addr → TS} {b₀ : Stmt} {suite : List Stmt} {np pos' : Pos} {hds : List ExceptHandler} {l : List Clause} (hc : Names X x c)
      (hsu : ∀ (a : Addr) (oe : Obj) (cls : Value) (d : Option Addr) (pn : List (Addr × Obj)), Zc cls d oe → (∃ vs, oe.data = .fields vs) → PSs (X.suite a ((a, oe) :: pn)) (b₀ :: suite) (ts a cls d)) (r : HdsX X hds l) :
      HdsX X (.ExceptHandler (some (.Name x np)) none (b₀ :: suite) pos' :: hds) ((c, none, ts) :: l)
  | named {x n : Str} {i : Nat} {c : Value} {ts : Addr → Value → Option Addr → TS} {b₀ : Stmt} {suite : List Stmt} {np pos' : Pos} {hds : List ExceptHandler} {l : List Clause} (hi : X.N[i]? = some n) (hln : X.env.kindOf n = some .local) (hc : Names X x c)
      (hsu : ∀ (a : Addr) (oe : Obj) (cls : Value) (d : Option Addr) (pn : List (Addr × Obj)), Zc cls d oe → (∃ vs, oe.data = .fields vs) → PSs (X.suite a ((a, oe) :: pn)) (b₀ :: suite) (ts a cls d)) (r : HdsX X hds l) :
      HdsX X (.ExceptHandler (some (.Name x np)) (some n) (b₀ :: suite) pos' :: hds) ((c, some i, ts) :: l)
section
variable {X : Cx} {K : PySem.W.Frag} {body : List Stmt} {h₀ : ExceptHandler} {hds : List ExceptHandler} {l : List Clause} {pos : Pos} {tb : WX → TS}
end
end L2
namespace Dw
open PySem PySem.Spec PyProof.Rows L2
section
variable {S : Type}
abbrev ClauseW (S : Type) := Value × Option Nat × (Addr → Xc → WS S)
def endsNW (i : Nat) (KK : WEnds S) : WEnds S := { KK with nx := fun e t => KK.nx (ss e i .no) t, bk := fun e t => KK.bk (ss e i .no) t, ct := fun e t => KK.ct (ss e i .no) t }
def wMixW (K : PySem.W.Frag) : List (ClauseW S) → WEnds S → List Sl → Xc → S → Prop
  | [], _, _, _, _ => False
  | (c, none, wh) :: r, KK, env, xc, s => ∃ b, PySem.W.exmOne K (.ref xc.C) c = some b ∧ (b = true → ∀ a, wh a xc KK env s) ∧ (b = false → wMixW K r KK env xc s)
  | (c, some i, wh) :: r, KK, env, xc, s => ∃ b, PySem.W.exmOne K (.ref xc.C) c = some b ∧ (b = true → ∀ a, wh a xc (endsNW i KK) (ss env i (.dat (.opq a))) s) ∧ (b = false → wMixW K r KK env xc s)
@[simp] def wTry (K : PySem.W.Frag) (lw : List (ClauseW S)) (wb : WS S) : WS S := fun KK env s => (∀ j, (sg env j).isO = false) ∧ wb { KK with xc := fun xc s1 => wMixW K lw KK env xc s1 } env s
variable {W : Wd S} {G : Gm S} {K : PySem.W.Frag}
inductive SimHs (W : Wd S) : List Clause → List (ClauseW S) → Prop
  | nil : SimHs W [] []
  | cons {c : Value} {o : Option Nat} {ts : Addr → Value → Option Addr → TS} {wh : Addr → Xc → WS S} {l : List Clause} {lw : List (ClauseW S)} (h : ∀ a xc cls d (G' : Gm S), XF W G' xc cls d → SimS W G' (ts a cls d) (wh a xc)) (t : SimHs W l lw) : SimHs W ((c, o, ts) :: l) ((c, o, wh) :: lw)
/-- the body raises where nothing is set yet -/
def Loc (tb : WX → TS) : Prop := ∀ (Wx : WX) Dn σ H, tb Wx Dn σ H = tb (fun cls d _ H => Wx cls d σ H) Dn σ H
end
end Dw
namespace L2
open PySem PySem.Spec PyProof.Rows
/-- isinstance(e, c), e the exception that the suite holds -/
def rIsG (K : PySem.W.Frag) (a : Addr) (cls : Value) (d : Option Addr) : List V → Hp → VK → Prop := fun xs H Q => ∃ (D : Addr) (c : V) (cv : Value) (b : Bool), cls = .ref D ∧ ExcC K D ∧ (d = none ∨ ∃ dd fs, d = some dd ∧ H dd = some (.xd fs)) ∧ xs = [.ref a, c] ∧ (∀ u, RelV c u → u = cv) ∧ PySem.W.kitOne K (.ref D) cv = some b ∧ Q (.bl b) H
end L2
namespace Dw
open PySem PySem.Spec PyProof.Rows L2
section
variable {S : Type} {W : Wd S} {G : Gm S} {K : PySem.W.Frag}
@[simp] def wIsG (K : PySem.W.Frag) (a : Addr) (xc : Xc) (wa : WA S) : WE S := fun env s k x => ExcC K xc.C ∧ wa env s (fun ds s1 => match ds with
  | [.opq e, .opq c] => e = a ∧ ∃ b, PySem.W.kitOne K (.ref xc.C) (.ref c) = some b ∧ k (.bl b) s1
  | [.opq e, .ty n] => e = a ∧ ∃ b, PySem.W.kitOne K (.ref xc.C) (.type n) = some b ∧ k (.bl b) s1
  | _ => False) x
end
end Dw
namespace L2
open PySem PySem.Spec PyProof.Rows
/-- an own error without a making of its own -/
structure E0c (K : PySem.W.Frag) (mg : Str → Option Value) (x : Str) (C : Addr) : Prop where
  mgx : mg x = some (.ref C)
  exc : PySem.W.excIn K C He.veBase "ValueError.__new__" = true
  keep : PySem.W.keepIn K (.ref C) = true
  r1 : PySem.W.subIn K (.ref C) (.type "BaseException") = some true
  r2 : PySem.W.typeIn K (.ref C) = some (.type "type")
theorem E0c.raises {K : PySem.W.Frag} {mg : Str → Option Value} {x : Str} {C : Addr} (e : E0c K mg x C) {X : Cx} (h : X.K = K) : Raises X (.ref C) := raises_own (h ▸ e.r1) (h ▸ e.r2)
theorem kSorted {X : Cx} {K : PySem.W.Frag} (e : X.K = K := by rfl) : CallR X (.builtin "sorted") (rSortedI K) := e ▸ cr_sortedI
end L2
set_option Elab.async false
set_option linter.all false
set_option maxRecDepth 100000
set_option maxHeartbeats 4000000
/-! So: sorted(d) of a dict with pairs of ints for keys, any number of them. -/
namespace L2
open PySem PySem.Spec PyProof.Rows PySem.W
/-- the pair that stands at x -/
def kH (H : Hp) : V → Int × Int
  | .ref t => match H t with
    | some (.tup [.int i, .int j]) => (i, j)
    | _ => (0, 0)
  | _ => (0, 0)
def rSortedDT : List V → Hp → VK → Prop := fun vs H Q => ∃ (a : Addr) (kvs : List (List Key × V)), vs = [.ref a] ∧ H a = some (.dT kvs) ∧ (∀ kv ∈ kvs, ∃ i j : Int, kv.1 = [.inl i, .inl j]) ∧
  ∀ (zs : List (List Key × Addr)) (p : Addr), zs.length ≤ sizeLine → (zs.map (·.1)).Perm (kvs.map (·.1)) → (∀ z ∈ zs, H z.2 = some (.tup (z.1.map kV))) → SrtO.Srtd (ltP (kH H)) (zs.map fun z => V.ref z.2) → H p = none → Q (.ref p) (upd H p (.lst (zs.map fun z => V.ref z.2)))
theorem kt_keys {H : Hp} {kvs : List (List Key × V)} {xs : List (List Key × Addr × Value)} (r : KT H kvs xs) : kvs.map (·.1) = xs.map (·.1) ∧ (∀ x ∈ xs, H x.2.1 = some (.tup (x.1.map kV))) ∧ (∀ x ∈ xs, ∃ kv ∈ kvs, kv.1 = x.1) := by
  induction r with
  | nil => exact ⟨rfl, by simp, by simp⟩
  | @cons p q ps qs h t ih =>
    obtain ⟨h1, h2, _⟩ := h
    refine ⟨by rw [List.map_cons, List.map_cons, ih.1, h1], ⟨fun x hx => ?_, fun x hx => ?_⟩⟩
    · rcases List.mem_cons.mp hx with rfl | hx
      · rw [← h1]
        exact h2
      · exact ih.2.1 x hx
    · rcases List.mem_cons.mp hx with rfl | hx
      · exact ⟨p, by simp, h1⟩
      · obtain ⟨kv, m, e⟩ := ih.2.2 x hx
        exact ⟨kv, by simp [m], e⟩
section
variable {X : Cx}
theorem cr_sortedDT (hcalm : X.calm = true) : CallR X (.builtin "sorted") rSortedDT := by
  intro pins s σ H vs us Q I r h
  obtain ⟨a, kvs, rfl, hd, hk, q⟩ := h
  obtain ⟨u, rfl, ru⟩ := vals1 r
  obtain rfl : u = Value.ref a := ru
  obtain ⟨z, lo, xs, rel, dd⟩ := dt_of I.hok hd
  obtain ⟨e1, e2, e3⟩ := kt_keys rel
  obtain ⟨es, ep, raw, hs, hes⟩ := dd.raw
  have h16 : es.size ≤ sizeLine := by
    rw [hs]
    have := congrArg List.length e1
    simp only [List.length_map] at this
    omega
  refine Calls.call_function_entry PyProof.Rows.kind_sorted PyProof.Rows.plain_sorted PyProof.Rows.entry_sorted (PyProof.Rows.args_sorted1 _) ?_
  unfold Builtin.«sorted»
  refine wpAny_bind (m := checkCount "sorted" 1 1 _) (wpAny_pure ?_)
  refine wpAny_bind (kdu_collect (A := X.A.in1) (KdlSrc.rawDict (es := es) (ep := ep) lo) (I.ok.hd hcalm) raw h16 fun h' tk acc hkeep hacc => ?_)
  have hal : acc.toList = xs.map fun x => Value.ref x.2.1 := by
    refine List.ext_getElem? fun j => ?_
    rw [List.getElem?_map]
    by_cases hj : j < es.size
    · have hj' : j < acc.toList.length := by rw [Array.length_toList, hacc.1]; exact hj
      obtain ⟨y, hy, hy2, _⟩ := hes j hj
      obtain ⟨hi, ev⟩ := hacc.2 j (acc.toList[j]) (by rw [← Array.getElem?_toList, List.getElem?_eq_getElem hj'])
      rw [List.getElem?_eq_getElem hj', hy, ev, hy2]
      rfl
    · rw [List.getElem?_eq_none (by rw [Array.length_toList, hacc.1]; omega), List.getElem?_eq_none (by rw [← hs]; omega)]
      rfl
  have I1 : Inv X pins σ H { s with heap := h', toks := tk } := I.kept hkeep
  have hz : acc.toList.length ≤ sizeLine := by rw [Array.length_toList, hacc.1]; exact h16
  refine wpAny_bind (wpAny_newList ?_ hz)
  have hoL : (h'.push (seqObj "list" acc.toList.toArray 0)).get? h'.objs.size = some (seqObj "list" acc.toList.toArray 0) := Heap.get?_push_size _ rfl
  show wpAny _ _ _ _ _ { s with heap := h'.push (seqObj "list" acc.toList.toArray 0), toks := tk }
  have hp : ∀ v ∈ acc.toList, Srt.IsPair (h'.push (seqObj "list" acc.toList.toArray 0)) v (kH H (backV v)).1 (kH H (backV v)).2 := fun v hv => by
    rw [hal] at hv
    obtain ⟨x, hx, rfl⟩ := List.mem_map.mp hv
    have ht := e2 x hx
    obtain ⟨kv, m, ek⟩ := e3 x hx
    obtain ⟨i, j, eij⟩ := hk kv m
    have ht' : H x.2.1 = some (.tup [.int i, .int j]) := by rw [ht, ← ek, eij]; rfl
    have ek' : kH H (backV (.ref x.2.1)) = (i, j) := by
      show (match H x.2.1 with
        | some (.tup [.int i, .int j]) => (i, j)
        | _ => (0, 0)) = _
      rw [ht']
    rw [ek']
    obtain ⟨_, its2, r2, o, ho, hc, n, hd2⟩ := I1.hok _ _ ht'
    obtain ⟨u1, u2, rfl, ri, rj⟩ := vals2 r2
    obtain ⟨t1, rfl⟩ := ri
    obtain ⟨t2, rfl⟩ := rj
    exact ⟨x.2.1, o, t1, t2, n, rfl, Heap.get?_push_of_some _ ho, hc, hd2⟩
  refine wpAny_bind (wpAny_holding (wpAny_call_entry PyProof.Rows.slot_list_sort ⟨_, hoL, rfl⟩ PyProof.Rows.entry_list_sort
    (SrtO.list_sort_ord (s := { s with heap := h'.push (seqObj "list" acc.toList.toArray 0), toks := tk }) (SrtO.swo_lex fun u => kH H (backV u)) hoL hz (fun h2 => SrtO.pairs_sortableO (by omega) hp fun o e => ?_) fun out h1 h2 => ⟨_, rfl, ?_⟩) (PyProof.Rows.args_list_sort _)))
  · have e' : some o = some (seqObj "list" acc.toList.toArray 0) := e.symm.trans hoL
    cases e'
    intro c
    exact absurd (Value.type.inj c) (by decide)
  obtain ⟨e', he'⟩ := PyProof.Rows.sortedHeap_at (vs := acc.toList) (out := out.toArray) hoL
  obtain ⟨xs', pm, em⟩ := perm_lift (fun x : List Key × Addr × Value => Value.ref x.2.1) h2.perm xs hal.symm
  have eo : out.map backV = (xs'.map fun x => (x.1, x.2.1)).map fun z => V.ref z.2 := by
    rw [← em, List.map_map, List.map_map]
    rfl
  have h3 : ∀ u ∈ out, ∃ a, u = Value.ref a := fun u hu => by
    rw [← em] at hu
    obtain ⟨x, _, rfl⟩ := List.mem_map.mp hu
    exact ⟨_, rfl⟩
  have hlen : (out.map backV).length ≤ sizeLine := by
    rw [List.length_map, h2.len]
    exact hz
  refine wpAny_pure ⟨_, rfl, .ref h'.objs.size, upd H h'.objs.size (.lst (out.map backV)), I1.laid (t' := tk) (fun b u e => ?_) (Nat.le_refl _)
    (show ObjOk X.prog X.w _ _ _ (.lst (out.map backV)) from ⟨hlen, out, e', vals_back h3, he'⟩), rfl, ?_⟩
  · have hb : b < h'.objs.size := Heap.lt_size e
    rw [PyProof.Rows.sortedHeap_old (Nat.ne_of_lt hb) (by rw [size_push']; exact Nat.lt_succ_of_lt hb)]
    exact Heap.get?_push_of_some _ e
  · rw [eo]
    refine q _ _ ?_ ?_ (fun z hz => ?_) ?_ (I1.hok.fresh (Nat.le_refl _))
    · rw [List.length_map, pm.length_eq]
      have := congrArg List.length e1
      simp only [List.length_map] at this
      omega
    · rw [List.map_map, e1]
      exact pm.map _
    · obtain ⟨x, hx, rfl⟩ := List.mem_map.mp hz
      exact e2 x (pm.mem_iff.mp hx)
    · rw [← eo]
      exact SrtO.srtd_map h1
end
end L2
namespace L2
open PySem PySem.Spec PyProof.Rows PySem.W
section
variable {prog : Program} {w : World} {A : Around} {E : Value → Shared → Prop} {s : Shared}
theorem collect_tupT {l : Addr} {vs : List Value} {o : Obj} {n : Nat} {Q : List Value → Shared → Prop} (ho : s.heap.get? l = some o) (hc : o.cls = .type "tuple") (hd : o.data = .seq vs.toArray n)
    (h : Q vs { s with heap := (s.heap.push (seqObj "list" #[] 0)).update s.heap.objs.size (Obj.mapSeq (· ++ vs.toArray)) }) (hsz : vs.length ≤ sizeLine) :
    wpAny (model prog w) A (collect (.ref l)) Q E s := by
  unfold collect
  refine wpAny_bind (wpAny_runValue (codeAny_builtin entry_proto_collect' ?_))
  show wpAny _ _ (do again (.builtin "list.__iadd__" ⟨[← newList [], .ref l], []⟩)) _ _ s
  refine wpAny_bind (wpAny_newList (wpAny_pure ⟨Code.quiet_builtin _ (by decide +kernel), codeAny_builtin entry_list_iadd' ?_⟩))
  show wpAny _ _ (Builtin.List.listExtendWith (.ref s.heap.objs.size) (.ref l) (.ref s.heap.objs.size)) _ _ { s with heap := s.heap.push (seqObj "list" #[] 0) }
  unfold Builtin.List.listExtendWith
  have ho' : (s.heap.push (seqObj "list" #[] 0)).get? l = some o := Heap.get?_push_of_some _ ho
  refine wpAny_bind (wpAny_typeOf (T := "tuple") ⟨o, ho', hc⟩ ?_)
  have ht : (Value.type "tuple" == Value.type "tuple") = true := by rfl
  rw [if_pos (by rw [ht]; simp)]
  refine wpAny_bind (listItems_at ho' hd ?_)
  refine wpAny_bind (listItems_at (xs := #[]) (n := 0) (Heap.get?_push_size _ rfl) rfl ?_)
  rw [if_neg (by simp)]
  refine wpAny_bind (listUpdate_at (xs := #[]) (n := 0) (Heap.get?_push_size _ rfl) rfl ?_ (Nat.zero_le _) (by show (#[] ++ vs.toArray).size ≤ sizeLine + 1; simp only [Array.size_append, List.size_toArray, List.length_nil]; omega))
  refine wpAny_pure ?_
  show wpAny (model prog w) A (do
      let o ← load s.heap.objs.size
      match o.data with
      | .seq xs _ => pure xs.toList
      | _ => unsupported "internal:collect") Q E { s with heap := (s.heap.push (seqObj "list" #[] 0)).update s.heap.objs.size (Obj.mapSeq (· ++ vs.toArray)) }
  refine wpAny_bind (wpAny_load (get?_update_seq (Heap.get?_push_size _ rfl) _) ?_)
  show wpAny _ _ (pure ((#[] : Array Value) ++ vs.toArray).toList) Q E _
  rw [show ((#[] : Array Value) ++ vs.toArray).toList = vs by simp]
  exact wpAny_pure h
end
def rSortedIT : List V → Hp → VK → Prop := fun vs H Q => ∃ (a : Addr) (ns : List Int), vs = [V.ref a] ∧ H a = some (.tup (ns.map V.int)) ∧
  ∀ (ns' : List Int) (p : Addr), ns'.Perm ns → ns'.Pairwise (· ≤ ·) → H p = none → Q (.ref p) (upd H p (.lst (ns'.map V.int)))
section
variable {X : Cx}
theorem cr_sortedIT : CallR X (.builtin "sorted") rSortedIT := by
  intro pins s σ H vs us Q I r h
  obtain ⟨a, ns, rfl, hs, q⟩ := h
  obtain ⟨u, rfl, ru⟩ := vals1 r
  obtain rfl : u = Value.ref a := ru
  obtain ⟨hz, its, rv, o, ho, hc, n, hd⟩ := I.hok _ _ hs
  have hi := rv.ints
  have hz' : its.length ≤ sizeLine := by rw [← rv.length]; exact hz
  refine Calls.call_function_entry PyProof.Rows.kind_sorted PyProof.Rows.plain_sorted PyProof.Rows.entry_sorted (PyProof.Rows.args_sorted1 _) ?_
  unfold Builtin.«sorted»
  refine wpAny_bind (m := checkCount "sorted" 1 1 _) (wpAny_pure ?_)
  refine wpAny_bind (collect_tupT ho hc hd ?_ hz')
  have hk : ∀ b u, s.heap.get? b = some u → ((s.heap.push (seqObj "list" #[] 0)).update s.heap.objs.size (Obj.mapSeq (· ++ its.toArray))).get? b = some u := fun b u e => by
    rw [Heap.get?_update_ne _ _ _ _ (Nat.ne_of_lt (Heap.lt_size e))]
    exact Heap.get?_push_of_some _ e
  generalize (s.heap.push (seqObj "list" #[] 0)).update s.heap.objs.size (Obj.mapSeq (· ++ its.toArray)) = h' at hk ⊢
  have I1 : Inv X pins σ H { s with heap := h', toks := s.toks } := I.kept hk
  refine wpAny_bind (wpAny_newList ?_ hz')
  have hoL : (h'.push (seqObj "list" its.toArray 0)).get? h'.objs.size = some (seqObj "list" its.toArray 0) := Heap.get?_push_size _ rfl
  show wpAny _ _ _ _ _ { s with heap := h'.push (seqObj "list" its.toArray 0) }
  refine wpAny_bind (wpAny_holding (wpAny_call_entry PyProof.Rows.slot_list_sort ⟨_, hoL, rfl⟩ PyProof.Rows.entry_list_sort
    (SrtO.list_sort_ord (s := { s with heap := h'.push (seqObj "list" its.toArray 0) }) SrtO.swo_int hoL hz' (fun h2 => SrtO.ints_sortable hi h2) fun out h1 h2 => ⟨_, rfl, ?_⟩) (PyProof.Rows.args_list_sort _)))
  obtain ⟨k1, k2, k3⟩ := SrtO.ints_out hi h1 h2
  obtain ⟨e', he'⟩ := PyProof.Rows.sortedHeap_at (vs := its) (out := out.toArray) hoL
  have hlen : ((out.map SrtO.iv).map V.int).length ≤ sizeLine := by
    rw [List.length_map, k2.length_eq]
    rw [List.length_map] at hz
    exact hz
  refine wpAny_pure ⟨_, rfl, .ref h'.objs.size, upd H h'.objs.size (.lst ((out.map SrtO.iv).map V.int)), I1.laid (t' := s.toks) (fun b u e => ?_) (Nat.le_refl _)
    (show ObjOk X.prog X.w _ _ _ (.lst ((out.map SrtO.iv).map V.int)) from ⟨hlen, out, e', vals_of_ints k1, he'⟩), rfl, q _ _ k2 k3 (I1.hok.fresh (Nat.le_refl _))⟩
  have hb : b < h'.objs.size := Heap.lt_size e
  rw [PyProof.Rows.sortedHeap_old (Nat.ne_of_lt hb) (by rw [size_push']; exact Nat.lt_succ_of_lt hb)]
  exact Heap.get?_push_of_some _ e
/-- sorted of ints (list or tuple), of a dict with pairs for keys -/
def rSortedX (K : PySem.W.Frag) : List V → Hp → VK → Prop := fun vs H Q => rSortedI K vs H Q ∨ rSortedIT vs H Q ∨ rSortedDT vs H Q
theorem cr_sortedX (hc : X.calm = true) : CallR X (.builtin "sorted") (rSortedX X.K) := by
  intro pins s σ H vs us Q I r h
  rcases h with h | h | h
  · exact cr_sortedI pins s σ H vs us Q I r h
  · exact cr_sortedIT pins s σ H vs us Q I r h
  · exact cr_sortedDT hc pins s σ H vs us Q I r h
theorem kSortedX {K : PySem.W.Frag} (hc : X.calm = true) (e : X.K = K := by rfl) : CallR X (.builtin "sorted") (rSortedX K) := e ▸ cr_sortedX hc
end
end L2
set_option Elab.async false
set_option linter.all false
set_option maxRecDepth 100000
set_option maxHeartbeats 4000000
/-! Sh: what == asks of data (SeqAt.shaped). -/
namespace Dw
open PySem PySem.Spec PyProof.Rows L2
mutual
theorem D.lay : ∀ {d : D} {p : PyData}, d.sm = true → d.py = some p → p.canLay0 = true
  | .non, _, _, h => by cases h; rfl
  | .bl b, _, _, h => by cases h; rfl
  | .int i, _, _, h => by cases h; rfl
  | .str x, _, s, h => by
    cases h
    rw [sm_str] at s
    exact s
  | .lst ds, p, s, h => by
    simp only [D.py] at h
    cases e : D.pys ds with
    | none => rw [e] at h; cases h
    | some ps =>
      rw [e] at h
      cases h
      exact D.lays (by simpa using s) e
  | .tup ds, p, s, h => by
    simp only [D.py] at h
    cases e : D.pys ds with
    | none => rw [e] at h; cases h
    | some ps =>
      rw [e] at h
      cases h
      exact D.lays (by simpa using s) e
  | .dic _, _, s, _ => by simp at s
  | .dit _, _, s, _ => by simp at s
  | .obj _ _, _, s, _ => by simp at s
  | .opq _, _, s, _ => by simp at s
  | .ty _, _, s, _ => by simp at s
theorem D.lays : ∀ {ds : List D} {ps : List PyData}, (∀ d ∈ ds, d.sm = true) → D.pys ds = some ps → PyData.canLayAll0 ps = true
  | [], _, _, h => by cases h; rfl
  | d :: r, _, s, h => by
    simp only [D.pys] at h
    cases e : d.py with
    | none => rw [e] at h; cases h
    | some p =>
      cases e2 : D.pys r with
      | none => rw [e, e2] at h; cases h
      | some ps =>
        rw [e, e2] at h
        cases h
        show (p.canLay0 && PyData.canLayAll0 ps) = true
        rw [D.lay (s d (by simp)) e, D.lays (fun z hz => s z (by simp [hz])) e2]
        rfl
end
theorem Pq.shaped {n k : Nat} {d : D} (h : Pq n k d) (hk : k ≤ 64) : ∃ p, d.py = some p ∧ SeqAt.shaped p = true := by
  obtain ⟨p, e, a, b, c⟩ := D.rp h.1
  refine ⟨p, e, ?_⟩
  unfold SeqAt.shaped
  rw [D.lay h.1 e, decide_eq_true (show p.depth ≤ 64 from Nat.le_trans c (Nat.le_trans h.2.2 hk))]
  rfl
end Dw
set_option Elab.async false
set_option linter.all false
set_option maxRecDepth 100000
set_option maxHeartbeats 4000000
/-! Hx: the hand that numbers are drawn of (a list: its cells, four numbers) over data, as the world that changes. -/
namespace Dw
open PySem PySem.Spec PyProof.Rows L2
structure Hand where
  a : Addr
  c : Addr
  cells : List Int
  at_ : Int
  rest : Int
  mix : Int
  many : Int
def Hand.xs (b : Hand) : List V := [.ref b.c, .int b.at_, .int b.rest, .int b.mix, .int b.many]
def HW : Wd Hand where
  C b x := x = b.a ∨ x = b.c
  J b H := H b.a = some (.lst b.xs) ∧ H b.c = some (.lst (b.cells.map V.int)) ∧ b.cells.length ≤ sizeLine ∧ b.c ≠ b.a
  tr := by
    rintro s H a ⟨h1, h2, _⟩ (rfl | rfl)
    · rw [h1]; simp
    · rw [h2]; simp
  ct := by
    rintro s H a xs ⟨h1, h2, _⟩ (rfl | rfl)
    · rw [h1]; simp
    · rw [h2]; simp
  st := by
    rintro s H H' ⟨h1, h2, h3⟩ h _
    exact ⟨(h _ (.inl rfl)).trans h1, (h _ (.inr rfl)).trans h2, h3⟩
def hget (b : Hand) (i : Int) : Option D := if i = 0 then some (.opq b.c) else if i = 1 then some (.int b.at_) else if i = 2 then some (.int b.rest) else if i = 3 then some (.int b.mix) else if i = 4 then some (.int b.many) else none
def hput (b : Hand) (i : Int) : D → Option Hand
  | .int n => if i = 1 then some { b with at_ := n } else if i = 2 then some { b with rest := n } else if i = 3 then some { b with mix := n } else if i = 4 then some { b with many := n } else none
  | _ => none
@[simp] theorem hget_0 (b : Hand) : hget b 0 = some (.opq b.c) := rfl
@[simp] theorem hget_1 (b : Hand) : hget b 1 = some (.int b.at_) := rfl
@[simp] theorem hget_2 (b : Hand) : hget b 2 = some (.int b.rest) := rfl
@[simp] theorem hget_3 (b : Hand) : hget b 3 = some (.int b.mix) := rfl
@[simp] theorem hget_4 (b : Hand) : hget b 4 = some (.int b.many) := rfl
@[simp] theorem hput_1 (b : Hand) (i : Int) : hput b 1 (.int i) = some { b with at_ := i } := rfl
@[simp] theorem hput_2 (b : Hand) (i : Int) : hput b 2 (.int i) = some { b with rest := i } := rfl
@[simp] theorem hput_3 (b : Hand) (i : Int) : hput b 3 (.int i) = some { b with mix := i } := rfl
@[simp] theorem hput_4 (b : Hand) (i : Int) : hput b 4 (.int i) = some { b with many := i } := rfl
/-- hand[i], hand[0][i] -/
@[simp] def wIxH : D → D → Hand → (D → Hand → Prop) → Prop := fun d e s k => match d, e with
  | .opq x, .int i => if x = s.c then (match atI s.cells i with
      | some n => k (.int n) s
      | none => False)
    else x = s.a ∧ (match hget s i with
      | some d => k d s
      | none => False)
  | d, e => wIx d e s k
@[simp] def wLenH : List D → Hand → (D → Hand → Prop) → Prop := fun ds s k => match ds with
  | [.opq c] => c = s.c ∧ k (.int s.cells.length) s
  | ds => wLen ds s k
/-- hand[i] = .., or an own list's item -/
@[simp] def wSetH (i : Nat) (wv wk : WE Hand) : WS Hand := fun KK env s => match sg env i with
  | .dat (.opq a) => wv env s (fun v t => wk env t (fun k u => match k with
    | .int z => a = u.a ∧ (match hput u z v with
      | some u' => KK.nx env u'
      | none => False)
    | _ => False) KK.xc) KK.xc
  | _ => wSetL i wv wk KK env s
section
variable {G : Gm Hand} {K : PySem.W.Frag}
end
/-- the hand stands at a -/
def Ho (a : Addr) (s : Hand) : Prop := s.a = a ∧ s.c ≠ s.a ∧ 0 ≤ s.at_ ∧ 0 ≤ s.rest
def spHand (K : PySem.W.Frag) : Sp := fun vs H Q _ => ∃ (a : Addr) (ns : List Int), vs = [.ref a] ∧ ns.length ≤ 1000 ∧ SqL K H a (ns.map V.int) ∧ ∀ (b : Hand) H', HW.J b H' → Ho b.a b → Q (.ref b.a) H'
end Dw
set_option Elab.async false
set_option linter.all false
set_option maxRecDepth 100000
set_option maxHeartbeats 4000000
/-! Sp: sorted over data. -/
namespace Dw
open PySem PySem.Spec PyProof.Rows L2
def prD (p : Int × Int) : D := .tup [.int p.1, .int p.2]
def prK (p : Int × Int) : List Key := [.inl p.1, .inl p.2]
@[simp] def wSortX {S : Type} : List D → S → (D → S → Prop) → Prop := fun ds s k => match ds with
  | [.lst es] => ∃ ns, D.ints es = some ns ∧ ∀ ms : List Int, ms.Perm ns → ms.Pairwise (· ≤ ·) → k (.lst (ms.map D.int)) s
  | [.tup es] => ∃ ns, D.ints es = some ns ∧ ∀ ms : List Int, ms.Perm ns → ms.Pairwise (· ≤ ·) → k (.lst (ms.map D.int)) s
  | [.dit kvs] => ∃ ps : List (Int × Int), kvs.map (·.1) = ps.map prK ∧ ∀ qs : List (Int × Int), qs.Perm ps → qs.Pairwise (fun x y => SrtO.lexB y x = false) → k (.lst (qs.map prD)) s
  | _ => False
theorem DaT.keys {B : Addr → Prop} {H : Hp} {xs : List (List Key × V)} {ds : List (List Key × D)} (h : DaT B H xs ds) : xs.map (·.1) = ds.map (·.1) := by
  induction xs generalizing ds with
  | nil => cases h; rfl
  | cons x r ih =>
    cases h with
    | cons a b => rw [List.map_cons, List.map_cons, ih b]
section
variable {S : Type} {W : Wd S} {K : PySem.W.Frag}
end
end Dw
set_option Elab.async false
set_option linter.all false
set_option maxRecDepth 100000
set_option maxHeartbeats 4000000
/-! Tn: x in a tuple and tuple.index by data; a tuple times 1. -/
namespace L2
open PySem PySem.Spec PyProof.Rows
def rInTD (K : PySem.W.Frag) : R2 := fun x y H Q => ∃ d ds, Dp K H x d ∧ Dp K H y (.tuple ds) ∧ SeqAt.shaped d = true ∧ SeqAt.shaped (.tuple ds) = true ∧ Q (.bl (ds.any fun z => PyData.eqv z d)) H
def rNotInTD (K : PySem.W.Frag) : R2 := fun x y H Q => ∃ d ds, Dp K H x d ∧ Dp K H y (.tuple ds) ∧ SeqAt.shaped d = true ∧ SeqAt.shaped (.tuple ds) = true ∧ Q (.bl (!ds.any fun z => PyData.eqv z d)) H
section
variable {X : Cx}
/-- t.index(x): the first place of an equal one -/
def rIndexTD (K : PySem.W.Frag) : V → List V → Hp → VK → Prop := fun x xs H Q => ∃ (a : Addr) (y : V) (d : PyData) (ds : List PyData) (j : Nat) (z : PyData), x = V.ref a ∧ xs = [y] ∧ Dp K H (V.ref a) (.tuple ds) ∧ Dp K H y d ∧
  SeqAt.shaped (.tuple ds) = true ∧ SeqAt.shaped d = true ∧ ds[j]? = some z ∧ PyData.eqv z d = true ∧ (∀ (m : Nat) (z' : PyData), m < j → ds[m]? = some z' → PyData.eqv z' d = false) ∧ Q (.int (j : Nat)) H
end
/-- a tuple times 1: itself -/
def rRepT1 (K : PySem.W.Frag) : R2 := fun x y H Q => ∃ l xs, x = .ref l ∧ y = .int 1 ∧ SqT K H l xs ∧ Q (.ref l) H
section
variable {X : Cx}
end
end L2
set_option Elab.async false
set_option linter.all false
set_option maxRecDepth 100000
set_option maxHeartbeats 4000000
/-! Nk: dicts whose keys are tuples within tuples. -/
namespace L2
open PySem PySem.Spec PyProof.Rows
mutual
inductive KeyV (H : Hp) : NestedKey → V → Prop
  | int (i : Int) : KeyV H (.num i) (.int i)
  | str (x : Str) : KeyV H (.text x) (.str x)
  | tup {t : Addr} {xs : List V} {ks : List NestedKey} : H t = some (.tup xs) → KeyVs H ks xs → KeyV H (.tup ks) (.ref t)
inductive KeyVs (H : Hp) : List NestedKey → List V → Prop
  | nil : KeyVs H [] []
  | cons {k : NestedKey} {v : V} {ks : List NestedKey} {vs : List V} : KeyV H k v → KeyVs H ks vs → KeyVs H (k :: ks) (v :: vs)
end
mutual
theorem KeyV.keeps {H H' : Hp} (hk : ∀ t xs, H t = some (.tup xs) → H' t = some (.tup xs)) : ∀ {k : NestedKey} {v : V}, KeyV H k v → KeyV H' k v
  | _, _, .int i => .int i
  | _, _, .str x => .str x
  | _, _, .tup e h => .tup (hk _ _ e) (h.keeps hk)
theorem KeyVs.keeps {H H' : Hp} (hk : ∀ t xs, H t = some (.tup xs) → H' t = some (.tup xs)) : ∀ {k : List NestedKey} {v : List V}, KeyVs H k v → KeyVs H' k v
  | _, _, .nil => .nil
  | _, _, .cons h t => .cons (h.keeps hk) (t.keeps hk)
end
mutual
theorem KeyV.is {P : Program} {w : World} {H : Hp} {h : Heap} (ok : HOk P w H h) : ∀ {k : NestedKey} {v : V} {u : Value}, KeyV H k v → RelV v u → NestedIs h k u
  | _, _, _, .int i, r => by
    obtain ⟨t, rfl⟩ := r
    exact .int i t
  | _, _, _, .str x, r => by
    obtain ⟨t, rfl⟩ := r
    exact .text x t
  | _, _, _, .tup e l, r => by
    cases r
    obtain ⟨_, its, rv, o, ho, hc, n, hd⟩ := (show ObjOk P w H h _ (.tup _) from ok _ _ e)
    exact .tup ho hc hd (by simpa using l.is ok rv)
theorem KeyVs.is {P : Program} {w : World} {H : Hp} {h : Heap} (ok : HOk P w H h) : ∀ {k : List NestedKey} {v : List V} {u : List Value}, KeyVs H k v → Vals v u → NestedAll h k u
  | _, _, _, .nil, .nil => .nil
  | _, _, _, .cons a t, .cons r rs => .cons (a.is ok r) (t.is ok rs)
end
abbrev NR (p : NestedKey × Addr × V) (q : NestedKey × Addr × Value) : Prop := p.1 = q.1 ∧ p.2.1 = q.2.1 ∧ RelV p.2.2 q.2.2
def NDφ (P : Program) (w : World) (a : Addr) (xs : List (NestedKey × Addr × V)) (h : Heap) : Prop := (a == sysModules) = false ∧ xs.length ≤ sizeLine ∧ ∃ ys : List (NestedKey × Addr × Value), Paired NR xs ys ∧
  ∃ o es ep, h.get? a = some o ∧ o.ExactDict ∧ o.data = .dict es ep ∧ es.toList = ys.map (entryOfKey (nestedKind P w)) ∧ (ys.map (·.1)).Nodup
def NDO (P : Program) (w : World) (a : Addr) (xs : List (NestedKey × Addr × V)) : HO := .ext (NDφ P w a xs)
theorem NDO_ok {P : Program} {w : World} {H : Hp} {h : Heap} {a : Addr} {xs : List (NestedKey × Addr × V)} (x : NDφ P w a xs h) : ObjOk P w H h a (NDO P w a xs) := by
  refine ⟨x, ?_, fun h1 h2 x1 k => ?_⟩
  · obtain ⟨_, _, _, _, o, _, _, e, _⟩ := x
    exact ⟨o, e⟩
  · obtain ⟨a1, a2, ys, r, o, es, ep, e, q⟩ := x1
    exact ⟨a1, a2, ys, r, o, es, ep, k o e, q⟩
/-- at a stands the dict xs -/
def ND (P : Program) (w : World) (H : Hp) (a : Addr) (xs : List (NestedKey × Addr × V)) : Prop := H a = some (NDO P w a xs) ∧ ∀ x ∈ xs, KeyV H x.1 (.ref x.2.1) ∧ x.1.depth ≤ 8
def atN (xs : List (NestedKey × Addr × V)) (k : NestedKey) : Option V := (xs.find? fun x => decide (x.1 = k)).map (·.2.2)
theorem NR.at {k : NestedKey} : ∀ {xs : List (NestedKey × Addr × V)} {ys : List (NestedKey × Addr × Value)}, Paired NR xs ys → (atN xs k = none ∧ atKey ys k = none) ∨ ∃ v p, atN xs k = some v ∧ atKey ys k = some p ∧ RelV v p.2
  | _, _, .nil => .inl ⟨rfl, rfl⟩
  | x :: xs, y :: ys, .cons h t => by
    obtain ⟨h1, h2, h3⟩ := h
    by_cases e : x.1 = k
    · exact .inr ⟨x.2.2, y.2, by simp [atN, List.find?_cons, e], by simp [atKey, List.find?_cons, ← h1, e], h3⟩
    · have e' : ¬ y.1 = k := by rw [← h1]; exact e
      rcases NR.at (k := k) t with ⟨a, b⟩ | ⟨v, p, a, b, c⟩
      · exact .inl ⟨by simpa [atN, List.find?_cons, e] using a, by simpa [atKey, List.find?_cons, e'] using b⟩
      · exact .inr ⟨v, p, by simpa [atN, List.find?_cons, e] using a, by simpa [atKey, List.find?_cons, e'] using b, c⟩
section
variable {X : Cx} {pins : List (Addr × Obj)} {σ : St} {H : Hp} {s : Shared} {a b : Addr} {xs : List (NestedKey × Addr × V)} {k : NestedKey} {A : Around} {E : Value → Shared → Prop}
theorem ND.of (I : Inv X pins σ H s) (d : ND X.prog X.w H a xs) : (a == sysModules) = false ∧ xs.length ≤ sizeLine ∧ ∃ ys, Paired NR xs ys ∧ s.heap.DictOfH (nestedKind X.prog X.w) a ys := by
  obtain ⟨e, hk⟩ := d
  obtain ⟨⟨h1, h2, ys, r, o, es, ep, g, ex, dt, ee, nd⟩, _⟩ := (show ObjOk X.prog X.w H s.heap a (NDO X.prog X.w a xs) from I.hok a _ e)
  refine ⟨h1, h2, ys, r, o, es, ep, g, ex, dt, ee, ?_, nd⟩
  have all : ∀ {l : List (NestedKey × Addr × V)} {m : List (NestedKey × Addr × Value)}, Paired NR l m → (∀ x ∈ l, KeyV H x.1 (.ref x.2.1) ∧ x.1.depth ≤ 8) → ∀ x ∈ m, (nestedKind X.prog X.w).is s.heap x.1 x.2.1 := by
    intro l m q
    induction q with
    | nil => intro _ x hx; exact nomatch hx
    | @cons p q ps qs hq t ih =>
      intro hl x hx
      rcases List.mem_cons.mp hx with rfl | hx
      · obtain ⟨z1, z2⟩ := hl p (by simp)
        rw [← hq.1, ← hq.2.1]
        exact ⟨z1.is I.hok rfl, z2⟩
      · exact ih (fun y hy => hl y (by simp [hy])) x hx
  exact all r hk
theorem nd_in {Q : Value → Shared → Prop} (hu : A.units + 9 < cLine) (I : Inv X pins σ H s) (d : ND X.prog X.w H a xs) (kk : KeyV H k (.ref b)) (kd : k.depth ≤ 8) (h : ∀ s', Inv X pins σ H s' → Q (.bool (!(atN xs k).isSome)) s') :
    wpAny (model X.prog X.w) A (compareOp .NotIn (.ref b) (.ref a)) Q E s := by
  obtain ⟨h1, _, ys, r, dd⟩ := d.of I
  refine wpAny_notIn_heap (knd := nestedKind X.prog X.w) (show A.in1.units + 8 < cLine from by show A.units + 1 + 8 < cLine; omega) ⟨kk.is I.hok rfl, kd⟩ h1 dd ?_
  have : (atKey ys k).isSome = (atN xs k).isSome := by rcases NR.at (k := k) r with ⟨x, y⟩ | ⟨v, p, x, y, _⟩ <;> rw [x, y] <;> rfl
  rw [this]
  exact h _ (I.tok _)
theorem nd_get {Q : Value → Shared → Prop} {v : V} (hu : A.units + 9 < cLine) (I : Inv X pins σ H s) (d : ND X.prog X.w H a xs) (kk : KeyV H k (.ref b)) (kd : k.depth ≤ 8) (hv : atN xs k = some v) (h : ∀ u s', Inv X pins σ H s' → RelV v u → Q u s') :
    wpAny (model X.prog X.w) A (getItem (.ref a) (.ref b)) Q E s := by
  obtain ⟨h1, _, ys, r, dd⟩ := d.of I
  rcases NR.at (k := k) r with ⟨x, y⟩ | ⟨v', p, x, y, z⟩
  · rw [hv] at x; cases x
  · rw [hv] at x
    cases x
    exact wpAny_getItem_heap (knd := nestedKind X.prog X.w) (show A.in1.units + 8 < cLine from by show A.units + 1 + 8 < cLine; omega) ⟨kk.is I.hok rfl, kd⟩ dd y (h _ _ (I.tok _) z)
/-- a new key -/
theorem nd_put {Q : Unit → Shared → Prop} {v : V} {u : Value} (hu : A.units + 9 < cLine) (I : Inv X pins σ H s) (d : ND X.prog X.w H a xs) (kk : KeyV H k (.ref b)) (kd : k.depth ≤ 8) (hv : atN xs k = none) (hl : xs.length < sizeLine) (rv : RelV v u)
    (h : ∀ s', Inv X pins σ (upd H a (NDO X.prog X.w a (xs ++ [(k, b, v)]))) s' → Q () s') : wpAny (model X.prog X.w) A (setItem (.ref a) (.ref b) u) Q E s := by
  have e := d.1
  obtain ⟨h1, hz, ys, r, dd⟩ := d.of I
  have yn : atKey ys k = none := by
    rcases NR.at (k := k) r with ⟨x, y⟩ | ⟨v', p, x, y, z⟩
    · exact y
    · rw [hv] at x; cases x
  have ly : ys.length = xs.length := (Paired.length r).symm
  refine wpAny_setItem_heap (knd := nestedKind X.prog X.w) (hsz := by omega) (show A.in1.units + 8 < cLine from by show A.units + 1 + 8 < cLine; omega) ⟨kk.is I.hok rfl, kd⟩ dd fun h' dd' hs => h _ ?_
  rw [storedH_new yn] at dd'
  obtain ⟨q, es, ep, hq, h2, h3, h4, _, h5⟩ := dd'
  refine d_write I (by rw [e]; exact True.intro) hs ⟨q, hq⟩ (NDO_ok ⟨h1, by rw [List.length_append]; simp; omega, _, ?_, q, es, ep, hq, h2, h3, h4, h5⟩)
  have app : ∀ {l : List (NestedKey × Addr × V)} {m : List (NestedKey × Addr × Value)}, Paired NR l m → Paired NR (l ++ [(k, b, v)]) (m ++ [(k, b, u)]) := by
    intro l m q
    induction q with
    | nil => exact .cons ⟨rfl, rfl, rv⟩ .nil
    | cons hq t ih => exact .cons hq ih
  exact app r
end
theorem huN {k : Nat} {A : Around} (r : Room k A) : A.units + 9 < cLine := by have := r.un; omega
def tNNotIn (P : Program) (w : World) (ty td : TE) : TE := fun σ H Q => ty σ H fun y H1 => td σ H1 fun x H2 => ∃ a b xs k, x = .ref a ∧ y = .ref b ∧ ND P w H2 a xs ∧ KeyV H2 k (.ref b) ∧ k.depth ≤ 8 ∧ Q (.bl (!(atN xs k).isSome)) H2
def tNGet (P : Program) (w : World) (td ty : TE) : TE := fun σ H Q => td σ H fun x H1 => ty σ H1 fun y H2 => ∃ a b xs k v, x = .ref a ∧ y = .ref b ∧ ND P w H2 a xs ∧ KeyV H2 k (.ref b) ∧ k.depth ≤ 8 ∧ atN xs k = some v ∧ Q v H2
def rSetN (P : Program) (w : World) : V → V → V → Hp → (Hp → Prop) → Prop := fun o i v H Q => ∃ a b xs k, o = .ref a ∧ i = .ref b ∧ ND P w H a xs ∧ KeyV H k (.ref b) ∧ k.depth ≤ 8 ∧ atN xs k = none ∧ xs.length < sizeLine ∧ Q (upd H a (NDO P w a (xs ++ [(k, b, v)])))
section
variable {X : Cx} {o i : Expr} {td ty : TE} {pos : Pos}
theorem pc_nnotin (hu : X.A.units + 9 < cLine) (hi : PE X i ty) (ho : PE X o td) : PC X .NotIn i o (tNNotIn X.prog X.w ty td) := by
  refine ⟨fun pins s σ H Q I h => ?_⟩
  refine thn (hi.run pins s σ H _ I h) fun iv s1 ⟨y, H1, I1, ry, q1⟩ => thn (ho.run pins s1 σ H1 _ I1 q1) fun u s2 ⟨x, H2, I2, rx, a, b, xs, k, ex, ey, d, kk, kd, q2⟩ => ?_
  subst ex ey
  obtain rfl : u = Value.ref a := rx
  obtain rfl : iv = Value.ref b := ry
  exact nd_in hu I2 d kk kd fun s3 I3 => ⟨.bl _, H2, I3, rfl, q2⟩
theorem pe_nget (hu : X.A.units + 9 < cLine) (ho : PE X o td) (hi : PE X i ty) (hs : NoSl i) : PE X (.Subscript o i pos) (tNGet X.prog X.w td ty) := by
  refine ⟨fun pins s σ H Q I h => ?_⟩
  refine subD_of PySem.F.slot_dict_getitem.lookup hs (thn (ho.run pins s σ H _ I h) fun u s1 ⟨x, H1, I1, rx, q1⟩ => thn (hi.run pins s1 σ H1 _ I1 q1) fun iv s2 ⟨y, H2, I2, ry, a, b, xs, k, v, ex, ey, d, kk, kd, hv, q2⟩ => ?_)
  subst ex ey
  obtain rfl : u = Value.ref a := rx
  obtain rfl : iv = Value.ref b := ry
  obtain ⟨_, _, ys, _, dd⟩ := d.of I2
  exact ⟨dd.typeIs, nd_get hu I2 d kk kd hv fun w' s3 I3 rw' => ⟨v, H2, I3, rw', q2⟩⟩
theorem set_n (hu : X.A.units + 9 < cLine) : PSet X (rSetN X.prog X.w) := by
  intro pins s σ H o i v ov iv u Q I ro ri rv h
  obtain ⟨a, b, xs, k, eo, ei, d, kk, kd, hv, hl, q⟩ := h
  subst eo ei
  cases (show ov = Value.ref a from ro)
  cases (show iv = Value.ref b from ri)
  exact nd_put hu I d kk kd hv hl rv fun s' I' => ⟨_, I', q⟩
theorem kNNI {P : Program} {w : World} (hu : X.A.units + 9 < cLine) (hi : PE X i ty) (ho : PE X o td) (e : X.prog = P := by rfl) (e2 : X.w = w := by rfl) : PC X .NotIn i o (tNNotIn P w ty td) := by
  subst e e2
  exact pc_nnotin hu hi ho
theorem kNG {P : Program} {w : World} (hu : X.A.units + 9 < cLine) (ho : PE X o td) (hi : PE X i ty) (hs : NoSl i) (e : X.prog = P := by rfl) (e2 : X.w = w := by rfl) : PE X (.Subscript o i pos) (tNGet P w td ty) := by
  subst e e2
  exact pe_nget hu ho hi hs
theorem kSN {P : Program} {w : World} (hu : X.A.units + 9 < cLine) (e : X.prog = P := by rfl) (e2 : X.w = w := by rfl) : PSet X (rSetN P w) := by
  subst e e2
  exact set_n hu
theorem kFAug {K : PySem.W.Frag} {e value : Expr} {f : Str} {tpos : Pos} {ta tv : TE} {op : Operator} {rd : V → V → Hp → VK → Prop} (ha : PE X e ta) (hv : PE X value tv) (hop : InOp X op rd) (e' : X.K = K := by rfl) : PS X (.AugAssign (.Attribute e f tpos) op value pos) (sFldAug K ta tv rd f) := e' ▸ ps_fldaug ha hv hop
end
end L2
set_option Elab.async false
set_option linter.all false
set_option maxRecDepth 100000
set_option maxHeartbeats 4000000
/-! Rg: lists, dicts and instances that change, by their addresses, as the world over data: one world for all of them. -/
namespace Dw
open PySem PySem.Spec PyProof.Rows L2
mutual
/-- nothing in it can change, but by name -/
def D.flt : D → Bool
  | .non => true
  | .bl _ => true
  | .int _ => true
  | .str _ => true
  | .opq _ => true
  | .ty _ => true
  | .tup ds => D.flts ds
  | _ => false
def D.flts : List D → Bool
  | [] => true
  | d :: r => d.flt && D.flts r
end
theorem flts_mem : ∀ {ds : List D} {d : D}, D.flts ds = true → d ∈ ds → d.flt = true
  | e :: r, d, h, m => by
    simp only [D.flts, Bool.and_eq_true] at h
    rcases List.mem_cons.mp m with rfl | m
    · exact h.1
    · exact flts_mem h.2 m
theorem flts_of : ∀ {ds : List D}, (∀ d ∈ ds, d.flt = true) → D.flts ds = true
  | [], _ => rfl
  | d :: r, h => by
    simp only [D.flts, Bool.and_eq_true]
    exact ⟨h d (by simp), flts_of fun e he => h e (by simp [he])⟩
mutual
/-- such a thing needs its tuples alone -/
theorem Da.fl {B B' : Addr → Prop} {H H' : Hp} (hk : ∀ t xs, H t = some (.tup xs) → H' t = some (.tup xs) ∧ ¬ B' t) : ∀ {v : V} {d : D}, Da B H v d → d.flt = true → Da B' H' v d
  | _, _, .non, _ => .non
  | _, _, .bl b, _ => .bl b
  | _, _, .int i, _ => .int i
  | _, _, .str h, _ => .str h
  | _, _, .tup e _ h z, f => .tup (hk _ _ e).1 (hk _ _ e).2 (h.fl hk (by simpa [D.flt] using f)) z
  | _, _, .opq a, _ => .opq a
  | _, _, .ty n, _ => .ty n
  | _, _, .lst _ _ _ _, f => by simp [D.flt] at f
  | _, _, .dic _ _ _, f => by simp [D.flt] at f
  | _, _, .dit _ _ _, f => by simp [D.flt] at f
  | _, _, .obj _ _ _, f => by simp [D.flt] at f
theorem DaL.fl {B B' : Addr → Prop} {H H' : Hp} (hk : ∀ t xs, H t = some (.tup xs) → H' t = some (.tup xs) ∧ ¬ B' t) : ∀ {vs : List V} {ds : List D}, DaL B H vs ds → D.flts ds = true → DaL B' H' vs ds
  | _, _, .nil, _ => .nil
  | _, _, .cons h t, f => by
    simp only [D.flts, Bool.and_eq_true] at f
    exact .cons (h.fl hk f.1) (t.fl hk f.2)
end
theorem DaK.fl {B B' : Addr → Prop} {H H' : Hp} (hk : ∀ t xs, H t = some (.tup xs) → H' t = some (.tup xs) ∧ ¬ B' t) : ∀ {vs : List (Key × V)} {ds : List (Key × D)}, DaK B H vs ds → D.flts (ds.map (·.2)) = true → DaK B' H' vs ds
  | _, _, .nil, _ => .nil
  | _, _, .cons h t, f => by
    simp only [List.map_cons, D.flts, Bool.and_eq_true] at f
    exact .cons (h.fl hk f.1) (t.fl hk f.2)
theorem DaT.fl {B B' : Addr → Prop} {H H' : Hp} (hk : ∀ t xs, H t = some (.tup xs) → H' t = some (.tup xs) ∧ ¬ B' t) : ∀ {vs : List (List Key × V)} {ds : List (List Key × D)}, DaT B H vs ds → D.flts (ds.map (·.2)) = true → DaT B' H' vs ds
  | _, _, .nil, _ => .nil
  | _, _, .cons h t, f => by
    simp only [List.map_cons, D.flts, Bool.and_eq_true] at f
    exact .cons (h.fl hk f.1) (t.fl hk f.2)
theorem DaF.fl {B B' : Addr → Prop} {H H' : Hp} (hk : ∀ t xs, H t = some (.tup xs) → H' t = some (.tup xs) ∧ ¬ B' t) : ∀ {vs : List (Str × V)} {ds : List (Str × D)}, DaF B H vs ds → D.flts (ds.map (·.2)) = true → DaF B' H' vs ds
  | _, _, .nil, _ => .nil
  | _, _, .cons h t, f => by
    simp only [List.map_cons, D.flts, Bool.and_eq_true] at f
    exact .cons (h.fl hk f.1) (t.fl hk f.2)
inductive Mo where
  | lst (ds : List D)
  | dic (kvs : List (Key × D))
  | dit (kvs : List (List Key × D))
  | ins (C dx : Addr) (fs : List (Str × D))
  | nst (P : Program) (w : World) (xs : List (NestedKey × Int))
def Mo.flt : Mo → Bool
  | .lst ds => D.flts ds
  | .dic kvs => D.flts (kvs.map (·.2))
  | .dit kvs => D.flts (kvs.map (·.2))
  | .ins _ _ fs => D.flts (fs.map (·.2))
  | .nst _ _ _ => true
def MoR (B : Addr → Prop) (H : Hp) (a : Addr) : Mo → Prop
  | .lst ds => ∃ xs, H a = some (.lst xs) ∧ DaL B H xs ds ∧ ds.length ≤ sizeLine
  | .dic kvs => ∃ xs, H a = some (.dK xs) ∧ DaK B H xs kvs
  | .dit kvs => ∃ xs, H a = some (.dT xs) ∧ DaT B H xs kvs
  | .ins C dx fs => ∃ xs, H a = some (.ins C dx xs) ∧ DaF B H xs fs
  | .nst P w xs => ∃ ys : List (NestedKey × Addr × V), ND P w H a ys ∧ ys.map (fun y => (y.1, y.2.2)) = xs.map fun x => (x.1, V.int x.2)
theorem MoR.fl {B B' : Addr → Prop} {H H' : Hp} {a : Addr} {o : Mo} (hk : ∀ t xs, H t = some (.tup xs) → H' t = some (.tup xs) ∧ ¬ B' t) (ha : H' a = H a) (f : o.flt = true) (m : MoR B H a o) : MoR B' H' a o := by
  cases o with
  | lst ds => obtain ⟨xs, e, l, z⟩ := m; exact ⟨xs, by rw [ha]; exact e, l.fl hk f, z⟩
  | dic kvs => obtain ⟨xs, e, l⟩ := m; exact ⟨xs, by rw [ha]; exact e, l.fl hk f⟩
  | dit kvs => obtain ⟨xs, e, l⟩ := m; exact ⟨xs, by rw [ha]; exact e, l.fl hk f⟩
  | ins C dx fs => obtain ⟨xs, e, l⟩ := m; exact ⟨xs, by rw [ha]; exact e, l.fl hk f⟩
  | nst P w xs => obtain ⟨ys, ⟨e, kk⟩, l⟩ := m; exact ⟨ys, ⟨by rw [ha]; exact e, fun x hx => ⟨(kk x hx).1.keeps fun t xs q => (hk t xs q).1, (kk x hx).2⟩⟩, l⟩
theorem MoR.there {B : Addr → Prop} {H : Hp} {a : Addr} {o : Mo} (m : MoR B H a o) : H a ≠ none ∧ ∀ xs, H a ≠ some (.tup xs) := by
  cases o with
  | lst ds => obtain ⟨xs, e, _⟩ := m; rw [e]; exact ⟨by simp, by simp⟩
  | dic ds => obtain ⟨xs, e, _⟩ := m; rw [e]; exact ⟨by simp, by simp⟩
  | dit ds => obtain ⟨xs, e, _⟩ := m; rw [e]; exact ⟨by simp, by simp⟩
  | ins _ _ ds => obtain ⟨xs, e, _⟩ := m; rw [e]; exact ⟨by simp, by simp⟩
  | nst P w xs => obtain ⟨ys, ⟨e, _⟩, _⟩ := m; rw [e]; exact ⟨by simp, fun xs z => by cases z⟩
abbrev Rg : Type := Addr → Option Mo
def RJ (s : Rg) (H : Hp) : Prop := ∀ a o, s a = some o → o.flt = true ∧ MoR (fun x => s x ≠ none) H a o
theorem RJ.ct {s : Rg} {H : Hp} {a : Addr} {xs : List V} (j : RJ s H) (c : s a ≠ none) : H a ≠ some (.tup xs) := by
  cases e : s a with
  | none => exact absurd e c
  | some o => exact (j a o e).2.there.2 xs
def RW : Wd Rg where
  C s a := s a ≠ none
  J := RJ
  tr := fun s H a j c => by
    cases e : s a with
    | none => exact absurd e c
    | some o => exact (j a o e).2.there.1
  st := fun s H H' j h ht a o e => ⟨(j a o e).1, (j a o e).2.fl (fun t xs q => ⟨ht t xs q, fun c => j.ct c q⟩) (h a (by rw [e]; simp)) (j a o e).1⟩
  ct := fun s H a xs j c => j.ct c
def rup (s : Rg) (a : Addr) (o : Mo) : Rg := fun x => if x = a then some o else s x
@[simp] theorem rup_same {s : Rg} {a : Addr} {o : Mo} : rup s a o a = some o := by unfold rup; rw [if_pos rfl]
theorem rup_ne {s : Rg} {a b : Addr} {o : Mo} (h : b ≠ a) : rup s a o b = s b := by unfold rup; rw [if_neg h]
section
variable {s : Rg} {H : Hp} {R : Addr → Prop}
/-- out of the world into the data -/
theorem RW.out (t : At RW R s H) {B : Addr → Prop} {v : V} {d : D} (h : Da B H v d) (f : d.flt = true) : Da (Bf RW R s) H v d := h.fl (fun _ _ e => ⟨e, t.tup e⟩) f
theorem rg_write {a : Addr} {o0 o : Mo} {u : HO} (j : RW.J s H) (e : s a = some o0) (f : o.flt = true) (m : MoR (fun x => s x ≠ none) (upd H a u) a o) : Fr RW s H (rup s a o) (upd H a u) ∧ RW.J (rup s a o) (upd H a u) := by
  have same : ∀ x, rup s a o x ≠ none ↔ s x ≠ none := fun x => by
    by_cases q : x = a
    · subst q
      rw [rup_same, e]
      simp
    · rw [rup_ne q]
  refine ⟨⟨fun b w q n => ?_, fun x c => (same x).mpr c, fun x c => .inl ((same x).mp c)⟩, fun b p q => ?_⟩
  · rw [upd_ne fun z => n (by rw [z]; show s a ≠ none; rw [e]; simp)]
    exact q
  · by_cases z : b = a
    · subst z
      rw [rup_same] at q
      cases q
      exact ⟨f, m.fl (fun t xs h => ⟨h, fun c => by
        have c := (same t).mp c
        by_cases z : t = b
        · rw [z] at h
          exact m.there.2 xs h
        · rw [upd_ne z] at h
          exact RJ.ct j c h⟩) rfl f⟩
    · rw [rup_ne z] at q
      obtain ⟨q1, q2⟩ := j b p q
      exact ⟨q1, q2.fl (fun t xs h => ⟨by rw [upd_ne fun z => RJ.ct j (by rw [e]; simp) (z ▸ h)]; exact h, fun c => RJ.ct j ((same t).mp c) h⟩) (upd_ne z) q1⟩
theorem rg_new {a : Addr} {o : Mo} {u : HO} (j : RW.J s H) (e : H a = none) (f : o.flt = true) (m : MoR (fun x => s x ≠ none) (upd H a u) a o) : Fr RW s H (rup s a o) (upd H a u) ∧ RW.J (rup s a o) (upd H a u) := by
  have ns : s a = none := by
    cases q : s a with
    | none => rfl
    | some p => exact absurd e (j a p q).2.there.1
  have same : ∀ x, rup s a o x ≠ none ↔ s x ≠ none ∨ x = a := fun x => by
    by_cases q : x = a
    · subst q
      simp
    · rw [rup_ne q]
      simp [q]
  have tn : ∀ t xs, H t = some (.tup xs) → t ≠ a := fun t xs h z => by rw [z, e] at h; cases h
  refine ⟨⟨fun b w q n => ?_, fun x c => (same x).mpr (.inl c), fun x c => ((same x).mp c).imp id fun z => by rw [z]; exact e⟩, fun b p q => ?_⟩
  · rw [upd_ne (ne_of_none q e)]
    exact q
  · by_cases z : b = a
    · subst z
      rw [rup_same] at q
      cases q
      exact ⟨f, m.fl (fun t xs h => ⟨h, fun c => by
        rcases (same t).mp c with c | z
        · by_cases z : t = b
          · rw [z] at h
            exact m.there.2 xs h
          · rw [upd_ne z] at h
            exact RJ.ct j c h
        · rw [z] at h
          exact m.there.2 xs h⟩) rfl f⟩
    · rw [rup_ne z] at q
      obtain ⟨q1, q2⟩ := j b p q
      exact ⟨q1, q2.fl (fun t xs h => ⟨by rw [upd_ne (tn t xs h)]; exact h, fun c => by
        rcases (same t).mp c with c | z
        · exact RJ.ct j c h
        · exact tn t xs h z⟩) (upd_ne z) q1⟩
end
end Dw
set_option Elab.async false
set_option linter.all false
set_option maxRecDepth 100000
set_option maxHeartbeats 4000000
/-! Rh: the words of the registry: lists. -/
namespace Dw
open PySem PySem.Spec PyProof.Rows L2
@[simp] def wIxM : D → D → Rg → (D → Rg → Prop) → Prop := fun d e s k => match d with
  | .opq a => (match s a with
    | some (.lst ds) => (match e with
      | .int i => (match atI ds i with
        | some x => k x s
        | none => False)
      | _ => False)
    | _ => False)
  | d => wIx d e s k
@[simp] def wLenM : List D → Rg → (D → Rg → Prop) → Prop := fun ds s k => match ds with
  | [.opq a] => (match s a with
    | some (.lst xs) => k (.int xs.length) s
    | _ => False)
  | ds => wLen ds s k
/-- a registered list's item set; an own list's -/
@[simp] def wSetM (i : Nat) (wv wk : WE Rg) : WS Rg := fun KK env s => match sg env i with
  | .dat (.opq a) => wv env s (fun v t => wk env t (fun k u => match k with
    | .int z => v.flt = true ∧ (match u a with
      | some (.lst ds) => (match ixN ds.length z with
        | some j => KK.nx env (rup u a (.lst (ds.set j v)))
        | none => False)
      | _ => False)
    | _ => False) KK.xc) KK.xc
  | _ => wSetL i wv wk KK env s
@[simp] def wAppM (wo we : WE Rg) : WS Rg := fun KK env s => wo env s (fun d s1 => match d with
  | .opq a => (∃ ds, s1 a = some (.lst ds)) ∧ we env s1 (fun v u => v.flt = true ∧ (match u a with
    | some (.lst ds) => ds.length < sizeLine ∧ KK.nx env (rup u a (.lst (ds ++ [v])))
    | _ => False)) KK.xc
  | _ => False) KK.xc
theorem flts_at {ds : List D} {i : Int} {d : D} (f : D.flts ds = true) (q : atI ds i = some d) : d.flt = true := by
  unfold atI at q
  cases qi : ixN ds.length i with
  | none => rw [qi] at q; cases q
  | some j =>
    rw [qi] at q
    exact flts_mem f (List.mem_of_getElem? q)
theorem flts_set {ds : List D} {j : Nat} {d : D} (f : D.flts ds = true) (h : d.flt = true) : D.flts (ds.set j d) = true := flts_of fun e he => by
  rcases List.mem_or_eq_of_mem_set he with he | rfl
  · exact flts_mem f he
  · exact h
theorem flts_app {ds es : List D} (f : D.flts ds = true) (h : D.flts es = true) : D.flts (ds ++ es) = true := flts_of fun e he => by
  rcases List.mem_append.mp he with he | he
  · exact flts_mem f he
  · exact flts_mem h he
section
variable {G : Gm Rg} {K : PySem.W.Frag}
/-- into the world -/
theorem RW.into {s : Rg} {H : Hp} {R : Addr → Prop} (t : At RW R s H) {v : V} {d : D} (h : Da (Bf RW R s) H v d) (f : d.flt = true) : Da (fun x => s x ≠ none) H v d := h.fl (fun _ _ e => ⟨e, fun c => RJ.ct t.j c e⟩) f
theorem so_ixM : SimO RW (rIx K) wIxM := fun R s H at_ x y d e a b k hw Q hQ => by
  cases d with
  | opq c =>
    unfold wIxM at hw
    dsimp only at hw
    cases a with
    | da a =>
    cases a
    cases q : s c with
    | none => rw [q] at hw; exact hw.elim
    | some o =>
      rw [q] at hw
      cases o with
      | lst ds =>
        cases e with
        | int i =>
          dsimp only at hw
          cases q2 : atI ds i with
          | none => rw [q2] at hw; exact hw.elim
          | some z =>
            rw [q2] at hw
            obtain ⟨f, xs, e1, l, _⟩ := at_.j c _ q
            obtain ⟨v, hv, dv⟩ := l.atI q2
            exact .inl ⟨c, xs, i, v, rfl, b.intI, .of e1, hv, hQ _ _ H hw .refl at_.j (RW.out at_ dv (flts_at f q2))⟩
        | _ => exact hw.elim
      | _ => exact hw.elim
  | _ => exact so_ix R s H at_ x y _ _ a b k hw Q hQ
theorem sc_lenM : SimC RW (Rd.rLen K) wLenM := fun R s H at_ xs ds a k hw Q hQ => by
  match ds, a, hw with
  | [.opq c], a, hw =>
    obtain ⟨v, rfl, a1⟩ := a.one
    unfold wLenM at hw
    dsimp only at hw
    cases a1 with
    | da a2 =>
      cases a2
      cases q : s c with
      | none => rw [q] at hw; exact hw.elim
      | some o =>
        rw [q] at hw
        cases o with
        | lst ds =>
          obtain ⟨f, ys, e1, l, _⟩ := at_.j c _ q
          exact .inl ⟨c, ys, rfl, .inl (.of e1), hQ _ _ H (by rw [l.len]; exact hw) .refl at_.j (.int _)⟩
        | _ => exact hw.elim
  | [.lst _], a, hw => exact sc_len R s H at_ xs _ a k hw Q hQ
  | [.tup _], a, hw => exact sc_len R s H at_ xs _ a k hw Q hQ
  | [.str _], a, hw => exact sc_len R s H at_ xs _ a k hw Q hQ
theorem ss_setM {i : Nat} {tv tk : TE} {wv wk : WE Rg} (hv : SimE RW G tv wv) (hk : SimG RW G tk wk) : SimS RW G (tAsg tv (gSub (tVar i) tk rSetL)) (wSetM i wv wk) := fun R env σ H s rl KK hw Dn e => by
  cases q : sg env i with
  | dat d =>
    cases d with
    | opq a =>
      unfold wSetM at hw
      rw [q] at hw
      refine hv R env σ H s rl _ KK.xc hw e.xc _ fun d s1 v H1 hw1 f1 j1 a1 => ?_
      have rl1 := rl.step f1 j1
      obtain ⟨u, h1, h2⟩ := rl1.env.dat i _ q
      cases h2
      refine ⟨_, h1, hk R env σ H1 s1 rl1 _ KK.xc hw1 e.xc _ fun d2 s2 v2 H2 hw2 f2 j2 a2 => ?_⟩
      have rl2 := rl1.step f2 j2
      cases d2 with
      | int zi =>
        obtain ⟨fl, hw2⟩ := hw2
        cases qs : s2 a with
        | none => rw [qs] at hw2; exact hw2.elim
        | some o =>
          rw [qs] at hw2
          cases o with
          | lst ds =>
            dsimp only at hw2
            cases qi : ixN ds.length zi with
            | none => rw [qi] at hw2; exact hw2.elim
            | some jj =>
              rw [qi] at hw2
              obtain ⟨f, xs, e1, l, z⟩ := j2 a _ qs
              have into := RW.into rl2.at_ (a1.mv f2.mv) fl
              have keep : ∀ t ys, H2 t = some (.tup ys) → upd H2 a (.lst (xs.set jj v)) t = some (.tup ys) ∧ ¬ (s2 t ≠ none) := fun t ys et => ⟨by rw [upd_ne fun zz => by rw [zz, e1] at et; cases et]; exact et, fun c => RJ.ct j2 c et⟩
              obtain ⟨p2, p3⟩ := rg_write (o := .lst (ds.set jj d)) (u := .lst (xs.set jj v)) j2 qs (flts_set f fl) ⟨_, upd_same, (l.setAt jj into).fl keep (flts_set f fl), by rw [List.length_set]; exact z⟩
              refine ⟨a, xs, zi, jj, rfl, a2.intI, e1, by rw [l.len]; exact qi, ?_⟩
              exact e.nx R env σ _ _ hw2 (rl2.step p2 p3) ((f1.trans f2).trans p2).mv
          | _ => exact hw2.elim
      | _ => exact hw2.elim
    | _ => unfold wSetM at hw; rw [q] at hw; exact ss_setL hv hk R env σ H s rl KK hw Dn e
  | _ => unfold wSetM at hw; rw [q] at hw; exact ss_setL hv hk R env σ H s rl KK hw Dn e
theorem ss_appM {to te : TE} {wo we : WE Rg} (ho : SimE RW G to wo) (he : SimE RW G te we) : SimS RW G (tDrop (tBM K "list" rAppend to (tCons te tNil))) (wAppM wo we) := fun R env σ H s rl KK hw Dn e => by
  refine ho R env σ H s rl _ KK.xc hw e.xc _ fun d s1 v H1 hw1 f1 j1 a1 => ?_
  have rl1 := rl.step f1 j1
  cases d with
  | opq a =>
    cases a1
    obtain ⟨⟨ds, qs⟩, hw1⟩ := hw1
    obtain ⟨_, xs, e1, l, _⟩ := j1 a _ qs
    refine ⟨.inl ⟨rfl, xs, .of e1⟩, he R env σ H1 s1 rl1 _ KK.xc hw1 e.xc _ fun d2 s2 v2 H2 hw2 f2 j2 a2 => ?_⟩
    have rl2 := rl1.step f2 j2
    obtain ⟨fl, hw2⟩ := hw2
    cases q2 : s2 a with
    | none => rw [q2] at hw2; exact hw2.elim
    | some o =>
      rw [q2] at hw2
      cases o with
      | lst ds =>
        obtain ⟨hz, hw2⟩ := hw2
        obtain ⟨f, xs, e1, l, z⟩ := j2 a _ q2
        have into := RW.into rl2.at_ a2 fl
        have keep : ∀ t ys, H2 t = some (.tup ys) → upd H2 a (.lst (xs ++ [v2])) t = some (.tup ys) ∧ ¬ (s2 t ≠ none) := fun t ys et => ⟨by rw [upd_ne fun zz => by rw [zz, e1] at et; cases et]; exact et, fun c => RJ.ct j2 c et⟩
        have ff : D.flts (ds ++ [d2]) = true := flts_app f (by simp [D.flts, fl])
        obtain ⟨p2, p3⟩ := rg_write (o := .lst (ds ++ [d2])) (u := .lst (xs ++ [v2])) j2 q2 ff ⟨_, upd_same, (l.app (.cons into .nil)).fl keep ff, by rw [List.length_append]; simp; omega⟩
        exact ⟨a, xs, v2, rfl, rfl, e1, by rw [l.len]; exact hz, e.nx R env σ _ _ hw2 (rl2.step p2 p3) ((f1.trans f2).trans p2).mv⟩
      | _ => exact hw2.elim
  | _ => exact hw1.elim
end
end Dw
set_option Elab.async false
set_option linter.all false
set_option maxRecDepth 100000
/-! Cu: words cut at an invariant; small lists by index; what the registry holds behind a write. -/
namespace Dw
open PySem PySem.Spec PyProof.Rows L2
theorem cut {S : Type} {A R : WS S} {KK : WEnds S} {env : List Sl} {s : S} (I : List Sl → S → Prop) (h : ∀ r : WEnds S, (∀ e t, I e t → r.nx e t) → r.rt = KK.rt → r.xc = KK.xc → A r env s) (h2 : ∀ e t, I e t → R KK e t) : wSeq A R KK env s := h { KK with nx := R KK } h2 rfl rfl
theorem last {S : Type} {A : WS S} {KK : WEnds S} {env : List Sl} {s : S} (I : List Sl → S → Prop) (h : ∀ r : WEnds S, (∀ e t, I e t → r.nx e t) → r.rt = KK.rt → r.xc = KK.xc → A r env s) (h2 : ∀ e t, I e t → KK.nx e t) : A KK env s := h KK h2 rfl rfl
theorem ite_t {p a b : Prop} [Decidable p] (h : p) (x : a) : if p then a else b := by rw [if_pos h]; exact x
theorem ite_f {p a b : Prop} [Decidable p] (h : ¬ p) (x : b) : if p then a else b := by rw [if_neg h]; exact x
theorem iteP {c p q : Prop} [Decidable c] (h1 : c → p) (h2 : ¬ c → q) : if c then p else q := by
  by_cases h : c
  · rw [if_pos h]; exact h1 h
  · rw [if_neg h]; exact h2 h
section
variable {α : Type} {a b c d e : α} {r : List α}
theorem at0 : atI (a :: r) 0 = some a := atI_nat (j := 0) rfl
theorem at1 : atI (a :: b :: r) 1 = some b := atI_nat (j := 1) rfl
theorem at2 : atI (a :: b :: c :: r) 2 = some c := atI_nat (j := 2) rfl
theorem at3 : atI (a :: b :: c :: d :: r) 3 = some d := atI_nat (j := 3) rfl
theorem at4 : atI (a :: b :: c :: d :: e :: r) 4 = some e := atI_nat (j := 4) rfl
end
theorem ix51 : ixN 5 1 = some 1 := rfl
theorem ix52 : ixN 5 2 = some 2 := rfl
theorem ix53 : ixN 5 3 = some 3 := rfl
theorem ix54 : ixN 5 4 = some 4 := rfl
@[simp] theorem flt_int (i : Int) : (D.int i).flt = true := rfl
@[simp] theorem flt_bl (i : Bool) : (D.bl i).flt = true := rfl
@[simp] theorem flt_str (i : Str) : (D.str i).flt = true := rfl
@[simp] theorem flt_non : D.non.flt = true := rfl
@[simp] theorem flt_opq (a : Addr) : (D.opq a).flt = true := rfl
@[simp] theorem flt_tup (ds : List D) : (D.tup ds).flt = D.flts ds := rfl
@[simp] theorem flts_nil : D.flts [] = true := rfl
@[simp] theorem flts_cons (d : D) (r : List D) : D.flts (d :: r) = (d.flt && D.flts r) := rfl
@[simp] theorem rup2 {s : Rg} {a : Addr} {o u : Mo} : rup (rup s a o) a u = rup s a u := by
  funext x
  unfold rup
  split <;> rfl
end Dw
set_option Elab.async false
set_option linter.all false
set_option maxRecDepth 100000
set_option maxHeartbeats 4000000
/-! Bm: o.m(e, ..); fields and methods of instances of the registry. -/
namespace Gl
open PySem PySem.Spec PyProof.Rows L2
def tMtA (C : Addr) (m : Str) (sp : Sp) (E : L2.St → XK) (ta : TE) (t : TA) : TE := fun σ H Q => ta σ H fun x H1 => ∃ a dx fs, x = .ref a ∧ H1 a = some (.ins C dx fs) ∧ fs.lookup m = none ∧ t σ H1 fun vs H2 => sp (x :: vs) H2 Q (E σ)
section
variable {X : Cx} {k j : Nat} {C : Addr} {sp : Sp} {E : L2.St → XK} {m : Str} {pos apos : Pos} {o e : Expr} {es : List Expr} {ta : TE} {t : TA}
theorem pe_mtA {pl : Sem Bool} (M : Cf X.prog X.w X.K X.mg X.base k C m sp) (hr : Room j X.A) (hk : k ≤ j) (hG : X.A.guards = some []) (hx : ∀ σ, PassesAt (L2.CX X.prog X.w) X σ (E σ)) (he : PE X o ta) (ha : PA X (e :: es) t)
    (hst : starEach (e :: es) X.env = (false, eval e X.env) :: starEach es X.env := by rfl) (hpl : (backTo pos (starEach es X.env)).any (·.1) = false := by rfl)
    (ht : eval (.Call (.Attribute o m apos) (e :: es) [] pos) X.env = (do
      let ov ← eval o X.env
      standAt apos.atName
      let (f, first) ← holding [ov] (getMethod ov m pl)
      callWith pos f first (backTo pos (starEach (e :: es) X.env)) (backToKw pos (keywordEach [] X.env))) := by rfl) : PE X (.Call (.Attribute o m apos) (e :: es) [] pos) (tMtA C m sp E ta t) := by
  obtain ⟨f, fd, ps, F, mt, b⟩ := M.ex
  refine ⟨fun pins s σ H Q I h => PySem.W.methodCall_KW (pl := pl) (thn (he.run pins s σ H _ I h) fun u s1 hh => ?_) ht⟩
  obtain ⟨x, H1, I1, rx, a, dx, fs, rfl, ea, l, q⟩ := hh
  obtain rfl : u = Value.ref a := rx
  refine getmeth_ok I1 ea M.cls mt l ?_
  refine PySem.W.callWith_K (first := [.ref a]) (h₀ := X.base) I1.mod.kin mt.kp (thn (ha.run pos pins s1 σ H1 _ I1 q) fun us s2 ⟨vs, H2, I2, r, q2⟩ => ⟨I2.kIn, ?_⟩) hst hpl
  exact run_df (us := .ref a :: us) (vs := .ref a :: vs) F (hr.mono hk) hG b (hx σ) I2 (.cons (show RelV (.ref a) (.ref a) from rfl) r) q2
end
end Gl
namespace Dw
open PySem PySem.Spec PyProof.Rows L2
/-- o.f, o of the registry or plain -/
@[simp] def wFldM (f : Str) (Cl : Addr → Prop) (w : WE Rg) : WE Rg := fun env s k x => w env s (fun d s1 => match d with
  | .opq a => (match s1 a with
    | some (.ins C _ fs) => Cl C ∧ (match fs.lookup f with
      | some e => k e s1
      | none => False)
    | _ => False)
  | .obj C fs => Cl C ∧ (match fs.lookup f with
    | some e => k e s1
    | none => False)
  | _ => False) x
@[simp] def wMtM (C : Addr) (m : Str) (wf : List D → Rg → (D → Rg → Prop) → (Xc → Rg → Prop) → Prop) (we : WE Rg) (wa : WA Rg) : WE Rg := fun env s k x => we env s (fun d s1 => match d with
  | .opq a => (match s1 a with
    | some (.ins C' _ fs) => C' = C ∧ fs.lookup m = none ∧ wa env s1 (fun ds s2 => wf (.opq a :: ds) s2 k fun _ _ => False) x
    | _ => False)
  | _ => False) x
@[simp] def wMtM0 (C : Addr) (m : Str) (wf : List D → Rg → (D → Rg → Prop) → (Xc → Rg → Prop) → Prop) (we : WE Rg) : WE Rg := fun env s k x => we env s (fun d s1 => match d with
  | .opq a => (match s1 a with
    | some (.ins C' _ fs) => C' = C ∧ fs.lookup m = none ∧ wf [.opq a] s1 k fun _ _ => False
    | _ => False)
  | _ => False) x
theorem flts_look {fs : List (Str × D)} {f : Str} {d : D} (h : D.flts (fs.map (·.2)) = true) (q : fs.lookup f = some d) : d.flt = true := by
  induction fs with
  | nil => cases q
  | cons p r ih =>
    simp only [List.map_cons, D.flts, Bool.and_eq_true] at h
    by_cases e : (f == p.1) = true
    · rw [show List.lookup f (p :: r) = some p.2 from by cases p; rw [List.lookup_cons, e]] at q
      cases q
      exact h.1
    · rw [show List.lookup f (p :: r) = r.lookup f from by cases p; rw [List.lookup_cons, Bool.eq_false_iff.mpr e]] at q
      exact ih h.2 q
theorem DaF.none {B : Addr → Prop} {H : Hp} : ∀ {vs : List (Str × V)} {ds : List (Str × D)} {f : Str}, DaF B H vs ds → ds.lookup f = Option.none → vs.lookup f = Option.none
  | _, _, f, .nil, _ => rfl
  | _, _, f, .cons (k := k) h t, e => by
    by_cases q : (f == k) = true
    · rw [List.lookup_cons, q] at e
      cases e
    · rw [List.lookup_cons, Bool.eq_false_iff.mpr q] at e ⊢
      exact t.none e
section
variable {G : Gm Rg} {K : PySem.W.Frag}
theorem sim_fldM {f : Str} {Cl : Addr → Prop} (hC : ∀ C, Cl C → Cls K C ∧ NoAttr K C f) {te : TE} {we : WE Rg} (he : SimE RW G te we) : SimE RW G (tFld K te f) (wFldM f Cl we) := fun R env σ H s rl k x hw ox Q hQ => he R env σ H s rl _ x hw ox _ fun d s1 v H1 hw1 f1 j1 a1 => by
  cases d with
  | obj C fs =>
    obtain ⟨h1, h2⟩ := hw1
    cases q : fs.lookup f with
    | none => rw [q] at h2; exact h2.elim
    | some e =>
      rw [q] at h2
      cases a1 with
      | obj e1 n l =>
        obtain ⟨u, hu, da⟩ := l.look q
        exact ⟨_, C, _, _, u, rfl, e1, (hC C h1).1, (hC C h1).2, hu, hQ _ s1 _ H1 h2 f1 j1 da⟩
  | opq a =>
    cases a1
    dsimp only at hw1
    cases qs : s1 a with
    | none => rw [qs] at hw1; exact hw1.elim
    | some o =>
      rw [qs] at hw1
      cases o with
      | ins C dx fs =>
        obtain ⟨h1, h2⟩ := hw1
        cases q : fs.lookup f with
        | none => rw [q] at h2; exact h2.elim
        | some e =>
          rw [q] at h2
          obtain ⟨fl, xs, e1, l⟩ := j1 a _ qs
          obtain ⟨u, hu, da⟩ := l.look q
          exact ⟨_, C, _, _, u, rfl, e1, (hC C h1).1, (hC C h1).2, hu, hQ _ s1 _ H1 h2 f1 j1 (RW.out (rl.step f1 j1).at_ da (flts_look fl q))⟩
      | _ => exact hw1.elim
  | _ => exact hw1.elim
theorem sim_fldMT {f : Str} {C : Addr} (c : Cls K C) (n : NoAttr K C f) {te : TE} {we : WE Rg} (he : SimE RW G te we) : SimE RW G (tFld K te f) (wFldM f (· = C) we) := sim_fldM (Cl := (· = C)) (fun _ h => h ▸ ⟨c, n⟩) he
theorem sim_mtM {C : Addr} {m : Str} {wf : List D → Rg → (D → Rg → Prop) → (Xc → Rg → Prop) → Prop} {te : TE} {t : TA} {we : WE Rg} {wa : WA Rg} {E : L2.St → XK} (he : SimE RW G te we) (ha : SimA RW G t wa) : SimE RW G (Gl.tMtA C m (spX RW wf) E te t) (wMtM C m wf we wa) :=
  fun R env σ H s rl k x hw ox Q hQ => he R env σ H s rl _ x hw ox _ fun d s1 v H1 hw1 f1 j1 a1 => by
    cases d with
    | opq a =>
      cases a1
      dsimp only at hw1
      cases qs : s1 a with
      | none => rw [qs] at hw1; exact hw1.elim
      | some o =>
        rw [qs] at hw1
        cases o with
        | ins C' dx fs =>
          obtain ⟨rfl, hl, hw1⟩ := hw1
          obtain ⟨fl, xs, e1, l⟩ := j1 a _ qs
          have rl1 := rl.step f1 j1
          refine ⟨a, dx, xs, rfl, e1, l.none hl, ha R env σ H1 s1 rl1 _ x hw1 ox _ fun ds s2 vs H2 hw2 f2 j2 a2 => ?_⟩
          have at2 := (rl1.step f2 j2).at_
          exact ⟨R, .opq a :: ds, s2, k, fun _ _ => False, at2, .cons (.opq a) a2, hw2, fun d s' v H' hk f j da => hQ d s' v H' hk ((f1.trans f2).trans f) j da, fun c s' cls d H' h => h.elim⟩
        | _ => exact hw1.elim
    | _ => exact hw1.elim
theorem sim_mtM0 {C : Addr} {m : Str} {wf : List D → Rg → (D → Rg → Prop) → (Xc → Rg → Prop) → Prop} {te : TE} {we : WE Rg} {E : L2.St → XK} (he : SimE RW G te we) : SimE RW G (Gl.tMt0 C m (spX RW wf) E te) (wMtM0 C m wf we) :=
  fun R env σ H s rl k x hw ox Q hQ => he R env σ H s rl _ x hw ox _ fun d s1 v H1 hw1 f1 j1 a1 => by
    cases d with
    | opq a =>
      cases a1
      dsimp only at hw1
      cases qs : s1 a with
      | none => rw [qs] at hw1; exact hw1.elim
      | some o =>
        rw [qs] at hw1
        cases o with
        | ins C' dx fs =>
          obtain ⟨rfl, hl, hw1⟩ := hw1
          obtain ⟨fl, xs, e1, l⟩ := j1 a _ qs
          have rl1 := rl.step f1 j1
          exact ⟨a, dx, xs, rfl, e1, l.none hl, R, [.opq a], s1, k, fun _ _ => False, rl1.at_, .cons (.opq a) .nil, hw1, fun d s' v H' hk f j da => hQ d s' v H' hk (f1.trans f) j da, fun c s' cls d H' h => h.elim⟩
        | _ => exact hw1.elim
    | _ => exact hw1.elim
end
end Dw
set_option Elab.async false
set_option linter.all false
set_option maxRecDepth 100000
set_option maxHeartbeats 4000000
/-! Nr: dicts with nested tuples for keys, of the registry; fields of its instances set; new things put into it. -/
namespace Dw
open PySem PySem.Spec PyProof.Rows L2
mutual
def D.nk : D → Option NestedKey
  | .int i => some (.num i)
  | .str x => some (.text x)
  | .tup ds => (D.nks ds).map .tup
  | _ => none
def D.nks : List D → Option (List NestedKey)
  | [] => some []
  | d :: r => match d.nk, D.nks r with
    | some k, some ks => some (k :: ks)
    | _, _ => none
end
mutual
theorem Da.nk {B : Addr → Prop} {H : Hp} : ∀ {v : V} {d : D} {k : NestedKey}, Da B H v d → d.nk = some k → KeyV H k v
  | _, _, _, .int i, e => by cases e; exact .int i
  | _, _, _, .str _, e => by cases e; exact .str _
  | _, _, _, .tup (ds := ds) h _ l _, e => by
    simp only [D.nk, Option.map_eq_some_iff] at e
    obtain ⟨ks, e1, rfl⟩ := e
    exact .tup h (l.nks e1)
  | _, _, _, .non, e => by cases e
  | _, _, _, .bl _, e => by cases e
  | _, _, _, .lst _ _ _ _, e => by cases e
  | _, _, _, .dic _ _ _, e => by cases e
  | _, _, _, .dit _ _ _, e => by cases e
  | _, _, _, .obj _ _ _, e => by cases e
  | _, _, _, .opq _, e => by cases e
  | _, _, _, .ty _, e => by cases e
theorem DaL.nks {B : Addr → Prop} {H : Hp} : ∀ {vs : List V} {ds : List D} {ks : List NestedKey}, DaL B H vs ds → D.nks ds = some ks → KeyVs H ks vs
  | _, _, _, .nil, e => by cases e; exact .nil
  | _, _, _, .cons (d := d) (ds := ds) h t, e => by
    unfold D.nks at e
    cases q1 : d.nk with
    | none => rw [q1] at e; cases e
    | some k =>
      cases q2 : D.nks ds with
      | none => rw [q1, q2] at e; cases e
      | some ks =>
        rw [q1, q2] at e
        cases e
        exact .cons (h.nk q1) (t.nks q2)
end
def atNI (xs : List (NestedKey × Int)) (k : NestedKey) : Option Int := (xs.find? fun x => decide (x.1 = k)).map (·.2)
theorem atN_I {k : NestedKey} : ∀ {ys : List (NestedKey × Addr × V)} {xs : List (NestedKey × Int)}, ys.map (fun y => (y.1, y.2.2)) = xs.map (fun x => (x.1, V.int x.2)) → atN ys k = (atNI xs k).map V.int
  | [], [], _ => rfl
  | y :: ys, x :: xs, e => by
    rw [List.map_cons, List.map_cons] at e
    obtain ⟨e1, e2⟩ := List.cons.inj e
    have ih := atN_I (k := k) e2
    obtain ⟨h1, h2⟩ := Prod.mk.inj e1
    by_cases q : x.1 = k
    · simp [atN, atNI, List.find?_cons, q, h1, h2]
    · simpa [atN, atNI, List.find?_cons, q, h1] using ih
  | [], _ :: _, e => by simp at e
  | _ :: _, [], e => by simp at e
@[simp] def wNNotIn (P : Program) (w : World) (wk wd : WE Rg) : WE Rg := fun env s k x => wk env s (fun e s1 => wd env s1 (fun d s2 => match d with
  | .opq a => ∃ xs ds key, s2 a = some (.nst P w xs) ∧ e = .tup ds ∧ e.nk = some key ∧ key.depth ≤ 8 ∧ k (.bl (!(atNI xs key).isSome)) s2
  | _ => False) x) x
@[simp] def wNGet (P : Program) (w : World) (wd wk : WE Rg) : WE Rg := fun env s k x => wd env s (fun d s1 => wk env s1 (fun e s2 => match d with
  | .opq a => ∃ xs ds key n, s2 a = some (.nst P w xs) ∧ e = .tup ds ∧ e.nk = some key ∧ key.depth ≤ 8 ∧ atNI xs key = some n ∧ k (.int n) s2
  | _ => False) x) x
@[simp] def wNPut (P : Program) (w : World) (wv wd wk : WE Rg) : WS Rg := fun KK env s => wv env s (fun v s0 => wd env s0 (fun d s1 => wk env s1 (fun e s2 => match d, v with
  | .opq a, .int n => ∃ xs ds key, s2 a = some (.nst P w xs) ∧ e = .tup ds ∧ e.nk = some key ∧ key.depth ≤ 8 ∧ atNI xs key = none ∧ xs.length < sizeLine ∧ KK.nx env (rup s2 a (.nst P w (xs ++ [(key, n)])))
  | _, _ => False) KK.xc) KK.xc) KK.xc
section
variable {G : Gm Rg} {K : PySem.W.Frag} {P : Program} {w : World}
theorem sim_nnotin {td tk : TE} {wd wk : WE Rg} (hk : SimE RW G tk wk) (hd : SimE RW G td wd) : SimE RW G (tNNotIn P w tk td) (wNNotIn P w wk wd) := fun R env σ H s rl k x hw ox Q hQ =>
  hk R env σ H s rl _ x hw ox _ fun e s1 u H1 hw1 f1 j1 a1 => hd R env σ H1 s1 (rl.step f1 j1) _ x hw1 ox _ fun d s2 v H2 hw2 f2 j2 a2 => by
    cases d with
    | opq a =>
      cases a2
      obtain ⟨xs, ds, key, q, rfl, nk, kd, hw3⟩ := hw2
      have a3 := a1.mv f2.mv
      have kv := a3.nk nk
      cases a3 with
      | @tup b _ _ e n l z =>
        obtain ⟨_, ys, nd, ey⟩ := j2 a _ q
        refine ⟨a, b, ys, key, rfl, rfl, nd, kv, kd, ?_⟩
        rw [atN_I ey, Option.isSome_map]
        exact hQ _ s2 _ H2 hw3 (f1.trans f2) j2 (.bl _)
    | _ => exact hw2.elim
theorem sim_nget {td tk : TE} {wd wk : WE Rg} (hd : SimE RW G td wd) (hk : SimE RW G tk wk) : SimE RW G (tNGet P w td tk) (wNGet P w wd wk) := fun R env σ H s rl k x hw ox Q hQ =>
  hd R env σ H s rl _ x hw ox _ fun d s1 v H1 hw1 f1 j1 a1 => hk R env σ H1 s1 (rl.step f1 j1) _ x hw1 ox _ fun e s2 u H2 hw2 f2 j2 a2 => by
    cases d with
    | opq a =>
      cases a1
      obtain ⟨xs, ds, key, n, q, rfl, nk, kd, hn, hw3⟩ := hw2
      have kv := a2.nk nk
      cases a2 with
      | @tup b _ _ e n2 l z =>
        obtain ⟨_, ys, nd, ey⟩ := j2 a _ q
        refine ⟨a, b, ys, key, .int n, rfl, rfl, nd, kv, kd, ?_, hQ _ s2 _ H2 hw3 (f1.trans f2) j2 (.int _)⟩
        rw [atN_I ey, hn]
        rfl
    | _ => exact hw2.elim
theorem ss_nput {tv td tk : TE} {wv wd wk : WE Rg} (hv : SimE RW G tv wv) (hd : SimE RW G td wd) (hk : SimE RW G tk wk) : SimS RW G (tAsg tv (gSub td tk (rSetN P w))) (wNPut P w wv wd wk) := fun R env σ H s rl KK hw Dn e =>
  hv R env σ H s rl _ KK.xc hw e.xc _ fun v s0 y H0 hw0 f0 j0 a0 => hd R env σ H0 s0 (rl.step f0 j0) _ KK.xc hw0 e.xc _ fun d s1 z H1 hw1 f1 j1 a1 => hk R env σ H1 s1 ((rl.step f0 j0).step f1 j1) _ KK.xc hw1 e.xc _ fun kd0 s2 u H2 hw2 f2 j2 a2 => by
    cases d with
    | opq a =>
      cases v with
      | int n =>
        cases a1
        have hy : y = V.int n := by cases a0; rfl
        obtain ⟨xs, ds, key, q, rfl, nk, kd, hn, hl, hw3⟩ := hw2
        have kv := a2.nk nk
        have rl2 := ((rl.step f0 j0).step f1 j1).step f2 j2
        cases a2 with
        | @tup b _ _ e2 n2 l z =>
          obtain ⟨_, ys, nd, ey⟩ := j2 a _ q
          have ly : ys.length = xs.length := by
            have := congrArg List.length ey
            simpa using this
          have keep : ∀ t zs, H2 t = some (.tup zs) → upd H2 a (NDO P w a (ys ++ [(key, b, y)])) t = some (.tup zs) := fun t zs et => by
            rw [upd_ne fun zz => RJ.ct j2 (by rw [q]; simp) (zz ▸ et)]
            exact et
          obtain ⟨p2, p3⟩ := rg_write (o := .nst P w (xs ++ [(key, n)])) (u := NDO P w a (ys ++ [(key, b, y)])) j2 q rfl ⟨ys ++ [(key, b, y)], ⟨upd_same, fun x hx => by
            rcases List.mem_append.mp hx with hx | hx
            · exact ⟨(nd.2 x hx).1.keeps keep, (nd.2 x hx).2⟩
            · rw [List.mem_singleton.mp hx]
              exact ⟨kv.keeps keep, kd⟩⟩, by rw [List.map_append, List.map_append, ey, hy]; rfl⟩
          exact ⟨a, b, ys, key, rfl, rfl, nd, kv, kd, by rw [atN_I ey, hn]; rfl, by omega, e.nx R env σ _ _ hw3 (rl2.step p2 p3) (((f0.trans f1).trans f2).trans p2).mv⟩
      | _ => exact hw2.elim
    | _ => exact hw2.elim
end
end Dw
set_option Elab.async false
set_option linter.all false
set_option maxRecDepth 100000
set_option maxHeartbeats 4000000
/-! Bk: a book (an instance with a list, a dict of nested tuples, a number) made. -/
namespace L2
open PySem PySem.Spec PyProof.Rows
def tDNewN (P : Program) (w : World) : TE := fun _ H Q => ∀ p, H p = none → Q (.ref p) (upd H p (NDO P w p []))
section
variable {X : Cx} {pos : Pos}
theorem pe_dnewN : PE X (.Dict [] [] pos) (tDNewN X.prog X.w) := ⟨fun pins s σ H Q I h =>
  wpAny_Dict_empty ⟨.ref s.heap.objs.size, _, I.laid (a := s.heap.objs.size) (o := NDO X.prog X.w s.heap.objs.size []) (t' := s.toks) (fun _ _ q => Heap.get?_push_of_some _ q) (Nat.le_refl _)
    (NDO_ok ⟨beq_eq_false_iff_ne.mpr (Ne.symm (Nat.ne_of_lt I.big)), Nat.zero_le _, [], .nil, _, #[], 0, Heap.get?_push_size _ rfl, ⟨rfl, rfl, rfl⟩, rfl, rfl, List.nodup_nil⟩), rfl, h _ (I.hok.fresh (Nat.le_refl _))⟩⟩
end
end L2
namespace Gl
open PySem PySem.Spec PyProof.Rows L2
section
variable {X : Cx} {k j : Nat} {C : Addr} {sp : Sp} {E : L2.St → XK} {x : Str} {p pos : Pos}
/-- C() -/
theorem pe_mkC0 (M : Cm X.prog X.w X.K X.mg X.base k x C sp) (hr : Room j X.A) (hk : k + 1 ≤ j) (hG : X.A.guards = some []) (hg : Gl X x) (hx : ∀ σ, PassesAt (L2.CX X.prog X.w) X σ (E σ)) (hdb : (x == ("__debug__" : Str)) = false := by decide) :
    PE X (.Call (.Name x p) [] [] pos) (tMk C sp E tNil) := by
  obtain ⟨f, fd, ps, m, F, b⟩ := M.ex
  refine ⟨fun pins s σ H Q I h => ?_⟩
  refine wpAny_Call_Name_kw (ld_glob I hg M.mgx (PySem.W.callWith_K0 I.kIn m.kp ?_) hdb)
  exact run_mk m F (hr.mono hk) hG b (hx σ) I .nil h
end
end Gl
namespace Dw
open PySem PySem.Spec PyProof.Rows L2
def bkFs (r p : Addr) (n : Int) : List (Str × D) := [("records", .opq r), ("places", .opq p), ("freshes", .int n)]
def bkVs (r p : Addr) (n : Int) : List (Str × V) := [("records", .ref r), ("places", .ref p), ("freshes", .int n)]
def spBk (P : Program) (w : World) (C : Addr) : Sp := fun vs H Q _ => ∃ (a dx : Addr), vs = [.ref a] ∧ H a = some (.ins C dx []) ∧ ∀ r p H', H r = none → H p = none → r ≠ p → H' a = some (.ins C dx (bkVs r p 0)) → H' r = some (.lst []) → H' p = some (NDO P w p []) →
  (∀ b o, b ≠ a → H b = some o → H' b = some o) → Q .non H'
@[simp] def wNewBk (P : Program) (w : World) (C : Addr) : WE Rg := fun env s k x => ∀ a dx r p, s a = none → s r = none → s p = none → a ≠ r → a ≠ p → r ≠ p → k (.opq a) (rup (rup (rup s r (.lst [])) p (.nst P w [])) a (.ins C dx (bkFs r p 0)))
theorem bkF {B : Addr → Prop} {H : Hp} (r p : Addr) (n : Int) : DaF B H (bkVs r p n) (bkFs r p n) := .cons (.opq r) (.cons (.opq p) (.cons (.int n) .nil))
section
variable {G : Gm Rg} {P : Program} {w : World}
theorem sim_newBk {C : Addr} {E : L2.St → XK} : SimE RW G (Gl.tMk C (spBk P w C) E tNil) (wNewBk P w C) := fun R env σ H s rl k x hw ox Q hQ => by
  have j := rl.at_.j
  refine fun a dx ha hdx hne => ⟨a, dx, rfl, upd_same, fun r p H' hr hp nrp e1 e2 e3 kp => ⟨rfl, ?_⟩⟩
  have sn : ∀ b, H b = none → s b = none := fun b hb => by
    cases q : s b with
    | none => rfl
    | some o => exact absurd hb (j b o q).2.there.1
  have z1 : ∀ b, upd (upd H dx (.own a)) a (.ins C dx []) b = none → b ≠ a ∧ b ≠ dx ∧ H b = none := fun b hb => by
    have n1 : b ≠ a := fun z => by rw [z, upd_same] at hb; cases hb
    rw [upd_ne n1] at hb
    have n2 : b ≠ dx := fun z => by rw [z, upd_same] at hb; cases hb
    rw [upd_ne n2] at hb
    exact ⟨n1, n2, hb⟩
  obtain ⟨ra, _, hr⟩ := z1 r hr
  obtain ⟨pa, _, hp⟩ := z1 p hp
  have keep : ∀ b o, H b = some o → H' b = some o := fun b o e => kp b o (ne_of_none e ha) (by rw [upd_ne (ne_of_none e ha), upd_ne (ne_of_none e hdx)]; exact e)
  have cs : ∀ b, rup (rup (rup s r (.lst [])) p (.nst P w [])) a (.ins C dx (bkFs r p 0)) b ≠ none ↔ s b ≠ none ∨ b = a ∨ b = r ∨ b = p := fun b => by
    by_cases q1 : b = a
    · subst q1; simp
    · rw [rup_ne q1]
      by_cases q2 : b = p
      · subst q2; simp
      · rw [rup_ne q2]
        by_cases q3 : b = r
        · subst q3; simp
        · rw [rup_ne q3]
          simp [q1, q2, q3]
  have tk : ∀ t xs, H t = some (.tup xs) → H' t = some (.tup xs) ∧ ¬ (rup (rup (rup s r (.lst [])) p (.nst P w [])) a (.ins C dx (bkFs r p 0)) t ≠ none) := fun t xs e => ⟨keep t _ e, fun c => by
    rcases (cs t).mp c with c | c | c | c
    · exact RJ.ct j c e
    · exact ne_of_none e ha c
    · exact ne_of_none e hr c
    · exact ne_of_none e hp c⟩
  refine hQ (.opq a) _ (.ref a) H' (hw a dx r p (sn a ha) (sn r hr) (sn p hp) (Ne.symm ra) (Ne.symm pa) nrp) ⟨fun b o e _ => keep b o e, fun b c => (cs b).mpr (.inl c), fun b c => ?_⟩ (fun b o q => ?_) (.opq a)
  · rcases (cs b).mp c with c | rfl | rfl | rfl
    · exact .inl c
    · exact .inr ha
    · exact .inr hr
    · exact .inr hp
  · by_cases q1 : b = a
    · subst q1
      rw [rup_same] at q
      cases q
      exact ⟨rfl, _, e1, bkF r p 0⟩
    · rw [rup_ne q1] at q
      by_cases q2 : b = p
      · subst q2
        rw [rup_same] at q
        cases q
        exact ⟨rfl, [], ⟨e3, fun x h => by cases h⟩, rfl⟩
      · rw [rup_ne q2] at q
        by_cases q3 : b = r
        · subst q3
          rw [rup_same] at q
          cases q
          exact ⟨rfl, [], e2, .nil, Nat.zero_le _⟩
        · rw [rup_ne q3] at q
          obtain ⟨f, m⟩ := j b o q
          refine ⟨f, m.fl tk ?_ f⟩
          cases e : H b with
          | none => exact absurd e m.there.1
          | some u => exact keep b u e
end
def putFD (f : Str) (v : D) : List (Str × D) → List (Str × D)
  | [] => [(f, v)]
  | (g, x) :: r => if g = f then (g, v) :: r else (g, x) :: putFD f v r
theorem DaF.put {B : Addr → Prop} {H : Hp} {f : Str} {y : V} {v : D} (a : Da B H y v) : ∀ {xs : List (Str × V)} {fs : List (Str × D)}, DaF B H xs fs → DaF B H (putF f y xs) (putFD f v fs)
  | _, _, .nil => .cons a .nil
  | _, _, .cons (k := k) h t => by
    unfold putF putFD
    by_cases q : k = f
    · rw [if_pos q, if_pos q]
      exact .cons a t
    · rw [if_neg q, if_neg q]
      exact .cons h (t.put a)
theorem flts_put {f : Str} {v : D} (h : v.flt = true) : ∀ {fs : List (Str × D)}, D.flts (fs.map (·.2)) = true → D.flts ((putFD f v fs).map (·.2)) = true
  | [], _ => by simp [putFD, D.flts, h]
  | (g, x) :: r, q => by
    simp only [List.map_cons, D.flts, Bool.and_eq_true] at q
    unfold putFD
    by_cases e : g = f
    · rw [if_pos e]
      simp [D.flts, h, q.2]
    · rw [if_neg e]
      simp [D.flts, q.1, flts_put h q.2]
@[simp] def wFAugM (f : Str) (Cl : Addr → Prop) (wo wv : WE Rg) (wop : D → D → Rg → (D → Rg → Prop) → Prop) : WS Rg := fun KK env s => wo env s (fun d s1 => match d with
  | .opq a => (match s1 a with
    | some (.ins C _ fs) => Cl C ∧ (match fs.lookup f with
      | some z => wv env s1 (fun e s2 => wop z e s2 fun q s3 => q.flt = true ∧ (match s3 a with
        | some (.ins C' dx' fs') => C' = C ∧ fs'.length < 1000 ∧ KK.nx env (rup s3 a (.ins C' dx' (putFD f q fs')))
        | _ => False)) KK.xc
      | none => False)
    | _ => False)
  | _ => False) KK.xc
section
variable {G : Gm Rg} {K : PySem.W.Frag}
theorem ss_faugM {f : Str} {Cl : Addr → Prop} (hC : ∀ C, Cl C → Cls K C ∧ NoAttr K C f) {to tv : TE} {wo wv : WE Rg} {rd : R2} {wop : D → D → Rg → (D → Rg → Prop) → Prop} (ho : SimE RW G to wo) (hv : SimG RW G tv wv) (hop : SimO RW rd wop) : SimS RW G (sFldAug K to tv rd f) (wFAugM f Cl wo wv wop) :=
  fun R env σ H s rl KK hw Dn e => ho R env σ H s rl _ KK.xc hw e.xc _ fun d s1 v H1 hw1 f1 j1 a1 => by
    have rl1 := rl.step f1 j1
    cases d with
    | opq a =>
      cases a1
      dsimp only at hw1
      cases qs : s1 a with
      | none => rw [qs] at hw1; exact hw1.elim
      | some o =>
        rw [qs] at hw1
        cases o with
        | ins C dx fs =>
          obtain ⟨hc, hw1⟩ := hw1
          cases ql : fs.lookup f with
          | none => rw [ql] at hw1; exact hw1.elim
          | some z =>
            rw [ql] at hw1
            obtain ⟨fl, xs, e1, l⟩ := j1 a _ qs
            obtain ⟨u, hu, da⟩ := l.look ql
            refine ⟨a, C, dx, xs, u, rfl, e1, (hC C hc).1, (hC C hc).2, hu, ?_⟩
            have dz := RW.out rl1.at_ da (flts_look fl ql)
            refine hv R env σ H1 s1 rl1 _ KK.xc hw1 e.xc _ fun e0 s2 y H2 hw2 f2 j2 a2 => ?_
            have rl2 := rl1.step f2 j2
            refine hop R s2 H2 rl2.at_ u y z e0 (.da (dz.mv f2.mv)) a2 _ hw2 _ fun q q' H3 hw3 f3 j3 a3 => ?_
            have rl3 := rl2.step f3 j3
            obtain ⟨qf, hw3⟩ := hw3
            cases q3 : s2 a with
            | none => rw [q3] at hw3; exact hw3.elim
            | some o3 =>
              rw [q3] at hw3
              cases o3 with
              | ins C' dx' fs' =>
                obtain ⟨rfl, hlen, hw3⟩ := hw3
                obtain ⟨fl3, xs3, e3, l3⟩ := j3 a _ q3
                have into := RW.into rl3.at_ a3 qf
                have ff := flts_put (f := f) qf fl3
                have keep : ∀ t ys, H3 t = some (.tup ys) → upd H3 a (.ins C' dx' (putF f q' xs3)) t = some (.tup ys) ∧ ¬ (s2 t ≠ none) := fun t ys et => ⟨by rw [upd_ne fun zz => by rw [zz, e3] at et; cases et]; exact et, fun c => RJ.ct j3 c et⟩
                obtain ⟨p2, p3⟩ := rg_write (o := .ins C' dx' (putFD f q fs')) (u := .ins C' dx' (putF f q' xs3)) j3 q3 ff ⟨_, upd_same, (l3.put into).fl keep ff⟩
                exact ⟨dx', xs3, e3, by rw [l3.len]; exact hlen, e.nx R env σ _ _ hw3 (rl3.step p2 p3) (((f1.trans f2).trans f3).trans p2).mv⟩
              | _ => exact hw3.elim
        | _ => exact hw1.elim
    | _ => exact hw1.elim
theorem ss_faugMT {f : Str} {C : Addr} (c : Cls K C) (n : NoAttr K C f) {to tv : TE} {wo wv : WE Rg} {rd : R2} {wop : D → D → Rg → (D → Rg → Prop) → Prop} (ho : SimE RW G to wo) (hv : SimG RW G tv wv) (hop : SimO RW rd wop) : SimS RW G (sFldAug K to tv rd f) (wFAugM f (· = C) wo wv wop) :=
  ss_faugM (Cl := (· = C)) (fun _ h => h ▸ ⟨c, n⟩) ho hv hop
end
theorem so_raddR : SimO RW rAdd (wI0 fun i j => V.int (i + j)) := so_i0s (fun _ _ => True.intro)
theorem nk_num {d : D} {n : Int} (h : d.nk = some (.num n)) : d = .int n := by
  cases d <;> simp [D.nk] at h
  rw [h]
theorem nk_text {d : D} {x : Str} (h : d.nk = some (.text x)) : d = .str x := by
  cases d <;> simp [D.nk] at h
  rw [h]
theorem nk_tup {d : D} {ks : List NestedKey} (h : d.nk = some (.tup ks)) : ∃ ds, d = .tup ds ∧ D.nks ds = some ks := by
  cases d with
  | tup ds =>
    simp [D.nk] at h
    exact ⟨ds, rfl, h⟩
  | _ => simp [D.nk] at h
theorem nks_nil {ds : List D} (h : D.nks ds = some []) : ds = [] := by
  cases ds with
  | nil => rfl
  | cons d r =>
    unfold D.nks at h
    cases q1 : d.nk with
    | none => rw [q1] at h; cases h
    | some k =>
      cases q2 : D.nks r with
      | none => rw [q1, q2] at h; cases h
      | some ks => rw [q1, q2] at h; cases h
theorem nks_cons {ds : List D} {k : NestedKey} {ks : List NestedKey} (h : D.nks ds = some (k :: ks)) : ∃ d r, ds = d :: r ∧ d.nk = some k ∧ D.nks r = some ks := by
  cases ds with
  | nil => cases h
  | cons d r =>
    unfold D.nks at h
    cases q1 : d.nk with
    | none => rw [q1] at h; cases h
    | some k' =>
      cases q2 : D.nks r with
      | none => rw [q1, q2] at h; cases h
      | some ks' =>
        rw [q1, q2] at h
        cases h
        exact ⟨d, r, rfl, q1, q2⟩
end Dw
set_option Elab.async false
set_option linter.all false
set_option maxRecDepth 100000
set_option maxHeartbeats 4000000
/-! Ri: reversed(list) walked; xs.insert(i, y) of an own list. -/
namespace Dw
open PySem PySem.Spec PyProof.Rows L2
section
variable {S : Type} {W : Wd S} {G : Gm S} {K : PySem.W.Frag}
@[simp] def wiRevL (w : WA S) : WI S := fun env s k x => w env s (fun ds s1 => match ds with
  | [.lst es] => k es.reverse s1
  | _ => False) x
/-- xs.insert(0, y), xs the def's own -/
@[simp] def wIns (i : Nat) (wk : WA S) : WS S := fun KK env s => match sg env i with
  | .own ds => wk env s (fun es s1 => match es with
    | [.int z, d] => z = 0 ∧ ds.length < sizeLine ∧ KK.nx (ss env i (.own (d :: ds))) s1
    | _ => False) KK.xc
  | _ => False
abbrev rIns : V → List V → Hp → VK → Prop := fun x vs H Q => ∃ (l : Addr) (xs : List V) (i : Int) (y : V), x = .ref l ∧ vs = [.int i, y] ∧ H l = some (.lst xs) ∧ xs.length < sizeLine ∧ 0 ≤ i ∧ i < 2 ^ 63 ∧ Q .non (upd H l (.lst (xs.take i.toNat ++ [y] ++ xs.drop i.toNat)))
end
end Dw
set_option Elab.async false
set_option linter.all false
set_option maxRecDepth 100000
set_option maxHeartbeats 4000000
/-! Rk: dicts of the registry (keys: ints, texts, or tuples of them): made, read, written, updated, sorted; dict(pairs); comprehensions by what is done. -/
namespace L2
open PySem PySem.Spec PyProof.Rows PySem.W
def tDUpd (td ty : TE) : TE := fun σ H Q => td σ H fun x H1 => ∃ a, x = .ref a ∧ IsD H1 a ∧ ty σ H1 fun y H2 => ∃ b kvs more, y = .ref b ∧ a ≠ b ∧ H2 a = some (.dK kvs) ∧ Rd H2 b (.dK more) ∧ kvs.length + more.length ≤ sizeLine ∧ Q .non (upd H2 a (.dK (mergeK kvs more)))
section
variable {X : Cx}
variable {o e : Expr} {apos cpos : Pos} {td ty : TE}
def rSortedDKI : List V → Hp → VK → Prop := fun xs H Q => ∃ (a : Addr) (kvs : List (Key × V)) (ks : List Int), xs = [.ref a] ∧ Rd H a (.dK kvs) ∧ kvs.map (·.1) = ks.map Sum.inl ∧
    ∀ (ys : List Int) (p : Addr), ys.Perm ks → ys.Pairwise (· ≤ ·) → H p = none → Q (.ref p) (upd H p (.lst (ys.map V.int)))
/-- as kSortedX, and of a dict of ints -/
def rSortedY (K : PySem.W.Frag) : List V → Hp → VK → Prop := fun vs H Q => rSortedX K vs H Q ∨ rSortedDKI vs H Q
/-- len of anything -/
def rLenY (K : PySem.W.Frag) : List V → Hp → VK → Prop := fun vs H Q => Rd.rLen K vs H Q ∨ ∃ a kvs, vs = [V.ref a] ∧ H a = some (.dK kvs) ∧ Q (.int kvs.length) H
/-- dict(pairs) -/
def rDictP (K : PySem.W.Frag) : List V → Hp → VK → Prop := fun xs H Q => ∃ (a : Addr) (ps : List Addr) (kvs : List (Key × V)), xs = [.ref a] ∧ SqL K H a (ps.map V.ref) ∧ Paired (fun p kv => SqT K H p [kV kv.1, kv.2]) ps kvs ∧
    ∀ p, H p = none → Q (.ref p) (upd H p (.dK (mergeK [] kvs)))
end
end L2
namespace Dw
open PySem PySem.Spec PyProof.Rows L2
theorem wLc_fold {S : Type} {g : WG} {te : WE S} {vs : List Nat} {env : List Sl} {x : Xc → S → Prop} {ds0 : List D} (I : List D → List D → S → Prop)
    (h : ∀ done d rest ys s, ds0 = done ++ d :: rest → I done ys s → ∀ kt : D → S → Prop, (∀ y s', I (done ++ [d]) (ys ++ [y]) s' → kt y s') → g d (wp env vs) fun e1 => te e1 s kt x)
    {s : S} {k : List D → S → Prop} (i : I [] [] s) (hk : ∀ ys s', I ds0 ys s' → k ys s') : wLc g (fun _ s k _ => k true s) te vs ds0 env s k x := by
  have go : ∀ (rest done ys : List D) (s : S) (k : List D → S → Prop), ds0 = done ++ rest → I done ys s → (∀ zs s', I ds0 (ys ++ zs) s' → k zs s') → wLc g (fun _ s k _ => k true s) te vs rest env s k x := by
    intro rest
    induction rest with
    | nil =>
      intro done ys s k e i hk
      rw [List.append_nil] at e
      subst e
      exact hk [] s (by rw [List.append_nil]; exact i)
    | cons d r ih =>
      intro done ys s k e i hk
      unfold wLc
      rw [show (fun e1 => (fun b s1 => if b = true then te e1 s1 (fun y s2 => wLc g (fun _ s k _ => k true s) te vs r env s2 (fun ys s3 => k (y :: ys) s3) x) x else wLc g (fun _ s k _ => k true s) te vs r env s1 k x) true s) = fun e1 => te e1 s (fun y s2 => wLc g (fun _ s k _ => k true s) te vs r env s2 (fun ys s3 => k (y :: ys) s3) x) x from by funext e1; simp]
      refine h done d r ys s e i _ fun y s' i' => ?_
      exact ih (done ++ [d]) (ys ++ [y]) s' _ (by rw [e]; simp) i' fun zs s2 i2 => hk (y :: zs) s2 (by rw [List.append_assoc] at i2; exact i2)
  exact go ds0 [] [] s k rfl i fun zs s' i' => hk zs s' i'
/-! keys and dicts of keys -/
def D.ky : D → Option Key
  | .int i => some (.inl i)
  | .str x => some (.inr x)
  | _ => none
theorem Da.ky {B : Addr → Prop} {H : Hp} {v : V} {d : D} {k : Key} (a : Da B H v d) (h : d.ky = some k) : v = kV k := by
  cases a <;> simp [D.ky] at h <;> subst h <;> rfl
def valK (kvs : List (Key × D)) (k : Key) : Option D := (kvs.find? fun kv => decide (kv.1 = k)).map (·.2)
def putKD (kvs : List (Key × D)) (k : Key) (v : D) : List (Key × D) :=
  if (kvs.any fun kv => decide (kv.1 = k)) = true then kvs.map (fun kv => if kv.1 = k then (kv.1, v) else kv) else kvs ++ [(k, v)]
def mrgD (kvs more : List (Key × D)) : List (Key × D) := more.foldl (fun acc kv => putKD acc kv.1 kv.2) kvs
section
variable {B : Addr → Prop} {H : Hp}
theorem DaK.len : ∀ {vs : List (Key × V)} {ds : List (Key × D)}, DaK B H vs ds → vs.length = ds.length
  | _, _, .nil => rfl
  | _, _, .cons _ t => by rw [List.length_cons, List.length_cons, t.len]
theorem DaK.keys : ∀ {vs : List (Key × V)} {ds : List (Key × D)}, DaK B H vs ds → vs.map (·.1) = ds.map (·.1)
  | _, _, .nil => rfl
  | _, _, .cons _ t => by rw [List.map_cons, List.map_cons, t.keys]
theorem DaK.val {k : Key} : ∀ {vs : List (Key × V)} {ds : List (Key × D)}, DaK B H vs ds → (valV vs k = none ∧ valK ds k = none) ∨ ∃ v d, valV vs k = some v ∧ valK ds k = some d ∧ Da B H v d
  | _, _, .nil => .inl ⟨rfl, rfl⟩
  | _, _, .cons (k := k') (v := v) (d := d) h t => by
    by_cases e : k' = k
    · exact .inr ⟨v, d, valV_pos e, by simp [valK, List.find?_cons, e], h⟩
    · rw [valV_neg e]
      have : ∀ r : List (Key × D), valK ((k', d) :: r) k = valK r k := fun r => by simp [valK, List.find?_cons, e]
      rw [this]
      exact t.val
theorem DaK.any {k : Key} : ∀ {vs : List (Key × V)} {ds : List (Key × D)}, DaK B H vs ds → (vs.any fun kv => decide (kv.1 = k)) = ds.any fun kv => decide (kv.1 = k)
  | _, _, .nil => rfl
  | _, _, .cons h t => by rw [List.any_cons, List.any_cons, t.any]
theorem DaK.snoc {k : Key} {v : V} {d : D} : ∀ {vs : List (Key × V)} {ds : List (Key × D)}, DaK B H vs ds → Da B H v d → DaK B H (vs ++ [(k, v)]) (ds ++ [(k, d)])
  | _, _, .nil, h => .cons h .nil
  | _, _, .cons a t, h => .cons a (t.snoc h)
theorem DaK.repl {k : Key} {v : V} {d : D} : ∀ {vs : List (Key × V)} {ds : List (Key × D)}, DaK B H vs ds → Da B H v d → DaK B H (vs.map fun kv => if kv.1 = k then (kv.1, v) else kv) (ds.map fun kv => if kv.1 = k then (kv.1, d) else kv)
  | _, _, .nil, h => .nil
  | _, _, .cons (k := k') a t, h => by
    rw [List.map_cons, List.map_cons]
    by_cases e : k' = k
    · rw [if_pos e, if_pos e]
      exact .cons h (t.repl h)
    · rw [if_neg e, if_neg e]
      exact .cons a (t.repl h)
theorem DaK.put {vs : List (Key × V)} {ds : List (Key × D)} {k : Key} {v : V} {d : D} (t : DaK B H vs ds) (h : Da B H v d) : DaK B H (putK vs k v) (putKD ds k d) := by
  unfold putK putKD
  rw [t.any]
  split
  · exact t.repl h
  · exact t.snoc h
theorem DaK.mrg : ∀ {more : List (Key × V)} {ms : List (Key × D)} {vs : List (Key × V)} {ds : List (Key × D)}, DaK B H more ms → DaK B H vs ds → DaK B H (mergeK vs more) (mrgD ds ms)
  | _, _, _, _, .nil, h => h
  | _, _, vs, ds, .cons (k := k) (v := v) (vs := r) (d := d) (ds := q) a t, h => (DaK.mrg t (h.put a) : DaK B H (mergeK (putK vs k v) r) (mrgD (putKD ds k d) q))
end
theorem flts_putK {kvs : List (Key × D)} {k : Key} {v : D} (f : D.flts (kvs.map (·.2)) = true) (h : v.flt = true) : D.flts ((putKD kvs k v).map (·.2)) = true := flts_of fun e he => by
  obtain ⟨p, hp, rfl⟩ := List.mem_map.mp he
  unfold putKD at hp
  split at hp
  · obtain ⟨q, hq, rfl⟩ := List.mem_map.mp hp
    by_cases e : q.1 = k
    · rw [if_pos e]
      exact h
    · rw [if_neg e]
      exact flts_mem f (List.mem_map.mpr ⟨q, hq, rfl⟩)
  · rcases List.mem_append.mp hp with hp | hp
    · exact flts_mem f (List.mem_map.mpr ⟨p, hp, rfl⟩)
    · rw [List.mem_singleton] at hp
      subst hp
      exact h
theorem flts_mrg : ∀ {more kvs : List (Key × D)}, D.flts (kvs.map (·.2)) = true → D.flts (more.map (·.2)) = true → D.flts ((mrgD kvs more).map (·.2)) = true
  | [], _, f, _ => f
  | p :: r, kvs, f, g => by
    simp only [List.map_cons, D.flts, Bool.and_eq_true] at g
    exact flts_mrg (more := r) (flts_putK f g.1) g.2
/-- the dict d of the world s -/
def dcOf (s : Rg) : D → Option (List (Key × D))
  | .opq a => match s a with
    | some (.dic kvs) => some kvs
    | _ => none
  | .dic kvs => some kvs
  | _ => none
@[simp] def wNewD : WE Rg := fun _ s k _ => ∀ a, s a = none → k (.opq a) (rup s a (.dic []))
@[simp] def wGetM (wd wk : WE Rg) : WE Rg := fun env s k x => wd env s (fun d s1 => wk env s1 (fun e s2 => ∃ kvs key v, dcOf s2 d = some kvs ∧ e.ky = some key ∧ valK kvs key = some v ∧ k v s2) x) x
@[simp] def wInM (wk wd : WE Rg) : WE Rg := fun env s k x => wk env s (fun e s1 => wd env s1 (fun d s2 => ∃ kvs key, dcOf s2 d = some kvs ∧ e.ky = some key ∧ k (.bl (valK kvs key).isSome) s2) x) x
@[simp] def wNotInM (wk wd : WE Rg) : WE Rg := fun env s k x => wk env s (fun e s1 => wd env s1 (fun d s2 => ∃ kvs key, dcOf s2 d = some kvs ∧ e.ky = some key ∧ k (.bl (!(valK kvs key).isSome)) s2) x) x
@[simp] def wPutM (wv wd wk : WE Rg) : WS Rg := fun KK env s => wv env s (fun v s0 => wd env s0 (fun d s1 => wk env s1 (fun e s2 => match d with
  | .opq a => ∃ kvs key, s2 a = some (.dic kvs) ∧ e.ky = some key ∧ v.flt = true ∧ kvs.length < sizeLine ∧ KK.nx env (rup s2 a (.dic (putKD kvs key v)))
  | _ => False) KK.xc) KK.xc) KK.xc
@[simp] def wUpdM (wd we : WE Rg) : WS Rg := fun KK env s => wd env s (fun d s1 => match d with
  | .opq a => (∃ kvs, s1 a = some (.dic kvs)) ∧ we env s1 (fun e s2 => match e with
    | .dic more => ∃ kvs, s2 a = some (.dic kvs) ∧ D.flts (more.map (·.2)) = true ∧ kvs.length + more.length ≤ sizeLine ∧ KK.nx env (rup s2 a (.dic (mrgD kvs more)))
    | _ => False) KK.xc
  | _ => False) KK.xc
def prsD : List D → Option (List (Key × D))
  | [] => some []
  | d :: r => match d with
    | .tup [k, v] => match k.ky, prsD r with
      | some k, some ks => some ((k, v) :: ks)
      | _, _ => none
    | _ => none
@[simp] def wDictP {S : Type} : List D → S → (D → S → Prop) → Prop := fun ds s k => match ds with
  | [.lst ps] => ∃ kvs, prsD ps = some kvs ∧ k (.dic (mrgD [] kvs)) s
  | _ => False
@[simp] def wLenY : List D → Rg → (D → Rg → Prop) → Prop := fun ds s k => match ds with
  | [.opq a] => (match s a with
    | some (.lst xs) => k (.int xs.length) s
    | some (.dic kvs) => k (.int kvs.length) s
    | _ => False)
  | ds => wLen ds s k
@[simp] def wSortY : List D → Rg → (D → Rg → Prop) → Prop := fun ds s k => match ds with
  | [.opq a] => ∃ kvs ns, s a = some (.dic kvs) ∧ kvs.map (·.1) = ns.map Sum.inl ∧ kvs.length ≤ sizeLine ∧ ∀ ms : List Int, ms.Perm ns → ms.Pairwise (· ≤ ·) → k (.lst (ms.map D.int)) s
  | ds => wSortX ds s k
section
variable {G : Gm Rg} {K : PySem.W.Frag}
end
end Dw
set_option Elab.async false
set_option linter.all false
set_option maxRecDepth 100000
set_option maxHeartbeats 4000000
/-! Rl: dicts with keys as lists of pairs: what is in them behind a write, how many; what the registry keeps. -/
namespace Dw
open PySem PySem.Spec PyProof.Rows L2
def hasK (kvs : List (Key × D)) (k : Key) : Bool := (valK kvs k).isSome
/-- how many of the ints below n are not there -/
def missK (kvs : List (Key × D)) : Nat → Nat
  | 0 => 0
  | n + 1 => missK kvs n + if hasK kvs (.inl (n : Int)) then 0 else 1
/-- a while with a measure, whatever its turns lead to -/
theorem wWh_fuel {S : Type} {c : WT S} {b : WS S} {K : WEnds S} (P : Nat → List Sl → S → Prop) {n : Nat} {env : List Sl} {s : S} (h0 : P n env s)
    (hc : ∀ n j env s, (∀ m env s, m < n → P m env s → wWhN c b j K env s) → P n env s → wWhN c b (j + 1) K env s) : ∃ j, wWhN c b j K env s := by
  have go : ∀ f n env s, n < f → P n env s → wWhN c b f K env s := by
    intro f
    induction f with
    | zero => exact fun n env s h => absurd h (Nat.not_lt_zero _)
    | succ f ih => exact fun n env s h p => hc n f env s (fun m env s hm p => ih m env s (by omega) p) p
  exact ⟨n + 1, go (n + 1) n env s (Nat.lt_succ_self _) h0⟩
/-- the same, what follows a turn being a letter -/
theorem wWh_let {S : Type} {c : WT S} {b : WS S} {K : WEnds S} (P : Nat → List Sl → S → Prop) {n : Nat} {env : List Sl} {s : S} (h0 : P n env s)
    (hc : ∀ (L : List Sl → S → Prop) n env s, (∀ m env s, m < n → P m env s → L env s) → P n env s → c env s (fun q t => if q = true then b { K with nx := L, ct := L, bk := K.nx } env t else K.nx env t) K.xc) : ∃ j, wWhN c b j K env s :=
  wWh_fuel P h0 fun n j env s ih p => hc (wWhN c b j K) n env s ih p
/-- all that stood stands -/
def Kp (s s' : Rg) : Prop := ∀ x, s x ≠ none → s' x = s x
theorem Kp.refl {s : Rg} : Kp s s := fun _ _ => rfl
theorem Kp.trans {s t u : Rg} (h : Kp s t) (g : Kp t u) : Kp s u := fun x n => (g x (by rw [h x n]; exact n)).trans (h x n)
theorem Kp.new {s : Rg} {a : Addr} {o : Mo} (h : s a = none) : Kp s (rup s a o) := fun x n => rup_ne fun z => n (by rw [z]; exact h)
theorem Kp.off {s t : Rg} {a : Addr} {o : Mo} (k : Kp s t) (ha : s a = none) : Kp s (rup t a o) := fun x n => (rup_ne fun z => n (by rw [z]; exact ha)).trans (k x n)
/-- all but what stands at a -/
def Kb (a : Addr) (s s' : Rg) : Prop := ∀ x, x ≠ a → s x ≠ none → s' x = s x
theorem Kb.refl {a : Addr} {s : Rg} : Kb a s s := fun _ _ _ => rfl
theorem Kb.trans {a : Addr} {s t u : Rg} (h : Kb a s t) (g : Kb a t u) : Kb a s u := fun x e n => (g x e (by rw [h x e n]; exact n)).trans (h x e n)
theorem Kb.put {a : Addr} {s : Rg} {o : Mo} : Kb a s (rup s a o) := fun x e n => rup_ne e
theorem Kp.kb {a : Addr} {s t : Rg} (h : Kp s t) : Kb a s t := fun x _ n => h x n
theorem Kp.at {s t : Rg} {a : Addr} {o : Mo} (h : Kp s t) (e : s a = some o) : t a = some o := (h a (by rw [e]; simp)).trans e
theorem Kb.at {s t : Rg} {a b : Addr} {o : Mo} (h : Kb b s t) (ne : a ≠ b) (e : s a = some o) : t a = some o := (h a ne (by rw [e]; simp)).trans e
end Dw
set_option Elab.async false
set_option linter.all false
set_option maxRecDepth 100000
set_option maxHeartbeats 4000000
/-! Rm: xs.extend(ys), ys a list or a tuple. -/
namespace L2
open PySem PySem.Spec PyProof.Rows PySem.W
def rExtX (K : PySem.W.Frag) : V → List V → Hp → VK → Prop := fun x vs H Q => ∃ l b xs zs, x = .ref l ∧ vs = [.ref b] ∧ H l = some (.lst xs) ∧ (H b = some (.lst zs) ∨ SqT K H b zs) ∧ xs.length + zs.length ≤ sizeLine ∧ Q .non (upd H l (.lst (xs ++ zs)))
section
variable {X : Cx}
end
end L2
namespace Dw
open PySem PySem.Spec PyProof.Rows L2
section
variable {S : Type} {W : Wd S} {G : Gm S} {K : PySem.W.Frag}
@[simp] def wExtX (i : Nat) (w : WE S) : WS S := fun K env s => match sg env i with
  | .own ds => w env s (fun d t => match d with
    | .lst es => ds.length + es.length ≤ sizeLine ∧ K.nx (ss env i (.own (ds ++ es))) t
    | .tup es => ds.length + es.length ≤ sizeLine ∧ K.nx (ss env i (.own (ds ++ es))) t
    | _ => False) K.xc
  | _ => False
end
end Dw
set_option Elab.async false
set_option linter.all false
set_option maxRecDepth 100000
set_option maxHeartbeats 4000000
/-! Rn: lists made into the registry by a rule's name; pop of such as a value. -/
namespace L2
open PySem PySem.Spec PyProof.Rows PySem.W
def rListR (K : PySem.W.Frag) : List V → Hp → VK → Prop := Rd.rListOf K
section
variable {X : Cx}
theorem kListR {K : PySem.W.Frag} (e : X.K = K := by rfl) : CallR X (.type "list") (rListR K) := by
  subst e
  exact Rd.cr_list
/-- [..] as a list of the registry -/
def tLstR (t : TA) : TE := tLst t
end
end L2
namespace Dw
open PySem PySem.Spec PyProof.Rows L2
@[simp] def wListR (wa : WA Rg) : WE Rg := fun env s k x => wa env s (fun ds s1 => match ds with
  | [.lst es] => D.flts es = true ∧ ∀ a, s1 a = none → k (.opq a) (rup s1 a (.lst es))
  | [.tup es] => D.flts es = true ∧ ∀ a, s1 a = none → k (.opq a) (rup s1 a (.lst es))
  | _ => False) x
@[simp] def wLstR (wa : WA Rg) : WE Rg := fun env s k x => wa env s (fun ds s1 => ds.length ≤ sizeLine ∧ D.flts ds = true ∧ ∀ a, s1 a = none → k (.opq a) (rup s1 a (.lst ds))) x
/-- xs.pop(i), xs of the registry -/
@[simp] def wPopAtM (wo wi : WE Rg) : WE Rg := fun env s k x => wo env s (fun d s1 => match d with
  | .opq a => (∃ ds, s1 a = some (.lst ds)) ∧ wi env s1 (fun i s2 => match i with
    | .int z => ∃ ds j y, s2 a = some (.lst ds) ∧ -(2 ^ 63) ≤ z ∧ z < 2 ^ 63 ∧ seqIndex? z ds.length = some j ∧ ds[j]? = some y ∧ k y (rup s2 a (.lst (ds.eraseIdx j)))
    | _ => False) x
  | _ => False) x
section
variable {S : Type} {W : Wd S} {G : Gm S}
/-- x, y = e, [..]: y the def's own -/
@[simp] def wParEF (i j : Nat) (wa : WE S) (wb : WI S) : WS S := fun K env s => wa env s (fun d s1 => wb env s1 (fun ds s2 => K.nx (ss (ss env i (.dat d)) j (.own ds)) s2) K.xc) K.xc
theorem ss_parEF {i j : Nat} {ta tb : TE} {wa : WE S} {wb : WI S} (o : OwnSl j) (ha : SimE W G ta wa) (hb : SimF W G tb wb) : SimS W G (tPar i j (tCons ta (tCons tb tNil))) (wParEF i j wa wb) := fun R env σ H s rl K hw Dn e =>
  ha R env σ H s rl _ K.xc hw e.xc _ fun d s1 v H1 hw1 f1 j1 a1 => hb R env σ H1 s1 (rl.step f1 j1) _ K.xc hw1 e.xc _ fun ds s2 p xs H2 hk f2 j2 hp hp' nb l z => by
    have relA := (rl.step f1 j1).setD i a1
    by_cases hj : j < env.length
    · obtain ⟨rl', m⟩ := relA.setO f2 j2 j hp (by rw [hp']; simp) nb (.lst hp' l z) rfl (by rw [ss_len]; exact hj)
      exact ⟨_, _, rfl, e.nx _ _ _ H2 s2 hk rl' (f1.mv.trans m)⟩
    · refine ⟨_, _, rfl, e.nx R _ _ H2 s2 hk ?_ (f1.trans f2).mv⟩
      rw [ss_out _ _ _ (by rw [ss_len]; exact Nat.le_of_not_lt hj), List.set_eq_of_length_le (by rw [List.length_set, rl.env.len]; exact Nat.le_of_not_lt hj)]
      exact relA.step f2 j2
end
section
variable {S : Type} {W : Wd S} {G : Gm S} {K : PySem.W.Frag}
end
theorem wLc_mapA {S α : Type} {g : WG} {te : WE S} {vs : List Nat} {env : List Sl} {s : S} {x : Xc → S → Prop} (f e : α → D) : ∀ {l : List α} {k : List D → S → Prop}, (∀ a ∈ l, ∀ kt : D → S → Prop, kt (f a) s → g (e a) (wp env vs) fun e1 => te e1 s kt x) → k (l.map f) s → wLc g (fun _ s k _ => k true s) te vs (l.map e) env s k x
  | [], _, _, hk => hk
  | a :: r, k, h, hk => by
    rw [List.map_cons]
    unfold wLc
    rw [show (fun e1 => (fun b s1 => if b = true then te e1 s1 (fun y s2 => wLc g (fun _ s k _ => k true s) te vs (r.map e) env s2 (fun ys s3 => k (y :: ys) s3) x) x else wLc g (fun _ s k _ => k true s) te vs (r.map e) env s1 k x) true s) = fun e1 => te e1 s (fun y s2 => wLc g (fun _ s k _ => k true s) te vs (r.map e) env s2 (fun ys s3 => k (y :: ys) s3) x) x from by funext e1; simp]
    exact h a (by simp) _ (wLc_mapA f e (fun b hb => h b (by simp [hb])) hk)
/-- tuple(xs), list(xs) of anything: a tuple of a registered list -/
@[simp] def wTupM : List D → Rg → (D → Rg → Prop) → Prop := fun ds s k => match ds with
  | [.opq a] => (match s a with
    | some (.lst xs) => k (.tup xs) s
    | _ => False)
  | ds => wTupOf ds s k
section
variable {G : Gm Rg} {K : PySem.W.Frag}
theorem sc_tupM : SimC RW (Rd.rTupOf K) wTupM := fun R s H at_ xs ds a k hw Q hQ => by
  match ds, a, hw with
  | [.opq c], a, hw =>
    obtain ⟨v, rfl, a1⟩ := a.one
    unfold wTupM at hw
    dsimp only at hw
    cases a1 with
    | da a2 =>
      cases a2
      cases q : s c with
      | none => rw [q] at hw; exact hw.elim
      | some o =>
        rw [q] at hw
        cases o with
        | lst ds =>
          obtain ⟨f, ys, e1, l, z⟩ := at_.j c _ q
          have l' : DaL (Bf RW R s) H ys ds := l.fl (fun _ _ e => ⟨e, at_.tup e⟩) f
          exact ⟨c, ys, rfl, .inl ⟨.of e1, fun p hp => hQ _ _ _ hw (.new_at hp at_) (at_.new_at hp).j (.tup upd_same (at_.fresh hp) (l'.mv (Fr.new_at hp at_).mv) z)⟩⟩
        | _ => exact hw.elim
  | [.lst _], a, hw => exact sc_tuple R s H at_ xs _ a k hw Q hQ
  | [.tup _], a, hw => exact sc_tuple R s H at_ xs _ a k hw Q hQ
/-- a new list of the registry -/
theorem rg_lst {s : Rg} {H : Hp} {R : Addr → Prop} {ds : List D} {vs : List V} {k : D → Rg → Prop} {Q : VK} (t : At RW R s H) (l : DaL (Bf RW R s) H vs ds) (z : ds.length ≤ sizeLine) (f : D.flts ds = true) (hk : ∀ a, s a = none → k (.opq a) (rup s a (.lst ds)))
    (hQ : ∀ d s' v H', k d s' → Fr RW s H s' H' → RW.J s' H' → Da (Bf RW R s') H' v d → Q v H') : ∀ p, H p = none → Q (.ref p) (upd H p (.lst vs)) := fun p hp => by
  have j := t.j
  have sn : s p = none := by
    cases q : s p with
    | none => rfl
    | some o => exact absurd hp (j p o q).2.there.1
  have into : DaL (fun x => s x ≠ none) H vs ds := l.fl (fun _ _ e => ⟨e, fun c => RJ.ct j c e⟩) f
  have tn : ∀ t ys, H t = some (.tup ys) → upd H p (.lst vs) t = some (.tup ys) ∧ ¬ (s t ≠ none) := fun t ys et => ⟨by rw [upd_ne fun zz => by rw [zz, hp] at et; cases et]; exact et, fun c => RJ.ct j c et⟩
  obtain ⟨p2, p3⟩ := rg_new (o := .lst ds) (u := .lst vs) j hp f ⟨vs, upd_same, into.fl tn f, z⟩
  exact hQ _ _ _ _ (hk p sn) p2 p3 (.opq p)
theorem sim_listR {ta : TA} {wa : WA Rg} (ha : SimB RW G ta wa) : SimE RW G (tCB (rListR K) ta) (wListR wa) := fun R env σ H s rl k x hw ox Q hQ => ha R env σ H s rl _ x hw ox _ fun ds s1 vs H1 hw1 f1 j1 a1 => by
  have at1 := (rl.step f1 j1).at_
  match ds, a1, hw1 with
  | [.lst es], a1, ⟨f, hk⟩ =>
    obtain ⟨v, rfl, a⟩ := a1.one
    obtain ⟨p, xs, rfl, e, l, z⟩ := a.lstI
    exact ⟨p, xs, rfl, .inl (.of e), rg_lst at1 l z f hk fun d s' v H' hk f j a => hQ d s' v H' hk (f1.trans f) j a⟩
  | [.tup es], a1, ⟨f, hk⟩ =>
    obtain ⟨v, rfl, a⟩ := a1.one
    obtain ⟨p, xs, rfl, e, l, _, z⟩ := a.tupI
    exact ⟨p, xs, rfl, .inr (.of e), rg_lst at1 l z f hk fun d s' v H' hk f j a => hQ d s' v H' hk (f1.trans f) j a⟩
theorem sim_popAtM {to ti : TE} {wo wi : WE Rg} (ho : SimE RW G to wo) (hi : SimE RW G ti wi) : SimE RW G (tBM K "list" rPopAt to (tCons ti tNil)) (wPopAtM wo wi) := fun R env σ H s rl k x hw ox Q hQ => ho R env σ H s rl _ x hw ox _ fun d s1 v H1 hw1 f1 j1 a1 => by
  have rl1 := rl.step f1 j1
  cases d with
  | opq a =>
    cases a1
    obtain ⟨⟨ds, qs⟩, hw1⟩ := hw1
    obtain ⟨_, xs, e1, l, _⟩ := j1 a _ qs
    refine ⟨.inl ⟨rfl, xs, .of e1⟩, hi R env σ H1 s1 rl1 _ x hw1 ox _ fun i s2 u H2 hw2 f2 j2 a2 => ?_⟩
    have rl2 := rl1.step f2 j2
    cases i with
    | int z =>
      cases a2
      obtain ⟨ds, jj, y, q2, z1, z2, hs, hy, hk⟩ := hw2
      obtain ⟨f, xs, e2, l, lz⟩ := j2 a _ q2
      obtain ⟨v, hv, dv⟩ := l.get' hy
      have fe : D.flts (ds.eraseIdx jj) = true := flts_of fun d hd => flts_mem f (List.mem_of_mem_eraseIdx hd)
      have keep : ∀ t ys, H2 t = some (.tup ys) → upd H2 a (.lst (xs.eraseIdx jj)) t = some (.tup ys) ∧ ¬ (s2 t ≠ none) := fun t ys et => ⟨by rw [upd_ne fun zz => by rw [zz, e2] at et; cases et]; exact et, fun c => RJ.ct j2 c et⟩
      have lz2 : (ds.eraseIdx jj).length ≤ sizeLine := Nat.le_trans (List.length_eraseIdx_le ds jj) lz
      obtain ⟨p2, p3⟩ := rg_write (o := .lst (ds.eraseIdx jj)) (u := .lst (xs.eraseIdx jj)) j2 q2 fe ⟨_, upd_same, (l.erase jj).fl keep fe, lz2⟩
      refine ⟨a, xs, z, jj, v, rfl, rfl, e2, z1, z2, by rw [l.len]; exact hs, hv, ?_⟩
      exact hQ y _ v _ hk ((f1.trans f2).trans p2) p3 (RW.out (rl2.step p2 p3).at_ (dv.fl keep (flts_mem f (List.mem_of_getElem? hy))) (flts_mem f (List.mem_of_getElem? hy)))
    | _ => exact hw2.elim
  | _ => exact hw1.elim
end
end Dw
set_option Elab.async false
set_option linter.all false
set_option maxRecDepth 100000
set_option maxHeartbeats 4000000
/-! Ro: lists of any making put into the registry; instances and dict displays made there; their fields stored. -/
namespace L2
open PySem PySem.Spec PyProof.Rows PySem.W
/-- a new list, to be one of the registry -/
def tReg (t : TE) : TE := t
theorem pe_reg {X : Cx} {e : Expr} {t : TE} (h : PE X e t) : PE X e (tReg t) := h
end L2
namespace Dw
open PySem PySem.Spec PyProof.Rows L2
theorem rg_none {s : Rg} {H : Hp} {a : Addr} (j : RW.J s H) (h : H a = none) : s a = none := by
  cases q : s a with
  | none => rfl
  | some o => exact absurd h (j a o q).2.there.1
/-- what was made since becomes the registry's -/
theorem rg_adopt {s s' : Rg} {H H' : Hp} {a : Addr} {o : Mo} (f : Fr RW s H s' H') (j : RW.J s' H') (hp : H a = none) (ns : s' a = none) (fl : o.flt = true) (m : MoR (fun x => s' x ≠ none) H' a o) : Fr RW s H (rup s' a o) H' ∧ RW.J (rup s' a o) H' := by
  have same : ∀ x, rup s' a o x ≠ none ↔ s' x ≠ none ∨ x = a := fun x => by
    by_cases q : x = a
    · subst q; simp
    · rw [rup_ne q]; simp [q]
  refine ⟨⟨f.kp, fun x c => (same x).mpr (.inl (f.grow x c)), fun x c => ?_⟩, fun b p q => ?_⟩
  · rcases (same x).mp c with c | rfl
    · exact f.new x c
    · exact .inr hp
  · have tk : ∀ t xs, H' t = some (.tup xs) → H' t = some (.tup xs) ∧ ¬ (rup s' a o t ≠ none) := fun t xs e => ⟨e, fun c => by
      rcases (same t).mp c with c | rfl
      · exact RJ.ct j c e
      · exact m.there.2 xs e⟩
    by_cases z : b = a
    · subst z
      rw [rup_same] at q
      cases q
      exact ⟨fl, m.fl tk rfl fl⟩
    · rw [rup_ne z] at q
      obtain ⟨q1, q2⟩ := j b p q
      exact ⟨q1, q2.fl tk rfl q1⟩
@[simp] def wReg (wi : WI Rg) : WE Rg := fun env s k x => wi env s (fun ds s1 => D.flts ds = true ∧ ∀ a, s a = none → s1 a = none → k (.opq a) (rup s1 a (.lst ds))) x
/-- C(..), an instance of the registry -/
@[simp] def wMkR (C : Addr) (wf : List D → Rg → (D → Rg → Prop) → (Xc → Rg → Prop) → Prop) (wa : WA Rg) : WE Rg := fun env s k x => wa env s (fun ds s1 => ∀ a dx, s1 a = none → wf (.opq a :: ds) (rup s1 a (.ins C dx [])) (fun d s2 => d = .non ∧ k (.opq a) s2) x) x
/-- o.f = e -/
@[simp] def wFldS (f : Str) (Cl : Addr → Prop) (wo wv : WE Rg) : WS Rg := fun KK env s => wv env s (fun v s1 => wo env s1 (fun d s2 => match d with
  | .opq a => (match s2 a with
    | some (.ins C dx fs) => Cl C ∧ v.flt = true ∧ fs.length < 1000 ∧ KK.nx env (rup s2 a (.ins C dx (putFD f v fs)))
    | _ => False)
  | _ => False) KK.xc) KK.xc
def wPairs : List (WE Rg × WE Rg) → List Sl → Rg → (List (Key × D) → Rg → Prop) → (Xc → Rg → Prop) → Prop
  | [], _, s, k, _ => k [] s
  | (wk, wv) :: r, env, s, k, x => wk env s (fun d s1 => ∃ key, d.ky = some key ∧ wv env s1 (fun v s2 => wPairs r env s2 (fun kvs s3 => k ((key, v) :: kvs) s3) x) x) x
/-- {..}, a dict of the registry -/
@[simp] def wDispR (ps : List (WE Rg × WE Rg)) : WE Rg := fun env s k x => ∀ a, s a = none → wPairs ps env (rup s a (.dic [])) (fun kvs s2 => s2 a = some (.dic []) ∧ D.flts (kvs.map (·.2)) = true ∧ kvs.length ≤ 15 ∧ k (.opq a) (rup s2 a (.dic (mrgD [] kvs)))) x
section
variable {G : Gm Rg} {K : PySem.W.Frag}
theorem sim_reg {t : TE} {wi : WI Rg} (h : SimF RW G t wi) : SimE RW G (tReg t) (wReg wi) := fun R env σ H s rl k x hw ox Q hQ => h R env σ H s rl _ x hw ox _ fun ds s1 p xs H1 hk f j hp e nb l z => by
  have ns : s1 p = none := by
    cases q : s1 p with
    | none => rfl
    | some o => exact absurd (.inr (by show s1 p ≠ none; rw [q]; simp)) nb
  have into : DaL (fun x => s1 x ≠ none) H1 xs ds := l.fl (fun _ _ e => ⟨e, fun c => RJ.ct j c e⟩) hk.1
  obtain ⟨f2, j2⟩ := rg_adopt (o := .lst ds) f j hp ns hk.1 ⟨xs, e, into, z⟩
  exact hQ _ _ _ _ (hk.2 p (rg_none rl.at_.j hp) ns) f2 j2 (.opq p)
theorem ss_fldS {f : Str} {Cl : Addr → Prop} (hC : ∀ C, Cl C → Cls K C ∧ NoAttr K C f) {to tv : TE} {wo wv : WE Rg} (ho : SimE RW G to wo) (hv : SimE RW G tv wv) : SimS RW G (sFld K to tv f) (wFldS f Cl wo wv) :=
  fun R env σ H s rl KK hw Dn e => hv R env σ H s rl _ KK.xc hw e.xc _ fun v s1 y H1 hw1 f1 j1 a1 => by
    have rl1 := rl.step f1 j1
    refine ho R env σ H1 s1 rl1 _ KK.xc hw1 e.xc _ fun d s2 x H2 hw2 f2 j2 a2 => ?_
    have rl2 := rl1.step f2 j2
    cases d with
    | opq a =>
      cases a2
      dsimp only at hw2
      cases qs : s2 a with
      | none => rw [qs] at hw2; exact hw2.elim
      | some o =>
        rw [qs] at hw2
        cases o with
        | ins C dx fs =>
          obtain ⟨hc, vf, hlen, hk⟩ := hw2
          obtain ⟨fl, xs, e1, l⟩ := j2 a _ qs
          have into := RW.into rl2.at_ (a1.mv f2.mv) vf
          have ff := flts_put (f := f) vf fl
          have keep : ∀ t ys, H2 t = some (.tup ys) → upd H2 a (.ins C dx (putF f y xs)) t = some (.tup ys) ∧ ¬ (s2 t ≠ none) := fun t ys et => ⟨by rw [upd_ne fun zz => by rw [zz, e1] at et; cases et]; exact et, fun c => RJ.ct j2 c et⟩
          obtain ⟨p2, p3⟩ := rg_write (o := .ins C dx (putFD f v fs)) (u := .ins C dx (putF f y xs)) j2 qs ff ⟨_, upd_same, (l.put into).fl keep ff⟩
          exact ⟨a, C, dx, xs, rfl, e1, (hC C hc).1, (hC C hc).2, by rw [l.len]; exact hlen, e.nx R env σ _ _ hk (rl2.step p2 p3) ((f1.trans f2).trans p2).mv⟩
        | _ => exact hw2.elim
    | _ => exact hw2.elim
theorem ss_fldST {f : Str} {C : Addr} (c : Cls K C) (n : NoAttr K C f) {to tv : TE} {wo wv : WE Rg} (ho : SimE RW G to wo) (hv : SimE RW G tv wv) : SimS RW G (sFld K to tv f) (wFldS f (· = C) wo wv) :=
  ss_fldS (Cl := (· = C)) (fun _ h => h ▸ ⟨c, n⟩) ho hv
inductive SimPs (G : Gm Rg) : List (TE × TE) → List (WE Rg × WE Rg) → Prop
  | nil : SimPs G [] []
  | cons {tk tv : TE} {wk wv : WE Rg} {ts : List (TE × TE)} {ws : List (WE Rg × WE Rg)} : SimE RW G tk wk → SimE RW G tv wv → SimPs G ts ws → SimPs G ((tk, tv) :: ts) ((wk, wv) :: ws)
theorem SimPs.run {G : Gm Rg} : ∀ {ts : List (TE × TE)} {ws : List (WE Rg × WE Rg)}, SimPs G ts ws → ∀ {R : Addr → Prop} {env : List Sl} {σ : L2.St} {H : Hp} {s : Rg}, Rel RW G R env σ H s → ∀ {k : List (Key × D) → Rg → Prop} {x : Xc → Rg → Prop}, wPairs ws env s k x → XOk RW G x → ∀ {Q : List (V × V) → Hp → Prop},
    (∀ kvs s' xs H', k kvs s' → Fr RW s H s' H' → RW.J s' H' → DaK (Bf RW R s') H' xs kvs → Q (xs.map fun kv => (kV kv.1, kv.2)) H') → tPairs ts σ H Q
  | _, _, .nil, R, env, σ, H, s, rl, k, x, hw, ox, Q, hQ => hQ [] s [] H hw .refl rl.at_.j .nil
  | _, _, .cons hk hv r, R, env, σ, H, s, rl, k, x, hw, ox, Q, hQ => hk R env σ H s rl _ x hw ox _ fun d s1 a H1 hw1 f1 j1 a1 => by
    obtain ⟨key, hkey, hw1⟩ := hw1
    have rl1 := rl.step f1 j1
    refine hv R env σ H1 s1 rl1 _ x hw1 ox _ fun v s2 y H2 hw2 f2 j2 a2 => ?_
    have rl2 := rl1.step f2 j2
    refine r.run rl2 hw2 ox fun kvs s3 xs H3 hk3 f3 j3 a3 => ?_
    have e : a = kV key := a1.ky hkey
    subst e
    exact hQ _ s3 ((key, y) :: xs) H3 hk3 ((f1.trans f2).trans f3) j3 (.cons (a2.mv f3.mv) a3)
theorem sim_dispR {ts : List (TE × TE)} {ws : List (WE Rg × WE Rg)} (h : SimPs G ts ws) : SimE RW G (tDisp ts) (wDispR ws) := fun R env σ H s rl k x hw ox Q hQ => fun p hp => by
  obtain ⟨f1, j1⟩ := rg_new (o := .dic []) (u := .dK []) rl.at_.j hp rfl ⟨[], upd_same, .nil⟩
  have rl1 := rl.step f1 j1
  refine h.run rl1 (hw p (rg_none rl.at_.j hp)) ox fun kvs s2 xs H2 hk f2 j2 a2 => ?_
  obtain ⟨q, fl, hl, hk⟩ := hk
  have rl2 := rl1.step f2 j2
  obtain ⟨_, ys, e, l0⟩ := j2 p _ q
  cases l0
  have into : DaK (fun x => s2 x ≠ none) H2 xs kvs := a2.fl (fun _ _ e => ⟨e, fun c => RJ.ct j2 c e⟩) fl
  have ff : D.flts ((mrgD [] kvs).map (·.2)) = true := flts_mrg rfl fl
  have keep : ∀ t zs, H2 t = some (.tup zs) → upd H2 p (.dK (mergeK [] xs)) t = some (.tup zs) ∧ ¬ (s2 t ≠ none) := fun t zs et => ⟨by rw [upd_ne fun zz => by rw [zz, e] at et; cases et]; exact et, fun c => RJ.ct j2 c et⟩
  obtain ⟨p2, p3⟩ := rg_write (o := .dic (mrgD [] kvs)) (u := .dK (mergeK [] xs)) j2 q ff ⟨_, upd_same, (DaK.mrg into .nil).fl keep ff⟩
  exact ⟨e, xs, rfl, by rw [a2.len]; exact hl, hQ _ _ _ _ hk ((f1.trans f2).trans p2) p3 (.opq p)⟩
end
end Dw
set_option Elab.async false
set_option linter.all false
set_option maxRecDepth 100000
set_option maxHeartbeats 4000000
/-! Rp: dicts of the registry with ints, texts or tuples of these for keys; d.get(k, x) of nested ones; d[k] as a target. -/
namespace L2
open PySem PySem.Spec PyProof.Rows PySem.W
def tNGetD (P : Program) (w : World) (td ty tx : TE) : TE := fun σ H Q => td σ H fun x H1 => ∃ a, x = .ref a ∧ (∃ xs, ND P w H1 a xs) ∧ ty σ H1 fun y H2 => tx σ H2 fun z H3 => ∃ b xs k, y = .ref b ∧ ND P w H3 a xs ∧ KeyV H3 k (.ref b) ∧ k.depth ≤ 8 ∧ Q ((atN xs k).getD z) H3
theorem pe_ngetd {X : Cx} {o e f : Expr} {apos cpos : Pos} {td ty tx : TE} (hu : X.A.units + 9 < cLine) (ho : PE X o td) (he : PE X e ty) (hf : PE X f tx) (m : M2 X o "get" apos e f cpos) : PE X (.Call (.Attribute o "get" apos) [e, f] [] cpos) (tNGetD X.prog X.w td ty tx) := by
  refine ⟨fun pins s σ H Q I h => ?_⟩
  refine wpAny_Call_method m.base m.few m.line PySem.F.plainAttrs_dict PySem.F.slot_dict_get PySem.F.type_dict_get (thn (ho.run pins s σ H _ I h) fun u s1 ⟨x, H1, I1, rx, a, ex, ⟨xs, d⟩, q1⟩ => ?_)
  subst ex
  obtain rfl : u = Value.ref a := rx
  obtain ⟨hs, _, ys, _, dd⟩ := d.of I1
  refine ⟨dd.typeIs, fun b q => ?_, ?_⟩
  · cases q
    obtain ⟨ob, _, _, h1, h2, _⟩ := dd
    exact ⟨ob, h1, h2.2.1⟩
  rw [m.trees]
  refine Calls.callWith_builtin rfl (Calls.evalArgs_plain (Calls.spliced_cons (thn (he.run pins s1 σ H1 _ I1 q1) fun iv s2 ⟨y, H2, I2, ry, q2⟩ =>
    Calls.spliced_cons (thn (hf.run pins s2 σ H2 _ I2 q2) fun fv s3 ⟨z, H3, I3, rz, b, xs', k, ey, d', kk, kd, q3⟩ => Calls.spliced_nil ?_))))
  subst ey
  obtain rfl : iv = Value.ref b := ry
  obtain ⟨_, _, ys', r, dd'⟩ := d'.of I3
  refine call_meetsIn PySem.F.slot_dict_get dd'.typeIs PySem.F.entry_dict_get (PySem.F.args_dict_get_3 _ _ _) (meetsH_dict_get_default (nestedKind X.prog X.w) a b hs fv) ⟨(show X.A.in1.units + 8 < cLine from by show X.A.units + 1 + 8 < cLine; omega), k, ys', ⟨kk.is I3.hok rfl, kd⟩, dd', ?_⟩
  refine ⟨_, H3, I3.tok _, ?_, q3⟩
  rcases NR.at (k := k) r with ⟨x1, y1⟩ | ⟨v, p, x1, y1, z1⟩
  · rw [x1, y1]
    exact rz
  · rw [x1, y1]
    exact z1
theorem kNGD {X : Cx} {P : Program} {w : World} {o e f : Expr} {apos cpos : Pos} {td ty tx : TE} (hu : X.A.units + 9 < cLine) (ho : PE X o td) (he : PE X e ty) (hf : PE X f tx) (m : M2 X o "get" apos e f cpos) (e1 : X.prog = P := by rfl) (e2 : X.w = w := by rfl) : PE X (.Call (.Attribute o "get" apos) [e, f] [] cpos) (tNGetD P w td ty tx) := by
  subst e1 e2
  exact pe_ngetd hu ho he hf m
end L2
namespace Dw
open PySem PySem.Spec PyProof.Rows L2
/-- what d tells of the key e: none where the rule does not serve -/
def dgetR (s : Rg) (d e : D) : Option (Option D) := match d with
  | .opq a => (match s a with
    | some (.dic kvs) => e.ky.map (valK kvs)
    | some (.dit kvs) => (match e with
      | .tup es => (D.keys es).map (valD kvs)
      | _ => none)
    | _ => none)
  | .dic kvs => e.ky.map (valK kvs)
  | .dit kvs => (match e with
    | .tup es => (D.keys es).map (valD kvs)
    | _ => none)
  | _ => none
def dputR (s : Rg) (a : Addr) (e v : D) : Option Mo := match s a with
  | some (.dic kvs) => if kvs.length < sizeLine then e.ky.map fun k => .dic (putKD kvs k v) else none
  | some (.dit kvs) => (match e with
    | .tup es => if kvs.length < sizeLine then (D.keys es).map fun k => .dit (putD kvs k v) else none
    | _ => none)
  | _ => none
@[simp] def wNewDT : WE Rg := fun _ s k _ => ∀ a, s a = none → k (.opq a) (rup s a (.dit []))
@[simp] def wGetR (wd wk : WE Rg) : WE Rg := fun env s k x => wd env s (fun d s1 => wk env s1 (fun e s2 => match dgetR s2 d e with
  | some (some v) => k v s2
  | _ => False) x) x
@[simp] def wInR (wk wd : WE Rg) : WE Rg := fun env s k x => wk env s (fun e s1 => wd env s1 (fun d s2 => match dgetR s2 d e with
  | some o => k (.bl o.isSome) s2
  | none => False) x) x
@[simp] def wNotInR (wk wd : WE Rg) : WE Rg := fun env s k x => wk env s (fun e s1 => wd env s1 (fun d s2 => match dgetR s2 d e with
  | some o => k (.bl (!o.isSome)) s2
  | none => False) x) x
@[simp] def wPutR (wv wd wk : WE Rg) : WS Rg := fun KK env s => wv env s (fun v s0 => wd env s0 (fun d s1 => wk env s1 (fun e s2 => match d with
  | .opq a => v.flt = true ∧ (match dputR s2 a e v with
    | some o => KK.nx env (rup s2 a o)
    | none => False)
  | _ => False) KK.xc) KK.xc) KK.xc
/-- d[k], e[l] = x, y -/
@[simp] def wParDD (wa wb wd wk we wl : WE Rg) : WS Rg := fun KK env s => wa env s (fun v s1 => wb env s1 (fun u s2 => wd env s2 (fun d s3 => wk env s3 (fun i s4 => match d with
  | .opq a => v.flt = true ∧ (match dputR s4 a i v with
    | some o => we env (rup s4 a o) (fun e s5 => wl env s5 (fun j s6 => match e with
      | .opq b => u.flt = true ∧ (match dputR s6 b j u with
        | some o => KK.nx env (rup s6 b o)
        | none => False)
      | _ => False) KK.xc) KK.xc
    | none => False)
  | _ => False) KK.xc) KK.xc) KK.xc) KK.xc
@[simp] def wNGetD (P : Program) (w : World) (wd wk wx : WE Rg) : WE Rg := fun env s k x => wd env s (fun d s1 => match d with
  | .opq a => (∃ xs, s1 a = some (.nst P w xs)) ∧ wk env s1 (fun e s2 => wx env s2 (fun z s3 => ∃ xs ds key, s3 a = some (.nst P w xs) ∧ e = .tup ds ∧ e.nk = some key ∧ key.depth ≤ 8 ∧ k (match atNI xs key with
    | some n => .int n
    | none => z) s3) x) x
  | _ => False) x
/-- xs[i] = e, xs of the registry, told by an expression -/
@[simp] def wSetME (wv wo wk : WE Rg) : WS Rg := fun KK env s => wv env s (fun v s0 => wo env s0 (fun d s1 => wk env s1 (fun i s2 => match d, i with
  | .opq a, .int z => v.flt = true ∧ (match s2 a with
    | some (.lst ds) => (match ixN ds.length z with
      | some j => KK.nx env (rup s2 a (.lst (ds.set j v)))
      | none => False)
    | _ => False)
  | _, _ => False) KK.xc) KK.xc) KK.xc
section
variable {G : Gm Rg} {K : PySem.W.Frag} {P : Program} {w : World} {R : Addr → Prop} {s : Rg} {H : Hp}
theorem dget_at {v u : V} {d e : D} {o : Option D} (t : At RW R s H) (a : Da (Bf RW R s) H v d) (b : Da (Bf RW R s) H u e) (h : dgetR s d e = some o) : ∃ (q : Addr) (vo : Option V), v = .ref q ∧ DGet H q u vo ∧ ((vo = none ∧ o = none) ∨ ∃ x z, vo = some x ∧ o = some z ∧ Da (Bf RW R s) H x z) := by
  have K1 : ∀ {q : Addr} {xs : List (Key × V)} {kvs : List (Key × D)}, H q = some (.dK xs) → DaK (Bf RW R s) H xs kvs → e.ky.map (valK kvs) = some o → ∃ vo : Option V, DGet H q u vo ∧ ((vo = none ∧ o = none) ∨ ∃ x z, vo = some x ∧ o = some z ∧ Da (Bf RW R s) H x z) := fun {q xs kvs} e1 l h => by
    cases hk : e.ky with
    | none => rw [hk] at h; cases h
    | some key =>
      rw [hk] at h
      cases h
      obtain rfl := b.ky hk
      exact ⟨_, DGet.k e1, l.val⟩
  have K2 : ∀ {q : Addr} {xs : List (List Key × V)} {kvs : List (List Key × D)} {es : List D}, e = .tup es → H q = some (.dT xs) → DaT (Bf RW R s) H xs kvs → (D.keys es).map (valD kvs) = some o → ∃ vo : Option V, DGet H q u vo ∧ ((vo = none ∧ o = none) ∨ ∃ x z, vo = some x ∧ o = some z ∧ Da (Bf RW R s) H x z) := fun {q xs kvs es} ee e1 l h => by
    clear K1
    rename_i h0
    clear h0
    subst ee
    cases hk : D.keys es with
    | none => rw [hk] at h; cases h
    | some key =>
      rw [hk] at h
      cases h
      obtain ⟨b', rfl, hb⟩ := b.key hk
      exact ⟨_, DGet.t e1 hb, l.val⟩
  cases a with
  | dic e1 n l =>
    obtain ⟨vo, g1, g2⟩ := K1 e1 l h
    exact ⟨_, vo, rfl, g1, g2⟩
  | dit e1 n l =>
    unfold dgetR at h
    cases e with
    | tup es =>
      obtain ⟨vo, g1, g2⟩ := K2 rfl e1 l h
      exact ⟨_, vo, rfl, g1, g2⟩
    | _ => cases h
  | opq c =>
    unfold dgetR at h
    dsimp only at h
    cases q : s c with
    | none => rw [q] at h; cases h
    | some m =>
      rw [q] at h
      cases m with
      | dic ks =>
        obtain ⟨f, xs, e1, l⟩ := t.j c _ q
        obtain ⟨vo, g1, g2⟩ := K1 e1 (l.fl (fun _ _ e => ⟨e, t.tup e⟩) f) h
        exact ⟨c, vo, rfl, g1, g2⟩
      | dit ks =>
        obtain ⟨f, xs, e1, l⟩ := t.j c _ q
        cases e with
        | tup es =>
          obtain ⟨vo, g1, g2⟩ := K2 rfl e1 (l.fl (fun _ _ e => ⟨e, t.tup e⟩) f) h
          exact ⟨c, vo, rfl, g1, g2⟩
        | _ => cases h
      | _ => cases h
  | _ => unfold dgetR at h; cases h
theorem flts_putD {kvs : List (List Key × D)} {k : List Key} {v : D} (f : D.flts (kvs.map (·.2)) = true) (h : v.flt = true) : D.flts ((putD kvs k v).map (·.2)) = true := flts_of fun e he => by
  obtain ⟨p, hp, rfl⟩ := List.mem_map.mp he
  unfold putD at hp
  split at hp
  · obtain ⟨q, hq, rfl⟩ := List.mem_map.mp hp
    split
    · exact h
    · exact flts_mem f (List.mem_map.mpr ⟨q, hq, rfl⟩)
  · rcases List.mem_append.mp hp with hp | hp
    · exact flts_mem f (List.mem_map.mpr ⟨p, hp, rfl⟩)
    · rw [List.mem_singleton.mp hp]
      exact h
theorem dput_at {a : Addr} {u y : V} {e v : D} {o : Mo} (t : At RW R s H) (b : Da (Bf RW R s) H u e) (c : Da (Bf RW R s) H y v) (fl : v.flt = true) (h : dputR s a e v = some o) : ∃ H', DPut H a u y H' ∧ Fr RW s H (rup s a o) H' ∧ RW.J (rup s a o) H' := by
  unfold dputR at h
  cases q : s a with
  | none => rw [q] at h; cases h
  | some m =>
    rw [q] at h
    have into := RW.into t c fl
    cases m with
    | dic kvs =>
      dsimp only at h
      split at h
      · rename_i hz
        cases hk : e.ky with
        | none => rw [hk] at h; cases h
        | some key =>
          rw [hk] at h
          cases h
          obtain rfl := b.ky hk
          obtain ⟨f, xs, e1, l⟩ := t.j a _ q
          have keep : ∀ t ys, H t = some (.tup ys) → upd H a (.dK (putK xs key y)) t = some (.tup ys) ∧ ¬ (s t ≠ none) := fun t' ys et => ⟨by rw [upd_ne fun zz => by rw [zz, e1] at et; cases et]; exact et, fun c => RJ.ct t.j c et⟩
          obtain ⟨p2, p3⟩ := rg_write (o := .dic (putKD kvs key v)) (u := .dK (putK xs key y)) t.j q (flts_putK f fl) ⟨_, upd_same, (l.put into).fl keep (flts_putK f fl)⟩
          exact ⟨_, DPut.k e1 (by rw [l.len]; exact hz), p2, p3⟩
      · cases h
    | dit kvs =>
      cases e with
      | tup es =>
        dsimp only at h
        split at h
        · rename_i hz
          cases hk : D.keys es with
          | none => rw [hk] at h; cases h
          | some key =>
            rw [hk] at h
            cases h
            obtain ⟨b', rfl, hb⟩ := b.key hk
            obtain ⟨f, xs, e1, l⟩ := t.j a _ q
            have keep : ∀ t ys, H t = some (.tup ys) → upd H a (.dT (putK xs key y)) t = some (.tup ys) ∧ ¬ (s t ≠ none) := fun t' ys et => ⟨by rw [upd_ne fun zz => by rw [zz, e1] at et; cases et]; exact et, fun c => RJ.ct t.j c et⟩
            obtain ⟨p2, p3⟩ := rg_write (o := .dit (putD kvs key v)) (u := .dT (putK xs key y)) t.j q (flts_putD f fl) ⟨_, upd_same, (l.put into).fl keep (flts_putD f fl)⟩
            exact ⟨_, DPut.t e1 hb (by rw [l.len]; exact hz), p2, p3⟩
        · cases h
      | _ => cases h
    | _ => cases h
theorem sim_newDT : SimE RW G tDNewT wNewDT := fun R env σ H s rl k x hw ox Q hQ => fun p hp => by
  obtain ⟨p2, p3⟩ := rg_new (o := .dit []) (u := .dT []) rl.at_.j hp rfl ⟨[], upd_same, .nil⟩
  exact hQ _ _ _ _ (hw p (rg_none rl.at_.j hp)) p2 p3 (.opq p)
theorem sim_getR {td ty : TE} {wd wk : WE Rg} (hd : SimE RW G td wd) (hk : SimE RW G ty wk) : SimE RW G (tDGet td ty) (wGetR wd wk) := fun R env σ H s rl k x hw ox Q hQ =>
  hd R env σ H s rl _ x hw ox _ fun d s1 v H1 hw1 f1 j1 a1 => hk R env σ H1 s1 (rl.step f1 j1) _ x hw1 ox _ fun e s2 u H2 hw2 f2 j2 a2 => by
    have rl2 := (rl.step f1 j1).step f2 j2
    cases h : dgetR s2 d e with
    | none => rw [h] at hw2; exact hw2.elim
    | some o =>
      rw [h] at hw2
      obtain ⟨q, vo, rfl, g, r⟩ := dget_at rl2.at_ (a1.mv f2.mv) a2 h
      rcases r with ⟨rfl, rfl⟩ | ⟨y, z, rfl, rfl, a3⟩
      · exact hw2.elim
      · exact ⟨q, y, rfl, g, hQ _ s2 _ H2 hw2 (f1.trans f2) j2 a3⟩
theorem sim_inR {td ty : TE} {wd wk : WE Rg} (hk : SimE RW G ty wk) (hd : SimE RW G td wd) : SimE RW G (tDIn ty td) (wInR wk wd) := fun R env σ H s rl k x hw ox Q hQ =>
  hk R env σ H s rl _ x hw ox _ fun e s1 u H1 hw1 f1 j1 a1 => hd R env σ H1 s1 (rl.step f1 j1) _ x hw1 ox _ fun d s2 v H2 hw2 f2 j2 a2 => by
    have rl2 := (rl.step f1 j1).step f2 j2
    cases h : dgetR s2 d e with
    | none => rw [h] at hw2; exact hw2.elim
    | some o =>
      rw [h] at hw2
      obtain ⟨q, vo, rfl, g, r⟩ := dget_at rl2.at_ a2 (a1.mv f2.mv) h
      have : vo.isSome = o.isSome := by rcases r with ⟨rfl, rfl⟩ | ⟨y, z, rfl, rfl, _⟩ <;> rfl
      exact ⟨q, vo, rfl, g, by rw [this]; exact hQ _ s2 _ H2 hw2 (f1.trans f2) j2 (.bl _)⟩
theorem sim_notInR {td ty : TE} {wd wk : WE Rg} (hk : SimE RW G ty wk) (hd : SimE RW G td wd) : SimE RW G (tDNotIn ty td) (wNotInR wk wd) := fun R env σ H s rl k x hw ox Q hQ =>
  hk R env σ H s rl _ x hw ox _ fun e s1 u H1 hw1 f1 j1 a1 => hd R env σ H1 s1 (rl.step f1 j1) _ x hw1 ox _ fun d s2 v H2 hw2 f2 j2 a2 => by
    have rl2 := (rl.step f1 j1).step f2 j2
    cases h : dgetR s2 d e with
    | none => rw [h] at hw2; exact hw2.elim
    | some o =>
      rw [h] at hw2
      obtain ⟨q, vo, rfl, g, r⟩ := dget_at rl2.at_ a2 (a1.mv f2.mv) h
      have : vo.isSome = o.isSome := by rcases r with ⟨rfl, rfl⟩ | ⟨y, z, rfl, rfl, _⟩ <;> rfl
      exact ⟨q, vo, rfl, g, by rw [this]; exact hQ _ s2 _ H2 hw2 (f1.trans f2) j2 (.bl _)⟩
theorem ss_putR {td ty tv : TE} {wd wk wv : WE Rg} (hv : SimE RW G tv wv) (hd : SimE RW G td wd) (hk : SimE RW G ty wk) : SimS RW G (sDPut td ty tv) (wPutR wv wd wk) := fun R env σ H s rl KK hw Dn e =>
  hv R env σ H s rl _ KK.xc hw e.xc _ fun v s0 y H0 hw0 f0 j0 a0 => hd R env σ H0 s0 (rl.step f0 j0) _ KK.xc hw0 e.xc _ fun d s1 z H1 hw1 f1 j1 a1 => hk R env σ H1 s1 ((rl.step f0 j0).step f1 j1) _ KK.xc hw1 e.xc _ fun i s2 u H2 hw2 f2 j2 a2 => by
    have rl2 := ((rl.step f0 j0).step f1 j1).step f2 j2
    cases d with
    | opq a =>
      cases a1
      obtain ⟨fl, hw3⟩ := hw2
      cases h : dputR s2 a i v with
      | none => rw [h] at hw3; exact hw3.elim
      | some o =>
        rw [h] at hw3
        obtain ⟨H3, g, p2, p3⟩ := dput_at rl2.at_ a2 (a0.mv (f1.trans f2).mv) fl h
        exact ⟨a, _, rfl, g, e.nx R env σ _ _ hw3 (rl2.step p2 p3) (((f0.trans f1).trans f2).trans p2).mv⟩
    | _ => exact hw2.elim
theorem sim_ngetd {td tk tx : TE} {wd wk wx : WE Rg} (hd : SimE RW G td wd) (hk : SimE RW G tk wk) (hx : SimE RW G tx wx) : SimE RW G (tNGetD P w td tk tx) (wNGetD P w wd wk wx) := fun R env σ H s rl k x hw ox Q hQ =>
  hd R env σ H s rl _ x hw ox _ fun d s1 v H1 hw1 f1 j1 a1 => by
    have rl1 := rl.step f1 j1
    cases d with
    | opq a =>
      cases a1
      obtain ⟨⟨xs, q0⟩, hw1⟩ := hw1
      obtain ⟨_, ys0, nd0, _⟩ := j1 a _ q0
      refine ⟨a, rfl, ⟨ys0, nd0⟩, hk R env σ H1 s1 rl1 _ x hw1 ox _ fun e s2 u H2 hw2 f2 j2 a2 => ?_⟩
      have rl2 := rl1.step f2 j2
      refine hx R env σ H2 s2 rl2 _ x hw2 ox _ fun z s3 zv H3 hw3 f3 j3 a3 => ?_
      obtain ⟨xs, ds, key, q, rfl, nk, kd, hw3⟩ := hw3
      have a2' := a2.mv f3.mv
      have kv := a2'.nk nk
      cases a2' with
      | @tup b _ _ e1 n2 l z1 =>
        obtain ⟨_, ys, nd, ey⟩ := j3 a _ q
        refine ⟨b, ys, key, rfl, nd, kv, kd, ?_⟩
        rw [atN_I ey]
        cases hn : atNI xs key with
        | none =>
          rw [hn] at hw3
          exact hQ _ s3 _ H3 hw3 ((f1.trans f2).trans f3) j3 a3
        | some n =>
          rw [hn] at hw3
          exact hQ _ s3 _ H3 hw3 ((f1.trans f2).trans f3) j3 (.int n)
    | _ => exact hw1.elim
theorem ss_setME {to tv tk : TE} {wo wv wk : WE Rg} (hv : SimE RW G tv wv) (ho : SimE RW G to wo) (hk : SimE RW G tk wk) : SimS RW G (tAsg tv (gSub to tk rSetL)) (wSetME wv wo wk) := fun R env σ H s rl KK hw Dn e =>
  hv R env σ H s rl _ KK.xc hw e.xc _ fun v s0 y H0 hw0 f0 j0 a0 => ho R env σ H0 s0 (rl.step f0 j0) _ KK.xc hw0 e.xc _ fun d s1 z H1 hw1 f1 j1 a1 => hk R env σ H1 s1 ((rl.step f0 j0).step f1 j1) _ KK.xc hw1 e.xc _ fun i s2 u H2 hw2 f2 j2 a2 => by
    have rl2 := ((rl.step f0 j0).step f1 j1).step f2 j2
    cases d with
    | opq a =>
      cases i with
      | int zi =>
        cases a1
        obtain ⟨fl, hw2⟩ := hw2
        cases qs : s2 a with
        | none => rw [qs] at hw2; exact hw2.elim
        | some o =>
          rw [qs] at hw2
          cases o with
          | lst ds =>
            dsimp only at hw2
            cases qi : ixN ds.length zi with
            | none => rw [qi] at hw2; exact hw2.elim
            | some jj =>
              rw [qi] at hw2
              obtain ⟨f, xs, e1, l, z⟩ := j2 a _ qs
              have into := RW.into rl2.at_ (a0.mv (f1.trans f2).mv) fl
              have keep : ∀ t ys, H2 t = some (.tup ys) → upd H2 a (.lst (xs.set jj y)) t = some (.tup ys) ∧ ¬ (s2 t ≠ none) := fun t ys et => ⟨by rw [upd_ne fun zz => by rw [zz, e1] at et; cases et]; exact et, fun c => RJ.ct j2 c et⟩
              obtain ⟨p2, p3⟩ := rg_write (o := .lst (ds.set jj v)) (u := .lst (xs.set jj y)) j2 qs (flts_set f fl) ⟨_, upd_same, (l.setAt jj into).fl keep (flts_set f fl), by rw [List.length_set]; exact z⟩
              cases a2
              exact ⟨a, xs, zi, jj, rfl, rfl, e1, by rw [l.len]; exact qi, e.nx R env σ _ _ hw2 (rl2.step p2 p3) (((f0.trans f1).trans f2).trans p2).mv⟩
          | _ => exact hw2.elim
      | _ => exact hw2.elim
    | _ => exact hw2.elim
theorem ss_parDD {ta tb td tk te tl : TE} {wa wb wd wk we wl : WE Rg} (ha : SimE RW G ta wa) (hb : SimE RW G tb wb) (hd : SimE RW G td wd) (hk : SimE RW G tk wk) (he : SimE RW G te we) (hl : SimE RW G tl wl) :
    SimS RW G (tAsg (tTup (tCons ta (tCons tb tNil))) (gTup K 2 (gCons (gSub td tk rSetD) (gCons (gSub te tl rSetD) gNil)))) (wParDD wa wb wd wk we wl) := fun R env σ H s rl KK hw Dn en =>
  ha R env σ H s rl _ KK.xc hw en.xc _ fun v s1 y H1 hw1 f1 j1 a1 => hb R env σ H1 s1 (rl.step f1 j1) _ KK.xc hw1 en.xc _ fun u s2 z H2 hw2 f2 j2 a2 => by
    have rl2 := (rl.step f1 j1).step f2 j2
    refine ⟨(show 2 ≤ sizeLine by decide), fun q hq => ⟨q, _, rfl, .of upd_same, rfl, _, _, rfl, ?_⟩⟩
    have f3 := Fr.new_at (o := .tup [y, z]) hq rl2.at_
    have rl3 := rl2.step f3 (rl2.at_.new_at hq).j
    refine hd R env σ _ s2 rl3 _ KK.xc hw2 en.xc _ fun d s3 dv H3 hw3 f4 j4 a4 => ?_
    have rl4 := rl3.step f4 j4
    refine hk R env σ H3 s3 rl4 _ KK.xc hw3 en.xc _ fun i s4 iv H4 hw4 f5 j5 a5 => ?_
    have rl5 := rl4.step f5 j5
    cases d with
    | opq a =>
      cases a4
      obtain ⟨fl, hw4⟩ := hw4
      cases h : dputR s4 a i v with
      | none => rw [h] at hw4; exact hw4.elim
      | some o =>
        rw [h] at hw4
        obtain ⟨H5, g, p2, p3⟩ := dput_at rl5.at_ a5 (a1.mv (((f2.trans f3).trans f4).trans f5).mv) fl h
        refine ⟨a, H5, rfl, g, _, _, rfl, ?_⟩
        have rl6 := rl5.step p2 p3
        refine he R env σ H5 _ rl6 _ KK.xc hw4 en.xc _ fun e s5 ev H6 hw5 f7 j7 a7 => ?_
        have rl7 := rl6.step f7 j7
        refine hl R env σ H6 s5 rl7 _ KK.xc hw5 en.xc _ fun jx s6 jv H7 hw6 f8 j8 a8 => ?_
        have rl8 := rl7.step f8 j8
        cases e with
        | opq b =>
          cases a7
          obtain ⟨fu, hw6⟩ := hw6
          cases h' : dputR s6 b jx u with
          | none => rw [h'] at hw6; exact hw6.elim
          | some o' =>
            rw [h'] at hw6
            have fr := ((((f3.trans f4).trans f5).trans p2).trans f7).trans f8
            obtain ⟨H8, g', p4, p5⟩ := dput_at rl8.at_ a8 (a2.mv fr.mv) fu h'
            exact ⟨b, H8, rfl, g', rfl, en.nx R env σ _ _ hw6 (rl8.step p4 p5) (((f1.trans f2).trans fr).trans p4).mv⟩
        | _ => exact hw6.elim
    | _ => exact hw4.elim
end
end Dw
set_option Elab.async false
set_option linter.all false
set_option maxRecDepth 100000
set_option maxHeartbeats 4000000
/-! Rq: comprehensions over lists of the registry (which the body leaves as they are), found, waiting = [], [..]. -/
namespace Dw
open PySem PySem.Spec PyProof.Rows L2 RZ
section
variable {S : Type} (W : Wd S) (G : Gm S)
/-- an iterator of just these items, while ck holds of the state -/
structure ItrC (J : It) (ds : List D) (ck : S → Prop) (St : (Addr → Prop) → S → Hp → Prop) : Prop where
  cks : ∀ R s H, St R s H → ck s
  mv : ∀ R s H R' s' H', St R s H → Mv (Bf W R s) H (Bf W R' s') H' → W.J s' H' → ck s' → St R' s' H'
  go : ∀ i R s H, i < ds.length → St R s H → J.go i H
  stop : ∀ R s H, St R s H → J.stop ds.length H
  yld : ∀ i R s H x H', i < ds.length → St R s H → At W R s H → J.yld i H x H' → ∃ d, ds[i]? = some d ∧ Fr W s H s H' ∧ W.J s H' ∧ Da (Bf W R s) H' x d
abbrev WIC (S : Type) := List Sl → S → (List D → (S → Prop) → S → Prop) → (Xc → S → Prop) → Prop
def SimIC (t : TI) (w : WIC S) : Prop := ∀ R env σ H s, Rel W G R env σ H s → ∀ k x, w env s k x → XOk W G x → ∀ Q : It → Hp → Prop,
  (∀ ds ck s' J H' St, k ds ck s' → Fr W s H s' H' → W.J s' H' → ItrC W J ds ck St → St R s' H' → Q J H') → t σ H Q
end
section
variable {S : Type}
def wLcK (ck : S → Prop) (g : WG) (tt : WT S) (te : WE S) (vs : List Nat) : List D → List Sl → S → (List D → S → Prop) → (Xc → S → Prop) → Prop
  | [], _, s, k, _ => k [] s
  | d :: r, env, s, k, x => g d (wp env vs) fun env1 => tt env1 s (fun b s1 => if b = true then te env1 s1 (fun y s2 => ck s2 ∧ wLcK ck g tt te vs r env s2 (fun ys s3 => k (y :: ys) s3) x) x else ck s1 ∧ wLcK ck g tt te vs r env s1 k x) x
@[simp] def wLcKE (wi : WIC S) (g : WG) (tt : WT S) (te : WE S) (vs : List Nat) : WE S := fun env s k x => wi env s (fun ds ck s1 => ds.length ≤ sizeLine ∧ wLcK ck g tt te vs ds env s1 (fun ys s2 => k (.lst ys) s2) x) x
@[simp] def wLcKF (wi : WIC S) (g : WG) (tt : WT S) (te : WE S) (vs : List Nat) : WI S := fun env s k x => wi env s (fun ds ck s1 => ds.length ≤ sizeLine ∧ wLcK ck g tt te vs ds env s1 k x) x
end
section
variable {S : Type} {W : Wd S} {G : Gm S} {K : PySem.W.Frag}
theorem sim_lcKF {us : List Nat} {wi : TI} {g : TG} {tt : TT} {te : TE} {vs : List Nat} {wI : WIC S} {wg : WG} {wt : WT S} {we : WE S} (hi : SimIC W G wi wI) (hg : SimTg W G us g wg) (ht : SimT W G tt wt) (he : SimE W G te we) (hs : ∀ j, j ∈ us → j ∈ vs := by decide) :
    SimF W G (tLc wi g tt te vs) (wLcKF wI wg wt we vs) := by
  intro R env σ H s rl k x hw ox Q hQ
  refine hi R env σ H s rl _ x hw ox _ fun ds ck s1 J H1 St hw1 f1 j1 it st p hp => ?_
  obtain ⟨hlen, hw1⟩ := hw1
  have r1 := rl.step f1 j1
  have rm := r1.more (o := .lst []) hp
  have m0 := r1.at_.off (o := .lst []) hp
  have hz := r1.new0 hp
  have hn : ∀ i, (sg env i).isO = true → σ[i]? ≠ some (some (.ref p)) := fun i e z => by
    obtain ⟨q, h1, h2, _⟩ := r1.env.own i e
    rw [z] at h1
    cases h1
    exact (r1.at_.r p h2).1 hp
  refine ⟨fun i m H2 => m = ds.length - i ∧ i ≤ ds.length ∧ ∃ s2 acc da, wLcK ck wg wt we vs (ds.drop i) env s2 (fun ys s3 => k (da ++ ys) s3) x ∧ H2 p = some (.lst acc) ∧ acc.length ≤ i ∧ DaL (Bf W (fun a => R a ∨ a = p) s2) H2 acc da ∧
      Rel W G (fun a => R a ∨ a = p) env σ H2 s2 ∧ St (fun a => R a ∨ a = p) s2 H2 ∧ Fr W s1 H1 s2 H2, ⟨ds.length, by simp, Nat.zero_le _, s1, [], [], hw1, upd_same, Nat.le_refl _, .nil, rm, it.mv _ _ _ _ _ _ st m0 rm.at_.j (it.cks _ _ _ st), .new_at hp r1.at_⟩, ?_⟩
  rintro i m H2 ⟨rfl, hi', s2, acc, da, hw2, e2, la, da2, rl2, st2, f2⟩
  by_cases hlt : i < ds.length
  · refine .inr ⟨it.go i _ _ _ hlt st2, fun H' => i + 1 ≤ ds.length ∧ ∃ s2 acc da, wLcK ck wg wt we vs (ds.drop (i + 1)) env s2 (fun ys s3 => k (da ++ ys) s3) x ∧ H' p = some (.lst acc) ∧ acc.length ≤ i + 1 ∧ DaL (Bf W (fun a => R a ∨ a = p) s2) H' acc da ∧
      Rel W G (fun a => R a ∨ a = p) env σ H' s2 ∧ St (fun a => R a ∨ a = p) s2 H' ∧ Fr W s1 H1 s2 H', fun H' h => ⟨ds.length - (i + 1), by omega, rfl, h⟩, fun v H3 hy => ?_⟩
    obtain ⟨d, hd, f3, j3, a3⟩ := it.yld i _ _ _ v H3 hlt st2 rl2.at_ hy
    have dr : ds.drop i = d :: ds.drop (i + 1) := by
      have h1 := List.getElem?_eq_some_iff.mp hd
      obtain ⟨h2, h3⟩ := h1
      rw [List.drop_eq_getElem_cons h2, h3]
    rw [dr] at hw2
    have rl3 := rl2.step f3 j3
    have e3 := f3.kp _ _ e2 (rl2.at_.r p (.inr rfl)).2
    refine hg _ _ _ H3 s2 (rl3.wipe vs) v d a3 _ hw2 _ fun env1 σ1 hw3 rl4 ag ln => ⟨wipe_eq (ln.trans (L2.wipe_length σ vs)) hs ag, ?_⟩
    refine ht _ _ _ H3 s2 rl4 _ x hw3 ox _ fun b s4 H4 hw4 f4 j4 => ?_
    have rl5 := rl3.step f4 j4
    have e4 := f4.kp _ _ e3 (rl3.at_.r p (.inr rfl)).2
    cases b with
    | false =>
      obtain ⟨c4, hw4⟩ : ck s4 ∧ _ := by simpa using hw4
      exact Rd.iteF ⟨hlt, s4, acc, da, hw4, e4, by omega, (da2.mv f3.mv).mv f4.mv, rl5, it.mv _ _ _ _ _ _ st2 (f3.mv.trans f4.mv) j4 c4, (f2.trans f3).trans f4⟩
    | true =>
      refine Rd.iteT (he _ _ _ H4 s4 (rl4.step f4 j4) _ x (by simpa using hw4) ox _ fun y s5 yv H5 hw5 f5 j5 a5 => ?_)
      obtain ⟨c5, hw5⟩ := hw5
      have e5 := f5.kp _ _ e4 (rl5.at_.r p (.inr rfl)).2
      have rl6 := rl5.step f5 j5
      obtain ⟨rl7, m7⟩ := rl6.side (o := .lst (acc ++ [yv])) (.inr rfl) hz hn
      refine ⟨acc, e5, by rw [sizeLine_eq] at hlen ⊢; omega, hlt, s5, acc ++ [yv], da ++ [y], ?_, upd_same, by simp; omega, ?_, rl7, it.mv _ _ _ _ _ _ st2 (((f3.mv.trans f4.mv).trans f5.mv).trans m7) rl7.at_.j c5, ?_⟩
      · simpa using hw5
      · exact ((((da2.mv f3.mv).mv f4.mv).mv f5.mv).app (.cons a5 .nil)).mv m7
      · have f6 := ((f2.trans f3).trans f4).trans f5
        exact ⟨fun b o e n => by
          rw [upd_ne fun z => by rw [z, hp] at e; cases e]
          exact f6.kp b o e n, f6.grow, f6.new⟩
  · have e : i = ds.length := by omega
    subst e
    rw [List.drop_length] at hw2
    refine .inl ⟨it.stop _ _ _ st2, ?_⟩
    have nb : ¬ Bf W R s2 p := fun z => z.elim (fun q => (r1.at_.r p q).1 hp) (rl2.at_.r p (.inr rfl)).2
    exact hQ da s2 p acc H2 (by have hw2' : k (da ++ []) s2 := hw2; rwa [List.append_nil] at hw2') (f1.trans f2) rl2.at_.j (f1.none rl.at_.j hp j1) e2 nb da2 (by rw [← da2.len]; exact Nat.le_trans la hlen)
end
/-- one of the registry as it is walked -/
theorem itr_lstC {K : PySem.W.Frag} {a : Addr} {ds : List D} : ItrC RW (Itl K a) ds (fun s => s a = some (.lst ds)) (fun R s H => RW.J s H ∧ s a = some (.lst ds)) where
  cks R s H h := h.2
  mv R s H R' s' H' h m j c := ⟨j, c⟩
  go i R s H hi h := by
    obtain ⟨_, xs, e, l, z⟩ := h.1 a _ h.2
    obtain ⟨v, hv, _⟩ := l.get' (i := i) (d := ds[i]) (List.getElem?_eq_getElem hi)
    exact ⟨_, v, .of e, hv⟩
  stop R s H h := by
    obtain ⟨_, xs, e, l, z⟩ := h.1 a _ h.2
    exact ⟨_, .of e, Nat.le_of_eq l.len⟩
  yld i R s H x H' hi h at_ y := by
    obtain ⟨f, xs, e, l, z⟩ := h.1 a _ h.2
    obtain ⟨rfl, y⟩ := y
    obtain ⟨d, hd, q⟩ := l.get (y _ (.of e))
    exact ⟨d, hd, .refl, at_.j, RW.out at_ q (flts_mem f (List.mem_of_getElem? hd))⟩
theorem itr_enumC {K : PySem.W.Frag} {a : Addr} {ds : List D} : ItrC RW (Ite K a) (enumD 0 ds) (fun s => s a = some (.lst ds)) (fun R s H => RW.J s H ∧ s a = some (.lst ds)) where
  cks R s H h := h.2
  mv R s H R' s' H' h m j c := ⟨j, c⟩
  go i R s H hi h := by
    obtain ⟨_, xs, e, l, z⟩ := h.1 a _ h.2
    rw [enumD_len] at hi
    obtain ⟨v, hv, _⟩ := l.get' (i := i) (d := ds[i]) (List.getElem?_eq_getElem hi)
    exact ⟨_, v, .of e, hv⟩
  stop R s H h := by
    obtain ⟨_, xs, e, l, z⟩ := h.1 a _ h.2
    exact ⟨_, .of e, by rw [enumD_len]; exact Nat.le_of_eq l.len⟩
  yld i R s H x H' hi h at_ y := by
    obtain ⟨f, xs, e, l, z⟩ := h.1 a _ h.2
    obtain ⟨T, v, rfl, hT, rfl, y⟩ := y
    obtain ⟨d, hd, q⟩ := l.get (y _ (.of e))
    refine ⟨_, enumD_get 0 ds i d hd, .new_at hT at_, (at_.new_at hT).j, ?_⟩
    rw [Nat.zero_add]
    exact .tup upd_same (at_.fresh hT) (.cons (.int _) (.cons ((RW.out at_ q (flts_mem f (List.mem_of_getElem? hd))).mv (Fr.new_at hT at_).mv) .nil)) two_le
@[simp] def wiXM (w : WE Rg) : WIC Rg := fun env s k x => w env s (fun d s1 => match d with
  | .opq a => (match s1 a with
    | some (.lst ds) => k ds (fun s => s a = some (.lst ds)) s1
    | _ => False)
  | _ => False) x
@[simp] def wiEnumM (w : WA Rg) : WIC Rg := fun env s k x => w env s (fun ds s1 => match ds with
  | [.opq a] => (match s1 a with
    | some (.lst ds) => k (enumD 0 ds) (fun s => s a = some (.lst ds)) s1
    | _ => False)
  | _ => False) x
section
variable {G : Gm Rg} {K : PySem.W.Frag}
theorem si_xM {t : TE} {w : WE Rg} (h : SimE RW G t w) : SimIC RW G (iX K t) (wiXM w) := fun R env σ H s rl k x hw ox Q hQ => h R env σ H s rl _ x hw ox _ fun d s1 v H1 hw1 f1 j1 a1 => by
  cases d with
  | opq a =>
    cases a1
    cases qs : s1 a with
    | none => dsimp only at hw1; rw [qs] at hw1; exact hw1.elim
    | some o =>
      dsimp only at hw1
      rw [qs] at hw1
      cases o with
      | lst ds =>
        obtain ⟨f, xs, e, l, z⟩ := j1 a _ qs
        exact .inl ⟨_, rfl, ⟨_, .of e⟩, hQ ds _ s1 _ H1 _ hw1 f1 j1 itr_lstC ⟨j1, qs⟩⟩
      | _ => exact hw1.elim
  | _ => exact hw1.elim
theorem si_enumM {t : TA} {w : WA Rg} (h : SimA RW G t w) : SimIC RW G (iEnum K t) (wiEnumM w) := fun R env σ H s rl k x hw ox Q hQ => h R env σ H s rl _ x hw ox _ fun ds s1 vs H1 hw1 f1 j1 a1 => by
  match ds, a1, hw1 with
  | [.opq a], .cons (.opq _) .nil, hw1 =>
    cases qs : s1 a with
    | none => dsimp only at hw1; rw [qs] at hw1; exact hw1.elim
    | some o =>
      dsimp only at hw1
      rw [qs] at hw1
      cases o with
      | lst ds =>
        obtain ⟨f, xs, e, l, z⟩ := j1 a _ qs
        exact ⟨_, _, rfl, .of e, hQ _ _ s1 _ H1 _ hw1 f1 j1 itr_enumC ⟨j1, qs⟩⟩
      | _ => exact hw1.elim
end
section
variable {S : Type} {W : Wd S} {G : Gm S}
end
section
variable {S : Type} {W : Wd S} {G : Gm S} {K : PySem.W.Frag}
/-- x, y = [], [..]: both the def's own -/
@[simp] def wParNL (i j : Nat) (wa : WA S) : WS S := fun KK env s => wa env s (fun ds s1 => i < env.length ∧ j < env.length ∧ ds.length ≤ sizeLine ∧ KK.nx (ss (ss env i (.own [])) j (.own ds)) s1) KK.xc
end
end Dw
set_option Elab.async false
set_option linter.all false
set_option maxRecDepth 100000
set_option maxHeartbeats 4000000
/-! Zd: dict(zip(xs, ys)) of a list and a tuple: zip over any two iterators that are told by what they give. -/
namespace Zd
open PySem
/-- the iterator it over the thing at l: where it stands, and what it gives at a turn -/
structure Nx (prog : Program) (w : World) (it l : Addr) (St : Nat → Heap → Prop) (get : Nat → Option Value) : Prop where
  off : ∀ {k : Nat} {h h' : Heap} {b : Addr}, St k h → Heap.ExtBut b h h' → it ≠ b → l ≠ b → St k h'
  ex : ∀ {k : Nat} {h : Heap}, St k h → (∃ o, h.get? it = some o) ∧ ∃ o, h.get? l = some o
  item : ∀ {A : Around} {E : Value → Shared → Prop} {s : Shared} {k : Nat} {x : Value} {Q : Value → Shared → Prop}, St k s.heap → get k = some x → (∀ h', St (k + 1) h' → Heap.SameBut it s.heap h' → Q x { s with heap := h' }) → wpAny (model prog w) A (Builtin.SmallTypes.nextOf (.ref it)) Q E s
  stop : ∀ {A : Around} {E : Value → Shared → Prop} {s : Shared} {k : Nat} {Q : Value → Shared → Prop}, A.handled = none → St k s.heap → get k = none → (∀ h' e, Heap.ExtBut it s.heap h' → (∃ o, h'.get? e = some o ∧ o.cls = .type "StopIteration") → E (.ref e) { s with heap := h' }) → wpAny (model prog w) A (Builtin.SmallTypes.nextOf (.ref it)) Q E s
section
variable {prog : Program} {w : World} {it l : Addr}
theorem nx_list {xs : Array Value} (n : l ≠ it) : Nx prog w it l (fun k h => h.IsListIter it l k ∧ h.IsList l xs) (fun k => xs[k]?) where
  off h e a b := ⟨h.1.extBut e a, h.2.extBut e b⟩
  ex h := ⟨let ⟨o, q, _⟩ := h.1; ⟨o, q⟩, let ⟨o, q, _⟩ := h.2; ⟨o, q⟩⟩
  item h q f := wpAny_nextOf_list_item h.1 h.2 q fun h' a b => f h' ⟨a, h.2.extBut b.extBut n⟩ b
  stop hh h q f := wpAny_nextOf_list_end hh h.1 h.2 q f
theorem nx_tup {xs : Array Value} (n : l ≠ it) : Nx prog w it l (fun k h => h.IsTupleIter it l k ∧ h.IsTuple l xs) (fun k => xs[k]?) where
  off h e a b := ⟨h.1.extBut e a, h.2.extBut e b⟩
  ex h := ⟨let ⟨o, q, _⟩ := h.1; ⟨o, q⟩, let ⟨o, q, _⟩ := h.2; ⟨o, q⟩⟩
  item h q f := wpAny_nextOf_tuple_item h.1 h.2 q fun h' a b => f h' ⟨a, h.2.extBut b.extBut n⟩ b
  stop hh h q f := wpAny_nextOf_tuple_end hh h.1 h.2 q f
end
section
variable {prog : Program} {w : World} {A : Around} {E : Value → Shared → Prop} {s : Shared} {z TI TO i j l m : Addr} {S1 S2 : Nat → Heap → Prop} {g1 g2 : Nat → Option Value} {k : Nat} {x y : Value}
/-- the zip's first turn -/
theorem turn1 (D : ZipApart z TI TO i j l m) (N1 : Nx prog w i l S1 g1) (N2 : Nx prog w j m S2 g2) {a b : Value} {Q : Value → Shared → Prop} (hz : IsZip s.heap z TI TO .none) (pi : IsPair s.heap TI (.ref i) (.ref j)) (po : IsPair s.heap TO a b) (h1 : S1 k s.heap) (h2 : S2 k s.heap) (hx : g1 k = some x) (hy : g2 k = some y)
    (hQ : ∀ h', IsZip h' z TI TO (rawInt s.heap.objs.size) → S1 (k + 1) h' → S2 (k + 1) h' → IsPair h' s.heap.objs.size x y → (∀ c o, c ≠ z → c ≠ TO → c ≠ i → c ≠ j → s.heap.get? c = some o → h'.get? c = some o) → Q (.ref s.heap.objs.size) { s with heap := h' }) :
    wpAny (model prog w) A (Builtin.«zip.__next__» ⟨[.ref z], []⟩) (fun fin s' => ∃ v, fin = .done (.ret v) ∧ Q v s') E s := by
  (show wpAny _ _ (field (.ref z) 2 >>= _) _ _ _; refine wpAny_bind (wpAny_field hz rfl (x := .bool false) rfl ?_))
  (show wpAny _ _ (field (.ref z) 3 >>= _) _ _ _; refine wpAny_bind (wpAny_field hz rfl (x := .ref TI) rfl (wpAny_bind (wpAny_seqItems pi rfl ?_))))
  (show wpAny _ _ (Builtin.SmallTypes.ownedTupleIsFree (.ref z) >>= _) _ _ _; refine wpAny_bind ?_; unfold Builtin.SmallTypes.ownedTupleIsFree)
  refine wpAny_bind (wpAny_field hz rfl (x := .none) rfl (wpAny_pure ?_))
  (simp only [if_true]; refine wpAny_bind (wpAny_rule (wpAny_bind (wpAny_field hz rfl (x := .ref TO) rfl (wpAny_bind (wpAny_setField_rec hz (by simp) fun ha za sa => ?_))))))
  replace za : IsZip ha z TI TO .ellipsis := za
  (refine wpAny_bind ?_; simp only [List.zipIdx_cons, List.zipIdx_nil, List.forIn_cons, List.forIn_nil]; refine wpAny_bind (wpAny_bind (wpAny_onRaise ?_)))
  (show wpAny _ _ (Builtin.SmallTypes.nextOf (.ref i) >>= _) _ _ _; refine wpAny_bind (N1.item (N1.off h1 sa.extBut D.i1z D.l1z) hx fun hb b1 sb => wpAny_pure ?_))
  have tb : IsPair hb TO a b := sb.extBut _ _ D.TOi1 (sa.extBut _ _ D.TOz po)
  refine wpAny_bind (wpAny_seqItems tb rfl (wpAny_bind (wpAny_updateSeq_pair tb fun hc tc sc => ?_)))
  (replace tc : IsPair hc TO x b := tc; refine wpAny_bind (wpAny_letGo (wpAny_pure ?_)); refine wpAny_bind (wpAny_bind (wpAny_onRaise ?_)))
  (show wpAny _ _ (Builtin.SmallTypes.nextOf (.ref j) >>= _) _ _ _; refine wpAny_bind (N2.item (N2.off (N2.off (N2.off h2 sa.extBut D.i2z D.l2z) sb.extBut D.i12.symm D.l2i1) sc.extBut D.TOi2.symm D.l2TO) hy fun hd d2 sd => wpAny_pure ?_))
  have td : IsPair hd TO x b := sd.extBut _ _ D.TOi2 tc
  refine wpAny_bind (wpAny_seqItems td rfl (wpAny_bind (wpAny_updateSeq_pair td fun he te se => ?_)))
  (replace te : IsPair he TO x y := te; refine wpAny_bind (wpAny_letGo (wpAny_pure (wpAny_pure ?_))); refine wpAny_bind (wpAny_seqItems te rfl (wpAny_bind (wpAny_newTuple ?_))))
  have sz : he.objs.size = s.heap.objs.size := by rw [se.1, sd.1, sc.1, sb.1, sa.1]
  have ze : IsZip he z TI TO .ellipsis := se.extBut _ _ D.TOz.symm (sd.extBut _ _ D.i2z.symm (sc.extBut _ _ D.TOz.symm (sb.extBut _ _ D.i1z.symm za)))
  have ke : ∀ c o, c ≠ z → c ≠ TO → c ≠ i → c ≠ j → s.heap.get? c = some o → he.get? c = some o := fun c o n1 n2 n3 n4 q => se.extBut _ _ n2 (sd.extBut _ _ n4 (sc.extBut _ _ n2 (sb.extBut _ _ n3 (sa.extBut _ _ n1 q))))
  have e1 : S1 (k + 1) he := N1.off (N1.off (N1.off b1 sc.extBut D.TOi1.symm D.l1TO) sd.extBut D.i12 D.l1i2) se.extBut D.TOi1.symm D.l1TO
  have e2 : S2 (k + 1) he := N2.off d2 se.extBut D.TOi2.symm D.l2TO
  have zlt : z < he.objs.size := Heap.lt_size ze
  (show wpAny _ _ (Builtin.SmallTypes.ownedTupleHandOut (.ref z) (.ref he.objs.size) >>= _) _ _ _; refine wpAny_bind ?_; unfold Builtin.SmallTypes.ownedTupleHandOut)
  have zf : IsZip (he.push { cls := .type "tuple", data := .seq #[x, y] }) z TI TO .ellipsis := Heap.get?_push_of_some _ ze
  refine wpAny_bind (wpAny_setField_rec zf (by simp) fun hg zg sg => ?_)
  (replace zg : IsZip hg z TI TO (rawInt he.objs.size) := zg; refine wpAny_setField_rec zg (by simp) fun hl zl sl => ?_)
  replace zl : IsZip hl z TI TO (rawInt he.objs.size) := zl
  have up : Heap.ExtBut z he hl := fun c o c1 q => sl.extBut _ _ c1 (sg.extBut _ _ c1 (Heap.get?_push_of_some _ q))
  have tl : IsPair hl he.objs.size x y := sl.extBut _ _ (Nat.ne_of_gt zlt) (sg.extBut _ _ (Nat.ne_of_gt zlt) (Heap.get?_push_size _ rfl))
  rw [sz] at zl tl
  refine wpAny_pure ⟨_, rfl, ?_⟩
  (show Q (.ref he.objs.size) _; rw [sz])
  exact hQ hl zl (N1.off e1 up D.i1z D.l1z) (N2.off e2 up D.i2z D.l2z) tl fun c o n1 n2 n3 n4 q => up c o n1 (ke c o n1 n2 n3 n4 q)
/-- a later turn: the tuple T that was given out first is still there -/
theorem turn2 (D : ZipApart z TI TO i j l m) (N1 : Nx prog w i l S1 g1) (N2 : Nx prog w j m S2 g2) {T : Addr} {f : Bool} {oT : Obj} {Q : Value → Shared → Prop} (hz : IsZipHeld s.heap z TI TO T f) (hT : s.heap.get? T = some oT) (pi : IsPair s.heap TI (.ref i) (.ref j)) (h1 : S1 k s.heap) (h2 : S2 k s.heap) (hx : g1 k = some x) (hy : g2 k = some y)
    (hQ : ∀ h', IsZipHeld h' z TI TO T true → S1 (k + 1) h' → S2 (k + 1) h' → IsPair h' s.heap.objs.size x y → (∀ c o, c ≠ z → c ≠ i → c ≠ j → s.heap.get? c = some o → h'.get? c = some o) → Q (.ref s.heap.objs.size) { s with heap := h' }) :
    wpAny (model prog w) A (Builtin.«zip.__next__» ⟨[.ref z], []⟩) (fun fin s' => ∃ v, fin = .done (.ret v) ∧ Q v s') E s := by
  (show wpAny _ _ (field (.ref z) 2 >>= _) _ _ _; refine wpAny_bind (wpAny_field hz rfl (x := .bool false) rfl ?_))
  (show wpAny _ _ (field (.ref z) 3 >>= _) _ _ _; refine wpAny_bind (wpAny_field hz rfl (x := .ref TI) rfl (wpAny_bind (wpAny_seqItems pi rfl ?_))))
  (show wpAny _ _ (Builtin.SmallTypes.ownedTupleIsFree (.ref z) >>= _) _ _ _; refine wpAny_bind (wpAny_tupleHeld_zip hz hT fun ha za sa => ?_))
  (simp only [Bool.false_eq_true, if_false]; refine wpAny_bind ?_; rw [← Array.forIn_toList]; simp only [List.forIn_cons, List.forIn_nil]; refine wpAny_bind (wpAny_bind (wpAny_holding ?_)))
  (show wpAny _ _ (Builtin.SmallTypes.nextOf (.ref i) >>= _) _ _ _; refine wpAny_bind (N1.item (s := { s with heap := ha }) (N1.off h1 sa.extBut D.i1z D.l1z) hx fun hb b1 sb => wpAny_pure (wpAny_pure ?_)))
  refine wpAny_bind (wpAny_bind (wpAny_holding ?_))
  (show wpAny _ _ (Builtin.SmallTypes.nextOf (.ref j) >>= _) _ _ _; refine wpAny_bind (N2.item (s := { s with heap := hb }) (N2.off (N2.off h2 sa.extBut D.i2z D.l2z) sb.extBut D.i12.symm D.l2i1) hy fun hd d2 sd => wpAny_pure (wpAny_pure (wpAny_pure ?_))))
  (show wpAny _ _ (newTuple [x, y] >>= _) _ _ _; refine wpAny_bind (wpAny_newTuple ?_))
  have sz : hd.objs.size = s.heap.objs.size := by rw [sd.1, sb.1, sa.1]
  have zd : IsZipHeld hd z TI TO T true := sd.extBut _ _ D.i2z.symm (sb.extBut _ _ D.i1z.symm za)
  have up : ∀ b : Addr, Heap.ExtBut b hd (hd.push { cls := .type "tuple", data := .seq #[x, y] }) := fun b c o _ q => Heap.get?_push_of_some _ q
  have tp : IsPair (hd.push { cls := .type "tuple", data := .seq #[x, y] }) hd.objs.size x y := Heap.get?_push_size _ rfl
  refine wpAny_pure ⟨_, rfl, ?_⟩
  (show Q (.ref hd.objs.size) _; rw [sz] at tp ⊢)
  exact hQ _ (Heap.get?_push_of_some _ zd) (N1.off (N1.off b1 sd.extBut D.i12 D.l1i2) (up z) D.i1z D.l1z) (N2.off d2 (up z) D.i2z D.l2z) tp fun c o n1 n2 n3 q => Heap.get?_push_of_some _ (sd.extBut _ _ n3 (sb.extBut _ _ n2 (sa.extBut _ _ n1 q)))
/-- the end, where nothing was given out -/
theorem stop1 (hh : A.handled = none) (D : ZipApart z TI TO i j l m) (N1 : Nx prog w i l S1 g1) {Q : Fin → Shared → Prop} (hz : IsZip s.heap z TI TO .none) (pi : IsPair s.heap TI (.ref i) (.ref j)) (h1 : S1 k s.heap) (hx : g1 k = none)
    (hE : ∀ h' e, (∀ c o, c ≠ z → c ≠ i → s.heap.get? c = some o → h'.get? c = some o) → (∃ o, h'.get? e = some o ∧ o.cls = .type "StopIteration") → E (.ref e) { s with heap := h' }) :
    wpAny (model prog w) A (Builtin.«zip.__next__» ⟨[.ref z], []⟩) Q E s := by
  (show wpAny _ _ (field (.ref z) 2 >>= _) _ _ _; refine wpAny_bind (wpAny_field hz rfl (x := .bool false) rfl ?_))
  (show wpAny _ _ (field (.ref z) 3 >>= _) _ _ _; refine wpAny_bind (wpAny_field hz rfl (x := .ref TI) rfl (wpAny_bind (wpAny_seqItems pi rfl ?_))))
  (show wpAny _ _ (Builtin.SmallTypes.ownedTupleIsFree (.ref z) >>= _) _ _ _; refine wpAny_bind ?_; unfold Builtin.SmallTypes.ownedTupleIsFree)
  refine wpAny_bind (wpAny_field hz rfl (x := .none) rfl (wpAny_pure ?_))
  (simp only [if_true]; refine wpAny_bind (wpAny_rule (wpAny_bind (wpAny_field hz rfl (x := .ref TO) rfl (wpAny_bind (wpAny_setField_rec hz (by simp) fun ha za sa => ?_))))))
  replace za : IsZip ha z TI TO .ellipsis := za
  (refine wpAny_bind ?_; simp only [List.zipIdx_cons, List.zipIdx_nil, List.forIn_cons, List.forIn_nil]; refine wpAny_bind (wpAny_bind (wpAny_onRaise ?_)))
  (show wpAny _ _ (Builtin.SmallTypes.nextOf (.ref i) >>= _) _ _ _; refine wpAny_bind (N1.stop hh (N1.off h1 sa.extBut D.i1z D.l1z) hx fun hb e sb he => ?_))
  obtain ⟨oe, q1, q2⟩ := he
  have zb : IsZip hb z TI TO .ellipsis := sb _ _ D.i1z.symm za
  have ez : e ≠ z := fun x => by subst x; rw [zb] at q1; cases q1; simp at q2
  exact wpAny_setField_rec zb (by simp) fun hc _ sc => hE hc e (fun c o c1 c2 x => sc.extBut _ _ c1 (sb _ _ c2 (sa.extBut _ _ c1 x))) ⟨oe, sc.extBut _ _ ez q1, q2⟩
theorem stop2 (hh : A.handled = none) (D : ZipApart z TI TO i j l m) (N1 : Nx prog w i l S1 g1) {T : Addr} {f : Bool} {oT : Obj} {Q : Fin → Shared → Prop} (hz : IsZipHeld s.heap z TI TO T f) (hT : s.heap.get? T = some oT) (pi : IsPair s.heap TI (.ref i) (.ref j)) (h1 : S1 k s.heap) (hx : g1 k = none)
    (hE : ∀ h' e, (∀ c o, c ≠ z → c ≠ i → s.heap.get? c = some o → h'.get? c = some o) → (∃ o, h'.get? e = some o ∧ o.cls = .type "StopIteration") → E (.ref e) { s with heap := h' }) :
    wpAny (model prog w) A (Builtin.«zip.__next__» ⟨[.ref z], []⟩) Q E s := by
  (show wpAny _ _ (field (.ref z) 2 >>= _) _ _ _; refine wpAny_bind (wpAny_field hz rfl (x := .bool false) rfl ?_))
  (show wpAny _ _ (field (.ref z) 3 >>= _) _ _ _; refine wpAny_bind (wpAny_field hz rfl (x := .ref TI) rfl (wpAny_bind (wpAny_seqItems pi rfl ?_))))
  (show wpAny _ _ (Builtin.SmallTypes.ownedTupleIsFree (.ref z) >>= _) _ _ _; refine wpAny_bind (wpAny_tupleHeld_zip hz hT fun ha za sa => ?_))
  (simp only [Bool.false_eq_true, if_false]; refine wpAny_bind ?_; rw [← Array.forIn_toList]; simp only [List.forIn_cons, List.forIn_nil]; refine wpAny_bind (wpAny_bind (wpAny_holding ?_)))
  (show wpAny _ _ (Builtin.SmallTypes.nextOf (.ref i) >>= _) _ _ _; refine wpAny_bind (N1.stop (s := { s with heap := ha }) hh (N1.off h1 sa.extBut D.i1z D.l1z) hx fun hb e sb he => hE hb e (fun c o c1 c2 x => sb _ _ c2 (sa.extBut _ _ c1 x)) he))
theorem py_item {Q : Option Value → Shared → Prop} {T : Addr} (hz : s.TypeIs (.ref z) "zip") (h : wpAny (model prog w) A.in1 (Builtin.«zip.__next__» ⟨[.ref z], []⟩) (fun fin s' => ∃ v, fin = .done (.ret v) ∧ Q (some v) s') (fun e s' => (∃ a o, e = .ref a ∧ s'.heap.get? a = some o ∧ o.cls = .type "StopIteration") ∧ Q none s') s) : wpAny (model prog w) A (pyNext (.ref z)) Q E s := by
  unfold pyNext
  refine wpAny_bind (wpAny_attempt (wpAny_callSpecial?_slot (name := Str.ofString "__next__") hz F.slot_zip_next (wpAny_call_entry F.slot_zip_next hz F.entry_zip_next (wpAny_mono h (fun fin s' q => ?_) fun e s' q => ?_) (F.args_zip_next_1 _))))
  · obtain ⟨v, rfl, q⟩ := q
    exact ⟨v, rfl, wpAny_pure q⟩
  · obtain ⟨⟨a, o, rfl, ho, hc⟩, q⟩ := q
    exact wpAny_bind (wpAny_isInstance (T := "StopIteration") (b := true) ⟨o, ho, hc⟩ isSubtype_stop (wpAny_pure q))
end
section
variable {prog : Program} {w : World} {z TI TO i j l m : Addr} {S1 S2 : Nat → Heap → Prop} {g1 g2 : Nat → Option Value}
/-- where a zip stands -/
def At (z TI TO i j d : Addr) (S1 S2 : Nat → Heap → Prop) (k : Nat) (h : Heap) : Prop := IsPair h TI (.ref i) (.ref j) ∧ S1 k h ∧ S2 k h ∧
  ((IsZip h z TI TO .none ∧ ∃ a b, IsPair h TO a b) ∨ ∃ T f oT, IsZipHeld h z TI TO T f ∧ h.get? T = some oT ∧ T ≠ z ∧ T ≠ i ∧ T ≠ j ∧ T ≠ d)
theorem At.ty {d : Addr} {k : Nat} {s : Shared} (h : At z TI TO i j d S1 S2 k s.heap) : s.TypeIs (.ref z) "zip" := by
  rcases h.2.2.2 with ⟨q, _⟩ | ⟨T, f, oT, q, _⟩
  · exact ⟨_, q, rfl⟩
  · exact ⟨_, q, rfl⟩
theorem zipSrc {A : Around} {d : Addr} (hA : A.handled = none) (D : ZipApart z TI TO i j l m) (N1 : Nx prog w i l S1 g1) (N2 : Nx prog w j m S2 g2) {n : Nat} (e1 : ∀ k, k < n → ∃ x, g1 k = some x) (e2 : ∀ k, k < n → ∃ x, g2 k = some x) (e3 : g1 n = none)
    (hd : ∀ b, b = z ∨ b = TI ∨ b = TO ∨ b = i ∨ b = j ∨ b = l ∨ b = m → d ≠ b) : PairSrc prog w A z d [z, TO, i, j] n (fun k x y => g1 k = some x ∧ g2 k = some y) (At z TI TO i j d S1 S2) := by
  have dz := hd z (by simp)
  have dTI := hd TI (by simp)
  have dTO := hd TO (by simp)
  have di := hd i (by simp)
  have dj := hd j (by simp)
  have dl := hd l (by simp)
  have dm := hd m (by simp)
  have nw : ∀ {c : Addr}, c ∉ [z, TO, i, j] → c ≠ z ∧ c ≠ TO ∧ c ≠ i ∧ c ≠ j := fun h => ⟨fun x => h (by simp [x]), fun x => h (by simp [x]), fun x => h (by simp [x]), fun x => h (by simp [x])⟩
  refine ⟨fun q => ?_, fun k h h' st hk => ?_, fun k s Q E hi st hds hQ => ?_, fun s Q E st hQ => ?_⟩
  · have q : d = z ∨ d = TO ∨ d = i ∨ d = j := by simpa using q
    rcases q with q | q | q | q
    · exact dz q
    · exact dTO q
    · exact di q
    · exact dj q
  · obtain ⟨pi, h1, h2, hz⟩ := st
    have x : Heap.ExtBut d h h' := hk
    refine ⟨hk _ _ (Ne.symm dTI) pi, N1.off h1 x (Ne.symm di) (Ne.symm dl), N2.off h2 x (Ne.symm dj) (Ne.symm dm), ?_⟩
    rcases hz with ⟨q, a, b, q2⟩ | ⟨T, f, oT, q, q2, r1, r2, r3, r4⟩
    · exact .inl ⟨hk _ _ (Ne.symm dz) q, a, b, hk _ _ (Ne.symm dTO) q2⟩
    · exact .inr ⟨T, f, oT, hk _ _ (Ne.symm dz) q, hk _ _ r4 q2, r1, r2, r3, r4⟩
  · have hty := st.ty
    obtain ⟨pi, h1, h2, hz⟩ := st
    obtain ⟨x, hx⟩ := e1 k hi
    obtain ⟨y, hy⟩ := e2 k hi
    have lt : ∀ {c o}, s.heap.get? c = some o → s.heap.objs.size ≠ c := fun q => Nat.ne_of_gt (Heap.lt_size q)
    have n1 : s.heap.objs.size ≠ i := let ⟨_, q⟩ := (N1.ex h1).1; lt q
    have n2 : s.heap.objs.size ≠ j := let ⟨_, q⟩ := (N2.ex h2).1; lt q
    refine py_item (T := z) hty ?_
    rcases hz with ⟨q, a, b, q2⟩ | ⟨T, f, oT, q, q2, r1, r2, r3, r4⟩
    · refine turn1 D N1 N2 q pi q2 h1 h2 hx hy fun h' a1 a2 a3 a4 hk => ?_
      exact hQ s.heap.objs.size _ _ h' s.toks ⟨hx, hy⟩ (.inl ⟨_, a4, rfl, _, rfl⟩) ⟨hk _ _ D.TIz D.TITO D.TIi1 D.TIi2 pi, a2, a3, .inr ⟨s.heap.objs.size, false, _, a1, a4, lt q, n1, n2, Nat.ne_of_gt hds⟩⟩ fun c o hc e => by
        obtain ⟨c1, c2, c3, c4⟩ := nw hc
        exact hk c o c1 c2 c3 c4 e
    · refine turn2 D N1 N2 q q2 pi h1 h2 hx hy fun h' a1 a2 a3 a4 hk => ?_
      exact hQ s.heap.objs.size _ _ h' s.toks ⟨hx, hy⟩ (.inl ⟨_, a4, rfl, _, rfl⟩) ⟨hk _ _ D.TIz D.TIi1 D.TIi2 pi, a2, a3, .inr ⟨T, true, oT, a1, hk _ _ r1 r2 r3 q2, r1, r2, r3, r4⟩⟩ fun c o hc e => by
        obtain ⟨c1, c2, c3, c4⟩ := nw hc
        exact hk c o c1 c3 c4 e
  · have hty := st.ty
    obtain ⟨pi, h1, h2, hz⟩ := st
    refine py_item (T := z) hty ?_
    rcases hz with ⟨q, a, b, q2⟩ | ⟨T, f, oT, q, q2, r1, r2, r3, r4⟩
    · refine stop1 (A := A.in1) hA D N1 q pi h1 e3 fun h' e hk he => ⟨⟨e, he.choose, rfl, he.choose_spec⟩, hQ h' s.toks fun c o hc x => ?_⟩
      obtain ⟨c1, c2, c3, c4⟩ := nw hc
      exact hk c o c1 c3 x
    · refine stop2 (A := A.in1) hA D N1 q q2 pi h1 e3 fun h' e hk he => ⟨⟨e, he.choose, rfl, he.choose_spec⟩, hQ h' s.toks fun c o hc x => ?_⟩
      obtain ⟨c1, c2, c3, c4⟩ := nw hc
      exact hk c o c1 c3 x
end
section
variable {prog : Program} {w : World}
/-- what a new zip of a list and a tuple is -/
structure Made (h h' : Heap) (a b : Addr) : Prop where
  zp : IsZip h' (h.objs.size + 4) (h.objs.size + 2) (h.objs.size + 3) .none
  ti : IsPair h' (h.objs.size + 2) (.ref h.objs.size) (.ref (h.objs.size + 1))
  to : IsPair h' (h.objs.size + 3) .none .none
  it : h'.IsListIter h.objs.size a 0
  jt : h'.IsTupleIter (h.objs.size + 1) b 0
  sz : h'.objs.size = h.objs.size + 5
  kp : ∀ c o, h.get? c = some o → h'.get? c = some o
abbrev P1 (h : Heap) (a : Addr) : Heap := h.push { cls := .type "list_iterator", data := .fields #[.ref a, .int 0 0] }
abbrev P2 (h : Heap) (a b : Addr) : Heap := (P1 h a).push { cls := .type "tuple_iterator", data := .fields #[.ref b, .int 0 0] }
abbrev P3 (h : Heap) (a b : Addr) : Heap := (P2 h a b).push { cls := .type "tuple", data := .seq #[.ref h.objs.size, .ref (P1 h a).objs.size] }
abbrev P4 (h : Heap) (a b : Addr) : Heap := (P3 h a b).push { cls := .type "tuple", data := .seq #[.none, .none] }
abbrev P5 (h : Heap) (a b : Addr) : Heap := (P4 h a b).push { cls := .type "zip", data := .fields #[.none, .bool false, .bool false, .ref (P2 h a b).objs.size, .ref (P3 h a b).objs.size] }
theorem made (h : Heap) (a b : Addr) : Made h (P5 h a b) a b := by
  have s1 : (P1 h a).objs.size = h.objs.size + 1 := Heap.size_push ..
  have s2 : (P2 h a b).objs.size = h.objs.size + 2 := by rw [Heap.size_push, s1]
  have s3 : (P3 h a b).objs.size = h.objs.size + 3 := by rw [Heap.size_push, s2]
  have s4 : (P4 h a b).objs.size = h.objs.size + 4 := by rw [Heap.size_push, s3]
  have s5 : (P5 h a b).objs.size = h.objs.size + 5 := by rw [Heap.size_push, s4]
  have u : ∀ {g : Heap} {o : Obj} {c : Addr} {q : Obj}, g.get? c = some q → (g.push o).get? c = some q := fun e => Heap.get?_push_of_some _ e
  have q5 : (P5 h a b).get? (P4 h a b).objs.size = some _ := Heap.get?_push_size _ rfl
  have q4 : (P5 h a b).get? (P3 h a b).objs.size = some _ := u (Heap.get?_push_size _ rfl)
  have q3 : (P5 h a b).get? (P2 h a b).objs.size = some _ := u (u (Heap.get?_push_size _ rfl))
  have q2 : (P5 h a b).get? (P1 h a).objs.size = some _ := u (u (u (Heap.get?_push_size _ rfl)))
  have q1 : (P5 h a b).get? h.objs.size = some _ := u (u (u (u (Heap.get?_push_size _ rfl))))
  rw [s4, s2, s3] at q5
  rw [s3] at q4
  rw [s2, s1] at q3
  rw [s1] at q2
  exact ⟨q5, q3, q4, ⟨_, q1, rfl, rfl⟩, ⟨_, q2, rfl, rfl⟩, s5, fun c o e => u (u (u (u (u e))))⟩
theorem new_zip (a b : Addr) (xs ys : Array Value) : Meets (Builtin.«zip.__new__» ⟨[.type "zip", .ref a, .ref b], []⟩) (fun _ R s => s.heap.IsList a xs ∧ s.heap.IsTuple b ys ∧ R (.ok (.ret (.ref (P4 s.heap a b).objs.size))) { s with heap := P5 s.heap a b }) := .of_wp fun prog w A R s h => by
  obtain ⟨hp, g, d, tk, os⟩ := s
  obtain ⟨ha, hb, h⟩ := h
  have hsub := sub_zip
  have la : Heap.IsList (Shared.heap ⟨hp, g, d, tk, os⟩) a xs := ha
  have lb : Heap.IsTuple (Shared.heap ⟨hp.push { cls := .type "list_iterator", data := .fields #[.ref a, .int 0 0] }, g, d, tk, os⟩) b ys := Heap.IsTuple.push hb _
  wp_walk using wpAny_pyIter_list la, wpAny_pyIter_tuple lb
  exact ⟨_, rfl, h⟩
theorem call_zipLT {A : Around} {E : Value → Shared → Prop} {s : Shared} {a b : Addr} {xs ys : Array Value} {Q : Value → Shared → Prop} (ha : s.heap.IsList a xs) (hb : s.heap.IsTuple b ys) (h : ∀ h', Made s.heap h' a b → Q (.ref (s.heap.objs.size + 4)) { s with heap := h' }) : wpAny (model prog w) A (call (.type "zip") [.ref a, .ref b]) Q E s := by
  refine callType_new F.called_zip (by decide) (F.typeCall_zip_2 _ _) (F.newCall_zip_2 _ _) (fun obj => F.args_object_init_3 obj _ _) F.entry_zip_new (new_zip a b xs ys) ⟨ha, hb, ?_⟩
  have m := made s.heap a b
  have e : (P4 s.heap a b).objs.size = s.heap.objs.size + 4 := by
    have := m.sz
    rw [Heap.size_push] at this
    omega
  show _ ∧ _
  rw [e]
  exact ⟨⟨_, m.zp, rfl⟩, h _ m⟩
/-- the zip as what dict() may take -/
theorem arg {a b I : Addr} (ha : a < I) (hb : b < I) (xs ys : Array Value) (hl : xs.size = ys.size) : PairArg prog w "zip" (I + 4) [I + 4, I + 2, I + 3, I, I + 1, a, b] [I + 4, I + 3, I, I + 1] xs.size (fun k x y => xs[k]? = some x ∧ ys[k]? = some y)
    (fun h => IsZip h (I + 4) (I + 2) (I + 3) .none ∧ IsPair h (I + 2) (.ref I) (.ref (I + 1)) ∧ IsPair h (I + 3) .none .none ∧ (h.IsListIter I a 0 ∧ h.IsList a xs) ∧ h.IsTupleIter (I + 1) b 0 ∧ h.IsTuple b ys) := by
  have D : ZipApart (I + 4) (I + 2) (I + 3) I (I + 1) a b := PySem.W.ktu_apart I a b ha hb
  have na : a ≠ I := Nat.ne_of_lt ha
  have nb : b ≠ I + 1 := Nat.ne_of_lt (Nat.lt_succ_of_lt hb)
  refine ⟨fun s ok => ⟨_, ok.1, rfl⟩, by decide, fun h h' ok hk => ?_, fun h ok c hc => ?_, fun c hc => ?_, fun A s Q E hA ok h => getAttrOr_miss_zip ok.1 rfl rfl rfl zip_no_keys (by decide +kernel) hA h, fun A s d Q E hA ok hd hdf h => ?_⟩
  · obtain ⟨q1, q2, q3, ⟨q4, q5⟩, q6, q7⟩ := ok
    exact ⟨hk _ _ q1, hk _ _ q2, hk _ _ q3, ⟨q4.at fun o e => hk _ o e, q5.at fun o e => hk _ o e⟩, q6.at fun o e => hk _ o e, let ⟨o, e, r⟩ := q7; ⟨o, hk _ _ e, r⟩⟩
  · obtain ⟨q1, q2, q3, ⟨⟨o4, q4, _⟩, o5, q5, _⟩, ⟨o6, q6, _⟩, o7, q7, _⟩ := ok
    simp only [List.mem_cons, List.not_mem_nil, or_false] at hc
    rcases hc with rfl | rfl | rfl | rfl | rfl | rfl | rfl
    · exact ⟨_, q1⟩
    · exact ⟨_, q2⟩
    · exact ⟨_, q3⟩
    · exact ⟨_, q4⟩
    · exact ⟨_, q6⟩
    · exact ⟨_, q5⟩
    · exact ⟨_, q7⟩
  · simp only [List.mem_cons, List.not_mem_nil, or_false] at hc ⊢
    rcases hc with rfl | rfl | rfl | rfl <;> simp
  · obtain ⟨q1, q2, q3, q4, q6, q7⟩ := ok
    have hdf' : ∀ c, c = I + 4 ∨ c = I + 2 ∨ c = I + 3 ∨ c = I ∨ c = I + 1 ∨ c = a ∨ c = b → d ≠ c := fun c hc e => hdf (by rw [e]; simpa using hc)
    exact wpAny_pyIter_zip q1 (h _ [I + 4, I + 3, I, I + 1] (At (I + 4) (I + 2) (I + 3) I (I + 1) d (fun k h => h.IsListIter I a k ∧ h.IsList a xs) fun k h => h.IsTupleIter (I + 1) b k ∧ h.IsTuple b ys) s.heap s.toks
      (zipSrc hA D (nx_list na) (nx_tup nb) (fun k hk => ⟨_, Array.getElem?_eq_getElem hk⟩) (fun k hk => ⟨_, Array.getElem?_eq_getElem (hl ▸ hk)⟩) (Array.getElem?_eq_none (Nat.le_refl _)) hdf') ⟨q2, q4, ⟨q6, q7⟩, .inl ⟨q1, _, _, q3⟩⟩ (fun _ _ e => e) fun c hc => .inl hc)
end
end Zd
set_option Elab.async false
set_option linter.all false
set_option maxRecDepth 100000
set_option maxHeartbeats 4000000
/-! Ze: dict(zip(xs, t)) as a reading, and over data. -/
namespace L2
open PySem PySem.Spec PyProof.Rows PySem.W
def mergeT (kvs more : List (List Key × V)) : List (List Key × V) := more.foldl (fun acc kv => putK acc kv.1 kv.2) kvs
theorem KT.merge {H : Hp} : ∀ {more : List (List Key × V)} {ps : List (List Key × Addr × Value)} {kvs : List (List Key × V)} {xs : List (List Key × Addr × Value)}, KT H more ps → KT H kvs xs → KT H (mergeT kvs more) (storedAllH xs ps)
  | _, _, _, _, .nil, r => r
  | p :: _, q :: _, _, _, .cons h t, r => by
    obtain ⟨h1, h2, h3⟩ := h
    show KT H (mergeT (putK _ p.1 p.2) _) (storedAllH (storedH _ q.1 q.2.1 q.2.2) _)
    rw [← h1]
    exact KT.merge t (r.put p.1 h2 h3)
/-- dict(zip(xs, t)): xs of tuples of ints and texts, t as long -/
def tDictZ (K : PySem.W.Frag) (ta : TA) : TE := fun σ H Q => ta σ H fun vs H1 => ∃ (a b : Addr) (ads : List Addr) (ks : List (List Key)) (ys : List V), vs = [.ref a, .ref b] ∧ SqL K H1 a (ads.map V.ref) ∧ SqT K H1 b ys ∧ ks.length = ads.length ∧ ys.length = ads.length ∧
  (∀ (i : Nat) (p : Addr) (k : List Key), ads[i]? = some p → ks[i]? = some k → H1 p = some (.tup (k.map kV))) ∧ ∀ p, H1 p = none → Q (.ref p) (upd H1 p (.dT (mergeT [] (ks.zip ys))))
theorem kt_zip {H : Hp} : ∀ {ads : List Addr} {ks : List (List Key)} {ys : List V} {us : List Value}, ks.length = ads.length → Vals ys us → ys.length = ads.length → (∀ (i : Nat) (p : Addr) (k : List Key), ads[i]? = some p → ks[i]? = some k → H p = some (.tup (k.map kV))) → KT H (ks.zip ys) (ks.zip (ads.zip us))
  | [], [], [], _, _, .nil, _, _ => .nil
  | p :: ads, k :: ks, y :: ys, _, hl, .cons r rr, hy, h => .cons ⟨rfl, h 0 p k rfl rfl, r⟩ (kt_zip (by simpa using hl) rr (by simpa using hy) fun i q m e1 e2 => h (i + 1) q m e1 e2)
section
variable {X : Cx}
theorem pe_dictZ {e1 e2 : Expr} {ta : TA} {p p2 q pos : Pos} (hu : X.A.units + 9 < cLine) (hg : Gl X "dict") (hm : X.mg "dict" = none) (hg2 : Gl X "zip") (hm2 : X.mg "zip" = none) (ha : PA X [e1, e2] ta) (hc : X.calm = true := by rfl)
    (na : starEach [.Call (.Name "zip" p2) [e1, e2] [] q] X.env = (false, eval (.Call (.Name "zip" p2) [e1, e2] [] q) X.env) :: starEach [] X.env := by rfl)
    (nb : starEach [e1, e2] X.env = (false, eval e1 X.env) :: starEach [e2] X.env := by rfl) (hpl : (backTo q (starEach [e2] X.env)).any (·.1) = false := by rfl) : PE X (.Call (.Name "dict" p) [.Call (.Name "zip" p2) [e1, e2] [] q] [] pos) (tDictZ X.K ta) := by
  refine ⟨fun pins s σ H Q I h => ?_⟩
  refine Call_ (ld_blt I hg hm rfl ?_)
  refine PyProof.Rows.callWith_type1 (PyProof.Rows.args_cons ?_ na) na rfl
  refine Call_ (ld_blt I hg2 hm2 PyProof.Rows.boot_zip (PyProof.Rows.callWith_type1 (thn (ha.run q pins s σ H _ I h) fun us s1 ⟨vs, H1, I1, r1, q1⟩ => ?_) nb hpl))
  obtain ⟨a, b, ads, ks, ys, ex, hqa, hqb, lk, ly, hkeys, q1⟩ := q1
  subst ex
  cases r1 with
  | cons r rr =>
    cases rr with
    | cons r' rr =>
      cases rr
      cases r
      cases r'
      obtain ⟨its, rv, pa, hza⟩ := I1.list hqa
      obtain ⟨its2, rv2, pb, hzb⟩ := I1.tuple hqb
      have ei := refs_at rv
      have tb : s1.heap.IsTuple b its2.toArray := pb
      obtain ⟨ob, hob, _⟩ := id pb
      have lu : its2.length = ads.length := by rw [← rv2.length, ly]
      have li : its.length = ads.length := by rw [ei, List.length_map]
      have alt : a < s1.heap.objs.size := pa.lt
      have blt : b < s1.heap.objs.size := Heap.lt_size hob
      refine Zd.call_zipLT pa.isList tb fun h' m => PyProof.Rows.args_nil ?_
      have hz : its.toArray.size = ads.length := by rw [List.size_toArray, li]
      have P := Zd.arg (prog := X.prog) (w := X.w) alt blt its.toArray its2.toArray (by rw [List.size_toArray, List.size_toArray, li, lu])
      have new : ∀ {c : Addr} {o : Obj}, s1.heap.get? c = some o → c ∉ [s1.heap.objs.size + 4, s1.heap.objs.size + 3, s1.heap.objs.size, s1.heap.objs.size + 1] := fun {c o} e hc => by
        have := Heap.lt_size e
        have hc : c = s1.heap.objs.size + 4 ∨ c = s1.heap.objs.size + 3 ∨ c = s1.heap.objs.size ∨ c = s1.heap.objs.size + 1 := by simpa using hc
        rcases hc with rfl | rfl | rfl | rfl
        · exact Nat.not_lt.mpr (Nat.le_add_right _ _) this
        · exact Nat.not_lt.mpr (Nat.le_add_right _ _) this
        · exact Nat.lt_irrefl _ this
        · exact Nat.not_lt.mpr (Nat.le_add_right _ _) this
      refine call_dict_pairsH (knd := tupleKind (mixKind X.prog X.w)) (ps := ks.zip (ads.zip its2)) P (I1.ok.hd hc) (show X.A.in1.in1.units < cLine from by show X.A.units + 1 + 1 < cLine; omega)
        ⟨m.zp, m.ti, m.to, ⟨m.it, pa.isList.at fun o e => m.kp _ o e⟩, m.jt, let ⟨o, e, r⟩ := tb; ⟨o, m.kp _ _ e, r⟩⟩ ⟨by rw [hz, List.length_zip, List.length_zip, lk, lu, Nat.min_self, Nat.min_self], fun i key v hr => ?_⟩ (fun h2 hk x hx => ?_) (by rw [hz, ← li, ← rv.length]; simpa using hza) fun h2 tk dd hk => ?_
      · obtain ⟨hx, hy⟩ := hr
        have hi : i < ads.length := by
          have := (Array.getElem?_eq_some_iff.mp hx).1
          rw [hz] at this
          exact this
        have ek : key = .ref ads[i] := by
          rw [List.getElem?_toArray, ei, List.getElem?_map, List.getElem?_eq_getElem hi] at hx
          exact (Option.some.inj hx).symm
        have ev : its2[i]? = some v := by rw [List.getElem?_toArray] at hy; exact hy
        refine ⟨ks[i]'(by omega), ads[i], ?_, ek⟩
        obtain ⟨_, ev'⟩ := List.getElem?_eq_some_iff.mp ev
        simp [List.getElem?_zip_eq_some, hi, lk, ev]
      · obtain ⟨i, hi, e⟩ := List.getElem_of_mem hx
        have li2 : i < ads.length := by simp [lk, lu] at hi; omega
        have e : x = (ks[i]'(by omega), ads[i], its2[i]'(by omega)) := by rw [← e]; simp
        subst e
        obtain ⟨o, it', n, g1, g2⟩ := key_of I1.hok (hkeys i ads[i] (ks[i]'(by omega)) (List.getElem?_eq_getElem _) (List.getElem?_eq_getElem _))
        refine ⟨o, it', n, hk _ _ (Nat.ne_of_lt ?_) (new g1) (m.kp _ _ g1), g2⟩
        exact Nat.lt_of_lt_of_le (Heap.lt_size g1) (by show s1.heap.objs.size ≤ h'.objs.size; rw [m.sz]; exact Nat.le_add_right _ _)
      · have kp : ∀ c o, s1.heap.get? c = some o → h2.get? c = some o := fun c o e => hk c o (new e) (m.kp _ _ e)
        have ge : s1.heap.objs.size ≤ h'.objs.size := by rw [m.sz]; exact Nat.le_add_right _ _
        have fr := I1.hok.fresh ge
        have kt0 : KT H1 (ks.zip ys) (ks.zip (ads.zip its2)) := kt_zip lk rv2 ly hkeys
        have kt1 : KT (upd H1 h'.objs.size (.dT (mergeT [] (ks.zip ys)))) (mergeT [] (ks.zip ys)) (storedAllH [] (ks.zip (ads.zip its2))) := (KT.merge kt0 .nil).keeps fun c z e => by rw [upd_ne (ne_of_none e fr)]; exact e
        have hm0 : (h'.objs.size == sysModules) = false := beq_eq_false_iff_ne.mpr (Nat.ne_of_gt (Nat.lt_of_lt_of_le I1.big ge))
        obtain ⟨o, es, ep, d1, d2, d3, d4, d5, d6⟩ := dd
        have len : (mergeT [] (ks.zip ys)).length ≤ sizeLine := by
          rw [kt1.length]
          refine Nat.le_trans (storedAllH_length _ _) ?_
          rw [List.length_zip, List.length_zip, lk, lu, Nat.min_self, Nat.min_self, List.length_nil, Nat.zero_add, ← li, ← rv.length]
          simpa using hza
        exact ⟨.ref h'.objs.size, upd H1 h'.objs.size (.dT (mergeT [] (ks.zip ys))), I1.laid (t' := tk) kp ge (show ObjOk X.prog X.w _ _ _ (.dT (mergeT [] (ks.zip ys))) from ⟨len, hm0, _, kt1, o, es, ep, d1, d2, d3, d4, d6⟩), rfl, q1 _ fr⟩
end
end L2
namespace Dw
open PySem PySem.Spec PyProof.Rows L2
def keysL : List D → Option (List (List Key))
  | [] => some []
  | .tup es :: r => (D.keys es).bind fun k => (keysL r).map (k :: ·)
  | _ => none
def mergeDT (kvs more : List (List Key × D)) : List (List Key × D) := more.foldl (fun acc kv => putD acc kv.1 kv.2) kvs
@[simp] def wDictZ {S : Type} (wa : WA S) : WE S := fun env s k x => wa env s (fun ds s1 => match ds with
  | [.lst es, .tup fs] => ∃ kk, keysL es = some kk ∧ fs.length = es.length ∧ k (.dit (mergeDT [] (kk.zip fs))) s1
  | _ => False) x
theorem keysL_da {B : Addr → Prop} {H : Hp} : ∀ {es : List D} {vs : List V} {kk : List (List Key)}, DaL B H vs es → keysL es = some kk → ∃ ads : List Addr, vs = ads.map V.ref ∧ kk.length = ads.length ∧ ∀ (i : Nat) (p : Addr) (k : List Key), ads[i]? = some p → kk[i]? = some k → H p = some (.tup (k.map kV))
  | [], _, kk, .nil, h => by
    cases h
    exact ⟨[], rfl, rfl, fun i p k e _ => by simp at e⟩
  | d :: r, _, kk, .cons a t, h => by
    cases d with
    | tup es =>
      unfold keysL at h
      cases h1 : D.keys es with
      | none => rw [h1] at h; cases h
      | some k =>
        rw [h1] at h
        cases h2 : keysL r with
        | none => rw [h2] at h; cases h
        | some ks =>
          rw [h2] at h
          cases h
          obtain ⟨ads, rfl, hl, hk⟩ := keysL_da t h2
          obtain ⟨p, rfl, hp⟩ := a.key h1
          refine ⟨p :: ads, rfl, by simp [hl], fun i q k' e1 e2 => ?_⟩
          cases i with
          | zero => cases e1; cases e2; exact hp
          | succ i => exact hk i q k' e1 e2
    | _ => unfold keysL at h; cases h
theorem DaT.merge {B : Addr → Prop} {H : Hp} : ∀ {ks : List (List Key)} {vs : List V} {ds : List D} {xs : List (List Key × V)} {kvs : List (List Key × D)}, DaL B H vs ds → DaT B H xs kvs → DaT B H (mergeT xs (ks.zip vs)) (mergeDT kvs (ks.zip ds))
  | [], _, _, _, _, _, r => r
  | _ :: _, _, _, _, _, .nil, r => r
  | k :: ks, _, _, _, _, .cons a t, r => DaT.merge (ks := ks) t (r.put (k := k) a)
section
variable {S : Type} {W : Wd S} {G : Gm S} {K : PySem.W.Frag}
theorem sim_dictZ {ta : TA} {wa : WA S} (ha : SimA W G ta wa) : SimE W G (tDictZ K ta) (wDictZ wa) := fun R env σ H s rl k x hw ox Q hQ => ha R env σ H s rl _ x hw ox _ fun ds s1 vs H1 hw1 f1 j1 a1 => by
  have at1 := (rl.step f1 j1).at_
  match ds, a1, hw1 with
  | [.lst es, .tup fs], .cons a (.cons b .nil), ⟨kk, hk, hl, hk1⟩ =>
    cases a with
    | @lst p xs _ e n l z =>
      cases b with
      | @tup q ys _ e2 n2 l2 z2 =>
        obtain ⟨ads, rfl, h1, h2⟩ := keysL_da l hk
        have hae : ads.length = es.length := by rw [← l.len, List.length_map]
        refine ⟨p, q, ads, kk, ys, rfl, .of e, .of e2, h1, by rw [l2.len, hl, hae], h2, fun d hd => ?_⟩
        have f2 := Fr.new_at (o := .dT (mergeT [] (kk.zip ys))) hd at1
        exact hQ _ s1 _ _ hk1 (f1.trans f2) (at1.new_at hd).j (.dit upd_same (at1.fresh hd) ((DaT.merge l2 .nil).mv f2.mv))
end
end Dw
set_option Elab.async false
set_option linter.all false
set_option maxRecDepth 100000
set_option maxHeartbeats 4000000
/-! Rr: words that know lists of the registry: walked in comprehensions, cut, asked for a member; two own lists at once; stored fields. -/
namespace L2
open PySem PySem.Spec PyProof.Rows PySem.W
/-- a list of the registry, walked -/
def iReg (t : TI) : TI := t
theorem pi_reg {X : Cx} {tg e : Expr} {t : TI} (h : PI X tg e t) : PI X tg e (iReg t) := h
theorem kFldS {X : Cx} {K : PySem.W.Frag} {e value : Expr} {f : Str} {tpos pos : Pos} {ta tv : TE} (h : PS X (.Assign [.Attribute e f tpos] value pos) (sFld X.K ta tv f)) (e1 : X.K = K := by rfl) : PS X (.Assign [.Attribute e f tpos] value pos) (sFld K ta tv f) := e1 ▸ h
end L2
namespace Dw
open PySem PySem.Spec PyProof.Rows L2 RZ
section
variable {S : Type} {W : Wd S} {G : Gm S} {K : PySem.W.Frag}
theorem sim_lcRF {us : List Nat} {wi : TI} {g : TG} {tt : TT} {te : TE} {vs : List Nat} {wI : WIC S} {wg : WG} {wt : WT S} {we : WE S} (hi : SimIC W G wi wI) (hg : SimTg W G us g wg) (ht : SimT W G tt wt) (he : SimE W G te we) (hs : ∀ j, j ∈ us → j ∈ vs := by decide) :
    SimF W G (tLc (iReg wi) g tt te vs) (wLcKF wI wg wt we vs) := sim_lcKF (wi := wi) hi hg ht he hs
theorem sim_lcRE {us : List Nat} {wi : TI} {g : TG} {tt : TT} {te : TE} {vs : List Nat} {wI : WIC S} {wg : WG} {wt : WT S} {we : WE S} (hi : SimIC W G wi wI) (hg : SimTg W G us g wg) (ht : SimT W G tt wt) (he : SimE W G te we) (hs : ∀ j, j ∈ us → j ∈ vs := by decide) :
    SimE W G (tLc (iReg wi) g tt te vs) (wLcKE wI wg wt we vs) := (sim_lcRF hi hg ht he hs).e
theorem ss_parNL {i j : Nat} {ta : TA} {wa : WA S} (oi : OwnSl i) (oj : OwnSl j) (ha : SimA W G ta wa) : SimS W G (tPar i j (tCons (tLst tNil) (tCons (tLst ta) tNil))) (wParNL i j wa) := fun R env σ H s rl KK hw Dn e => by
  refine ⟨Nat.zero_le _, fun p hp => ?_⟩
  have rm := rl.more (o := .lst []) hp
  refine ha _ env σ _ s rm _ KK.xc hw e.xc _ fun ds s1 vs H1 hk f1 j1 a1 => ?_
  obtain ⟨hi, hj, hz, hk⟩ := hk
  refine ⟨by rw [a1.len]; exact hz, fun q hq => ⟨_, _, rfl, ?_⟩⟩
  have hp1 : H1 p = some (.lst []) := f1.kp _ _ upd_same (rm.at_.r p (.inr rfl)).2
  have g1 : Fr W s H s1 H1 := (Fr.new_at (o := .lst []) hp rl.at_).trans f1
  have nb : ¬ Bf W R s1 p := fun z => z.elim (fun r => (rl.at_.r p r).1 hp) ((rm.step f1 j1).at_.r p (.inr rfl)).2
  obtain ⟨rl1, m1⟩ := rl.setO (a := .own []) g1 j1 i hp (by rw [hp1]; simp) nb (.lst hp1 .nil (Nat.zero_le _)) rfl hi
  have f2 := Fr.new_at (o := .lst vs) hq rl1.at_
  have j2 := (rl1.at_.new_at (o := .lst vs) hq).j
  obtain ⟨rl2, m2⟩ := rl1.setO (a := .own ds) f2 j2 j hq (by rw [upd_same]; simp) (rl1.at_.fresh hq) (.lst upd_same (a1.mv (rl1.at_.off hq)) hz) rfl (by rw [ss_len]; exact hj)
  exact e.nx _ _ _ _ s1 hk rl2 (m1.trans m2)
end
@[simp] def wSlXM : D → Option Int → Option Int → Rg → (D → Rg → Prop) → Prop := fun d l h s k => match d with
  | .opq a => (match s a with
    | some (.lst ds) => k (.lst (cutD ds l h)) s
    | _ => False)
  | d => wSlX d l h s k
@[simp] def wSlR (we : WE Rg) (wl wh : WO Rg) : WE Rg := fun env s k x => we env s (fun d s1 => wl env s1 (fun l s2 => wh env s2 (fun h s3 => match d with
  | .opq a => (match s3 a with
    | some (.lst ds) => ∀ p, s3 p = none → k (.opq p) (rup s3 p (.lst (cutD ds l h)))
    | _ => False)
  | _ => False) x) x) x
@[simp] def wInM2 : D → D → Rg → (D → Rg → Prop) → Prop := fun d e s k => match e with
  | .opq a => (match s a with
    | some (.lst ds) => d.sv.isSome = true ∧ ds.all (fun z => z.sv.isSome) = true ∧ k (.bl (inD d ds)) s
    | _ => False)
  | e => wInX d e s k
@[simp] def wNotInM2 : D → D → Rg → (D → Rg → Prop) → Prop := fun d e s k => match e with
  | .opq a => (match s a with
    | some (.lst ds) => d.sv.isSome = true ∧ ds.all (fun z => z.sv.isSome) = true ∧ k (.bl (!inD d ds)) s
    | _ => False)
  | e => wNotInX d e s k
section
variable {G : Gm Rg} {K : PySem.W.Frag}
theorem sl_xM : SimL RW (rSlX K) wSlXM := fun R s H at_ x d a l h k hw Q hQ => by
  cases d with
  | opq c =>
    dsimp only [wSlXM] at hw
    cases qs : s c with
    | none => rw [qs] at hw; exact hw.elim
    | some o =>
      rw [qs] at hw
      cases o with
      | lst ds =>
        obtain ⟨fl, xs, e, hl, lz⟩ := at_.j c _ qs
        have hl' : DaL (Bf RW R s) H xs ds := hl.fl (fun _ _ e => ⟨e, at_.tup e⟩) fl
        cases a with
        | da a =>
          cases a
          exact .inr (.inl ⟨c, xs, rfl, .of e, fun r hr => hQ _ _ _ hw (.new_at hr at_) (at_.new_at hr).j (.lst upd_same (at_.fresh hr) ((hl'.cut l h).mv (Fr.new_at hr at_).mv) (Nat.le_trans (cutD_len _ _ _) lz))⟩)
      | _ => exact hw.elim
  | _ => exact sl_x (K := K) R s H at_ x _ a l h k hw Q hQ
theorem flts_cut {ds : List D} {l h : Option Int} (f : D.flts ds = true) : D.flts (cutD ds l h) = true := flts_of fun e he => flts_mem f (by
  unfold cutD at he
  exact List.mem_of_mem_drop (List.mem_of_mem_take he))
theorem sim_slR {te : TE} {tl th : TO} {we : WE Rg} {wl wh : WO Rg} (he : SimE RW G te we) (hl : SimP RW G tl wl) (hh : SimP RW G th wh) : SimE RW G (tReg (L2.tSl (rSlX K) te tl th)) (wSlR we wl wh) := fun R env σ H s rl k x hw ox Q hQ => he R env σ H s rl _ x hw ox _ fun d s1 v H1 hw1 f1 j1 a1 => hl R env σ H1 s1 (rl.step f1 j1) _ x hw1 ox _ fun l s2 H2 hw2 f2 j2 =>
    hh R env σ H2 s2 ((rl.step f1 j1).step f2 j2) _ x hw2 ox _ fun u s3 H3 hw3 f3 j3 => by
  have at3 := (((rl.step f1 j1).step f2 j2).step f3 j3).at_
  cases d with
  | opq c =>
    cases a1
    dsimp only at hw3
    cases qs : s3 c with
    | none => rw [qs] at hw3; exact hw3.elim
    | some o =>
      rw [qs] at hw3
      cases o with
      | lst ds =>
        obtain ⟨fl, xs, e, hl, lz⟩ := j3 c _ qs
        have hl' : DaL (Bf RW R s3) H3 xs ds := hl.fl (fun _ _ e => ⟨e, at3.tup e⟩) fl
        exact .inr (.inl ⟨c, xs, rfl, .of e, rg_lst at3 (hl'.cut l u) (Nat.le_trans (cutD_len _ _ _) lz) (flts_cut fl) hw3 fun d s' v H' hk f j a => hQ d s' v H' hk (((f1.trans f2).trans f3).trans f) j a⟩)
      | _ => exact hw3.elim
  | _ => exact hw3.elim
theorem in_reg {R : Addr → Prop} {s : Rg} {H : Hp} {x : V} {d : D} {c : Addr} {ds : List D} (at_ : At RW R s H) (a : Ag RW R s H x d) (qs : s c = some (.lst ds)) (h1 : d.sv.isSome = true) (h2 : ds.all (fun z => z.sv.isSome) = true) : ∃ xs, H c = some (.lst xs) ∧ flatV x = true ∧ xs.all flatV = true ∧ inV x xs = inD d ds := by
  obtain ⟨fl, xs, e, hl, lz⟩ := at_.j c _ qs
  have l : DaL (Bf RW R s) H xs ds := hl.fl (fun _ _ e => ⟨e, at_.tup e⟩) fl
  obtain ⟨u, hu⟩ := Option.isSome_iff_exists.mp h1
  have ex := a.svI hu
  subst ex
  have m := l.svs h2
  refine ⟨xs, e, sv_flat hu, ?_, ?_⟩
  · rw [List.all_eq_true]
    intro z hz
    obtain ⟨c, hc, dc⟩ := l.mem hz
    obtain ⟨u, hu⟩ := Option.isSome_iff_exists.mp (List.all_eq_true.mp h2 c hc)
    rw [(Ag.da (W := RW) (R := R) (s := s) dc).svI hu]
    exact sv_flat hu
  · clear h2 l lz hl fl e qs
    unfold inV inD
    induction xs generalizing ds with
    | nil => cases ds with
      | nil => rfl
      | cons _ _ => cases m
    | cons z zs ih => cases ds with
      | nil => cases m
      | cons c cs =>
        rw [List.map_cons, List.map_cons] at m
        injection m with m1 m2
        rw [List.any_cons, List.any_cons, ih m2, m1, hu]
theorem so_inM : SimO RW (rInX K) wInM2 := fun R s H at_ x y d e a b k hw Q hQ => by
  cases e with
  | opq c =>
    dsimp only [wInM2] at hw
    cases qs : s c with
    | none => rw [qs] at hw; exact hw.elim
    | some o =>
      rw [qs] at hw
      cases o with
      | lst ds =>
        obtain ⟨h1, h2, hw⟩ := hw
        obtain ⟨xs, e1, q1, q2, q3⟩ := in_reg at_ a qs h1 h2
        cases b with
        | da b =>
          cases b
          refine .inl ⟨c, xs, rfl, .inl (.of e1), q1, q2, ?_⟩
          rw [q3]
          exact hQ _ _ H (by simpa using hw) .refl at_.j (.bl _)
      | _ => exact hw.elim
  | _ => exact so_inX (K := K) R s H at_ x y d _ a b k hw Q hQ
theorem so_notInM : SimO RW (rNotInX K) wNotInM2 := fun R s H at_ x y d e a b k hw Q hQ => by
  cases e with
  | opq c =>
    dsimp only [wNotInM2] at hw
    cases qs : s c with
    | none => rw [qs] at hw; exact hw.elim
    | some o =>
      rw [qs] at hw
      cases o with
      | lst ds =>
        obtain ⟨h1, h2, hw⟩ := hw
        obtain ⟨xs, e1, q1, q2, q3⟩ := in_reg at_ a qs h1 h2
        cases b with
        | da b =>
          cases b
          refine .inl ⟨c, xs, rfl, .inl (.of e1), q1, q2, ?_⟩
          rw [q3]
          exact hQ _ _ H (by simpa using hw) .refl at_.j (.bl _)
      | _ => exact hw.elim
  | _ => exact so_notInX (K := K) R s H at_ x y d _ a b k hw Q hQ
end
end Dw
set_option Elab.async false
set_option linter.all false
set_option maxRecDepth 100000
set_option maxHeartbeats 4000000
/-! Rs: fields of instances of one of several classes. -/
namespace Dw
open PySem PySem.Spec PyProof.Rows L2
structure FO (K : PySem.W.Frag) (f : Str) (Cl : Addr → Prop) : Prop where
  h : ∀ C, Cl C → Cls K C ∧ NoAttr K C f
section
variable {K : PySem.W.Frag} {f : Str} {C C2 : Addr} {Cl : Addr → Prop} {G : Gm Rg}
theorem FO.one (c : Cls K C) (n : NoAttr K C f) : FO K f (· = C) := ⟨fun _ h => h ▸ ⟨c, n⟩⟩
theorem FO.two (c : Cls K C) (n : NoAttr K C f) (d : Cls K C2) (m : NoAttr K C2 f) : FO K f (fun X => X = C ∨ X = C2) := ⟨fun _ h => h.elim (fun h => h ▸ ⟨c, n⟩) fun h => h ▸ ⟨d, m⟩⟩
theorem sim_fldMO (h : FO K f Cl) {te : TE} {we : WE Rg} (he : SimE RW G te we) : SimE RW G (tFld K te f) (wFldM f Cl we) := sim_fldM h.h he
theorem ss_fldSO (h : FO K f Cl) {to tv : TE} {wo wv : WE Rg} (ho : SimE RW G to wo) (hv : SimE RW G tv wv) : SimS RW G (sFld K to tv f) (wFldS f Cl wo wv) := ss_fldS h.h ho hv
/-- C(..), an instance of the registry, its making never raising -/
@[simp] def wMkRN (C : Addr) (wf : List D → Rg → (D → Rg → Prop) → (Xc → Rg → Prop) → Prop) (wa : WA Rg) : WE Rg := fun env s k x => wa env s (fun ds s1 => ∀ a dx, s1 a = none → wf (.opq a :: ds) (rup s1 a (.ins C dx [])) (fun d s2 => d = .non ∧ k (.opq a) s2) (fun _ _ => False)) x
theorem sim_mkRN {C : Addr} {wf : List D → Rg → (D → Rg → Prop) → (Xc → Rg → Prop) → Prop} {E : L2.St → XK} {ta : TA} {wa : WA Rg} (ha : SimA RW G ta wa) : SimE RW G (Gl.tMk C (spX RW wf) E ta) (wMkRN C wf wa) := fun R env σ H s rl k x hw ox Q hQ => ha R env σ H s rl _ x hw ox _ fun ds s1 vs H1 hw1 f1 j1 a1 => by
  intro a dx ha1 hdx ne
  have r1 := rl.step f1 j1
  have at1 := r1.at_
  have at2 : At RW R s1 (upd H1 dx (.own a)) := at1.new_at hdx
  have ha2 : upd H1 dx (.own a) a = none := by rw [upd_ne (Ne.symm ne)]; exact ha1
  have f2 : Fr RW s1 H1 s1 (upd H1 dx (.own a)) := Fr.new_at hdx at1
  obtain ⟨f3, j3⟩ := rg_new (o := .ins C dx []) (u := .ins C dx []) at2.j ha2 rfl ⟨[], upd_same, .nil⟩
  have r3 := (r1.step f2 at2.j).step f3 j3
  have f23 := f2.trans f3
  exact ⟨R, .opq a :: ds, _, _, (fun _ _ => False), r3.at_, .cons (.opq a) (a1.mv f23.mv), hw1 a dx (rg_none at2.j ha2), fun d s' v H' hk f j a' => by
    obtain ⟨rfl, hk⟩ := hk
    cases a'
    exact ⟨rfl, hQ _ _ _ _ hk ((f1.trans f23).trans f) j (.opq a)⟩, fun c s' cls d H' hx f j a' => hx.elim⟩
end
end Dw
set_option Elab.async false
set_option linter.all false
set_option maxRecDepth 100000
set_option maxHeartbeats 4000000
/-! Rv: a list of the registry and another one put together, as a new list. -/
namespace Dw
open PySem PySem.Spec PyProof.Rows L2
@[simp] def wAddFR (wa wb : WE Rg) : WI Rg := fun env s k x => wa env s (fun d s1 => wb env s1 (fun e s2 => match d, e with
  | .opq c, .lst b => (match s2 c with
    | some (.lst a) => a.length + b.length ≤ sizeLine ∧ k (a ++ b) s2
    | _ => False)
  | _, _ => False) x) x
theorem sim_addFR {G : Gm Rg} {K : PySem.W.Frag} {ta tb : TE} {wa wb : WE Rg} (h : SimE RW G ta wa) (h' : SimG RW G tb wb) : SimF RW G (tOp (rAddX K) ta tb) (wAddFR wa wb) := fun R env σ H s rl k x hw ox Q hQ => h R env σ H s rl _ x hw ox _ fun d s1 v H1 hw1 f1 j1 a1 =>
  h' R env σ H1 s1 (rl.step f1 j1) _ x hw1 ox _ fun e s2 u H2 hw2 f2 j2 a2 => by
    have at2 := ((rl.step f1 j1).step f2 j2).at_
    cases d with
    | opq c => cases e with
      | lst es =>
        cases a1
        dsimp only at hw2
        cases qs : s2 c with
        | none => rw [qs] at hw2; exact hw2.elim
        | some o =>
          rw [qs] at hw2
          cases o with
          | lst ds =>
            obtain ⟨fl, xs, e1, l1, _⟩ := j2 c _ qs
            have l1 : DaL (Bf RW R s2) H2 xs ds := l1.fl (fun _ _ e => ⟨e, at2.tup e⟩) fl
            obtain ⟨q, ys, rfl, e2, l2, lz2⟩ := a2.lstI
            refine .inr (.inr (.inl ⟨c, q, xs, ys, rfl, rfl, e1, e2, by rw [l1.len, l2.len]; exact hw2.1, fun r hr => ?_⟩))
            exact hQ _ s2 r _ _ hw2.2 ((f1.trans f2).trans (.new_at hr at2)) (at2.new_at hr).j ((f1.trans f2).none rl.at_.j hr j2) upd_same (at2.fresh hr) ((l1.app l2).mv (at2.off hr)) (by rw [List.length_append]; exact hw2.1)
          | _ => exact hw2.elim
      | _ => exact hw2.elim
    | _ => exact hw2.elim
end Dw
open PySem PySem.Spec PyProof.Rows L2 Gl Dw
local macro_rules | `(tactic| walk_at "sc") => `(tactic| ((show _ ≤ sizeLine; decide +kernel)))
local macro_rules | `(tactic| walk_at "sc") => `(tactic| (exact True.intro))
local macro_rules | `(tactic| walk_at "sim") => `(tactic| (skip))
local macro_rules | `(tactic| walk_at "sim") => `(tactic| ((intros; decide)))
local macro_rules | `(tactic| walk_at "sim") => `(tactic| (((with_reducible apply SimE.g); walk_at "sim")))
local macro_rules | `(tactic| walk_at "sim") => `(tactic| (with_reducible exact sl_s))
local macro_rules | `(tactic| walk_at "sim") => `(tactic| (with_reducible exact sl_l))
local macro_rules | `(tactic| walk_at "sim") => `(tactic| (with_reducible exact sl_t))
local macro_rules | `(tactic| walk_at "sim") => `(tactic| (with_reducible exact sl_x))
local macro_rules | `(tactic| walk_at "sim") => `(tactic| (with_reducible exact sc_repr))
local macro_rules | `(tactic| walk_at "sim") => `(tactic| (with_reducible exact sc_isiT))
local macro_rules | `(tactic| walk_at "sim") => `(tactic| (with_reducible exact sc_isi))
local macro_rules | `(tactic| walk_at "sim") => `(tactic| (with_reducible exact sc_any))
local macro_rules | `(tactic| walk_at "sim") => `(tactic| (with_reducible exact sc_all))
local macro_rules | `(tactic| walk_at "sim") => `(tactic| (with_reducible exact sc_sum))
local macro_rules | `(tactic| walk_at "sim") => `(tactic| (with_reducible exact sc_tuple))
local macro_rules | `(tactic| walk_at "sim") => `(tactic| (with_reducible exact sc_list))
local macro_rules | `(tactic| walk_at "sim") => `(tactic| (with_reducible exact sc_mm))
local macro_rules | `(tactic| walk_at "sim") => `(tactic| (with_reducible exact sc_str))
local macro_rules | `(tactic| walk_at "sim") => `(tactic| (with_reducible exact sc_abs))
local macro_rules | `(tactic| walk_at "sim") => `(tactic| (with_reducible exact sc_int))
local macro_rules | `(tactic| walk_at "sim") => `(tactic| (with_reducible exact sc_len))
local macro_rules | `(tactic| walk_at "sim") => `(tactic| (with_reducible exact so_leT))
local macro_rules | `(tactic| walk_at "sim") => `(tactic| (with_reducible exact so_notInD))
local macro_rules | `(tactic| walk_at "sim") => `(tactic| (with_reducible exact so_inD))
local macro_rules | `(tactic| walk_at "sim") => `(tactic| (with_reducible exact so_neD))
local macro_rules | `(tactic| walk_at "sim") => `(tactic| (with_reducible exact so_eqD))
local macro_rules | `(tactic| walk_at "sim") => `(tactic| (with_reducible exact so_repT))
local macro_rules | `(tactic| walk_at "sim") => `(tactic| (with_reducible exact so_mulS))
local macro_rules | `(tactic| walk_at "sim") => `(tactic| (with_reducible exact so_addS))
local macro_rules | `(tactic| walk_at "sim") => `(tactic| (with_reducible exact so_catL))
local macro_rules | `(tactic| walk_at "sim") => `(tactic| (with_reducible exact so_catT))
local macro_rules | `(tactic| walk_at "sim") => `(tactic| (with_reducible exact so_notInS))
local macro_rules | `(tactic| walk_at "sim") => `(tactic| (with_reducible exact so_inS))
local macro_rules | `(tactic| walk_at "sim") => `(tactic| (with_reducible exact so_str))
local macro_rules | `(tactic| walk_at "sim") => `(tactic| (with_reducible exact so_in))
local macro_rules | `(tactic| walk_at "sim") => `(tactic| (with_reducible exact so_ix))
local macro_rules | `(tactic| walk_at "sim") => `(tactic| (with_reducible exact so_ixS))
local macro_rules | `(tactic| walk_at "sim") => `(tactic| (with_reducible exact so_ixT))
local macro_rules | `(tactic| walk_at "sim") => `(tactic| (with_reducible exact so_ixL))
local macro_rules | `(tactic| walk_at "sim") => `(tactic| (with_reducible exact so_notB))
local macro_rules | `(tactic| walk_at "sim") => `(tactic| (with_reducible exact so_isB))
local macro_rules | `(tactic| walk_at "sim") => `(tactic| (with_reducible exact so_notN))
local macro_rules | `(tactic| walk_at "sim") => `(tactic| (with_reducible exact so_isN))
local macro_rules | `(tactic| walk_at "sim") => `(tactic| (with_reducible exact so_ne))
local macro_rules | `(tactic| walk_at "sim") => `(tactic| (with_reducible exact so_eq))
local macro_rules | `(tactic| walk_at "sim") => `(tactic| (((with_reducible apply su_is); (intros; exact True.intro))))
local macro_rules | `(tactic| walk_at "sim") => `(tactic| (((with_reducible apply so_iCs); (intros; exact True.intro))))
local macro_rules | `(tactic| walk_at "sim") => `(tactic| (((with_reducible apply so_i0s); (intros; exact True.intro))))
local macro_rules | `(tactic| walk_at "sim") => `(tactic| (with_reducible exact so_leX))
local macro_rules | `(tactic| walk_at "sim") => `(tactic| (with_reducible exact so_geX))
local macro_rules | `(tactic| walk_at "sim") => `(tactic| (with_reducible exact so_gtX))
local macro_rules | `(tactic| walk_at "sim") => `(tactic| (with_reducible exact so_ltX))
local macro_rules | `(tactic| walk_at "sim") => `(tactic| (with_reducible exact so_notInX))
local macro_rules | `(tactic| walk_at "sim") => `(tactic| (with_reducible exact so_inX))
local macro_rules | `(tactic| walk_at "sim") => `(tactic| (with_reducible exact so_neX))
local macro_rules | `(tactic| walk_at "sim") => `(tactic| (with_reducible exact so_eqX))
local macro_rules | `(tactic| walk_at "sim") => `(tactic| (with_reducible exact so_divX))
local macro_rules | `(tactic| walk_at "sim") => `(tactic| (with_reducible exact so_mulX))
local macro_rules | `(tactic| walk_at "sim") => `(tactic| (with_reducible exact so_addX))
local macro_rules | `(tactic| walk_at "sim") => `(tactic| (((with_reducible apply si_zip) <;> walk_at "sim")))
local macro_rules | `(tactic| walk_at "sim") => `(tactic| (((with_reducible apply si_enum) <;> walk_at "sim")))
local macro_rules | `(tactic| walk_at "sim") => `(tactic| (((with_reducible apply si_rng2) <;> walk_at "sim")))
local macro_rules | `(tactic| walk_at "sim") => `(tactic| (((with_reducible apply si_rng1) <;> walk_at "sim")))
local macro_rules | `(tactic| walk_at "sim") => `(tactic| (((with_reducible apply si_str) <;> walk_at "sim")))
local macro_rules | `(tactic| walk_at "sim") => `(tactic| (((with_reducible apply si_list) <;> walk_at "sim")))
local macro_rules | `(tactic| walk_at "sim") => `(tactic| (((with_reducible apply si_tup) <;> walk_at "sim")))
local macro_rules | `(tactic| walk_at "sim") => `(tactic| (((with_reducible apply si_x) <;> walk_at "sim")))
local macro_rules | `(tactic| walk_at "sim") => `(tactic| (with_reducible exact so_eqO))
local macro_rules | `(tactic| walk_at "sim") => `(tactic| (((with_reducible apply sim_xf); (with_reducible assumption))))
local macro_rules | `(tactic| walk_at "sim") => `(tactic| (((with_reducible apply sim_mkN) <;> walk_at "sim")))
local macro_rules | `(tactic| walk_at "sim") => `(tactic| (((with_reducible apply sim_mk) <;> walk_at "sim")))
local macro_rules | `(tactic| walk_at "sim") => `(tactic| (((with_reducible apply sim_fldT); (with_reducible assumption); (with_reducible assumption); walk_at "sim")))
local macro_rules | `(tactic| walk_at "sim") => `(tactic| (((with_reducible apply sim_lenSetS) <;> walk_at "sim")))
local macro_rules | `(tactic| walk_at "sim") => `(tactic| (((with_reducible apply sim_join) <;> walk_at "sim")))
local macro_rules | `(tactic| walk_at "sim") => `(tactic| (((with_reducible apply sim_addF) <;> walk_at "sim")))
local macro_rules | `(tactic| walk_at "sim") => `(tactic| (((with_reducible apply sim_listF) <;> walk_at "sim")))
local macro_rules | `(tactic| walk_at "sim") => `(tactic| (((with_reducible apply sim_rg2) <;> walk_at "sim")))
local macro_rules | `(tactic| walk_at "sim") => `(tactic| (((with_reducible apply sim_rg1) <;> walk_at "sim")))
local macro_rules | `(tactic| walk_at "sim") => `(tactic| (((with_reducible apply sim_tupRg) <;> walk_at "sim")))
local macro_rules | `(tactic| walk_at "sim") => `(tactic| (((with_reducible apply sim_lstRg) <;> walk_at "sim")))
local macro_rules | `(tactic| walk_at "sim") => `(tactic| (((with_reducible apply sim_lstRgF) <;> walk_at "sim")))
local macro_rules | `(tactic| walk_at "sim") => `(tactic| (((with_reducible apply sim_lcE) <;> walk_at "sim")))
local macro_rules | `(tactic| walk_at "sim") => `(tactic| (((with_reducible apply sim_lcF) <;> walk_at "sim")))
local macro_rules | `(tactic| walk_at "sim") => `(tactic| (((with_reducible apply sim_chain) <;> walk_at "sim")))
local macro_rules | `(tactic| walk_at "sim") => `(tactic| (((with_reducible apply sim_if) <;> walk_at "sim")))
local macro_rules | `(tactic| walk_at "sim") => `(tactic| (((with_reducible apply sim_notV) <;> walk_at "sim")))
local macro_rules | `(tactic| walk_at "sim") => `(tactic| (((with_reducible apply sim_orV) <;> walk_at "sim")))
local macro_rules | `(tactic| walk_at "sim") => `(tactic| (((with_reducible apply sim_andV) <;> walk_at "sim")))
local macro_rules | `(tactic| walk_at "sim") => `(tactic| (with_reducible exact sim_yes))
local macro_rules | `(tactic| walk_at "sim") => `(tactic| (((with_reducible apply sim_not) <;> walk_at "sim")))
local macro_rules | `(tactic| walk_at "sim") => `(tactic| (((with_reducible apply sim_or) <;> walk_at "sim")))
local macro_rules | `(tactic| walk_at "sim") => `(tactic| (((with_reducible apply sim_and) <;> walk_at "sim")))
local macro_rules | `(tactic| walk_at "sim") => `(tactic| (((with_reducible apply sim_tB) <;> walk_at "sim")))
local macro_rules | `(tactic| walk_at "sim") => `(tactic| (((with_reducible apply sim_test) <;> walk_at "sim")))
local macro_rules | `(tactic| walk_at "sim") => `(tactic| (((with_reducible apply sp_part) <;> walk_at "sim")))
local macro_rules | `(tactic| walk_at "sim") => `(tactic| (with_reducible exact sp_no))
local macro_rules | `(tactic| walk_at "sim") => `(tactic| (((with_reducible apply sim_sl) <;> walk_at "sim")))
local macro_rules | `(tactic| walk_at "sim") => `(tactic| (((with_reducible apply sim_callN) <;> walk_at "sim")))
local macro_rules | `(tactic| walk_at "sim") => `(tactic| (((with_reducible apply sim_call) <;> walk_at "sim")))
local macro_rules | `(tactic| walk_at "sim") => `(tactic| (((with_reducible apply sim_lstF) <;> walk_at "sim")))
local macro_rules | `(tactic| walk_at "sim") => `(tactic| (((with_reducible apply sim_lst) <;> walk_at "sim")))
local macro_rules | `(tactic| walk_at "sim") => `(tactic| (((with_reducible apply sim_tup) <;> walk_at "sim")))
local macro_rules | `(tactic| walk_at "sim") => `(tactic| (((with_reducible apply sim_cb) <;> walk_at "sim")))
local macro_rules | `(tactic| walk_at "sim") => `(tactic| (((with_reducible apply sim_isG); (with_reducible assumption); walk_at "sim")))
local macro_rules | `(tactic| walk_at "sim") => `(tactic| (((with_reducible apply sim_un) <;> walk_at "sim")))
local macro_rules | `(tactic| walk_at "sim") => `(tactic| (((with_reducible apply sim_op) <;> walk_at "sim")))
local macro_rules | `(tactic| walk_at "sim") => `(tactic| (((with_reducible apply sim_c); walk_at "sc")))
local macro_rules | `(tactic| walk_at "sim") => `(tactic| (((with_reducible apply sim_consB) <;> walk_at "sim")))
local macro_rules | `(tactic| walk_at "sim") => `(tactic| (((with_reducible apply sim_cons) <;> walk_at "sim")))
local macro_rules | `(tactic| walk_at "sim") => `(tactic| (with_reducible exact sim_nilB))
local macro_rules | `(tactic| walk_at "sim") => `(tactic| (with_reducible exact sim_nil))
local macro_rules | `(tactic| walk_at "sim") => `(tactic| (with_reducible exact sim_varG))
local macro_rules | `(tactic| walk_at "sim") => `(tactic| (with_reducible exact sim_var))
local macro_rules | `(tactic| walk_at "sim") => `(tactic| (with_reducible exact sc_sortI))
local macro_rules | `(tactic| walk_at "sim") => `(tactic| (((with_reducible apply si_enumT) <;> walk_at "sim")))
local macro_rules | `(tactic| walk_at "sim") => `(tactic| (((with_reducible apply sim_dcE) <;> walk_at "sim")))
local macro_rules | `(tactic| walk_at "sim") => `(tactic| (((with_reducible apply sim_mt0) <;> walk_at "sim")))
local macro_rules | `(tactic| walk_at "sim") => `(tactic| (((with_reducible apply sim_dnotInT) <;> walk_at "sim")))
local macro_rules | `(tactic| walk_at "sim") => `(tactic| (((with_reducible apply sim_dinT) <;> walk_at "sim")))
local macro_rules | `(tactic| walk_at "sim") => `(tactic| (((with_reducible apply sim_dgetT) <;> walk_at "sim")))
local macro_rules | `(tactic| walk_at "sim") => `(tactic| (with_reducible exact sc_sortY))
local macro_rules | `(tactic| walk_at "sim") => `(tactic| (with_reducible exact sc_lenY))
local macro_rules | `(tactic| walk_at "sim") => `(tactic| (with_reducible exact sc_dictP))
local macro_rules | `(tactic| walk_at "sim") => `(tactic| (((with_reducible apply ss_putR) <;> walk_at "sim")))
local macro_rules | `(tactic| walk_at "sim") => `(tactic| (((with_reducible apply sim_notInR) <;> walk_at "sim")))
local macro_rules | `(tactic| walk_at "sim") => `(tactic| (((with_reducible apply sim_inR) <;> walk_at "sim")))
local macro_rules | `(tactic| walk_at "sim") => `(tactic| (((with_reducible apply sim_getR) <;> walk_at "sim")))
local macro_rules | `(tactic| walk_at "sim") => `(tactic| (with_reducible exact so_notInM))
local macro_rules | `(tactic| walk_at "sim") => `(tactic| (with_reducible exact so_inM))
local macro_rules | `(tactic| walk_at "sim") => `(tactic| (with_reducible exact sl_xM))
local macro_rules | `(tactic| walk_at "sim") => `(tactic| (((with_reducible apply si_enumM) <;> walk_at "sim")))
local macro_rules | `(tactic| walk_at "sim") => `(tactic| (((with_reducible apply si_xM) <;> walk_at "sim")))
local macro_rules | `(tactic| walk_at "sim") => `(tactic| (((with_reducible apply sim_lcRE) <;> walk_at "sim")))
local macro_rules | `(tactic| walk_at "sim") => `(tactic| (((with_reducible apply sim_lcRF) <;> walk_at "sim")))
local macro_rules | `(tactic| walk_at "sim") => `(tactic| (((with_reducible apply sim_ngetd) <;> walk_at "sim")))
local macro_rules | `(tactic| walk_at "sim") => `(tactic| (((with_reducible apply sim_dictZ) <;> walk_at "sim")))
local macro_rules | `(tactic| walk_at "sim") => `(tactic| (with_reducible exact sim_newDT))
local macro_rules | `(tactic| walk_at "sim") => `(tactic| (((with_reducible apply SimPs.cons) <;> walk_at "sim")))
local macro_rules | `(tactic| walk_at "sim") => `(tactic| (with_reducible exact SimPs.nil))
local macro_rules | `(tactic| walk_at "sim") => `(tactic| (((with_reducible apply sim_dispR) <;> walk_at "sim")))
local macro_rules | `(tactic| walk_at "sim") => `(tactic| (((with_reducible apply sim_mkRN) <;> walk_at "sim")))
local macro_rules | `(tactic| walk_at "sim") => `(tactic| (((with_reducible apply sim_mkR) <;> walk_at "sim")))
local macro_rules | `(tactic| walk_at "sim") => `(tactic| (((with_reducible apply sim_reg) <;> walk_at "sim")))
local macro_rules | `(tactic| walk_at "sim") => `(tactic| (((with_reducible apply sim_slR) <;> walk_at "sim")))
local macro_rules | `(tactic| walk_at "sim") => `(tactic| (with_reducible exact sc_tupM))
local macro_rules | `(tactic| walk_at "sim") => `(tactic| (((with_reducible apply sim_popAtM) <;> walk_at "sim")))
local macro_rules | `(tactic| walk_at "sim") => `(tactic| (((with_reducible apply sim_lstR) <;> walk_at "sim")))
local macro_rules | `(tactic| walk_at "sim") => `(tactic| (((with_reducible apply sim_listR) <;> walk_at "sim")))
local macro_rules | `(tactic| walk_at "sim") => `(tactic| (with_reducible exact sim_newD))
local macro_rules | `(tactic| walk_at "sim") => `(tactic| (with_reducible exact so_rsub))
local macro_rules | `(tactic| walk_at "sim") => `(tactic| (with_reducible exact so_radd))
local macro_rules | `(tactic| walk_at "sim") => `(tactic| (with_reducible exact sc_lenB))
local macro_rules | `(tactic| walk_at "sim") => `(tactic| (with_reducible exact sc_sortX))
local macro_rules | `(tactic| walk_at "sim") => `(tactic| (with_reducible exact sc_lenM))
local macro_rules | `(tactic| walk_at "sim") => `(tactic| (with_reducible exact so_rsubR))
local macro_rules | `(tactic| walk_at "sim") => `(tactic| (with_reducible exact so_raddR))
local macro_rules | `(tactic| walk_at "sim") => `(tactic| (with_reducible exact so_ixM))
local macro_rules | `(tactic| walk_at "sim") => `(tactic| (with_reducible exact so_ixB))
local macro_rules | `(tactic| walk_at "sim") => `(tactic| (with_reducible exact sim_newBk))
local macro_rules | `(tactic| walk_at "sim") => `(tactic| (((with_reducible apply sim_mtM0) <;> walk_at "sim")))
local macro_rules | `(tactic| walk_at "sim") => `(tactic| (((with_reducible apply sim_mtM) <;> walk_at "sim")))
local macro_rules | `(tactic| walk_at "sim") => `(tactic| (((with_reducible apply sim_fldMT (by assumption) (by assumption)) <;> walk_at "sim")))
local macro_rules | `(tactic| walk_at "sim") => `(tactic| (((with_reducible apply sim_fldMO (by assumption)) <;> walk_at "sim")))
local macro_rules | `(tactic| walk_at "sim") => `(tactic| (((with_reducible apply ss_faugMT (by assumption) (by assumption)) <;> walk_at "sim")))
local macro_rules | `(tactic| walk_at "sim") => `(tactic| (((with_reducible apply ss_nput) <;> walk_at "sim")))
local macro_rules | `(tactic| walk_at "sim") => `(tactic| (((with_reducible apply sim_nget) <;> walk_at "sim")))
local macro_rules | `(tactic| walk_at "sim") => `(tactic| (((with_reducible apply sim_nnotin) <;> walk_at "sim")))
local macro_rules | `(tactic| walk_at "sim") => `(tactic| (((with_reducible apply ss_baug) <;> walk_at "sim")))
local macro_rules | `(tactic| walk_at "sim") => `(tactic| (((with_reducible apply ss_bput) <;> walk_at "sim")))
local macro_rules | `(tactic| walk_at "sim") => `(tactic| (with_reducible exact sim_bget))
local macro_rules | `(tactic| walk_at "sim") => `(tactic| (((with_reducible apply sim_tupRev) <;> walk_at "sim")))
local macro_rules | `(tactic| walk_at "sim") => `(tactic| (with_reducible exact sim_bgetE))
local macro_rules | `(tactic| walk_at "sim") => `(tactic| (with_reducible exact tgs_nil))
local macro_rules | `(tactic| walk_at "sim") => `(tactic| (((with_reducible apply tgs_cons) <;> walk_at "sim")))
local macro_rules | `(tactic| walk_at "sim") => `(tactic| (((with_reducible apply tg_tup) <;> walk_at "sim")))
local macro_rules | `(tactic| walk_at "sim") => `(tactic| (with_reducible exact tg_name))
local macro_rules | `(tactic| walk_at "sim") => `(tactic| (((with_reducible apply ss_while) <;> walk_at "sim")))
local macro_rules | `(tactic| walk_at "sim") => `(tactic| (((with_reducible apply ss_for) <;> walk_at "sim")))
local macro_rules | `(tactic| walk_at "sim") => `(tactic| (((with_reducible apply ss_drop) <;> walk_at "sim")))
local macro_rules | `(tactic| walk_at "sim") => `(tactic| (((with_reducible apply ss_updM) <;> walk_at "sim")))
local macro_rules | `(tactic| walk_at "sim") => `(tactic| (((with_reducible apply ss_extX) <;> walk_at "sim")))
local macro_rules | `(tactic| walk_at "sim") => `(tactic| (((with_reducible apply ss_ext) <;> walk_at "sim")))
local macro_rules | `(tactic| walk_at "sim") => `(tactic| (((with_reducible apply si_rev) <;> walk_at "sim")))
local macro_rules | `(tactic| walk_at "sim") => `(tactic| (((with_reducible apply ss_ins) <;> walk_at "sim")))
local macro_rules | `(tactic| walk_at "sim") => `(tactic| (((with_reducible apply ss_appM) <;> walk_at "sim")))
local macro_rules | `(tactic| walk_at "sim") => `(tactic| (((with_reducible apply ss_app) <;> walk_at "sim")))
local macro_rules | `(tactic| walk_at "sim") => `(tactic| (((with_reducible apply ss_aug) <;> walk_at "sim")))
local macro_rules | `(tactic| walk_at "sim") => `(tactic| (((with_reducible apply ss_par3) <;> walk_at "sim")))
local macro_rules | `(tactic| walk_at "sim") => `(tactic| (((with_reducible apply ss_par) <;> walk_at "sim")))
local macro_rules | `(tactic| walk_at "sim") => `(tactic| (((with_reducible apply ss_parEF); (with_reducible assumption); walk_at "sim"; walk_at "sim")))
local macro_rules | `(tactic| walk_at "sim") => `(tactic| (((with_reducible apply ss_asg) <;> walk_at "sim")))
local macro_rules | `(tactic| walk_at "sim") => `(tactic| (((with_reducible apply ss_asgTEF); (with_reducible assumption); walk_at "sim"; walk_at "sim")))
local macro_rules | `(tactic| walk_at "sim") => `(tactic| (((with_reducible apply ss_parNL); (with_reducible assumption); (with_reducible assumption); walk_at "sim")))
local macro_rules | `(tactic| walk_at "sim") => `(tactic| (((with_reducible apply ss_asgTNL); (with_reducible assumption); (with_reducible assumption); walk_at "sim")))
local macro_rules | `(tactic| walk_at "sim") => `(tactic| (((with_reducible apply ss_popAt) <;> walk_at "sim")))
local macro_rules | `(tactic| walk_at "sim") => `(tactic| (((with_reducible apply ss_pop) <;> walk_at "sim")))
local macro_rules | `(tactic| walk_at "sim") => `(tactic| (((with_reducible apply ss_setL) <;> walk_at "sim")))
local macro_rules | `(tactic| walk_at "sim") => `(tactic| (((with_reducible apply ss_fldST (by assumption) (by assumption)) <;> walk_at "sim")))
local macro_rules | `(tactic| walk_at "sim") => `(tactic| (((with_reducible apply ss_fldSO (by assumption)) <;> walk_at "sim")))
local macro_rules | `(tactic| walk_at "sim") => `(tactic| (((with_reducible apply ss_setME) <;> walk_at "sim")))
local macro_rules | `(tactic| walk_at "sim") => `(tactic| (((with_reducible apply ss_setM) <;> walk_at "sim")))
local macro_rules | `(tactic| walk_at "sim") => `(tactic| (((with_reducible apply ss_parDD) <;> walk_at "sim")))
local macro_rules | `(tactic| walk_at "sim") => `(tactic| (((with_reducible apply ss_nput) <;> walk_at "sim")))
local macro_rules | `(tactic| walk_at "sim") => `(tactic| (((with_reducible apply ss_asgO); (with_reducible assumption); walk_at "sim")))
local macro_rules | `(tactic| walk_at "sim") => `(tactic| (((with_reducible apply ss_if) <;> walk_at "sim")))
local macro_rules | `(tactic| walk_at "sim") => `(tactic| (((with_reducible apply ss_ret) <;> walk_at "sim")))
local macro_rules | `(tactic| walk_at "sim") => `(tactic| (with_reducible exact ss_retN))
local macro_rules | `(tactic| walk_at "sim") => `(tactic| (with_reducible exact ss_cont))
local macro_rules | `(tactic| walk_at "sim") => `(tactic| (with_reducible exact ss_brk))
local macro_rules | `(tactic| walk_at "sim") => `(tactic| (((with_reducible apply SimHs.cons); (intro _ _ _ _ _ _; walk_at "sim"); walk_at "sim")))
local macro_rules | `(tactic| walk_at "sim") => `(tactic| (with_reducible exact SimHs.nil))
local macro_rules | `(tactic| walk_at "sim") => `(tactic| (with_reducible exact loc_const))
local macro_rules | `(tactic| walk_at "sim") => `(tactic| (((with_reducible apply loc_seq) <;> walk_at "sim")))
local macro_rules | `(tactic| walk_at "sim") => `(tactic| (with_reducible exact loc_asgMk))
local macro_rules | `(tactic| walk_at "sim") => `(tactic| (with_reducible exact loc_asgDf))
local macro_rules | `(tactic| walk_at "sim") => `(tactic| (((with_reducible apply loc_if) <;> walk_at "sim")))
local macro_rules | `(tactic| walk_at "sim") => `(tactic| (((with_reducible apply ss_try); walk_at "sim"; (intro _; walk_at "sim"); walk_at "sim")))
local macro_rules | `(tactic| walk_at "sim") => `(tactic| (with_reducible exact ss_raise0))
local macro_rules | `(tactic| walk_at "sim") => `(tactic| (((with_reducible apply ss_raise) <;> walk_at "sim")))
local macro_rules | `(tactic| walk_at "sim") => `(tactic| (with_reducible exact ss_next))
local macro_rules | `(tactic| walk_at "sim") => `(tactic| (((with_reducible apply ss_seq) <;> walk_at "sim")))
set_option Elab.async false
set_option linter.all false
set_option maxRecDepth 100000
set_option maxHeartbeats 8000000
namespace Law
open PySem PySem.Spec PyProof.Rows L2 Gl Dw


def top (i : Nat) : Stmt := PySem.Challenge.pw_veilpost_k80_whole_lives_of_watches.main.body.getD i (.Pass ⟨0, 0, 0, 0⟩)
abbrev FD (K : PySem.W.Frag) (x : Str) (st : Stmt) (f : Addr) (fd : FuncData) : Prop := FunD K x x (defArgs st) (defBody st) (defScope st) [] [] f fd
structure Tx (P : Program) (w : World) (K : PySem.W.Frag) (mg : Str → Option Value) : Prop where
  abs : mg "abs" = none
  all : mg "all" = none
  bool : mg "bool" = none
  dict : mg "dict" = none
  enumerate : mg "enumerate" = none
  int : mg "int" = none
  isinstance : mg "isinstance" = none
  len : mg "len" = none
  list : mg "list" = none
  range : mg "range" = none
  repr : mg "repr" = none
  sorted : mg "sorted" = none
  str : mg "str" = none
  super : mg "super" = none
  tuple : mg "tuple" = none
  zip : mg "zip" = none
  m_MOST_TEXT : ∃ u, mg "MOST_TEXT" = some u ∧ RelV (.int 40) u
  m_MOST_NUMBER : ∃ u, mg "MOST_NUMBER" = some u ∧ RelV (.int 999999999999) u
  m_MOST_ITEMS : ∃ u, mg "MOST_ITEMS" = some u ∧ RelV (.int 400) u
  m_NAME : ∃ u, mg "NAME" = some u ∧ RelV (.str "name") u
  m_NUMBER_books : ∃ u, mg "NUMBER_books" = some u ∧ RelV (.str "number") u
  m_FRESH : ∃ u, mg "FRESH" = some u ∧ RelV (.str "fresh") u
  m_ROW : ∃ u, mg "ROW" = some u ∧ RelV (.str "row") u
  m_PRINT : ∃ u, mg "PRINT" = some u ∧ RelV (.str "print") u
  m_EMPTY : ∃ u, mg "EMPTY" = some u ∧ RelV (.str "empty") u
  m_LEAF : ∃ u, mg "LEAF" = some u ∧ RelV (.str "leaf") u
  m_NODE : ∃ u, mg "NODE" = some u ∧ RelV (.str "node") u
  m_MOST_WITNESSES : ∃ u, mg "MOST_WITNESSES" = some u ∧ RelV (.int 9) u
  m_MOST_CLIENTS : ∃ u, mg "MOST_CLIENTS" = some u ∧ RelV (.int 10) u
  m_MARK : ∃ u, mg "MARK" = some u ∧ RelV (.str "mark") u
  m_NUMBER_watches : ∃ u, mg "NUMBER_watches" = some u ∧ RelV (.str "number") u
  m_HEAD : ∃ u, mg "HEAD" = some u ∧ RelV (.str "head") u
abbrev WF (S : Type) := List D → S → (D → S → Prop) → (Xc → S → Prop) → Prop
/-- the hand stands at a, its cells at c -/
def HoR (a c : Addr) (s : Rg) : Prop := ∃ (cells : List Int) (p r m n : Int), s a = some (.lst [.opq c, .int p, .int r, .int m, .int n]) ∧ s c = some (.lst (cells.map D.int)) ∧ c ≠ a ∧ 0 ≤ p ∧ 0 ≤ r ∧ ∀ z ∈ cells, 0 ≤ z
def OffR (a : Addr) (s s' : Rg) : Prop := ∀ b, b ≠ a → s' b = s b
theorem OffR.put {a : Addr} {s s' : Rg} {o : Mo} (h : OffR a s s') : OffR a s (rup s' a o) := fun b ne => (rup_ne ne).trans (h b ne)
theorem OffR.refl {a : Addr} {s : Rg} : OffR a s s := fun _ _ => rfl
theorem OffR.trans {a : Addr} {s t u : Rg} (h : OffR a s t) (g : OffR a t u) : OffR a s u := fun b ne => (g b ne).trans (h b ne)
def wfDraw : WF Rg := fun ds s k _ => match ds with
  | [.opq a, .int m] => ∃ c, HoR a c s ∧ 0 < m ∧ m < 1073741824 ∧ ∀ s' i, HoR a c s' → OffR a s s' → 0 ≤ i → i < m → k (.int i) s'
  | _ => False
abbrev s__law_draw : Stmt := top 59
abbrev N__law_draw : List Str := ["hand", "below", "cell", "digit", "number"]
theorem sc__law_draw : FnScope N__law_draw ["hand", "below"] (defScope s__law_draw) := ⟨rfl, rfl, rfl, by decide +kernel, rfl, by decide +kernel, by decide +kernel⟩
section
variable {P : Program} {w : World} {K : PySem.W.Frag} {mg : Str → Option Value} {base : Heap}
theorem ok_law_draw (T : Tx P w K mg) {f : Addr} {fd : FuncData} (F : FD K "_law_draw" s__law_draw f fd) : Fn P w K mg base 1 f fd ["hand", "below"] (spX RW wfDraw) := by
  refine fn_data F sc__law_draw (fun ds s k x h => ?_) fun cv A outer s H G hr gd => ⟨_, (pss_cons (ps_if (PW.pt (pw_and (pt_cmpR (kEq (K := K) hr) (pe_ix (kIx (K := K)) (pv 0) pe_int (fun _ _ => rfl)) pe_int (nomark _)) (pw_and1 (pt_cmpR op_ltX (pe_ix (kIx (K := K)) (pv 0) pe_int (fun _ _ => rfl)) (pe_callB (kLen (K := K)) (by rfl) T.len (by decide +kernel) (pa_cons (pe_ix (kIx (K := K)) (pv 0) pe_int (fun _ _ => rfl)) pa_nil)) (nomark _))))) (pss_cons (ps_set (i := 2) sc__law_draw.nd rfl (Or.inl rfl) (pe_ix (kIx (K := K)) (pe_ix (kIx (K := K)) (pv 0) pe_int (fun _ _ => rfl)) (pe_ix (kIx (K := K)) (pv 0) pe_int (fun _ _ => rfl)) (fun _ _ => rfl)))
    (pss_cons (ps_asg (pe_op (kAdd (K := K)) (pe_ix (kIx (K := K)) (pv 0) pe_int (fun _ _ => rfl)) pe_int) (pg_sub (pv 0) pe_int set_list))
    (pss_cons (ps_asg (pe_op op_mod (pe_callTy Rd.cr_int (by rfl) T.int (by decide +kernel) (pa_cons (pe_op (kAdd (K := K)) (pe_op (kAdd (K := K)) (pe_op (kMul (K := K)) (pe_ix (kIx (K := K)) (pv 0) pe_int (fun _ _ => rfl)) pe_int) (pe_op (kMul (K := K)) (pv 2) pe_int)) pe_int) pa_nil)) pe_int) (pg_sub (pv 0) pe_int set_list))
    (pss_one (ps_if (pt_cmpR op_geX (pv 2) (pe_op op_pow pe_int pe_int) (nomark _)) (pss_one (ps_asg (pv 2) (pg_sub (pv 0) pe_int set_list))) pss_nil))))) pss_nil)
    (pss_cons (ps_if (pt_cmpR op_gtX (pe_ix (kIx (K := K)) (pv 0) pe_int (fun _ _ => rfl)) pe_int (nomark _)) (pss_cons (ps_set (i := 3) sc__law_draw.nd rfl (Or.inl rfl) (pe_op op_mod (pe_callTy Rd.cr_int (by rfl) T.int (by decide +kernel) (pa_cons (pe_ix (kIx (K := K)) (pv 0) pe_int (fun _ _ => rfl)) pa_nil)) (pv 1)))
    (pss_cons (ps_asg (pe_op op_divX (pe_ix (kIx (K := K)) (pv 0) pe_int (fun _ _ => rfl)) (pv 1)) (pg_sub (pv 0) pe_int set_list))
    (pss_one (ps_ret (pv 3))))) pss_nil)
    (pss_cons (ps_asg (pe_op (kAdd (K := K)) (pe_ix (kIx (K := K)) (pv 0) pe_int (fun _ _ => rfl)) pe_int) (pg_sub (pv 0) pe_int set_list))
    (pss_cons (ps_set (i := 4) sc__law_draw.nd rfl (Or.inl rfl) (pe_op op_mod (pe_callTy Rd.cr_int (by rfl) T.int (by decide +kernel) (pa_cons (pe_op (kMul (K := K)) (pe_callTy Rd.cr_int (by rfl) T.int (by decide +kernel) (pa_cons (pe_op (kAdd (K := K)) (pe_ix (kIx (K := K)) (pv 0) pe_int (fun _ _ => rfl)) (pe_op (kMul (K := K)) pe_int (pe_ix (kIx (K := K)) (pv 0) pe_int (fun _ _ => rfl)))) pa_nil)) pe_int) pa_nil)) pe_int))
    (pss_cons (ps_set (i := 4) sc__law_draw.nd rfl (Or.inl rfl) (pe_op op_mod (pe_callTy Rd.cr_int (by rfl) T.int (by decide +kernel) (pa_cons (pe_op (kMul (K := K)) (pv 4) (pe_op (kAdd (K := K)) (pe_op op_divX (pv 4) pe_int) pe_int)) pa_nil)) pe_int))
    (pss_cons (ps_set (i := 4) sc__law_draw.nd rfl (Or.inl rfl) (pe_op op_mod (pe_callTy Rd.cr_int (by rfl) T.int (by decide +kernel) (pa_cons (pe_op (kMul (K := K)) (pv 4) (pe_op (kAdd (K := K)) (pe_op op_divX (pv 4) pe_int) pe_int)) pa_nil)) pe_int))
    (pss_one (ps_ret (pe_op op_mod (pe_callTy Rd.cr_int (by rfl) T.int (by decide +kernel) (pa_cons (pe_op op_divX (pv 4) pe_int) pa_nil)) (pv 1)))))))))), ?_⟩
  · match ds, h with
    | [.opq a, .int m], _ => rfl
  · apply bodyW
    · (first | walk_at "sim" | fail)
    intro ds s k x ok h
    match ds, h with
    | [.opq a, .int m], ⟨c, ⟨cells, p, r, mx, n, ha, hc, ne, p0, r0, z0⟩, hm, hm2, hk⟩ =>
      have cp : CPow 10 18 := ⟨by decide, by decide, by decide⟩
      have me : m ≠ 0 := by omega
      have hand : ∀ {s'}, OffR a s s' → s' c = some (.lst (cells.map D.int)) := fun o => (o c ne).trans hc
      refine cut (fun env s' => ∃ p r mx : Int, s' a = some (.lst [.opq c, .int p, .int r, .int mx, .int n]) ∧ OffR a s s' ∧ 0 ≤ p ∧ 0 ≤ r ∧ ∃ v2 v3 v4, env = [.dat (.opq a), .dat (.int m), v2, v3, v4]) (fun K1 h1 _ _ => ?_) fun env s' hI => ?_
      · simp [ha, hc, at0, at1, at2, at3, at4, ix51, ix52, ix53, ix54, cp]
        refine iteP (fun _ => iteP (fun hp => ?_) fun _ => h1 _ _ ⟨p, r, mx, ha, .refl, p0, r0, _, _, _, rfl⟩) fun _ => h1 _ _ ⟨p, r, mx, ha, .refl, p0, r0, _, _, _, rfl⟩
        obtain ⟨j, rfl⟩ := Int.eq_ofNat_of_zero_le p0
        have hj : j < cells.length := by omega
        have az : atI (cells.map D.int) (j : Int) = some (.int cells[j]) := atI_nat (by rw [List.getElem?_map, List.getElem?_eq_getElem hj]; rfl)
        have zz := z0 _ (List.getElem_mem hj)
        rw [az]
        refine ⟨.inl (.inr ⟨by decide, by decide⟩), .inl (.inr ⟨by decide, by decide⟩), iteP (fun _ => ⟨rfl, ?_⟩) fun _ => ?_⟩
        · exact h1 _ _ ⟨_, _, _, rup_same, .put .refl, by omega, zz, _, _, _, rfl⟩
        · exact h1 _ _ ⟨_, _, _, rup_same, .put .refl, by omega, r0, _, _, _, rfl⟩
      obtain ⟨p, r, mx, ha, off, p0, r0, v2, v3, v4, rfl⟩ := hI
      refine cut (fun env s' => ∃ mx : Int, s' a = some (.lst [.opq c, .int p, .int r, .int mx, .int n]) ∧ OffR a s s' ∧ ∃ v2 v3 v4, env = [.dat (.opq a), .dat (.int m), v2, v3, v4]) (fun K1 h1 e1 _ => ?_) fun env s' hI => ?_
      · simp [ha, hc, at0, at1, at2, at3, at4, ix51, ix52, ix53, ix54, cp, e1]
        refine iteP (fun _ => ⟨hm, .inl ⟨hm, hm2⟩, ?_⟩) fun _ => h1 _ _ ⟨mx, ha, off, v2, v3, v4, rfl⟩
        exact hk _ _ ⟨cells, p, r / m, mx, n, rup_same, by rw [rup_ne ne]; exact hand off, ne, p0, Int.ediv_nonneg r0 (by omega), z0⟩ (.put off) (Int.emod_nonneg _ me) (Int.emod_lt_of_pos _ hm)
      obtain ⟨mx, ha, off, v2, v3, v4, rfl⟩ := hI
      simp [ha, hc, at0, at1, at2, at3, at4, ix51, ix52, ix53, ix54, cp]
      have md : ∀ i j : Int, CMul (i % 2147483647) j ∨ CMulW (i % 2147483647) j := fun i j => .inl (.inl ⟨by omega, by omega⟩)
      have lit : ∀ {i j : Int}, -(2 ^ 64) < j ∧ j < 2 ^ 64 → CMul i j ∨ CMulW i j := fun h => .inl (.inr h)
      refine ⟨.inl (.inl ⟨by decide, by decide⟩), lit ⟨by decide, by decide⟩, .inl ⟨by decide, by decide⟩, md _ _, .inl ⟨by decide, by decide⟩, md _ _, .inl ⟨by decide, by decide⟩, hm, ?_⟩
      exact hk _ _ ⟨cells, p, r, mx, n + 1, rup_same, by rw [rup_ne ne]; exact hand off, ne, p0, r0, z0⟩ (.put off) (Int.emod_nonneg _ me) (Int.emod_lt_of_pos _ hm)
end
end Law
set_option Elab.async false
set_option linter.all false
set_option maxRecDepth 100000
set_option maxHeartbeats 8000000
namespace Law
open PySem PySem.Spec PyProof.Rows L2 Gl Dw
local macro_rules | `(tactic| walk_at "hp") => `(tactic| (exact upd_same))
local macro_rules | `(tactic| walk_at "hp") => `(tactic| (((with_reducible apply Rd.upd_off'); (with_reducible assumption); (walk_at "hp"))))
local macro_rules | `(tactic| walk_at "hp") => `(tactic| (((with_reducible apply Rd.upd_off); (with_reducible assumption); (walk_at "hp"))))
local macro_rules | `(tactic| walk_at "hp") => `(tactic| (((with_reducible apply Rd.upd_new); (with_reducible assumption); (walk_at "hp"))))
local macro_rules | `(tactic| walk_at "hp") => `(tactic| (with_reducible exact upd_same))
local macro_rules | `(tactic| walk_at "hp") => `(tactic| (with_reducible assumption))
local macro_rules | `(tactic| walk_at "sq") => `(tactic| ((apply SqT.of; walk_at "hp")))
local macro_rules | `(tactic| walk_at "sq") => `(tactic| ((apply SqL.of; walk_at "hp")))
local macro_rules | `(tactic| walk_at "sq") => `(tactic| (assumption))
local macro_rules | `(tactic| walk_at "rd1") => `(tactic| (((with_reducible apply Rd.fldE); rfl; (walk_at "hp"); (walk_at "hp"))))
local macro_rules | `(tactic| walk_at "rd1") => `(tactic| (with_reducible refine Rd.par33 ?_))
local macro_rules | `(tactic| walk_at "rd1") => `(tactic| (with_reducible refine Dt.isi_str (by assumption) ?_))
local macro_rules | `(tactic| walk_at "rd1") => `(tactic| (with_reducible refine Dt.isi_bool (by assumption) ?_))
local macro_rules | `(tactic| walk_at "rd1") => `(tactic| (with_reducible refine Dt.isi_int (by assumption) ?_))
local macro_rules | `(tactic| walk_at "rd1") => `(tactic| (with_reducible refine Dt.isi_tup (by assumption) ?_))
local macro_rules | `(tactic| walk_at "rd1") => `(tactic| (with_reducible refine Rd.chain ?_))
local macro_rules | `(tactic| walk_at "rd1") => `(tactic| (with_reducible refine Rd.ifx ?_))
local macro_rules | `(tactic| walk_at "rd1") => `(tactic| (with_reducible refine Rd.notv ?_))
local macro_rules | `(tactic| walk_at "rd1") => `(tactic| (with_reducible refine Rd.orv ?_))
local macro_rules | `(tactic| walk_at "rd1") => `(tactic| (with_reducible refine Rd.andv ?_))
local macro_rules | `(tactic| walk_at "rd1") => `(tactic| (with_reducible refine Rd.nopart ?_))
local macro_rules | `(tactic| walk_at "rd1") => `(tactic| (with_reducible refine Rd.part ?_))
local macro_rules | `(tactic| walk_at "rd1") => `(tactic| (with_reducible refine Rd.sl ?_))
local macro_rules | `(tactic| walk_at "rd1") => `(tactic| (with_reducible refine Rd.ipi ?_))
local macro_rules | `(tactic| walk_at "rd1") => `(tactic| (((with_reducible apply Rd.aug); rfl)))
local macro_rules | `(tactic| walk_at "rd1") => `(tactic| (((with_reducible (refine Dt.mulS ?_ ?_ ?_ ?_ ?_ ?_)); decide; decide; exact ⟨by decide, by decide⟩; decide +kernel; decide +kernel)))
local macro_rules | `(tactic| walk_at "rd1") => `(tactic| (((with_reducible (refine Dt.dnew ?_)); intro _ _)))
local macro_rules | `(tactic| walk_at "rd1") => `(tactic| (with_reducible refine Rd.par3 ?_))
local macro_rules | `(tactic| walk_at "rd1") => `(tactic| (with_reducible refine Rd.par2 ?_))
local macro_rules | `(tactic| walk_at "rd1") => `(tactic| (with_reducible refine Rd.par ?_))
local macro_rules | `(tactic| walk_at "rd1") => `(tactic| (with_reducible refine Rd.gnil ?_))
local macro_rules | `(tactic| walk_at "rd1") => `(tactic| (with_reducible refine Rd.gcons ?_))
local macro_rules | `(tactic| walk_at "rd1") => `(tactic| (((with_reducible apply Rd.gtup); (walk_at "sq"); rfl)))
local macro_rules | `(tactic| walk_at "rd1") => `(tactic| (((with_reducible apply Rd.cat); (walk_at "hp"); (walk_at "hp"); exact Rd.szl2 (by simp); intro _ _)))
local macro_rules | `(tactic| walk_at "rd1") => `(tactic| (((with_reducible (refine And.intro (Rd.szl (by simp)) ?_)); intro _ _)))
local macro_rules | `(tactic| walk_at "rd1") => `(tactic| (with_reducible refine Rd.tup ?_))
local macro_rules | `(tactic| walk_at "rd1") => `(tactic| (with_reducible refine Rd.lst ?_))
local macro_rules | `(tactic| walk_at "rd1") => `(tactic| (((with_reducible apply Rd.mkE); rfl; intro _ _ _ _)))
local macro_rules | `(tactic| walk_at "rd1") => `(tactic| ((with_reducible (refine Rd.mkN ?_)); intro _ _))
local macro_rules | `(tactic| walk_at "rd1") => `(tactic| (with_reducible refine Rd.df ?_))
local macro_rules | `(tactic| walk_at "rd1") => `(tactic| (with_reducible refine Rd.iteNF ?_))
local macro_rules | `(tactic| walk_at "rd1") => `(tactic| (with_reducible refine Rd.iteNT ?_))
local macro_rules | `(tactic| walk_at "rd1") => `(tactic| (with_reducible refine Rd.iteF ?_))
local macro_rules | `(tactic| walk_at "rd1") => `(tactic| (with_reducible refine Rd.iteT ?_))
local macro_rules | `(tactic| walk_at "rd1") => `(tactic| (((with_reducible apply Rd.popat00); walk_at "hp")))
local macro_rules | `(tactic| walk_at "rd1") => `(tactic| (((with_reducible apply Rd.appl); (walk_at "hp"))))
local macro_rules | `(tactic| walk_at "rd1") => `(tactic| ((apply Rd.tyl; (walk_at "hp"))))
local macro_rules | `(tactic| walk_at "rd1") => `(tactic| (with_reducible refine Rd.bm0 ?_))
local macro_rules | `(tactic| walk_at "rd1") => `(tactic| (with_reducible refine Rd.bm ?_))
local macro_rules | `(tactic| walk_at "rd1") => `(tactic| (((with_reducible apply Rd.setl); (walk_at "hp"); (first | rfl | exact Rd.ixN0))))
local macro_rules | `(tactic| walk_at "rd1") => `(tactic| (with_reducible refine Rd.gsub ?_))
local macro_rules | `(tactic| walk_at "rd1") => `(tactic| (with_reducible refine Rd.abs1 ?_))
local macro_rules | `(tactic| walk_at "rd1") => `(tactic| (with_reducible refine Rd.intb ?_))
local macro_rules | `(tactic| walk_at "rd1") => `(tactic| (with_reducible refine Rd.int1 ?_))
local macro_rules | `(tactic| walk_at "rd1") => `(tactic| (((with_reducible apply Rd.lenT); (walk_at "sq"))))
local macro_rules | `(tactic| walk_at "rd1") => `(tactic| (((with_reducible apply Rd.lenL); (walk_at "sq"))))
local macro_rules | `(tactic| walk_at "rd1") => `(tactic| (with_reducible refine Rd.u1 ?_))
local macro_rules | `(tactic| walk_at "rd1") => `(tactic| (with_reducible refine Rd.un ?_))
local macro_rules | `(tactic| walk_at "rd1") => `(tactic| (with_reducible refine Rd.anil ?_))
local macro_rules | `(tactic| walk_at "rd1") => `(tactic| (with_reducible refine Rd.acons ?_))
local macro_rules | `(tactic| walk_at "rd1") => `(tactic| (with_reducible refine Rd.cb ?_))
local macro_rules | `(tactic| walk_at "rd1") => `(tactic| (with_reducible refine Rd.neS ?_))
local macro_rules | `(tactic| walk_at "rd1") => `(tactic| (with_reducible refine Rd.eqS ?_))
local macro_rules | `(tactic| walk_at "rd1") => `(tactic| (with_reducible refine Rd.neI ?_))
local macro_rules | `(tactic| walk_at "rd1") => `(tactic| (with_reducible refine Rd.eqI ?_))
local macro_rules | `(tactic| walk_at "rd1") => `(tactic| (with_reducible refine Rd.exint ?_))
local macro_rules | `(tactic| walk_at "rd1") => `(tactic| (with_reducible refine Rd.exbl ?_))
local macro_rules | `(tactic| walk_at "rd1") => `(tactic| (with_reducible refine Rd.tyes ?_))
local macro_rules | `(tactic| walk_at "rd1") => `(tactic| (with_reducible refine Rd.tand ?_))
local macro_rules | `(tactic| walk_at "rd1") => `(tactic| (with_reducible refine Rd.tor ?_))
local macro_rules | `(tactic| walk_at "rd1") => `(tactic| (with_reducible refine Rd.tnot ?_))
local macro_rules | `(tactic| walk_at "rd1") => `(tactic| (with_reducible refine Rd.tb ?_))
local macro_rules | `(tactic| walk_at "rd1") => `(tactic| (with_reducible refine Rd.test ?_))
local macro_rules | `(tactic| walk_at "rd1") => `(tactic| (with_reducible refine Rd.ifs ?_))
local macro_rules | `(tactic| walk_at "rd1") => `(tactic| (with_reducible refine Rd.next ?_))
local macro_rules | `(tactic| walk_at "rd1") => `(tactic| (with_reducible refine Rd.drop ?_))
local macro_rules | `(tactic| walk_at "rd1") => `(tactic| (with_reducible refine Rd.ret ?_))
local macro_rules | `(tactic| walk_at "rd1") => `(tactic| (((with_reducible apply Rd.ixt); (walk_at "sq"); (first | rfl | exact Rd.atI0 | assumption))))
local macro_rules | `(tactic| walk_at "rd1") => `(tactic| (((with_reducible apply Rd.ixl); (walk_at "sq"); (first | rfl | exact Rd.atI0 | assumption))))
local macro_rules | `(tactic| walk_at "rd1") => `(tactic| (((with_reducible apply Rd.iC); (first | (show _ < _; omega) | exact ⟨by omega, by omega⟩ | exact .inl ⟨by omega, by omega⟩ | exact .inr ⟨by omega, by omega⟩ | exact ⟨by decide, by decide, by decide⟩); skip)))
local macro_rules | `(tactic| walk_at "rd1") => `(tactic| (with_reducible refine Rd.i0 ?_))
local macro_rules | `(tactic| walk_at "rd1") => `(tactic| (with_reducible refine Rd.op ?_))
local macro_rules | `(tactic| walk_at "rd1") => `(tactic| (with_reducible refine Rd.cst ?_))
local macro_rules | `(tactic| walk_at "rd1") => `(tactic| (((with_reducible apply Rd.var); rfl)))
local macro_rules | `(tactic| walk_at "rd1") => `(tactic| (with_reducible refine Rd.gname ?_))
local macro_rules | `(tactic| walk_at "rd1") => `(tactic| (with_reducible refine Rd.asg ?_))
local macro_rules | `(tactic| walk_at "rd1") => `(tactic| (with_reducible refine Rd.seq ?_))

theorem po_hi {n : Int} : ∀ {σ : L2.St} {H : Hp} (R : Option Int → Hp → Prop), R (some n) H → tPart (tC (.int n)) σ H R := fun R h => ⟨n, rfl, h⟩
theorem po_no : ∀ {σ : L2.St} {H : Hp} (R : Option Int → Hp → Prop), R none H → tNoPart σ H R := fun R h => h
theorem mem_cut {ns : List Int} {lo hi : Option Int} {x : V} (h : x ∈ cutV (ns.map V.int) lo hi) : ∃ z, x = .int z := by
  unfold cutV at h
  obtain ⟨z, _, rfl⟩ := List.mem_map.mp (List.mem_of_mem_drop (List.mem_of_mem_take h))
  exact ⟨z, rfl⟩
theorem len_cut {xs : List V} {n : Nat} : (cutV xs none (some (n : Int))).length ≤ n := by
  unfold cutV
  rw [List.length_take]
  refine Nat.le_trans (Nat.min_le_left _ _) ?_
  show HT.sIx _ _ (some (n : Int)) - 0 ≤ n
  rw [HT.sIx_nat]
  omega
def gf : V → V
  | .int z => .int (if z < 0 then -z else z)
  | v => v
theorem abs_is : ∀ xs : List V, (∀ x ∈ xs, ∃ z, x = V.int z) → ∃ ms : List Int, (xs.filter fun _ => true).map gf = ms.map V.int ∧ ms.length = xs.length ∧ ∀ m ∈ ms, 0 ≤ m
  | [], _ => ⟨[], rfl, rfl, fun m h => nomatch h⟩
  | x :: xs, h => by
    obtain ⟨z, rfl⟩ := h x (by simp)
    obtain ⟨ms, e, l, p⟩ := abs_is xs fun y hy => h y (by simp [hy])
    refine ⟨(if z < 0 then -z else z) :: ms, by rw [List.filter_cons_of_pos rfl, List.map_cons, e]; rfl, by simp [l], fun m hm => ?_⟩
    rcases List.mem_cons.mp hm with rfl | hm
    · split <;> omega
    · exact p m hm
def spHandR (K : PySem.W.Frag) : Sp := fun vs H Q _ => ∃ (a : Addr) (ns : List Int), vs = [.ref a] ∧ SqL K H a (ns.map V.int) ∧ ns.length ≤ 1000 ∧ ∀ (p c : Addr) (H' : Hp) (ms : List Int) (m : Int), H' p = some (.lst [.ref c, .int 0, .int 0, .int m, .int 0]) → H' c = some (.lst (ms.map V.int)) → c ≠ p → (∀ z ∈ ms, 0 ≤ z) → ms.length ≤ 63 → Q (.ref p) H'
abbrev s__law_hand : Stmt := top 58
abbrev N__law_hand : List Str := ["script", "cells", "cell"]
theorem sc__law_hand : FnScope N__law_hand ["script"] (defScope s__law_hand) := ⟨rfl, rfl, rfl, by decide +kernel, rfl, by decide +kernel, by decide +kernel⟩
section
variable {P : Program} {w : World} {K : PySem.W.Frag} {mg : Str → Option Value} {base : Heap}
theorem ok_hand (T : Tx P w K mg) {f : Addr} {fd : FuncData} (F : FD K "_law_hand" s__law_hand f fd) : Fn P w K mg base 1 f fd ["script"] (spHandR K) := by
  refine fn_body F sc__law_hand (fun vs H Q E h => ?_) (fun cv A outer s H vs Q E hr gd h => ?_)
  · obtain ⟨a, ns, rfl, _⟩ := h
    rfl
  · obtain ⟨a, ns, rfl, hS, hl, k⟩ := h
    refine ⟨_, (pss_cons (ps_setLc (i := 1) (y := "cells") (own := [("cell", 2)]) (g := gName 2) (by rfl) sc__law_hand.nd rfl rfl (sw_true rfl rfl rfl (by decide +kernel)) (pi_list (pe_slice sl_list (pv 0) po_none (po_some pe_int))) (blkOk_by (own := [("cell", 2)]) (N := N__law_hand) (sc := defScope s__law_hand) (by decide +kernel)) (fun _ _ _ _ _ => pg_name (i := 2) sc__law_hand.nd rfl (Or.inl rfl)) (fun _ _ _ _ _ => pts_nil) (fun _ _ _ _ _ => (pe_callB Rd.cr_abs (by rfl) T.abs (by decide +kernel) (pa_cons (pe_callTy Rd.cr_int (by rfl) T.int (by decide +kernel) (pa_cons (pv 2) pa_nil)) pa_nil))))
    (pss_one (ps_ret (pe_lst (pa_cons (pv 1) (pa_cons pe_int (pa_cons pe_int (pa_cons (pe_op op_add pe_int (pe_op op_mul pe_int (pe_callB Rd.cr_len (by rfl) T.len (by decide +kernel) (pa_cons (pv 1) pa_nil)))) (pa_cons pe_int pa_nil))))))))), ?_⟩
    refine Rd.seq (Rd.asg (Rd.lcSl (i := 0) (lo := none) (hi := some ((63 : Nat) : Int)) rfl hS (Nat.le_trans len_cut (by decide)) po_no po_hi (fun _ => true) gf ?_ ?_))
    · intro x hx H2 S F hs h1 h2
      obtain ⟨z, rfl⟩ := mem_cut hx
      refine Rd.gname ⟨rfl, ?_⟩
      refine ite_t (b := F H2) (rfl : (true : Bool) = true) ?_
      repeat (first | walk_at "rd1" | fail)
      exact h1 rfl
    · intro q hq D hD
      obtain ⟨ms, em, lm, pm⟩ := abs_is (cutV (ns.map V.int) none (some ((63 : Nat) : Int))) fun x hx => mem_cut hx
      have hG : upd (upd H q (.lst (cutV (ns.map V.int) none (some ((63 : Nat) : Int))))) D (.lst ((List.filter (fun _ => true) (cutV (ns.map V.int) none (some ((63 : Nat) : Int)))).map gf)) D = some (.lst (ms.map V.int)) := by rw [upd_same, em]
      revert hG
      generalize upd (upd H q _) D _ = H1
      intro hG
      have lm : ms.length ≤ 63 := by rw [lm]; exact len_cut
      repeat (first | walk_at "rd1" | fail)
      rename_i p hp
      exact k p D _ ms _ upd_same (by rw [upd_ne (ne_of_none hG hp)]; exact hG) (ne_of_none hG hp) pm lm
def hand0 (p c : Addr) (ms : List Int) (m : Int) : Rg := fun x => if x = p then some (.lst [.opq c, .int 0, .int 0, .int m, .int 0]) else if x = c then some (.lst (ms.map D.int)) else none
theorem hand_at {H : Hp} {p c : Addr} {ms : List Int} {m : Int} (hp : H p = some (.lst [.ref c, .int 0, .int 0, .int m, .int 0])) (hc : H c = some (.lst (ms.map V.int))) (ne : c ≠ p) (z : ∀ z ∈ ms, 0 ≤ z) (l : ms.length ≤ 63) :
    RW.J (hand0 p c ms m) H ∧ HoR p c (hand0 p c ms m) := by
  have e1 : hand0 p c ms m p = some (.lst [.opq c, .int 0, .int 0, .int m, .int 0]) := by unfold hand0; rw [if_pos rfl]
  have e2 : hand0 p c ms m c = some (.lst (ms.map D.int)) := by unfold hand0; rw [if_neg ne, if_pos rfl]
  refine ⟨fun a o q => ?_, ms, 0, 0, m, 0, e1, e2, ne, Int.le_refl _, Int.le_refl _, z⟩
  by_cases h1 : a = p
  · subst h1
    rw [e1] at q
    cases q
    exact ⟨rfl, _, hp, .cons (.opq _) (.cons (.int _) (.cons (.int _) (.cons (.int _) (.cons (.int _) .nil)))), (show 5 ≤ sizeLine by decide)⟩
  · by_cases h2 : a = c
    · subst h2
      rw [e2] at q
      cases q
      refine ⟨flts_of fun d hd => ?_, _, hc, daL_ints ms, by rw [List.length_map, sizeLine_eq]; omega⟩
      obtain ⟨n, _, rfl⟩ := List.mem_map.mp hd
      rfl
    · unfold hand0 at q
      rw [if_neg h1, if_neg h2] at q
      cases q
theorem hand_startR {K : PySem.W.Frag} {N : List Str} {tr : TS} {a : Addr} {ns : List Int} {H : Hp} {Q : VK} {E : L2.St → XK} (h : SqL K H a (ns.map V.int)) (hl : ns.length ≤ 1000) (hQ : ∀ H', Q (.bl true) H') (hN : 1 ≤ N.length)
    (sim : ∃ wr : WS Rg, (∀ G : Gm Rg, SimS RW G tr wr) ∧ ∀ (p c : Addr) (s : Rg), HoR p c s → wr ⟨fun _ _ => False, fun d _ => d = .bl true, fun _ _ => False, fun _ _ => False, fun _ _ => False⟩ (ss (envOf N.length [.opq a]) 1 (.dat (.opq p))) s) :
    tSeq (tAsg (Gl.tDf (spHandR K) E (tCons (tVar 0) tNil)) (gName 1)) tr ⟨fun _ H' => Q .non H', Q, fun _ _ => False, fun _ _ => False⟩ (L2.start N [.ref a]) H := by
  obtain ⟨wr, sw, hw⟩ := sim
  refine ⟨.ref a, rfl, a, ns, rfl, h, hl, fun p c H' ms m hp hc ne z l => ?_⟩
  obtain ⟨J, ho⟩ := hand_at hp hc ne z l
  have rl := (rel_start (W := RW) (E := E0) (N := N) (R := fun _ => False) (s := hand0 p c ms m) ⟨J, fun _ h => h.elim, fun _ _ h => h.elim⟩ (.cons (.opq a) .nil)).setD 1 (v := .ref p) (d := .opq p) (.opq p)
  refine sw ⟨H', hand0 p c ms m, fun _ => False, E0⟩ _ _ _ _ _ rl _ (hw p c _ ho) _ ⟨?_, ?_, ?_, ?_, ?_⟩
  · intro _ _ _ _ _ hk
    exact hk.elim
  · intro d s' v H' hk _ _ a
    subst hk
    cases a
    exact hQ H'
  · intro _ _ _ _ _ hk
    exact hk.elim
  · intro _ _ _ _ _ hk
    exact hk.elim
  · intro _ _ _ _ _ hk
    exact hk.elim
theorem bodyR {tr : TS} {O : WS Rg → Prop} {wr : WS Rg} (a : ∀ G, SimS RW G tr wr) (b : O wr) : ∃ wr : WS Rg, (∀ G : Gm Rg, SimS RW G tr wr) ∧ O wr := ⟨wr, a, b⟩
end
end Law
set_option Elab.async false
set_option linter.all false
set_option maxRecDepth 100000
set_option maxHeartbeats 8000000
namespace Law
open PySem PySem.Spec PyProof.Rows L2 Gl Dw


structure ClB (K : PySem.W.Frag) (C : Addr) : Prop where
  cls : Cls K C
  n1 : NoAttr K C "records"
  n2 : NoAttr K C "places"
  n3 : NoAttr K C "freshes"
/-- the book at b (its list at r, its dict at p) has these terms -/
def BkAt (P : Program) (w : World) (C b r p : Addr) (recs : List D) (n : Int) (s : Rg) : Prop := ∃ (dx : Addr) (xs : List (NestedKey × Int)), s b = some (.ins C dx (bkFs r p n)) ∧ s r = some (.lst recs) ∧ s p = some (.nst P w xs) ∧ b ≠ r ∧ b ≠ p ∧ r ≠ p ∧
  xs.length = recs.length ∧ ∀ (i : Nat) (d : D), recs[i]? = some d → ∃ key, d.nk = some key ∧ xs[i]? = some (key, (i : Int))
theorem lkR {r p : Addr} {n : Int} : List.lookup ("records" : Str) (bkFs r p n) = some (.opq r) := rfl
theorem lkP {r p : Addr} {n : Int} : List.lookup ("places" : Str) (bkFs r p n) = some (.opq p) := rfl
theorem lkF {r p : Addr} {n : Int} : List.lookup ("freshes" : Str) (bkFs r p n) = some (.int n) := rfl
theorem atNI_new {xs : List (NestedKey × Int)} {k : NestedKey} {n : Int} (h : atNI xs k = none) : atNI (xs ++ [(k, n)]) k = some n := by
  unfold atNI at h ⊢
  rw [Option.map_eq_none_iff] at h
  rw [List.find?_append, h]
  simp
def OffB (b r p : Addr) (s s' : Rg) : Prop := ∀ x, x ≠ b → x ≠ r → x ≠ p → s' x = s x
mutual
theorem nk_inj : ∀ {a b : D} {k : NestedKey}, a.nk = some k → b.nk = some k → a = b
  | .int i, b, k, h, g => by
    simp only [D.nk, Option.some.injEq] at h
    subst h
    exact (nk_num g).symm
  | .str x, b, k, h, g => by
    simp only [D.nk, Option.some.injEq] at h
    subst h
    exact (nk_text g).symm
  | .tup ds, b, k, h, g => by
    simp only [D.nk, Option.map_eq_some_iff] at h
    obtain ⟨ks, h1, rfl⟩ := h
    obtain ⟨es, rfl, g1⟩ := nk_tup g
    rw [nks_inj h1 g1]
  | .non, _, _, h, _ => by simp [D.nk] at h
  | .bl _, _, _, h, _ => by simp [D.nk] at h
  | .lst _, _, _, h, _ => by simp [D.nk] at h
  | .dic _, _, _, h, _ => by simp [D.nk] at h
  | .dit _, _, _, h, _ => by simp [D.nk] at h
  | .obj _ _, _, _, h, _ => by simp [D.nk] at h
  | .opq _, _, _, h, _ => by simp [D.nk] at h
  | .ty _, _, _, h, _ => by simp [D.nk] at h
theorem nks_inj : ∀ {a b : List D} {k : List NestedKey}, D.nks a = some k → D.nks b = some k → a = b
  | [], b, k, h, g => by
    simp only [D.nks, Option.some.injEq] at h
    subst h
    exact (nks_nil g).symm
  | d :: r, b, k, h, g => by
    unfold D.nks at h
    cases q1 : d.nk with
    | none => rw [q1] at h; cases h
    | some k' =>
      cases q2 : D.nks r with
      | none => rw [q1, q2] at h; cases h
      | some ks =>
        rw [q1, q2] at h
        cases h
        obtain ⟨e, s, rfl, g1, g2⟩ := nks_cons g
        rw [nk_inj q1 g1, nks_inj q2 g2]
end
/-- where an entry stands -/
def ixOf (recs : List D) (d : D) : Option Nat := recs.findIdx? fun e => decide (e.nk = d.nk)
section
variable {P : Program} {w : World} {C b r p : Addr} {recs : List D} {n : Int} {s : Rg}
theorem at_ix {xs : List (NestedKey × Int)} {d : D} {key : NestedKey} (nk : d.nk = some key) (lx : xs.length = recs.length) (hx : ∀ (i : Nat) (d : D), recs[i]? = some d → ∃ key, d.nk = some key ∧ xs[i]? = some (key, (i : Int))) : atNI xs key = (ixOf recs d).map Int.ofNat := by
  have ev : ∀ (i : Nat) (h : i < xs.length), xs[i].1 = key ↔ (recs[i]'(by omega)).nk = d.nk := fun i h => by
    obtain ⟨k', h1, h2⟩ := hx i _ (List.getElem?_eq_getElem (by omega))
    have e := (List.getElem?_eq_some_iff.mp h2).2
    rw [e, h1, nk]
    simp
  unfold atNI ixOf
  cases h : recs.findIdx? fun e => decide (e.nk = d.nk) with
  | none =>
    rw [Option.map_none, Option.map_eq_none_iff, List.find?_eq_none]
    rw [List.findIdx?_eq_none_iff] at h
    intro x hx' z
    obtain ⟨i, hi, e⟩ := List.getElem_of_mem hx'
    have := h (recs[i]'(by omega)) (List.getElem_mem _)
    rw [← e] at z
    have z := (ev i hi).mp (of_decide_eq_true z)
    simp [z] at this
  | some i =>
    obtain ⟨hi, h1, h2⟩ := List.findIdx?_eq_some_iff_getElem.mp h
    have hf : (xs.find? fun x => decide (x.1 = key)) = some xs[i] := by
      rw [List.find?_eq_some_iff_getElem]
      refine ⟨decide_eq_true ((ev i (by omega)).mpr (of_decide_eq_true h1)), i, by omega, rfl, fun j hj => ?_⟩
      have := h2 j hj
      rw [Bool.not_eq_true] at this
      simp only [Bool.not_eq_true', decide_eq_false_iff_not]
      exact fun z => of_decide_eq_false this ((ev j (by omega)).mp z)
    rw [hf]
    obtain ⟨k', q1, q2⟩ := hx i _ (List.getElem?_eq_getElem hi)
    have e := (List.getElem?_eq_some_iff.mp q2).2
    simp [e]
end
def wfRaw (P : Program) (w : World) (C : Addr) : WF Rg := fun ds s k _ => match ds with
  | [.opq b, .str kd, .tup ps] => ∃ r p recs n key, BkAt P w C b r p recs n s ∧ (D.tup [.str kd, .tup ps]).nk = some key ∧ key.depth ≤ 8 ∧ D.flts ps = true ∧ recs.length < 1000000 ∧ (match ixOf recs (.tup [.str kd, .tup ps]) with
    | some i => k (.int i) s
    | none => ∀ s', BkAt P w C b r p (recs ++ [.tup [.str kd, .tup ps]]) n s' → OffB b r p s s' → k (.int recs.length) s')
  | _ => False
abbrev s_Book_raw_put : Stmt := inClass (top 29) 7
abbrev N_Book_raw_put : List Str := ["self", "kind", "parts", "entry"]
theorem sc_Book_raw_put : FnScope N_Book_raw_put ["self", "kind", "parts"] (defScope s_Book_raw_put) := ⟨rfl, rfl, rfl, by decide +kernel, rfl, by decide +kernel, by decide +kernel⟩
section
variable {P : Program} {w : World} {K : PySem.W.Frag} {mg : Str → Option Value} {base : Heap} {CB : Addr}
theorem ok_raw_put (T : Tx P w K mg) (cB : ClB K CB) {f : Addr} {fd : FuncData} (F : FunD K "raw_put" "Book.raw_put" (defArgs s_Book_raw_put) (defBody s_Book_raw_put) (defScope s_Book_raw_put) [] [] f fd) : Fn P w K mg base 1 f fd ["self", "kind", "parts"] (spX RW (wfRaw P w CB)) := by
  refine fn_data F sc_Book_raw_put (fun ds s k x h => ?_) fun cv A outer s H G hr gd => ⟨_, (pss_cons (ps_set (i := 3) sc_Book_raw_put.nd rfl (Or.inl rfl) (pe_tup (pa_cons (pv 1) (pa_cons (pv 2) pa_nil))))
    (pss_cons (ps_if (pt_cmp (kNNI (P := P) (w := w) (huN hr) (pv 3) (kFld (K := K) (pv 0) rfl))) (pss_cons (ps_asg (pe_callB (kLen (K := K)) (by rfl) T.len (by decide +kernel) (pa_cons (kFld (K := K) (pv 0) rfl) pa_nil)) (pg_sub (kFld (K := K) (pv 0) rfl) (pv 3) (kSN (P := P) (w := w) (huN hr))))
    (pss_one (ps_expr (pe_bm PySem.F.plainAttrs_list PySem.F.slot_list_append PySem.F.type_list_append mt_append (kFld (K := K) (pv 0) rfl) (pa_cons (pv 3) pa_nil))))) pss_nil)
    (pss_one (ps_ret (kNG (P := P) (w := w) (huN hr) (kFld (K := K) (pv 0) rfl) (pv 3) (fun _ _ => rfl)))))), ?_⟩
  · match ds, h with
    | [.opq a, .str _, .tup _], _ => rfl
  · have c1 := cB.cls
    have c2 := cB.n1
    have c3 := cB.n2
    have c4 := cB.n3
    apply bodyW
    · (first | walk_at "sim" | fail)
    intro ds s k x ok h
    match ds, h with
    | [.opq b, .str kd, .tup ps], ⟨r, p, recs, n, key, ⟨dx, xs, hb, hr', hp, br, bp, rp, lx, hx⟩, nk, kdp, fl, lz, hk⟩ =>
      have no := at_ix nk lx hx
      cases q : ixOf recs (.tup [.str kd, .tup ps]) with
      | some i =>
        rw [q] at no hk
        simp only [Option.map_some] at no
        simp [hb, hr', hp, lkR, lkP, nk, no, rup_ne br, rup_ne bp, rup_ne rp, rup_ne (Ne.symm br), rup_ne (Ne.symm bp), rup_ne (Ne.symm rp)]
        exact ⟨by decide, kdp, hk⟩
      | none =>
        rw [q] at no hk
        simp only [Option.map_none] at no
        simp [hb, hr', hp, lkR, lkP, nk, no, rup_ne br, rup_ne bp, rup_ne rp, rup_ne (Ne.symm br), rup_ne (Ne.symm bp), rup_ne (Ne.symm rp)]
        refine ⟨by decide, kdp, by rw [sizeLine_eq]; omega, fl, by rw [sizeLine_eq]; omega, kdp, _, atNI_new no, hk _ ⟨dx, xs ++ [(key, (recs.length : Int))], ?_, rup_same, ?_, br, bp, rp, by simp [lx], fun i d hd => ?_⟩ fun x h1 h2 h3 => ?_⟩
        · rw [rup_ne br, rup_ne bp]
          exact hb
        · rw [rup_ne (Ne.symm rp), rup_same]
        · rcases Nat.lt_or_ge i recs.length with hi | hi
          · rw [List.getElem?_append_left hi] at hd
            obtain ⟨key', q1, q2⟩ := hx i d hd
            exact ⟨key', q1, by rw [List.getElem?_append_left (by omega)]; exact q2⟩
          · rw [List.getElem?_append_right hi] at hd
            have : i = recs.length := by
              rcases Nat.lt_or_ge recs.length i with h | h
              · rw [List.getElem?_eq_none (by simp; omega)] at hd
                cases hd
              · omega
            subst this
            simp at hd
            subst hd
            exact ⟨key, nk, by rw [List.getElem?_append_right (by omega), lx]; simp⟩
        · rw [rup_ne h2, rup_ne h3]
end
end Law
set_option Elab.async false
set_option linter.all false
set_option maxRecDepth 100000
set_option maxHeartbeats 8000000
namespace Law
open PySem PySem.Spec PyProof.Rows L2 Gl Dw


def frD (n : Int) : D := .tup [.str "fresh", .tup [.int n]]
theorem frD_nk (n : Int) : (frD n).nk = some (.tup [.text "fresh", .tup [.num n]]) := rfl
/-- fresh ones have numbers below n -/
def FrB (recs : List D) (n : Int) : Prop := ∀ d ∈ recs, ∀ m, d = frD m → m < n
theorem frD_of {d : D} {n : Int} (h : d.nk = some (.tup [.text "fresh", .tup [.num n]])) : d = frD n := by
  obtain ⟨ds, rfl, g1⟩ := nk_tup h
  obtain ⟨d1, r, rfl, h1, g2⟩ := nks_cons g1
  obtain ⟨d2, r, rfl, h2, g3⟩ := nks_cons g2
  rw [nks_nil g3, nk_text h1]
  obtain ⟨es, rfl, g4⟩ := nk_tup h2
  obtain ⟨d3, r, rfl, h3, g5⟩ := nks_cons g4
  rw [nks_nil g5, nk_num h3]
  rfl
theorem pfF {r p : Addr} {n : Int} {d : D} : putFD "freshes" d (bkFs r p n) = ([("records", .opq r), ("places", .opq p), ("freshes", d)] : List (Str × D)) := rfl
def wfFresh (P : Program) (w : World) (C : Addr) : WF Rg := fun ds s k _ => match ds with
  | [.opq b] => ∃ r p recs n, BkAt P w C b r p recs n s ∧ FrB recs n ∧ recs.length < 1000000 ∧ ∀ s', BkAt P w C b r p (recs ++ [frD n]) (n + 1) s' → OffB b r p s s' → k (.int recs.length) s'
  | _ => False
abbrev s_Book_fresh : Stmt := inClass (top 29) 9
abbrev N_Book_fresh : List Str := ["self"]
theorem sc_Book_fresh : FnScope N_Book_fresh ["self"] (defScope s_Book_fresh) := ⟨rfl, rfl, rfl, by decide +kernel, rfl, by decide +kernel, by decide +kernel⟩
section
variable {P : Program} {w : World} {K : PySem.W.Frag} {mg : Str → Option Value} {base : Heap} {CB : Addr}
theorem ok_fresh (T : Tx P w K mg) (cB : ClB K CB) (q_Book_raw_put : Cf P w K mg base 1 CB "raw_put" (spX RW (wfRaw P w CB))) {f : Addr} {fd : FuncData} (F : FunD K "fresh" "Book.fresh" (defArgs s_Book_fresh) (defBody s_Book_fresh) (defScope s_Book_fresh) [] [] f fd) : Fn P w K mg base 2 f fd ["self"] (spX RW (wfFresh P w CB)) := by
  refine fn_data F sc_Book_fresh (fun ds s k x h => ?_) fun cv A outer s H G hr gd => ⟨_, (pss_cons (kFAug (K := K) (pv 0) pe_int in_add)
    (pss_one (ps_ret (pe_mtA q_Book_raw_put hr (by omega) gd (fun σ => Gl.no_pass σ) (pv 0) (pa_cons (C8.pe_gc rfl T.m_FRESH) (pa_cons (pe_tup (pa_cons (pe_op op_sub (kFld (K := K) (pv 0) rfl) pe_int) pa_nil)) pa_nil)))))), ?_⟩
  · match ds, h with
    | [.opq a], _ => rfl
  · have c1 := cB.cls
    have c2 := cB.n1
    have c3 := cB.n2
    have c4 := cB.n3
    apply bodyW
    · (first | walk_at "sim" | fail)
    intro ds s k x ok h
    match ds, h with
    | [.opq b], ⟨r, p, recs, n, ⟨dx, xs, hb, hr', hp, br, bp, rp, lx, hx⟩, fb, lz, hk⟩ =>
      simp [hb, hr', hp, lkF]
      rw [pfF]
      refine ⟨(show (3 : Nat) < 1000 by decide), fun a b hm => ?_, ?_⟩
      · simp at hm
        rcases hm with ⟨rfl, _⟩ | ⟨rfl, _⟩ | ⟨rfl, _⟩ <;> decide
      show (1 ≤ sizeLine ∧ wfRaw P w CB [D.opq b, D.str "fresh", D.tup [D.int (n + 1 - 1)]] (rup s b (Mo.ins CB dx (bkFs r p (n + 1)))) k fun x x_1 => False)
      rw [show n + 1 - 1 = n by omega]
      have ix : ixOf recs (frD n) = none := by
        unfold ixOf
        rw [List.findIdx?_eq_none_iff]
        intro d hd
        simp only [decide_eq_false_iff_not]
        intro z
        have := fb d hd n (frD_of (z.trans (frD_nk n)))
        omega
      refine ⟨by decide, r, p, recs, n + 1, _, ⟨dx, xs, rup_same, by rw [rup_ne (Ne.symm br)]; exact hr', by rw [rup_ne (Ne.symm bp)]; exact hp, br, bp, rp, lx, hx⟩, frD_nk n, (by simp [NestedKey.depth, NestedKey.depthAll]), rfl, lz, ?_⟩
      rw [show ixOf recs (D.tup [D.str "fresh", D.tup [D.int n]]) = none from ix]
      exact fun s' hB off => hk s' hB fun x h1 h2 h3 => by rw [off x h1 h2 h3, rup_ne h1]
end
end Law
set_option Elab.async false
set_option linter.all false
set_option maxRecDepth 100000
set_option maxHeartbeats 8000000
namespace Law
open PySem PySem.Spec PyProof.Rows L2 Gl Dw


def isI : D → Bool
  | .int _ => true
  | _ => false
def isIn (lo hi : Int) : D → Bool
  | .int i => decide (lo ≤ i) && decide (i ≤ hi)
  | _ => false
variable {S : Type}
/-- one plain thing judged -/
def wf1 (g : D → Bool) : WF S := fun ds s k _ => match ds with
  | [d] => d.pl = true ∧ k (.bl (g d)) s
  | _ => False
def wfIn : WF S := fun ds s k _ => match ds with
  | [d, .int lo, .int hi] => d.pl = true ∧ k (.bl (isIn lo hi d)) s
  | _ => False
theorem noM {m : Str} {r p : Addr} {n : Int} (h : m ≠ "records" ∧ m ≠ "places" ∧ m ≠ "freshes") : ∀ (a : Str) (b : D), (a, b) ∈ bkFs r p n → ¬ m = a := fun a b hm z => by
  subst z
  simp [bkFs] at hm
  rcases hm with ⟨e, _⟩ | ⟨e, _⟩ | ⟨e, _⟩
  · exact h.1 e
  · exact h.2.1 e
  · exact h.2.2 e
/-- the book at b, asked of a thing -/
def wfIsN (P : Program) (w : World) (C : Addr) : WF Rg := fun ds s k _ => match ds with
  | [.opq b, d] => ∃ r p recs n, BkAt P w C b r p recs n s ∧ d.pl = true ∧ k (.bl (isIn 0 ((recs.length : Int) - 1) d)) s
  | _ => False
def wfChk (P : Program) (w : World) (C : Addr) : WF Rg := fun ds s k _ => match ds with
  | [.opq b, .int t] => ∃ r p recs n, BkAt P w C b r p recs n s ∧ 0 ≤ t ∧ t < (recs.length : Int) ∧ k .non s
  | _ => False
/-- kind or parts of a term -/
def wfOf (P : Program) (w : World) (C : Addr) (g : D → D → D) : WF Rg := fun ds s k _ => match ds with
  | [.opq b, .int t] => ∃ r p recs n x y, BkAt P w C b r p recs n s ∧ 0 ≤ t ∧ t < (recs.length : Int) ∧ atI recs t = some (.tup [x, y]) ∧ k (g x y) s
  | _ => False
abbrev s_is_integer : Stmt := top 2
abbrev N_is_integer : List Str := ["thing"]
theorem sc_is_integer : FnScope N_is_integer ["thing"] (defScope s_is_integer) := ⟨rfl, rfl, rfl, by decide +kernel, rfl, by decide +kernel, by decide +kernel⟩
abbrev s_is_within : Stmt := top 3
abbrev N_is_within : List Str := ["thing", "least", "most"]
theorem sc_is_within : FnScope N_is_within ["thing", "least", "most"] (defScope s_is_within) := ⟨rfl, rfl, rfl, by decide +kernel, rfl, by decide +kernel, by decide +kernel⟩
abbrev s_Book_size : Stmt := inClass (top 29) 2
abbrev N_Book_size : List Str := ["self"]
abbrev s_Book_is_number : Stmt := inClass (top 29) 3
abbrev N_Book_is_number : List Str := ["self", "thing"]
theorem sc_Book_is_number : FnScope N_Book_is_number ["self", "thing"] (defScope s_Book_is_number) := ⟨rfl, rfl, rfl, by decide +kernel, rfl, by decide +kernel, by decide +kernel⟩
abbrev s_Book_check_term : Stmt := inClass (top 29) 6
abbrev N_Book_check_term : List Str := ["self", "thing"]
abbrev s_Book_raw_kind : Stmt := inClass (top 29) 10
abbrev N_Book_raw_kind : List Str := ["self", "term"]
abbrev s_Book_raw_parts : Stmt := inClass (top 29) 11
abbrev N_Book_raw_parts : List Str := ["self", "term"]
theorem sc_Book_raw_parts : FnScope N_Book_raw_parts ["self", "term"] (defScope s_Book_raw_parts) := ⟨rfl, rfl, rfl, by decide +kernel, rfl, by decide +kernel, by decide +kernel⟩
abbrev s_Book_kind : Stmt := inClass (top 29) 13
abbrev N_Book_kind : List Str := ["self", "term"]
abbrev s_Book_parts : Stmt := inClass (top 29) 14
abbrev N_Book_parts : List Str := ["self", "term"]
section
variable {W : Wd S} {P : Program} {w : World} {K : PySem.W.Frag} {mg : Str → Option Value} {base : Heap} {CB : Addr}
theorem ok_is_integer (T : Tx P w K mg) {f : Addr} {fd : FuncData} (F : FD K "is_integer" s_is_integer f fd) : Fn P w K mg base 1 f fd ["thing"] (spX W (wf1 isI)) := by
  refine fn_data F sc_is_integer (fun ds s k x h => ?_) fun cv A outer s H G hr gd => ⟨_, (pss_one (ps_ret (pe_and (pe_callB (kIsi (K := K)) (by rfl) T.isinstance (by decide +kernel) (pa_cons (pv 0) (pa_cons (pe_bltn (v := .ty "int") (by rfl) T.int (by decide +kernel) rfl) pa_nil))) (pe_one (pe_not (pe_callB (kIsi (K := K)) (by rfl) T.isinstance (by decide +kernel) (pa_cons (pv 0) (pa_cons (pe_bltn (v := .ty "bool") (by rfl) T.bool (by decide +kernel) rfl) pa_nil)))))))), ?_⟩
  · match ds, h with
    | [d], _ => rfl
  · apply bodyW
    · (first | walk_at "sim" | fail)
    intro ds s k x ok h
    match ds, h with
    | [d], ⟨ht, h⟩ =>
    cases d <;> simp_all [isI, known6]
theorem ok_is_within (T : Tx P w K mg) (f_is_integer : Df P w K mg base 1 "is_integer" (spX W (wf1 isI))) {f : Addr} {fd : FuncData} (F : FD K "is_within" s_is_within f fd) : Fn P w K mg base 2 f fd ["thing", "least", "most"] (spX W wfIn) := by
  refine fn_data F sc_is_within (fun ds s k x h => ?_) fun cv A outer s H G hr gd => ⟨_, (pss_one (ps_ret (pe_and (pe_df f_is_integer hr (by omega) gd rfl (fun σ => Gl.no_pass σ) (pa_cons (pv 0) pa_nil)) (pe_one (pe_chain (kLe (K := K) hr) (kLe (K := K) hr) (pv 1) (pv 0) (pv 2)))))), ?_⟩
  · match ds, h with
    | [d, .int lo, .int hi], _ => rfl
  · apply bodyW
    · (first | walk_at "sim" | fail)
    intro ds s k x ok h
    match ds, h with
    | [d, .int lo, .int hi], ⟨ht, h⟩ =>
    cases d <;> simp_all [isIn, isI, wf1]
    split <;> simp_all
abbrev FB (K : PySem.W.Frag) (m q : Str) (st : Stmt) (f : Addr) (fd : FuncData) : Prop := FunD K m q (defArgs st) (defBody st) (defScope st) [] [] f fd
theorem ok_is_number (T : Tx P w K mg) (cB : ClB K CB) (f_is_within : Df P w K mg base 2 "is_within" (spX RW wfIn)) {f : Addr} {fd : FuncData} (F : FB K "is_number" "Book.is_number" s_Book_is_number f fd) : Fn P w K mg base 3 f fd ["self", "thing"] (spX RW (wfIsN P w CB)) := by
  refine fn_data F sc_Book_is_number (fun ds s k x h => ?_) fun cv A outer s H G hr gd => ⟨_, (pss_one (ps_ret (pe_df f_is_within hr (by omega) gd rfl (fun σ => Gl.no_pass σ) (pa_cons (pv 1) (pa_cons pe_int (pa_cons (pe_op op_sub (pe_callB (kLen (K := K)) (by rfl) T.len (by decide +kernel) (pa_cons (kFld (K := K) (pv 0) rfl) pa_nil)) pe_int) pa_nil)))))), ?_⟩
  · match ds, h with
    | [.opq a, _], _ => rfl
  · have c1 := cB.cls
    have c2 := cB.n1
    apply bodyW
    · (first | walk_at "sim" | fail)
    intro ds s k x ok h
    match ds, h with
    | [.opq b, d], ⟨r, p, recs, n, ⟨dx, xs, hb, hr', hp, br, bp, rp, lx, hx⟩, pl, hk⟩ =>
      simp [hb, hr', lkR, wfIn, pl]
      exact hk
theorem ok_raw_parts (T : Tx P w K mg) (cB : ClB K CB) {f : Addr} {fd : FuncData} (F : FB K "raw_parts" "Book.raw_parts" s_Book_raw_parts f fd) : Fn P w K mg base 1 f fd ["self", "term"] (spX RW (wfOf P w CB fun _ y => y)) := by
  refine fn_data F sc_Book_raw_parts (fun ds s k x h => ?_) fun cv A outer s H G hr gd => ⟨_, (pss_one (ps_ret (pe_ix (kIx (K := K)) (pe_ix (kIx (K := K)) (kFld (K := K) (pv 0) rfl) (pv 1) (fun _ _ => rfl)) pe_int (fun _ _ => rfl)))), ?_⟩
  · match ds, h with
    | [.opq a, .int _], _ => rfl
  · have c1 := cB.cls
    have c2 := cB.n1
    apply bodyW
    · (first | walk_at "sim" | fail)
    intro ds s k x ok h
    match ds, h with
    | [.opq b, .int t], ⟨r, p, recs, n, x, y, ⟨dx, xs, hb, hr', hp, br, bp, rp, lx, hx⟩, t0, t1, ht, hk⟩ =>
      simp [hb, hr', lkR, ht, at0, at1]
      exact hk
end
end Law
set_option Elab.async false
set_option linter.all false
set_option maxRecDepth 100000
set_option maxHeartbeats 8000000
namespace Law
open PySem PySem.Spec PyProof.Rows L2 Gl Dw
abbrev s_Book___init__ : Stmt := inClass (top 29) 0
abbrev N_Book___init__ : List Str := ["self"]
theorem sc_Book___init__ : FnScope N_Book___init__ ["self"] (defScope s_Book___init__) := ⟨rfl, rfl, rfl, by decide +kernel, rfl, by decide +kernel, by decide +kernel⟩
section
variable {P : Program} {w : World} {K : PySem.W.Frag} {mg : Str → Option Value} {base : Heap} {CB : Addr}
theorem ok_Book_init (T : Tx P w K mg) (cB : ClB K CB) {f : Addr} {fd : FuncData} (F : FB K "__init__" "Book.__init__" s_Book___init__ f fd) : Fn P w K mg base 1 f fd ["self"] (spBk P w CB) := by
  refine fn_body F sc_Book___init__ (fun vs H Q E h => ?_) (fun cv A outer s H vs Q E hr gd h => ?_)
  · obtain ⟨a, dx, rfl, _⟩ := h
    rfl
  · obtain ⟨a, dx, rfl, ha, hk⟩ := h
    refine ⟨_, (pss_cons (ps_fld (pv 0) (pe_lst pa_nil) rfl)
    (pss_cons (ps_fld (pv 0) pe_dnewN rfl)
    (pss_one (ps_fld (pv 0) pe_int rfl)))), ?_⟩
    simp only [tSeq, sFld, tLst, tNil, tDNewN]
    refine ⟨Nat.zero_le _, fun r hr0 => ?_⟩
    have ra : r ≠ a := fun z => by rw [z, ha] at hr0; cases hr0
    have e1 : upd H r (.lst []) a = some (.ins CB dx []) := by rw [upd_ne (Ne.symm ra)]; exact ha
    refine ⟨.ref a, rfl, a, CB, dx, [], rfl, e1, cB.cls, cB.n1, (show 0 < 1000 by decide), fun p hp => ?_⟩
    have pa : p ≠ a := fun z => by rw [z, upd_same] at hp; cases hp
    rw [upd_ne pa] at hp
    have pr : p ≠ r := fun z => by rw [z, upd_same] at hp; cases hp
    rw [upd_ne pr] at hp
    refine ⟨.ref a, rfl, a, CB, dx, [("records", .ref r)], rfl, by rw [upd_ne (Ne.symm pa), upd_same]; rfl, cB.cls, cB.n2, (show 1 < 1000 by decide), ?_⟩
    refine ⟨.ref a, rfl, a, CB, dx, [("records", .ref r), ("places", .ref p)], rfl, by rw [upd_same]; rfl, cB.cls, cB.n3, (show 2 < 1000 by decide), ?_⟩
    refine hk r p _ hr0 hp (Ne.symm pr) (by rw [upd_same]; rfl) ?_ ?_ fun b o ne e => ?_
    · rw [upd_ne ra, upd_ne ra, upd_ne (Ne.symm pr), upd_ne ra, upd_same]
    · rw [upd_ne pa, upd_ne pa, upd_same]
      rfl
    · rw [upd_ne ne, upd_ne ne, upd_ne (ne_of_none e hp), upd_ne ne, upd_ne (ne_of_none e hr0)]
      exact e
end
end Law
set_option Elab.async false
set_option linter.all false
set_option maxRecDepth 100000
set_option maxHeartbeats 8000000
namespace Law
open PySem PySem.Spec PyProof.Rows L2 Gl Dw


/-- an entry put: the entries behind it, its number -/
def put (recs : List D) (d : D) : List D × Nat := match ixOf recs d with
  | some i => (recs, i)
  | none => (recs ++ [d], recs.length)
abbrev eD (kd : Str) (ps : List D) : D := .tup [.str kd, .tup ps]
theorem put_len (recs : List D) (d : D) : (put recs d).1.length ≤ recs.length + 1 := by
  unfold put
  split <;> simp
def pEmpty (recs : List D) : List D × Nat := put (put recs (eD "name" [.str "empty"])).1 (eD "print" [.int (put recs (eD "name" [.str "empty"])).2])
def pLeafR (recs : List D) (t : Int) : List D × Nat := put (put recs (eD "name" [.str "leaf"])).1 (eD "row" [.int (put recs (eD "name" [.str "leaf"])).2, .int t])
def pLeaf (recs : List D) (t : Int) : List D × Nat := put (pLeafR recs t).1 (eD "print" [.int (pLeafR recs t).2])
def pNodeR (recs : List D) (x y : Int) : List D × Nat := put (put recs (eD "name" [.str "node"])).1 (eD "row" [.int (put recs (eD "name" [.str "node"])).2, .int x, .int y])
def pNode (recs : List D) (x y : Int) : List D × Nat := put (pNodeR recs x y).1 (eD "print" [.int (pNodeR recs x y).2])
/-- what a def does that puts entries into the book at its first place -/
def wfP (P : Program) (w : World) (C : Addr) (f : List D → List D → Option (List D × Nat)) (m : Nat) : WF Rg := fun ds s k _ => match ds with
  | .opq b :: as => ∃ r p recs n q, BkAt P w C b r p recs n s ∧ f as recs = some q ∧ recs.length + m < 1000000 ∧ ∀ s', BkAt P w C b r p q.1 n s' → OffB b r p s s' → k (.int q.2) s'
  | _ => False
def fEmpty : List D → List D → Option (List D × Nat)
  | [], recs => some (pEmpty recs)
  | _, _ => none
def fLeaf : List D → List D → Option (List D × Nat)
  | [.int t], recs => some (pLeaf recs t)
  | _, _ => none
def fNode : List D → List D → Option (List D × Nat)
  | [.int x, .int y], recs => some (pNode recs x y)
  | _, _ => none
section
variable {P : Program} {w : World} {C b r p : Addr} {recs : List D} {n : Int} {s s' s'' : Rg}
theorem OffB.trans (h : OffB b r p s s') (g : OffB b r p s' s'') : OffB b r p s s'' := fun x h1 h2 h3 => (g x h1 h2 h3).trans (h x h1 h2 h3)
theorem raw_ok {kd : Str} {ps : List D} {key : NestedKey} {k : D → Rg → Prop} {x : Xc → Rg → Prop} (B : BkAt P w C b r p recs n s) (nk : (eD kd ps).nk = some key) (kdp : key.depth ≤ 8) (fl : D.flts ps = true) (lz : recs.length < 1000000)
    (hk : ∀ s', BkAt P w C b r p (put recs (eD kd ps)).1 n s' → OffB b r p s s' → k (.int (put recs (eD kd ps)).2) s') : wfRaw P w C [.opq b, .str kd, .tup ps] s k x := by
  refine ⟨r, p, recs, n, key, B, nk, kdp, fl, lz, ?_⟩
  unfold put at hk
  split
  · rename_i i e
    rw [show ixOf recs (eD kd ps) = some i from e] at hk
    exact hk s B fun _ _ _ _ => rfl
  · rename_i e
    rw [show ixOf recs (eD kd ps) = none from e] at hk
    exact hk
end
abbrev s_raw_empty : Stmt := top 37
abbrev N_raw_empty : List Str := ["book"]
theorem sc_raw_empty : FnScope N_raw_empty ["book"] (defScope s_raw_empty) := ⟨rfl, rfl, rfl, by decide +kernel, rfl, by decide +kernel, by decide +kernel⟩
abbrev s_raw_leaf : Stmt := top 38
abbrev N_raw_leaf : List Str := ["book", "term"]
theorem sc_raw_leaf : FnScope N_raw_leaf ["book", "term"] (defScope s_raw_leaf) := ⟨rfl, rfl, rfl, by decide +kernel, rfl, by decide +kernel, by decide +kernel⟩
abbrev s_raw_node : Stmt := top 39
abbrev N_raw_node : List Str := ["book", "one", "other"]
theorem sc_raw_node : FnScope N_raw_node ["book", "one", "other"] (defScope s_raw_node) := ⟨rfl, rfl, rfl, by decide +kernel, rfl, by decide +kernel, by decide +kernel⟩
section
variable {P : Program} {w : World} {K : PySem.W.Frag} {mg : Str → Option Value} {base : Heap} {CB : Addr}
theorem ok_raw_empty (T : Tx P w K mg) (q_Book_raw_put : Cf P w K mg base 1 CB "raw_put" (spX RW (wfRaw P w CB))) {f : Addr} {fd : FuncData} (F : FD K "raw_empty" s_raw_empty f fd) : Fn P w K mg base 2 f fd ["book"] (spX RW (wfP P w CB fEmpty 2)) := by
  refine fn_data F sc_raw_empty (fun ds s k x h => ?_) fun cv A outer s H G hr gd => ⟨_, (pss_one (ps_ret (pe_mtA q_Book_raw_put hr (by omega) gd (fun σ => Gl.no_pass σ) (pv 0) (pa_cons (C8.pe_gc rfl T.m_PRINT) (pa_cons (pe_tup (pa_cons (pe_mtA q_Book_raw_put hr (by omega) gd (fun σ => Gl.no_pass σ) (pv 0) (pa_cons (C8.pe_gc rfl T.m_NAME) (pa_cons (pe_tup (pa_cons (C8.pe_gc rfl T.m_EMPTY) pa_nil)) pa_nil))) pa_nil)) pa_nil))))), ?_⟩
  · match ds, h with
    | [.opq b], _ => rfl
    | .opq b :: _ :: _, ⟨_, _, _, _, _, _, h, _⟩ => simp [fEmpty] at h
  · apply bodyW
    · (first | walk_at "sim" | fail)
    intro ds s k x ok h
    match ds, h with
    | [.opq b], ⟨r, p, recs, n, q, B, e, lz, hk⟩ =>
      cases e
      obtain ⟨dx, xs, hb, B'⟩ := id B
      have l1 := put_len recs (eD "name" [.str "empty"])
      simp [hb]
      refine ⟨noM (by decide), by decide, raw_ok B rfl (by simp [NestedKey.depth, NestedKey.depthAll]) rfl (by omega) fun s1 B1 o1 => ?_⟩
      refine ⟨by decide, raw_ok B1 rfl (by simp [NestedKey.depth, NestedKey.depthAll]) rfl (by omega) fun s2 B2 o2 => hk s2 B2 (o1.trans o2)⟩
    | .opq b :: _ :: _, ⟨_, _, _, _, _, _, h, _⟩ => simp [fEmpty] at h
theorem ok_raw_leaf (T : Tx P w K mg) (q_Book_raw_put : Cf P w K mg base 1 CB "raw_put" (spX RW (wfRaw P w CB))) {f : Addr} {fd : FuncData} (F : FD K "raw_leaf" s_raw_leaf f fd) : Fn P w K mg base 2 f fd ["book", "term"] (spX RW (wfP P w CB fLeaf 3)) := by
  refine fn_data F sc_raw_leaf (fun ds s k x h => ?_) fun cv A outer s H G hr gd => ⟨_, (pss_one (ps_ret (pe_mtA q_Book_raw_put hr (by omega) gd (fun σ => Gl.no_pass σ) (pv 0) (pa_cons (C8.pe_gc rfl T.m_PRINT) (pa_cons (pe_tup (pa_cons (pe_mtA q_Book_raw_put hr (by omega) gd (fun σ => Gl.no_pass σ) (pv 0) (pa_cons (C8.pe_gc rfl T.m_ROW) (pa_cons (pe_tup (pa_cons (pe_mtA q_Book_raw_put hr (by omega) gd (fun σ => Gl.no_pass σ) (pv 0) (pa_cons (C8.pe_gc rfl T.m_NAME) (pa_cons (pe_tup (pa_cons (C8.pe_gc rfl T.m_LEAF) pa_nil)) pa_nil))) (pa_cons (pv 1) pa_nil))) pa_nil))) pa_nil)) pa_nil))))), ?_⟩
  · match ds, h with
    | [.opq b, .int t], _ => rfl
  · apply bodyW
    · (first | walk_at "sim" | fail)
    intro ds s k x ok h
    match ds, h with
    | [.opq b, .int t], ⟨r, p, recs, n, q, B, e, lz, hk⟩ =>
      cases e
      obtain ⟨dx, xs, hb, B'⟩ := id B
      have l1 := put_len recs (eD "name" [.str "leaf"])
      have l2 : (pLeafR recs t).1.length ≤ _ := put_len _ _
      simp [hb]
      refine ⟨noM (by decide), by decide, raw_ok B rfl (by simp [NestedKey.depth, NestedKey.depthAll]) rfl (by omega) fun s1 B1 o1 => ?_⟩
      refine ⟨by decide, raw_ok B1 rfl (by simp [NestedKey.depth, NestedKey.depthAll]) rfl (by omega) fun s2 B2 o2 => ?_⟩
      exact ⟨by decide, raw_ok B2 rfl (by simp [NestedKey.depth, NestedKey.depthAll]) rfl (by unfold pLeafR at l2; omega) fun s3 B3 o3 => hk s3 B3 ((o1.trans o2).trans o3)⟩
theorem ok_raw_node (T : Tx P w K mg) (q_Book_raw_put : Cf P w K mg base 1 CB "raw_put" (spX RW (wfRaw P w CB))) {f : Addr} {fd : FuncData} (F : FD K "raw_node" s_raw_node f fd) : Fn P w K mg base 2 f fd ["book", "one", "other"] (spX RW (wfP P w CB fNode 3)) := by
  refine fn_data F sc_raw_node (fun ds s k x h => ?_) fun cv A outer s H G hr gd => ⟨_, (pss_one (ps_ret (pe_mtA q_Book_raw_put hr (by omega) gd (fun σ => Gl.no_pass σ) (pv 0) (pa_cons (C8.pe_gc rfl T.m_PRINT) (pa_cons (pe_tup (pa_cons (pe_mtA q_Book_raw_put hr (by omega) gd (fun σ => Gl.no_pass σ) (pv 0) (pa_cons (C8.pe_gc rfl T.m_ROW) (pa_cons (pe_tup (pa_cons (pe_mtA q_Book_raw_put hr (by omega) gd (fun σ => Gl.no_pass σ) (pv 0) (pa_cons (C8.pe_gc rfl T.m_NAME) (pa_cons (pe_tup (pa_cons (C8.pe_gc rfl T.m_NODE) pa_nil)) pa_nil))) (pa_cons (pv 1) (pa_cons (pv 2) pa_nil)))) pa_nil))) pa_nil)) pa_nil))))), ?_⟩
  · match ds, h with
    | [.opq b, .int t, .int u], _ => rfl
  · apply bodyW
    · (first | walk_at "sim" | fail)
    intro ds s k x ok h
    match ds, h with
    | [.opq b, .int t, .int u], ⟨r, p, recs, n, q, B, e, lz, hk⟩ =>
      cases e
      obtain ⟨dx, xs, hb, B'⟩ := id B
      have l1 := put_len recs (eD "name" [.str "node"])
      have l2 : (pNodeR recs t u).1.length ≤ _ := put_len _ _
      simp [hb]
      refine ⟨noM (by decide), by decide, raw_ok B rfl (by simp [NestedKey.depth, NestedKey.depthAll]) rfl (by omega) fun s1 B1 o1 => ?_⟩
      refine ⟨by decide, raw_ok B1 rfl (by simp [NestedKey.depth, NestedKey.depthAll]) rfl (by omega) fun s2 B2 o2 => ?_⟩
      exact ⟨by decide, raw_ok B2 rfl (by simp [NestedKey.depth, NestedKey.depthAll]) rfl (by unfold pNodeR at l2; omega) fun s3 B3 o3 => hk s3 B3 ((o1.trans o2).trans o3)⟩
end
end Law
set_option Elab.async false
set_option linter.all false
set_option maxRecDepth 100000
set_option maxHeartbeats 8000000
namespace Law
open PySem PySem.Spec PyProof.Rows L2 Gl Dw


def halfG : Nat → Nat → Nat → Nat
  | 0, f, _ => f
  | n + 1, f, m => if 2 * f < m then halfG n (2 * f) m else f
/-- the greatest power of two below m (1 at least) -/
def half (m : Nat) : Nat := halfG m 1 m
theorem halfG_end {n f m : Nat} (h : ¬ 2 * f < m) : halfG n f m = f := by
  cases n with
  | zero => rfl
  | succ n => unfold halfG; rw [if_neg h]
def wfHalf {S : Type} : WF S := fun ds s k _ => match ds with
  | [.int m] => ∃ m' : Nat, m = m' ∧ m' < 1000000 ∧ k (.int (half m' : Nat)) s
  | _ => False
def wfCount {S : Type} : WF S := fun ds s k _ => match ds with
  | [.int m] => k (.bl (decide (0 ≤ m))) s
  | _ => False
def optD : Option Nat → D
  | none => .non
  | some i => .int i
/-- what is asked of the book without a change -/
def pThere (recs : List D) (kd : Str) (ps : List D) : D := if inD .non ps = true then .non else optD (ixOf recs (eD kd ps))
def plainP (ps : List D) : Prop := ∀ d ∈ ps, d = .non ∨ (∃ i, d = .int i) ∨ ∃ x, d = .str x
def tEmpty (recs : List D) : D := pThere recs "print" [pThere recs "name" [.str "empty"]]
def tNode (recs : List D) (x y : D) : D := pThere recs "print" [pThere recs "row" [pThere recs "name" [.str "node"], x, y]]
theorem pThere_plain (recs : List D) (kd : Str) (ps : List D) : pThere recs kd ps = .non ∨ ∃ i, pThere recs kd ps = .int i := by
  unfold pThere
  split
  · exact .inl rfl
  · cases ixOf recs (eD kd ps) with
    | none => exact .inl rfl
    | some i => exact .inr ⟨_, rfl⟩
def wfThere (P : Program) (w : World) (C : Addr) : WF Rg := fun ds s k _ => match ds with
  | [.opq b, .str kd, .tup ps] => ∃ r p recs n, BkAt P w C b r p recs n s ∧ plainP ps ∧ k (pThere recs kd ps) s
  | _ => False
def wfAsk (P : Program) (w : World) (C : Addr) (f : List D → List D → Option D) : WF Rg := fun ds s k _ => match ds with
  | .opq b :: as => ∃ r p recs n q, BkAt P w C b r p recs n s ∧ f as recs = some q ∧ k q s
  | _ => False
def gEmpty : List D → List D → Option D
  | [], recs => some (tEmpty recs)
  | _, _ => none
def gNode : List D → List D → Option D
  | [.int x, .int y], recs => some (tNode recs (.int x) (.int y))
  | [.int x, .non], recs => some (tNode recs (.int x) .non)
  | [.non, .int y], recs => some (tNode recs .non (.int y))
  | [.non, .non], recs => some (tNode recs .non .non)
  | _, _ => none
theorem gNode_of {x y : D} {recs : List D} (hx : x = .non ∨ ∃ i, x = .int i) (hy : y = .non ∨ ∃ i, y = .int i) : gNode [x, y] recs = some (tNode recs x y) := by
  rcases hx with rfl | ⟨i, rfl⟩ <;> rcases hy with rfl | ⟨j, rfl⟩ <;> rfl
theorem gNode_is {as recs : List D} {q : D} (h : gNode as recs = some q) : ∃ x y, as = [x, y] ∧ (x = .non ∨ ∃ i, x = .int i) ∧ (y = .non ∨ ∃ i, y = .int i) ∧ q = tNode recs x y := by
  unfold gNode at h
  split at h
  · exact ⟨_, _, rfl, .inr ⟨_, rfl⟩, .inr ⟨_, rfl⟩, (Option.some.inj h).symm⟩
  · exact ⟨_, _, rfl, .inr ⟨_, rfl⟩, .inl rfl, (Option.some.inj h).symm⟩
  · exact ⟨_, _, rfl, .inl rfl, .inr ⟨_, rfl⟩, (Option.some.inj h).symm⟩
  · exact ⟨_, _, rfl, .inl rfl, .inl rfl, (Option.some.inj h).symm⟩
  · cases h
theorem plain_nk : ∀ {ps : List D}, plainP ps → inD .non ps = false → ∃ ks, D.nks ps = some ks ∧ NestedKey.depthAll ks ≤ 1
  | [], _, _ => ⟨[], rfl, by simp [NestedKey.depthAll]⟩
  | d :: r, pl, h => by
    have h2 : inD .non r = false := by
      unfold inD at h ⊢
      rw [List.any_cons, Bool.or_eq_false_iff] at h
      exact h.2
    obtain ⟨ks, e, z⟩ := plain_nk (fun x hx => pl x (by simp [hx])) h2
    rcases pl d (by simp) with rfl | ⟨i, rfl⟩ | ⟨x, rfl⟩
    · simp [inD, eqV] at h
    · exact ⟨.num i :: ks, by simp [D.nks, D.nk, e], by simp [NestedKey.depthAll, NestedKey.depth]; omega⟩
    · exact ⟨.text x :: ks, by simp [D.nks, D.nk, e], by simp [NestedKey.depthAll, NestedKey.depth]; omega⟩
abbrev s_half_of : Stmt := top 35
abbrev N_half_of : List Str := ["many", "found"]
theorem sc_half_of : FnScope N_half_of ["many"] (defScope s_half_of) := ⟨rfl, rfl, rfl, by decide +kernel, rfl, by decide +kernel, by decide +kernel⟩
abbrev s_is_count : Stmt := top 36
abbrev N_is_count : List Str := ["thing"]
theorem sc_is_count : FnScope N_is_count ["thing"] (defScope s_is_count) := ⟨rfl, rfl, rfl, by decide +kernel, rfl, by decide +kernel, by decide +kernel⟩
abbrev s_there : Stmt := top 40
abbrev N_there : List Str := ["book", "kind", "parts"]
theorem sc_there : FnScope N_there ["book", "kind", "parts"] (defScope s_there) := ⟨rfl, rfl, rfl, by decide +kernel, rfl, by decide +kernel, by decide +kernel⟩
abbrev s_empty_there : Stmt := top 41
abbrev N_empty_there : List Str := ["book"]
theorem sc_empty_there : FnScope N_empty_there ["book"] (defScope s_empty_there) := ⟨rfl, rfl, rfl, by decide +kernel, rfl, by decide +kernel, by decide +kernel⟩
abbrev s_node_there : Stmt := top 42
abbrev N_node_there : List Str := ["book", "one", "other"]
theorem sc_node_there : FnScope N_node_there ["book", "one", "other"] (defScope s_node_there) := ⟨rfl, rfl, rfl, by decide +kernel, rfl, by decide +kernel, by decide +kernel⟩
section
variable {S : Type} {W : Wd S} {P : Program} {w : World} {K : PySem.W.Frag} {mg : Str → Option Value} {base : Heap} {CB : Addr}
theorem ok_half_of (T : Tx P w K mg) {f : Addr} {fd : FuncData} (F : FD K "half_of" s_half_of f fd) : Fn P w K mg base 1 f fd ["many"] (spX W wfHalf) := by
  refine fn_data F sc_half_of (fun ds s k x h => ?_) fun cv A outer s H G hr gd => ⟨_, (pss_cons (ps_set (i := 1) sc_half_of.nd rfl (Or.inl rfl) pe_int)
    (pss_cons (ps_while (passes_of rfl) (pt_cmpR op_ltX (pe_op (kMul (K := K)) pe_int (pv 1)) (pv 0) (nomark _)) (pss_one (ps_set (i := 1) sc_half_of.nd rfl (Or.inl rfl) (pe_op (kMul (K := K)) pe_int (pv 1)))))
    (pss_one (ps_ret (pv 1))))), ?_⟩
  · match ds, h with
    | [.int m], _ => rfl
  · apply bodyW
    · (first | walk_at "sim" | fail)
    intro ds s k x ok h
    match ds, h with
    | [.int _], ⟨m, rfl, hm, hk⟩ =>
      simp
      refine wWh_fuel (fun n env t => t = s ∧ ∃ f : Nat, env = [.dat (.int m), .dat (.int f)] ∧ 1 ≤ f ∧ f ≤ 2 * m + 1 ∧ halfG n f m = half m ∧ m ≤ f + n) (n := m) ⟨rfl, 1, rfl, Nat.le_refl _, by omega, rfl, by omega⟩ ?_
      rintro n j env t ih ⟨rfl, f, rfl, f1, f2, he, hn⟩
      simp [wWhN]
      refine ⟨.inl (.inl ⟨by omega, by omega⟩), iteP (fun hlt => ⟨.inl (.inl ⟨by omega, by omega⟩), ?_⟩) fun hlt => ?_⟩
      · have hlt : 2 * f < m := by omega
        obtain ⟨n', rfl⟩ : ∃ n', n = n' + 1 := ⟨n - 1, by omega⟩
        refine ih n' _ _ (by omega) ⟨rfl, 2 * f, by simp, by omega, by omega, ?_, by omega⟩
        rw [← he]
        exact (if_pos hlt).symm
      · have hlt : ¬ 2 * f < m := by omega
        rw [halfG_end hlt] at he
        rw [he]
        exact hk
theorem ok_is_count (T : Tx P w K mg) (f_is_integer : Df P w K mg base 1 "is_integer" (spX W (wf1 isI))) {f : Addr} {fd : FuncData} (F : FD K "is_count" s_is_count f fd) : Fn P w K mg base 2 f fd ["thing"] (spX W wfCount) := by
  refine fn_data F sc_is_count (fun ds s k x h => ?_) fun cv A outer s H G hr gd => ⟨_, (pss_one (ps_ret (pe_and (pe_df f_is_integer hr (by omega) gd rfl (fun σ => Gl.no_pass σ) (pa_cons (pv 0) pa_nil)) (pe_one (pe_cmpR op_geX (pv 0) pe_int (nomark _)))))), ?_⟩
  · match ds, h with
    | [.int m], _ => rfl
  · apply bodyW
    · (first | walk_at "sim" | fail)
    intro ds s k x ok h
    match ds, h with
    | [.int m], h => simp [wf1, isI, D.pl]; exact h
theorem ok_there (T : Tx P w K mg) (cB : ClB K CB) {f : Addr} {fd : FuncData} (F : FD K "there" s_there f fd) : Fn P w K mg base 1 f fd ["book", "kind", "parts"] (spX RW (wfThere P w CB)) := by
  refine fn_data F sc_there (fun ds s k x h => ?_) fun cv A outer s H G hr gd => ⟨_, (pss_one (ps_ret (pe_ifExp (pt_cmpR (kIn (K := K) hr) pe_non (pv 2) rfl) pe_non (kNGD (P := P) (w := w) (huN hr) (kFld (K := K) (pv 0) rfl) (pe_tup (pa_cons (pv 1) (pa_cons (pv 2) pa_nil))) pe_non ⟨rfl, rfl, rfl, rfl⟩)))), ?_⟩
  · match ds, h with
    | [.opq b, .str _, .tup _], _ => rfl
  · have c1 := cB.cls
    have c2 := cB.n2
    apply bodyW
    · (first | walk_at "sim" | fail)
    intro ds s k x ok h
    match ds, h with
    | [.opq b, .str kd, .tup ps], ⟨r, p, recs, n, ⟨dx, xs, hb, hr', hp, br, bp, rp, lx, hx⟩, pl, hk⟩ =>
      have fl : flatIn .non ps = true := by
        unfold flatIn
        rw [Bool.and_eq_true, List.all_eq_true]
        refine ⟨rfl, fun d hd => ?_⟩
        rcases pl d hd with rfl | ⟨i, rfl⟩ | ⟨x, rfl⟩ <;> rfl
      simp [fl, hb, hp, lkP]
      unfold pThere at hk
      refine iteP (fun c => ?_) fun c => ?_
      · rw [if_pos c] at hk
        exact hk
      · rw [if_neg c] at hk
        obtain ⟨ks, h1, h2⟩ := plain_nk pl (by simpa using c)
        have nk : (D.tup [.str kd, .tup ps]).nk = some (.tup [.text kd, .tup ks]) := by simp [D.nk, D.nks, h1]
        refine ⟨by decide, _, nk, by simp [NestedKey.depth, NestedKey.depthAll]; omega, ?_⟩
        rw [at_ix nk lx hx]
        cases e : ixOf recs (D.tup [.str kd, .tup ps]) with
        | none => rw [show ixOf recs (eD kd ps) = none from e] at hk; exact hk
        | some i => rw [show ixOf recs (eD kd ps) = some i from e] at hk; exact hk
theorem ok_empty_there (T : Tx P w K mg) (f_there : Df P w K mg base 1 "there" (spX RW (wfThere P w CB))) {f : Addr} {fd : FuncData} (F : FD K "empty_there" s_empty_there f fd) : Fn P w K mg base 2 f fd ["book"] (spX RW (wfAsk P w CB gEmpty)) := by
  refine fn_data F sc_empty_there (fun ds s k x h => ?_) fun cv A outer s H G hr gd => ⟨_, (pss_one (ps_ret (pe_df f_there hr (by omega) gd rfl (fun σ => Gl.no_pass σ) (pa_cons (pv 0) (pa_cons (C8.pe_gc rfl T.m_PRINT) (pa_cons (pe_tup (pa_cons (pe_df f_there hr (by omega) gd rfl (fun σ => Gl.no_pass σ) (pa_cons (pv 0) (pa_cons (C8.pe_gc rfl T.m_NAME) (pa_cons (pe_tup (pa_cons (C8.pe_gc rfl T.m_EMPTY) pa_nil)) pa_nil)))) pa_nil)) pa_nil)))))), ?_⟩
  · match ds, h with
    | [.opq b], _ => rfl
    | .opq b :: _ :: _, ⟨_, _, _, _, _, _, h, _⟩ => simp [gEmpty] at h
  · apply bodyW
    · (first | walk_at "sim" | fail)
    intro ds s k x ok h
    match ds, h with
    | [.opq b], ⟨r, p, recs, n, q, B, e, hk⟩ =>
      cases e
      have p1 : plainP [pThere recs "name" [.str "empty"]] := fun d hd => by
        rw [List.mem_singleton.mp hd]
        rcases pThere_plain recs "name" [.str "empty"] with h | ⟨i, h⟩
        · exact .inl h
        · exact .inr (.inl ⟨i, h⟩)
      simp [wfThere]
      exact ⟨by decide, r, p, recs, ⟨n, B⟩, fun d hd => .inr (.inr ⟨_, List.mem_singleton.mp hd⟩), by decide, r, p, recs, ⟨n, B⟩, p1, hk⟩
    | .opq b :: _ :: _, ⟨_, _, _, _, _, _, h, _⟩ => simp [gEmpty] at h
theorem ok_node_there (T : Tx P w K mg) (f_there : Df P w K mg base 1 "there" (spX RW (wfThere P w CB))) {f : Addr} {fd : FuncData} (F : FD K "node_there" s_node_there f fd) : Fn P w K mg base 2 f fd ["book", "one", "other"] (spX RW (wfAsk P w CB gNode)) := by
  refine fn_data F sc_node_there (fun ds s k x h => ?_) fun cv A outer s H G hr gd => ⟨_, (pss_one (ps_ret (pe_df f_there hr (by omega) gd rfl (fun σ => Gl.no_pass σ) (pa_cons (pv 0) (pa_cons (C8.pe_gc rfl T.m_PRINT) (pa_cons (pe_tup (pa_cons (pe_df f_there hr (by omega) gd rfl (fun σ => Gl.no_pass σ) (pa_cons (pv 0) (pa_cons (C8.pe_gc rfl T.m_ROW) (pa_cons (pe_tup (pa_cons (pe_df f_there hr (by omega) gd rfl (fun σ => Gl.no_pass σ) (pa_cons (pv 0) (pa_cons (C8.pe_gc rfl T.m_NAME) (pa_cons (pe_tup (pa_cons (C8.pe_gc rfl T.m_NODE) pa_nil)) pa_nil)))) (pa_cons (pv 1) (pa_cons (pv 2) pa_nil)))) pa_nil)))) pa_nil)) pa_nil)))))), ?_⟩
  · match ds, h with
    | .opq b :: as, ⟨_, _, _, _, _, _, h, _⟩ =>
      obtain ⟨x, y, rfl, _⟩ := gNode_is h
      rfl
  · apply bodyW
    · (first | walk_at "sim" | fail)
    intro ds s k x ok h
    match ds, h with
    | .opq b :: as, ⟨r, p, recs, n, q, B, e, hk⟩ =>
      obtain ⟨x, y, rfl, hx, hy, rfl⟩ := gNode_is e
      have up : ∀ {d : D}, (d = .non ∨ ∃ i, d = .int i) → d = .non ∨ (∃ i, d = .int i) ∨ ∃ x, d = .str x := fun h => h.elim .inl fun h => .inr (.inl h)
      have p0 := pThere_plain recs "name" [.str "node"]
      have p1 : plainP [pThere recs "name" [.str "node"], x, y] := fun d hd => by
        simp only [List.mem_cons, List.not_mem_nil, or_false] at hd
        rcases hd with rfl | rfl | rfl
        · exact up p0
        · exact up hx
        · exact up hy
      have p2 : plainP [pThere recs "row" [pThere recs "name" [.str "node"], x, y]] := fun d hd => by
        rw [List.mem_singleton.mp hd]
        exact up (pThere_plain _ _ _)
      simp [wfThere]
      exact ⟨by decide, r, p, recs, ⟨n, B⟩, fun d hd => .inr (.inr ⟨_, List.mem_singleton.mp hd⟩), by decide, r, p, recs, ⟨n, B⟩, p1, by decide, r, p, recs, ⟨n, B⟩, p2, hk⟩
end
end Law
set_option Elab.async false
set_option linter.all false
set_option maxRecDepth 100000
set_option maxHeartbeats 4000000
namespace Law
open PySem PySem.Spec PyProof.Rows L2 Gl Dw
/-! the head of a row of entries, as it stands in a book -/
theorem ix_app {recs more : List D} {d : D} {i : Nat} (h : ixOf recs d = some i) : ixOf (recs ++ more) d = some i := by
  unfold ixOf at h ⊢
  rw [List.findIdx?_append, h]
  rfl
theorem ix_put (recs : List D) (d : D) : ixOf (put recs d).1 d = some (put recs d).2 := by
  unfold put
  cases h : ixOf recs d with
  | some i => exact h
  | none =>
    show ixOf (recs ++ [d]) d = some recs.length
    unfold ixOf at h ⊢
    rw [List.findIdx?_append, h]
    simp
theorem ix_nk {recs : List D} {d e : D} {i : Nat} (h : ixOf recs d = some i) (g : ixOf recs e = some i) : d.nk = e.nk := by
  unfold ixOf at h g
  obtain ⟨hi, h1, _⟩ := List.findIdx?_eq_some_iff_getElem.mp h
  obtain ⟨_, g1, _⟩ := List.findIdx?_eq_some_iff_getElem.mp g
  exact (of_decide_eq_true h1).symm.trans (of_decide_eq_true g1)
theorem ix_inj {recs : List D} {d e : D} {i : Nat} {k : NestedKey} (hk : d.nk = some k) (h : ixOf recs d = some i) (g : ixOf recs e = some i) : d = e := nk_inj hk ((ix_nk h g).symm.trans hk)
theorem ix_lt {recs : List D} {d : D} {i : Nat} (h : ixOf recs d = some i) : i < recs.length := by
  unfold ixOf at h
  exact (List.findIdx?_eq_some_iff_getElem.mp h).1
abbrev iD (n : Nat) : D := .int n
/-- the head of rows[l..h) stands at v -/
inductive Std (recs : List D) (rows : List Int) : Nat → Nat → Nat → Prop
  | empty {l a v : Nat} : ixOf recs (eD "name" [.str "empty"]) = some a → ixOf recs (eD "print" [iD a]) = some v → Std recs rows l l v
  | leaf {l a c v : Nat} {t : Int} : rows[l]? = some t → ixOf recs (eD "name" [.str "leaf"]) = some a → ixOf recs (eD "row" [iD a, .int t]) = some c → ixOf recs (eD "print" [iD c]) = some v → Std recs rows l (l + 1) v
  | node {l h x y a c v : Nat} : l + 1 < h → Std recs rows l (l + half (h - l)) x → Std recs rows (l + half (h - l)) h y → ixOf recs (eD "name" [.str "node"]) = some a → ixOf recs (eD "row" [iD a, iD x, iD y]) = some c → ixOf recs (eD "print" [iD c]) = some v → Std recs rows l h v
theorem Std.app {recs more : List D} {rows : List Int} {l h v : Nat} (s : Std recs rows l h v) : Std (recs ++ more) rows l h v := by
  induction s with
  | empty h1 h2 => exact .empty (ix_app h1) (ix_app h2)
  | leaf h0 h1 h2 h3 => exact .leaf h0 (ix_app h1) (ix_app h2) (ix_app h3)
  | node h0 _ _ h1 h2 h3 i1 i2 => exact .node h0 i1 i2 (ix_app h1) (ix_app h2) (ix_app h3)
theorem Std.le {recs : List D} {rows : List Int} {l h v : Nat} (s : Std recs rows l h v) : l ≤ h := by
  cases s with
  | empty _ _ => exact Nat.le_refl _
  | leaf _ _ _ _ => exact Nat.le_succ _
  | node h0 _ _ _ _ _ => omega
theorem Std.lt {recs : List D} {rows : List Int} {l h v : Nat} (s : Std recs rows l h v) : v < recs.length := by
  cases s with
  | empty _ h => exact ix_lt h
  | leaf _ _ _ h => exact ix_lt h
  | node _ _ _ _ _ h => exact ix_lt h
/-- it is one alone -/
theorem Std.uniq {recs : List D} {rows : List Int} {l h v w : Nat} (s : Std recs rows l h v) : Std recs rows l h w → v = w := by
  induction s generalizing w with
  | empty h1 h2 =>
    intro t
    cases t with
    | empty g1 g2 =>
      rw [h1] at g1; cases g1
      rw [h2] at g2; cases g2
      rfl
    | node h0 _ _ _ _ _ => omega
  | @leaf l a c v t h0 h1 h2 h3 =>
    intro t
    generalize e : l + 1 = h at t
    cases t with
    | empty _ _ => omega
    | leaf g0 g1 g2 g3 =>
      rw [h0] at g0; cases g0
      rw [h1] at g1; cases g1
      rw [h2] at g2; cases g2
      rw [h3] at g3; cases g3
      rfl
    | node h0 _ _ _ _ _ => omega
  | @node l h x y a c v h0 _ _ h1 h2 h3 i1 i2 =>
    intro t
    cases t with
    | empty _ _ => omega
    | leaf _ _ _ _ => omega
    | node g0 s1 s2 g1 g2 g3 =>
      have := i1 s1
      subst this
      have := i2 s2
      subst this
      rw [h1] at g1; cases g1
      rw [h2] at g2; cases g2
      rw [h3] at g3; cases g3
      rfl
theorem eD_inj {a b : Str} {ps qs : List D} (h : eD a ps = eD b qs) : a = b ∧ ps = qs := by
  injection h with h
  injection h with h1 h2
  injection h1 with h1
  injection h2 with h2 _
  injection h2 with h2
  exact ⟨h1, h2⟩
/-- of one place one row alone has its head -/
theorem Std.inj {recs : List D} {rows : List Int} {l h v : Nat} (s : Std recs rows l h v) : ∀ {rows' : List Int} {l' h' : Nat}, Std recs rows' l' h' v → h - l = h' - l' ∧ ∀ i, i < h - l → rows[l + i]? = rows'[l' + i]? := by
  have pr : ∀ {a b v : Nat}, ixOf recs (eD "print" [iD a]) = some v → ixOf recs (eD "print" [iD b]) = some v → a = b := fun h g => by
    have := (eD_inj (ix_inj rfl h g)).2
    injection this with this _
    injection this with this
    omega
  have nn : ∀ {x : Str} {ps qs : List D} {a : Nat} {k : NestedKey}, x ≠ "name" → (eD x ps).nk = some k → ixOf recs (eD x ps) = some a → ixOf recs (eD "name" qs) = some a → False := fun ne hk h g => ne (eD_inj (ix_inj hk h g)).1
  induction s with
  | @empty l a v h1 h2 =>
    intro rows' l' h' t
    cases t with
    | empty _ _ => exact ⟨by omega, fun i hi => by omega⟩
    | leaf _ g1 g2 g3 =>
      have := pr h2 g3
      subst this
      exact (nn (by decide) rfl g2 h1).elim
    | node _ _ _ g1 g2 g3 =>
      have := pr h2 g3
      subst this
      exact (nn (by decide) rfl g2 h1).elim
  | @leaf l a c v t0 h0 h1 h2 h3 =>
    intro rows' l' h' t
    cases t with
    | empty g1 g2 =>
      have := pr h3 g2
      subst this
      exact (nn (by decide) rfl h2 g1).elim
    | @leaf _ _ _ _ t1 g0 g1 g2 g3 =>
      have := pr h3 g3
      subst this
      have := (eD_inj (ix_inj rfl h2 g2)).2
      injection this with _ this
      injection this with this _
      injection this with this
      subst this
      refine ⟨by omega, fun i hi => ?_⟩
      obtain rfl : i = 0 := by omega
      rw [Nat.add_zero, Nat.add_zero, h0, g0]
    | node _ _ _ g1 g2 g3 =>
      have := pr h3 g3
      subst this
      have := (eD_inj (ix_inj rfl h2 g2)).2
      injection this with _ this
      injection this with _ this
      cases this
  | @node l h x y a c v h0 s1 s2 h1 h2 h3 i1 i2 =>
    intro rows' l' h' t
    cases t with
    | empty g1 g2 =>
      have := pr h3 g2
      subst this
      exact (nn (by decide) rfl h2 g1).elim
    | leaf g0 g1 g2 g3 =>
      have := pr h3 g3
      subst this
      have := (eD_inj (ix_inj rfl h2 g2)).2
      injection this with _ this
      injection this with _ this
      cases this
    | @node _ _ x' y' _ _ _ g0 t1 t2 g1 g2 g3 =>
      have := pr h3 g3
      subst this
      have := (eD_inj (ix_inj rfl h2 g2)).2
      injection this with _ this
      injection this with e1 this
      injection this with e2 _
      injection e1 with e1
      injection e2 with e2
      have e1 : x = x' := by omega
      have e2 : y = y' := by omega
      subst e1 e2
      obtain ⟨a1, b1⟩ := i1 t1
      obtain ⟨a2, b2⟩ := i2 t2
      have z1 := s1.le
      have z2 := s2.le
      have z3 := t1.le
      have z4 := t2.le
      refine ⟨by omega, fun i hi => ?_⟩
      by_cases q : i < half (h - l)
      · exact b1 i (by omega)
      · have := b2 (i - half (h - l)) (by omega)
        rw [show l + half (h - l) + (i - half (h - l)) = l + i by omega, show l' + half (h' - l') + (i - half (h - l)) = l' + i by omega] at this
        exact this
/-- it hangs on the entries between alone -/
theorem Std.cong {recs : List D} {rows rows' : List Int} {l h v : Nat} (s : Std recs rows l h v) : (∀ i, l ≤ i → i < h → rows[i]? = rows'[i]?) → Std recs rows' l h v := by
  induction s with
  | empty h1 h2 => exact fun _ => .empty h1 h2
  | leaf h0 h1 h2 h3 => exact fun e => .leaf ((e _ (Nat.le_refl _) (Nat.lt_succ_self _)).symm.trans h0) h1 h2 h3
  | node h0 s1 s2 h1 h2 h3 i1 i2 =>
    intro e
    have := s1.le
    have := s2.le
    exact .node h0 (i1 fun i a b => e i a (by omega)) (i2 fun i a b => e i (by omega) b) h1 h2 h3
end Law
set_option Elab.async false
set_option linter.all false
set_option maxRecDepth 100000
set_option maxHeartbeats 4000000
namespace Law
open PySem PySem.Spec PyProof.Rows L2 Gl Dw
/-! halves, pieces -/
structure IsHalf (m h : Nat) : Prop where
  pw : ∃ k, h = 2 ^ k
  lo : h = 1 ∨ h < m
  hi : m ≤ 2 * h
theorem IsHalf.uniq {m h h' : Nat} (a : IsHalf m h) (b : IsHalf m h') : h = h' := by
  have key : ∀ {k j : Nat}, k < j → (2 ^ j = 1 ∨ 2 ^ j < m) → m ≤ 2 * 2 ^ k → False := fun {k j} hkj lo hi => by
    have e : 2 ^ (k + 1) ≤ 2 ^ j := Nat.pow_le_pow_right (by decide) hkj
    have p : 1 ≤ 2 ^ k := Nat.one_le_two_pow
    rw [Nat.pow_succ] at e
    omega
  obtain ⟨k, rfl⟩ := a.pw
  obtain ⟨j, rfl⟩ := b.pw
  rcases Nat.lt_trichotomy k j with q | q | q
  · exact (key q b.lo a.hi).elim
  · rw [q]
  · exact (key q a.lo b.hi).elim
theorem halfG_is : ∀ (n f m : Nat), (∃ k, f = 2 ^ k) → (f = 1 ∨ f < m) → m ≤ f + n → IsHalf m (halfG n f m)
  | 0, f, m, p, lo, hi => ⟨p, lo, by show m ≤ 2 * f; omega⟩
  | n + 1, f, m, p, lo, hi => by
    unfold halfG
    have f1 : 1 ≤ f := by
      obtain ⟨k, rfl⟩ := p
      exact Nat.one_le_two_pow
    split
    · rename_i c
      refine halfG_is n (2 * f) m ?_ (.inr c) (by omega)
      obtain ⟨k, rfl⟩ := p
      exact ⟨k + 1, by rw [Nat.pow_succ]; omega⟩
    · exact ⟨p, lo, by omega⟩
theorem half_is (m : Nat) : IsHalf m (half m) := halfG_is m 1 m ⟨0, rfl⟩ (.inl rfl) (by omega)
theorem half_pos (m : Nat) : 1 ≤ half m := by
  obtain ⟨k, e⟩ := (half_is m).pw
  rw [e]
  exact Nat.one_le_two_pow
theorem half_lt {m : Nat} (h : 2 ≤ m) : half m < m := by
  rcases (half_is m).lo with q | q <;> omega
/-- cut at m, the first half is the same -/
theorem half_cut {a b m : Nat} (h1 : a + half (b - a) < m) (h2 : m ≤ b) : half (m - a) = half (b - a) :=
  (half_is (m - a)).uniq ⟨(half_is (b - a)).pw, .inr (by omega), by have := (half_is (b - a)).hi; omega⟩
/-- halves are of at most half the size -/
theorem half_pow {m n : Nat} (h : 2 ≤ m) (le : m ≤ 2 ^ (n + 1)) : half m ≤ 2 ^ n ∧ m - half m ≤ 2 ^ n := by
  have hh := half_is m
  have lt := half_lt h
  obtain ⟨k, e⟩ := hh.pw
  have k1 : k ≤ n := by
    rcases Nat.lt_or_ge n k with q | q
    · have : 2 ^ (n + 1) ≤ 2 ^ k := Nat.pow_le_pow_right (by decide) q
      omega
    · exact q
  have := hh.hi
  have p : 2 ^ k ≤ 2 ^ n := Nat.pow_le_pow_right (by decide) k1
  omega
def pcsG : Nat → Nat → Nat → Nat → List (Nat × Nat)
  | 0, _, l, h => [(l, h)]
  | n + 1, m, l, h => if h ≤ m ∨ m ≤ l then [(l, h)] else pcsG n m l (l + half (h - l)) ++ pcsG n m (l + half (h - l)) h
theorem pcsG_eq : ∀ (n n' m l h : Nat), h - l ≤ n → h - l ≤ n' → pcsG n m l h = pcsG n' m l h
  | 0, 0, _, _, _, _, _ => rfl
  | 0, n' + 1, m, l, h, h1, h2 => by
    show [(l, h)] = if h ≤ m ∨ m ≤ l then [(l, h)] else _
    rw [if_pos (by omega)]
  | n + 1, 0, m, l, h, h1, h2 => by
    show (if h ≤ m ∨ m ≤ l then [(l, h)] else _) = [(l, h)]
    rw [if_pos (by omega)]
  | n + 1, n' + 1, m, l, h, h1, h2 => by
    show (if h ≤ m ∨ m ≤ l then [(l, h)] else pcsG n m l (l + half (h - l)) ++ pcsG n m (l + half (h - l)) h) = if h ≤ m ∨ m ≤ l then [(l, h)] else pcsG n' m l (l + half (h - l)) ++ pcsG n' m (l + half (h - l)) h
    split
    · rfl
    · rename_i c
      have p := half_pos (h - l)
      have q := half_lt (m := h - l) (by omega)
      rw [pcsG_eq n n' m l (l + half (h - l)) (by omega) (by omega), pcsG_eq n n' m (l + half (h - l)) h (by omega) (by omega)]
/-- the pieces of l to h that lie at one side of m, in order -/
def pcs (m l h : Nat) : List (Nat × Nat) := pcsG (h - l) m l h
theorem pcs_one {m l h : Nat} (c : h ≤ m ∨ m ≤ l) : pcs m l h = [(l, h)] := by
  unfold pcs
  cases h - l with
  | zero => rfl
  | succ n => exact if_pos c
theorem pcs_two {m l h : Nat} (c : ¬ (h ≤ m ∨ m ≤ l)) : pcs m l h = pcs m l (l + half (h - l)) ++ pcs m (l + half (h - l)) h := by
  have p := half_pos (h - l)
  have q := half_lt (m := h - l) (by omega)
  unfold pcs
  obtain ⟨n, e⟩ : ∃ n, h - l = n + 1 := ⟨h - l - 1, by omega⟩
  rw [e]
  show (if h ≤ m ∨ m ≤ l then [(l, h)] else pcsG n m l (l + half (h - l)) ++ pcsG n m (l + half (h - l)) h) = _
  rw [if_neg c, ← e, pcsG_eq n _ m l (l + half (h - l)) (by omega) (Nat.le_refl _), pcsG_eq n _ m (l + half (h - l)) h (by omega) (Nat.le_refl _)]
/-- l to h is put together of lots of L -/
inductive Cov (L : Nat → Nat → Prop) : Nat → Nat → Prop
  | one {l h : Nat} : L l h → Cov L l h
  | two {l h : Nat} : l + 1 < h → Cov L l (l + half (h - l)) → Cov L (l + half (h - l)) h → Cov L l h
theorem cov_all {L : Nat → Nat → Prop} {m : Nat} : ∀ (n : Nat) {l h : Nat}, h - l ≤ n → l < h → (∀ q ∈ pcs m l h, q.1 < q.2 → L q.1 q.2) → Cov L l h
  | 0, l, h, hn, lt, _ => by omega
  | n + 1, l, h, hn, lt, hL => by
    by_cases c : h ≤ m ∨ m ≤ l
    · rw [pcs_one c] at hL
      exact .one (hL (l, h) (by simp) lt)
    · rw [pcs_two c] at hL
      have p := half_pos (h - l)
      have q := half_lt (m := h - l) (by omega)
      exact .two (by omega) (cov_all n (by omega) (by omega) fun x hx => hL x (List.mem_append_left _ hx)) (cov_all n (by omega) (by omega) fun x hx => hL x (List.mem_append_right _ hx))
theorem cov_cut {L : Nat → Nat → Prop} {m : Nat} : ∀ (n : Nat) {l h : Nat}, h - l ≤ n → l < m → m ≤ h → (∀ q ∈ pcs m l h, q.1 < q.2 → L q.1 q.2) → Cov L l m
  | 0, l, h, hn, lt, le, _ => by omega
  | n + 1, l, h, hn, lt, le, hL => by
    by_cases c : h ≤ m
    · obtain rfl : h = m := by omega
      rw [pcs_one (.inl c)] at hL
      exact .one (hL (l, h) (by simp) lt)
    · have c' : ¬ (h ≤ m ∨ m ≤ l) := by omega
      rw [pcs_two c'] at hL
      have p := half_pos (h - l)
      have q := half_lt (m := h - l) (by omega)
      by_cases d : m ≤ l + half (h - l)
      · exact cov_cut n (by omega) lt d fun x hx => hL x (List.mem_append_left _ hx)
      · have e := half_cut (a := l) (b := h) (m := m) (by omega) le
        refine .two (by omega) ?_ ?_
        · rw [e]
          refine .one ?_
          have := hL (l, l + half (h - l)) (List.mem_append_left _ (by rw [pcs_one (.inl (by omega))]; simp)) (by show l < l + half (h - l); omega)
          exact this
        · rw [e]
          exact cov_cut n (by omega) (by omega) le fun x hx => hL x (List.mem_append_right _ hx)
end Law
set_option Elab.async false
set_option linter.all false
set_option maxRecDepth 100000
set_option maxHeartbeats 4000000
namespace Law
open PySem PySem.Spec PyProof.Rows L2 Gl Dw
/-! heads put into a book; heads asked of a book -/
theorem put_more (recs : List D) (d : D) : ∃ more, (put recs d).1 = recs ++ more ∧ more.length ≤ 1 := by
  unfold put
  split
  · exact ⟨[], (List.append_nil _).symm, Nat.zero_le _⟩
  · exact ⟨_, rfl, Nat.le_refl _⟩
theorem pEmpty_std (recs : List D) (rows : List Int) (l : Nat) : ∃ more, (pEmpty recs).1 = recs ++ more ∧ more.length ≤ 2 ∧ Std (pEmpty recs).1 rows l l (pEmpty recs).2 := by
  obtain ⟨m1, e1, l1⟩ := put_more recs (eD "name" [.str "empty"])
  have i1 := ix_put recs (eD "name" [.str "empty"])
  unfold pEmpty
  generalize put recs (eD "name" [.str "empty"]) = q1 at e1 i1 ⊢
  obtain ⟨r1, a⟩ := q1
  dsimp only at e1 i1 ⊢
  obtain ⟨m2, e2, l2⟩ := put_more r1 (eD "print" [iD a])
  have i2 := ix_put r1 (eD "print" [iD a])
  refine ⟨m1 ++ m2, by rw [e2, e1, List.append_assoc], by rw [List.length_append]; omega, .empty (a := a) ?_ i2⟩
  rw [e2]
  exact ix_app i1
theorem pLeaf_std {rows : List Int} {l : Nat} {t : Int} (h : rows[l]? = some t) (recs : List D) : ∃ more, (pLeaf recs t).1 = recs ++ more ∧ more.length ≤ 3 ∧ Std (pLeaf recs t).1 rows l (l + 1) (pLeaf recs t).2 := by
  obtain ⟨m1, e1, l1⟩ := put_more recs (eD "name" [.str "leaf"])
  have i1 := ix_put recs (eD "name" [.str "leaf"])
  unfold pLeaf pLeafR
  generalize put recs (eD "name" [.str "leaf"]) = q1 at e1 i1 ⊢
  obtain ⟨r1, a⟩ := q1
  dsimp only at e1 i1 ⊢
  obtain ⟨m2, e2, l2⟩ := put_more r1 (eD "row" [iD a, .int t])
  have i2 := ix_put r1 (eD "row" [iD a, .int t])
  generalize put r1 (eD "row" [iD a, .int t]) = q2 at e2 i2 ⊢
  obtain ⟨r2, c⟩ := q2
  dsimp only at e2 i2 ⊢
  obtain ⟨m3, e3, l3⟩ := put_more r2 (eD "print" [iD c])
  have i3 := ix_put r2 (eD "print" [iD c])
  refine ⟨m1 ++ m2 ++ m3, by rw [e3, e2, e1, List.append_assoc, List.append_assoc, List.append_assoc], by simp only [List.length_append]; omega, .leaf (a := a) (c := c) h ?_ ?_ i3⟩
  · rw [e3, e2]
    exact ix_app (ix_app i1)
  · rw [e3]
    exact ix_app i2
theorem pNode_std {recs : List D} {rows : List Int} {l h x y : Nat} (lt : l + 1 < h) (s1 : Std recs rows l (l + half (h - l)) x) (s2 : Std recs rows (l + half (h - l)) h y) : ∃ more, (pNode recs x y).1 = recs ++ more ∧ more.length ≤ 3 ∧ Std (pNode recs x y).1 rows l h (pNode recs x y).2 := by
  obtain ⟨m1, e1, l1⟩ := put_more recs (eD "name" [.str "node"])
  have i1 := ix_put recs (eD "name" [.str "node"])
  unfold pNode pNodeR
  generalize put recs (eD "name" [.str "node"]) = q1 at e1 i1 ⊢
  obtain ⟨r1, a⟩ := q1
  dsimp only at e1 i1 ⊢
  obtain ⟨m2, e2, l2⟩ := put_more r1 (eD "row" [iD a, iD x, iD y])
  have i2 := ix_put r1 (eD "row" [iD a, iD x, iD y])
  generalize put r1 (eD "row" [iD a, iD x, iD y]) = q2 at e2 i2 ⊢
  obtain ⟨r2, c⟩ := q2
  dsimp only at e2 i2 ⊢
  obtain ⟨m3, e3, l3⟩ := put_more r2 (eD "print" [iD c])
  have i3 := ix_put r2 (eD "print" [iD c])
  refine ⟨m1 ++ m2 ++ m3, by rw [e3, e2, e1, List.append_assoc, List.append_assoc, List.append_assoc], by simp only [List.length_append]; omega, .node (x := x) (y := y) (a := a) (c := c) lt ?_ ?_ ?_ ?_ i3⟩
  · rw [e3, e2, e1]
    exact s1.app.app.app
  · rw [e3, e2, e1]
    exact s2.app.app.app
  · rw [e3, e2]
    exact ix_app (ix_app i1)
  · rw [e3]
    exact ix_app i2
/-- what is told of rows[l..h): its head, if it stands there -/
def Hd (recs : List D) (rows : List Int) (l h : Nat) (d : D) : Prop := (∃ v : Nat, d = .int v ∧ Std recs rows l h v) ∨ (d = .non ∧ ∀ v, ¬ Std recs rows l h v)
theorem Hd.plain {recs : List D} {rows : List Int} {l h : Nat} {d : D} (q : Hd recs rows l h d) : d = .non ∨ ∃ i, d = .int i := by
  rcases q with ⟨v, rfl, _⟩ | ⟨rfl, _⟩
  · exact .inr ⟨_, rfl⟩
  · exact .inl rfl
theorem Hd.of {recs : List D} {rows : List Int} {l h v : Nat} {d : D} (q : Hd recs rows l h d) (s : Std recs rows l h v) : d = .int v := by
  rcases q with ⟨u, rfl, t⟩ | ⟨_, t⟩
  · rw [t.uniq s]
  · exact absurd s (t v)
theorem Hd.to {recs : List D} {rows : List Int} {l h : Nat} {v : Nat} (q : Hd recs rows l h (.int v)) : Std recs rows l h v := by
  rcases q with ⟨u, e, t⟩ | ⟨e, _⟩
  · injection e with e
    rw [show v = u by omega]
    exact t
  · cases e
theorem pThere_non {recs : List D} {kd : Str} {ps : List D} (h : D.non ∈ ps) : pThere recs kd ps = .non := by
  unfold pThere
  rw [if_pos]
  unfold inD
  rw [List.any_eq_true]
  exact ⟨_, h, rfl⟩
theorem pThere_of {recs : List D} {kd : Str} {ps : List D} (h : inD .non ps = false) : pThere recs kd ps = optD (ixOf recs (eD kd ps)) := by
  unfold pThere
  rw [if_neg (by rw [h]; decide)]
theorem tEmpty_hd (recs : List D) (rows : List Int) (l : Nat) : Hd recs rows l l (tEmpty recs) := by
  have e1 : pThere recs "name" [.str "empty"] = optD (ixOf recs (eD "name" [.str "empty"])) := pThere_of rfl
  unfold tEmpty
  rw [e1]
  cases h1 : ixOf recs (eD "name" [.str "empty"]) with
  | none =>
    rw [pThere_non (by simp [optD])]
    refine .inr ⟨rfl, fun v s => ?_⟩
    cases s with
    | empty g1 g2 => rw [h1] at g1; cases g1
    | node h0 _ _ _ _ _ => omega
  | some a =>
    rw [pThere_of rfl]
    show Hd recs rows l l (optD (ixOf recs (eD "print" [iD a])))
    cases h2 : ixOf recs (eD "print" [iD a]) with
    | none =>
      refine .inr ⟨rfl, fun v s => ?_⟩
      cases s with
      | empty g1 g2 =>
        rw [h1] at g1
        cases g1
        rw [h2] at g2
        cases g2
      | node h0 _ _ _ _ _ => omega
    | some v => exact .inl ⟨v, rfl, .empty h1 h2⟩
theorem tNode_hd {recs : List D} {rows : List Int} {l h : Nat} {x y : D} (lt : l + 1 < h) (hx : Hd recs rows l (l + half (h - l)) x) (hy : Hd recs rows (l + half (h - l)) h y) : Hd recs rows l h (tNode recs x y) := by
  have inv : ∀ {v : Nat}, Std recs rows l h v → ∃ x' y' a c, Std recs rows l (l + half (h - l)) x' ∧ Std recs rows (l + half (h - l)) h y' ∧ ixOf recs (eD "name" [.str "node"]) = some a ∧ ixOf recs (eD "row" [iD a, iD x', iD y']) = some c ∧ ixOf recs (eD "print" [iD c]) = some v := fun s => by
    cases s with
    | empty _ _ => omega
    | leaf _ _ _ _ => omega
    | node h0 s1 s2 g1 g2 g3 => exact ⟨_, _, _, _, s1, s2, g1, g2, g3⟩
  have e1 : pThere recs "name" [.str "node"] = optD (ixOf recs (eD "name" [.str "node"])) := pThere_of rfl
  unfold tNode
  rw [e1]
  rcases hx with ⟨x', rfl, sx⟩ | ⟨rfl, sx⟩
  · rcases hy with ⟨y', rfl, sy⟩ | ⟨rfl, sy⟩
    · cases h1 : ixOf recs (eD "name" [.str "node"]) with
      | none =>
        rw [pThere_non (ps := [optD none, _, _]) (by simp [optD]), pThere_non (by simp)]
        refine .inr ⟨rfl, fun v s => ?_⟩
        obtain ⟨_, _, _, _, _, _, g, _⟩ := inv s
        rw [h1] at g; cases g
      | some a =>
        rw [pThere_of (kd := "row") rfl]
        show Hd recs rows l h (pThere recs "print" [optD (ixOf recs (eD "row" [iD a, iD x', iD y']))])
        cases h2 : ixOf recs (eD "row" [iD a, iD x', iD y']) with
        | none =>
          rw [pThere_non (by simp [optD])]
          refine .inr ⟨rfl, fun v s => ?_⟩
          obtain ⟨x2, y2, a2, c2, s1, s2, g1, g2, g3⟩ := inv s
          rw [h1] at g1; cases g1
          rw [s1.uniq sx, s2.uniq sy, h2] at g2
          cases g2
        | some c =>
          rw [pThere_of rfl]
          show Hd recs rows l h (optD (ixOf recs (eD "print" [iD c])))
          cases h3 : ixOf recs (eD "print" [iD c]) with
          | none =>
            refine .inr ⟨rfl, fun v s => ?_⟩
            obtain ⟨x2, y2, a2, c2, s1, s2, g1, g2, g3⟩ := inv s
            rw [h1] at g1; cases g1
            rw [s1.uniq sx, s2.uniq sy, h2] at g2
            cases g2
            rw [h3] at g3
            cases g3
          | some v => exact .inl ⟨v, rfl, .node lt sx sy h1 h2 h3⟩
    · rw [pThere_non (ps := [_, _, .non]) (by simp), pThere_non (by simp)]
      refine .inr ⟨rfl, fun v s => ?_⟩
      obtain ⟨_, y2, _, _, _, s2, _⟩ := inv s
      exact sy _ s2
  · rw [pThere_non (ps := [_, .non, _]) (by simp), pThere_non (by simp)]
    refine .inr ⟨rfl, fun v s => ?_⟩
    obtain ⟨x2, _, _, _, s1, _⟩ := inv s
    exact sx _ s1
end Law
set_option Elab.async false
set_option linter.all false
set_option maxRecDepth 100000
set_option maxHeartbeats 8000000
namespace Law
open PySem PySem.Spec PyProof.Rows L2 Gl Dw


structure ClH (K : PySem.W.Frag) (C : Addr) : Prop where
  cls : Cls K C
  n1 : NoAttr K C "book"
  n2 : NoAttr K C "rows"
  n3 : NoAttr K C "known"
abbrev Tab := List (List Key × D)
def rD (rows : List Int) : List D := rows.map D.int
def hdFs (b kn : Addr) (rows : List Int) : List (Str × D) := [("book", .opq b), ("rows", .tup (rD rows)), ("known", .opq kn)]
def TabOk (recs : List D) (rows : List Int) (tab : Tab) : Prop := ∀ q ∈ tab, ∃ l h v : Nat, q.1 = [.inl (l : Int), .inl (h : Int)] ∧ q.2 = .int (v : Int) ∧ Std recs rows l h v
/-- heads over the book at b, at hd: these were asked -/
def HdAt (C hd b kn : Addr) (rows : List Int) (recs : List D) (tab : Tab) (s : Rg) : Prop := (∃ dx, s hd = some (.ins C dx (hdFs b kn rows))) ∧ s kn = some (.dit tab) ∧ TabOk recs rows tab
def OffH (b r p kn : Addr) (s s' : Rg) : Prop := ∀ x, x ≠ b → x ≠ r → x ≠ p → x ≠ kn → s' x = s x
theorem OffB.h {b r p kn : Addr} {s s' : Rg} (h : OffB b r p s s') : OffH b r p kn s s' := fun x h1 h2 h3 _ => h x h1 h2 h3
theorem OffH.trans {b r p kn : Addr} {s s' s'' : Rg} (h : OffH b r p kn s s') (g : OffH b r p kn s' s'') : OffH b r p kn s s'' := fun x h1 h2 h3 h4 => (g x h1 h2 h3 h4).trans (h x h1 h2 h3 h4)
theorem lkHB {b kn : Addr} {rows : List Int} : List.lookup ("book" : Str) (hdFs b kn rows) = some (.opq b) := rfl
theorem lkHR {b kn : Addr} {rows : List Int} : List.lookup ("rows" : Str) (hdFs b kn rows) = some (.tup (rD rows)) := rfl
theorem lkHK {b kn : Addr} {rows : List Int} : List.lookup ("known" : Str) (hdFs b kn rows) = some (.opq kn) := rfl
theorem noH {m : Str} {b kn : Addr} {rows : List Int} (h : m ≠ "book" ∧ m ≠ "rows" ∧ m ≠ "known") : ∀ (a : Str) (d : D), (a, d) ∈ hdFs b kn rows → ¬ m = a := fun a d hm z => by
  subst z
  simp [hdFs] at hm
  rcases hm with ⟨e, _⟩ | ⟨e, _⟩ | ⟨e, _⟩
  · exact h.1 e
  · exact h.2.1 e
  · exact h.2.2 e
theorem TabOk.app {recs more : List D} {rows : List Int} {tab : Tab} (h : TabOk recs rows tab) : TabOk (recs ++ more) rows tab := fun q hq => by
  obtain ⟨l, h, v, e1, e2, s⟩ := h q hq
  exact ⟨l, h, v, e1, e2, s.app⟩
theorem valD_mem {tab : Tab} {k : List Key} {d : D} (h : valD tab k = some d) : (k, d) ∈ tab := by
  unfold valD at h
  obtain ⟨q, h1, rfl⟩ := Option.map_eq_some_iff.mp h
  have e := List.find?_some h1
  have e : q.1 = k := of_decide_eq_true e
  rw [← e]
  exact List.mem_of_find?_eq_some h1
theorem TabOk.val {recs : List D} {rows : List Int} {tab : Tab} {l h : Nat} {d : D} (t : TabOk recs rows tab) (e : valD tab [.inl (l : Int), .inl (h : Int)] = some d) : ∃ v : Nat, d = .int (v : Int) ∧ Std recs rows l h v := by
  obtain ⟨l', h', v, e1, e2, s⟩ := t _ (valD_mem e)
  simp only [List.cons.injEq, Sum.inl.injEq, and_true] at e1
  rw [show l = l' by omega, show h = h' by omega]
  exact ⟨v, e2, s⟩
theorem putD_mem {tab : Tab} {k : List Key} {v : D} {q : List Key × D} (h : q ∈ putD tab k v) : q ∈ tab ∨ q = (k, v) := by
  unfold putD at h
  split at h
  · obtain ⟨q', h1, h2⟩ := List.mem_map.mp h
    split at h2
    · rename_i c
      rw [← h2, c]
      exact .inr rfl
    · rw [← h2]
      exact .inl h1
  · rcases List.mem_append.mp h with h | h
    · exact .inl h
    · exact .inr (List.mem_singleton.mp h)
theorem valD_put (tab : Tab) (k : List Key) (v : D) : valD (putD tab k v) k = some v := by
  unfold putD
  split
  · rename_i h
    unfold valD
    revert h
    induction tab with
    | nil => intro h; simp at h
    | cons q r ih =>
      intro h
      by_cases c : q.1 = k
      · simp [List.find?_cons, c]
      · simp only [List.any_cons, Bool.or_eq_true, decide_eq_true_eq, c, false_or] at h
        have := ih h
        simp only [List.map_cons, if_neg c, List.find?_cons, decide_eq_false c]
        exact this
  · rename_i h
    unfold valD
    simp only [Bool.not_eq_true, List.any_eq_false, decide_eq_true_eq] at h
    rw [List.find?_append, List.find?_eq_none.mpr (fun q hq => by simpa using h q hq)]
    simp
theorem TabOk.put {recs : List D} {rows : List Int} {tab : Tab} {l h v : Nat} (t : TabOk recs rows tab) (s : Std recs rows l h v) : TabOk recs rows (putD tab [.inl (l : Int), .inl (h : Int)] (.int (v : Int))) := fun q hq => by
  rcases putD_mem hq with hq | rfl
  · exact t q hq
  · exact ⟨l, h, v, rfl, rfl, s⟩
def wfHI (C : Addr) : WF Rg := fun ds s k _ => match ds with
  | [.opq hd, .opq b, .tup rs] => ∃ dx rows, s hd = some (.ins C dx []) ∧ rs = rD rows ∧ ∀ kn s', s kn = none → HdAt C hd b kn rows [] [] s' → (∀ x, x ≠ hd → x ≠ kn → s' x = s x) → k .non s'
  | _ => False
/-- how many entries the head of m more ones puts in at most -/
def cst (m : Nat) : Nat := if m = 0 then 2 else 6 * m - 3
def wfHO (P : Program) (w : World) (CB CH : Addr) (n : Nat) : WF Rg := fun ds s k _ => match ds with
  | [.opq hd, .int lo, .int hi] => ∃ (b r p kn : Addr) (rows : List Int) (recs : List D) (fr : Int) (tab : Tab) (l h n' : Nat), lo = l ∧ hi = h ∧ l ≤ h ∧ h ≤ rows.length ∧ n = n' + 1 ∧ h - l ≤ 2 ^ n' ∧ rows.length ≤ 1000 ∧ BkAt P w CB b r p recs fr s ∧ HdAt CH hd b kn rows recs tab s ∧ recs.length + cst (h - l) < 1000000 ∧ tab.length + 2 * (h - l) < 100000 ∧
    ∀ (s' : Rg) (more : List D) (tab' : Tab) (v : Nat), BkAt P w CB b r p (recs ++ more) fr s' → HdAt CH hd b kn rows (recs ++ more) tab' s' → OffH b r p kn s s' → more.length ≤ cst (h - l) → tab'.length ≤ tab.length + (2 * (h - l) - 1) → Std (recs ++ more) rows l h v → k (.int v) s'
  | _ => False
def wfHF (P : Program) (w : World) (CB CH : Addr) (n : Nat) : WF Rg := fun ds s k _ => match ds with
  | [.opq hd, .int lo, .int hi] => ∃ (b r p kn : Addr) (rows : List Int) (recs : List D) (fr : Int) (tab : Tab) (l h : Nat), lo = l ∧ hi = h ∧ l < h ∧ h ≤ rows.length ∧ h - l ≤ 2 ^ n ∧ rows.length ≤ 1000 ∧ BkAt P w CB b r p recs fr s ∧ HdAt CH hd b kn rows recs tab s ∧ recs.length + cst (h - l) < 1000000 ∧ tab.length + 2 * (h - l) < 100000 ∧
    ∀ (s' : Rg) (more : List D) (tab' : Tab) (v : Nat), BkAt P w CB b r p (recs ++ more) fr s' → HdAt CH hd b kn rows (recs ++ more) tab' s' → OffH b r p kn s s' → more.length ≤ cst (h - l) → tab'.length ≤ tab.length + (2 * (h - l) - 2) → Std (recs ++ more) rows l h v → k (.int v) s'
  | _ => False
theorem dget_dit {s : Rg} {a : Addr} {tab : Tab} {l h : Int} (e : s a = some (.dit tab)) : dgetR s (.opq a) (.tup [.int l, .int h]) = some (valD tab [.inl l, .inl h]) := by
  unfold dgetR
  try dsimp only
  rw [e]
  rfl
theorem dput_dit {s : Rg} {a : Addr} {tab : Tab} {l h : Int} {v : D} (e : s a = some (.dit tab)) (z : tab.length < sizeLine) : dputR s a (.tup [.int l, .int h]) v = some (.dit (putD tab [.inl l, .inl h] v)) := by
  unfold dputR
  rw [e]
  try dsimp only
  rw [if_pos z]
  rfl
theorem cst_pos {m : Nat} (h : 0 < m) : cst m = 6 * m - 3 := by
  unfold cst
  rw [if_neg (by omega)]
section
variable {P : Program} {w : World} {CB CH hd b r p kn : Addr} {rows : List Int} {recs recs' : List D} {tab : Tab} {fr : Int} {s s' : Rg}
/-- the heads' own things are none of the book's -/
theorem HdAt.ne (B : BkAt P w CB b r p recs fr s) (h : HdAt CH hd b kn rows recs' tab s) : hd ≠ b ∧ hd ≠ r ∧ hd ≠ p ∧ hd ≠ kn ∧ kn ≠ b ∧ kn ≠ r ∧ kn ≠ p := by
  obtain ⟨dx, xs, hb, hr, hp, _⟩ := B
  obtain ⟨⟨dy, h1⟩, h2, _⟩ := h
  refine ⟨?_, ?_, ?_, ?_, ?_, ?_, ?_⟩
  · rintro rfl
    rw [h1] at hb
    injection hb with hb
    injection hb with _ _ hb
    injection hb with hb _
    injection hb with hb _
    exact absurd hb (by decide)
  · rintro rfl; rw [h1] at hr; cases hr
  · rintro rfl; rw [h1] at hp; cases hp
  · rintro rfl; rw [h1] at h2; cases h2
  · rintro rfl; rw [h2] at hb; cases hb
  · rintro rfl; rw [h2] at hr; cases hr
  · rintro rfl; rw [h2] at hp; cases hp
theorem HdAt.off (B : BkAt P w CB b r p recs fr s) (h : HdAt CH hd b kn rows recs tab s) (o : OffB b r p s s') {more : List D} : HdAt CH hd b kn rows (recs ++ more) tab s' := by
  obtain ⟨n1, n2, n3, n4, n5, n6, n7⟩ := h.ne B
  obtain ⟨⟨dy, h1⟩, h2, t⟩ := h
  exact ⟨⟨dy, by rw [o hd n1 n2 n3]; exact h1⟩, by rw [o kn n5 n6 n7]; exact h2, t.app⟩
theorem BkAt.offKn (B : BkAt P w CB b r p recs fr s) (h : HdAt CH hd b kn rows recs' tab s) {o : Mo} : BkAt P w CB b r p recs fr (rup s kn o) := by
  obtain ⟨n1, n2, n3, n4, n5, n6, n7⟩ := h.ne B
  obtain ⟨dx, xs, hb, hr, hp, rest⟩ := B
  exact ⟨dx, xs, by rw [rup_ne (Ne.symm n5)]; exact hb, by rw [rup_ne (Ne.symm n6)]; exact hr, by rw [rup_ne (Ne.symm n7)]; exact hp, rest⟩
end
abbrev FH (K : PySem.W.Frag) (m q : Str) (st : Stmt) (f : Addr) (fd : FuncData) : Prop := FunD K m q (defArgs st) (defBody st) (defScope st) [] [] f fd
abbrev s_Heads___init__ : Stmt := inClass (top 45) 0
abbrev N_Heads___init__ : List Str := ["self", "book", "rows"]
theorem sc_Heads___init__ : FnScope N_Heads___init__ ["self", "book", "rows"] (defScope s_Heads___init__) := ⟨rfl, rfl, rfl, by decide +kernel, rfl, by decide +kernel, by decide +kernel⟩
abbrev s_Heads_of : Stmt := inClass (top 45) 1
abbrev N_Heads_of : List Str := ["self", "low", "high"]
theorem sc_Heads_of : FnScope N_Heads_of ["self", "low", "high"] (defScope s_Heads_of) := ⟨rfl, rfl, rfl, by decide +kernel, rfl, by decide +kernel, by decide +kernel⟩
abbrev s_Heads_fresh_one : Stmt := inClass (top 45) 2
abbrev N_Heads_fresh_one : List Str := ["self", "low", "high", "middle", "one"]
theorem sc_Heads_fresh_one : FnScope N_Heads_fresh_one ["self", "low", "high"] (defScope s_Heads_fresh_one) := ⟨rfl, rfl, rfl, by decide +kernel, rfl, by decide +kernel, by decide +kernel⟩
section
variable {P : Program} {w : World} {K : PySem.W.Frag} {mg : Str → Option Value} {base : Heap} {CB CH : Addr}
theorem ok_Heads_init (T : Tx P w K mg) (cH : ClH K CH) {f : Addr} {fd : FuncData} (F : FH K "__init__" "Heads.__init__" s_Heads___init__ f fd) : Fn P w K mg base 1 f fd ["self", "book", "rows"] (spX RW (wfHI CH)) := by
  refine fn_data F sc_Heads___init__ (fun ds s k x h => ?_) fun cv A outer s H G hr gd => ⟨_, (pss_cons (kFldS (K := K) (ps_fld (pv 0) (pv 1) rfl))
    (pss_cons (kFldS (K := K) (ps_fld (pv 0) (pv 2) rfl))
    (pss_one (kFldS (K := K) (ps_fld (pv 0) pe_dnewT rfl))))), ?_⟩
  · match ds, h with
    | [.opq _, .opq _, .tup _], _ => rfl
  · have c1 := cH.cls
    have c2 := cH.n1
    have c3 := cH.n2
    have c4 := cH.n3
    apply bodyW
    · (first | walk_at "sim" | fail)
    intro ds s k x ok h
    match ds, h with
    | [.opq hd, .opq b, .tup _], ⟨dx, rows, hh, rfl, hk⟩ =>
      have fl : D.flts (rD rows) = true := flts_of fun d hd => by
        obtain ⟨i, _, rfl⟩ := List.mem_map.mp hd
        rfl
      simp [hh, fl, putFD]
      intro kn ek
      have ne : kn ≠ hd := fun z => by rw [z, rup_same] at ek; cases ek
      rw [rup_ne (Ne.symm ne), rup_same]
      refine ⟨rfl, (show 2 < 1000 by decide), hk kn _ (by rw [rup_ne ne] at ek; exact ek) ⟨⟨dx, rup_same⟩, by rw [rup_ne ne, rup_same], fun q hq => (nomatch hq)⟩ fun x n1 n2 => by rw [rup_ne n1, rup_ne n2, rup_ne n1]⟩
theorem ok_of {n lv : Nat} (T : Tx P w K mg) (cH : ClH K CH) (f_raw_empty : Df P w K mg base 2 "raw_empty" (spX RW (wfP P w CB fEmpty 2))) (q_Heads_fresh_one : Cf P w K mg base (lv + 4) CH "fresh_one" (spX RW (wfHF P w CB CH n))) {f : Addr} {fd : FuncData} (F : FH K "of" "Heads.of" s_Heads_of f fd) : Fn P w K mg base (lv + 5) f fd ["self", "low", "high"] (spX RW (wfHO P w CB CH (n + 1))) := by
  refine fn_data F sc_Heads_of (fun ds s k x h => ?_) fun cv A outer s H G hr gd => ⟨_, (pss_cons (ps_if (pt_cmpR (kEq (K := K) hr) (pv 1) (pv 2) (nomark _)) (pss_one (ps_ret (pe_df f_raw_empty hr (by omega) gd rfl (fun σ => Gl.no_pass σ) (pa_cons (kFld (K := K) (pv 0) rfl) pa_nil)))) pss_nil)
    (pss_cons (ps_if (pt_cmp (pc_dnotin (huB hr) (pe_tup (pa_cons (pv 1) (pa_cons (pv 2) pa_nil))) (kFld (K := K) (pv 0) rfl))) (pss_one (ps_dput (huB hr) (kFld (K := K) (pv 0) rfl) (pe_tup (pa_cons (pv 1) (pa_cons (pv 2) pa_nil))) (pe_mtA q_Heads_fresh_one hr (by omega) gd (fun σ => Gl.no_pass σ) (pv 0) (pa_cons (pv 1) (pa_cons (pv 2) pa_nil))) (by rfl))) pss_nil)
    (pss_one (ps_ret (pe_dget (huB hr) (kFld (K := K) (pv 0) rfl) (pe_tup (pa_cons (pv 1) (pa_cons (pv 2) pa_nil))) (fun _ _ => rfl)))))), ?_⟩
  · match ds, h with
    | [.opq _, .int _, .int _], _ => rfl
  · have c1 := cH.cls
    have c2 := cH.n1
    have c3 := cH.n2
    have c4 := cH.n3
    apply bodyW
    · (first | walk_at "sim" | fail)
    intro ds s k x ok hw
    match ds, hw with
    | [.opq hd, .int _, .int _], ⟨b, r, p, kn, rows, recs, fr, tab, l, h, n', rfl, rfl, le, hle, en, hn, rl, B, Hh, z1, z2, hk⟩ =>
      obtain ⟨⟨dy, h1⟩, h2, t⟩ := id Hh
      simp [h1, h2, lkHB, lkHR, lkHK]
      refine iteP (fun c => ?_) fun c => ⟨by decide, ?_⟩
      · obtain rfl : l = h := by omega
        obtain ⟨more, e1, lm, st⟩ := pEmpty_std recs rows l
        rw [Nat.sub_self] at z1 hk
        refine ⟨r, p, recs, fr, _, B, rfl, z1, fun s' B' o => ?_⟩
        rw [e1] at B' st
        exact hk s' more tab _ B' (Hh.off B o) o.h lm (by omega) st
      · have lt : l < h := by omega
        obtain rfl : n' = n := by omega
        rw [dget_dit h2]
        try dsimp only
        refine iteP (fun c => ?_) fun c => ?_
        · refine ⟨noH (by decide), b, r, p, kn, rows, recs, fr, tab, l, h, rfl, rfl, lt, hle, hn, rl, B, Hh, z1, z2, fun s' more tab' v B' Hh' o' hm ht st => ?_⟩
          obtain ⟨⟨dy', h1'⟩, h2', t'⟩ := id Hh'
          have nek := (Hh'.ne B').2.2.2.1
          rw [h1']
          try dsimp only
          rw [lkHK]
          refine ⟨rfl, by decide, ?_⟩
          try dsimp only
          rw [dput_dit h2' (by rw [sizeLine_eq]; omega)]
          refine ⟨rfl, ?_⟩
          try dsimp only
          rw [rup_ne nek, h1']
          try dsimp only
          rw [lkHK]
          refine ⟨rfl, by decide, ?_⟩
          rw [dget_dit rup_same, valD_put]
          have lp := putD_len tab' [.inl (l : Int), .inl (h : Int)] (.int (v : Int))
          exact hk _ more _ v (B'.offKn Hh') ⟨⟨dy', by rw [rup_ne nek]; exact h1'⟩, rup_same, t'.put st⟩ (fun x n1 n2 n3 n4 => by rw [rup_ne n4]; exact o' x n1 n2 n3 n4) hm (by omega) st
        · cases e : valD tab [.inl (l : Int), .inl (h : Int)] with
          | none => exact absurd e c
          | some d =>
            obtain ⟨v, rfl, st⟩ := t.val e
            refine ⟨by decide, ?_⟩
            exact hk s [] tab v (by rw [List.append_nil]; exact B) (by rw [List.append_nil]; exact Hh) (fun _ _ _ _ _ => rfl) (Nat.zero_le _) (by omega) (by rw [List.append_nil]; exact st)
theorem ok_fresh_one {n lv : Nat} (T : Tx P w K mg) (cH : ClH K CH) (f_raw_leaf : Df P w K mg base 2 "raw_leaf" (spX RW (wfP P w CB fLeaf 3))) (f_half_of : Df P w K mg base 1 "half_of" (spX RW wfHalf)) (f_raw_node : Df P w K mg base 2 "raw_node" (spX RW (wfP P w CB fNode 3)))
    (q_Heads_of : Cf P w K mg base (lv + 3) CH "of" (spX RW (wfHO P w CB CH n))) {f : Addr} {fd : FuncData} (F : FH K "fresh_one" "Heads.fresh_one" s_Heads_fresh_one f fd) : Fn P w K mg base (lv + 4) f fd ["self", "low", "high"] (spX RW (wfHF P w CB CH n)) := by
  refine fn_data F sc_Heads_fresh_one (fun ds s k x h => ?_) fun cv A outer s H G hr gd => ⟨_, (pss_cons (ps_if (pt_cmpR (kEq (K := K) hr) (pe_op op_sub (pv 2) (pv 1)) pe_int (nomark _)) (pss_one (ps_ret (pe_df f_raw_leaf hr (by omega) gd rfl (fun σ => Gl.no_pass σ) (pa_cons (kFld (K := K) (pv 0) rfl) (pa_cons (pe_ix (kIx (K := K)) (kFld (K := K) (pv 0) rfl) (pv 1) (fun _ _ => rfl)) pa_nil))))) pss_nil)
    (pss_cons (ps_set (i := 3) sc_Heads_fresh_one.nd rfl (Or.inl rfl) (pe_op (kAdd (K := K)) (pv 1) (pe_df f_half_of hr (by omega) gd rfl (fun σ => Gl.no_pass σ) (pa_cons (pe_op op_sub (pv 2) (pv 1)) pa_nil))))
    (pss_cons (ps_set (i := 4) sc_Heads_fresh_one.nd rfl (Or.inl rfl) (pe_mtA q_Heads_of hr (by omega) gd (fun σ => Gl.no_pass σ) (pv 0) (pa_cons (pv 1) (pa_cons (pv 3) pa_nil))))
    (pss_one (ps_ret (pe_df f_raw_node hr (by omega) gd rfl (fun σ => Gl.no_pass σ) (pa_cons (kFld (K := K) (pv 0) rfl) (pa_cons (pv 4) (pa_cons (pe_mtA q_Heads_of hr (by omega) gd (fun σ => Gl.no_pass σ) (pv 0) (pa_cons (pv 3) (pa_cons (pv 2) pa_nil))) pa_nil))))))))), ?_⟩
  · match ds, h with
    | [.opq _, .int _, .int _], _ => rfl
  · have c1 := cH.cls
    have c2 := cH.n1
    have c3 := cH.n2
    have c4 := cH.n3
    apply bodyW
    · (first | walk_at "sim" | fail)
    intro ds s k x ok hw
    match ds, hw with
    | [.opq hd, .int _, .int _], ⟨b, r, p, kn, rows, recs, fr, tab, l, h, rfl, rfl, lt, hle, hn, rl, B, Hh, z1, z2, hk⟩ =>
      obtain ⟨⟨dy, h1⟩, h2, t⟩ := id Hh
      simp [h1, h2, lkHB, lkHR, lkHK]
      refine iteP (fun c => ?_) fun c => ?_
      · obtain rfl : h = l + 1 := by omega
        have el : rows[l]? = some rows[l] := List.getElem?_eq_getElem (by omega)
        have ea : atI (rD rows) (l : Int) = some (.int rows[l]) := atI_nat (by rw [rD, List.getElem?_map, el]; rfl)
        rw [ea]
        obtain ⟨more, e1, lm, st⟩ := pLeaf_std el recs
        rw [cst_pos (by omega)] at z1 hk
        refine ⟨r, p, recs, fr, _, B, rfl, by omega, fun s' B' o => ?_⟩
        rw [e1] at B' st
        exact hk s' more tab _ B' (Hh.off B o) o.h (by omega) (by omega) st
      · have lt2 : l + 1 < h := by omega
        obtain ⟨n', en⟩ : ∃ n', n = n' + 1 := by
          cases n with
          | zero => simp at hn; omega
          | succ n' => exact ⟨n', rfl⟩
        have hp := half_pow (m := h - l) (n := n') (by omega) (by rw [← en]; exact hn)
        have p1 := half_pos (h - l)
        have p2 := half_lt (m := h - l) (by omega)
        have c0 : cst (h - l) = 6 * (h - l) - 3 := cst_pos (by omega)
        have c1 : cst (l + half (h - l) - l) = 6 * half (h - l) - 3 := by rw [show l + half (h - l) - l = half (h - l) by omega]; exact cst_pos (by omega)
        have c2 : cst (h - (l + half (h - l))) = 6 * (h - l - half (h - l)) - 3 := by rw [show h - (l + half (h - l)) = h - l - half (h - l) by omega]; exact cst_pos (by omega)
        refine ⟨h - l, by omega, by omega, ?_⟩
        try dsimp only
        rw [h1]
        refine ⟨rfl, noH (by decide), ?_⟩
        rw [show (l : Int) + ((half (h - l) : Nat) : Int) = ((l + half (h - l) : Nat) : Int) by omega]
        refine ⟨b, r, p, kn, rows, recs, fr, tab, l, l + half (h - l), n', rfl, rfl, by omega, by omega, en, by omega, rl, B, Hh, by omega, by omega, fun s1 m1 t1 v1 B1 H1 o1 lm1 lt1 st1 => ?_⟩
        obtain ⟨⟨dy1, g1⟩, g2, g3⟩ := id H1
        try dsimp only
        rw [g1]
        try dsimp only
        rw [lkHB]
        refine ⟨rfl, ?_⟩
        refine ⟨rfl, noH (by decide), ?_⟩
        refine ⟨b, r, p, kn, rows, recs ++ m1, fr, t1, l + half (h - l), h, n', rfl, rfl, by omega, by omega, en, by omega, rl, B1, H1, by rw [List.length_append]; omega, by omega, fun s2 m2 t2 v2 B2 H2 o2 lm2 lt2' st2 => ?_⟩
        obtain ⟨more, e1, lm, st⟩ := pNode_std (recs := recs ++ m1 ++ m2) lt2 st1.app st2
        refine ⟨r, p, recs ++ m1 ++ m2, fr, _, B2, rfl, by simp only [List.length_append]; omega, fun s3 B3 o3 => ?_⟩
        rw [e1] at B3 st
        have ea : recs ++ m1 ++ m2 ++ more = recs ++ (m1 ++ m2 ++ more) := by simp
        have H3 := H2.off (more := more) B2 o3
        rw [ea] at B3 st H3
        exact hk s3 (m1 ++ m2 ++ more) t2 _ B3 H3 ((o1.trans o2).trans o3.h) (by simp only [List.length_append]; omega) (by omega) st
end
end Law
set_option Elab.async false
set_option linter.all false
set_option maxRecDepth 100000
set_option maxHeartbeats 8000000
namespace Law
open PySem PySem.Spec PyProof.Rows L2 Gl Dw


/-- heads of lots of rows by their lots -/
def HsOk (recs : List D) (rows : List Int) (kvs : Tab) : Prop := ∀ (l h : Nat) d, valD kvs [.inl (l : Int), .inl (h : Int)] = some d → ∃ v : Nat, d = .int (v : Int) ∧ Std recs rows l h v
def wfJ (P : Program) (w : World) (CB : Addr) (n : Nat) : WF Rg := fun ds s k _ => match ds with
  | [.opq b, .dit kvs, .int lo, .int hi] => ∃ (r p : Addr) (recs : List D) (fr : Int) (rows : List Int) (l h n' : Nat), lo = l ∧ hi = h ∧ l < h ∧ n = n' + 1 ∧ h - l ≤ 2 ^ n' ∧ h ≤ 1000 ∧ BkAt P w CB b r p recs fr s ∧ HsOk recs rows kvs ∧ Cov (fun l h => (valD kvs [.inl (l : Int), .inl (h : Int)]).isSome = true) l h ∧ ∀ d, Hd recs rows l h d → k d s
  | _ => False
abbrev s_joined : Stmt := top 46
abbrev N_joined : List Str := ["book", "heads", "low", "high", "middle"]
theorem sc_joined : FnScope N_joined ["book", "heads", "low", "high"] (defScope s_joined) := ⟨rfl, rfl, rfl, by decide +kernel, rfl, by decide +kernel, by decide +kernel⟩
section
variable {P : Program} {w : World} {K : PySem.W.Frag} {mg : Str → Option Value} {base : Heap} {CB CH : Addr}
theorem ok_joined {n : Nat} (T : Tx P w K mg) (f_half_of : Df P w K mg base 1 "half_of" (spX RW wfHalf)) (f_node_there : Df P w K mg base 2 "node_there" (spX RW (wfAsk P w CB gNode))) (f_joined : Df P w K mg base (n + 3) "joined" (spX RW (wfJ P w CB n))) {f : Addr} {fd : FuncData} (F : FD K "joined" s_joined f fd) : Fn P w K mg base (n + 4) f fd ["book", "heads", "low", "high"] (spX RW (wfJ P w CB (n + 1))) := by
  refine fn_data F sc_joined (fun ds s k x h => ?_) fun cv A outer s H G hr gd => ⟨_, (pss_cons (ps_if (pt_cmp (pc_din (huB hr) (pe_tup (pa_cons (pv 2) (pa_cons (pv 3) pa_nil))) (pv 1))) (pss_one (ps_ret (pe_dget (huB hr) (pv 1) (pe_tup (pa_cons (pv 2) (pa_cons (pv 3) pa_nil))) (fun _ _ => rfl)))) pss_nil)
    (pss_cons (ps_set (i := 4) sc_joined.nd rfl (Or.inl rfl) (pe_op (kAdd (K := K)) (pv 2) (pe_df f_half_of hr (by omega) gd rfl (fun σ => Gl.no_pass σ) (pa_cons (pe_op op_sub (pv 3) (pv 2)) pa_nil))))
    (pss_one (ps_ret (pe_df f_node_there hr (by omega) gd rfl (fun σ => Gl.no_pass σ) (pa_cons (pv 0) (pa_cons (pe_df f_joined hr (by omega) gd rfl (fun σ => Gl.no_pass σ) (pa_cons (pv 0) (pa_cons (pv 1) (pa_cons (pv 2) (pa_cons (pv 4) pa_nil))))) (pa_cons (pe_df f_joined hr (by omega) gd rfl (fun σ => Gl.no_pass σ) (pa_cons (pv 0) (pa_cons (pv 1) (pa_cons (pv 4) (pa_cons (pv 3) pa_nil))))) pa_nil)))))))), ?_⟩
  · match ds, h with
    | [.opq _, .dit _, .int _, .int _], _ => rfl
  · apply bodyW
    · (first | walk_at "sim" | fail)
    intro ds s k x ok hw
    match ds, hw with
    | [.opq b, .dit kvs, .int _, .int _], ⟨r, p, recs, fr, rows, l, h, n', rfl, rfl, lt, en, hn, hz, B, ho, cv, hk⟩ =>
      simp [dgetR]
      have ky : D.keys [D.int (l : Int), D.int (h : Int)] = some [.inl (l : Int), .inl (h : Int)] := rfl
      rw [ky]
      refine ⟨by decide, ?_⟩
      dsimp only [Option.map]
      cases e : valD kvs [.inl (l : Int), .inl (h : Int)] with
      | some d =>
        obtain ⟨v, rfl, st⟩ := ho l h d e
        exact ite_t rfl ⟨by decide, hk _ (.inl ⟨v, rfl, st⟩)⟩
      | none =>
        refine ite_f (by simp) ?_
        have cv2 : l + 1 < h ∧ Cov (fun l h => (valD kvs [.inl (l : Int), .inl (h : Int)]).isSome = true) l (l + half (h - l)) ∧ Cov (fun l h => (valD kvs [.inl (l : Int), .inl (h : Int)]).isSome = true) (l + half (h - l)) h := by
          cases cv with
          | one q => rw [e] at q; cases q
          | two q1 q2 q3 => exact ⟨q1, q2, q3⟩
        obtain ⟨lt2, cv1, cv3⟩ := cv2
        obtain rfl : n' = n := by omega
        obtain ⟨n', rfl⟩ : ∃ m, n' = m + 1 := by
          cases n' with
          | zero => simp at hn; omega
          | succ m => exact ⟨m, rfl⟩
        have hp := half_pow (m := h - l) (n := n') (by omega) hn
        have p1 := half_pos (h - l)
        have p2 := half_lt (m := h - l) (by omega)
        refine ⟨h - l, by omega, by omega, ?_⟩
        show wfJ P w CB (n' + 1) [D.opq b, D.dit kvs, D.int (l : Int), D.int ((l : Int) + ((half (h - l) : Nat) : Int))] s _ _
        rw [show (l : Int) + ((half (h - l) : Nat) : Int) = ((l + half (h - l) : Nat) : Int) by omega]
        refine ⟨r, p, recs, fr, rows, l, l + half (h - l), n', rfl, rfl, by omega, rfl, by omega, by omega, B, ho, cv1, fun d1 hd1 => ?_⟩
        refine ⟨r, p, recs, fr, rows, l + half (h - l), h, n', rfl, rfl, by omega, rfl, by omega, by omega, B, ho, cv3, fun d2 hd2 => ?_⟩
        exact ⟨r, p, recs, fr, _, B, gNode_of hd1.plain hd2.plain, hk _ (tNode_hd lt2 hd1 hd2)⟩
end
end Law
set_option Elab.async false
set_option linter.all false
set_option maxRecDepth 100000
set_option maxHeartbeats 8000000
namespace Law
open PySem PySem.Spec PyProof.Rows L2 Gl Dw


def lotD (q : Nat × Nat) : D := .tup [.int q.1, .int q.2]
theorem pcs_len (m : Nat) : ∀ (n : Nat) {l h : Nat}, h - l ≤ n → (pcs m l h).length ≤ max 1 (h - l)
  | 0, l, h, hn => by rw [pcs_one (by omega)]; simp; omega
  | n + 1, l, h, hn => by
    by_cases c : h ≤ m ∨ m ≤ l
    · rw [pcs_one c]; simp; omega
    · have p := half_pos (h - l)
      have q := half_lt (m := h - l) (by omega)
      have a := pcs_len m n (l := l) (h := l + half (h - l)) (by omega)
      have b := pcs_len m n (l := l + half (h - l)) (h := h) (by omega)
      rw [pcs_two c, List.length_append]
      omega
def wt (q : Nat × Nat) : Nat := if q.2 ≤ q.1 then 1 else 2 * (q.2 - q.1) - 1
def wts : List (Nat × Nat) → Nat
  | [] => 0
  | q :: r => wt q + wts r
theorem wts_app : ∀ (a b : List (Nat × Nat)), wts (a ++ b) = wts a + wts b
  | [], b => by simp [wts]
  | q :: r, b => by simp [wts, wts_app r b]; omega
theorem wts_len : ∀ (a : List (Nat × Nat)), a.length ≤ wts a
  | [] => Nat.le_refl _
  | q :: r => by
    have := wts_len r
    have : 1 ≤ wt q := by unfold wt; split <;> omega
    simp [wts]; omega
/-- what is still to be told, the last one first -/
def todo (m : Nat) : List (Nat × Nat) → List (Nat × Nat)
  | [] => []
  | q :: r => todo m r ++ pcs m q.1 q.2
theorem todo_app (m : Nat) : ∀ (a b : List (Nat × Nat)), todo m (a ++ b) = todo m b ++ todo m a
  | [], b => by simp [todo]
  | q :: r, b => by simp [todo, todo_app m r b]
def isLt : D → Bool
  | .tup [.int a, .int b] => decide (a < b)
  | _ => false
theorem nil_or_snoc {α : Type} (l : List α) : l = [] ∨ ∃ r q, l = r ++ [q] := by
  rcases List.eq_nil_or_concat l with h | ⟨r, q, h⟩
  · exact .inl h
  · exact .inr ⟨r, q, by rw [h, List.concat_eq_append]⟩
theorem isLt_lot : isLt ∘ lotD = fun q => decide (q.1 < q.2) := by
  funext q
  show decide ((q.1 : Int) < (q.2 : Int)) = decide (q.1 < q.2)
  simp
def lots (m n : Nat) : List (Nat × Nat) := (pcs m 0 n).filter fun q => decide (q.1 < q.2)
def wfPieces {S : Type} : WF S := fun ds s k _ => match ds with
  | [.int m, .int n] => ∃ m' n' : Nat, m = m' ∧ n = n' ∧ n' ≤ 1000 ∧ k (.lst ((lots m' n').map lotD)) s
  | _ => False
abbrev s_pieces : Stmt := top 44
abbrev N_pieces : List Str := ["m", "n", "found", "waiting", "low", "high", "middle", "lot"]
theorem sc_pieces : FnScope N_pieces ["m", "n"] (defScope s_pieces) := ⟨rfl, rfl, rfl, by decide +kernel, rfl, by decide +kernel, by decide +kernel⟩
section
variable {S : Type} {W : Wd S} {P : Program} {w : World} {K : PySem.W.Frag} {mg : Str → Option Value} {base : Heap} {CB : Addr}
theorem ok_pieces (T : Tx P w K mg) (f_half_of : Df P w K mg base 1 "half_of" (spX W wfHalf)) {f : Addr} {fd : FuncData} (F : FD K "pieces" s_pieces f fd) : Fn P w K mg base 2 f fd ["m", "n"] (spX W wfPieces) := by
  refine fn_data F sc_pieces (fun ds s k x h => ?_) fun cv A outer s H G hr gd => ⟨_, (pss_cons (ps_par (i := 2) (j := 3) (by rfl) sc_pieces.nd rfl rfl (by decide) rfl rfl (pa_cons (pe_lst pa_nil) (pa_cons (pe_lst (pa_cons (pe_tup (pa_cons pe_int (pa_cons (pv 1) pa_nil))) pa_nil)) pa_nil)) (by rfl))
    (pss_cons (ps_while (passes_of rfl) (pt_cmpR op_gtX (pe_callB (kLen (K := K)) (by rfl) T.len (by decide +kernel) (pa_cons (pv 3) pa_nil)) pe_int (nomark _)) (pss_cons (ps_asg (pe_bm0 PySem.F.plainAttrs_list PySem.F.slot_list_pop PySem.F.type_list_pop mt_pop (pv 3)) (kTup (K := K) (n := 2) rfl (pgs_cons (pg_name (i := 4) sc_pieces.nd rfl (Or.inl rfl)) (pgs_cons (pg_name (i := 5) sc_pieces.nd rfl (Or.inl rfl)) pgs_nil))))
    (pss_one (ps_if (PW.pt (pw_or (pt_cmpR (kLe (K := K) hr) (pv 5) (pv 0) (nomark _)) (pw_or1 (pt_cmpR op_geX (pv 4) (pv 0) (nomark _))))) (pss_one (ps_expr (pe_bm PySem.F.plainAttrs_list PySem.F.slot_list_append PySem.F.type_list_append mt_append (pv 2) (pa_cons (pe_tup (pa_cons (pv 4) (pa_cons (pv 5) pa_nil))) pa_nil)))) (pss_cons (ps_set (i := 6) sc_pieces.nd rfl (Or.inl rfl) (pe_op (kAdd (K := K)) (pv 4) (pe_df f_half_of hr (by omega) gd rfl (fun σ => Gl.no_pass σ) (pa_cons (pe_op op_sub (pv 5) (pv 4)) pa_nil))))
    (pss_cons (ps_expr (pe_bm PySem.F.plainAttrs_list PySem.F.slot_list_append PySem.F.type_list_append mt_append (pv 3) (pa_cons (pe_tup (pa_cons (pv 6) (pa_cons (pv 5) pa_nil))) pa_nil)))
    (pss_one (ps_expr (pe_bm PySem.F.plainAttrs_list PySem.F.slot_list_append PySem.F.type_list_append mt_append (pv 3) (pa_cons (pe_tup (pa_cons (pv 4) (pa_cons (pv 6) pa_nil))) pa_nil))))))))))
    (pss_one (ps_ret (pe_lc (own := [("lot", 7)]) (g := gName 7) (by rfl) sc_pieces.nd (kpi (K := K) (pv 2)) (blkOk_by (own := [("lot", 7)]) (N := N_pieces) (sc := defScope s_pieces) (by decide +kernel)) (fun _ _ _ _ _ => pg_name (i := 7) sc_pieces.nd rfl (Or.inl rfl)) (fun _ _ _ _ _ => (pts_one (pt_cmpR op_ltX (pe_ix (kIx (K := K)) (pv 7) pe_int (fun _ _ => rfl)) (pe_ix (kIx (K := K)) (pv 7) pe_int (fun _ _ => rfl)) (nomark _)))) (fun _ _ _ _ _ => (pv 7))))))), ?_⟩
  · match ds, h with
    | [.int _, .int _], _ => rfl
  · have z0 := 0
    have ow2 : OwnSl 2 := ⟨⟩
    have ow3 : OwnSl 3 := ⟨⟩
    apply bodyW
    · (first | walk_at "sim" | fail)
    intro ds s k x ok h
    match ds, h with
    | [.int _, .int _], ⟨m, n, rfl, rfl, hn, hk⟩ =>
      have len := pcs_len m n (l := 0) (h := n) (by omega)
      refine cut (fun env t => t = s ∧ ∃ v4 v5 v6 v7, env = [.dat (.int m), .dat (.int n), .own [], .own [lotD (0, n)], v4, v5, v6, v7]) (fun K1 h1 _ _ => ?_) fun env t hI => ?_
      · simp [N_pieces]
        exact ⟨by decide, by decide, h1 _ _ ⟨rfl, _, _, _, _, rfl⟩⟩
      obtain ⟨rfl, v4, v5, v6, v7, rfl⟩ := hI
      refine cut (fun env t' => t' = t ∧ ∃ v4 v5 v6 v7, env = [.dat (.int m), .dat (.int n), .own ((pcs m 0 n).map lotD), .own [], v4, v5, v6, v7]) (fun K1 h1 _ _ => ?_) fun env t' hI => ?_
      · have w0 : wts [(0, n)] ≤ 2 * n + 1 := by simp only [wts, wt]; split <;> omega
        refine wWh_let (fun k env t' => t' = t ∧ ∃ (fs ws : List (Nat × Nat)) (v4 v5 v6 v7 : Sl), env = [.dat (.int m), .dat (.int n), .own (fs.map lotD), .own (ws.map lotD), v4, v5, v6, v7] ∧ fs ++ todo m ws = pcs m 0 n ∧ wts ws = k ∧ wts ws ≤ 2 * n + 1 ∧ ∀ q ∈ ws, q.1 ≤ q.2 ∧ q.2 ≤ n)
          (n := wts [(0, n)]) ⟨rfl, [], [(0, n)], _, _, _, _, rfl, by simp [todo], rfl, w0, fun q hq => by rw [List.mem_singleton.mp hq]; simp⟩ ?_
        rintro L k env t' ih ⟨rfl, fs, ws, v4, v5, v6, v7, rfl, he, rfl, hb, hq⟩
        have lf : fs.length ≤ n + 1 := by
          have := congrArg List.length he
          rw [List.length_append] at this
          omega
        have lw := wts_len ws
        rcases nil_or_snoc ws with rfl | ⟨ws, ⟨l, h⟩, rfl⟩
        · simp
          refine h1 _ _ ⟨rfl, v4, v5, v6, v7, ?_⟩
          simp [todo] at he
          rw [← he]
        · obtain ⟨q1, q2⟩ := hq (l, h) (by simp)
          have hw : wts (ws ++ [(l, h)]) = wts ws + wt (l, h) := by rw [wts_app]; simp [wts]
          have lw2 : ws.length + 1 ≤ wts (ws ++ [(l, h)]) := by simpa using lw
          simp only [todo_app, todo, List.nil_append] at he
          have q1 : l ≤ h := q1
          have q2 : h ≤ n := q2
          have lt1 : wts ws < wts (ws ++ [(l, h)]) := by
            have : 1 ≤ wt (l, h) := by unfold wt; split <;> omega
            omega
          have one : h ≤ m ∨ m ≤ l → (fs ++ [(l, h)]) ++ todo m ws = pcs m 0 n := fun c => by
            rw [pcs_one c] at he
            simpa using he
          have oe : (fs ++ [(l, h)]).map lotD = fs.map lotD ++ [D.tup [D.int l, D.int h]] := by simp [lotD]
          simp [lotD]
          refine iteP (fun c => ?_) fun c => iteP (fun d => ?_) fun d => ?_
          · refine ⟨by decide, by rw [sizeLine_eq]; omega, ?_⟩
            refine ih (wts ws) _ _ lt1 ?_
            refine ⟨rfl, fs ++ [(l, h)], ws, .dat (.int l), .dat (.int h), v6, v7, ?_, one (.inl (by omega)), rfl, by omega, fun q hq' => hq q (by simp [hq'])⟩
            rw [oe]
          · refine ⟨by decide, by rw [sizeLine_eq]; omega, ?_⟩
            refine ih (wts ws) _ _ lt1 ?_
            refine ⟨rfl, fs ++ [(l, h)], ws, .dat (.int l), .dat (.int h), v6, v7, ?_, one (.inr (by omega)), rfl, by omega, fun q hq' => hq q (by simp [hq'])⟩
            rw [oe]
          have cc : ¬ (h ≤ m ∨ m ≤ l) := by omega
          have p := half_pos (h - l)
          have q := half_lt (m := h - l) (by omega)
          have wo : wt (l, h) = 2 * (h - l) - 1 := by unfold wt; rw [if_neg (by show ¬ h ≤ l; omega)]
          have w1 : wt (l + half (h - l), h) = 2 * (h - (l + half (h - l))) - 1 := by unfold wt; rw [if_neg (by show ¬ h ≤ _; omega)]
          have w2 : wt (l, l + half (h - l)) = 2 * half (h - l) - 1 := by unfold wt; rw [if_neg (by show ¬ l + half (h - l) ≤ l; omega)]; simp
          refine ⟨h - l, by omega, by omega, ?_⟩
          show 2 ≤ sizeLine ∧ ws.length < sizeLine ∧ 2 ≤ sizeLine ∧ ws.length + 1 < sizeLine ∧ _
          refine ⟨by decide, by rw [sizeLine_eq]; omega, by decide, by rw [sizeLine_eq]; omega, ?_⟩
          rw [show (l : Int) + ((half (h - l) : Nat) : Int) = ((l + half (h - l) : Nat) : Int) by omega]
          refine ih (wts (ws ++ [(l + half (h - l), h), (l, l + half (h - l))])) _ _ ?_ ⟨rfl, fs, ws ++ [(l + half (h - l), h), (l, l + half (h - l))], .dat (.int l), .dat (.int h), .dat (.int (l + half (h - l))), v7, by simp [lotD], ?_, rfl, ?_, fun q hq' => ?_⟩
          · rw [wts_app, hw]; simp only [wts]; omega
          · rw [todo_app]
            simp only [todo, List.nil_append]
            rw [← he, pcs_two cc]
          · rw [wts_app]; simp only [wts]; omega
          · simp only [List.mem_append, List.mem_cons, List.not_mem_nil, or_false] at hq'
            rcases hq' with hq' | rfl | rfl
            · exact hq q (by simp [hq'])
            · exact ⟨by show l + half (h - l) ≤ h; omega, q2⟩
            · exact ⟨by show l ≤ l + half (h - l); omega, by show l + half (h - l) ≤ n; omega⟩
      obtain ⟨rfl, v4, v5, v6, v7, rfl⟩ := hI
      simp
      refine ⟨by rw [sizeLine_eq]; omega, wLc_pure isLt id (fun d hd kt kf h1 h2 => ?_) ?_⟩
      · obtain ⟨q, _, rfl⟩ := List.mem_map.mp hd
        simp [lotD, at0, at1]
        refine iteP (fun c => h1 (by simp [isLt, lotD]; omega)) fun c => h2 (by simp [isLt, lotD]; omega)
      · rw [List.map_id, List.filter_map, isLt_lot]
        exact hk
end
end Law
set_option Elab.async false
set_option linter.all false
set_option maxRecDepth 100000
set_option maxHeartbeats 8000000
namespace Law
open PySem PySem.Spec PyProof.Rows L2 Gl Dw


abbrev s_is_grown : Stmt := top 47
abbrev N_is_grown : List Str := ["book", "m", "one", "n", "other", "thing", "lots", "head", "heads", "first", "whole"]
theorem sc_is_grown : FnScope N_is_grown ["book", "m", "one", "n", "other", "thing"] (defScope s_is_grown) := ⟨rfl, rfl, rfl, by decide +kernel, rfl, by decide +kernel, by decide +kernel⟩
theorem putD_in {tab : Tab} {k : List Key} {v : D} : ∃ q ∈ putD tab k v, q.1 = k := ⟨(k, v), valD_mem (valD_put tab k v), rfl⟩
theorem putD_keeps {tab : Tab} {k j : List Key} {v : D} (h : ∃ q ∈ tab, q.1 = j) : ∃ q ∈ putD tab k v, q.1 = j := by
  obtain ⟨q, hq, e⟩ := h
  unfold putD
  split
  · by_cases c : q.1 = k
    · exact ⟨_, List.mem_map.mpr ⟨q, hq, if_pos c⟩, e⟩
    · exact ⟨_, List.mem_map.mpr ⟨q, hq, if_neg c⟩, e⟩
  · exact ⟨q, List.mem_append_left _ hq, e⟩
theorem valD_has {tab : Tab} {k : List Key} (h : ∃ q ∈ tab, q.1 = k) : (valD tab k).isSome = true := by
  obtain ⟨q, hq, e⟩ := h
  unfold valD
  rw [Option.isSome_map, List.find?_isSome]
  exact ⟨q, hq, decide_eq_true e⟩
theorem mergeDT_mem : ∀ {more kvs : Tab} {q : List Key × D}, q ∈ mergeDT kvs more → q ∈ kvs ∨ q ∈ more
  | [], kvs, q, h => .inl h
  | p :: r, kvs, q, h => by
    rcases mergeDT_mem (more := r) (kvs := putD kvs p.1 p.2) h with h | h
    · rcases putD_mem h with h | rfl
      · exact .inl h
      · exact .inr (List.mem_cons_self ..)
    · exact .inr (List.mem_cons_of_mem _ h)
theorem mergeDT_has : ∀ {more kvs : Tab} {k : List Key}, (∃ q ∈ kvs, q.1 = k) ∨ (∃ q ∈ more, q.1 = k) → ∃ q ∈ mergeDT kvs more, q.1 = k
  | [], kvs, k, h => by
    rcases h with h | ⟨q, hq, _⟩
    · exact h
    · cases hq
  | p :: r, kvs, k, h => by
    refine mergeDT_has (more := r) (kvs := putD kvs p.1 p.2) ?_
    rcases h with h | ⟨q, hq, e⟩
    · exact .inl (putD_keeps h)
    · rcases List.mem_cons.mp hq with rfl | hq
      · exact .inl (by rw [← e]; exact putD_in)
      · exact .inr ⟨q, hq, e⟩
def keyQ (q : Nat × Nat) : List Key := [.inl (q.1 : Int), .inl (q.2 : Int)]
theorem keysL_lots : ∀ ls : List (Nat × Nat), keysL (ls.map lotD) = some (ls.map keyQ)
  | [] => rfl
  | q :: r => by
    show (D.keys [.int q.1, .int q.2]).bind (fun k => (keysL (r.map lotD)).map (k :: ·)) = _
    rw [keysL_lots r]
    rfl
/-- the dict of the paper -/
theorem paper_ok {recs : List D} {rows : List Int} {m n : Nat} {vs : List Nat} (lv : vs.length = (lots m n).length) (hp : ∀ (i : Nat) (q : Nat × Nat) (v : Nat), (lots m n)[i]? = some q → vs[i]? = some v → Std recs rows q.1 q.2 v) :
    HsOk recs rows (mergeDT [] (((lots m n).map keyQ).zip (vs.map iD))) ∧ ∀ q ∈ lots m n, (valD (mergeDT [] (((lots m n).map keyQ).zip (vs.map iD))) [.inl (q.1 : Int), .inl (q.2 : Int)]).isSome = true := by
  have zm : ∀ {i : Nat} {q : Nat × Nat} {v : Nat}, (lots m n)[i]? = some q → vs[i]? = some v → (((lots m n).map keyQ).zip (vs.map iD))[i]? = some (keyQ q, iD v) := fun {i q v} h1 h2 => by
    rw [List.getElem?_zip_eq_some]
    exact ⟨by rw [List.getElem?_map, h1]; rfl, by rw [List.getElem?_map, h2]; rfl⟩
  refine ⟨fun l hh d e => ?_, fun q hq => valD_has (mergeDT_has (.inr ?_))⟩
  · rcases mergeDT_mem (valD_mem e) with h | h
    · cases h
    · obtain ⟨i, hi⟩ := List.mem_iff_getElem?.mp h
      rw [List.getElem?_zip_eq_some] at hi
      obtain ⟨h1, h2⟩ := hi
      rw [List.getElem?_map] at h1 h2
      obtain ⟨q, e1, e2⟩ := Option.map_eq_some_iff.mp h1
      obtain ⟨v, e3, e4⟩ := Option.map_eq_some_iff.mp h2
      have st := hp i q v e1 e3
      simp only [keyQ, List.cons.injEq, Sum.inl.injEq, and_true] at e2
      exact ⟨v, e4.symm, by
        rw [show l = q.1 by omega]
        rw [show hh = q.2 by omega]
        exact st⟩
  · obtain ⟨i, hi⟩ := List.mem_iff_getElem?.mp hq
    have lt : i < vs.length := by
      rw [lv]
      exact (List.getElem?_eq_some_iff.mp hi).1
    exact ⟨_, List.mem_iff_getElem?.mpr ⟨i, zm hi (List.getElem?_eq_getElem lt)⟩, rfl⟩
/-- what is_grown asks -/
def grE (b : Addr) (rows1 rows2 : List Int) (u1 u2 : Nat) (vs : List Nat) (v6 v7 v8 v9 v10 : Sl) : List Sl := [.dat (.opq b), .dat (.int (rows1.length : Nat)), .dat (.int (u1 : Nat)), .dat (.int (rows2.length : Nat)), .dat (.int (u2 : Nat)), .dat (.tup (vs.map iD)), v6, v7, v8, v9, v10]
theorem eq_head {recs : List D} {rows rows1 : List Int} {m u : Nat} {d : D} (hm : m = rows1.length) (hd : Hd recs rows 0 m d) (s1 : Std recs rows1 0 m u) (le : m ≤ rows.length) : d.eqs (.int u) = some (decide (rows.take m = rows1)) := by
  have key : Std recs rows 0 m u ↔ rows.take m = rows1 := by
    constructor
    · intro s
      obtain ⟨_, h⟩ := s.inj s1
      refine List.ext_getElem? fun i => ?_
      rw [List.getElem?_take]
      split
      · rename_i c
        have := h i (by omega)
        rw [Nat.zero_add] at this
        exact this
      · rename_i c
        rw [List.getElem?_eq_none (by omega)]
    · intro e
      refine s1.cong fun i _ h => ?_
      rw [← e, List.getElem?_take, if_pos h]
  rcases hd with ⟨v, rfl, st⟩ | ⟨rfl, st⟩
  · simp only [D.eqs, Option.some.injEq, decide_eq_decide]
    rw [← key]
    constructor
    · intro e
      rw [show u = v by omega]
      exact st
    · intro s
      rw [st.uniq s]
  · simp only [D.eqs, Option.some.injEq]
    exact (decide_eq_false fun e => st _ (key.mpr e)).symm
/-- a right paper: m of rows2's entries are rows1 -/
def wfGr (P : Program) (w : World) (CB : Addr) : WF Rg := fun ds s k _ => match ds with
  | [.opq b, .int m, .int v1, .int n, .int v2, .tup ps] => ∃ (r p : Addr) (recs : List D) (fr : Int) (rows1 rows2 : List Int) (u1 u2 : Nat) (vs : List Nat), m = (rows1.length : Nat) ∧ n = (rows2.length : Nat) ∧ rows1.length ≤ rows2.length ∧ rows2.length ≤ 64 ∧ v1 = (u1 : Nat) ∧ v2 = (u2 : Nat) ∧ BkAt P w CB b r p recs fr s ∧ Std recs rows1 0 rows1.length u1 ∧ Std recs rows2 0 rows2.length u2 ∧
    ps = vs.map iD ∧ vs.length = (lots rows1.length rows2.length).length ∧ (∀ (i : Nat) (q : Nat × Nat) (v : Nat), (lots rows1.length rows2.length)[i]? = some q → vs[i]? = some v → Std recs rows2 q.1 q.2 v) ∧ k (.bl (decide (rows2.take rows1.length = rows1))) s
  | _ => False
section
variable {P : Program} {w : World} {K : PySem.W.Frag} {mg : Str → Option Value} {base : Heap} {CB CH : Addr}
theorem ok_is_grown (T : Tx P w K mg) (f_is_count : Df P w K mg base 2 "is_count" (spX RW wfCount)) (f_is_within : Df P w K mg base 2 "is_within" (spX RW wfIn)) (q_Book_is_number : Cf P w K mg base 3 CB "is_number" (spX RW (wfIsN P w CB))) (f_pieces : Df P w K mg base 2 "pieces" (spX RW wfPieces))
    (f_joined : Df P w K mg base 10 "joined" (spX RW (wfJ P w CB 7))) (f_empty_there : Df P w K mg base 2 "empty_there" (spX RW (wfAsk P w CB gEmpty))) {f : Addr} {fd : FuncData} (F : FD K "is_grown" s_is_grown f fd) : Fn P w K mg base 11 f fd ["book", "m", "one", "n", "other", "thing"] (spX RW (wfGr P w CB)) := by
  refine fn_data F sc_is_grown (fun ds s k x h => ?_) fun cv A outer s H G hr gd => ⟨_, (pss_cons (ps_if (PW.pt (pw_or (pt_not (pt_val (pe_df f_is_count hr (by omega) gd rfl (fun σ => Gl.no_pass σ) (pa_cons (pv 3) pa_nil)))) (pw_or (pt_not (pt_val (pe_df f_is_within hr (by omega) gd rfl (fun σ => Gl.no_pass σ) (pa_cons (pv 1) (pa_cons pe_int (pa_cons (pv 3) pa_nil)))))) (pw_or (pt_not (pt_val (pe_mtA q_Book_is_number hr (by omega) gd (fun σ => Gl.no_pass σ) (pv 0) (pa_cons (pv 2) pa_nil)))) (pw_or1 (pt_not (pt_val (pe_mtA q_Book_is_number hr (by omega) gd (fun σ => Gl.no_pass σ) (pv 0) (pa_cons (pv 4) pa_nil))))))))) (pss_one (ps_ret pe_bl)) pss_nil)
    (pss_cons (ps_set (i := 6) sc_is_grown.nd rfl (Or.inl rfl) (pe_df f_pieces hr (by omega) gd rfl (fun σ => Gl.no_pass σ) (pa_cons (pv 1) (pa_cons (pv 3) pa_nil))))
    (pss_cons (ps_if (PW.pt (pw_or (pt_not (pt_val (pe_callB (kIsi (K := K)) (by rfl) T.isinstance (by decide +kernel) (pa_cons (pv 5) (pa_cons (pe_bltn (v := .ty "tuple") (by rfl) T.tuple (by decide +kernel) rfl) pa_nil))))) (pw_or (pt_cmpR (kNe (K := K) hr) (pe_callB (kLen (K := K)) (by rfl) T.len (by decide +kernel) (pa_cons (pv 5) pa_nil)) (pe_callB (kLen (K := K)) (by rfl) T.len (by decide +kernel) (pa_cons (pv 6) pa_nil)) (nomark _)) (pw_or1 (pt_not (pt_val (pe_callB (kAll (K := K) rfl) (by rfl) T.all (by decide +kernel) (pa_cons (pe_lc (own := [("head", 7)]) (g := gName 7) (by rfl) sc_is_grown.nd (kpi (K := K) (pv 5)) (blkOk_by (own := [("head", 7)]) (N := N_is_grown) (sc := defScope s_is_grown) (by decide +kernel)) (fun _ _ _ _ _ => pg_name (i := 7) sc_is_grown.nd rfl (Or.inl rfl)) (fun _ _ _ _ _ => pts_nil) (fun _ _ _ _ _ => (pe_mtA q_Book_is_number hr (by omega) gd (fun σ => Gl.no_pass σ) (pv 0) (pa_cons (pv 7) pa_nil)))) pa_nil)))))))) (pss_one (ps_ret pe_bl)) pss_nil)
    (pss_cons (ps_set (i := 8) sc_is_grown.nd rfl (Or.inl rfl) (pe_dictZ (huN hr) (by rfl) T.dict (by rfl) T.zip (pa_cons (pv 6) (pa_cons (pv 5) pa_nil))))
    (pss_cons (ps_set (i := 9) sc_is_grown.nd rfl (Or.inl rfl) (pe_ifExp (pt_cmpR op_gtX (pv 1) pe_int (nomark _)) (pe_df f_joined hr (by omega) gd rfl (fun σ => Gl.no_pass σ) (pa_cons (pv 0) (pa_cons (pv 8) (pa_cons pe_int (pa_cons (pv 1) pa_nil))))) (pe_df f_empty_there hr (by omega) gd rfl (fun σ => Gl.no_pass σ) (pa_cons (pv 0) pa_nil))))
    (pss_cons (ps_set (i := 10) sc_is_grown.nd rfl (Or.inl rfl) (pe_ifExp (pt_cmpR op_gtX (pv 3) pe_int (nomark _)) (pe_df f_joined hr (by omega) gd rfl (fun σ => Gl.no_pass σ) (pa_cons (pv 0) (pa_cons (pv 8) (pa_cons pe_int (pa_cons (pv 3) pa_nil))))) (pe_df f_empty_there hr (by omega) gd rfl (fun σ => Gl.no_pass σ) (pa_cons (pv 0) pa_nil))))
    (pss_one (ps_ret (pe_and (pe_cmpR (kEq (K := K) hr) (pv 9) (pv 2) (nomark _)) (pe_one (pe_cmpR (kEq (K := K) hr) (pv 10) (pv 4) (nomark _)))))))))))), ?_⟩
  · match ds, h with
    | [.opq _, .int _, .int _, .int _, .int _, .tup _], _ => rfl
  · apply bodyW
    · (first | walk_at "sim" | fail)
    intro ds s k x ok h
    match ds, h with
    | [.opq b, .int _, .int _, .int _, .int _, .tup _], ⟨r, p, recs, fr, rows1, rows2, u1, u2, vs, rfl, rfl, le, hz, rfl, rfl, B, s1, s2, rfl, lv, hp, hk⟩ =>
      have hb : ∃ dx, s b = some (.ins CB dx (bkFs r p fr)) := by
        obtain ⟨dx, xs, hb, _⟩ := B
        exact ⟨dx, hb⟩
      obtain ⟨dx, hb⟩ := hb
      obtain ⟨hs, hL⟩ := paper_ok lv hp
      have hL' : ∀ q ∈ pcs rows1.length 0 rows2.length, q.1 < q.2 → (valD (mergeDT [] (((lots rows1.length rows2.length).map keyQ).zip (vs.map iD))) [.inl (q.1 : Int), .inl (q.2 : Int)]).isSome = true := fun q hq lt => hL q (List.mem_filter.mpr ⟨hq, decide_eq_true lt⟩)
      have w1 := s1.lt
      have w2 := s2.lt
      refine cut (fun env t => t = s ∧ ∃ v6 v7 v8 v9 v10, env = grE b rows1 rows2 u1 u2 vs v6 v7 v8 v9 v10) (fun K1 h1 _ _ => ?_) fun env t hI => ?_
      · simp [wfCount, wfIn, isIn, hb, wfIsN, D.pl]
        exact ite_f (by omega) ⟨noM (by decide), r, p, recs, ⟨fr, B⟩, ite_f (by omega) ⟨noM (by decide), r, p, recs, ⟨fr, B⟩, ite_f (by omega) (h1 _ _ ⟨rfl, _, _, _, _, _, rfl⟩)⟩⟩
      obtain ⟨rfl, v6, v7, v8, v9, v10, rfl⟩ := hI
      refine cut (fun env t' => t' = t ∧ ∃ v7 v8 v9 v10, env = grE b rows1 rows2 u1 u2 vs (.dat (.lst ((lots rows1.length rows2.length).map lotD))) v7 v8 v9 v10) (fun K1 h1 _ _ => ?_) fun env t' hI => ?_
      · simp [wfPieces, grE]
        exact ⟨_, rfl, _, rfl, by omega, h1 _ _ ⟨rfl, _, _, _, _, rfl⟩⟩
      obtain ⟨rfl, v7, v8, v9, v10, rfl⟩ := hI
      refine cut (fun env t => t = t' ∧ ∃ v7 v8 v9 v10, env = grE b rows1 rows2 u1 u2 vs (.dat (.lst ((lots rows1.length rows2.length).map lotD))) v7 v8 v9 v10) (fun K1 h1 _ _ => ?_) fun env t hI => ?_
      · simp [grE, lv]
        refine ⟨by decide, by rw [sizeLine_eq]; have := pcs_len rows1.length rows2.length (l := 0) (h := rows2.length) (by omega); have : (lots rows1.length rows2.length).length ≤ (pcs rows1.length 0 rows2.length).length := List.length_filter_le _ _; omega, wLc_map (fun _ => .bl true) (fun d hd kt hk' => ?_) ?_⟩
        · obtain ⟨v, hv, rfl⟩ := List.mem_map.mp hd
          obtain ⟨i, hi⟩ := List.mem_iff_getElem?.mp hv
          have lt : i < (lots rows1.length rows2.length).length := by
            rw [← lv]
            exact (List.getElem?_eq_some_iff.mp hi).1
          have st := (hp i _ v (List.getElem?_eq_getElem lt) hi).lt
          simp [hb, wfIsN, D.pl, isIn]
          refine ⟨noM (by decide), r, p, recs, ⟨fr, B⟩, ?_⟩
          have e : decide ((v : Int) ≤ (recs.length : Int) - 1) = true := by
            rw [decide_eq_true_eq]
            omega
          rw [e]
          exact hk'
        · simp
          exact ⟨_, bls_map (fun _ => true) vs, ite_f (by simp) (h1 _ _ ⟨rfl, _, _, _, _, rfl⟩)⟩
      obtain ⟨rfl, v7, v8, v9, v10, rfl⟩ := hI
      refine cut (fun env t' => t' = t ∧ ∃ v7 v9 v10, env = grE b rows1 rows2 u1 u2 vs (.dat (.lst ((lots rows1.length rows2.length).map lotD))) v7 (.dat (.dit (mergeDT [] (((lots rows1.length rows2.length).map keyQ).zip (vs.map iD))))) v9 v10) (fun K1 h1 _ _ => ?_) fun env t' hI => ?_
      · simp [grE, lv, keysL_lots]
        exact h1 _ _ ⟨rfl, _, _, _, rfl⟩
      obtain ⟨rfl, v7, v9, v10, rfl⟩ := hI
      refine cut (fun env t => t = t' ∧ ∃ v7 v10 d1, Hd recs rows2 0 rows1.length d1 ∧ env = grE b rows1 rows2 u1 u2 vs (.dat (.lst ((lots rows1.length rows2.length).map lotD))) v7 (.dat (.dit (mergeDT [] (((lots rows1.length rows2.length).map keyQ).zip (vs.map iD))))) (.dat d1) v10) (fun K1 h1 _ _ => ?_) fun env t hI => ?_
      · simp [grE]
        refine iteP (fun c => ?_) fun c => ?_
        · exact ⟨r, p, recs, fr, rows2, 0, rows1.length, 6, rfl, rfl, c, rfl, by omega, by omega, B, hs, cov_cut rows2.length (by omega) c le hL', fun d hd => h1 _ _ ⟨rfl, _, _, d, hd, rfl⟩⟩
        · refine ⟨r, p, recs, fr, _, B, rfl, h1 _ _ ⟨rfl, _, _, _, ?_, rfl⟩⟩
          rw [show rows1.length = 0 by omega]
          exact tEmpty_hd recs rows2 0
      obtain ⟨rfl, v7, v10, d1, hd1, rfl⟩ := hI
      refine cut (fun env t' => t' = t ∧ ∃ v7 d2, Hd recs rows2 0 rows2.length d2 ∧ env = grE b rows1 rows2 u1 u2 vs (.dat (.lst ((lots rows1.length rows2.length).map lotD))) v7 (.dat (.dit (mergeDT [] (((lots rows1.length rows2.length).map keyQ).zip (vs.map iD))))) (.dat d1) (.dat d2)) (fun K1 h1 _ _ => ?_) fun env t' hI => ?_
      · simp [grE]
        refine iteP (fun c => ?_) fun c => ?_
        · exact ⟨r, p, recs, fr, rows2, 0, rows2.length, 6, rfl, rfl, c, rfl, by omega, by omega, B, hs, cov_all rows2.length (by omega) c hL', fun d hd => h1 _ _ ⟨rfl, _, d, hd, rfl⟩⟩
        · refine ⟨r, p, recs, fr, _, B, rfl, h1 _ _ ⟨rfl, _, _, ?_, rfl⟩⟩
          rw [show rows2.length = 0 by omega]
          exact tEmpty_hd recs rows2 0
      obtain ⟨rfl, v7, d2, hd2, rfl⟩ := hI
      have e1 := eq_head rfl hd1 s1 le
      have e2 : d2 = .int (u2 : Nat) := hd2.of s2
      subst e2
      have e3 : (D.int (u2 : Nat)).eqs (.int (u2 : Nat)) = some true := by simp [D.eqs]
      simp [grE, e1, e3, -D.eqs]
      by_cases c : rows2.take rows1.length = rows1
      · rw [if_pos c]
        simpa [c] using hk
      · rw [if_neg c]
        simpa [c] using hk
end
end Law
set_option Elab.async false
set_option linter.all false
set_option maxRecDepth 100000
set_option maxHeartbeats 4000000
namespace Law
open PySem PySem.Spec PyProof.Rows L2 Gl Dw
/-! a watch, as it stands -/
inductive Al {α β : Type} (R : α → β → Prop) : List α → List β → Prop
  | nil : Al R [] []
  | cons {a : α} {b : β} {as : List α} {bs : List β} : R a b → Al R as bs → Al R (a :: as) (b :: bs)
section
variable {α β : Type} {R R' : α → β → Prop}
theorem Al.len : ∀ {as : List α} {bs : List β}, Al R as bs → as.length = bs.length
  | _, _, .nil => rfl
  | _, _, .cons _ t => by rw [List.length_cons, List.length_cons, t.len]
theorem Al.get : ∀ {as : List α} {bs : List β} {i : Nat} {a : α}, Al R as bs → as[i]? = some a → ∃ b, bs[i]? = some b ∧ R a b
  | _, _, 0, _, .cons h _, e => by
    cases e
    exact ⟨_, rfl, h⟩
  | _, _, i + 1, x, .cons _ t, e => t.get (i := i) (a := x) (by simpa using e)
  | _, _, _, _, .nil, e => by cases e
theorem Al.get' : ∀ {as : List α} {bs : List β} {i : Nat} {b : β}, Al R as bs → bs[i]? = some b → ∃ a, as[i]? = some a ∧ R a b
  | _, _, 0, _, .cons h _, e => by
    cases e
    exact ⟨_, rfl, h⟩
  | _, _, i + 1, x, .cons _ t, e => t.get' (i := i) (b := x) (by simpa using e)
  | _, _, _, _, .nil, e => by cases e
theorem Al.imp : ∀ {as : List α} {bs : List β}, Al R as bs → (∀ a b, a ∈ as → R a b → R' a b) → Al R' as bs
  | _, _, .nil, _ => .nil
  | _, _, .cons h t, f => .cons (f _ _ (List.mem_cons_self ..) h) (t.imp fun a b m => f a b (List.mem_cons_of_mem _ m))
theorem Al.snoc : ∀ {as : List α} {bs : List β} {a : α} {b : β}, Al R as bs → R a b → Al R (as ++ [a]) (bs ++ [b])
  | _, _, _, _, .nil, h => .cons h .nil
  | _, _, _, _, .cons a t, h => .cons a (t.snoc h)
theorem Al.take : ∀ {as : List α} {bs : List β} (n : Nat), Al R as bs → Al R (as.take n) (bs.take n)
  | _, _, 0, _ => .nil
  | _, _, n + 1, .nil => .nil
  | _, _, n + 1, .cons a t => .cons a (t.take n)
theorem Al.upd : ∀ {as : List α} {bs : List β} {i : Nat} {a : α} {b' : β}, Al R as bs → as[i]? = some a → as.Nodup → (∀ x y, x ∈ as → x ≠ a → R x y → R' x y) → R' a b' → Al R' as (bs.set i b')
  | _, _, 0, a, b', .cons h t, e, nd, f, g => by
    cases e
    rw [List.nodup_cons] at nd
    exact .cons g (t.imp fun x y m r => f x y (List.mem_cons_of_mem _ m) (fun z => nd.1 (z ▸ m)) r)
  | _, _, i + 1, a, b', .cons (a := c) (as := as) h t, e, nd, f, g => by
    rw [List.nodup_cons] at nd
    have e' : as[i]? = some a := by simpa using e
    exact .cons (f _ _ (List.mem_cons_self ..) (fun z => nd.1 (z ▸ List.mem_of_getElem? e')) h) (t.upd e' nd.2 (fun x y m n r => f x y (List.mem_cons_of_mem _ m) n r) g)
  | _, _, _, _, _, .nil, e, _, _, _ => by cases e
end
structure Acc where
  many : Nat
  liars : List Nat
  liar : Bool
  logs : List (List Str)
  told : List (List Str)
  sgn : List (List Nat)
  acc : List (List Nat)
structure AccOk (A : Acc) (t : Nat) : Prop where
  m1 : 1 ≤ A.many
  m2 : A.many ≤ 9
  l1 : A.logs.length ≤ t + 1
  l2 : ∀ xs ∈ A.logs, xs.length ≤ t
  t1 : A.told.length ≤ t
  t2 : ∀ xs ∈ A.told, xs.length ≤ t
  s1 : A.sgn.length = A.many
  s2 : ∀ g ∈ A.sgn, g.length ≤ t ∧ ∀ i ∈ g, i < A.told.length
  a1 : A.acc.length = 10
  a2 : ∀ g ∈ A.acc, g.length ≤ t ∧ ∀ i ∈ g, i < A.told.length
structure Wad where
  b : Addr
  r : Addr
  p : Addr
  wk : Addr
  ra : Addr
  sa : Addr
  ga : Addr
  ta : Addr
  Ls : List Addr
  Ss : List Addr
  Gs : List Addr
  Ts : List Addr
  key : Int
  wks : List Int
  recs : List D
  fr : Int
def Wad.fix (wa : Addr) (W : Wad) : List Addr := [wa, W.b, W.r, W.p, W.wk, W.ra, W.sa, W.ga, W.ta]
def Wad.all (wa : Addr) (W : Wad) : List Addr := W.fix wa ++ (W.Ls ++ (W.Ss ++ (W.Gs ++ W.Ts)))
def wtFs (A : Acc) (W : Wad) : List (Str × D) := [("witness_count", .int A.many), ("liars", .tup (A.liars.map iD)), ("is_liar", .bl A.liar), ("pages", .opq W.b), ("key", .int W.key), ("witness_keys", .opq W.wk), ("rows", .opq W.ra), ("statements", .opq W.sa), ("signs", .opq W.ga), ("taken", .opq W.ta)]
def stFs (ns : List Int) (v m : Nat) : List (Str × D) := [("rows", .tup (rD ns)), ("top", .int v), ("mark", .int m)]
def NmN (recs : List D) (n : Int) (x : Str) : Prop := ∃ i : Nat, n = i ∧ ixOf recs (eD "name" [.str x]) = some i
def LogAt (recs : List D) (s : Rg) (c : Addr) (xs : List Str) : Prop := ∃ ns, s c = some (.lst (rD ns)) ∧ Al (NmN recs) ns xs
def StAt (CS : Addr) (recs : List D) (s : Rg) (c : Addr) (xs : List Str) : Prop := ∃ dx ns v m, s c = some (.ins CS dx (stFs ns v m)) ∧ Al (NmN recs) ns xs ∧ Std recs ns 0 ns.length v
def NatAt (s : Rg) (c : Addr) (is : List Nat) : Prop := s c = some (.lst (is.map iD))
def opqs (as : List Addr) : List D := as.map D.opq
structure WatW (P : Program) (w : World) (CB CS CW wa : Addr) (A : Acc) (t u : Nat) (W : Wad) (s : Rg) : Prop where
  ok : AccOk A t
  ins : ∃ dx, s wa = some (.ins CW dx (wtFs A W))
  bk : BkAt P w CB W.b W.r W.p W.recs W.fr s
  bz : W.recs.length ≤ 20 + 1000 * u
  wk1 : s W.wk = some (.lst (rD W.wks))
  wk2 : W.wks.length = A.many
  lg1 : s W.ra = some (.lst (opqs W.Ls))
  lg2 : Al (LogAt W.recs s) W.Ls A.logs
  st1 : s W.sa = some (.lst (opqs W.Ss))
  st2 : Al (StAt CS W.recs s) W.Ss A.told
  sg1 : s W.ga = some (.lst (opqs W.Gs))
  sg2 : Al (NatAt s) W.Gs A.sgn
  tk1 : s W.ta = some (.lst (opqs W.Ts))
  tk2 : Al (NatAt s) W.Ts A.acc
  nd : (W.all wa).Nodup
structure Apart (wa : Addr) (W : Wad) : Prop where
  f : (W.fix wa).Nodup
  l : W.Ls.Nodup
  s : W.Ss.Nodup
  g : W.Gs.Nodup
  t : W.Ts.Nodup
  fl : ∀ a ∈ W.fix wa, ∀ b ∈ W.Ls, a ≠ b
  fs : ∀ a ∈ W.fix wa, ∀ b ∈ W.Ss, a ≠ b
  fg : ∀ a ∈ W.fix wa, ∀ b ∈ W.Gs, a ≠ b
  ft : ∀ a ∈ W.fix wa, ∀ b ∈ W.Ts, a ≠ b
  ls : ∀ a ∈ W.Ls, ∀ b ∈ W.Ss, a ≠ b
  lg : ∀ a ∈ W.Ls, ∀ b ∈ W.Gs, a ≠ b
  lt : ∀ a ∈ W.Ls, ∀ b ∈ W.Ts, a ≠ b
  sg : ∀ a ∈ W.Ss, ∀ b ∈ W.Gs, a ≠ b
  st : ∀ a ∈ W.Ss, ∀ b ∈ W.Ts, a ≠ b
  gt : ∀ a ∈ W.Gs, ∀ b ∈ W.Ts, a ≠ b
theorem apart {wa : Addr} {W : Wad} (h : (W.all wa).Nodup) : Apart wa W := by
  unfold Wad.all at h
  simp only [List.nodup_append, List.mem_append] at h
  obtain ⟨f, ⟨l, ⟨s, ⟨g, t, gt⟩, sx⟩, lx⟩, fx⟩ := h
  exact ⟨f, l, s, g, t, fun a ha b hb => fx a ha b (.inl hb), fun a ha b hb => fx a ha b (.inr (.inl hb)), fun a ha b hb => fx a ha b (.inr (.inr (.inl hb))), fun a ha b hb => fx a ha b (.inr (.inr (.inr hb))),
    fun a ha b hb => lx a ha b (.inl hb), fun a ha b hb => lx a ha b (.inr (.inl hb)), fun a ha b hb => lx a ha b (.inr (.inr hb)), fun a ha b hb => sx a ha b (.inl hb), fun a ha b hb => sx a ha b (.inr hb), gt⟩
/-- all that stood stands, but X -/
def Fm (X : List Addr) (s s' : Rg) : Prop := ∀ x, s x ≠ none → x ∉ X → s' x = s x
theorem Fm.refl {X : List Addr} {s : Rg} : Fm X s s := fun _ _ _ => rfl
theorem Fm.trans {X : List Addr} {s t u : Rg} (h : Fm X s t) (g : Fm X t u) : Fm X s u := fun x n m => (g x (by rw [h x n m]; exact n) m).trans (h x n m)
theorem Fm.sub {X Y : List Addr} {s t : Rg} (h : Fm X s t) (q : ∀ x ∈ X, x ∈ Y) : Fm Y s t := fun x n m => h x n fun z => m (q x z)
theorem Fm.put {X : List Addr} {s : Rg} {a : Addr} {o : Mo} (h : a ∈ X) : Fm X s (rup s a o) := fun x _ m => rup_ne fun z => m (z ▸ h)
theorem Fm.new {X : List Addr} {s : Rg} {a : Addr} {o : Mo} (h : s a = none) : Fm X s (rup s a o) := fun x n _ => rup_ne fun z => n (z ▸ h)
theorem Fm.at {X : List Addr} {s t : Rg} {a : Addr} {o : Mo} (h : Fm X s t) (e : s a = some o) (n : a ∉ X) : t a = some o := (h a (by rw [e]; simp) n).trans e
/-- all that a watch stands on, stands -/
theorem WatW.there {P : Program} {w : World} {CB CS CW wa : Addr} {A : Acc} {t u : Nat} {W : Wad} {s : Rg} (h : WatW P w CB CS CW wa A t u W s) : ∀ x ∈ W.all wa, s x ≠ none := fun x hx => by
  obtain ⟨dx, e⟩ := h.ins
  obtain ⟨dy, xs, b1, b2, b3, _⟩ := h.bk
  simp only [Wad.all, Wad.fix, List.mem_append, List.mem_cons, List.not_mem_nil, or_false] at hx
  have al : ∀ {α : Type} {R : Addr → α → Prop} {as : List Addr} {bs : List α}, Al R as bs → (∀ a b, R a b → s a ≠ none) → x ∈ as → s x ≠ none := fun hl f m => by
    obtain ⟨i, hi⟩ := List.mem_iff_getElem?.mp m
    obtain ⟨b, _, r⟩ := hl.get hi
    exact f _ _ r
  rcases hx with (rfl | rfl | rfl | rfl | rfl | rfl | rfl | rfl | rfl) | m | m | m | m
  · rw [e]; simp
  · rw [b1]; simp
  · rw [b2]; simp
  · rw [b3]; simp
  · rw [h.wk1]; simp
  · rw [h.lg1]; simp
  · rw [h.st1]; simp
  · rw [h.sg1]; simp
  · rw [h.tk1]; simp
  · exact al h.lg2 (fun a b ⟨ns, e, _⟩ => by rw [e]; simp) m
  · exact al h.st2 (fun a b ⟨dx, ns, v, k, e, _⟩ => by rw [e]; simp) m
  · exact al h.sg2 (fun a b e => by rw [show s a = _ from e]; simp) m
  · exact al h.tk2 (fun a b e => by rw [show s a = _ from e]; simp) m
/-- from a watch to itself later: it changes itself alone, and grows by what is new -/
def Nxt (wa : Addr) (W W' : Wad) (s s' : Rg) : Prop := Fm (W.all wa) s s' ∧ ∀ x ∈ W'.all wa, x ∈ W.all wa ∨ s x = none
theorem Nxt.refl {wa : Addr} {W : Wad} {s : Rg} : Nxt wa W W s s := ⟨.refl, fun _ h => .inl h⟩
theorem Nxt.trans {wa : Addr} {W W' W'' : Wad} {s s' s'' : Rg} (h : Nxt wa W W' s s') (g : Nxt wa W' W'' s' s'') : Nxt wa W W'' s s'' := by
  refine ⟨fun x n m => ?_, fun x hx => ?_⟩
  · have e := h.1 x n m
    refine (g.1 x (by rw [e]; exact n) fun z => ?_).trans e
    rcases h.2 x z with q | q
    · exact m q
    · exact n q
  · rcases g.2 x hx with q | q
    · exact h.2 x q
    · by_cases c : x ∈ W.all wa
      · exact .inl c
      · cases e : s x with
        | none => exact .inr rfl
        | some o =>
          rw [h.1 x (by rw [e]; simp) c, e] at q
          cases q
section
variable {recs more : List D} {s s' : Rg} {c : Addr}
theorem NmN.app {n : Int} {x : Str} (h : NmN recs n x) : NmN (recs ++ more) n x := by
  obtain ⟨i, e, q⟩ := h
  exact ⟨i, e, ix_app q⟩
theorem LogAt.app {xs : List Str} (h : LogAt recs s c xs) (e : s' c = s c) : LogAt (recs ++ more) s' c xs := by
  obtain ⟨ns, q, l⟩ := h
  exact ⟨ns, by rw [e]; exact q, l.imp fun _ _ _ h => h.app⟩
theorem LogAt.mv {xs : List Str} (h : LogAt recs s c xs) (e : s' c = s c) : LogAt recs s' c xs := by
  obtain ⟨ns, q, l⟩ := h
  exact ⟨ns, by rw [e]; exact q, l⟩
theorem StAt.app {CS : Addr} {xs : List Str} (h : StAt CS recs s c xs) (e : s' c = s c) : StAt CS (recs ++ more) s' c xs := by
  obtain ⟨dx, ns, v, m, q, l, st⟩ := h
  exact ⟨dx, ns, v, m, by rw [e]; exact q, l.imp fun _ _ _ h => h.app, st.app⟩
theorem StAt.mv {CS : Addr} {xs : List Str} (h : StAt CS recs s c xs) (e : s' c = s c) : StAt CS recs s' c xs := by
  obtain ⟨dx, ns, v, m, q, l, st⟩ := h
  exact ⟨dx, ns, v, m, by rw [e]; exact q, l, st⟩
theorem NatAt.mv {is : List Nat} (h : NatAt s c is) (e : s' c = s c) : NatAt s' c is := by
  unfold NatAt
  rw [e]
  exact h
theorem LogAt.ne {xs : List Str} (h : LogAt recs s c xs) : s c ≠ none := by
  obtain ⟨ns, q, l⟩ := h
  rw [q]; simp
theorem StAt.ne {CS : Addr} {xs : List Str} (h : StAt CS recs s c xs) : s c ≠ none := by
  obtain ⟨dx, ns, v, m, q, _⟩ := h
  rw [q]; simp
theorem NatAt.ne {is : List Nat} (h : NatAt s c is) : s c ≠ none := by
  rw [show s c = _ from h]; simp
end
def Acc.add (A : Acc) (i : Nat) (x : Str) : Acc := { A with logs := A.logs.set i (A.logs.getD i [] ++ [x]) }
def Acc.branch (A : Acc) (i n : Nat) : Acc := { A with logs := A.logs ++ [(A.logs.getD i []).take n] }
def Acc.sign (A : Acc) (i : Nat) : Acc := { A with told := A.told ++ [A.logs.getD i []] }
def Acc.show (A : Acc) (st i : Nat) : Acc := { A with sgn := A.sgn.set i (A.sgn.getD i [] ++ [st]) }
def Acc.take (A : Acc) (c st : Nat) : Acc := { A with acc := A.acc.set c (A.acc.getD c [] ++ [st]) }
section
variable {P : Program} {w : World} {CB CS CW wa : Addr} {A : Acc} {t u : Nat} {W : Wad} {s s' : Rg}
/-- the fixed ones, told by name -/
theorem Apart.fx (h : Apart wa W) : wa ≠ W.b ∧ wa ≠ W.r ∧ wa ≠ W.p ∧ wa ≠ W.wk ∧ wa ≠ W.ra ∧ wa ≠ W.sa ∧ wa ≠ W.ga ∧ wa ≠ W.ta := by
  have := h.f
  simp only [Wad.fix, List.nodup_cons, List.mem_cons, List.not_mem_nil, or_false, not_or] at this
  exact this.1
theorem mem_wa : wa ∈ W.fix wa := by simp [Wad.fix]
theorem mem_b : W.b ∈ W.fix wa := by simp [Wad.fix]
theorem mem_r : W.r ∈ W.fix wa := by simp [Wad.fix]
theorem mem_p : W.p ∈ W.fix wa := by simp [Wad.fix]
theorem mem_wk : W.wk ∈ W.fix wa := by simp [Wad.fix]
theorem mem_ra : W.ra ∈ W.fix wa := by simp [Wad.fix]
theorem mem_sa : W.sa ∈ W.fix wa := by simp [Wad.fix]
theorem mem_ga : W.ga ∈ W.fix wa := by simp [Wad.fix]
theorem mem_ta : W.ta ∈ W.fix wa := by simp [Wad.fix]
theorem all_fix {x : Addr} (h : x ∈ W.fix wa) : x ∈ W.all wa := List.mem_append_left _ h
theorem all_L {x : Addr} (h : x ∈ W.Ls) : x ∈ W.all wa := by simp [Wad.all, h]
theorem all_S {x : Addr} (h : x ∈ W.Ss) : x ∈ W.all wa := by simp [Wad.all, h]
theorem all_G {x : Addr} (h : x ∈ W.Gs) : x ∈ W.all wa := by simp [Wad.all, h]
theorem all_T {x : Addr} (h : x ∈ W.Ts) : x ∈ W.all wa := by simp [Wad.all, h]
theorem BkAt.fm {b r p : Addr} {recs : List D} {fr : Int} {X : List Addr} (B : BkAt P w CB b r p recs fr s) (h : Fm X s s') (nb : b ∉ X) (nr : r ∉ X) (np : p ∉ X) : BkAt P w CB b r p recs fr s' := by
  obtain ⟨dy, xs, b1, b2, b3, rest⟩ := B
  exact ⟨dy, xs, h.at b1 nb, h.at b2 nr, h.at b3 np, rest⟩
/-- nothing of it changes -/
theorem WatW.fm (h : WatW P w CB CS CW wa A t u W s) {X : List Addr} (f : Fm X s s') (n : ∀ x ∈ W.all wa, x ∉ X) : WatW P w CB CS CW wa A t u W s' := by
  have st : ∀ x, x ∈ W.all wa → s' x = s x := fun x hx => f x (h.there x hx) (n x hx)
  obtain ⟨dx, e⟩ := h.ins
  exact ⟨h.ok, ⟨dx, by rw [st _ (all_fix mem_wa)]; exact e⟩, h.bk.fm f (n _ (all_fix mem_b)) (n _ (all_fix mem_r)) (n _ (all_fix mem_p)), h.bz, by rw [st _ (all_fix mem_wk)]; exact h.wk1, h.wk2,
    by rw [st _ (all_fix mem_ra)]; exact h.lg1, h.lg2.imp fun a b m q => q.mv (st _ (all_L m)), by rw [st _ (all_fix mem_sa)]; exact h.st1, h.st2.imp fun a b m q => q.mv (st _ (all_S m)),
    by rw [st _ (all_fix mem_ga)]; exact h.sg1, h.sg2.imp fun a b m q => q.mv (st _ (all_G m)), by rw [st _ (all_fix mem_ta)]; exact h.tk1, h.tk2.imp fun a b m q => q.mv (st _ (all_T m)), h.nd⟩
theorem AccOk.le {t' : Nat} (h : AccOk A t) (le : t ≤ t') : AccOk A t' :=
  ⟨h.m1, h.m2, Nat.le_trans h.l1 (by omega), fun xs m => Nat.le_trans (h.l2 xs m) le, Nat.le_trans h.t1 le, fun xs m => Nat.le_trans (h.t2 xs m) le, h.s1, fun g m => ⟨Nat.le_trans (h.s2 g m).1 le, (h.s2 g m).2⟩, h.a1, fun g m => ⟨Nat.le_trans (h.a2 g m).1 le, (h.a2 g m).2⟩⟩
/-- the book grows -/
theorem WatW.book (h : WatW P w CB CS CW wa A t u W s) {more : List D} {fr' : Int} {u' : Nat} (B : BkAt P w CB W.b W.r W.p (W.recs ++ more) fr' s') (f : Fm [W.b, W.r, W.p] s s') (z : (W.recs ++ more).length ≤ 20 + 1000 * u') :
    WatW P w CB CS CW wa A t u' { W with recs := W.recs ++ more, fr := fr' } s' ∧ Nxt wa W { W with recs := W.recs ++ more, fr := fr' } s s' := by
  have ap := apart h.nd
  obtain ⟨dx, e⟩ := h.ins
  have hf := ap.f
  simp only [Wad.fix, List.nodup_cons, List.mem_cons, List.not_mem_nil, or_false, not_or] at hf
  obtain ⟨n1, n2, n3, n4, n5⟩ := hf
  have sm : ∀ x, x ∈ [W.b, W.r, W.p] → x ∈ W.fix wa := fun x hx => by
    simp only [List.mem_cons, List.not_mem_nil, or_false] at hx
    rcases hx with rfl | rfl | rfl
    · exact mem_b
    · exact mem_r
    · exact mem_p
  have nn : ∀ {x : Addr}, x ≠ W.b → x ≠ W.r → x ≠ W.p → x ∉ [W.b, W.r, W.p] := fun h1 h2 h3 => by simp [h1, h2, h3]
  refine ⟨⟨h.ok, ⟨dx, f.at e (nn n1.1 n1.2.1 n1.2.2.1)⟩, B, z, f.at h.wk1 ?_, h.wk2, f.at h.lg1 ?_, h.lg2.imp fun a b m q => q.app (f a q.ne fun z => ap.fl _ (sm _ z) _ m rfl), f.at h.st1 ?_, h.st2.imp fun a b m q => q.app (f a q.ne fun z => ap.fs _ (sm _ z) _ m rfl),
    f.at h.sg1 ?_, h.sg2.imp fun a b m q => q.mv (f a q.ne fun z => ap.fg _ (sm _ z) _ m rfl), f.at h.tk1 ?_, h.tk2.imp fun a b m q => q.mv (f a q.ne fun z => ap.ft _ (sm _ z) _ m rfl), h.nd⟩, f.sub fun x hx => all_fix (sm x hx), fun x hx => .inl hx⟩
  all_goals
    refine nn ?_ ?_ ?_ <;> (intro z; simp_all)
end
end Law
set_option Elab.async false
set_option linter.all false
set_option maxRecDepth 100000
set_option maxHeartbeats 4000000
namespace Law
open PySem PySem.Spec PyProof.Rows L2 Gl Dw
/-! what a watch becomes by its deeds -/
theorem getD_of {α : Type} {xs : List α} {i : Nat} {a d : α} (h : xs[i]? = some a) : xs.getD i d = a := by rw [List.getD_eq_getElem?_getD, h]; rfl
theorem mem_set {α : Type} {xs : List α} {i : Nat} {a y : α} (h : y ∈ xs.set i a) : y = a ∨ y ∈ xs := by
  rcases List.mem_or_eq_of_mem_set h with q | q
  · exact .inr q
  · exact .inl q
section
variable {A : Acc} {t : Nat}
theorem AccOk.add (h : AccOk A t) {i : Nat} (x : Str) (hi : i < A.logs.length) : AccOk (A.add i x) (t + 1) :=
  ⟨h.m1, h.m2, by show (A.logs.set _ _).length ≤ _; rw [List.length_set]; have := h.l1; omega, fun xs m => by
    rcases mem_set m with rfl | m
    · rw [getD_of (List.getElem?_eq_getElem hi), List.length_append]
      have := h.l2 _ (List.getElem_mem hi)
      simp; omega
    · have := h.l2 _ m; omega, (h.le (Nat.le_succ t)).t1, (h.le (Nat.le_succ t)).t2, h.s1, (h.le (Nat.le_succ t)).s2, h.a1, (h.le (Nat.le_succ t)).a2⟩
theorem AccOk.branch (h : AccOk A t) {i n : Nat} (hi : i < A.logs.length) : AccOk (A.branch i n) (t + 1) :=
  ⟨h.m1, h.m2, by show (A.logs ++ [_]).length ≤ _; rw [List.length_append]; have := h.l1; simp; omega, fun xs m => by
    rcases List.mem_append.mp m with m | m
    · have := h.l2 _ m; omega
    · rw [List.mem_singleton.mp m, getD_of (List.getElem?_eq_getElem hi), List.length_take]
      have := h.l2 _ (List.getElem_mem hi)
      omega, (h.le (Nat.le_succ t)).t1, (h.le (Nat.le_succ t)).t2, h.s1, (h.le (Nat.le_succ t)).s2, h.a1, (h.le (Nat.le_succ t)).a2⟩
theorem AccOk.sign (h : AccOk A t) {i : Nat} (hi : i < A.logs.length) : AccOk (A.sign i) (t + 1) :=
  ⟨h.m1, h.m2, (h.le (Nat.le_succ t)).l1, (h.le (Nat.le_succ t)).l2, by show (A.told ++ [_]).length ≤ _; rw [List.length_append]; have := h.t1; simp; omega, fun xs m => by
    rcases List.mem_append.mp m with m | m
    · have := h.t2 _ m; omega
    · rw [List.mem_singleton.mp m, getD_of (List.getElem?_eq_getElem hi)]
      have := h.l2 _ (List.getElem_mem hi)
      omega, h.s1, fun g m => ⟨by have := (h.s2 g m).1; omega, fun i hi => by
        show i < (A.told ++ [_]).length
        rw [List.length_append]
        have := (h.s2 g m).2 i hi
        omega⟩, h.a1, fun g m => ⟨by have := (h.a2 g m).1; omega, fun i hi => by
        show i < (A.told ++ [_]).length
        rw [List.length_append]
        have := (h.a2 g m).2 i hi
        omega⟩⟩
theorem AccOk.show (h : AccOk A t) {n i : Nat} (hi : i < A.sgn.length) (hn : n < A.told.length) : AccOk (A.show n i) (t + 1) :=
  ⟨h.m1, h.m2, (h.le (Nat.le_succ t)).l1, (h.le (Nat.le_succ t)).l2, (h.le (Nat.le_succ t)).t1, (h.le (Nat.le_succ t)).t2, by show (A.sgn.set _ _).length = _; rw [List.length_set]; exact h.s1, fun g m => by
    rcases mem_set m with rfl | m
    · rw [getD_of (List.getElem?_eq_getElem hi), List.length_append]
      have := h.s2 _ (List.getElem_mem hi)
      refine ⟨by simp; omega, fun j hj => ?_⟩
      rcases List.mem_append.mp hj with hj | hj
      · exact this.2 j hj
      · rw [List.mem_singleton.mp hj]; exact hn
    · exact ⟨by have := (h.s2 g m).1; omega, (h.s2 g m).2⟩, h.a1, (h.le (Nat.le_succ t)).a2⟩
theorem AccOk.take (h : AccOk A t) {c n : Nat} (hi : c < A.acc.length) (hn : n < A.told.length) : AccOk (A.take c n) (t + 1) :=
  ⟨h.m1, h.m2, (h.le (Nat.le_succ t)).l1, (h.le (Nat.le_succ t)).l2, (h.le (Nat.le_succ t)).t1, (h.le (Nat.le_succ t)).t2, h.s1, (h.le (Nat.le_succ t)).s2, by show (A.acc.set _ _).length = _; rw [List.length_set]; exact h.a1, fun g m => by
    rcases mem_set m with rfl | m
    · rw [getD_of (List.getElem?_eq_getElem hi), List.length_append]
      have := h.a2 _ (List.getElem_mem hi)
      refine ⟨by simp; omega, fun j hj => ?_⟩
      rcases List.mem_append.mp hj with hj | hj
      · exact this.2 j hj
      · rw [List.mem_singleton.mp hj]; exact hn
    · exact ⟨by have := (h.a2 g m).1; omega, (h.a2 g m).2⟩⟩
end
section
variable {P : Program} {w : World} {CB CS CW wa c : Addr} {A : Acc} {t t' u u' : Nat} {W : Wad} {s s' : Rg}
theorem opqs_get {as : List Addr} {i : Nat} {a : Addr} (h : as[i]? = some a) : (opqs as)[i]? = some (.opq a) := by
  unfold opqs
  rw [List.getElem?_map, h]
  rfl
theorem opqs_len (as : List Addr) : (opqs as).length = as.length := List.length_map ..
/-- a log grows by an entry -/
theorem WatW.log (h : WatW P w CB CS CW wa A t u W s) {i : Nat} {x : Str} {ns : List Int} {n : Int} (hc : W.Ls[i]? = some c) (e : s c = some (.lst (rD ns))) (hn : NmN W.recs n x) (f : Fm [c] s s') (e' : s' c = some (.lst (rD (ns ++ [n])))) :
    WatW P w CB CS CW wa (A.add i x) (t + 1) u W s' ∧ Nxt wa W W s s' := by
  have ap := apart h.nd
  have mc := List.mem_of_getElem? hc
  obtain ⟨xs, hx, ns', q, l⟩ := h.lg2.get hc
  rw [e] at q
  injection q with q
  injection q with q
  have rn : ns = ns' := by
    have := congrArg (List.map fun d => match d with | D.int i => i | _ => 0) q
    unfold rD at this
    rw [List.map_map, List.map_map] at this
    have id1 : ((fun d => match d with | D.int i => i | _ => 0) ∘ D.int) = (id : Int → Int) := rfl
    rw [id1, List.map_id, List.map_id] at this
    exact this
  subst rn
  have fx : ∀ y, y ∈ W.fix wa → y ∉ [c] := fun y hy z => ap.fl y hy c mc (List.mem_singleton.mp z)
  have lt : i < A.logs.length := (List.getElem?_eq_some_iff.mp hx).1
  obtain ⟨dx, ei⟩ := h.ins
  refine ⟨⟨h.ok.add x lt, ⟨dx, f.at ei (fx _ mem_wa)⟩, h.bk.fm f (fx _ mem_b) (fx _ mem_r) (fx _ mem_p), by have := h.bz; omega, f.at h.wk1 (fx _ mem_wk), h.wk2, f.at h.lg1 (fx _ mem_ra), ?_, f.at h.st1 (fx _ mem_sa), h.st2.imp fun a b m q => q.mv (f a q.ne fun z => ap.ls c mc a m (List.mem_singleton.mp z).symm),
    f.at h.sg1 (fx _ mem_ga), h.sg2.imp fun a b m q => q.mv (f a q.ne fun z => ap.lg c mc a m (List.mem_singleton.mp z).symm), f.at h.tk1 (fx _ mem_ta), h.tk2.imp fun a b m q => q.mv (f a q.ne fun z => ap.lt c mc a m (List.mem_singleton.mp z).symm), h.nd⟩,
    f.sub fun y hy => by rw [List.mem_singleton.mp hy]; exact all_L mc, fun y hy => .inl hy⟩
  refine h.lg2.upd hc ap.l (fun a b m ne q => q.mv (f a q.ne fun z => ne (List.mem_singleton.mp z))) ?_
  rw [getD_of hx]
  exact ⟨_, e', l.snoc hn⟩
theorem nodup_new {wa : Addr} {W W' : Wad} (h : (W.all wa).Nodup) (hc : c ∉ W.all wa) (p : (W'.all wa).Perm (c :: W.all wa)) : (W'.all wa).Nodup := p.nodup_iff.mpr (List.nodup_cons.mpr ⟨hc, h⟩)
theorem perm_snoc {α : Type} (a b : List α) (c : α) : (a ++ [c] ++ b).Perm (c :: (a ++ b)) := by
  rw [List.append_assoc]
  exact List.perm_middle
/-- a new log -/
theorem WatW.newlog (h : WatW P w CB CS CW wa A t u W s) {i n : Nat} {ns : List Int} {l : Addr} (hl : W.Ls[i]? = some l) (el : s l = some (.lst (rD ns))) (hc : s c = none) (f : Fm [W.ra] s s') (e1 : s' W.ra = some (.lst (opqs (W.Ls ++ [c])))) (e2 : s' c = some (.lst (rD (ns.take n)))) :
    WatW P w CB CS CW wa (A.branch i n) (t + 1) u { W with Ls := W.Ls ++ [c] } s' ∧ Nxt wa W { W with Ls := W.Ls ++ [c] } s s' := by
  have ap := apart h.nd
  have nc : c ∉ W.all wa := fun z => h.there c z hc
  obtain ⟨xs, hx, ns', q, lr⟩ := h.lg2.get hl
  rw [el] at q
  injection q with q
  injection q with q
  have rn : ns = ns' := by
    have := congrArg (List.map fun d => match d with | D.int i => i | _ => 0) q
    unfold rD at this
    rw [List.map_map, List.map_map] at this
    have id1 : ((fun d => match d with | D.int i => i | _ => 0) ∘ D.int) = (id : Int → Int) := rfl
    rw [id1, List.map_id, List.map_id] at this
    exact this
  subst rn
  have hf := ap.f
  simp only [Wad.fix, List.nodup_cons, List.mem_cons, List.not_mem_nil, or_false, not_or] at hf
  have lt : i < A.logs.length := (List.getElem?_eq_some_iff.mp hx).1
  obtain ⟨dx, ei⟩ := h.ins
  have ns1 : ∀ {y : Addr}, y ≠ W.ra → y ∉ [W.ra] := fun q z => q (List.mem_singleton.mp z)
  refine ⟨⟨h.ok.branch lt, ⟨dx, f.at ei (ns1 ?_)⟩, h.bk.fm f (ns1 ?_) (ns1 ?_) (ns1 ?_), by have := h.bz; show W.recs.length ≤ _; omega, f.at h.wk1 (ns1 ?_), h.wk2, e1, ?_, f.at h.st1 (ns1 ?_), h.st2.imp fun a b m q => q.mv (f a q.ne fun z => ap.fs _ mem_ra a m (List.mem_singleton.mp z).symm),
    f.at h.sg1 (ns1 ?_), h.sg2.imp fun a b m q => q.mv (f a q.ne fun z => ap.fg _ mem_ra a m (List.mem_singleton.mp z).symm), f.at h.tk1 (ns1 ?_), h.tk2.imp fun a b m q => q.mv (f a q.ne fun z => ap.ft _ mem_ra a m (List.mem_singleton.mp z).symm), nodup_new h.nd nc ?_⟩,
    f.sub fun y hy => by rw [List.mem_singleton.mp hy]; exact all_fix mem_ra, fun y hy => ?_⟩
  all_goals first
    | (intro z; simp_all; done)
    | skip
  · refine Al.snoc (h.lg2.imp fun a b m q => q.mv (f a q.ne fun z => ap.fl _ mem_ra a m (List.mem_singleton.mp z).symm)) ?_
    rw [getD_of hx]
    exact ⟨_, e2, lr.take n⟩
  · show (W.fix wa ++ (W.Ls ++ [c] ++ _)).Perm _
    exact (List.Perm.append_left _ (perm_snoc W.Ls _ c)).trans List.perm_middle
  · have : y ∈ c :: W.all wa := ((List.Perm.append_left _ (perm_snoc W.Ls _ c)).trans List.perm_middle).mem_iff.mp hy
    rcases List.mem_cons.mp this with rfl | m
    · exact .inr hc
    · exact .inl m
/-- a new statement -/
theorem WatW.stm (h : WatW P w CB CS CW wa A t u W s) {i : Nat} {ns : List Int} {l dx : Addr} {v m : Nat} (hl : W.Ls[i]? = some l) (el : s l = some (.lst (rD ns))) (st : Std W.recs ns 0 ns.length v) (hc : s c = none) (f : Fm [W.sa] s s') (e1 : s' W.sa = some (.lst (opqs (W.Ss ++ [c])))) (e2 : s' c = some (.ins CS dx (stFs ns v m))) :
    WatW P w CB CS CW wa (A.sign i) (t + 1) u { W with Ss := W.Ss ++ [c] } s' ∧ Nxt wa W { W with Ss := W.Ss ++ [c] } s s' := by
  have ap := apart h.nd
  have nc : c ∉ W.all wa := fun z => h.there c z hc
  obtain ⟨xs, hx, ns', q, lr⟩ := h.lg2.get hl
  rw [el] at q
  injection q with q
  injection q with q
  have rn : ns = ns' := by
    have := congrArg (List.map fun d => match d with | D.int i => i | _ => 0) q
    unfold rD at this
    rw [List.map_map, List.map_map] at this
    have id1 : ((fun d => match d with | D.int i => i | _ => 0) ∘ D.int) = (id : Int → Int) := rfl
    rw [id1, List.map_id, List.map_id] at this
    exact this
  subst rn
  have hf := ap.f
  simp only [Wad.fix, List.nodup_cons, List.mem_cons, List.not_mem_nil, or_false, not_or] at hf
  have lt : i < A.logs.length := (List.getElem?_eq_some_iff.mp hx).1
  obtain ⟨dy, ei⟩ := h.ins
  have ns1 : ∀ {y : Addr}, y ≠ W.sa → y ∉ [W.sa] := fun q z => q (List.mem_singleton.mp z)
  refine ⟨⟨h.ok.sign lt, ⟨dy, f.at ei (ns1 ?_)⟩, h.bk.fm f (ns1 ?_) (ns1 ?_) (ns1 ?_), by have := h.bz; show W.recs.length ≤ _; omega, f.at h.wk1 (ns1 ?_), h.wk2, f.at h.lg1 (ns1 ?_), h.lg2.imp fun a b m q => q.mv (f a q.ne fun z => ap.fl _ mem_sa a m (List.mem_singleton.mp z).symm), e1, ?_,
    f.at h.sg1 (ns1 ?_), h.sg2.imp fun a b m q => q.mv (f a q.ne fun z => ap.fg _ mem_sa a m (List.mem_singleton.mp z).symm), f.at h.tk1 (ns1 ?_), h.tk2.imp fun a b m q => q.mv (f a q.ne fun z => ap.ft _ mem_sa a m (List.mem_singleton.mp z).symm), nodup_new h.nd nc ?_⟩,
    f.sub fun y hy => by rw [List.mem_singleton.mp hy]; exact all_fix mem_sa, fun y hy => ?_⟩
  all_goals first
    | (intro z; simp_all; done)
    | skip
  · refine Al.snoc (h.st2.imp fun a b m q => q.mv (f a q.ne fun z => ap.fs _ mem_sa a m (List.mem_singleton.mp z).symm)) ?_
    rw [getD_of hx]
    exact ⟨_, _, _, _, e2, lr, st⟩
  · show (W.fix wa ++ (W.Ls ++ (W.Ss ++ [c] ++ _))).Perm _
    exact (List.Perm.append_left _ ((List.Perm.append_left _ (perm_snoc W.Ss _ c)).trans List.perm_middle)).trans List.perm_middle
  · have : y ∈ c :: W.all wa := ((List.Perm.append_left _ ((List.Perm.append_left _ (perm_snoc W.Ss _ c)).trans List.perm_middle)).trans List.perm_middle).mem_iff.mp hy
    rcases List.mem_cons.mp this with rfl | m
    · exact .inr hc
    · exact .inl m
/-- a witness signs -/
theorem WatW.sig (h : WatW P w CB CS CW wa A t u W s) {i n : Nat} {is : List Nat} (hc : W.Gs[i]? = some c) (hi : A.sgn[i]? = some is) (hn : n < A.told.length) (f : Fm [c] s s') (e' : s' c = some (.lst ((is ++ [n]).map iD))) :
    WatW P w CB CS CW wa (A.show n i) (t + 1) u W s' ∧ Nxt wa W W s s' := by
  have ap := apart h.nd
  have mc := List.mem_of_getElem? hc
  have fx : ∀ y, y ∈ W.fix wa → y ∉ [c] := fun y hy z => ap.fg y hy c mc (List.mem_singleton.mp z)
  have lt : i < A.sgn.length := (List.getElem?_eq_some_iff.mp hi).1
  obtain ⟨dx, ei⟩ := h.ins
  refine ⟨⟨h.ok.show lt hn, ⟨dx, f.at ei (fx _ mem_wa)⟩, h.bk.fm f (fx _ mem_b) (fx _ mem_r) (fx _ mem_p), by have := h.bz; omega, f.at h.wk1 (fx _ mem_wk), h.wk2, f.at h.lg1 (fx _ mem_ra), h.lg2.imp fun a b m q => q.mv (f a q.ne fun z => ap.lg a m c mc (List.mem_singleton.mp z)), f.at h.st1 (fx _ mem_sa), h.st2.imp fun a b m q => q.mv (f a q.ne fun z => ap.sg a m c mc (List.mem_singleton.mp z)),
    f.at h.sg1 (fx _ mem_ga), ?_, f.at h.tk1 (fx _ mem_ta), h.tk2.imp fun a b m q => q.mv (f a q.ne fun z => ap.gt c mc a m (List.mem_singleton.mp z).symm), h.nd⟩,
    f.sub fun y hy => by rw [List.mem_singleton.mp hy]; exact all_G mc, fun y hy => .inl hy⟩
  refine h.sg2.upd hc ap.g (fun a b m ne q => q.mv (f a q.ne fun z => ne (List.mem_singleton.mp z))) ?_
  rw [getD_of hi]
  exact e'
/-- a client accepts -/
theorem WatW.tak (h : WatW P w CB CS CW wa A t u W s) {i n : Nat} {is : List Nat} (hc : W.Ts[i]? = some c) (hi : A.acc[i]? = some is) (hn : n < A.told.length) (f : Fm [c] s s') (e' : s' c = some (.lst ((is ++ [n]).map iD))) :
    WatW P w CB CS CW wa (A.take i n) (t + 1) u W s' ∧ Nxt wa W W s s' := by
  have ap := apart h.nd
  have mc := List.mem_of_getElem? hc
  have fx : ∀ y, y ∈ W.fix wa → y ∉ [c] := fun y hy z => ap.ft y hy c mc (List.mem_singleton.mp z)
  have lt : i < A.acc.length := (List.getElem?_eq_some_iff.mp hi).1
  obtain ⟨dx, ei⟩ := h.ins
  refine ⟨⟨h.ok.take lt hn, ⟨dx, f.at ei (fx _ mem_wa)⟩, h.bk.fm f (fx _ mem_b) (fx _ mem_r) (fx _ mem_p), by have := h.bz; omega, f.at h.wk1 (fx _ mem_wk), h.wk2, f.at h.lg1 (fx _ mem_ra), h.lg2.imp fun a b m q => q.mv (f a q.ne fun z => ap.lt a m c mc (List.mem_singleton.mp z)), f.at h.st1 (fx _ mem_sa), h.st2.imp fun a b m q => q.mv (f a q.ne fun z => ap.st a m c mc (List.mem_singleton.mp z)),
    f.at h.sg1 (fx _ mem_ga), h.sg2.imp fun a b m q => q.mv (f a q.ne fun z => ap.gt a m c mc (List.mem_singleton.mp z)), f.at h.tk1 (fx _ mem_ta), ?_, h.nd⟩,
    f.sub fun y hy => by rw [List.mem_singleton.mp hy]; exact all_T mc, fun y hy => .inl hy⟩
  refine h.tk2.upd hc ap.t (fun a b m ne q => q.mv (f a q.ne fun z => ne (List.mem_singleton.mp z))) ?_
  rw [getD_of hi]
  exact e'
/-- time goes on -/
theorem WatW.le (h : WatW P w CB CS CW wa A t u W s) (le : t ≤ t') (le2 : u ≤ u') : WatW P w CB CS CW wa A t' u' W s :=
  ⟨h.ok.le le, h.ins, h.bk, by have := h.bz; omega, h.wk1, h.wk2, h.lg1, h.lg2, h.st1, h.st2, h.sg1, h.sg2, h.tk1, h.tk2, h.nd⟩
end
end Law
set_option Elab.async false
set_option linter.all false
set_option maxRecDepth 100000
set_option maxHeartbeats 8000000
namespace Law
open PySem PySem.Spec PyProof.Rows L2 Gl Dw


structure ClS (K : PySem.W.Frag) (C : Addr) : Prop where
  cls : Cls K C
  n1 : NoAttr K C "rows"
  n2 : NoAttr K C "top"
  n3 : NoAttr K C "mark"
structure ClW (K : PySem.W.Frag) (C : Addr) : Prop where
  cls : Cls K C
  n1 : NoAttr K C "witness_count"
  n2 : NoAttr K C "liars"
  n3 : NoAttr K C "is_liar"
  n4 : NoAttr K C "pages"
  n5 : NoAttr K C "key"
  n6 : NoAttr K C "witness_keys"
  n7 : NoAttr K C "rows"
  n8 : NoAttr K C "statements"
  n9 : NoAttr K C "signs"
  n10 : NoAttr K C "taken"
def wfSI (C : Addr) : WF Rg := fun ds s k _ => match ds with
  | [.opq c, .tup rs, .int v, .int m] => ∃ dx ns v' m', s c = some (.ins C dx []) ∧ rs = rD ns ∧ v = (v' : Nat) ∧ m = (m' : Nat) ∧ ∀ s', s' c = some (.ins C dx (stFs ns v' m')) → Fm [c] s s' → k .non s'
  | _ => False
section
variable {A : Acc} {W : Wad}
theorem lkW1 : List.lookup ("witness_count" : Str) (wtFs A W) = some (.int A.many) := rfl
theorem lkW2 : List.lookup ("liars" : Str) (wtFs A W) = some (.tup (A.liars.map iD)) := rfl
theorem lkW3 : List.lookup ("is_liar" : Str) (wtFs A W) = some (.bl A.liar) := rfl
theorem lkW4 : List.lookup ("pages" : Str) (wtFs A W) = some (.opq W.b) := rfl
theorem lkW5 : List.lookup ("key" : Str) (wtFs A W) = some (.int W.key) := rfl
theorem lkW6 : List.lookup ("witness_keys" : Str) (wtFs A W) = some (.opq W.wk) := rfl
theorem lkW7 : List.lookup ("rows" : Str) (wtFs A W) = some (.opq W.ra) := rfl
theorem lkW8 : List.lookup ("statements" : Str) (wtFs A W) = some (.opq W.sa) := rfl
theorem lkW9 : List.lookup ("signs" : Str) (wtFs A W) = some (.opq W.ga) := rfl
theorem lkW10 : List.lookup ("taken" : Str) (wtFs A W) = some (.opq W.ta) := rfl
theorem noW {m : Str} (h : m ≠ "witness_count" ∧ m ≠ "liars" ∧ m ≠ "is_liar" ∧ m ≠ "pages" ∧ m ≠ "key" ∧ m ≠ "witness_keys" ∧ m ≠ "rows" ∧ m ≠ "statements" ∧ m ≠ "signs" ∧ m ≠ "taken") : ∀ (a : Str) (d : D), (a, d) ∈ wtFs A W → ¬ m = a := fun a d hm z => by
  subst z
  simp [wtFs] at hm
  obtain ⟨h1, h2, h3, h4, h5, h6, h7, h8, h9, h10⟩ := h
  rcases hm with ⟨e, _⟩ | ⟨e, _⟩ | ⟨e, _⟩ | ⟨e, _⟩ | ⟨e, _⟩ | ⟨e, _⟩ | ⟨e, _⟩ | ⟨e, _⟩ | ⟨e, _⟩ | ⟨e, _⟩ <;> contradiction
theorem lkS1 {ns : List Int} {v m : Nat} : List.lookup ("rows" : Str) (stFs ns v m) = some (.tup (rD ns)) := rfl
theorem lkS2 {ns : List Int} {v m : Nat} : List.lookup ("top" : Str) (stFs ns v m) = some (.int v) := rfl
theorem lkS3 {ns : List Int} {v m : Nat} : List.lookup ("mark" : Str) (stFs ns v m) = some (.int m) := rfl
end
/-- a number asked of a watch: below what the account has -/
def wfCk (P : Program) (w : World) (CB CS CW : Addr) (g : Acc → Nat) : WF Rg := fun ds s k _ => match ds with
  | [.opq wa, .int i] => ∃ A t W j, WatW P w CB CS CW wa A t t W s ∧ i = (j : Nat) ∧ j < g A ∧ k .non s
  | _ => False
/-- what is told of a watch that stays -/
def wfTell (P : Program) (w : World) (CB CS CW : Addr) (g : Acc → Nat → Option D) : WF Rg := fun ds s k _ => match ds with
  | [.opq wa, .int i] => ∃ A t W j d, WatW P w CB CS CW wa A t t W s ∧ t ≤ 64 ∧ i = (j : Nat) ∧ g A j = some d ∧ k d s
  | _ => False
def okSign (c : Nat) : Bool := decide (32 ≤ c) && decide (c ≤ 126)
def okText (x : Str) : Prop := x.length ≤ 40 ∧ ∀ c ∈ x.cps.toList, okSign c = true
def wfSign {S : Type} : WF S := fun ds s k _ => match ds with
  | [.str x] => ∃ c, x = ⟨#[c]⟩ ∧ k (.bl (okSign c)) s
  | _ => False
def wfText {S : Type} : WF S := fun ds s k _ => match ds with
  | [.str x] => okText x ∧ k (.bl true) s
  | _ => False
def wfLiars {S : Type} : WF S := fun ds s k _ => match ds with
  | [.tup ps, .int m] => ∃ (ls : List Nat) (many : Nat), ps = ls.map iD ∧ m = many ∧ ls.length ≤ 9 ∧ ls.Pairwise (fun a b => a < b) ∧ (∀ l ∈ ls, l < many) ∧ k (.bl true) s
  | _ => False
abbrev s_Statement___init__ : Stmt := inClass (top 55) 0
abbrev N_Statement___init__ : List Str := ["self", "rows", "head", "mark"]
theorem sc_Statement___init__ : FnScope N_Statement___init__ ["self", "rows", "head", "mark"] (defScope s_Statement___init__) := ⟨rfl, rfl, rfl, by decide +kernel, rfl, by decide +kernel, by decide +kernel⟩
abbrev s_Watch_check_log : Stmt := inClass (top 56) 1
abbrev N_Watch_check_log : List Str := ["self", "log"]
theorem sc_Watch_check_log : FnScope N_Watch_check_log ["self", "log"] (defScope s_Watch_check_log) := ⟨rfl, rfl, rfl, by decide +kernel, rfl, by decide +kernel, by decide +kernel⟩
abbrev s_Watch_check_statement : Stmt := inClass (top 56) 2
abbrev N_Watch_check_statement : List Str := ["self", "statement"]
theorem sc_Watch_check_statement : FnScope N_Watch_check_statement ["self", "statement"] (defScope s_Watch_check_statement) := ⟨rfl, rfl, rfl, by decide +kernel, rfl, by decide +kernel, by decide +kernel⟩
abbrev s_Watch_check_witness : Stmt := inClass (top 56) 3
abbrev N_Watch_check_witness : List Str := ["self", "witness"]
theorem sc_Watch_check_witness : FnScope N_Watch_check_witness ["self", "witness"] (defScope s_Watch_check_witness) := ⟨rfl, rfl, rfl, by decide +kernel, rfl, by decide +kernel, by decide +kernel⟩
abbrev s_Watch_check_client : Stmt := inClass (top 56) 4
abbrev N_Watch_check_client : List Str := ["self", "client"]
theorem sc_Watch_check_client : FnScope N_Watch_check_client ["self", "client"] (defScope s_Watch_check_client) := ⟨rfl, rfl, rfl, by decide +kernel, rfl, by decide +kernel, by decide +kernel⟩
abbrev s_Watch_signed : Stmt := inClass (top 56) 12
abbrev N_Watch_signed : List Str := ["self", "witness"]
theorem sc_Watch_signed : FnScope N_Watch_signed ["self", "witness"] (defScope s_Watch_signed) := ⟨rfl, rfl, rfl, by decide +kernel, rfl, by decide +kernel, by decide +kernel⟩
abbrev s_Watch_accepted : Stmt := inClass (top 56) 13
abbrev N_Watch_accepted : List Str := ["self", "client"]
theorem sc_Watch_accepted : FnScope N_Watch_accepted ["self", "client"] (defScope s_Watch_accepted) := ⟨rfl, rfl, rfl, by decide +kernel, rfl, by decide +kernel, by decide +kernel⟩
abbrev s_Watch_entries : Stmt := inClass (top 56) 11
abbrev N_Watch_entries : List Str := ["self", "statement", "term"]
theorem sc_Watch_entries : FnScope N_Watch_entries ["self", "statement"] (defScope s_Watch_entries) := ⟨rfl, rfl, rfl, by decide +kernel, rfl, by decide +kernel, by decide +kernel⟩
abbrev s_is_sign : Stmt := top 27
abbrev N_is_sign : List Str := ["sign"]
theorem sc_is_sign : FnScope N_is_sign ["sign"] (defScope s_is_sign) := ⟨rfl, rfl, rfl, by decide +kernel, rfl, by decide +kernel, by decide +kernel⟩
abbrev s_is_text : Stmt := top 28
abbrev N_is_text : List Str := ["thing", "sign"]
theorem sc_is_text : FnScope N_is_text ["thing"] (defScope s_is_text) := ⟨rfl, rfl, rfl, by decide +kernel, rfl, by decide +kernel, by decide +kernel⟩
abbrev s_are_liars : Stmt := top 54
abbrev N_are_liars : List Str := ["thing", "many", "one", "other"]
theorem sc_are_liars : FnScope N_are_liars ["thing", "many"] (defScope s_are_liars) := ⟨rfl, rfl, rfl, by decide +kernel, rfl, by decide +kernel, by decide +kernel⟩
abbrev FW (K : PySem.W.Frag) (m q : Str) (st : Stmt) (f : Addr) (fd : FuncData) : Prop := FunD K m q (defArgs st) (defBody st) (defScope st) [] [] f fd
theorem sign_lo {c : Nat} : (" " : Str).cps.toList ≤ [c] ↔ 32 ≤ c := by
  show ¬ ([c] < [32]) ↔ 32 ≤ c
  rw [List.cons_lt_cons_iff]
  have n : ¬ (([] : List Nat) < []) := List.not_lt_nil _
  constructor
  · intro h
    exact Nat.le_of_not_lt fun z => h (.inl z)
  · rintro h (z | ⟨_, z⟩)
    · omega
    · exact n z
theorem sign_hi {c : Nat} : ("~" : Str).cps.toList < [c] ↔ 126 < c := by
  show [126] < [c] ↔ 126 < c
  rw [List.cons_lt_cons_iff]
  have n : ¬ (([] : List Nat) < []) := List.not_lt_nil _
  constructor
  · rintro (z | ⟨_, z⟩)
    · exact z
    · exact (n z).elim
  · exact .inl
theorem Al.mem {α β : Type} {R : α → β → Prop} {as : List α} {bs : List β} {a : α} (h : Al R as bs) (m : a ∈ as) : ∃ b, R a b := by
  obtain ⟨i, hi⟩ := List.mem_iff_getElem?.mp m
  obtain ⟨b, _, r⟩ := h.get hi
  exact ⟨b, r⟩
def nameOf (recs : List D) : D → D
  | .int i => (match atI recs i with
    | some (.tup [_, .tup [y]]) => y
    | _ => .non)
  | _ => .non
theorem rec_get {recs : List D} {d : D} {k : NestedKey} {i : Nat} (hk : d.nk = some k) (e : ixOf recs d = some i) : recs[i]? = some d := by
  unfold ixOf at e
  obtain ⟨hi, h1, _⟩ := List.findIdx?_eq_some_iff_getElem.mp e
  rw [List.getElem?_eq_getElem hi]
  have := of_decide_eq_true h1
  rw [nk_inj hk (this.trans hk)]
theorem rec_at {recs : List D} {x : Str} {i : Nat} (e : ixOf recs (eD "name" [.str x]) = some i) : atI recs (i : Int) = some (.tup [.str "name", .tup [.str x]]) ∧ nameOf recs (.int (i : Nat)) = .str x := by
  have h : atI recs (i : Int) = some (.tup [.str "name", .tup [.str x]]) := atI_nat (rec_get (k := .tup [.text "name", .tup [.text x]]) rfl e)
  refine ⟨h, ?_⟩
  unfold nameOf
  dsimp only
  rw [h]
theorem names_of {recs : List D} : ∀ {ns : List Int} {xs : List Str}, Al (NmN recs) ns xs → (rD ns).map (nameOf recs) = xs.map D.str
  | _, _, .nil => rfl
  | _, _, .cons (a := a) (as := as) h t => by
    obtain ⟨i, rfl, e⟩ := h
    show nameOf recs (.int (i : Nat)) :: (rD as).map (nameOf recs) = _
    rw [names_of t, (rec_at e).2]
    rfl
theorem pair_ltN : ∀ {ps : List Nat}, ps.Pairwise (fun a b => a < b) → ∀ x ∈ pairD (ps.map iD) (Dw.cutD (ps.map iD) (some 1) none), ∃ a b : Nat, x = .tup [.int a, .int b] ∧ a < b
  | [], _, x, h => by simp [Dw.pairD] at h
  | p :: r, hp, x, h => by
    rw [List.map_cons, Dw.cut1] at h
    match r, hp, h with
    | [], _, h => simp [Dw.pairD] at h
    | q :: r', hp, h =>
      simp only [List.map_cons, Dw.pairD, List.mem_cons] at h
      rcases h with rfl | h
      · exact ⟨p, q, rfl, (List.pairwise_cons.mp hp).1 q (by simp)⟩
      · refine pair_ltN (List.pairwise_cons.mp hp).2 x ?_
        rw [List.map_cons, Dw.cut1]
        exact h
theorem pairD_len : ∀ (a b : List D), (pairD a b).length ≤ a.length
  | [], b => by cases b <;> simp [Dw.pairD]
  | d :: r, [] => by simp [Dw.pairD]
  | d :: r, e :: t => by
    simp only [Dw.pairD, List.length_cons]
    have := pairD_len r t
    omega
section
variable {P : Program} {w : World} {K : PySem.W.Frag} {mg : Str → Option Value} {base : Heap} {CB CH CS CW : Addr}
theorem ok_Statement_init (T : Tx P w K mg) (cS : ClS K CS) {f : Addr} {fd : FuncData} (F : FW K "__init__" "Statement.__init__" s_Statement___init__ f fd) : Fn P w K mg base 1 f fd ["self", "rows", "head", "mark"] (spX RW (wfSI CS)) := by
  refine fn_data F sc_Statement___init__ (fun ds s k x h => ?_) fun cv A outer s H G hr gd => ⟨_, (pss_cons (kFldS (K := K) (ps_fld (pv 0) (pv 1) rfl))
    (pss_cons (kFldS (K := K) (ps_fld (pv 0) (pv 2) rfl))
    (pss_one (kFldS (K := K) (ps_fld (pv 0) (pv 3) rfl))))), ?_⟩
  · match ds, h with
    | [.opq c, .tup _, .int _, .int _], _ => rfl
  · skip

    have c1 := cS.cls
    have c2 := cS.n1
    have c3 := cS.n2
    have c4 := cS.n3
    apply bodyW
    · (first | walk_at "sim" | fail)
    intro ds s k x ok hw
    match ds, hw with
    | [.opq c, .tup _, .int _, .int _], ⟨dx, ns, v, m, hc, rfl, rfl, rfl, hk⟩ =>
      have fl : D.flts (rD ns) = true := flts_of fun d hd => by
        obtain ⟨i, _, rfl⟩ := List.mem_map.mp hd
        rfl
      simp [hc, fl, putFD]
      exact ⟨(show 2 < 1000 by decide), hk _ rup_same (Fm.put (List.mem_singleton.mpr rfl))⟩
theorem ok_check_log (T : Tx P w K mg) (cW : ClW K CW) {CN : Addr} (r_NoLog : E0c K mg "NoLog" CN) (f_is_within : Df P w K mg base 2 "is_within" (spX RW wfIn)) {f : Addr} {fd : FuncData} (F : FW K "check_log" "Watch.check_log" s_Watch_check_log f fd) : Fn P w K mg base 3 f fd ["self", "log"] (spX RW (wfCk P w CB CS CW fun A => A.logs.length)) := by
  refine fn_data F sc_Watch_check_log (fun ds s k x h => ?_) fun cv A outer s H G hr gd => ⟨_, (pss_one (ps_if (pt_not (pt_val (pe_df f_is_within hr (by omega) gd rfl (fun σ => Gl.no_pass σ) (pa_cons (pv 1) (pa_cons pe_int (pa_cons (pe_op op_sub (pe_callB (kLen (K := K)) (by rfl) T.len (by decide +kernel) (pa_cons (kFld (K := K) (pv 0) rfl) pa_nil)) pe_int) pa_nil)))))) (pss_one (ps_raise rfl (takes_of rfl rfl rfl rfl) (pmk_0 r_NoLog.exc (r_NoLog.raises rfl) r_NoLog.mgx r_NoLog.keep rfl))) pss_nil)), ?_⟩
  · match ds, h with
    | [.opq wa, .int _], _ => rfl
  · skip

    have c1 := cW.cls
    have c2 := cW.n1
    have c3 := cW.n2
    have c4 := cW.n3
    have c5 := cW.n4
    have c6 := cW.n5
    have c7 := cW.n6
    have c8 := cW.n7
    have c9 := cW.n8
    have c10 := cW.n9
    have c11 := cW.n10
    apply bodyW
    · (first | walk_at "sim" | fail)
    intro ds s k x ok hw
    match ds, hw with
    | [.opq wa, .int _], ⟨A, t, W, j, h, rfl, hj, hk⟩ =>
      obtain ⟨dx, hi⟩ := h.ins
      have q1 := h.lg1
      have q2 := h.st1
      have q3 := h.lg2.len
      have q4 := h.st2.len
      have q5 := h.ok.a1
      simp [hi, q1, q2, lkW1, lkW7, lkW8, wfIn, isIn, D.pl, opqs_len]
      have hj : j < A.logs.length := hj
      exact ite_f (by omega) hk
theorem ok_check_statement (T : Tx P w K mg) (cW : ClW K CW) {CN : Addr} (r_NoStatement : E0c K mg "NoStatement" CN) (f_is_within : Df P w K mg base 2 "is_within" (spX RW wfIn)) {f : Addr} {fd : FuncData} (F : FW K "check_statement" "Watch.check_statement" s_Watch_check_statement f fd) : Fn P w K mg base 3 f fd ["self", "statement"] (spX RW (wfCk P w CB CS CW fun A => A.told.length)) := by
  refine fn_data F sc_Watch_check_statement (fun ds s k x h => ?_) fun cv A outer s H G hr gd => ⟨_, (pss_one (ps_if (pt_not (pt_val (pe_df f_is_within hr (by omega) gd rfl (fun σ => Gl.no_pass σ) (pa_cons (pv 1) (pa_cons pe_int (pa_cons (pe_op op_sub (pe_callB (kLen (K := K)) (by rfl) T.len (by decide +kernel) (pa_cons (kFld (K := K) (pv 0) rfl) pa_nil)) pe_int) pa_nil)))))) (pss_one (ps_raise rfl (takes_of rfl rfl rfl rfl) (pmk_0 r_NoStatement.exc (r_NoStatement.raises rfl) r_NoStatement.mgx r_NoStatement.keep rfl))) pss_nil)), ?_⟩
  · match ds, h with
    | [.opq wa, .int _], _ => rfl
  · skip

    have c1 := cW.cls
    have c2 := cW.n1
    have c3 := cW.n2
    have c4 := cW.n3
    have c5 := cW.n4
    have c6 := cW.n5
    have c7 := cW.n6
    have c8 := cW.n7
    have c9 := cW.n8
    have c10 := cW.n9
    have c11 := cW.n10
    apply bodyW
    · (first | walk_at "sim" | fail)
    intro ds s k x ok hw
    match ds, hw with
    | [.opq wa, .int _], ⟨A, t, W, j, h, rfl, hj, hk⟩ =>
      obtain ⟨dx, hi⟩ := h.ins
      have q1 := h.lg1
      have q2 := h.st1
      have q3 := h.lg2.len
      have q4 := h.st2.len
      have q5 := h.ok.a1
      simp [hi, q1, q2, lkW1, lkW7, lkW8, wfIn, isIn, D.pl, opqs_len]
      have hj : j < A.told.length := hj
      exact ite_f (by omega) hk
theorem ok_check_witness (T : Tx P w K mg) (cW : ClW K CW) {CN : Addr} (r_NoWitness : E0c K mg "NoWitness" CN) (f_is_within : Df P w K mg base 2 "is_within" (spX RW wfIn)) {f : Addr} {fd : FuncData} (F : FW K "check_witness" "Watch.check_witness" s_Watch_check_witness f fd) : Fn P w K mg base 3 f fd ["self", "witness"] (spX RW (wfCk P w CB CS CW fun A => A.many)) := by
  refine fn_data F sc_Watch_check_witness (fun ds s k x h => ?_) fun cv A outer s H G hr gd => ⟨_, (pss_one (ps_if (pt_not (pt_val (pe_df f_is_within hr (by omega) gd rfl (fun σ => Gl.no_pass σ) (pa_cons (pv 1) (pa_cons pe_int (pa_cons (pe_op op_sub (kFld (K := K) (pv 0) rfl) pe_int) pa_nil)))))) (pss_one (ps_raise rfl (takes_of rfl rfl rfl rfl) (pmk_0 r_NoWitness.exc (r_NoWitness.raises rfl) r_NoWitness.mgx r_NoWitness.keep rfl))) pss_nil)), ?_⟩
  · match ds, h with
    | [.opq wa, .int _], _ => rfl
  · skip

    have c1 := cW.cls
    have c2 := cW.n1
    have c3 := cW.n2
    have c4 := cW.n3
    have c5 := cW.n4
    have c6 := cW.n5
    have c7 := cW.n6
    have c8 := cW.n7
    have c9 := cW.n8
    have c10 := cW.n9
    have c11 := cW.n10
    apply bodyW
    · (first | walk_at "sim" | fail)
    intro ds s k x ok hw
    match ds, hw with
    | [.opq wa, .int _], ⟨A, t, W, j, h, rfl, hj, hk⟩ =>
      obtain ⟨dx, hi⟩ := h.ins
      have q1 := h.lg1
      have q2 := h.st1
      have q3 := h.lg2.len
      have q4 := h.st2.len
      have q5 := h.ok.a1
      simp [hi, q1, q2, lkW1, lkW7, lkW8, wfIn, isIn, D.pl, opqs_len]
      have hj : j < A.many := hj
      exact ite_f (by omega) hk
theorem ok_check_client (T : Tx P w K mg) (cW : ClW K CW) {CN : Addr} (r_NoClient : E0c K mg "NoClient" CN) (f_is_within : Df P w K mg base 2 "is_within" (spX RW wfIn)) {f : Addr} {fd : FuncData} (F : FW K "check_client" "Watch.check_client" s_Watch_check_client f fd) : Fn P w K mg base 3 f fd ["self", "client"] (spX RW (wfCk P w CB CS CW fun A => A.acc.length)) := by
  refine fn_data F sc_Watch_check_client (fun ds s k x h => ?_) fun cv A outer s H G hr gd => ⟨_, (pss_one (ps_if (pt_not (pt_val (pe_df f_is_within hr (by omega) gd rfl (fun σ => Gl.no_pass σ) (pa_cons (pv 1) (pa_cons pe_int (pa_cons (pe_op op_sub (C8.pe_gc rfl T.m_MOST_CLIENTS) pe_int) pa_nil)))))) (pss_one (ps_raise rfl (takes_of rfl rfl rfl rfl) (pmk_0 r_NoClient.exc (r_NoClient.raises rfl) r_NoClient.mgx r_NoClient.keep rfl))) pss_nil)), ?_⟩
  · match ds, h with
    | [.opq wa, .int _], _ => rfl
  · skip

    have c1 := cW.cls
    have c2 := cW.n1
    have c3 := cW.n2
    have c4 := cW.n3
    have c5 := cW.n4
    have c6 := cW.n5
    have c7 := cW.n6
    have c8 := cW.n7
    have c9 := cW.n8
    have c10 := cW.n9
    have c11 := cW.n10
    apply bodyW
    · (first | walk_at "sim" | fail)
    intro ds s k x ok hw
    match ds, hw with
    | [.opq wa, .int _], ⟨A, t, W, j, h, rfl, hj, hk⟩ =>
      obtain ⟨dx, hi⟩ := h.ins
      have q1 := h.lg1
      have q2 := h.st1
      have q3 := h.lg2.len
      have q4 := h.st2.len
      have q5 := h.ok.a1
      simp [hi, q1, q2, lkW1, lkW7, lkW8, wfIn, isIn, D.pl, opqs_len]
      have hj : j < A.acc.length := hj
      exact ite_f (by omega) hk
theorem ok_signed (T : Tx P w K mg) (cW : ClW K CW) (q_Watch_check_witness : Cf P w K mg base 3 CW "check_witness" (spX RW (wfCk P w CB CS CW fun A => A.many))) {f : Addr} {fd : FuncData} (F : FW K "signed" "Watch.signed" s_Watch_signed f fd) : Fn P w K mg base 4 f fd ["self", "witness"] (spX RW (wfTell P w CB CS CW fun A i => A.sgn[i]?.map fun is => .tup (is.map iD))) := by
  refine fn_data F sc_Watch_signed (fun ds s k x h => ?_) fun cv A outer s H G hr gd => ⟨_, (pss_cons (ps_expr (pe_mtA q_Watch_check_witness hr (by omega) gd (fun σ => Gl.no_pass σ) (pv 0) (pa_cons (pv 1) pa_nil)))
    (pss_one (ps_ret (pe_callTy (kTuple (K := K)) (by rfl) T.tuple (by decide +kernel) (pa_cons (pe_ix (kIx (K := K)) (kFld (K := K) (pv 0) rfl) (pv 1) (fun _ _ => rfl)) pa_nil))))), ?_⟩
  · match ds, h with
    | [.opq wa, .int _], _ => rfl
  · skip

    have c1 := cW.cls
    have c2 := cW.n1
    have c3 := cW.n2
    have c4 := cW.n3
    have c5 := cW.n4
    have c6 := cW.n5
    have c7 := cW.n6
    have c8 := cW.n7
    have c9 := cW.n8
    have c10 := cW.n9
    have c11 := cW.n10
    apply bodyW
    · (first | walk_at "sim" | fail)
    intro ds s k x ok hw
    match ds, hw with
    | [.opq wa, .int _], ⟨A, t, W, j, d, h, ht, rfl, hj, hk⟩ =>
      obtain ⟨dx, hi⟩ := h.ins
      have q1 := h.sg1
      have q3 := h.sg2.len
      have q5 := h.ok.a1
      have q6 := h.ok.s1
      simp [hi, q1, lkW9, lkW10, opqs_len]
      obtain ⟨is, h1, h2⟩ := Option.map_eq_some_iff.mp hj
      obtain ⟨c, h3, h4⟩ := h.sg2.get' h1
      have h4 : s c = some (.lst (is.map iD)) := h4
      have hlt := (List.getElem?_eq_some_iff.mp h1).1
      subst h2
      refine ⟨noW (by decide), A, t, W, j, h, rfl, (by show j < A.many; omega), ?_⟩
      simp [hi, q1, lkW9, lkW10, atI_nat (opqs_get h3), h4]
      exact hk
theorem ok_accepted (T : Tx P w K mg) (cW : ClW K CW) (q_Watch_check_client : Cf P w K mg base 3 CW "check_client" (spX RW (wfCk P w CB CS CW fun A => A.acc.length))) {f : Addr} {fd : FuncData} (F : FW K "accepted" "Watch.accepted" s_Watch_accepted f fd) : Fn P w K mg base 4 f fd ["self", "client"] (spX RW (wfTell P w CB CS CW fun A i => A.acc[i]?.map fun is => .tup (is.map iD))) := by
  refine fn_data F sc_Watch_accepted (fun ds s k x h => ?_) fun cv A outer s H G hr gd => ⟨_, (pss_cons (ps_expr (pe_mtA q_Watch_check_client hr (by omega) gd (fun σ => Gl.no_pass σ) (pv 0) (pa_cons (pv 1) pa_nil)))
    (pss_one (ps_ret (pe_callTy (kTuple (K := K)) (by rfl) T.tuple (by decide +kernel) (pa_cons (pe_ix (kIx (K := K)) (kFld (K := K) (pv 0) rfl) (pv 1) (fun _ _ => rfl)) pa_nil))))), ?_⟩
  · match ds, h with
    | [.opq wa, .int _], _ => rfl
  · skip

    have c1 := cW.cls
    have c2 := cW.n1
    have c3 := cW.n2
    have c4 := cW.n3
    have c5 := cW.n4
    have c6 := cW.n5
    have c7 := cW.n6
    have c8 := cW.n7
    have c9 := cW.n8
    have c10 := cW.n9
    have c11 := cW.n10
    apply bodyW
    · (first | walk_at "sim" | fail)
    intro ds s k x ok hw
    match ds, hw with
    | [.opq wa, .int _], ⟨A, t, W, j, d, h, ht, rfl, hj, hk⟩ =>
      obtain ⟨dx, hi⟩ := h.ins
      have q1 := h.tk1
      have q3 := h.tk2.len
      have q5 := h.ok.a1
      have q6 := h.ok.s1
      simp [hi, q1, lkW9, lkW10, opqs_len]
      obtain ⟨is, h1, h2⟩ := Option.map_eq_some_iff.mp hj
      obtain ⟨c, h3, h4⟩ := h.tk2.get' h1
      have h4 : s c = some (.lst (is.map iD)) := h4
      have hlt := (List.getElem?_eq_some_iff.mp h1).1
      subst h2
      refine ⟨noW (by decide), A, t, W, j, h, rfl, (by show j < A.acc.length; omega), ?_⟩
      simp [hi, q1, lkW9, lkW10, atI_nat (opqs_get h3), h4]
      exact hk
theorem ok_entries (T : Tx P w K mg) (cW : ClW K CW) (cS : ClS K CS) (q_Watch_check_statement : Cf P w K mg base 3 CW "check_statement" (spX RW (wfCk P w CB CS CW fun A => A.told.length))) (q_Book_raw_parts : Cf P w K mg base 1 CB "raw_parts" (spX RW (wfOf P w CB fun _ y => y))) {f : Addr} {fd : FuncData} (F : FW K "entries" "Watch.entries" s_Watch_entries f fd) : Fn P w K mg base 4 f fd ["self", "statement"] (spX RW (wfTell P w CB CS CW fun A i => A.told[i]?.map fun xs => .tup (xs.map D.str))) := by
  refine fn_data F sc_Watch_entries (fun ds s k x h => ?_) fun cv A outer s H G hr gd => ⟨_, (pss_cons (ps_expr (pe_mtA q_Watch_check_statement hr (by omega) gd (fun σ => Gl.no_pass σ) (pv 0) (pa_cons (pv 1) pa_nil)))
    (pss_one (ps_ret (pe_callTy (kTuple (K := K)) (by rfl) T.tuple (by decide +kernel) (pa_cons (pe_lc (own := [("term", 2)]) (g := gName 2) (by rfl) sc_Watch_entries.nd (kpi (K := K) (kFld (K := K) (pe_ix (kIx (K := K)) (kFld (K := K) (pv 0) rfl) (pv 1) (fun _ _ => rfl)) rfl)) (blkOk_by (own := [("term", 2)]) (N := N_Watch_entries) (sc := defScope s_Watch_entries) (by decide +kernel)) (fun _ _ _ _ _ => pg_name (i := 2) sc_Watch_entries.nd rfl (Or.inl rfl)) (fun _ _ _ _ _ => pts_nil) (fun _ _ _ _ _ => (pe_ix (kIx (K := K)) (pe_mtA q_Book_raw_parts hr (by omega) gd (fun σ => Gl.no_pass σ) (kFld (K := K) (pv 0) rfl) (pa_cons (pv 2) pa_nil)) pe_int (fun _ _ => rfl)))) pa_nil))))), ?_⟩
  · match ds, h with
    | [.opq wa, .int _], _ => rfl
  · skip

    have g1 := FO.one cW.cls cW.n4
    have g2 := FO.one cW.cls cW.n8
    have g3 := FO.one cS.cls cS.n1
    apply bodyW
    · (first | walk_at "sim" | fail)
    intro ds s k x ok hw
    match ds, hw with
    | [.opq wa, .int _], ⟨A, t, W, j, d, h, ht, rfl, hj, hk⟩ =>
      obtain ⟨dx, hi⟩ := h.ins
      have q1 := h.st1
      simp [hi, q1, lkW4, lkW8, opqs_len]
      obtain ⟨xs, h1, h2⟩ := Option.map_eq_some_iff.mp hj
      obtain ⟨c, h3, dy, ns, v, m, h4, h5, h6⟩ := h.st2.get' h1
      have hlt := (List.getElem?_eq_some_iff.mp h1).1
      subst h2
      refine ⟨noW (by decide), A, t, W, j, h, rfl, (by show j < A.told.length; omega), ?_⟩
      simp [hi, q1, lkW4, lkW8, atI_nat (opqs_get h3), h4, lkS1]
      have hl := h5.len
      have h7 := (h.ok.t2 xs (List.mem_of_getElem? h1))
      obtain ⟨dz, zs, b1, b2, b3, b4⟩ := id h.bk
      refine ⟨by rw [rD, List.length_map, sizeLine_eq]; omega, wLc_map (nameOf W.recs) (fun d hd kt hkt => ?_) ?_⟩
      · obtain ⟨n, hn, rfl⟩ := List.mem_map.mp hd
        obtain ⟨x, i, rfl, e⟩ := h5.mem hn
        obtain ⟨e1, e2⟩ := rec_at e
        simp [hi, lkW4, b1]
        have il := ix_lt e
        refine ⟨noM (by decide), W.r, W.p, W.recs, W.fr, .str "name", .tup [.str x], h.bk, by omega, by omega, e1, ?_⟩
        simp [at0]
        have : nameOf W.recs (D.int (i : Nat)) = .str x := e2
        rw [this] at hkt
        exact hkt
      · have e : (rD ns).map (nameOf W.recs) = xs.map D.str := names_of h5
        rw [e]
        exact hk
theorem ok_is_sign (T : Tx P w K mg)  {f : Addr} {fd : FuncData} (F : FD K "is_sign" s_is_sign f fd) : Fn P w K mg base 1 f fd ["sign"] (spX RW wfSign) := by
  refine fn_data F sc_is_sign (fun ds s k x h => ?_) fun cv A outer s H G hr gd => ⟨_, (pss_one (ps_ret (pe_chain (kLe (K := K) hr) (kLe (K := K) hr) pe_str (pv 0) pe_str))), ?_⟩
  · match ds, h with
    | [.str _], _ => rfl
  · skip

    apply bodyW
    · (first | walk_at "sim" | fail)
    intro ds s k x ok hw
    match ds, hw with
    | [.str _], ⟨c, rfl, hk⟩ =>
      simp
      rw [show decide (("~" : Str).cps.toList < [c]) = decide (126 < c) from decide_eq_decide.mpr sign_hi]
      unfold okSign at hk
      by_cases q : 32 ≤ c
      · rw [if_pos (sign_lo.mpr q)]
        have : (decide (32 ≤ c) && decide (c ≤ 126)) = !decide (126 < c) := by
          by_cases z : 126 < c <;> simp [q, z] <;> omega
        rw [this] at hk
        exact hk
      · rw [if_neg fun z => q (sign_lo.mp z)]
        simpa [q] using hk
theorem ok_is_text (T : Tx P w K mg) (f_is_sign : Df P w K mg base 1 "is_sign" (spX RW wfSign)) {f : Addr} {fd : FuncData} (F : FD K "is_text" s_is_text f fd) : Fn P w K mg base 2 f fd ["thing"] (spX RW wfText) := by
  refine fn_data F sc_is_text (fun ds s k x h => ?_) fun cv A outer s H G hr gd => ⟨_, (pss_one (ps_ret (pe_and (pe_callB (kIsi (K := K)) (by rfl) T.isinstance (by decide +kernel) (pa_cons (pv 0) (pa_cons (pe_bltn (v := .ty "str") (by rfl) T.str (by decide +kernel) rfl) pa_nil))) (pe_and (pe_cmpR (kLe (K := K) hr) (pe_callB (kLen (K := K)) (by rfl) T.len (by decide +kernel) (pa_cons (pv 0) pa_nil)) (C8.pe_gc rfl T.m_MOST_TEXT) (nomark _)) (pe_one (pe_callB (kAll (K := K) rfl) (by rfl) T.all (by decide +kernel) (pa_cons (pe_lc (own := [("sign", 1)]) (g := gName 1) (by rfl) sc_is_text.nd (kpi (K := K) (pv 0)) (blkOk_by (own := [("sign", 1)]) (N := N_is_text) (sc := defScope s_is_text) (by decide +kernel)) (fun _ _ _ _ _ => pg_name (i := 1) sc_is_text.nd rfl (Or.inl rfl)) (fun _ _ _ _ _ => pts_nil) (fun _ _ _ _ _ => (pe_df f_is_sign hr (by omega) gd rfl (fun σ => Gl.no_pass σ) (pa_cons (pv 1) pa_nil)))) pa_nil))))))), ?_⟩
  · match ds, h with
    | [.str y], _ => rfl
  · skip

    apply bodyW
    · (first | walk_at "sim" | fail)
    intro ds s k x ok hw
    match ds, hw with
    | [.str y], ⟨⟨hx1, hx2⟩, hk⟩ =>
      simp
      refine ⟨by decide, ite_t (by omega) ⟨?_, wLc_map (fun _ => .bl true) (fun d hd kt hkt => ?_) ⟨_, bls_map (fun _ => true) _, ?_⟩⟩⟩
      · unfold Dw.signs
        rw [List.length_map, Array.length_toList, sizeLine_eq]
        have : y.cps.size ≤ 40 := hx1
        omega
      · obtain ⟨c, hc, rfl⟩ := List.mem_map.mp hd
        simp
        refine ⟨c, rfl, ?_⟩
        rw [hx2 c hc]
        exact hkt
      · have e2 : ∀ l : List D, (l.map fun _ => true).all id = true := fun l => by simp
        rw [e2]
        exact hk
theorem ok_are_liars (T : Tx P w K mg) (f_is_within : Df P w K mg base 2 "is_within" (spX RW wfIn)) {f : Addr} {fd : FuncData} (F : FD K "are_liars" s_are_liars f fd) : Fn P w K mg base 3 f fd ["thing", "many"] (spX RW wfLiars) := by
  refine fn_data F sc_are_liars (fun ds s k x h => ?_) fun cv A outer s H G hr gd => ⟨_, (pss_cons (ps_if (PW.pt (pw_or (pt_not (pt_val (pe_callB (kIsi (K := K)) (by rfl) T.isinstance (by decide +kernel) (pa_cons (pv 0) (pa_cons (pe_bltn (v := .ty "tuple") (by rfl) T.tuple (by decide +kernel) rfl) pa_nil))))) (pw_or1 (pt_not (pt_val (pe_callB (kAll (K := K) rfl) (by rfl) T.all (by decide +kernel) (pa_cons (pe_lc (own := [("one", 2)]) (g := gName 2) (by rfl) sc_are_liars.nd (kpi (K := K) (pv 0)) (blkOk_by (own := [("one", 2)]) (N := N_are_liars) (sc := defScope s_are_liars) (by decide +kernel)) (fun _ _ _ _ _ => pg_name (i := 2) sc_are_liars.nd rfl (Or.inl rfl)) (fun _ _ _ _ _ => pts_nil) (fun _ _ _ _ _ => (pe_df f_is_within hr (by omega) gd rfl (fun σ => Gl.no_pass σ) (pa_cons (pv 2) (pa_cons pe_int (pa_cons (pe_op op_sub (pv 1) pe_int) pa_nil)))))) pa_nil))))))) (pss_one (ps_ret pe_bl)) pss_nil)
    (pss_one (ps_ret (pe_callB (kAll (K := K) rfl) (by rfl) T.all (by decide +kernel) (pa_cons (pe_lc (own := [("one", 2), ("other", 3)]) (g := gTup K 2 (gCons (gName 2) (gCons (gName 3) gNil))) (by rfl) sc_are_liars.nd (RZ.pi_zipA rfl T.zip (pa_cons (pv 0) (pa_cons (pe_slice (kSl (K := K)) (pv 0) (po_some pe_int) po_none) pa_nil))) (blkOk_by (own := [("one", 2), ("other", 3)]) (N := N_are_liars) (sc := defScope s_are_liars) (by decide +kernel)) (fun _ _ _ _ _ => kTup (K := K) (n := 2) rfl (pgs_cons (pg_name (i := 2) sc_are_liars.nd rfl (Or.inl rfl)) (pgs_cons (pg_name (i := 3) sc_are_liars.nd rfl (Or.inl rfl)) pgs_nil))) (fun _ _ _ _ _ => pts_nil) (fun _ _ _ _ _ => (pe_cmpR op_ltX (pv 2) (pv 3) (nomark _)))) pa_nil))))), ?_⟩
  · match ds, h with
    | [.tup _, .int _], _ => rfl
  · skip

    apply bodyW
    · (first | walk_at "sim" | fail)
    intro ds s k x ok hw
    match ds, hw with
    | [.tup _, .int _], ⟨ls, many, rfl, rfl, ll, pw, lm, hk⟩ =>
      have e2 : ∀ l : List D, (l.map fun _ => true).all id = true := fun l => by simp
      simp
      refine ⟨by decide, by rw [sizeLine_eq]; omega, wLc_map (fun _ => .bl true) (fun d hd kt hkt => ?_) ⟨_, bls_map (fun _ => true) _, ite_f (by simp) ⟨?_, wLc_map (fun _ => .bl true) (fun d hd kt hkt => ?_) ⟨_, bls_map (fun _ => true) _, ?_⟩⟩⟩⟩
      · obtain ⟨i, hi, rfl⟩ := List.mem_map.mp hd
        have := lm i hi
        simp [wfIn, D.pl, isIn]
        rw [decide_eq_true (by omega)]
        exact hkt
      · have := pairD_len (ls.map iD) (Dw.cutD (ls.map iD) (some 1) none)
        rw [List.length_map] at this
        rw [sizeLine_eq]
        omega
      · obtain ⟨a, b, rfl, ab⟩ := pair_ltN pw d hd
        simp
        rw [decide_eq_true ab]
        exact hkt
      · rw [e2]
        exact hk
end
end Law
set_option Elab.async false
set_option linter.all false
set_option maxRecDepth 100000
set_option maxHeartbeats 8000000
namespace Law
open PySem PySem.Spec PyProof.Rows L2 Gl Dw


structure Er (P : Program) (K : PySem.W.Frag) (mg : Str → Option Value) (x : Str) (C : Addr) : Prop where
  bad : Ex.BadC P K C "part"
  mgx : mg x = some (.ref C)
  sup : mg "super" = none
  r1 : PySem.W.subIn K (.ref C) (.type "BaseException") = some true
  r2 : PySem.W.typeIn K (.ref C) = some (.type "type")
theorem Er.raises {P : Program} {K : PySem.W.Frag} {mg : Str → Option Value} {x : Str} {C : Addr} (e : Er P K mg x C) {X : Cx} (h : X.K = K) : Raises X (.ref C) := raises_own (h ▸ e.r1) (h ▸ e.r2)
theorem flts_nat : ∀ ls : List Nat, D.flts (ls.map iD) = true
  | [] => rfl
  | _ :: r => flts_nat r
def accNew (many : Nat) (ls : List Nat) (f : Bool) : Acc := ⟨many, ls, f, [[]], [], List.replicate many [], List.replicate 10 []⟩
def wfWI (P : Program) (w : World) (CB CS CW : Addr) : WF Rg := fun ds s k _ => match ds with
  | [.opq wa, .int m, .tup ps, .bl f] => ∃ (dx : Addr) (many : Nat) (ls : List Nat), s wa = some (.ins CW dx []) ∧ m = many ∧ ps = ls.map iD ∧ 1 ≤ many ∧ many ≤ 9 ∧ ls.length ≤ 9 ∧ ls.Pairwise (fun a b => a < b) ∧ (∀ l ∈ ls, l < many) ∧
    ∀ s' W', WatW P w CB CS CW wa (accNew many ls f) 0 0 W' s' → Fm [wa] s s' → (∀ x ∈ W'.all wa, x = wa ∨ s x = none) → k .non s'
  | _ => False
/-- a watch in the making: s ahead of it, t now, X what is new -/
structure Bld (CW wa : Addr) (s t : Rg) (fs : List (Str × D)) (X : List Addr) : Prop where
  ins : ∃ dx, t wa = some (.ins CW dx fs)
  fm : Fm [wa] s t
  nw : wa ∉ X
  nd : X.Nodup
  nx : ∀ x ∈ X, s x = none ∧ t x ≠ none
section
variable {CW wa c : Addr} {s t t' : Rg} {fs fs' : List (Str × D)} {X A B : List Addr}
theorem Bld.s0 (b : Bld CW wa s t fs X) (h : t c = none) : s c = none ∧ c ≠ wa ∧ c ∉ X := by
  obtain ⟨dx, e⟩ := b.ins
  have ne : c ≠ wa := fun z => by rw [z, e] at h; cases h
  refine ⟨?_, ne, fun z => (b.nx c z).2 h⟩
  cases q : s c with
  | none => rfl
  | some o =>
    have := b.fm c (by rw [q]; simp) (fun z => ne (List.mem_singleton.mp z))
    rw [h, q] at this
    cases this
theorem nodup_ins (h : (A ++ B).Nodup) (hc : c ∉ A ++ B) : (A ++ c :: B).Nodup := (List.perm_middle.nodup_iff).mpr (List.nodup_cons.mpr ⟨hc, h⟩)
theorem Bld.new (b : Bld CW wa s t fs (A ++ B)) (h : t c = none) (e : t' c ≠ none) (f : ∀ x, x ≠ c → t x ≠ none → t' x = t x) : Bld CW wa s t' fs (A ++ c :: B) := by
  obtain ⟨h1, h2, h3⟩ := b.s0 h
  obtain ⟨dx, ei⟩ := b.ins
  refine ⟨⟨dx, by rw [f wa (Ne.symm h2) (by rw [ei]; simp)]; exact ei⟩, fun x n m => ?_, fun z => ?_, nodup_ins b.nd h3, fun x hx => ?_⟩
  · have q := b.fm x n m
    have xc : x ≠ c := fun z => n (by rw [z]; exact h1)
    rw [f x xc (by rw [q]; exact n), q]
  · rcases List.mem_append.mp z with z | z
    · exact b.nw (List.mem_append_left _ z)
    · rcases List.mem_cons.mp z with z | z
      · exact h2 z.symm
      · exact b.nw (List.mem_append_right _ z)
  · by_cases xc : x = c
    · subst xc
      exact ⟨h1, e⟩
    · have m : x ∈ A ++ B := by
        rcases List.mem_append.mp hx with z | z
        · exact List.mem_append_left _ z
        · rcases List.mem_cons.mp z with z | z
          · exact absurd z xc
          · exact List.mem_append_right _ z
      obtain ⟨q1, q2⟩ := b.nx x m
      exact ⟨q1, by rw [f x xc q2]; exact q2⟩
theorem Bld.rup (b : Bld CW wa s t fs (A ++ B)) (h : t c = none) (o : Mo) : Bld CW wa s (rup t c o) fs (A ++ c :: B) := b.new h (by rw [rup_same]; simp) fun x n _ => rup_ne n
theorem Bld.chg (b : Bld CW wa s t fs X) (ei : ∃ dx, t' wa = some (.ins CW dx fs')) (f : Fm [wa] t t') : Bld CW wa s t' fs' X :=
  ⟨ei, b.fm.trans f, b.nw, b.nd, fun x hx => ⟨(b.nx x hx).1, by rw [f x (b.nx x hx).2 fun z => b.nw (List.mem_singleton.mp z ▸ hx)]; exact (b.nx x hx).2⟩⟩
theorem Bld.fld (b : Bld CW wa s t fs X) {dx : Addr} : Bld CW wa s (Dw.rup t wa (.ins CW dx fs')) fs' X := b.chg ⟨dx, rup_same⟩ (Fm.put (List.mem_singleton.mpr rfl))
theorem Bld.keep (b : Bld CW wa s t fs X) {x : Addr} {o : Mo} (m : x ∈ X) (e : t x = some o) (f : Fm [wa] t t') : t' x = some o := f.at e fun z => b.nw (List.mem_singleton.mp z ▸ m)
theorem Bld.bk (b : Bld CW wa s t fs X) {P : Program} {w : World} {CB b' r p : Addr} {recs : List D} {fr : Int} (B : BkAt P w CB b' r p recs fr t) (f : Fm [wa] t t') (hb : b' ∈ X) (hr : r ∈ X) (hp : p ∈ X) : BkAt P w CB b' r p recs fr t' :=
  B.fm f (fun z => b.nw (List.mem_singleton.mp z ▸ hb)) (fun z => b.nw (List.mem_singleton.mp z ▸ hr)) (fun z => b.nw (List.mem_singleton.mp z ▸ hp))
theorem fm_nf {o o' : Mo} (h : t c = none) : Fm [wa] t (Dw.rup (Dw.rup t c o) wa o') := (Fm.new h).trans (Fm.put (List.mem_singleton.mpr rfl))
/-- what is new changes -/
theorem Bld.upd (b : Bld CW wa s t fs X) (f : Fm X t t') (n : ∀ x ∈ X, t' x ≠ none) : Bld CW wa s t' fs X := by
  obtain ⟨dx, ei⟩ := b.ins
  exact ⟨⟨dx, f.at ei b.nw⟩, fun x n m => by
    have q := b.fm x n m
    rw [f x (by rw [q]; exact n) (fun z => n (b.nx x z).1), q], b.nw, b.nd, fun x hx => ⟨(b.nx x hx).1, n x hx⟩⟩
end
theorem frB_next {recs : List D} {n : Int} (h : FrB recs n) : FrB (recs ++ [frD n]) (n + 1) := fun d hd m e => by
  rcases List.mem_append.mp hd with hd | hd
  · have := h d hd m e
    omega
  · rw [List.mem_singleton.mp hd] at e
    injection e with e
    injection e with _ e
    injection e with e _
    injection e with e
    injection e with e _
    injection e with e
    omega
theorem al_rep {s : Rg} : ∀ {Gs : List Addr}, (∀ c ∈ Gs, s c = some (.lst [])) → Al (NatAt s) Gs (List.replicate Gs.length [])
  | [], _ => .nil
  | c :: r, h => .cons (h c (List.mem_cons_self ..)) (al_rep fun d hd => h d (List.mem_cons_of_mem _ hd))
theorem acc_new {many : Nat} {ls : List Nat} {f : Bool} (h1 : 1 ≤ many) (h2 : many ≤ 9) : AccOk (accNew many ls f) 0 :=
  ⟨h1, h2, by show 1 ≤ 0 + 1; omega, fun xs m => by rw [List.mem_singleton.mp m]; exact Nat.zero_le _, Nat.zero_le _, fun xs m => (nomatch m), List.length_replicate, fun g m => by
    rw [List.eq_of_mem_replicate m]
    exact ⟨Nat.zero_le _, fun i hi => (nomatch hi)⟩, List.length_replicate, fun g m => by
    rw [List.eq_of_mem_replicate m]
    exact ⟨Nat.zero_le _, fun i hi => (nomatch hi)⟩⟩
theorem rng_len (a : Int) (n : Nat) : (rngD a n).length = n := by rw [rngD_eq]; simp
def fs4 (many : Nat) (ls : List Nat) (fl : Bool) (b : Addr) : List (Str × D) := [("witness_count", .int many), ("liars", .tup (ls.map iD)), ("is_liar", .bl fl), ("pages", .opq b)]
def fs5 (many : Nat) (ls : List Nat) (fl : Bool) (b : Addr) : List (Str × D) := fs4 many ls fl b ++ ([("key", .int (0 : Int))] : List (Str × D))
def fs6 (many : Nat) (ls : List Nat) (fl : Bool) (b wk : Addr) : List (Str × D) := fs5 many ls fl b ++ ([("witness_keys", .opq wk)] : List (Str × D))
def fs7 (many : Nat) (ls : List Nat) (fl : Bool) (b wk ra : Addr) : List (Str × D) := fs6 many ls fl b wk ++ ([("rows", .opq ra)] : List (Str × D))
def fs8 (many : Nat) (ls : List Nat) (fl : Bool) (b wk ra sa : Addr) : List (Str × D) := fs7 many ls fl b wk ra ++ ([("statements", .opq sa)] : List (Str × D))
def fs9 (many : Nat) (ls : List Nat) (fl : Bool) (b wk ra sa ga : Addr) : List (Str × D) := fs8 many ls fl b wk ra sa ++ ([("signs", .opq ga)] : List (Str × D))
def fs10 (many : Nat) (ls : List Nat) (fl : Bool) (b wk ra sa ga ta : Addr) : List (Str × D) := fs9 many ls fl b wk ra sa ga ++ ([("taken", .opq ta)] : List (Str × D))
section
variable {many : Nat} {ls : List Nat} {fl : Bool} {b wk ra sa ga ta : Addr}
theorem lk4 : List.lookup ("pages" : Str) (fs4 many ls fl b) = some (.opq b) := rfl
theorem lk5 : List.lookup ("pages" : Str) (fs5 many ls fl b) = some (.opq b) := rfl
end
def wIni (many : Nat) (ls : List Nat) (f : Bool) (v4 v5 : Sl) (wa : Addr) : List Sl := [.dat (.opq wa), .dat (.int many), .dat (.tup (ls.map iD)), .dat (.bl f), v4, v5]
abbrev s_Watch___init__ : Stmt := inClass (top 56) 0
abbrev N_Watch___init__ : List Str := ["self", "many", "liars", "is_liar", "witness", "client"]
theorem sc_Watch___init__ : FnScope N_Watch___init__ ["self", "many", "liars", "is_liar"] (defScope s_Watch___init__) := ⟨rfl, rfl, rfl, by decide +kernel, rfl, by decide +kernel, by decide +kernel⟩
section
variable {P : Program} {w : World} {K : PySem.W.Frag} {mg : Str → Option Value} {base : Heap} {CB CH CS CW : Addr}
theorem ok_Watch_init (T : Tx P w K mg) (cW : ClW K CW) (cB : ClB K CB) {CN : Addr} (cBadWatch : Er P K mg "BadWatch" CN) (f_is_within : Df P w K mg base 2 "is_within" (spX RW wfIn)) (f_are_liars : Df P w K mg base 3 "are_liars" (spX RW wfLiars)) (kBook : Gl.Cm P w K mg base 1 "Book" CB (spBk P w CB)) (q_Book_fresh : Cf P w K mg base 2 CB "fresh" (spX RW (wfFresh P w CB))) {f : Addr} {fd : FuncData} (F : FW K "__init__" "Watch.__init__" s_Watch___init__ f fd) : Fn P w K mg base 4 f fd ["self", "many", "liars", "is_liar"] (spX RW (wfWI P w CB CS CW)) := by
  refine fn_data F sc_Watch___init__ (fun ds s k x h => ?_) fun cv A outer s H G hr gd => ⟨_, (pss_cons (ps_if (pt_not (pt_val (pe_df f_is_within hr (by omega) gd rfl (fun σ => Gl.no_pass σ) (pa_cons (pv 1) (pa_cons pe_int (pa_cons (C8.pe_gc rfl T.m_MOST_WITNESSES) pa_nil)))))) (pss_one (ps_raise rfl (takes_of rfl rfl rfl rfl) (pmk_mkE cBadWatch.bad (cBadWatch.raises rfl) cBadWatch.mgx cBadWatch.sup hr (by omega) pe_str rfl))) pss_nil)
    (pss_cons (ps_if (pt_not (pt_val (pe_df f_are_liars hr (by omega) gd rfl (fun σ => Gl.no_pass σ) (pa_cons (pv 2) (pa_cons (pv 1) pa_nil))))) (pss_one (ps_raise rfl (takes_of rfl rfl rfl rfl) (pmk_mkE cBadWatch.bad (cBadWatch.raises rfl) cBadWatch.mgx cBadWatch.sup hr (by omega) pe_str rfl))) pss_nil)
    (pss_cons (ps_if (pt_not (pt_val (pe_callB (kIsi (K := K)) (by rfl) T.isinstance (by decide +kernel) (pa_cons (pv 3) (pa_cons (pe_bltn (v := .ty "bool") (by rfl) T.bool (by decide +kernel) rfl) pa_nil))))) (pss_one (ps_raise rfl (takes_of rfl rfl rfl rfl) (pmk_mkE cBadWatch.bad (cBadWatch.raises rfl) cBadWatch.mgx cBadWatch.sup hr (by omega) pe_str rfl))) pss_nil)
    (pss_cons (kFldS (K := K) (ps_fld (pv 0) (pv 1) rfl))
    (pss_cons (kFldS (K := K) (ps_fld (pv 0) (pv 2) rfl))
    (pss_cons (kFldS (K := K) (ps_fld (pv 0) (pv 3) rfl))
    (pss_cons (kFldS (K := K) (ps_fld (pv 0) (pe_mkC0 kBook hr (by omega) gd rfl (fun σ => Gl.no_pass σ)) rfl))
    (pss_cons (kFldS (K := K) (ps_fld (pv 0) (pe_mt0 q_Book_fresh hr (by omega) gd (fun σ => Gl.no_pass σ) (kFld (K := K) (pv 0) rfl)) rfl))
    (pss_cons (kFldS (K := K) (ps_fld (pv 0) (pe_reg (pe_lc (own := [("witness", 4)]) (g := gName 4) (by rfl) sc_Watch___init__.nd (pi_range1 rfl T.range (pa_cons (pv 1) pa_nil)) (blkOk_by (own := [("witness", 4)]) (N := N_Watch___init__) (sc := defScope s_Watch___init__) (by decide +kernel)) (fun _ _ _ _ _ => pg_name (i := 4) sc_Watch___init__.nd rfl (Or.inl rfl)) (fun _ _ _ _ _ => pts_nil) (fun _ _ _ _ _ => (pe_mt0 q_Book_fresh hr (by omega) gd (fun σ => Gl.no_pass σ) (kFld (K := K) (pv 0) rfl))))) rfl))
    (pss_cons (kFldS (K := K) (ps_fld (pv 0) (pe_reg (pe_lst (pa_cons (pe_reg (pe_lst pa_nil)) pa_nil))) rfl))
    (pss_cons (kFldS (K := K) (ps_fld (pv 0) (pe_reg (pe_lst pa_nil)) rfl))
    (pss_cons (kFldS (K := K) (ps_fld (pv 0) (pe_reg (pe_lc (own := [("witness", 4)]) (g := gName 4) (by rfl) sc_Watch___init__.nd (pi_range1 rfl T.range (pa_cons (pv 1) pa_nil)) (blkOk_by (own := [("witness", 4)]) (N := N_Watch___init__) (sc := defScope s_Watch___init__) (by decide +kernel)) (fun _ _ _ _ _ => pg_name (i := 4) sc_Watch___init__.nd rfl (Or.inl rfl)) (fun _ _ _ _ _ => pts_nil) (fun _ _ _ _ _ => (pe_reg (pe_lst pa_nil))))) rfl))
    (pss_one (kFldS (K := K) (ps_fld (pv 0) (pe_reg (pe_lc (own := [("client", 5)]) (g := gName 5) (by rfl) sc_Watch___init__.nd (pi_range1 rfl T.range (pa_cons (C8.pe_gc rfl T.m_MOST_CLIENTS) pa_nil)) (blkOk_by (own := [("client", 5)]) (N := N_Watch___init__) (sc := defScope s_Watch___init__) (by decide +kernel)) (fun _ _ _ _ _ => pg_name (i := 5) sc_Watch___init__.nd rfl (Or.inl rfl)) (fun _ _ _ _ _ => pts_nil) (fun _ _ _ _ _ => (pe_reg (pe_lst pa_nil))))) rfl))))))))))))))), ?_⟩
  · match ds, h with
    | [.opq wa, .int _, .tup _, .bl fl], _ => rfl
  · skip

    have g1 := FO.one cW.cls cW.n1
    have g2 := FO.one cW.cls cW.n2
    have g3 := FO.one cW.cls cW.n3
    have g4 := FO.one cW.cls cW.n4
    have g5 := FO.one cW.cls cW.n5
    have g6 := FO.one cW.cls cW.n6
    have g7 := FO.one cW.cls cW.n7
    have g8 := FO.one cW.cls cW.n8
    have g9 := FO.one cW.cls cW.n9
    have g10 := FO.one cW.cls cW.n10
    apply bodyW
    · (first | walk_at "sim" | fail)
    intro ds s k x ok hw
    match ds, hw with
    | [.opq wa, .int _, .tup _, .bl fl], ⟨dx, many, ls, hw, rfl, rfl, m1, m9, l9, pw, lm, hk⟩ =>
      refine cut (fun env t => t = s ∧ env = wIni many ls fl .no .no wa) (fun K1 h1 _ _ => ?_) fun env t hI => ?_
      · simp [wfIn, isIn, D.pl]
        exact ite_f (by omega) (h1 _ _ ⟨rfl, rfl⟩)
      obtain ⟨rfl, rfl⟩ := hI
      refine cut (fun env t' => t' = t ∧ env = wIni many ls fl .no .no wa) (fun K1 h1 _ _ => ?_) fun env t' hI => ?_
      · simp [wIni]
        exact ⟨ls, many, rfl, rfl, l9, pw, lm, h1 _ _ ⟨rfl, rfl⟩⟩
      obtain ⟨rfl, rfl⟩ := hI
      refine cut (fun env t => t = t' ∧ env = wIni many ls fl .no .no wa) (fun K1 h1 _ _ => ?_) fun env t hI => ?_
      · simp [wIni]
        exact ⟨by decide, h1 _ _ ⟨rfl, rfl⟩⟩
      obtain ⟨rfl, rfl⟩ := hI
      have b0 : Bld CW wa t t [] [] := ⟨⟨dx, hw⟩, .refl, by simp, List.nodup_nil, fun x hx => (nomatch hx)⟩
      refine cut (fun env u => env = wIni many ls fl .no .no wa ∧ Bld CW wa t u [("witness_count", .int many)] []) (fun K1 h1 _ _ => ?_) fun env u hI => ?_
      · simp [wIni, hw]
        exact h1 _ _ ⟨rfl, b0.fld⟩
      obtain ⟨rfl, b1⟩ := hI
      refine cut (fun env u => env = wIni many ls fl .no .no wa ∧ Bld CW wa t u [("witness_count", .int many), ("liars", .tup (ls.map iD))] []) (fun K1 h1 _ _ => ?_) fun env u hI => ?_
      · obtain ⟨dx, e⟩ := b1.ins
        simp [wIni, e]
        refine ⟨flts_nat ls, h1 _ _ ⟨rfl, b1.fld⟩⟩
      obtain ⟨rfl, b2⟩ := hI
      refine cut (fun env u => env = wIni many ls fl .no .no wa ∧ Bld CW wa t u [("witness_count", .int many), ("liars", .tup (ls.map iD)), ("is_liar", .bl fl)] []) (fun K1 h1 _ _ => ?_) fun env u hI => ?_
      · obtain ⟨dx, e⟩ := b2.ins
        simp [wIni, e]
        exact h1 _ _ ⟨rfl, b2.fld⟩
      obtain ⟨rfl, b3⟩ := hI
      refine cut (fun env u => env = wIni many ls fl .no .no wa ∧ ∃ b r p, Bld CW wa t u (fs4 many ls fl b) [b, r, p] ∧ BkAt P w CB b r p [] 0 u) (fun K1 h1 _ _ => ?_) fun env u hI => ?_
      · obtain ⟨dx, e⟩ := b3.ins
        simp [wIni]
        intro b dxb r p nb nr np nbr nbp nrp
        have c1 := b3.s0 nb
        have c2 := b3.s0 nr
        have c3 := b3.s0 np
        rw [rup_ne (Ne.symm c1.2.1), rup_ne (Ne.symm c3.2.1), rup_ne (Ne.symm c2.2.1), e]
        refine ⟨rfl, (show 3 < 1000 by decide), h1 _ _ ⟨rfl, b, r, p, ?_, dxb, [], ?_, ?_, ?_, nbr, nbp, nrp, rfl, fun i d hd => by simp at hd⟩⟩
        · have q1 := (b3.rup (A := []) (B := []) nr (.lst []))
          have q2 := q1.rup (A := [r]) (B := []) (c := p) (by rw [rup_ne (Ne.symm nrp)]; exact np) (.nst P w [])
          have q3 := q2.rup (A := []) (B := [r, p]) (c := b) (by rw [rup_ne nbp, rup_ne nbr]; exact nb) (.ins CB dxb (bkFs r p 0))
          exact q3.fld
        · rw [rup_ne c1.2.1, rup_same]
        · rw [rup_ne c2.2.1, rup_ne (Ne.symm nbr), rup_ne nrp, rup_same]
        · rw [rup_ne c3.2.1, rup_ne (Ne.symm nbp), rup_same]
      obtain ⟨rfl, b, r, p, b4, B⟩ := hI
      refine cut (fun env u => env = wIni many ls fl .no .no wa ∧ Bld CW wa t u (fs5 many ls fl b) [b, r, p] ∧ ∃ recs fr, BkAt P w CB b r p recs fr u ∧ FrB recs fr ∧ recs.length = 1) (fun K1 h1 _ _ => ?_) fun env u hI => ?_
      · obtain ⟨dx, e⟩ := b4.ins
        obtain ⟨dy, xs, f1, f2, f3, _⟩ := id B
        simp [wIni, e, lk4, f1]
        refine ⟨noM (by decide), r, p, [], 0, B, fun d hd => (nomatch hd), by decide, fun s' B' o => ?_⟩
        have nwa := b4.nw
        simp only [List.mem_cons, List.not_mem_nil, or_false, not_or] at nwa
        dsimp only
        rw [o wa nwa.1 nwa.2.1 nwa.2.2, e]
        refine ⟨rfl, rfl, (show 4 < 1000 by decide), h1 _ _ ⟨rfl, ?_, _, _, B'.fm (X := [wa]) (Fm.put (List.mem_singleton.mpr rfl)) ?_ ?_ ?_, frB_next (fun d hd => (nomatch hd)), rfl⟩⟩
        · have q : Bld CW wa t s' (fs4 many ls fl b) [b, r, p] := by
            obtain ⟨dz, zs, g1, g2, g3, _⟩ := id B'
            refine b4.upd (fun x _ m => o x ?_ ?_ ?_) fun x hx => ?_
            · intro z; exact m (by rw [z]; simp)
            · intro z; exact m (by rw [z]; simp)
            · intro z; exact m (by rw [z]; simp)
            · simp only [List.mem_cons, List.not_mem_nil, or_false] at hx
              rcases hx with rfl | rfl | rfl
              · rw [g1]; simp
              · rw [g2]; simp
              · rw [g3]; simp
          exact q.fld
        · simpa using Ne.symm nwa.1
        · simpa using Ne.symm nwa.2.1
        · simpa using Ne.symm nwa.2.2
      obtain ⟨rfl, b5, B⟩ := hI
      clear b0 b1 b2 b3 b4
      refine cut (fun env u => env = wIni many ls fl .no .no wa ∧ ∃ wk ks, Bld CW wa t u (fs6 many ls fl b wk) [b, r, p, wk] ∧ u wk = some (.lst (rD ks)) ∧ ks.length = many ∧ ∃ recs fr, BkAt P w CB b r p recs fr u ∧ recs.length = 1 + many) (fun K1 h1 _ _ => ?_) fun env u hI => ?_
      · simp [wIni]
        refine ⟨by rw [sizeLine_eq]; omega, by rw [rng_len, sizeLine_eq]; omega, wLc_fold (fun done ys u' => Bld CW wa t u' (fs5 many ls fl b) [b, r, p] ∧ (∃ recs fr, BkAt P w CB b r p recs fr u' ∧ FrB recs fr ∧ recs.length = 1 + done.length) ∧ ∃ ks : List Int, ys = rD ks ∧ ks.length = done.length) (fun done d rest ys u' e0 hI kt hkt => ?_) ⟨b5, B, [], rfl, rfl⟩ fun ys u' hI => ?_⟩
        · obtain ⟨b5', ⟨recs, fr, B', fb, rl⟩, ks, rfl, kl⟩ := hI
          obtain ⟨dx, e⟩ := b5'.ins
          obtain ⟨dy, xs, f1, f2, f3, _⟩ := id B'
          have dl : done.length < many := by
            have := congrArg List.length e0
            rw [rng_len] at this
            simp at this
            omega
          simp [e, lk5, f1]
          refine ⟨noM (by decide), r, p, recs, fr, B', fb, by omega, fun s' B2 o => ?_⟩
          refine hkt _ _ ⟨?_, ⟨_, _, B2, frB_next fb, by simp [rl]; omega⟩, ks ++ [(recs.length : Int)], by simp [rD], by simp [kl]⟩
          obtain ⟨dz, zs, g1, g2, g3, _⟩ := id B2
          refine b5'.upd (fun x _ m => o x ?_ ?_ ?_) fun x hx => ?_
          · intro z; exact m (by rw [z]; simp)
          · intro z; exact m (by rw [z]; simp)
          · intro z; exact m (by rw [z]; simp)
          · simp only [List.mem_cons, List.not_mem_nil, or_false] at hx
            rcases hx with rfl | rfl | rfl
            · rw [g1]; simp
            · rw [g2]; simp
            · rw [g3]; simp
        · obtain ⟨b5', ⟨recs, fr, B', fb, rl⟩, ks, rfl, kl⟩ := hI
          rw [rng_len] at rl kl
          refine ⟨flts_of fun d hd => by obtain ⟨i, _, rfl⟩ := List.mem_map.mp hd; rfl, fun wk _ nk => ?_⟩
          obtain ⟨q1, q2, q3⟩ := b5'.s0 nk
          obtain ⟨dx, e⟩ := b5'.ins
          have nwa := b5'.nw
          simp only [List.mem_cons, List.not_mem_nil, or_false, not_or] at nwa q3
          rw [rup_ne (Ne.symm q2), e]
          refine ⟨rfl, (show 5 < 1000 by decide), h1 _ _ ⟨rfl, wk, ks, (b5'.rup (A := [b, r, p]) (B := []) nk (.lst (rD ks))).fld, by rw [rup_ne q2, rup_same], kl, recs, fr, ?_, rl⟩⟩
          exact (B'.fm (X := [wa]) (Fm.new nk) (by simpa using Ne.symm nwa.1) (by simpa using Ne.symm nwa.2.1) (by simpa using Ne.symm nwa.2.2)).fm (X := [wa]) (Fm.put (List.mem_singleton.mpr rfl)) (by simpa using Ne.symm nwa.1) (by simpa using Ne.symm nwa.2.1) (by simpa using Ne.symm nwa.2.2)
      obtain ⟨rfl, wk, ks, b6, hwk, lk, B⟩ := hI
      clear b5
      refine cut (fun env u => env = wIni many ls fl .no .no wa ∧ ∃ ra l0, Bld CW wa t u (fs7 many ls fl b wk ra) [b, r, p, wk, ra, l0] ∧ u wk = some (.lst (rD ks)) ∧ (∃ recs fr, BkAt P w CB b r p recs fr u ∧ recs.length = 1 + many) ∧ u ra = some (.lst (opqs [l0])) ∧ u l0 = some (.lst [])) (fun K1 h1 _ _ => ?_) fun env u hI => ?_
      · simp [wIni]
        intro l0 n0
        refine ⟨by decide, fun ra nr0 nr => ?_⟩
        have ne : ra ≠ l0 := fun z => by rw [z, rup_same] at nr; cases nr
        have q1 := b6.rup (A := [b, r, p, wk]) (B := []) n0 (.lst [])
        have q2 := q1.rup (A := [b, r, p, wk]) (B := [l0]) nr (.lst (opqs [l0]))
        obtain ⟨dx, e⟩ := q2.ins
        have a1 := b6.s0 n0
        have a2 := q1.s0 nr
        have e' : rup (rup u l0 (.lst [])) ra (.lst [D.opq l0]) wa = some (.ins CW dx (fs6 many ls fl b wk)) := e
        rw [e']
        obtain ⟨recs, fr, B, rl⟩ := B
        have f : Fm [wa] u (rup (rup (rup u l0 (.lst [])) ra (.lst (opqs [l0]))) wa (.ins CW dx (fs7 many ls fl b wk ra))) := (Fm.new n0).trans (fm_nf nr)
        refine ⟨rfl, (show 6 < 1000 by decide), h1 _ _ ⟨rfl, ra, l0, q2.fld, b6.keep (by simp) hwk f, ⟨recs, fr, b6.bk B f (by simp) (by simp) (by simp), rl⟩, ?_, ?_⟩⟩
        · rw [rup_ne a2.2.1, rup_same]
          rfl
        · rw [rup_ne a1.2.1, rup_ne (Ne.symm ne), rup_same]
      obtain ⟨rfl, ra, l0, b7, hwk, B, hra, hl0⟩ := hI
      clear b6
      refine cut (fun env u => env = wIni many ls fl .no .no wa ∧ ∃ sa, Bld CW wa t u (fs8 many ls fl b wk ra sa) [b, r, p, wk, ra, sa, l0] ∧ u wk = some (.lst (rD ks)) ∧ (∃ recs fr, BkAt P w CB b r p recs fr u ∧ recs.length = 1 + many) ∧ u ra = some (.lst (opqs [l0])) ∧ u l0 = some (.lst []) ∧ u sa = some (.lst (opqs []))) (fun K1 h1 _ _ => ?_) fun env u hI => ?_
      · simp [wIni]
        intro sa ns
        obtain ⟨dx, e⟩ := b7.ins
        have a1 := b7.s0 ns
        rw [rup_ne (Ne.symm a1.2.1), e]
        obtain ⟨recs, fr, B, rl⟩ := B
        have f : Fm [wa] u (rup (rup u sa (.lst [])) wa (.ins CW dx (fs8 many ls fl b wk ra sa))) := fm_nf ns
        refine ⟨rfl, (show 7 < 1000 by decide), h1 _ _ ⟨rfl, sa, (b7.rup (A := [b, r, p, wk, ra]) (B := [l0]) ns _).fld, b7.keep (by simp) hwk f, ⟨recs, fr, b7.bk B f (by simp) (by simp) (by simp), rl⟩, b7.keep (by simp) hra f, b7.keep (by simp) hl0 f, ?_⟩⟩
        rw [rup_ne a1.2.1, rup_same]
        rfl
      obtain ⟨rfl, sa, b8, hwk, B, hra, hl0, hsa⟩ := hI
      clear b7
      refine cut (fun env u => (∃ v4, env = wIni many ls fl v4 .no wa) ∧ ∃ ga Gs, Bld CW wa t u (fs9 many ls fl b wk ra sa ga) ([b, r, p, wk, ra, sa, ga, l0] ++ Gs) ∧ u wk = some (.lst (rD ks)) ∧ (∃ recs fr, BkAt P w CB b r p recs fr u ∧ recs.length = 1 + many) ∧ u ra = some (.lst (opqs [l0])) ∧ u l0 = some (.lst []) ∧ u sa = some (.lst (opqs [])) ∧ u ga = some (.lst (opqs Gs)) ∧ Gs.length = many ∧ ∀ c ∈ Gs, u c = some (.lst [])) (fun K1 h1 _ _ => ?_) fun env u hI => ?_
      · simp [wIni]
        refine ⟨by rw [sizeLine_eq]; omega, by rw [rng_len, sizeLine_eq]; omega, wLc_fold (fun done ys u' => ∃ Gs, Bld CW wa t u' (fs8 many ls fl b wk ra sa) ([b, r, p, wk, ra, sa, l0] ++ Gs) ∧ Fm [wa] u u' ∧ ys = opqs Gs ∧ Gs.length = done.length ∧ ∀ c ∈ Gs, u' c = some (.lst [])) (fun done d rest ys u' e0 hI kt hkt => ?_) ⟨[], by rw [List.append_nil]; exact b8, .refl, rfl, rfl, fun c hc => (nomatch hc)⟩ fun ys u' hI => ?_⟩
        · obtain ⟨Gs, b8', fm, rfl, gl, hgs⟩ := hI
          simp
          intro c nc
          have a1 := b8'.s0 nc
          refine hkt _ _ ⟨Gs ++ [c], ?_, fm.trans (Fm.new nc), by simp [opqs], by simp [gl], fun c' hc' => ?_⟩
          · have q := Bld.rup (A := [b, r, p, wk, ra, sa, l0] ++ Gs) (B := []) (by rw [List.append_nil]; exact b8') nc (.lst [])
            rw [List.append_assoc] at q
            exact q
          · rcases List.mem_append.mp hc' with m | m
            · rw [rup_ne fun z => by rw [z] at m; exact a1.2.2 (List.mem_append_right _ m)]
              exact hgs c' m
            · rw [List.mem_singleton.mp m, rup_same]
        · obtain ⟨Gs, b8', fm, rfl, gl, hgs⟩ := hI
          rw [rng_len] at gl
          refine ⟨flts_of fun d hd => by obtain ⟨i, _, rfl⟩ := List.mem_map.mp hd; rfl, fun ga _ ng => ?_⟩
          have a1 := b8'.s0 ng
          obtain ⟨dx, e⟩ := b8'.ins
          rw [rup_ne (Ne.symm a1.2.1), e]
          obtain ⟨recs, fr, B, rl⟩ := B
          have f : Fm [wa] u (rup (rup u' ga (.lst (opqs Gs))) wa (.ins CW dx (fs9 many ls fl b wk ra sa ga))) := fm.trans (fm_nf ng)
          refine ⟨rfl, (show 8 < 1000 by decide), h1 _ _ ⟨⟨_, rfl⟩, ga, Gs, (Bld.rup (A := [b, r, p, wk, ra, sa]) (B := l0 :: Gs) b8' ng _).fld, b8.keep (by simp) hwk f, ⟨recs, fr, b8.bk B f (by simp) (by simp) (by simp), rl⟩, b8.keep (by simp) hra f, b8.keep (by simp) hl0 f, b8.keep (by simp) hsa f, ?_, gl, fun c hc => b8'.keep (List.mem_append_right _ hc) (hgs c hc) (fm_nf ng)⟩⟩
          rw [rup_ne a1.2.1, rup_same]
      obtain ⟨⟨v4, rfl⟩, ga, Gs, b9, hwk, B, hra, hl0, hsa, hga, gl, hgs⟩ := hI
      clear b8
      refine last (fun env u => k .non u) (fun K1 h1 _ _ => ?_) fun env u hI => hI
      simp [wIni]
      refine ⟨by rw [sizeLine_eq]; decide, by rw [rng_len, sizeLine_eq]; decide, wLc_fold (fun done ys u' => ∃ Ts, Bld CW wa t u' (fs9 many ls fl b wk ra sa ga) ([b, r, p, wk, ra, sa, ga, l0] ++ (Gs ++ Ts)) ∧ Fm [wa] u u' ∧ ys = opqs Ts ∧ Ts.length = done.length ∧ ∀ c ∈ Ts, u' c = some (.lst [])) (fun done d rest ys u' e0 hI kt hkt => ?_) ⟨[], by rw [List.append_nil]; exact b9, .refl, rfl, rfl, fun c hc => (nomatch hc)⟩ fun ys u' hI => ?_⟩
      · obtain ⟨Ts, b9', fm, rfl, tl, hts⟩ := hI
        simp
        intro c nc
        have a1 := b9'.s0 nc
        refine hkt _ _ ⟨Ts ++ [c], ?_, fm.trans (Fm.new nc), by simp [opqs], by simp [tl], fun c' hc' => ?_⟩
        · have q := Bld.rup (A := [b, r, p, wk, ra, sa, ga, l0] ++ (Gs ++ Ts)) (B := []) (by rw [List.append_nil]; exact b9') nc (.lst [])
          rw [List.append_assoc, List.append_assoc] at q
          exact q
        · rcases List.mem_append.mp hc' with m | m
          · rw [rup_ne fun z => by rw [z] at m; exact a1.2.2 (List.mem_append_right _ (List.mem_append_right _ m))]
            exact hts c' m
          · rw [List.mem_singleton.mp m, rup_same]
      · obtain ⟨Ts, b9', fm, rfl, tl, hts⟩ := hI
        rw [rng_len] at tl
        refine ⟨flts_of fun d hd => by obtain ⟨i, _, rfl⟩ := List.mem_map.mp hd; rfl, fun ta _ nt => ?_⟩
        have a1 := b9'.s0 nt
        obtain ⟨dx, e⟩ := b9'.ins
        rw [rup_ne (Ne.symm a1.2.1), e]
        obtain ⟨recs, fr, B, rl⟩ := B
        have f0 : Fm [wa] u' (rup (rup u' ta (.lst (opqs Ts))) wa (.ins CW dx (fs10 many ls fl b wk ra sa ga ta))) := fm_nf nt
        have f := fm.trans f0
        have b10 := (Bld.rup (A := [b, r, p, wk, ra, sa, ga]) (B := l0 :: (Gs ++ Ts)) b9' nt (.lst (opqs Ts))).fld (dx := dx) (fs' := fs10 many ls fl b wk ra sa ga ta)
        refine ⟨rfl, (show 9 < 1000 by decide), h1 _ _ (hk _ ⟨b, r, p, wk, ra, sa, ga, ta, [l0], [], Gs, Ts, 0, ks, recs, fr⟩ ⟨acc_new m1 m9, ⟨dx, rup_same⟩, b9.bk B f (by simp) (by simp) (by simp), by show recs.length ≤ _; omega, b9.keep (by simp) hwk f, lk, b9.keep (by simp) hra f, .cons ⟨[], b9.keep (by simp) hl0 f, .nil⟩ .nil, b9.keep (by simp) hsa f, .nil, b9.keep (by simp) hga f, ?_, ?_, ?_, ?_⟩ ?_ ?_)⟩
        · show Al _ Gs (List.replicate many [])
          have q := al_rep fun c hc => b9.keep (List.mem_append_right _ hc) (hgs c hc) f
          rw [gl] at q
          exact q
        · rw [rup_ne a1.2.1, rup_same]
        · show Al _ Ts (List.replicate 10 [])
          have q := al_rep fun c hc => b9'.keep (List.mem_append_right _ (List.mem_append_right _ hc)) (hts c hc) f0
          rw [tl] at q
          exact q
        · exact List.nodup_cons.mpr ⟨b10.nw, b10.nd⟩
        · exact b10.fm
        · intro x hx
          rcases List.mem_cons.mp hx with rfl | hx
          · exact .inl rfl
          · exact .inr (b10.nx x hx).1
end
end Law
set_option Elab.async false
set_option linter.all false
set_option maxRecDepth 100000
set_option maxHeartbeats 1000000
namespace Law
open PySem PySem.Spec PyProof.Rows L2 Gl Dw


/-- a deed: the account behind it, what is told -/
def wfDo (P : Program) (w : World) (CB CS CW : Addr) (R : Acc → List D → Acc → D → Prop) : WF Rg := fun ds s k _ => match ds with
  | .opq wa :: as => ∃ A t W A' d, WatW P w CB CS CW wa A t t W s ∧ t ≤ 62 ∧ R A as A' d ∧ ∀ s' W', WatW P w CB CS CW wa A' (t + 1) (t + 1) W' s' → Nxt wa W W' s s' → k d s'
  | _ => False
def rAddL : Acc → List D → Acc → D → Prop := fun A as A' d => ∃ (j : Nat) (x : Str), as = [.int j, .str x] ∧ j < A.logs.length ∧ okText x ∧ A' = A.add j x ∧ d = .int (A.logs.getD j []).length
def rBranch : Acc → List D → Acc → D → Prop := fun A as A' d => ∃ (j n : Nat), as = [.int j, .int n] ∧ j < A.logs.length ∧ n ≤ (A.logs.getD j []).length ∧ A.liar = true ∧ A' = A.branch j n ∧ d = .int A.logs.length
def rSign : Acc → List D → Acc → D → Prop := fun A as A' d => ∃ (j : Nat), as = [.int j] ∧ j < A.logs.length ∧ A' = A.sign j ∧ d = .int A.told.length
abbrev s_Watch_add : Stmt := inClass (top 56) 5
abbrev N_Watch_add : List Str := ["self", "log", "text"]
theorem sc_Watch_add : FnScope N_Watch_add ["self", "log", "text"] (defScope s_Watch_add) := ⟨rfl, rfl, rfl, by decide +kernel, rfl, by decide +kernel, by decide +kernel⟩
theorem off_fm {b r p : Addr} {s s' : Rg} (o : OffB b r p s s') : Fm [b, r, p] s s' := fun x _ m => o x (fun z => m (by rw [z]; simp)) (fun z => m (by rw [z]; simp)) (fun z => m (by rw [z]; simp))
theorem put_gives (recs : List D) (d : D) : ∃ more n, put recs d = (recs ++ more, n) ∧ more.length ≤ 1 ∧ ixOf (recs ++ more) d = some n := by
  obtain ⟨more, e, l⟩ := put_more recs d
  refine ⟨more, (put recs d).2, ?_, l, ?_⟩
  · rw [← e]
  · rw [← e]
    exact ix_put recs d
theorem cut_take {ds : List D} {n : Nat} : Dw.cutD ds none (some (n : Int)) = ds.take n := by
  unfold Dw.cutD
  rw [HT.sIx_none, HT.sIx_nat]
  simp [List.take_take]
section
variable {P : Program} {w : World} {CB CS CW wa : Addr} {A : Acc} {t u : Nat} {W : Wad} {s s' : Rg}
/-- an entry put into the pages of a watch -/
theorem raw_wat (h : WatW P w CB CS CW wa A t u W s) {kd : Str} {ps : List D} {key : NestedKey} {k : D → Rg → Prop} {x : Xc → Rg → Prop} (nk : (eD kd ps).nk = some key) (kdp : key.depth ≤ 8) (fl : D.flts ps = true) (hu : u ≤ 200)
    (hk : ∀ (s' : Rg) (more : List D) (n : Nat), BkAt P w CB W.b W.r W.p (W.recs ++ more) W.fr s' → more.length ≤ 1 → ixOf (W.recs ++ more) (eD kd ps) = some n → Fm [W.b, W.r, W.p] s s' → k (.int (n : Nat)) s') : wfRaw P w CB [.opq W.b, .str kd, .tup ps] s k x := by
  obtain ⟨more, n, e, l, ix⟩ := put_gives W.recs (eD kd ps)
  have z := h.bz
  refine raw_ok h.bk nk kdp fl (by omega) fun s1 B1 o1 => ?_
  rw [e] at B1 ⊢
  exact hk s1 more n B1 l ix (off_fm o1)
end
section
variable {P : Program} {w : World} {K : PySem.W.Frag} {mg : Str → Option Value} {base : Heap} {CB CH CS CW : Addr}
theorem ok_add (T : Tx P w K mg) (cW : ClW K CW) {CN : Addr} (r_NoText : E0c K mg "NoText" CN) (q_Watch_check_log : Cf P w K mg base 3 CW "check_log" (spX RW (wfCk P w CB CS CW fun A => A.logs.length))) (f_is_text : Df P w K mg base 2 "is_text" (spX RW wfText)) (q_Book_raw_put : Cf P w K mg base 1 CB "raw_put" (spX RW (wfRaw P w CB))) {f : Addr} {fd : FuncData} (F : FW K "add" "Watch.add" s_Watch_add f fd) : Fn P w K mg base 4 f fd ["self", "log", "text"] (spX RW (wfDo P w CB CS CW rAddL)) := by
  refine fn_data F sc_Watch_add (fun ds s k x h => ?_) fun cv A outer s H G hr gd => ⟨_, (pss_cons (ps_expr (pe_mtA q_Watch_check_log hr (by omega) gd (fun σ => Gl.no_pass σ) (pv 0) (pa_cons (pv 1) pa_nil)))
    (pss_cons (ps_if (pt_not (pt_val (pe_df f_is_text hr (by omega) gd rfl (fun σ => Gl.no_pass σ) (pa_cons (pv 2) pa_nil)))) (pss_one (ps_raise rfl (takes_of rfl rfl rfl rfl) (pmk_0 r_NoText.exc (r_NoText.raises rfl) r_NoText.mgx r_NoText.keep rfl))) pss_nil)
    (pss_cons (ps_expr (pe_bm PySem.F.plainAttrs_list PySem.F.slot_list_append PySem.F.type_list_append mt_append (pe_ix (kIx (K := K)) (kFld (K := K) (pv 0) rfl) (pv 1) (fun _ _ => rfl)) (pa_cons (pe_mtA q_Book_raw_put hr (by omega) gd (fun σ => Gl.no_pass σ) (kFld (K := K) (pv 0) rfl) (pa_cons (C8.pe_gc rfl T.m_NAME) (pa_cons (pe_tup (pa_cons (pv 2) pa_nil)) pa_nil))) pa_nil)))
    (pss_one (ps_ret (pe_op op_sub (pe_callB (kLen (K := K)) (by rfl) T.len (by decide +kernel) (pa_cons (pe_ix (kIx (K := K)) (kFld (K := K) (pv 0) rfl) (pv 1) (fun _ _ => rfl)) pa_nil)) pe_int)))))), ?_⟩
  · match ds, h with
    | .opq wa :: _, ⟨_, _, _, _, _, _, _, ⟨_, _, rfl, _⟩, _⟩ => rfl
  · skip

    have g4 := FO.one cW.cls cW.n4
    have g7 := FO.one cW.cls cW.n7
    apply bodyW
    · (first | walk_at "sim" | fail)
    intro ds s k x ok hw
    match ds, hw with
    | .opq wa :: _, ⟨A, t, W, _, _, h, ht, ⟨j, x, rfl, hj, hx, rfl, rfl⟩, hk⟩ =>
      obtain ⟨dx, hi⟩ := h.ins
      obtain ⟨xs, hy⟩ : ∃ xs, A.logs[j]? = some xs := ⟨_, List.getElem?_eq_getElem hj⟩
      obtain ⟨c, hc, ns, ec, al⟩ := h.lg2.get' hy
      have ap := apart h.nd
      have q1 := h.lg1
      have gx : A.logs.getD j [] = xs := getD_of hy
      have nl := al.len
      
      simp [hi]
      refine ⟨noW (by decide), A, t, W, j, h, rfl, hj, hx, ?_⟩
      simp [hi, lkW7, lkW4, q1, atI_nat (opqs_get hc), ec]
      obtain ⟨dz, zs, b1, b2, b3, _⟩ := id h.bk
      rw [b1]
      refine ⟨rfl, noM (by decide), by decide, raw_wat h rfl (by simp [NestedKey.depth, NestedKey.depthAll]) rfl (by omega) fun s1 more n B1 l1 ix f1 => ?_⟩
      have hb := h.bz
      obtain ⟨h1, n1⟩ := h.book (u' := t + 1) B1 f1 (by rw [List.length_append]; omega)
      have mc := List.mem_of_getElem? hc
      have ec1 : s1 c = some (.lst (rD ns)) := f1.at ec fun z => by
        simp only [List.mem_cons, List.not_mem_nil, or_false] at z
        rcases z with z | z | z
        · exact ap.fl _ mem_b c mc z.symm
        · exact ap.fl _ mem_r c mc z.symm
        · exact ap.fl _ mem_p c mc z.symm
      have lx := h.ok.l2 xs (List.mem_of_getElem? hy)
      have f2 : Fm [c] s1 (rup s1 c (.lst (rD (ns ++ [(n : Int)])))) := Fm.put (List.mem_singleton.mpr rfl)
      have h2 := h1.log (i := j) (x := x) (n := (n : Int)) hc ec1 ⟨n, rfl, ix⟩ f2 rup_same
      have es : rD ns ++ [D.int (n : Nat)] = rD (ns ++ [(n : Int)]) := by simp [rD]
      try dsimp only
      rw [ec1]
      refine ⟨rfl, by rw [rD, List.length_map, sizeLine_eq]; omega, ?_⟩
      rw [es]
      obtain ⟨h2, n2⟩ := h2
      obtain ⟨dx2, hi2⟩ := h2.ins
      try dsimp only
      rw [hi2]
      refine ⟨rfl, ?_⟩
      have q3 := h2.lg1
      have lk : List.lookup ("rows" : Str) (wtFs (A.add j x) { W with recs := W.recs ++ more, fr := W.fr }) = some (.opq W.ra) := rfl
      rw [lk]
      try dsimp only at q3 ⊢
      rw [q3]
      try dsimp only
      rw [atI_nat (opqs_get hc)]
      try dsimp only
      rw [rup_same]
      try dsimp only
      have el : ((rD (ns ++ [(n : Int)])).length : Int) - 1 = ((A.logs.getD j []).length : Nat) := by
        rw [rD, List.length_map, List.length_append, gx, nl]
        simp
      rw [el]
      exact hk _ _ h2 (n1.trans n2)
end
end Law
set_option Elab.async false
set_option linter.all false
set_option maxRecDepth 100000
set_option maxHeartbeats 1000000
namespace Law
open PySem PySem.Spec PyProof.Rows L2 Gl Dw


abbrev s_Watch_branch : Stmt := inClass (top 56) 6
abbrev N_Watch_branch : List Str := ["self", "log", "n"]
theorem sc_Watch_branch : FnScope N_Watch_branch ["self", "log", "n"] (defScope s_Watch_branch) := ⟨rfl, rfl, rfl, by decide +kernel, rfl, by decide +kernel, by decide +kernel⟩
section
variable {P : Program} {w : World} {K : PySem.W.Frag} {mg : Str → Option Value} {base : Heap} {CB CH CS CW : Addr}
theorem ok_branch (T : Tx P w K mg) (cW : ClW K CW) {CN CM : Addr} (r_NoSize : E0c K mg "NoSize" CN) (r_NotLiar : E0c K mg "NotLiar" CM) (q_Watch_check_log : Cf P w K mg base 3 CW "check_log" (spX RW (wfCk P w CB CS CW fun A => A.logs.length))) (f_is_within : Df P w K mg base 2 "is_within" (spX RW wfIn)) {f : Addr} {fd : FuncData} (F : FW K "branch" "Watch.branch" s_Watch_branch f fd) : Fn P w K mg base 4 f fd ["self", "log", "n"] (spX RW (wfDo P w CB CS CW rBranch)) := by
  refine fn_data F sc_Watch_branch (fun ds s k x h => ?_) fun cv A outer s H G hr gd => ⟨_, (pss_cons (ps_expr (pe_mtA q_Watch_check_log hr (by omega) gd (fun σ => Gl.no_pass σ) (pv 0) (pa_cons (pv 1) pa_nil)))
    (pss_cons (ps_if (pt_not (pt_val (pe_df f_is_within hr (by omega) gd rfl (fun σ => Gl.no_pass σ) (pa_cons (pv 2) (pa_cons pe_int (pa_cons (pe_callB (kLen (K := K)) (by rfl) T.len (by decide +kernel) (pa_cons (pe_ix (kIx (K := K)) (kFld (K := K) (pv 0) rfl) (pv 1) (fun _ _ => rfl)) pa_nil)) pa_nil)))))) (pss_one (ps_raise rfl (takes_of rfl rfl rfl rfl) (pmk_0 r_NoSize.exc (r_NoSize.raises rfl) r_NoSize.mgx r_NoSize.keep rfl))) pss_nil)
    (pss_cons (ps_if (pt_not (pt_val (kFld (K := K) (pv 0) rfl))) (pss_one (ps_raise rfl (takes_of rfl rfl rfl rfl) (pmk_0 r_NotLiar.exc (r_NotLiar.raises rfl) r_NotLiar.mgx r_NotLiar.keep rfl))) pss_nil)
    (pss_cons (ps_expr (pe_bm PySem.F.plainAttrs_list PySem.F.slot_list_append PySem.F.type_list_append mt_append (kFld (K := K) (pv 0) rfl) (pa_cons (pe_reg (pe_slice (kSl (K := K)) (pe_ix (kIx (K := K)) (kFld (K := K) (pv 0) rfl) (pv 1) (fun _ _ => rfl)) po_none (po_some (pv 2)))) pa_nil)))
    (pss_one (ps_ret (pe_op op_sub (pe_callB (kLen (K := K)) (by rfl) T.len (by decide +kernel) (pa_cons (kFld (K := K) (pv 0) rfl) pa_nil)) pe_int))))))), ?_⟩
  · match ds, h with
    | .opq wa :: _, ⟨_, _, _, _, _, _, _, ⟨_, _, rfl, _⟩, _⟩ => rfl
  · skip

    have g1 := FO.one cW.cls cW.n1
    have g2 := FO.one cW.cls cW.n2
    have g3 := FO.one cW.cls cW.n3
    have g4 := FO.one cW.cls cW.n4
    have g5 := FO.one cW.cls cW.n5
    have g6 := FO.one cW.cls cW.n6
    have g7 := FO.one cW.cls cW.n7
    have g8 := FO.one cW.cls cW.n8
    have g9 := FO.one cW.cls cW.n9
    have g10 := FO.one cW.cls cW.n10
    apply bodyW
    · (first | walk_at "sim" | fail)
    intro ds s k x ok hw
    match ds, hw with
    | .opq wa :: _, ⟨A, t, W, _, _, h, ht, ⟨j, n, rfl, hj, hn, hl, rfl, rfl⟩, hk⟩ =>
      obtain ⟨dx, hi⟩ := h.ins
      obtain ⟨xs, hx⟩ : ∃ xs, A.logs[j]? = some xs := ⟨_, List.getElem?_eq_getElem hj⟩
      obtain ⟨c, hc, ns, ec, al⟩ := h.lg2.get' hx
      have ap := apart h.nd
      have q1 := h.lg1
      have gx : A.logs.getD j [] = xs := getD_of hx
      have nl := al.len
      
      simp [hi]
      refine ⟨noW (by decide), A, t, W, j, h, rfl, hj, ?_⟩
      simp [hi, lkW7, lkW3, q1, atI_nat (opqs_get hc), ec, wfIn, isIn, D.pl, hl]
      rw [gx] at hn
      have rl : (rD ns).length = xs.length := by rw [rD, List.length_map, nl]
      have lx := h.ok.l2 xs (List.mem_of_getElem? hx)
      refine ite_t (by omega) fun c' nc => ?_
      have ne : W.ra ≠ c' := fun z => by rw [← z, q1] at nc; cases nc
      have ll := h.lg2.len
      have l1 := h.ok.l1
      rw [rup_ne ne, q1]
      refine ⟨by rw [opqs_len, sizeLine_eq]; omega, ?_⟩
      have es : opqs W.Ls ++ [D.opq c'] = opqs (W.Ls ++ [c']) := by simp [opqs]
      have et : Dw.cutD (rD ns) none (some (n : Int)) = rD (ns.take n) := by rw [cut_take, rD, rD, List.map_take]
      rw [es, et]
      have f : Fm [W.ra] s (rup (rup s c' (.lst (rD (ns.take n)))) W.ra (.lst (opqs (W.Ls ++ [c'])))) := (Fm.new nc).trans (Fm.put (List.mem_singleton.mpr rfl))
      obtain ⟨h2, n2⟩ := h.newlog (n := n) hc ec nc f rup_same (by rw [rup_ne (Ne.symm ne), rup_same])
      obtain ⟨dx2, hi2⟩ := h2.ins
      try dsimp only
      rw [hi2]
      refine ⟨rfl, ?_⟩
      have lk : List.lookup ("rows" : Str) (wtFs (A.branch j n) { W with Ls := W.Ls ++ [c'] }) = some (.opq W.ra) := rfl
      rw [lk]
      try dsimp only
      rw [rup_same]
      try dsimp only
      have el : ((opqs (W.Ls ++ [c'])).length : Int) - 1 = (A.logs.length : Nat) := by
        rw [opqs_len, List.length_append, ll]
        simp
      rw [el]
      exact hk _ _ (h2.le (Nat.le_refl _) (Nat.le_succ t)) n2
end
end Law
set_option Elab.async false
set_option linter.all false
set_option maxRecDepth 100000
set_option maxHeartbeats 2000000
namespace Law
open PySem PySem.Spec PyProof.Rows L2 Gl Dw


abbrev s_Watch_sign : Stmt := inClass (top 56) 7
abbrev N_Watch_sign : List Str := ["self", "log", "rows", "head", "parts", "mark"]
theorem sc_Watch_sign : FnScope N_Watch_sign ["self", "log"] (defScope s_Watch_sign) := ⟨rfl, rfl, rfl, by decide +kernel, rfl, by decide +kernel, by decide +kernel⟩
def snE (wa : Addr) (j : Nat) (v2 v3 v4 v5 : Sl) : List Sl := [.dat (.opq wa), .dat (.int j), v2, v3, v4, v5]
theorem rD_len (ns : List Int) : (rD ns).length = ns.length := List.length_map ..
/-- the pages grew by so many at most -/
def Gr (W W1 : Wad) (n : Nat) : Prop := ∃ more fr, W1 = { W with recs := W.recs ++ more, fr := fr } ∧ more.length ≤ n
theorem Gr.refl {W : Wad} : Gr W W 0 := ⟨[], W.fr, by simp, Nat.le_refl _⟩
theorem Gr.trans {W W1 W2 : Wad} {n m : Nat} (g : Gr W W1 n) (h : Gr W1 W2 m) : Gr W W2 (n + m) := by
  obtain ⟨a, f, rfl, la⟩ := g
  obtain ⟨b, f', rfl, lb⟩ := h
  exact ⟨a ++ b, f', by simp, by rw [List.length_append]; omega⟩
theorem Gr.le {W W1 : Wad} {n m : Nat} (g : Gr W W1 n) (h : n ≤ m) : Gr W W1 m := by
  obtain ⟨a, f, e, l⟩ := g
  exact ⟨a, f, e, Nat.le_trans l h⟩
theorem Gr.len {W W1 : Wad} {n : Nat} (g : Gr W W1 n) : W1.recs.length ≤ W.recs.length + n := by
  obtain ⟨a, f, rfl, l⟩ := g
  show (W.recs ++ a).length ≤ _
  rw [List.length_append]
  omega
section
variable {P : Program} {w : World} {CB CH CS CW wa : Addr} {A : Acc} {t : Nat} {W W1 : Wad} {s s1 : Rg}
theorem raw_gr (h : WatW P w CB CS CW wa A t t W s) (ht : t ≤ 62) {n : Nat} (h1 : WatW P w CB CS CW wa A t (t + 1) W1 s1) (n1 : Nxt wa W W1 s s1) (g : Gr W W1 n) (hn : n < 900) {kd : Str} {ps : List D} {key : NestedKey} {k : D → Rg → Prop} {x : Xc → Rg → Prop} (nk : (eD kd ps).nk = some key) (kdp : key.depth ≤ 8) (fl : D.flts ps = true)
    (hk : ∀ (s2 : Rg) (W2 : Wad) (m : Nat), WatW P w CB CS CW wa A t (t + 1) W2 s2 → Nxt wa W W2 s s2 → Gr W W2 (n + 1) → Gr W1 W2 1 → ixOf W2.recs (eD kd ps) = some m → Fm [W.b, W.r, W.p] s1 s2 → k (.int (m : Nat)) s2) : wfRaw P w CB [.opq W1.b, .str kd, .tup ps] s1 k x := by
  refine raw_wat h1 nk kdp fl (by omega) fun s2 more m B2 l2 ix f2 => ?_
  have gl := g.len
  have hb := h.bz
  obtain ⟨h2, n2⟩ := h1.book (u' := t + 1) B2 f2 (by rw [List.length_append]; omega)
  have g2 : Gr W1 { W1 with recs := W1.recs ++ more, fr := W1.fr } 1 := ⟨more, W1.fr, rfl, l2⟩
  obtain ⟨a, f, rfl, la⟩ := id g
  exact hk s2 _ m h2 (n1.trans n2) (g.trans g2) g2 ix f2
theorem heads_new {u : Rg} {a dx b : Addr} {rows : List Int} {k : D → Rg → Prop} {x : Xc → Rg → Prop} (na : u a = none) (hk : ∀ kn s2, u kn = none → Fm [] u s2 → (∀ recs, HdAt CH a b kn rows recs [] s2) → k .non s2) : wfHI CH [.opq a, .opq b, .tup (rD rows)] (rup u a (.ins CH dx [])) k x := by
  refine ⟨dx, rows, rup_same, rfl, fun kn s2 nk H o => ?_⟩
  have ne : kn ≠ a := fun z => by rw [z, rup_same] at nk; cases nk
  rw [rup_ne ne] at nk
  refine hk kn s2 nk (fun y hy _ => ?_) fun recs => ⟨H.1, H.2.1, fun q hq => (nomatch hq)⟩
  have y1 : y ≠ a := fun z => hy (z ▸ na)
  rw [o y y1 (fun z => hy (z ▸ nk)), rup_ne y1]
/-- the head of a lot asked: u is the state ahead of the making of the heads -/
theorem of_gr (h : WatW P w CB CS CW wa A t t W s) (ht : t ≤ 62) {n : Nat} (g : Gr W W1 n) {hd kn : Addr} {rows : List Int} {tab : Tab} (nh : s hd = none) (nk : s kn = none) (f1 : Fm [W.b, W.r, W.p] s s1) (B1 : BkAt P w CB W.b W.r W.p W1.recs W1.fr s1) (H : HdAt CH hd W.b kn rows W1.recs tab s1) {l h' : Nat} (le : l ≤ h') (hle : h' ≤ rows.length) (rl : rows.length ≤ 64) (hn : n + cst (h' - l) ≤ 900) (tz : tab.length + 2 * (h' - l) < 1000) {k : D → Rg → Prop} {x : Xc → Rg → Prop}
    (hk : ∀ (s2 : Rg) (W2 : Wad) (tab' : Tab) (v : Nat), Gr W W2 (n + cst (h' - l)) → (∃ more, W2.recs = W1.recs ++ more) → Fm [W.b, W.r, W.p] s s2 → BkAt P w CB W.b W.r W.p W2.recs W2.fr s2 → HdAt CH hd W.b kn rows W2.recs tab' s2 → tab'.length ≤ tab.length + 2 * (h' - l) → Std W2.recs rows l h' v → k (.int (v : Nat)) s2) : wfHO P w CB CH 7 [.opq hd, .int l, .int h'] s1 k x := by
  have gl := g.len
  have hb := h.bz
  have hw : h' - l ≤ 2 ^ 6 := by show h' - l ≤ 64; omega
  refine ⟨W.b, W.r, W.p, kn, rows, W1.recs, W1.fr, tab, l, h', 6, rfl, rfl, le, hle, rfl, hw, by omega, B1, H, by omega, by omega, fun s2 more tab' v B2 H2 o2 lm lt st => ?_⟩
  have g2 : Gr W1 { W1 with recs := W1.recs ++ more, fr := W1.fr } (cst (h' - l)) := ⟨more, W1.fr, rfl, lm⟩
  refine hk s2 _ tab' v (g.trans g2) ⟨more, rfl⟩ (fun y hy m => ?_) B2 H2 (by omega) st
  have e1 := f1 y hy m
  rw [← e1]
  simp only [List.mem_cons, List.not_mem_nil, or_false, not_or] at m
  exact o2 y m.1 m.2.1 m.2.2 fun z => hy (z ▸ nk)
/-- the watch behind it -/
theorem WatW.gr (h : WatW P w CB CS CW wa A t t W s) {n : Nat} (g : Gr W W1 n) (hn : n ≤ 900) (f : Fm [W.b, W.r, W.p] s s1) (B : BkAt P w CB W.b W.r W.p W1.recs W1.fr s1) : WatW P w CB CS CW wa A t (t + 1) W1 s1 ∧ Nxt wa W W1 s s1 := by
  have gl := g.len
  have hb := h.bz
  obtain ⟨a, fr, rfl, la⟩ := id g
  exact h.book (u' := t + 1) B f (by show (W.recs ++ a).length ≤ _; rw [List.length_append]; omega)
end
section
variable {P : Program} {w : World} {K : PySem.W.Frag} {mg : Str → Option Value} {base : Heap} {CB CH CS CW : Addr}
theorem ok_sign (T : Tx P w K mg) (cW : ClW K CW) (q_Watch_check_log : Cf P w K mg base 3 CW "check_log" (spX RW (wfCk P w CB CS CW fun A => A.logs.length))) (q_Book_raw_put : Cf P w K mg base 1 CB "raw_put" (spX RW (wfRaw P w CB))) (kHeads : Gl.Cm P w K mg base 1 "Heads" CH (spX RW (wfHI CH))) (kStatement : Gl.Cm P w K mg base 1 "Statement" CS (spX RW (wfSI CS))) (q_Heads_of : Cf P w K mg base 17 CH "of" (spX RW (wfHO P w CB CH 7))) {f : Addr} {fd : FuncData} (F : FW K "sign" "Watch.sign" s_Watch_sign f fd) : Fn P w K mg base 18 f fd ["self", "log"] (spX RW (wfDo P w CB CS CW rSign)) := by
  refine fn_data F sc_Watch_sign (fun ds s k x h => ?_) fun cv A outer s H G hr gd => ⟨_, (pss_cons (ps_expr (pe_mtA q_Watch_check_log hr (by omega) gd (fun σ => Gl.no_pass σ) (pv 0) (pa_cons (pv 1) pa_nil)))
    (pss_cons (ps_set (i := 2) sc_Watch_sign.nd rfl (Or.inl rfl) (pe_callTy (kTuple (K := K)) (by rfl) T.tuple (by decide +kernel) (pa_cons (pe_ix (kIx (K := K)) (kFld (K := K) (pv 0) rfl) (pv 1) (fun _ _ => rfl)) pa_nil)))
    (pss_cons (ps_set (i := 3) sc_Watch_sign.nd rfl (Or.inl rfl) (pe_mtA q_Heads_of hr (by omega) gd (fun σ => Gl.no_pass σ) (pe_mkC kHeads hr (by omega) gd rfl (fun σ => Gl.no_pass σ) (pa_cons (kFld (K := K) (pv 0) rfl) (pa_cons (pv 2) pa_nil))) (pa_cons pe_int (pa_cons (pe_callB (kLen (K := K)) (by rfl) T.len (by decide +kernel) (pa_cons (pv 2) pa_nil)) pa_nil))))
    (pss_cons (ps_set (i := 4) sc_Watch_sign.nd rfl (Or.inl rfl) (pe_tup (pa_cons (pe_mtA q_Book_raw_put hr (by omega) gd (fun σ => Gl.no_pass σ) (kFld (K := K) (pv 0) rfl) (pa_cons (C8.pe_gc rfl T.m_NAME) (pa_cons (pe_tup (pa_cons (C8.pe_gc rfl T.m_HEAD) pa_nil)) pa_nil))) (pa_cons (pe_mtA q_Book_raw_put hr (by omega) gd (fun σ => Gl.no_pass σ) (kFld (K := K) (pv 0) rfl) (pa_cons (C8.pe_gc rfl T.m_NUMBER_watches) (pa_cons (pe_tup (pa_cons (pe_callB (kLen (K := K)) (by rfl) T.len (by decide +kernel) (pa_cons (pv 2) pa_nil)) pa_nil)) pa_nil))) (pa_cons (pv 3) pa_nil)))))
    (pss_cons (ps_set (i := 5) sc_Watch_sign.nd rfl (Or.inl rfl) (pe_mtA q_Book_raw_put hr (by omega) gd (fun σ => Gl.no_pass σ) (kFld (K := K) (pv 0) rfl) (pa_cons (C8.pe_gc rfl T.m_MARK) (pa_cons (pe_tup (pa_cons (kFld (K := K) (pv 0) rfl) (pa_cons (pe_mtA q_Book_raw_put hr (by omega) gd (fun σ => Gl.no_pass σ) (kFld (K := K) (pv 0) rfl) (pa_cons (C8.pe_gc rfl T.m_ROW) (pa_cons (pv 4) pa_nil))) pa_nil))) pa_nil))))
    (pss_cons (ps_expr (pe_bm PySem.F.plainAttrs_list PySem.F.slot_list_append PySem.F.type_list_append mt_append (kFld (K := K) (pv 0) rfl) (pa_cons (pe_mkC kStatement hr (by omega) gd rfl (fun σ => Gl.no_pass σ) (pa_cons (pv 2) (pa_cons (pv 3) (pa_cons (pv 5) pa_nil)))) pa_nil)))
    (pss_one (ps_ret (pe_op op_sub (pe_callB (kLen (K := K)) (by rfl) T.len (by decide +kernel) (pa_cons (kFld (K := K) (pv 0) rfl) pa_nil)) pe_int))))))))), ?_⟩
  · match ds, h with
    | .opq wa :: _, ⟨_, _, _, _, _, _, _, ⟨_, rfl, _⟩, _⟩ => rfl
  · skip

    have g4 := FO.one cW.cls cW.n4
    have g5 := FO.one cW.cls cW.n5
    have g7 := FO.one cW.cls cW.n7
    have g8 := FO.one cW.cls cW.n8
    apply bodyW
    · (first | walk_at "sim" | fail)
    intro ds s k x ok hw
    match ds, hw with
    | .opq wa :: _, ⟨A, t, W, _, _, h, ht, ⟨j, rfl, hj, rfl, rfl⟩, hk⟩ =>
      obtain ⟨dx, hi⟩ := h.ins
      obtain ⟨xs, hx⟩ : ∃ xs, A.logs[j]? = some xs := ⟨_, List.getElem?_eq_getElem hj⟩
      obtain ⟨c, hc, ns, ec, al⟩ := h.lg2.get' hx
      have ap := apart h.nd
      have q1 := h.lg1
      have nl := al.len
      have lx := h.ok.l2 xs (List.mem_of_getElem? hx)
      refine cut (fun env u => u = s ∧ env = snE wa j .no .no .no .no) (fun K1 h1 _ _ => ?_) fun env u hI => ?_
      · simp [hi]
        exact ⟨noW (by decide), A, t, W, j, h, rfl, hj, h1 _ _ ⟨rfl, rfl⟩⟩
      obtain ⟨rfl, rfl⟩ := hI
      refine cut (fun env u' => u' = u ∧ env = snE wa j (.dat (.tup (rD ns))) .no .no .no) (fun K1 h1 _ _ => ?_) fun env u' hI => ?_
      · simp [snE, hi, lkW7, q1, atI_nat (opqs_get hc), ec]
        exact h1 _ _ ⟨rfl, rfl⟩
      obtain ⟨rfl, rfl⟩ := hI
      refine cut (fun env s1 => ∃ (W1 : Wad) (v : Nat), WatW P w CB CS CW wa A t (t + 1) W1 s1 ∧ Nxt wa W W1 u' s1 ∧ Gr W W1 420 ∧ Fm [W.b, W.r, W.p] u' s1 ∧ Std W1.recs ns 0 ns.length v ∧ env = snE wa j (.dat (.tup (rD ns))) (.dat (.int v)) .no .no) (fun K1 h1 _ _ => ?_) fun env s1 hI => ?_
      · simp [snE, hi, lkW4]
        intro a da na
        refine heads_new na fun kn s2 nk f2 H2 => ⟨rfl, ?_⟩
        obtain ⟨dy, e2⟩ := (H2 W.recs).1
        rw [e2]
        refine ⟨rfl, noH (by decide), ?_⟩
        rw [rD_len]
        have bk2 := h.bk.fm f2 (by simp) (by simp) (by simp)
        refine of_gr h ht (W1 := W) Gr.refl na nk (f2.sub (by simp)) bk2 (H2 W.recs) (l := 0) (Nat.zero_le _) (Nat.le_refl _) (by omega) ?_ (by simp; omega) fun s3 W3 tab' v g3 _ f3 B3 H3 _ st => ?_
        · unfold cst; split <;> omega
        · have g3' := g3.le (m := 420) (by unfold cst; split <;> omega)
          obtain ⟨h3, n3⟩ := h.gr g3' (by omega) f3 B3
          exact h1 _ _ ⟨W3, v, h3, n3, g3', f3, st, rfl⟩
      obtain ⟨W1, v, h1, n1, g1, f1, st, rfl⟩ := hI
      refine cut (fun env s2 => ∃ (W2 : Wad) (m1 m2 : Nat), WatW P w CB CS CW wa A t (t + 1) W2 s2 ∧ Nxt wa W W2 u' s2 ∧ Gr W W2 422 ∧ Fm [W.b, W.r, W.p] u' s2 ∧ Std W2.recs ns 0 ns.length v ∧ env = snE wa j (.dat (.tup (rD ns))) (.dat (.int v)) (.dat (.tup [.int m1, .int m2, .int v])) .no) (fun K1 hq _ _ => ?_) fun env s2 hI => ?_
      · obtain ⟨d1, i1⟩ := h1.ins
        obtain ⟨dz, zs, b1, b2, b3, _⟩ := id h1.bk
        simp [snE, i1, lkW4, b1]
        refine ⟨noM (by decide), by decide, raw_gr h ht h1 n1 g1 (by omega) rfl (by simp [NestedKey.depth, NestedKey.depthAll]) rfl fun s2 W2 m1 h2 n2 g2 q2 _ k2 => ?_⟩
        obtain ⟨d2, i2⟩ := h2.ins
        obtain ⟨dz2, zs2, c1, c2, c3, _⟩ := id h2.bk
        simp [i2, lkW4, c1]
        refine ⟨noM (by decide), by decide, raw_gr h ht h2 n2 g2 (by omega) rfl (by simp [NestedKey.depth, NestedKey.depthAll]) rfl fun s3 W3 m2 h3 n3 g3 q3 _ k3 => ?_⟩
        obtain ⟨a2, fr2, e2, _⟩ := q2
        obtain ⟨a3, fr3, e3, _⟩ := q3
        refine ⟨by decide, hq _ _ ⟨W3, m1, m2, h3, n3, g3, (f1.trans k2).trans k3, ?_, rfl⟩⟩
        rw [e3, e2]
        exact st.app.app
      obtain ⟨W2, m1, m2, h2, n2, g2, f2, st2, rfl⟩ := hI
      clear st h1 n1 g1
      refine cut (fun env s3 => ∃ (W3 : Wad) (m : Nat), WatW P w CB CS CW wa A t (t + 1) W3 s3 ∧ Nxt wa W W3 u' s3 ∧ Gr W W3 424 ∧ Fm [W.b, W.r, W.p] u' s3 ∧ Std W3.recs ns 0 ns.length v ∧ env = snE wa j (.dat (.tup (rD ns))) (.dat (.int v)) (.dat (.tup [.int m1, .int m2, .int v])) (.dat (.int m))) (fun K1 hq _ _ => ?_) fun env s3 hI => ?_
      · obtain ⟨d1, i1⟩ := h2.ins
        obtain ⟨dz, zs, b1, b2, b3, _⟩ := id h2.bk
        simp [snE, i1, lkW4, lkW5, b1]
        refine ⟨noM (by decide), raw_gr h ht h2 n2 g2 (by omega) rfl (by simp [NestedKey.depth, NestedKey.depthAll]) rfl fun s3 W3 m3 h3 n3 g3 q3 _ f3 => ?_⟩
        have eb : W3.b = W2.b := by
          obtain ⟨_, _, rfl, _⟩ := q3
          rfl
        refine ⟨by decide, ?_⟩
        rw [← eb]
        refine raw_gr h ht h3 n3 g3 (by omega) rfl (by simp [NestedKey.depth, NestedKey.depthAll]) rfl fun s4 W4 m4 h4 n4 g4 q4 _ k4 => ?_
        obtain ⟨a3, fr3, e3, _⟩ := q3
        obtain ⟨a4, fr4, e4, _⟩ := q4
        refine hq _ _ ⟨W4, m4, h4, n4, g4, (f2.trans f3).trans k4, ?_, rfl⟩
        rw [e4, e3]
        exact st2.app.app
      obtain ⟨W3, m, h3, n3, g3, f3, st3, rfl⟩ := hI
      clear st2 h2 n2 g2
      have gW : W3.Ls = W.Ls ∧ W3.sa = W.sa ∧ W3.Ss = W.Ss := by
        obtain ⟨_, _, rfl, _⟩ := g3
        exact ⟨rfl, rfl, rfl⟩
      refine cut (fun env s4 => ∃ (W4 : Wad), WatW P w CB CS CW wa (A.sign j) (t + 1) (t + 1) W4 s4 ∧ Nxt wa W W4 u' s4 ∧ env = snE wa j (.dat (.tup (rD ns))) (.dat (.int v)) (.dat (.tup [.int m1, .int m2, .int v])) (.dat (.int m))) (fun K1 hq _ _ => ?_) fun env s4 hI => ?_
      · obtain ⟨d1, i1⟩ := h3.ins
        have q3 := h3.st1
        simp [snE, i1, lkW8]
        refine ⟨⟨_, q3⟩, fun a da na => ⟨da, ns, v, m, rup_same, rfl, rfl, rfl, fun s4 e4 f4 => ⟨rfl, ?_⟩⟩⟩
        have ne : W3.sa ≠ a := fun z => by rw [← z, q3] at na; cases na
        have e5 : s4 W3.sa = some (.lst (opqs W3.Ss)) := f4.at (by rw [rup_ne ne]; exact q3) (by simpa using ne)
        rw [e5]
        have l3 := h3.st2.len
        have t3 := h3.ok.t1
        refine ⟨by rw [opqs_len, sizeLine_eq]; omega, ?_⟩
        have es : opqs W3.Ss ++ [D.opq a] = opqs (W3.Ss ++ [a]) := by simp [opqs]
        rw [es]
        have mc := List.mem_of_getElem? hc
        have ec3 : s3 c = some (.lst (rD ns)) := f3.at ec fun z => by
          simp only [List.mem_cons, List.not_mem_nil, or_false] at z
          rcases z with z | z | z
          · exact ap.fl _ mem_b c mc z.symm
          · exact ap.fl _ mem_r c mc z.symm
          · exact ap.fl _ mem_p c mc z.symm
        have f5 : Fm [W3.sa] s3 (rup s4 W3.sa (.lst (opqs (W3.Ss ++ [a])))) := fun x n y => by
          have xa : x ≠ a := fun z => n (z ▸ na)
          rw [rup_ne (by simpa using y), f4 x (by rw [rup_ne xa]; exact n) (by simpa using xa), rup_ne xa]
        obtain ⟨h5, n5⟩ := h3.stm (i := j) (by rw [gW.1]; exact hc) ec3 st3 na f5 rup_same (by rw [rup_ne (Ne.symm ne)]; exact e4)
        exact hq _ _ ⟨_, h5, n3.trans n5, rfl⟩
      obtain ⟨W4, h4, n4, rfl⟩ := hI
      obtain ⟨d4, i4⟩ := h4.ins
      have q4 := h4.st1
      have l4 := h4.st2.len
      have sl : (A.sign j).told.length = A.told.length + 1 := by show (A.told ++ [_]).length = _; simp
      simp [snE, i4, lkW8, q4, opqs_len]
      rw [show ((W4.Ss.length : Nat) : Int) - 1 = (A.told.length : Nat) by omega]
      exact hk _ _ h4 n4
end
end Law
set_option Elab.async false
set_option linter.all false
set_option maxRecDepth 100000
set_option maxHeartbeats 2000000
namespace Law
open PySem PySem.Spec PyProof.Rows L2 Gl Dw


abbrev s_Watch_goes_on : Stmt := inClass (top 56) 8
abbrev N_Watch_goes_on : List Str := ["self", "last", "statement", "one", "other", "m", "n", "heads", "paper", "low", "high"]
theorem sc_Watch_goes_on : FnScope N_Watch_goes_on ["self", "last", "statement"] (defScope s_Watch_goes_on) := ⟨rfl, rfl, rfl, by decide +kernel, rfl, by decide +kernel, by decide +kernel⟩
theorem at_lastN {α : Type} {a : List α} {y : α} : atI (a ++ [y]) (-1) = some y := by
  have e : ixN (a ++ [y]).length (-1) = some a.length := by
    unfold ixN
    rw [if_neg (by decide), if_pos (by simp; omega)]
    simp
    omega
  unfold atI
  rw [e]
  simp
def goesOn (A : Acc) (is : List Nat) (j : Nat) : Bool := match is.getLast? with
  | none => true
  | some l => decide ((A.told.getD j []).take (A.told.getD l []).length = A.told.getD l [])
/-- how wide lots are together -/
def sumw : List (Nat × Nat) → Nat
  | [] => 0
  | q :: r => (q.2 - q.1) + sumw r
theorem sumw_app : ∀ (a b : List (Nat × Nat)), sumw (a ++ b) = sumw a + sumw b
  | [], b => by simp [sumw]
  | q :: r, b => by simp [sumw, sumw_app r b]; omega
theorem sumw_filter (p : Nat × Nat → Bool) : ∀ a : List (Nat × Nat), sumw (a.filter p) ≤ sumw a
  | [] => Nat.le_refl _
  | q :: r => by
    have := sumw_filter p r
    rw [List.filter_cons]
    split <;> simp [sumw] <;> omega
theorem pcs_sum (m : Nat) : ∀ (n : Nat) {l h : Nat}, h - l ≤ n → l ≤ h → sumw (pcs m l h) = h - l ∧ ∀ q ∈ pcs m l h, l ≤ q.1 ∧ q.2 ≤ h
  | 0, l, h, hn, le => by
    rw [pcs_one (by omega)]
    exact ⟨by simp [sumw], fun q hq => by rw [List.mem_singleton.mp hq]; exact ⟨Nat.le_refl _, Nat.le_refl _⟩⟩
  | n + 1, l, h, hn, le => by
    by_cases c : h ≤ m ∨ m ≤ l
    · rw [pcs_one c]
      exact ⟨by simp [sumw], fun q hq => by rw [List.mem_singleton.mp hq]; exact ⟨Nat.le_refl _, Nat.le_refl _⟩⟩
    · have p := half_pos (h - l)
      have q := half_lt (m := h - l) (by omega)
      obtain ⟨a1, a2⟩ := pcs_sum m n (l := l) (h := l + half (h - l)) (by omega) (by omega)
      obtain ⟨b1, b2⟩ := pcs_sum m n (l := l + half (h - l)) (h := h) (by omega) (by omega)
      rw [pcs_two c, sumw_app]
      refine ⟨by omega, fun z hz => ?_⟩
      rcases List.mem_append.mp hz with hz | hz
      · have := a2 z hz; omega
      · have := b2 z hz; omega
theorem lots_sum (m n : Nat) : sumw (lots m n) ≤ n ∧ ∀ q ∈ lots m n, q.1 < q.2 ∧ q.2 ≤ n := by
  obtain ⟨a1, a2⟩ := pcs_sum m n (l := 0) (h := n) (by omega) (Nat.zero_le _)
  refine ⟨Nat.le_trans (sumw_filter _ _) (by omega), fun q hq => ?_⟩
  obtain ⟨h1, h2⟩ := List.mem_filter.mp hq
  exact ⟨of_decide_eq_true h2, (a2 q h1).2⟩
theorem Al.eqv {α β : Type} {R : α → β → Prop} (f : ∀ a b b', R a b → R a b' → b = b') (g : ∀ a a' b, R a b → R a' b → a = a') : ∀ {as as' : List α} {bs bs' : List β}, Al R as bs → Al R as' bs' → (as = as' ↔ bs = bs')
  | _, _, _, _, .nil, .nil => ⟨fun _ => rfl, fun _ => rfl⟩
  | _, _, _, _, .nil, .cons _ _ => ⟨fun h => (nomatch h), fun h => (nomatch h)⟩
  | _, _, _, _, .cons _ _, .nil => ⟨fun h => (nomatch h), fun h => (nomatch h)⟩
  | _, _, _, _, .cons h t, .cons h' t' => by
    have ih := Al.eqv f g t t'
    constructor
    · intro e
      obtain ⟨rfl, e2⟩ := List.cons.inj e
      rw [f _ _ _ h h', ih.mp e2]
    · intro e
      obtain ⟨rfl, e2⟩ := List.cons.inj e
      rw [g _ _ _ h h', ih.mpr e2]
theorem nm_eqv {recs : List D} {as as' : List Int} {bs bs' : List Str} (h : Al (NmN recs) as bs) (h' : Al (NmN recs) as' bs') : as = as' ↔ bs = bs' := by
  refine Al.eqv (fun a b b' r r' => ?_) (fun a a' b r r' => ?_) h h'
  · obtain ⟨i, rfl, e⟩ := r
    obtain ⟨i', e', e2⟩ := r'
    have : i = i' := by omega
    subst this
    have := (eD_inj (ix_inj (k := .tup [.text "name", .tup [.text b]]) rfl e e2)).2
    injection this with this _
    injection this
  · obtain ⟨i, rfl, e⟩ := r
    obtain ⟨i', rfl, e2⟩ := r'
    rw [e] at e2
    injection e2 with e2
    rw [e2]
def goE (wa g : Addr) (j : Nat) (v3 v4 v5 v6 v7 v8 v9 v10 : Sl) : List Sl := [.dat (.opq wa), .dat (.opq g), .dat (.int j), v3, v4, v5, v6, v7, v8, v9, v10]
def wfGo (P : Program) (w : World) (CB CS CW : Addr) : WF Rg := fun ds s k _ => match ds with
  | [.opq wa, .opq g, .int i] => ∃ A t W is j, WatW P w CB CS CW wa A t t W s ∧ t ≤ 62 ∧ s g = some (.lst (is.map iD)) ∧ (∀ q ∈ is, q < A.told.length) ∧ is.length ≤ 100 ∧ i = (j : Nat) ∧ j < A.told.length ∧ ∀ s' W', WatW P w CB CS CW wa A t (t + 1) W' s' → Nxt wa W W' s s' → Gr W W' 800 → Fm [W.b, W.r, W.p] s s' → k (.bl (goesOn A is j)) s'
  | _ => False
section
variable {P : Program} {w : World} {K : PySem.W.Frag} {mg : Str → Option Value} {base : Heap} {CB CH CS CW : Addr}
theorem ok_goes_on (T : Tx P w K mg) (cW : ClW K CW) (cS : ClS K CS) (f_pieces : Df P w K mg base 2 "pieces" (spX RW wfPieces)) (kHeads : Gl.Cm P w K mg base 1 "Heads" CH (spX RW (wfHI CH))) (q_Heads_of : Cf P w K mg base 17 CH "of" (spX RW (wfHO P w CB CH 7))) (f_is_grown : Df P w K mg base 11 "is_grown" (spX RW (wfGr P w CB))) {f : Addr} {fd : FuncData} (F : FW K "goes_on" "Watch.goes_on" s_Watch_goes_on f fd) : Fn P w K mg base 18 f fd ["self", "last", "statement"] (spX RW (wfGo P w CB CS CW)) := by
  refine fn_data F sc_Watch_goes_on (fun ds s k x h => ?_) fun cv A outer s H G hr gd => ⟨_, (pss_cons (ps_if (pt_cmpR (kEq (K := K) hr) (pe_callB (kLen (K := K)) (by rfl) T.len (by decide +kernel) (pa_cons (pv 1) pa_nil)) pe_int (nomark _)) (pss_one (ps_ret pe_bl)) pss_nil)
    (pss_cons (ps_par (i := 3) (j := 4) (by rfl) sc_Watch_goes_on.nd rfl rfl (by decide) rfl rfl (pa_cons (pe_ix (kIx (K := K)) (kFld (K := K) (pv 0) rfl) (pe_ix (kIx (K := K)) (pv 1) (pe_un un_neg pe_int) (fun _ _ => rfl)) (fun _ _ => rfl)) (pa_cons (pe_ix (kIx (K := K)) (kFld (K := K) (pv 0) rfl) (pv 2) (fun _ _ => rfl)) pa_nil)) (by rfl))
    (pss_cons (ps_par (i := 5) (j := 6) (by rfl) sc_Watch_goes_on.nd rfl rfl (by decide) rfl rfl (pa_cons (pe_callB (kLen (K := K)) (by rfl) T.len (by decide +kernel) (pa_cons (kFld (K := K) (pv 3) rfl) pa_nil)) (pa_cons (pe_callB (kLen (K := K)) (by rfl) T.len (by decide +kernel) (pa_cons (kFld (K := K) (pv 4) rfl) pa_nil)) pa_nil)) (by rfl))
    (pss_cons (ps_if (pt_cmpR op_gtX (pv 5) (pv 6) (nomark _)) (pss_one (ps_ret pe_bl)) pss_nil)
    (pss_cons (ps_set (i := 7) sc_Watch_goes_on.nd rfl (Or.inr rfl) (pe_mkC kHeads hr (by omega) gd rfl (fun σ => Gl.no_pass σ) (pa_cons (kFld (K := K) (pv 0) rfl) (pa_cons (kFld (K := K) (pv 4) rfl) pa_nil))))
    (pss_cons (ps_set (i := 8) sc_Watch_goes_on.nd rfl (Or.inl rfl) (pe_callTy (kTuple (K := K)) (by rfl) T.tuple (by decide +kernel) (pa_cons (pe_lc (own := [("low", 9), ("high", 10)]) (g := gTup K 2 (gCons (gName 9) (gCons (gName 10) gNil))) (by rfl) sc_Watch_goes_on.nd (kpi (K := K) (pe_df f_pieces hr (by omega) gd rfl (fun σ => Gl.no_pass σ) (pa_cons (pv 5) (pa_cons (pv 6) pa_nil)))) (blkOk_by (own := [("low", 9), ("high", 10)]) (N := N_Watch_goes_on) (sc := defScope s_Watch_goes_on) (by decide +kernel)) (fun _ _ _ _ _ => kTup (K := K) (n := 2) rfl (pgs_cons (pg_name (i := 9) sc_Watch_goes_on.nd rfl (Or.inl rfl)) (pgs_cons (pg_name (i := 10) sc_Watch_goes_on.nd rfl (Or.inl rfl)) pgs_nil))) (fun _ _ _ _ _ => pts_nil) (fun _ _ _ _ _ => (pe_mtA q_Heads_of hr (by omega) gd (fun σ => Gl.no_pass σ) (pv 7) (pa_cons (pv 9) (pa_cons (pv 10) pa_nil))))) pa_nil)))
    (pss_one (ps_ret (pe_df f_is_grown hr (by omega) gd rfl (fun σ => Gl.no_pass σ) (pa_cons (kFld (K := K) (pv 0) rfl) (pa_cons (pv 5) (pa_cons (kFld (K := K) (pv 3) rfl) (pa_cons (pv 6) (pa_cons (kFld (K := K) (pv 4) rfl) (pa_cons (pv 8) pa_nil))))))))))))))), ?_⟩
  · match ds, h with
    | [.opq wa, .opq g, .int _], _ => rfl
  · skip

    have g4 := FO.one cW.cls cW.n4
    have g8 := FO.one cW.cls cW.n8
    have g11 := FO.one cS.cls cS.n1
    have g12 := FO.one cS.cls cS.n2
    apply bodyW
    · (first | walk_at "sim" | fail)
    intro ds s k x ok hw
    match ds, hw with
    | [.opq wa, .opq g, .int _], ⟨A, t, W, is, j, h, ht, hg, his, il, rfl, hj, hk⟩ =>
      obtain ⟨dx, hi⟩ := h.ins
      have q1 := h.st1
      obtain ⟨xs2, hx2⟩ : ∃ xs, A.told[j]? = some xs := ⟨_, List.getElem?_eq_getElem hj⟩
      obtain ⟨c2, hc2, d2, ns2, v2, m2, ec2, al2, st2⟩ := h.st2.get' hx2
      refine cut (fun env u => u = s ∧ (∃ is' l, is = is' ++ [l]) ∧ env = goE wa g j .no .no .no .no .no .no .no .no) (fun K1 h1 hrt _ => ?_) fun env u hI => ?_
      · simp [hg]
        rcases List.eq_nil_or_concat is with rfl | ⟨is', l, e⟩
        · refine ite_t rfl ?_
          rw [hrt]
          exact hk _ W (h.le (Nat.le_refl _) (Nat.le_succ t)) Nxt.refl (Gr.refl.le (by omega)) Fm.refl
        · rw [List.concat_eq_append] at e
          exact ite_f (by rw [e]; simp) (h1 _ _ ⟨rfl, ⟨is', l, e⟩, rfl⟩)
      obtain ⟨rfl, ⟨is', l, rfl⟩, rfl⟩ := hI
      have hl := his l (by simp)
      obtain ⟨xs1, hx1⟩ : ∃ xs, A.told[l]? = some xs := ⟨_, List.getElem?_eq_getElem hl⟩
      obtain ⟨c1, hc1, d1, ns1, v1, m1, ec1, al1, st1⟩ := h.st2.get' hx1
      have go : goesOn A (is' ++ [l]) j = decide (ns2.take ns1.length = ns1) := by
        unfold goesOn
        rw [List.getLast?_append]
        simp only [List.getLast?_singleton, Option.some_or]
        rw [getD_of hx2, getD_of hx1, ← al1.len]
        exact decide_eq_decide.mpr (nm_eqv (al2.take _) al1).symm
      rw [go] at hk
      have lx2 := h.ok.t2 xs2 (List.mem_of_getElem? hx2)
      have nl2 := al2.len
      have nl1 := al1.len
      refine cut (fun env u' => u' = u ∧ env = goE wa g j (.dat (.opq c1)) (.dat (.opq c2)) .no .no .no .no .no .no) (fun K1 h1 hrt _ => ?_) fun env u' hI => ?_
      · simp [goE, hg, hi, lkW8, q1, atI_nat (opqs_get hc2)]
        rw [at_lastN]
        dsimp only
        rw [atI_nat (opqs_get hc1)]
        exact h1 _ _ ⟨rfl, rfl⟩
      obtain ⟨rfl, rfl⟩ := hI
      refine cut (fun env u => u = u' ∧ env = goE wa g j (.dat (.opq c1)) (.dat (.opq c2)) (.dat (.int (ns1.length : Nat))) (.dat (.int (ns2.length : Nat))) .no .no .no .no) (fun K1 h1 hrt _ => ?_) fun env u hI => ?_
      · simp [goE, ec1, ec2, lkS1, rD_len]
        exact h1 _ _ ⟨rfl, rfl⟩
      obtain ⟨rfl, rfl⟩ := hI
      refine cut (fun env u' => u' = u ∧ ns1.length ≤ ns2.length ∧ env = goE wa g j (.dat (.opq c1)) (.dat (.opq c2)) (.dat (.int (ns1.length : Nat))) (.dat (.int (ns2.length : Nat))) .no .no .no .no) (fun K1 h1 hrt _ => ?_) fun env u' hI => ?_
      · simp [goE]
        refine iteP (fun c => ?_) fun c => h1 _ _ ⟨rfl, by omega, rfl⟩
        rw [hrt]
        have := hk u W (h.le (Nat.le_refl _) (Nat.le_succ t)) Nxt.refl (Gr.refl.le (by omega)) Fm.refl
        rw [decide_eq_false (fun z => by have := congrArg List.length z; rw [List.length_take] at this; omega)] at this
        exact this
      obtain ⟨rfl, le, rfl⟩ := hI
      refine cut (fun env s2 => ∃ hd kn, u' hd = none ∧ u' kn = none ∧ Fm [] u' s2 ∧ HdAt CH hd W.b kn ns2 W.recs [] s2 ∧ env = goE wa g j (.dat (.opq c1)) (.dat (.opq c2)) (.dat (.int (ns1.length : Nat))) (.dat (.int (ns2.length : Nat))) (.dat (.opq hd)) .no .no .no) (fun K1 h1 hrt _ => ?_) fun env s2 hI => ?_
      · simp [goE, hi, lkW4, ec2, lkS1]
        intro a da na
        exact heads_new na fun kn s2 nk f2 H2 => ⟨rfl, h1 _ _ ⟨a, kn, na, nk, f2, H2 W.recs, rfl⟩⟩
      obtain ⟨hd, kn, nh, nk, f2, H2, rfl⟩ := hI
      have ls := lots_sum ns1.length ns2.length
      refine cut (fun env s3 => ∃ (W3 : Wad) (vs : List Nat) (v9 v10 : Sl), Gr W W3 800 ∧ Fm [W.b, W.r, W.p] u' s3 ∧ BkAt P w CB W.b W.r W.p W3.recs W3.fr s3 ∧ vs.length = (lots ns1.length ns2.length).length ∧ (∀ (i : Nat) (q : Nat × Nat) (v : Nat), (lots ns1.length ns2.length)[i]? = some q → vs[i]? = some v → Std W3.recs ns2 q.1 q.2 v) ∧ env = goE wa g j (.dat (.opq c1)) (.dat (.opq c2)) (.dat (.int (ns1.length : Nat))) (.dat (.int (ns2.length : Nat))) (.dat (.opq hd)) (.dat (.tup (vs.map iD))) v9 v10) (fun K1 h1 hrt _ => ?_) fun env s3 hI => ?_
      · simp [goE]
        have ll := pcs_len ns1.length ns2.length (l := 0) (h := ns2.length) (by omega)
        have ll2 : (lots ns1.length ns2.length).length ≤ (pcs ns1.length 0 ns2.length).length := List.length_filter_le _ _
        refine ⟨_, _, rfl, rfl, by omega, by rw [List.length_map, sizeLine_eq]; omega, wLc_fold (fun done ys s3 => ∃ (dl rl : List (Nat × Nat)) (vs : List Nat) (W3 : Wad) (tab : Tab), lots ns1.length ns2.length = dl ++ rl ∧ done = dl.map lotD ∧ ys = vs.map iD ∧ Gr W W3 (6 * sumw dl) ∧ Fm [W.b, W.r, W.p] u' s3 ∧ BkAt P w CB W.b W.r W.p W3.recs W3.fr s3 ∧ HdAt CH hd W.b kn ns2 W3.recs tab s3 ∧ tab.length ≤ 2 * sumw dl ∧ vs.length = dl.length ∧ ∀ (i : Nat) (q : Nat × Nat) (v : Nat), dl[i]? = some q → vs[i]? = some v → Std W3.recs ns2 q.1 q.2 v)
          (fun done d rest ys s3 e0 hI kt hkt => ?_) ⟨[], _, [], W, [], rfl, rfl, rfl, Gr.refl, f2.sub (by simp), h.bk.fm f2 (by simp) (by simp) (by simp), H2, Nat.zero_le _, rfl, fun i q v h1 _ => by simp at h1⟩ fun ys s3 hI => ?_⟩
        · obtain ⟨dl, rl, vs, W3, tab, el, rfl, rfl, g3, f3, B3, H3, tl, vl, hv⟩ := hI
          rw [el, List.map_append] at e0
          have e0 := List.append_cancel_left e0
          match rl, e0 with
          | (l, h') :: rl', e0 =>
            obtain ⟨rfl, _⟩ := List.cons.inj e0
            have lq := ls.2 (l, h') (by rw [el]; simp)
            have sw : sumw (lots ns1.length ns2.length) = sumw dl + ((h' - l) + sumw rl') := by rw [el, sumw_app]; rfl
            have l1 : l < h' := lq.1
            have l2 : h' ≤ ns2.length := lq.2
            obtain ⟨dy, e3⟩ := H3.1
            have c0 : cst (h' - l) ≤ 6 * (h' - l) := by unfold cst; split <;> omega
            simp [lotD, e3]
            refine ⟨noH (by decide), of_gr h ht g3 nh nk f3 B3 H3 (by omega) l2 (by omega) (by omega) (by omega) fun s4 W4 tab' v g4 m4 f4 B4 H4 tl4 st4 => hkt _ _ ⟨dl ++ [(l, h')], rl', vs ++ [v], W4, tab', by rw [el]; simp, by simp [lotD], by simp, g4.le ?_, f4, B4, H4, ?_, by simp [vl], fun i q v' h1 h2 => ?_⟩⟩
            · rw [sumw_app]
              simp only [sumw]
              omega
            · rw [sumw_app]
              simp only [sumw]
              omega
            · obtain ⟨more, em⟩ := m4
              rcases Nat.lt_or_ge i dl.length with hi' | hi'
              · rw [List.getElem?_append_left hi'] at h1
                rw [List.getElem?_append_left (by omega)] at h2
                rw [em]
                exact (hv i q v' h1 h2).app
              · rw [List.getElem?_append_right hi'] at h1
                rw [List.getElem?_append_right (by omega)] at h2
                have z1 : i - dl.length = 0 := by
                  rcases Nat.eq_zero_or_pos (i - dl.length) with z | z
                  · exact z
                  · rw [List.getElem?_eq_none (by simp; omega)] at h1
                    cases h1
                rw [z1] at h1
                rw [vl, z1] at h2
                cases h1
                cases h2
                exact st4
        · obtain ⟨dl, rl, vs, W3, tab, el, e0, rfl, g3, f3, B3, H3, tl, vl, hv⟩ := hI
          have rz : rl = [] := by
            have := congrArg List.length e0
            rw [List.length_map, List.length_map, el, List.length_append] at this
            exact List.eq_nil_of_length_eq_zero (by omega)
          subst rz
          rw [List.append_nil] at el
          rw [← el] at g3 vl hv
          refine h1 _ _ ⟨W3, vs, _, _, g3.le (by omega), f3, B3, vl, hv, rfl⟩
      obtain ⟨W3, vs, v9, v10, g3, f3, B3, vl, hv, rfl⟩ := hI
      obtain ⟨h3, n3⟩ := h.gr g3 (by omega) f3 B3
      have gW : W3.b = W.b ∧ ∃ more, W3.recs = W.recs ++ more := by
        obtain ⟨a, _, rfl, _⟩ := id g3
        exact ⟨rfl, a, rfl⟩
      obtain ⟨gb, more, gr⟩ := gW
      have fne : ∀ {c : Addr}, c ∈ W.Ss → u' c ≠ none → s3 c = u' c := fun {c} m n => f3 c n fun z => by
        have ap := apart h.nd
        simp only [List.mem_cons, List.not_mem_nil, or_false] at z
        rcases z with z | z | z
        · exact ap.fs _ mem_b c m z.symm
        · exact ap.fs _ mem_r c m z.symm
        · exact ap.fs _ mem_p c m z.symm
      have e1 : s3 c1 = some (.ins CS d1 (stFs ns1 v1 m1)) := by rw [fne (List.mem_of_getElem? hc1) (by rw [ec1]; simp)]; exact ec1
      have e2 : s3 c2 = some (.ins CS d2 (stFs ns2 v2 m2)) := by rw [fne (List.mem_of_getElem? hc2) (by rw [ec2]; simp)]; exact ec2
      obtain ⟨dz, i3⟩ := h3.ins
      simp [goE, i3, lkW4, e1, e2, lkS2]
      rw [gb]
      refine ⟨W.r, W.p, W3.recs, W3.fr, ns1, ns2, v1, v2, vs, rfl, rfl, le, by omega, rfl, rfl, B3, ?_, ?_, rfl, vl, hv, hk s3 W3 h3 n3 g3 f3⟩
      · rw [gr]
        exact st1.app
      · rw [gr]
        exact st2.app
end
end Law
set_option Elab.async false
set_option linter.all false
set_option maxRecDepth 100000
set_option maxHeartbeats 2000000
namespace Law
open PySem PySem.Spec PyProof.Rows L2 Gl Dw


abbrev s_Watch_show : Stmt := inClass (top 56) 9
abbrev N_Watch_show : List Str := ["self", "statement", "witness"]
theorem sc_Watch_show : FnScope N_Watch_show ["self", "statement", "witness"] (defScope s_Watch_show) := ⟨rfl, rfl, rfl, by decide +kernel, rfl, by decide +kernel, by decide +kernel⟩
abbrev s_Watch_accept : Stmt := inClass (top 56) 10
abbrev N_Watch_accept : List Str := ["self", "client", "statement", "signers", "witness"]
theorem sc_Watch_accept : FnScope N_Watch_accept ["self", "client", "statement"] (defScope s_Watch_accept) := ⟨rfl, rfl, rfl, by decide +kernel, rfl, by decide +kernel, by decide +kernel⟩
def doesSign (A : Acc) (j i : Nat) : Bool := decide (i ∈ A.liars) || goesOn A (A.sgn.getD i []) j
def rShow : Acc → List D → Acc → D → Prop := fun A as A' d => ∃ (j i : Nat), as = [.int j, .int i] ∧ j < A.told.length ∧ i < A.many ∧ A.liars.length ≤ 9 ∧ d = .bl (doesSign A j i) ∧ A' = if doesSign A j i = true then A.show j i else A
def signers (A : Acc) (j : Nat) : Nat := (A.sgn.filter fun g => decide (j ∈ g)).length
def doesAccept (A : Acc) (c j : Nat) : Bool := decide (A.many < 2 * signers A j) && goesOn A (A.acc.getD c []) j
def rAccept : Acc → List D → Acc → D → Prop := fun A as A' d => ∃ (c j : Nat), as = [.int c, .int j] ∧ c < 10 ∧ j < A.told.length ∧ d = .bl (doesAccept A c j) ∧ A' = if doesAccept A c j = true then A.take c j else A
theorem inD_nat (i : Nat) (l : List Nat) : inD (.int (i : Nat)) (l.map iD) = decide (i ∈ l) := by
  have h := inD_ints (i : Int) (l.map fun n : Nat => (n : Int))
  rw [List.map_map] at h
  refine (show inD (.int (i : Nat)) (l.map iD) = _ from h).trans ?_
  rw [decide_eq_decide, List.mem_map]
  exact ⟨fun ⟨a, m, e⟩ => by rw [show i = a by omega]; exact m, fun m => ⟨i, m, rfl⟩⟩
theorem flatIn_nat (i : Int) (l : List Nat) : flatIn (.int i) (l.map iD) = true := by
  unfold flatIn
  rw [Bool.and_eq_true, List.all_eq_true]
  refine ⟨rfl, fun d hd => ?_⟩
  obtain ⟨a, _, rfl⟩ := List.mem_map.mp hd
  rfl
theorem map_range_getD {α : Type} (l : List α) (d : α) : (List.range l.length).map (fun i => l.getD i d) = l := by
  refine List.ext_getElem (by simp) fun i h1 h2 => ?_
  rw [List.getElem_map, List.getElem_range, List.getD_eq_getElem?_getD, List.getElem?_eq_getElem h2]
  rfl
def pS (A : Acc) (j : Nat) : D → Bool
  | .int w => decide (j ∈ A.sgn.getD w.toNat [])
  | _ => false
theorem signers_eq {A : Acc} {n j : Nat} (h : A.sgn.length = n) : ((rngD 0 n).filter (pS A j)).length = signers A j := by
  unfold signers
  rw [rngD_eq, List.filter_map, List.length_map, ← List.countP_eq_length_filter, ← List.countP_eq_length_filter]
  conv => rhs; rw [← map_range_getD A.sgn [], List.countP_map, h]
  refine List.countP_congr fun i _ => ?_
  simp [pS]
section
variable {P : Program} {w : World} {K : PySem.W.Frag} {mg : Str → Option Value} {base : Heap} {CB CH CS CW : Addr}
theorem ok_show (T : Tx P w K mg) (cW : ClW K CW) (cS : ClS K CS) (q_Watch_check_statement : Cf P w K mg base 3 CW "check_statement" (spX RW (wfCk P w CB CS CW fun A => A.told.length))) (q_Watch_check_witness : Cf P w K mg base 3 CW "check_witness" (spX RW (wfCk P w CB CS CW fun A => A.many))) (q_Watch_goes_on : Cf P w K mg base 18 CW "goes_on" (spX RW (wfGo P w CB CS CW))) (q_Book_raw_put : Cf P w K mg base 1 CB "raw_put" (spX RW (wfRaw P w CB))) {f : Addr} {fd : FuncData} (F : FW K "show" "Watch.show" s_Watch_show f fd) : Fn P w K mg base 19 f fd ["self", "statement", "witness"] (spX RW (wfDo P w CB CS CW rShow)) := by
  refine fn_data F sc_Watch_show (fun ds s k x h => ?_) fun cv A outer s H G hr gd => ⟨_, (pss_cons (ps_expr (pe_mtA q_Watch_check_statement hr (by omega) gd (fun σ => Gl.no_pass σ) (pv 0) (pa_cons (pv 1) pa_nil)))
    (pss_cons (ps_expr (pe_mtA q_Watch_check_witness hr (by omega) gd (fun σ => Gl.no_pass σ) (pv 0) (pa_cons (pv 2) pa_nil)))
    (pss_cons (ps_if (PW.pt (pw_and (pt_cmpR (kNotIn (K := K) hr) (pv 2) (kFld (K := K) (pv 0) rfl) rfl) (pw_and1 (pt_not (pt_val (pe_mtA q_Watch_goes_on hr (by omega) gd (fun σ => Gl.no_pass σ) (pv 0) (pa_cons (pe_ix (kIx (K := K)) (kFld (K := K) (pv 0) rfl) (pv 2) (fun _ _ => rfl)) (pa_cons (pv 1) pa_nil)))))))) (pss_one (ps_ret pe_bl)) pss_nil)
    (pss_cons (ps_expr (pe_mtA q_Book_raw_put hr (by omega) gd (fun σ => Gl.no_pass σ) (kFld (K := K) (pv 0) rfl) (pa_cons (C8.pe_gc rfl T.m_MARK) (pa_cons (pe_tup (pa_cons (pe_ix (kIx (K := K)) (kFld (K := K) (pv 0) rfl) (pv 2) (fun _ _ => rfl)) (pa_cons (kFld (K := K) (pe_ix (kIx (K := K)) (kFld (K := K) (pv 0) rfl) (pv 1) (fun _ _ => rfl)) rfl) pa_nil))) pa_nil))))
    (pss_cons (ps_expr (pe_bm PySem.F.plainAttrs_list PySem.F.slot_list_append PySem.F.type_list_append mt_append (pe_ix (kIx (K := K)) (kFld (K := K) (pv 0) rfl) (pv 2) (fun _ _ => rfl)) (pa_cons (pv 1) pa_nil)))
    (pss_one (ps_ret pe_bl))))))), ?_⟩
  · match ds, h with
    | .opq wa :: _, ⟨_, _, _, _, _, _, _, ⟨_, _, rfl, _⟩, _⟩ => rfl
  · skip

    have g2 := FO.one cW.cls cW.n2
    have g4 := FO.one cW.cls cW.n4
    have g6 := FO.one cW.cls cW.n6
    have g8 := FO.one cW.cls cW.n8
    have g9 := FO.one cW.cls cW.n9
    have g13 := FO.one cS.cls cS.n3
    apply bodyW
    · (first | walk_at "sim" | fail)
    intro ds s k x ok hw
    match ds, hw with
    | .opq wa :: _, ⟨A, t, W, A', _, h, ht, ⟨j, i, rfl, hj, hi, hll, rfl, hA⟩, hk⟩ =>
      obtain ⟨dx, hh⟩ := h.ins
      have q1 := h.sg1
      have s1 := h.ok.s1
      obtain ⟨is, hs⟩ : ∃ is, A.sgn[i]? = some is := ⟨_, List.getElem?_eq_getElem (by omega)⟩
      obtain ⟨c, hc, ec⟩ := h.sg2.get' hs
      have ec : s c = some (.lst (is.map iD)) := ec
      have gs : A.sgn.getD i [] = is := getD_of hs
      have so := h.ok.s2 is (List.mem_of_getElem? hs)
      obtain ⟨xs2, hx2⟩ : ∃ xs, A.told[j]? = some xs := ⟨_, List.getElem?_eq_getElem hj⟩
      obtain ⟨c2, hc2, d2, ns2, v2, m2, ec2, al2, st2⟩ := h.st2.get' hx2
      have ap := apart h.nd
      refine cut (fun env u => u = s ∧ env = [.dat (.opq wa), .dat (.int j), .dat (.int i)]) (fun K1 h1 _ _ => ?_) fun env u hI => ?_
      · simp [hh]
        exact ⟨noW (by decide), A, t, W, j, h, rfl, hj, h1 _ _ ⟨rfl, rfl⟩⟩
      obtain ⟨rfl, rfl⟩ := hI
      refine cut (fun env u' => u' = u ∧ env = [.dat (.opq wa), .dat (.int j), .dat (.int i)]) (fun K1 h1 _ _ => ?_) fun env u' hI => ?_
      · simp [hh]
        exact ⟨noW (by decide), A, t, W, i, h, rfl, hi, h1 _ _ ⟨rfl, rfl⟩⟩
      obtain ⟨rfl, rfl⟩ := hI
      refine cut (fun env s1 => ∃ W1, doesSign A j i = true ∧ WatW P w CB CS CW wa A t (t + 1) W1 s1 ∧ Nxt wa W W1 u' s1 ∧ Gr W W1 800 ∧ Fm [W.b, W.r, W.p] u' s1 ∧ env = [.dat (.opq wa), .dat (.int j), .dat (.int i)]) (fun K1 h1 hrt _ => ?_) fun env s1 hI => ?_
      · simp [hh, lkW2, lkW9, q1, atI_nat (opqs_get hc)]
        refine ⟨flatIn_nat _ _, ?_⟩
        rw [inD_nat]
        by_cases cl : i ∈ A.liars
        · rw [if_pos (decide_eq_true cl)]
          exact h1 _ _ ⟨W, by simp [doesSign, cl], h.le (Nat.le_refl _) (Nat.le_succ t), Nxt.refl, Gr.refl.le (by omega), Fm.refl, rfl⟩
        · rw [if_neg (by simpa using cl)]
          refine ⟨noW (by decide), A, t, W, is, j, h, ht, ec, so.2, by omega, rfl, hj, fun s1 W1 h1' n1 g1 f1 => ?_⟩
          have e : doesSign A j i = goesOn A is j := by unfold doesSign; rw [decide_eq_false cl, Bool.false_or, gs]
          dsimp only
          by_cases g : goesOn A is j = true
          · rw [if_pos g]
            exact h1 _ _ ⟨W1, e.trans g, h1', n1, g1, f1, rfl⟩
          · rw [if_neg g, hrt]
            rw [e, if_neg g] at hA
            subst hA
            rw [e, Bool.eq_false_iff.mpr g] at hk
            exact hk _ _ (h1'.le (Nat.le_succ t) (Nat.le_refl _)) n1
      obtain ⟨W1, ds, h1, n1, g1, f1, rfl⟩ := hI
      rw [ds, if_pos rfl] at hA
      subst hA
      rw [ds] at hk
      have gW : W1.Gs = W.Gs := by
        obtain ⟨_, _, rfl, _⟩ := id g1
        rfl
      refine cut (fun env s2 => ∃ W2, WatW P w CB CS CW wa A t (t + 1) W2 s2 ∧ Nxt wa W W2 u' s2 ∧ Gr W W2 801 ∧ Fm [W.b, W.r, W.p] u' s2 ∧ env = [.dat (.opq wa), .dat (.int j), .dat (.int i)]) (fun K1 hq _ _ => ?_) fun env s2 hI => ?_
      · obtain ⟨d1, i1⟩ := h1.ins
        obtain ⟨dz, zs, b1, b2, b3, _⟩ := id h1.bk
        have k1 := h1.wk1
        have k2 := h1.wk2
        have k3 := h1.st1
        obtain ⟨c3, hc3, d3, ns3, v3, m3, ec3, _⟩ := h1.st2.get' hx2
        have ew : atI (rD W1.wks) (i : Int) = some (.int (W1.wks[i]'(by omega))) := atI_nat (by rw [rD, List.getElem?_map, List.getElem?_eq_getElem (by omega)]; rfl)
        simp [i1, lkW4, lkW6, lkW8, b1, k1, k3, ew, atI_nat (opqs_get hc3), ec3, lkS3]
        refine ⟨noM (by decide), by decide, raw_gr h ht h1 n1 g1 (by omega) rfl (by simp [NestedKey.depth, NestedKey.depthAll]) rfl fun s2 W2 m h2 n2 g2 q2 _ f2 => hq _ _ ⟨W2, h2, n2, g2, f1.trans f2, rfl⟩⟩
      obtain ⟨W2, h2, n2, g2, f2, rfl⟩ := hI
      clear h1 n1 g1 f1 gW
      have gW : W2.Gs = W.Gs := by
        obtain ⟨_, _, rfl, _⟩ := id g2
        rfl
      have mc := List.mem_of_getElem? hc
      have ec2' : s2 c = some (.lst (is.map iD)) := f2.at ec fun z => by
        simp only [List.mem_cons, List.not_mem_nil, or_false] at z
        rcases z with z | z | z
        · exact ap.fg _ mem_b c mc z.symm
        · exact ap.fg _ mem_r c mc z.symm
        · exact ap.fg _ mem_p c mc z.symm
      obtain ⟨d2, i2⟩ := h2.ins
      have k2 := h2.sg1
      rw [gW] at k2
      simp [i2, lkW9, k2, atI_nat (opqs_get hc), ec2']
      refine ⟨by rw [sizeLine_eq]; omega, ?_⟩
      have es : is.map iD ++ [D.int (j : Nat)] = (is ++ [j]).map iD := by simp
      rw [es]
      obtain ⟨h3, n3⟩ := h2.sig (i := i) (n := j) (by rw [gW]; exact hc) hs hj (Fm.put (List.mem_singleton.mpr rfl)) rup_same
      exact hk _ _ h3 (n2.trans n3)
theorem ok_accept (T : Tx P w K mg) (cW : ClW K CW) (q_Watch_check_client : Cf P w K mg base 3 CW "check_client" (spX RW (wfCk P w CB CS CW fun A => A.acc.length))) (q_Watch_check_statement : Cf P w K mg base 3 CW "check_statement" (spX RW (wfCk P w CB CS CW fun A => A.told.length))) (q_Watch_goes_on : Cf P w K mg base 18 CW "goes_on" (spX RW (wfGo P w CB CS CW))) {f : Addr} {fd : FuncData} (F : FW K "accept" "Watch.accept" s_Watch_accept f fd) : Fn P w K mg base 19 f fd ["self", "client", "statement"] (spX RW (wfDo P w CB CS CW rAccept)) := by
  refine fn_data F sc_Watch_accept (fun ds s k x h => ?_) fun cv A outer s H G hr gd => ⟨_, (pss_cons (ps_expr (pe_mtA q_Watch_check_client hr (by omega) gd (fun σ => Gl.no_pass σ) (pv 0) (pa_cons (pv 1) pa_nil)))
    (pss_cons (ps_expr (pe_mtA q_Watch_check_statement hr (by omega) gd (fun σ => Gl.no_pass σ) (pv 0) (pa_cons (pv 2) pa_nil)))
    (pss_cons (ps_setLc (i := 3) (y := "signers") (own := [("witness", 4)]) (g := gName 4) (by rfl) sc_Watch_accept.nd rfl rfl (sw_true rfl rfl rfl (by decide +kernel)) (pi_range1 rfl T.range (pa_cons (kFld (K := K) (pv 0) rfl) pa_nil)) (blkOk_by (own := [("witness", 4)]) (N := N_Watch_accept) (sc := defScope s_Watch_accept) (by decide +kernel)) (fun _ _ _ _ _ => pg_name (i := 4) sc_Watch_accept.nd rfl (Or.inl rfl)) (fun _ _ _ _ _ => (pts_one (pt_cmpR (kIn (K := K) hr) (pv 2) (pe_ix (kIx (K := K)) (kFld (K := K) (pv 0) rfl) (pv 4) (fun _ _ => rfl)) rfl))) (fun _ _ _ _ _ => (pv 4)))
    (pss_cons (ps_if (PW.pt (pw_or (pt_cmpR (kLe (K := K) hr) (pe_op (kMul (K := K)) pe_int (pe_callB (kLen (K := K)) (by rfl) T.len (by decide +kernel) (pa_cons (pv 3) pa_nil))) (kFld (K := K) (pv 0) rfl) (nomark _)) (pw_or1 (pt_not (pt_val (pe_mtA q_Watch_goes_on hr (by omega) gd (fun σ => Gl.no_pass σ) (pv 0) (pa_cons (pe_ix (kIx (K := K)) (kFld (K := K) (pv 0) rfl) (pv 1) (fun _ _ => rfl)) (pa_cons (pv 2) pa_nil)))))))) (pss_one (ps_ret pe_bl)) pss_nil)
    (pss_cons (ps_expr (pe_bm PySem.F.plainAttrs_list PySem.F.slot_list_append PySem.F.type_list_append mt_append (pe_ix (kIx (K := K)) (kFld (K := K) (pv 0) rfl) (pv 1) (fun _ _ => rfl)) (pa_cons (pv 2) pa_nil)))
    (pss_one (ps_ret pe_bl))))))), ?_⟩
  · match ds, h with
    | .opq wa :: _, ⟨_, _, _, _, _, _, _, ⟨_, _, rfl, _⟩, _⟩ => rfl
  · skip

    have g1 := FO.one cW.cls cW.n1
    have g4 := FO.one cW.cls cW.n4
    have g8 := FO.one cW.cls cW.n8
    have g9 := FO.one cW.cls cW.n9
    have g10 := FO.one cW.cls cW.n10
    apply bodyW
    · (first | walk_at "sim" | fail)
    intro ds s k x ok hw
    match ds, hw with
    | .opq wa :: _, ⟨A, t, W, A', _, h, ht, ⟨c, j, rfl, hc, hj, rfl, hA⟩, hk⟩ =>
      obtain ⟨dx, hh⟩ := h.ins
      have q1 := h.sg1
      have q2 := h.tk1
      have a1 := h.ok.a1
      have s1 := h.ok.s1
      obtain ⟨is, hs⟩ : ∃ is, A.acc[c]? = some is := ⟨_, List.getElem?_eq_getElem (by omega)⟩
      obtain ⟨ca, hca, ec⟩ := h.tk2.get' hs
      have ec : s ca = some (.lst (is.map iD)) := ec
      have gs : A.acc.getD c [] = is := getD_of hs
      have so := h.ok.a2 is (List.mem_of_getElem? hs)
      have ap := apart h.nd
      refine cut (fun env u => u = s ∧ env = [.dat (.opq wa), .dat (.int c), .dat (.int j), .no, .no]) (fun K1 h1 _ _ => ?_) fun env u hI => ?_
      · simp [hh]
        exact ⟨noW (by decide), A, t, W, c, h, rfl, (by show c < A.acc.length; omega), h1 _ _ ⟨rfl, rfl⟩⟩
      obtain ⟨rfl, rfl⟩ := hI
      refine cut (fun env u' => u' = u ∧ env = [.dat (.opq wa), .dat (.int c), .dat (.int j), .no, .no]) (fun K1 h1 _ _ => ?_) fun env u' hI => ?_
      · simp [hh]
        exact ⟨noW (by decide), A, t, W, j, h, rfl, hj, h1 _ _ ⟨rfl, rfl⟩⟩
      obtain ⟨rfl, rfl⟩ := hI
      refine cut (fun env u => u = u' ∧ ∃ (ds : List D), ds.length = signers A j ∧ env = [.dat (.opq wa), .dat (.int c), .dat (.int j), .dat (.lst ds), .no]) (fun K1 h1 _ _ => ?_) fun env u hI => ?_
      · have m9 := h.ok.m2
        simp [hh, lkW1, lkW9, q1]
        refine ⟨by rw [sizeLine_eq]; omega, by rw [rng_len, sizeLine_eq]; omega, wLc_pure (pS A j) id (fun d hd kt kf y1 y2 => ?_) (h1 _ _ ⟨rfl, _, ?_, rfl⟩)⟩
        · rw [rngD_eq] at hd
          obtain ⟨w', hw', rfl⟩ := List.mem_map.mp hd
          have hw' := List.mem_range.mp hw'
          obtain ⟨g, hg⟩ : ∃ g, A.sgn[w']? = some g := ⟨_, List.getElem?_eq_getElem (by omega)⟩
          obtain ⟨cg, hcg, eg⟩ := h.sg2.get' hg
          have eg : u' cg = some (.lst (g.map iD)) := eg
          have ep : pS A j (D.int (0 + (w' : Nat))) = decide (j ∈ g) := by
            unfold pS
            simp [hg]
          rw [ep] at y1 y2
          simp [hh, lkW9, q1, atI_nat (opqs_get hcg), eg]
          rw [inD_nat]
          by_cases q : j ∈ g
          · rw [if_pos (decide_eq_true q)]
            have := y1 (decide_eq_true q)
            simpa using this
          · rw [if_neg (by simpa using q)]
            exact y2 (decide_eq_false q)
        · rw [List.map_id]
          exact signers_eq s1
      obtain ⟨rfl, dl, ld, rfl⟩ := hI
      refine cut (fun env s1 => ∃ W1, doesAccept A c j = true ∧ WatW P w CB CS CW wa A t (t + 1) W1 s1 ∧ Nxt wa W W1 u s1 ∧ Gr W W1 800 ∧ Fm [W.b, W.r, W.p] u s1 ∧ env = [.dat (.opq wa), .dat (.int c), .dat (.int j), .dat (.lst dl), .no]) (fun K1 h1 hrt _ => ?_) fun env s1 hI => ?_
      · have m9 := h.ok.m2
        have sl : signers A j ≤ A.sgn.length := List.length_filter_le _ _
        simp [hh, lkW1, lkW10, q2, atI_nat (opqs_get hca), ld]
        have e : doesAccept A c j = (decide (A.many < 2 * signers A j) && goesOn A is j) := by unfold doesAccept; rw [gs]
        refine ⟨.inl (.inl ⟨by omega, by omega⟩), iteP (fun q => ?_) fun q => ?_⟩
        · rw [hrt]
          rw [decide_eq_false (by omega), Bool.false_and] at e
          rw [e, if_neg (by decide)] at hA
          subst hA
          rw [e] at hk
          exact hk _ _ (h.le (Nat.le_succ t) (Nat.le_succ t)) Nxt.refl
        · rw [decide_eq_true (by omega), Bool.true_and] at e
          refine ⟨noW (by decide), A, t, W, is, j, h, ht, ec, so.2, by omega, rfl, hj, fun s1 W1 h1' n1 g1 f1 => ?_⟩
          dsimp only
          by_cases g : goesOn A is j = true
          · rw [if_pos g]
            exact h1 _ _ ⟨W1, e.trans g, h1', n1, g1, f1, rfl⟩
          · rw [if_neg g, hrt]
            rw [e, if_neg g] at hA
            subst hA
            rw [e, Bool.eq_false_iff.mpr g] at hk
            exact hk _ _ (h1'.le (Nat.le_succ t) (Nat.le_refl _)) n1
      obtain ⟨W1, ds, h1, n1, g1, f1, rfl⟩ := hI
      rw [ds, if_pos rfl] at hA
      subst hA
      rw [ds] at hk
      have gW : W1.Ts = W.Ts := by
        obtain ⟨_, _, rfl, _⟩ := id g1
        rfl
      have mc := List.mem_of_getElem? hca
      have ec2' : s1 ca = some (.lst (is.map iD)) := f1.at ec fun z => by
        simp only [List.mem_cons, List.not_mem_nil, or_false] at z
        rcases z with z | z | z
        · exact ap.ft _ mem_b ca mc z.symm
        · exact ap.ft _ mem_r ca mc z.symm
        · exact ap.ft _ mem_p ca mc z.symm
      obtain ⟨d2, i2⟩ := h1.ins
      have k2 := h1.tk1
      rw [gW] at k2
      simp [i2, lkW10, k2, atI_nat (opqs_get hca), ec2']
      refine ⟨by rw [sizeLine_eq]; omega, ?_⟩
      have es : is.map iD ++ [D.int (j : Nat)] = (is ++ [j]).map iD := by simp
      rw [es]
      obtain ⟨h3, n3⟩ := h1.tak (i := c) (n := j) (by rw [gW]; exact hca) hs hj (Fm.put (List.mem_singleton.mpr rfl)) rup_same
      exact hk _ _ h3 (n1.trans n3)
end
end Law
set_option Elab.async false
set_option linter.all false
set_option maxRecDepth 100000
set_option maxHeartbeats 2000000
namespace Law
open PySem PySem.Spec PyProof.Rows L2 Gl Dw


abbrev s__law_any : Stmt := top 60
abbrev N__law_any : List Str := ["hand", "some"]
theorem sc__law_any : FnScope N__law_any ["hand", "some"] (defScope s__law_any) := ⟨rfl, rfl, rfl, by decide +kernel, rfl, by decide +kernel, by decide +kernel⟩
abbrev s__law_mixed : Stmt := top 61
abbrev N__law_mixed : List Str := ["hand", "things", "left", "found"]
theorem sc__law_mixed : FnScope N__law_mixed ["hand", "things"] (defScope s__law_mixed) := ⟨rfl, rfl, rfl, by decide +kernel, rfl, by decide +kernel, by decide +kernel⟩
abbrev s__law_text : Stmt := top 66
abbrev N__law_text : List Str := ["hand"]
theorem sc__law_text : FnScope N__law_text ["hand"] (defScope s__law_text) := ⟨rfl, rfl, rfl, by decide +kernel, rfl, by decide +kernel, by decide +kernel⟩
abbrev s__law_begins : Stmt := top 63
abbrev N__law_begins : List Str := ["longer", "one"]
theorem sc__law_begins : FnScope N__law_begins ["longer", "one"] (defScope s__law_begins) := ⟨rfl, rfl, rfl, by decide +kernel, rfl, by decide +kernel, by decide +kernel⟩
abbrev s__law_does_sign : Stmt := top 64
abbrev N__law_does_sign : List Str := ["its", "number", "witness"]
theorem sc__law_does_sign : FnScope N__law_does_sign ["its", "number", "witness"] (defScope s__law_does_sign) := ⟨rfl, rfl, rfl, by decide +kernel, rfl, by decide +kernel, by decide +kernel⟩
abbrev s__law_does_accept : Stmt := top 65
abbrev N__law_does_accept : List Str := ["its", "number", "client", "row"]
theorem sc__law_does_accept : FnScope N__law_does_accept ["its", "number", "client"] (defScope s__law_does_accept) := ⟨rfl, rfl, rfl, by decide +kernel, rfl, by decide +kernel, by decide +kernel⟩
/-- things in some order -/
def wfMixed : WF Rg := fun ds s k _ => match ds with
  | [.opq a, .lst ts] => ∃ c, HoR a c s ∧ ts.length ≤ 1000 ∧ D.flts ts = true ∧ ∀ s' us, HoR a c s' → Kb a s s' → us.Perm ts → k (.lst us) s'
  | _ => False
def wfAny : WF Rg := fun ds s k _ => match ds with
  | [.opq a, .lst ts] => ∃ c, HoR a c s ∧ 0 < ts.length ∧ ts.length ≤ 1000 ∧ ∀ s' d, HoR a c s' → OffR a s s' → d ∈ ts → k d s'
  | _ => False
def wfTxt : WF Rg := fun ds s k _ => match ds with
  | [.opq a] => ∃ c, HoR a c s ∧ ∀ s' x, HoR a c s' → OffR a s s' → okText x → k (.str x) s'
  | _ => False
structure Iad where
  la : Addr
  tl : Addr
  gl : Addr
  al : Addr
  Ls : List Addr
  Gs : List Addr
  Ts : List Addr
def Iad.all (ia : Addr) (I : Iad) : List Addr := [ia, I.la, I.tl, I.gl, I.al] ++ (I.Ls ++ (I.Gs ++ I.Ts))
def txs (xs : List Str) : List D := xs.map D.str
def itKv (A : Acc) (I : Iad) : List (Key × D) := [(.inr "many", .int A.many), (.inr "liars", .tup (A.liars.map iD)), (.inr "liar", .bl A.liar), (.inr "logs", .opq I.la), (.inr "told", .opq I.tl), (.inr "signed", .opq I.gl), (.inr "accepted", .opq I.al)]
def StrAt (s : Rg) (c : Addr) (xs : List Str) : Prop := s c = some (.lst (txs xs))
structure ItW (ia : Addr) (A : Acc) (I : Iad) (s : Rg) : Prop where
  d : s ia = some (.dic (itKv A I))
  lg1 : s I.la = some (.lst (opqs I.Ls))
  lg2 : Al (StrAt s) I.Ls A.logs
  tl : s I.tl = some (.lst (A.told.map fun xs => .tup (txs xs)))
  sg1 : s I.gl = some (.lst (opqs I.Gs))
  sg2 : Al (NatAt s) I.Gs A.sgn
  tk1 : s I.al = some (.lst (opqs I.Ts))
  tk2 : Al (NatAt s) I.Ts A.acc
  nd : (I.all ia).Nodup
theorem vkM {A : Acc} {I : Iad} : valK (itKv A I) (.inr "many") = some (.int A.many) := rfl
theorem vkL {A : Acc} {I : Iad} : valK (itKv A I) (.inr "liars") = some (.tup (A.liars.map iD)) := rfl
theorem vkF {A : Acc} {I : Iad} : valK (itKv A I) (.inr "liar") = some (.bl A.liar) := rfl
theorem vkO {A : Acc} {I : Iad} : valK (itKv A I) (.inr "logs") = some (.opq I.la) := rfl
theorem vkT {A : Acc} {I : Iad} : valK (itKv A I) (.inr "told") = some (.opq I.tl) := rfl
theorem vkS {A : Acc} {I : Iad} : valK (itKv A I) (.inr "signed") = some (.opq I.gl) := rfl
theorem vkA {A : Acc} {I : Iad} : valK (itKv A I) (.inr "accepted") = some (.opq I.al) := rfl
theorem dget_dic {s : Rg} {a : Addr} {kvs : List (Key × D)} {x : Str} (e : s a = some (.dic kvs)) : dgetR s (.opq a) (.str x) = some (valK kvs (.inr x)) := by
  unfold dgetR
  dsimp only
  rw [e]
  rfl
def okTextB (x : Str) : Bool := decide (x.length ≤ 40) && x.cps.toList.all okSign
theorem okText_of {x : Str} (h : okTextB x = true) : okText x := by
  unfold okTextB at h
  rw [Bool.and_eq_true, List.all_eq_true] at h
  exact ⟨of_decide_eq_true h.1, h.2⟩
theorem entries_ok : ∀ j : Fin 50, okTextB ("entry " ++ Str.ofString (Int.repr (j.val : Int))) = true := by decide +kernel
/-- all texts are such as may be entries -/
structure TxOk (A : Acc) : Prop where
  l : ∀ xs ∈ A.logs, ∀ x ∈ xs, okText x
  t : ∀ xs ∈ A.told, ∀ x ∈ xs, okText x
theorem txs_pys : ∀ xs : List Str, D.pys (txs xs) = some (xs.map PyData.str)
  | [] => rfl
  | x :: r => by
    show D.pys (D.str x :: txs r) = _
    simp only [D.pys, txs_pys r]
    rfl
theorem txs_lq {xs : List Str} {n : Nat} (h : ∀ x ∈ xs, okText x) (l : xs.length ≤ n) : Lq 403 0 n (txs xs) := ⟨by rw [txs, List.length_map]; exact l, fun d hd => by
  obtain ⟨x, hx, rfl⟩ := List.mem_map.mp hd
  exact Pq.str (l := 40) (fun c hc => by
    have := (h x hx).2 c hc
    unfold okSign at this
    rw [Bool.and_eq_true, decide_eq_true_eq, decide_eq_true_eq] at this
    omega) (h x hx).1⟩
theorem txs_shaped {xs : List Str} (h : ∀ x ∈ xs, okText x) : SeqAt.shaped (.tuple (xs.map PyData.str)) = true := by
  obtain ⟨z, a, b⟩ := (txs_lq h (Nat.le_refl _)).tup.shaped (by omega)
  simp only [D.py, txs_pys] at a
  cases a
  exact b
theorem txs_eqvA : ∀ xs ys : List Str, PyData.eqvAll (xs.map PyData.str) (ys.map PyData.str) = decide (xs = ys)
  | [], [] => rfl
  | [], y :: t => rfl
  | x :: r, [] => rfl
  | x :: r, y :: t => by
    simp only [List.map_cons, PyData.eqvAll, txs_eqvA r t, PyData.eqv]
    by_cases h : x = y
    · subst h
      simp
    · simp [h]
theorem txs_eqv (xs ys : List Str) : PyData.eqv (.tuple (xs.map PyData.str)) (.tuple (ys.map PyData.str)) = decide (xs = ys) := by
  simp only [PyData.eqv]
  exact txs_eqvA xs ys
def wfBeg {S : Type} : WF S := fun ds s k _ => match ds with
  | [.tup as, .tup bs] => ∃ xs ys : List Str, as = txs xs ∧ bs = txs ys ∧ (∀ x ∈ xs, okText x) ∧ (∀ x ∈ ys, okText x) ∧ k (.bl (decide (xs.take ys.length = ys))) s
  | _ => False
def wfDoes (b : Acc → Nat) (g : Acc → Nat → Nat → Bool) : WF Rg := fun ds s k _ => match ds with
  | [.opq ia, .int n, .int i] => ∃ A t I j c, ItW ia A I s ∧ AccOk A t ∧ TxOk A ∧ t ≤ 64 ∧ A.liars.length ≤ 9 ∧ n = (j : Nat) ∧ i = (c : Nat) ∧ j < A.told.length ∧ c < b A ∧ k (.bl (g A j c)) s
  | _ => False
theorem wLcK_pure {S : Type} {ck : S → Prop} {g : WG} {tt : WT S} {te : WE S} {vs : List Nat} {env : List Sl} {s : S} {x : Xc → S → Prop} (c : ck s) (p : D → Bool) (f : D → D) : ∀ {ds : List D} {k : List D → S → Prop}, (∀ d ∈ ds, ∀ (kt : D → S → Prop) (kf : S → Prop), (p d = true → kt (f d) s) → (p d = false → kf s) → g d (wp env vs) fun e1 => tt e1 s (fun b s1 => if b = true then te e1 s1 kt x else kf s1) x) → k ((ds.filter p).map f) s → wLcK ck g tt te vs ds env s k x
  | [], k, _, hk => hk
  | d :: r, k, h, hk => by
    unfold wLcK
    refine h d (List.mem_cons_self ..) _ _ (fun hp => ⟨c, wLcK_pure c p f (fun e he => h e (List.mem_cons_of_mem _ he)) ?_⟩) fun hp => ⟨c, wLcK_pure c p f (fun e he => h e (List.mem_cons_of_mem _ he)) ?_⟩
    · rw [List.filter_cons, if_pos hp] at hk
      exact hk
    · rw [List.filter_cons, if_neg (by rw [hp]; decide)] at hk
      exact hk
def pG (s : Rg) (j : Nat) : D → Bool
  | .opq c => (match s c with
    | some (.lst ds) => inD (.int j) ds
    | _ => false)
  | _ => false
theorem pG_len {s : Rg} {j : Nat} : ∀ {Gs : List Addr} {gs : List (List Nat)}, Al (NatAt s) Gs gs → ((opqs Gs).filter (pG s j)).length = (gs.filter fun g => decide (j ∈ g)).length
  | _, _, .nil => rfl
  | _, _, .cons (a := c) (b := g) (as := as) h t => by
    have e : pG s j (.opq c) = decide (j ∈ g) := by
      unfold pG
      dsimp only
      rw [show s c = some (.lst (g.map iD)) from h]
      exact inD_nat j g
    show ((D.opq c :: opqs as).filter (pG s j)).length = _
    rw [List.filter_cons, List.filter_cons, e]
    by_cases q : j ∈ g
    · rw [if_pos (decide_eq_true q), if_pos (decide_eq_true q), List.length_cons, List.length_cons, pG_len t]
    · rw [if_neg (by simpa using q), if_neg (by simpa using q), pG_len t]
section
variable {P : Program} {w : World} {K : PySem.W.Frag} {mg : Str → Option Value} {base : Heap} {CB CH CS CW : Addr}
theorem HoR.kp {a c : Addr} {s t : Rg} (h : HoR a c s) (k : Kp s t) : HoR a c t := by
  obtain ⟨cells, p, r, m, n, h1, h2, h3⟩ := h
  exact ⟨cells, p, r, m, n, k.at h1, k.at h2, h3⟩
theorem HoR.off {a c l : Addr} {s : Rg} {o : Mo} (h : HoR a c s) (n1 : a ≠ l) (n2 : c ≠ l) : HoR a c (rup s l o) := by
  obtain ⟨cells, p, r, m, n, h1, h2, h3⟩ := h
  exact ⟨cells, p, r, m, n, by rw [rup_ne n1]; exact h1, by rw [rup_ne n2]; exact h2, h3⟩
theorem seq_nat {j n : Nat} (h : j < n) : seqIndex? (j : Int) n = some j := by
  unfold seqIndex?
  simp
  omega
theorem perm_erase {α : Type} : ∀ {l : List α} {j : Nat} {d : α}, l[j]? = some d → (d :: l.eraseIdx j).Perm l
  | a :: r, 0, d, h => by
    cases h
    exact .refl _
  | a :: r, j + 1, d, h => by
    have ih := perm_erase (l := r) (j := j) (d := d) (by simpa using h)
    rw [List.eraseIdx_cons_succ]
    exact (List.Perm.swap a d _).trans (ih.cons a)
  | [], _, _, h => by simp at h
theorem ok_mixed (T : Tx P w K mg) (f__law_draw : Df P w K mg base 1 "_law_draw" (spX RW wfDraw)) {f : Addr} {fd : FuncData} (F : FD K "_law_mixed" s__law_mixed f fd) : Fn P w K mg base 2 f fd ["hand", "things"] (spX RW wfMixed) := by
  refine fn_data F sc__law_mixed (fun ds s k x h => ?_) fun cv A outer s H G hr gd => ⟨_, (pss_cons (ps_par (i := 2) (j := 3) (by rfl) sc__law_mixed.nd rfl rfl (by decide) rfl rfl (pa_cons (pe_callTy (kListR (K := K)) (by rfl) T.list (by decide +kernel) (pa_cons (pv 1) pa_nil)) (pa_cons (pe_lst pa_nil) pa_nil)) (by rfl))
    (pss_cons (ps_while (passes_of rfl) (pt_cmpR op_gtX (pe_callB (kLen (K := K)) (by rfl) T.len (by decide +kernel) (pa_cons (pv 2) pa_nil)) pe_int (nomark _)) (pss_one (ps_expr (pe_bm PySem.F.plainAttrs_list PySem.F.slot_list_append PySem.F.type_list_append mt_append (pv 3) (pa_cons (pe_bm PySem.F.plainAttrs_list PySem.F.slot_list_pop PySem.F.type_list_pop mt_popAt (pv 2) (pa_cons (pe_df f__law_draw hr (by omega) gd rfl (fun σ => Gl.no_pass σ) (pa_cons (pv 0) (pa_cons (pe_callB (kLen (K := K)) (by rfl) T.len (by decide +kernel) (pa_cons (pv 2) pa_nil)) pa_nil))) pa_nil)) pa_nil)))))
    (pss_one (ps_ret (pv 3))))), ?_⟩
  · match ds, h with
    | [.opq _, .lst _], _ => rfl
  · 
    have ow : OwnSl 3 := ⟨⟩
    apply bodyW
    · (first | walk_at "sim" | fail)
    intro ds s k x ok h
    match ds, h with
    | [.opq a, .lst ts], ⟨c, ho, tl, fl, hk⟩ =>
      have sa : s a ≠ none := by obtain ⟨_, _, _, _, _, ha, _⟩ := ho; rw [ha]; simp
      refine cut (fun env t => ∃ l, l ≠ a ∧ HoR a c t ∧ Kb a s t ∧ t l = some (.lst ts) ∧ s l = none ∧ env = [.dat (.opq a), .dat (.lst ts), .dat (.opq l), .own []]) (fun K1 h1 _ _ => ?_) fun env t hI => ?_
      · simp [N__law_mixed]
        refine ⟨fl, fun l hl => ?_⟩
        have la : l ≠ a := fun z => sa (by rw [← z]; exact hl)
        exact h1 _ _ ⟨l, la, ho.kp (Kp.new hl), (Kp.new hl).kb, rup_same, hl, rfl⟩
      obtain ⟨l, la, ho1, kb1, e1, sl, rfl⟩ := hI
      refine cut (fun env t2 => ∃ us, HoR a c t2 ∧ Kb a s t2 ∧ us.Perm ts ∧ env = [.dat (.opq a), .dat (.lst ts), .dat (.opq l), .own us]) (fun K1 h1 _ _ => ?_) fun env t hI => ?_
      · refine wWh_fuel (fun n env t2 => ∃ ls us, HoR a c t2 ∧ Kb a s t2 ∧ t2 l = some (.lst ls) ∧ (us ++ ls).Perm ts ∧ n = ls.length ∧ env = [.dat (.opq a), .dat (.lst ts), .dat (.opq l), .own us]) ⟨ts, [], ho1, kb1, e1, .refl _, rfl, rfl⟩ ?_
        intro n jf env t2 ih hp
        obtain ⟨ls, us, ho2, kb2, e2, pm, rfl, rfl⟩ := hp
        have pl := pm.length_eq
        rw [List.length_append] at pl
        show wTest _ _ _ _ _
        simp [e2]
        refine iteP (fun hl => ?_) fun hl => ?_
        · refine ⟨c, ho2, by omega, by omega, fun s3 i ho3 off3 i0 i1 => ?_⟩
          obtain ⟨j, rfl⟩ := Int.eq_ofNat_of_zero_le i0
          have jl : j < ls.length := by omega
          have e3 : s3 l = some (.lst ls) := (off3 l la).trans e2
          refine ⟨ls, e3, by omega, by omega, j, seq_nat jl, ls[j], List.getElem?_eq_getElem jl, by rw [sizeLine_eq]; omega, ?_⟩
          refine ih (ls.eraseIdx j).length _ _ (by rw [List.length_eraseIdx_of_lt jl]; omega) ⟨ls.eraseIdx j, us ++ [ls[j]], ?_, ?_, rup_same, ?_, rfl, rfl⟩
          · exact ho3.off (Ne.symm la) fun z => by rw [← z] at sl; obtain ⟨_, _, _, _, _, _, hc, _⟩ := ho; rw [hc] at sl; cases sl
          · have kb3 : Kb a s s3 := kb2.trans fun x hx _ => off3 x hx
            exact fun x hx n => (rup_ne fun z => n (by rw [z]; exact sl)).trans (kb3 x hx n)
          · refine .trans ?_ pm
            rw [List.append_assoc]
            exact (perm_erase (List.getElem?_eq_getElem jl)).append_left us
        · have : ls = [] := List.length_eq_zero_iff.mp (by omega)
          subst this
          rw [List.append_nil] at pm
          exact h1 _ _ ⟨us, ho2, kb2, pm, rfl⟩
      obtain ⟨us, ho2, kb2, pm, rfl⟩ := hI
      exact hk _ _ ho2 kb2 pm
theorem ok_any (T : Tx P w K mg) (f__law_draw : Df P w K mg base 1 "_law_draw" (spX RW wfDraw)) {f : Addr} {fd : FuncData} (F : FD K "_law_any" s__law_any f fd) : Fn P w K mg base 2 f fd ["hand", "some"] (spX RW wfAny) := by
  refine fn_data F sc__law_any (fun ds s k x h => ?_) fun cv A outer s H G hr gd => ⟨_, (pss_one (ps_ret (pe_ix (kIx (K := K)) (pv 1) (pe_df f__law_draw hr (by omega) gd rfl (fun σ => Gl.no_pass σ) (pa_cons (pv 0) (pa_cons (pe_callB (kLen (K := K)) (by rfl) T.len (by decide +kernel) (pa_cons (pv 1) pa_nil)) pa_nil))) (fun _ _ => rfl)))), ?_⟩
  · match ds, h with
    | [.opq a, .lst ts], _ => rfl
  · skip

    apply bodyW
    · (first | walk_at "sim" | fail)
    intro ds s k x ok hw
    match ds, hw with
    | [.opq a, .lst ts], ⟨c, ho, l0, l1, hk⟩ =>
      simp
      refine ⟨c, ho, by omega, by omega, fun s' i h' o i0 i1 => ?_⟩
      obtain ⟨j, rfl⟩ := Int.eq_ofNat_of_zero_le i0
      have jl : j < ts.length := by omega
      dsimp only
      rw [atI_nat (List.getElem?_eq_getElem jl)]
      exact hk _ _ h' o (List.getElem_mem jl)
theorem ok_text (T : Tx P w K mg) (f__law_draw : Df P w K mg base 1 "_law_draw" (spX RW wfDraw)) (f__law_any : Df P w K mg base 2 "_law_any" (spX RW wfAny)) {f : Addr} {fd : FuncData} (F : FD K "_law_text" s__law_text f fd) : Fn P w K mg base 3 f fd ["hand"] (spX RW wfTxt) := by
  refine fn_data F sc__law_text (fun ds s k x h => ?_) fun cv A outer s H G hr gd => ⟨_, (pss_one (ps_ret (pe_df f__law_any hr (by omega) gd rfl (fun σ => Gl.no_pass σ) (pa_cons (pv 0) (pa_cons (pe_lst (pa_cons pe_str (pa_cons pe_str (pa_cons pe_str (pa_cons pe_str (pa_cons pe_str (pa_cons (pe_op (kMul (K := K)) pe_str pe_int) (pa_cons (pe_op (kAdd (K := K)) pe_str (pe_callTy cr_str (by rfl) T.str (by decide +kernel) (pa_cons (pe_df f__law_draw hr (by omega) gd rfl (fun σ => Gl.no_pass σ) (pa_cons (pv 0) (pa_cons pe_int pa_nil))) pa_nil))) pa_nil)))))))) pa_nil))))), ?_⟩
  · match ds, h with
    | [.opq a], _ => rfl
  · skip

    apply bodyW
    · (first | walk_at "sim" | fail)
    intro ds s k x ok hw
    match ds, hw with
    | [.opq a], ⟨c, ho, hk⟩ =>
      have mx : Dt.mulT (Str.ofString "x") 40 = ⟨(List.replicate 40 120).toArray⟩ := by decide +kernel
      simp
      refine ⟨by decide, by decide, by decide +kernel, by rw [mx]; decide +kernel, c, ho, by decide, by decide, fun s1 i h1 o1 i0 i1 => ?_⟩
      obtain ⟨j, rfl⟩ := Int.eq_ofNat_of_zero_le i0
      have en := okText_of (entries_ok ⟨j, by omega⟩)
      have el : (Str.ofString "entry " ++ Str.ofString (Int.repr (j : Int))).length ≤ 40 := en.1
      dsimp only
      have sp : (Str.ofString "entry " ++ Str.ofString (Int.repr (j : Int))).length = (Str.ofString "entry ").length + (Str.ofString (Int.repr (j : Int))).length := by
        show (Array.size _) = Array.size _ + Array.size _
        exact Array.size_append ..
      have l2 : (Str.ofString (Int.repr (j : Int))).length ≤ 40 := by omega
      have lg : (j : Int).natAbs.log2 ≤ j := by
        rw [Int.natAbs_natCast]
        exact Nat.log2_le_self j
      refine ⟨by omega, by rw [sizeLine_eq]; omega, by rw [← sp, sizeLine_eq]; omega, by decide, c, h1, by simp, by simp, fun s2 d h2 o2 hd => ?_⟩
      · rw [mx] at hd
        simp only [List.mem_cons, List.not_mem_nil, or_false] at hd
        have fin : ∀ {y : Str}, okTextB y = true → k (.str y) s2 := fun h => hk _ _ h2 (o1.trans o2) (okText_of h)
        rcases hd with rfl | rfl | rfl | rfl | rfl | rfl | rfl
        · exact fin (by decide +kernel)
        · exact fin (by decide +kernel)
        · exact fin (by decide +kernel)
        · exact fin (by decide +kernel)
        · exact fin (by decide +kernel)
        · exact fin (by decide +kernel)
        · exact hk _ _ h2 (o1.trans o2) en
theorem ok_begins (T : Tx P w K mg)  {f : Addr} {fd : FuncData} (F : FD K "_law_begins" s__law_begins f fd) : Fn P w K mg base 1 f fd ["longer", "one"] (spX RW wfBeg) := by
  refine fn_data F sc__law_begins (fun ds s k x h => ?_) fun cv A outer s H G hr gd => ⟨_, (pss_one (ps_ret (pe_and (pe_cmpR op_geX (pe_callB (kLen (K := K)) (by rfl) T.len (by decide +kernel) (pa_cons (pv 0) pa_nil)) (pe_callB (kLen (K := K)) (by rfl) T.len (by decide +kernel) (pa_cons (pv 1) pa_nil)) (nomark _)) (pe_one (pe_cmpR (kEq (K := K) hr) (pe_callTy (kTuple (K := K)) (by rfl) T.tuple (by decide +kernel) (pa_cons (pe_slice (kSl (K := K)) (pv 0) po_none (po_some (pe_callB (kLen (K := K)) (by rfl) T.len (by decide +kernel) (pa_cons (pv 1) pa_nil)))) pa_nil)) (pe_callTy (kTuple (K := K)) (by rfl) T.tuple (by decide +kernel) (pa_cons (pv 1) pa_nil)) (nomark _)))))), ?_⟩
  · match ds, h with
    | [.tup _, .tup _], _ => rfl
  · skip

    apply bodyW
    · (first | walk_at "sim" | fail)
    intro ds s k x ok hw
    match ds, hw with
    | [.tup _, .tup _], ⟨xs, ys, rfl, rfl, ox, oy, hk⟩ =>
      simp
      have lx : (txs xs).length = xs.length := List.length_map ..
      have ly : (txs ys).length = ys.length := List.length_map ..
      rw [lx, ly, cut_take]
      have et : (txs xs).take ys.length = txs (xs.take ys.length) := by rw [txs, txs, List.map_take]
      rw [et]
      refine iteP (fun c => ⟨_, ⟨_, txs_pys _, rfl⟩, _, ⟨_, txs_pys _, rfl⟩, txs_shaped fun x hx => ox x (List.mem_of_mem_take hx), txs_shaped oy, ?_⟩) fun c => ?_
      · rw [txs_eqv]
        exact hk
      · rw [decide_eq_false (fun z => by have := congrArg List.length z; rw [List.length_take] at this; omega)] at hk
        exact hk
theorem ok_does_sign (T : Tx P w K mg) (f__law_begins : Df P w K mg base 1 "_law_begins" (spX RW wfBeg)) {f : Addr} {fd : FuncData} (F : FD K "_law_does_sign" s__law_does_sign f fd) : Fn P w K mg base 2 f fd ["its", "number", "witness"] (spX RW (wfDoes (fun A => A.many) doesSign)) := by
  refine fn_data F sc__law_does_sign (fun ds s k x h => ?_) fun cv A outer s H G hr gd => ⟨_, (pss_cons (ps_if (PW.pt (pw_or (pt_cmpR (kIn (K := K) hr) (pv 2) (pe_dget (huB hr) (pv 0) pe_str (fun _ _ => rfl)) rfl) (pw_or1 (pt_cmpR (kEq (K := K) hr) (pe_callB (kLen (K := K)) (by rfl) T.len (by decide +kernel) (pa_cons (pe_ix (kIx (K := K)) (pe_dget (huB hr) (pv 0) pe_str (fun _ _ => rfl)) (pv 2) (fun _ _ => rfl)) pa_nil)) pe_int (nomark _))))) (pss_one (ps_ret pe_bl)) pss_nil)
    (pss_one (ps_ret (pe_df f__law_begins hr (by omega) gd rfl (fun σ => Gl.no_pass σ) (pa_cons (pe_ix (kIx (K := K)) (pe_dget (huB hr) (pv 0) pe_str (fun _ _ => rfl)) (pv 1) (fun _ _ => rfl)) (pa_cons (pe_ix (kIx (K := K)) (pe_dget (huB hr) (pv 0) pe_str (fun _ _ => rfl)) (pe_ix (kIx (K := K)) (pe_ix (kIx (K := K)) (pe_dget (huB hr) (pv 0) pe_str (fun _ _ => rfl)) (pv 2) (fun _ _ => rfl)) (pe_un un_neg pe_int) (fun _ _ => rfl)) (fun _ _ => rfl)) pa_nil)))))), ?_⟩
  · match ds, h with
    | [.opq ia, .int _, .int _], _ => rfl
  · skip

    apply bodyW
    · (first | walk_at "sim" | fail)
    intro ds s k x ok hw
    match ds, hw with
    | [.opq ia, .int _, .int _], ⟨A, t, I, j, i, h, ok2, tx, ht, ll, rfl, rfl, hj, hi, hk⟩ =>
      have hd := h.d
      have s1 := ok2.s1
      have hi : i < A.many := hi
      obtain ⟨is, hs⟩ : ∃ is, A.sgn[i]? = some is := ⟨_, List.getElem?_eq_getElem (by omega)⟩
      obtain ⟨cg, hcg, es⟩ := h.sg2.get' hs
      have es : s cg = some (.lst (is.map iD)) := es
      have gs : A.sgn.getD i [] = is := getD_of hs
      have so := ok2.s2 is (List.mem_of_getElem? hs)
      obtain ⟨xs2, hx2⟩ : ∃ xs, A.told[j]? = some xs := ⟨_, List.getElem?_eq_getElem hj⟩
      have hx2' : atI (A.told.map fun xs => D.tup (txs xs)) (j : Int) = some (.tup (txs xs2)) := atI_nat (by rw [List.getElem?_map, hx2]; rfl)
      have q1 := h.sg1
      have q2 := h.tl
      simp [dget_dic hd, vkL, vkS, vkT, q1, q2, atI_nat (opqs_get hcg), es, hx2']
      refine ⟨flatIn_nat _ _, ?_⟩
      rw [inD_nat]
      unfold doesSign at hk
      rw [gs] at hk
      by_cases cl : i ∈ A.liars
      · rw [if_pos (decide_eq_true cl)]
        rw [decide_eq_true cl, Bool.true_or] at hk
        exact hk
      rw [if_neg (by simpa using cl)]
      rw [decide_eq_false cl, Bool.false_or] at hk
      rcases List.eq_nil_or_concat is with rfl | ⟨is', l, e⟩
      · rw [if_pos rfl]
        exact hk
      rw [List.concat_eq_append] at e
      subst e
      have hl := so.2 l (by simp)
      obtain ⟨xs1, hx1⟩ : ∃ xs, A.told[l]? = some xs := ⟨_, List.getElem?_eq_getElem hl⟩
      have hx1' : atI (A.told.map fun xs => D.tup (txs xs)) (l : Int) = some (.tup (txs xs1)) := atI_nat (by rw [List.getElem?_map, hx1]; rfl)
      rw [if_neg (by simp), List.map_append]
      rw [show List.map iD [l] = [iD l] from rfl, at_lastN]
      dsimp only
      rw [hx1']
      have go : goesOn A (is' ++ [l]) j = decide (xs2.take xs1.length = xs1) := by
        unfold goesOn
        rw [List.getLast?_append]
        simp only [List.getLast?_singleton, Option.some_or]
        rw [getD_of hx2, getD_of hx1]
      rw [go] at hk
      exact ⟨xs2, xs1, rfl, rfl, tx.t _ (List.mem_of_getElem? hx2), tx.t _ (List.mem_of_getElem? hx1), hk⟩
theorem ok_does_accept (T : Tx P w K mg) (f__law_begins : Df P w K mg base 1 "_law_begins" (spX RW wfBeg)) {f : Addr} {fd : FuncData} (F : FD K "_law_does_accept" s__law_does_accept f fd) : Fn P w K mg base 2 f fd ["its", "number", "client"] (spX RW (wfDoes (fun _ => 10) fun A j c => doesAccept A c j)) := by
  refine fn_data F sc__law_does_accept (fun ds s k x h => ?_) fun cv A outer s H G hr gd => ⟨_, (pss_cons (ps_if (pt_cmpR (kLe (K := K) hr) (pe_op (kMul (K := K)) pe_int (pe_callB (kLen (K := K)) (by rfl) T.len (by decide +kernel) (pa_cons (pe_lc (own := [("row", 3)]) (g := gName 3) (by rfl) sc__law_does_accept.nd (pi_reg (kpi (K := K) (pe_dget (huB hr) (pv 0) pe_str (fun _ _ => rfl)))) (blkOk_by (own := [("row", 3)]) (N := N__law_does_accept) (sc := defScope s__law_does_accept) (by decide +kernel)) (fun _ _ _ _ _ => pg_name (i := 3) sc__law_does_accept.nd rfl (Or.inl rfl)) (fun _ _ _ _ _ => (pts_one (pt_cmpR (kIn (K := K) hr) (pv 1) (pv 3) rfl))) (fun _ _ _ _ _ => (pv 3))) pa_nil))) (pe_dget (huB hr) (pv 0) pe_str (fun _ _ => rfl)) (nomark _)) (pss_one (ps_ret pe_bl)) pss_nil)
    (pss_cons (ps_set (i := 3) sc__law_does_accept.nd rfl (Or.inl rfl) (pe_ix (kIx (K := K)) (pe_dget (huB hr) (pv 0) pe_str (fun _ _ => rfl)) (pv 2) (fun _ _ => rfl)))
    (pss_one (ps_ret (pe_or (pe_cmpR (kEq (K := K) hr) (pe_callB (kLen (K := K)) (by rfl) T.len (by decide +kernel) (pa_cons (pv 3) pa_nil)) pe_int (nomark _)) (pe_one (pe_df f__law_begins hr (by omega) gd rfl (fun σ => Gl.no_pass σ) (pa_cons (pe_ix (kIx (K := K)) (pe_dget (huB hr) (pv 0) pe_str (fun _ _ => rfl)) (pv 1) (fun _ _ => rfl)) (pa_cons (pe_ix (kIx (K := K)) (pe_dget (huB hr) (pv 0) pe_str (fun _ _ => rfl)) (pe_ix (kIx (K := K)) (pv 3) (pe_un un_neg pe_int) (fun _ _ => rfl)) (fun _ _ => rfl)) pa_nil))))))))), ?_⟩
  · match ds, h with
    | [.opq ia, .int _, .int _], _ => rfl
  · skip

    apply bodyW
    · (first | walk_at "sim" | fail)
    intro ds s k x ok hw
    match ds, hw with
    | [.opq ia, .int _, .int _], ⟨A, t, I, j, c, h, ok2, tx, ht, ll, rfl, rfl, hj, hc, hk⟩ =>
      have hd := h.d
      have a1 := ok2.a1
      have hc : c < 10 := hc
      obtain ⟨is, hs⟩ : ∃ is, A.acc[c]? = some is := ⟨_, List.getElem?_eq_getElem (by omega)⟩
      obtain ⟨cg, hcg, es⟩ := h.tk2.get' hs
      have es : s cg = some (.lst (is.map iD)) := es
      have gs : A.acc.getD c [] = is := getD_of hs
      have so := ok2.a2 is (List.mem_of_getElem? hs)
      obtain ⟨xs2, hx2⟩ : ∃ xs, A.told[j]? = some xs := ⟨_, List.getElem?_eq_getElem hj⟩
      have hx2' : atI (A.told.map fun xs => D.tup (txs xs)) (j : Int) = some (.tup (txs xs2)) := atI_nat (by rw [List.getElem?_map, hx2]; rfl)
      have q1 := h.sg1
      have q2 := h.tl
      have q3 := h.tk1
      have m9 := ok2.m2
      have s1 := ok2.s1
      have gl2 := h.sg2.len
      have sl : signers A j ≤ A.sgn.length := List.length_filter_le _ _
      refine cut (fun env u => u = s ∧ A.many < 2 * signers A j ∧ ∃ v3, env = [.dat (.opq ia), .dat (.int j), .dat (.int c), v3]) (fun K1 h1 hrt _ => ?_) fun env u hI => ?_
      · simp [dget_dic hd, vkM, vkS, q1]
        refine ⟨by rw [opqs_len, sizeLine_eq]; omega, wLcK_pure (ck := fun s : Rg => s I.gl = some (Mo.lst (opqs I.Gs))) q1 (pG s j) id (fun d hd' kt kf y1 y2 => ?_) ?_⟩
        · obtain ⟨cr, hcr, rfl⟩ := List.mem_map.mp hd'
          obtain ⟨i', hi'⟩ := List.mem_iff_getElem?.mp hcr
          obtain ⟨g, _, eg⟩ := h.sg2.get hi'
          have eg : s cr = some (.lst (g.map iD)) := eg
          have e : pG s j (.opq cr) = decide (j ∈ g) := by
            unfold pG
            dsimp only
            rw [eg]
            exact inD_nat j g
          rw [e] at y1 y2
          simp [eg]
          rw [inD_nat]
          by_cases q : j ∈ g
          · rw [if_pos (decide_eq_true q)]
            exact y1 (decide_eq_true q)
          · rw [if_neg (by simpa using q)]
            exact y2 (decide_eq_false q)
        · rw [List.map_id, pG_len h.sg2]
          have sd : ((A.sgn.filter fun g => decide (j ∈ g)).length) = signers A j := rfl
          rw [sd]
          refine ⟨.inl (.inl ⟨by omega, by omega⟩), ?_⟩
          rw [dget_dic hd, vkM]
          dsimp only
          refine iteP (fun q => ?_) fun q => h1 _ _ ⟨rfl, by omega, _, rfl⟩
          rw [hrt]
          have e : doesAccept A c j = false := by unfold doesAccept; rw [decide_eq_false (by omega), Bool.false_and]
          have hk : k (.bl (doesAccept A c j)) s := hk
          rw [e] at hk
          exact hk
      obtain ⟨rfl, ac, v3, rfl⟩ := hI
      refine cut (fun env u' => u' = u ∧ env = [.dat (.opq ia), .dat (.int j), .dat (.int c), .dat (.opq cg)]) (fun K1 h1 hrt _ => ?_) fun env u' hI => ?_
      · simp [dget_dic hd, vkA, q3, atI_nat (opqs_get hcg)]
        exact h1 _ _ ⟨rfl, rfl⟩
      obtain ⟨rfl, rfl⟩ := hI
      have hk : k (.bl (doesAccept A c j)) _ := hk
      unfold doesAccept at hk
      rw [decide_eq_true ac, Bool.true_and, gs] at hk
      simp [dget_dic hd, vkT, es, q2, hx2']
      rcases List.eq_nil_or_concat is with rfl | ⟨is', l, e⟩
      · rw [if_pos rfl]
        exact hk
      rw [List.concat_eq_append] at e
      subst e
      have hl := so.2 l (by simp)
      obtain ⟨xs1, hx1⟩ : ∃ xs, A.told[l]? = some xs := ⟨_, List.getElem?_eq_getElem hl⟩
      have hx1' : atI (A.told.map fun xs => D.tup (txs xs)) (l : Int) = some (.tup (txs xs1)) := atI_nat (by rw [List.getElem?_map, hx1]; rfl)
      rw [if_neg (by simp), List.map_append]
      rw [show List.map iD [l] = [iD l] from rfl, at_lastN]
      dsimp only
      rw [hx1']
      have go : goesOn A (is' ++ [l]) j = decide (xs2.take xs1.length = xs1) := by
        unfold goesOn
        rw [List.getLast?_append]
        simp only [List.getLast?_singleton, Option.some_or]
        rw [getD_of hx2, getD_of hx1]
      rw [go] at hk
      exact ⟨xs2, xs1, rfl, rfl, tx.t _ (List.mem_of_getElem? hx2), tx.t _ (List.mem_of_getElem? hx1), hk⟩
end
end Law
set_option Elab.async false
set_option linter.all false
set_option maxRecDepth 100000
set_option maxHeartbeats 2000000
namespace Law
open PySem PySem.Spec PyProof.Rows L2 Gl Dw
/-! the law's account beside the watch -/
theorem HoR.fm {a c : Addr} {s s' : Rg} {X : List Addr} (h : HoR a c s) (f : Fm X s s') (na : a ∉ X) (nc : c ∉ X) : HoR a c s' := by
  obtain ⟨cells, p, r, m, n, h1, h2, h3⟩ := h
  exact ⟨cells, p, r, m, n, f.at h1 na, f.at h2 nc, h3⟩
theorem HoR.there {a c : Addr} {s : Rg} (h : HoR a c s) : s a ≠ none ∧ s c ≠ none := by
  obtain ⟨cells, p, r, m, n, h1, h2, h3⟩ := h
  rw [h1, h2]
  exact ⟨by simp, by simp⟩
theorem StrAt.mv {s s' : Rg} {c : Addr} {xs : List Str} (h : StrAt s c xs) (e : s' c = s c) : StrAt s' c xs := by
  unfold StrAt
  rw [e]
  exact h
theorem StrAt.ne {s : Rg} {c : Addr} {xs : List Str} (h : StrAt s c xs) : s c ≠ none := by
  rw [show s c = _ from h]; simp
section
variable {ia a c : Addr} {A B : Acc} {I I' : Iad} {s s' : Rg}
theorem ItW.there (h : ItW ia A I s) : ∀ x ∈ I.all ia, s x ≠ none := fun x hx => by
  simp only [Iad.all, List.mem_append, List.mem_cons, List.not_mem_nil, or_false] at hx
  have al : ∀ {α : Type} {R : Addr → α → Prop} {as : List Addr} {bs : List α}, Al R as bs → (∀ a b, R a b → s a ≠ none) → x ∈ as → s x ≠ none := fun hl f m => by
    obtain ⟨i, hi⟩ := List.mem_iff_getElem?.mp m
    obtain ⟨b, _, r⟩ := hl.get hi
    exact f _ _ r
  rcases hx with (rfl | rfl | rfl | rfl | rfl) | m | m | m
  · rw [h.d]; simp
  · rw [h.lg1]; simp
  · rw [h.tl]; simp
  · rw [h.sg1]; simp
  · rw [h.tk1]; simp
  · exact al h.lg2 (fun a b q => q.ne) m
  · exact al h.sg2 (fun a b q => q.ne) m
  · exact al h.tk2 (fun a b q => q.ne) m
structure ApI (ia : Addr) (I : Iad) : Prop where
  f : ([ia, I.la, I.tl, I.gl, I.al] : List Addr).Nodup
  l : I.Ls.Nodup
  g : I.Gs.Nodup
  t : I.Ts.Nodup
  fl : ∀ a ∈ ([ia, I.la, I.tl, I.gl, I.al] : List Addr), ∀ b ∈ I.Ls, a ≠ b
  fg : ∀ a ∈ ([ia, I.la, I.tl, I.gl, I.al] : List Addr), ∀ b ∈ I.Gs, a ≠ b
  ft : ∀ a ∈ ([ia, I.la, I.tl, I.gl, I.al] : List Addr), ∀ b ∈ I.Ts, a ≠ b
  lg : ∀ a ∈ I.Ls, ∀ b ∈ I.Gs, a ≠ b
  lt : ∀ a ∈ I.Ls, ∀ b ∈ I.Ts, a ≠ b
  gt : ∀ a ∈ I.Gs, ∀ b ∈ I.Ts, a ≠ b
theorem apI (h : (I.all ia).Nodup) : ApI ia I := by
  unfold Iad.all at h
  rw [List.nodup_append, List.nodup_append, List.nodup_append] at h
  simp only [List.mem_append] at h
  obtain ⟨f, ⟨l, ⟨g, t, gt⟩, lx⟩, fx⟩ := h
  exact ⟨f, l, g, t, fun a ha b hb => fx a ha b (.inl hb), fun a ha b hb => fx a ha b (.inr (.inl hb)), fun a ha b hb => fx a ha b (.inr (.inr hb)), fun a ha b hb => lx a ha b (.inl hb), fun a ha b hb => lx a ha b (.inr hb), gt⟩
theorem ItW.fm (h : ItW ia A I s) {X : List Addr} (f : Fm X s s') (n : ∀ x ∈ I.all ia, x ∉ X) : ItW ia A I s' := by
  have st : ∀ x, x ∈ I.all ia → s' x = s x := fun x hx => f x (h.there x hx) (n x hx)
  have fx : ∀ x, x ∈ ([ia, I.la, I.tl, I.gl, I.al] : List Addr) → s' x = s x := fun x hx => st x (List.mem_append_left _ hx)
  refine ⟨by rw [fx _ (by simp)]; exact h.d, by rw [fx _ (by simp)]; exact h.lg1, h.lg2.imp fun a b m q => q.mv (st _ (by simp [Iad.all, m])), by rw [fx _ (by simp)]; exact h.tl, by rw [fx _ (by simp)]; exact h.sg1, h.sg2.imp fun a b m q => q.mv (st _ (by simp [Iad.all, m])),
    by rw [fx _ (by simp)]; exact h.tk1, h.tk2.imp fun a b m q => q.mv (st _ (by simp [Iad.all, m])), h.nd⟩
/-- from one account to the next -/
def NxI (ia : Addr) (I I' : Iad) (s s' : Rg) : Prop := Fm (I.all ia) s s' ∧ ∀ x ∈ I'.all ia, x ∈ I.all ia ∨ s x = none
theorem ItW.add (h : ItW ia A I s) {j : Nat} {x : Str} {xs : List Str} (hc : I.Ls[j]? = some c) (hx : A.logs[j]? = some xs) : ItW ia (A.add j x) I (rup s c (.lst (txs xs ++ [.str x]))) ∧ NxI ia I I s (rup s c (.lst (txs xs ++ [.str x]))) := by
  have ap := apI h.nd
  have mc := List.mem_of_getElem? hc
  have f : Fm [c] s (rup s c (.lst (txs xs ++ [.str x]))) := Fm.put (List.mem_singleton.mpr rfl)
  have fx : ∀ y, y ∈ ([ia, I.la, I.tl, I.gl, I.al] : List Addr) → y ∉ [c] := fun y hy z => ap.fl y hy c mc (List.mem_singleton.mp z)
  refine ⟨⟨f.at h.d (fx _ (by simp)), f.at h.lg1 (fx _ (by simp)), ?_, f.at h.tl (fx _ (by simp)), f.at h.sg1 (fx _ (by simp)), h.sg2.imp fun a b m q => q.mv (f a q.ne fun z => ap.lg c mc a m (List.mem_singleton.mp z).symm), f.at h.tk1 (fx _ (by simp)), h.tk2.imp fun a b m q => q.mv (f a q.ne fun z => ap.lt c mc a m (List.mem_singleton.mp z).symm), h.nd⟩,
    f.sub fun y hy => by rw [List.mem_singleton.mp hy]; simp [Iad.all, mc], fun y hy => .inl hy⟩
  refine h.lg2.upd hc ap.l (fun a b m ne q => q.mv (f a q.ne fun z => ne (List.mem_singleton.mp z))) ?_
  rw [getD_of hx]
  show rup s c _ c = _
  rw [rup_same]
  simp [txs]
theorem ItW.told (h : ItW ia A I s) {j : Nat} {xs : List Str} (hx : A.logs[j]? = some xs) : ItW ia (A.sign j) I (rup s I.tl (.lst (A.told.map (fun xs => .tup (txs xs)) ++ [.tup (txs xs)]))) ∧ NxI ia I I s (rup s I.tl (.lst (A.told.map (fun xs => .tup (txs xs)) ++ [.tup (txs xs)]))) := by
  have ap := apI h.nd
  have f : Fm [I.tl] s (rup s I.tl (.lst (A.told.map (fun xs => .tup (txs xs)) ++ [.tup (txs xs)]))) := Fm.put (List.mem_singleton.mpr rfl)
  have mt : I.tl ∈ ([ia, I.la, I.tl, I.gl, I.al] : List Addr) := by simp
  have hf := ap.f
  simp only [List.nodup_cons, List.mem_cons, List.not_mem_nil, or_false, not_or] at hf
  obtain ⟨⟨n1, n2, n3, n4⟩, ⟨n5, n6, n7⟩, ⟨n8, n9⟩, n10, _⟩ := hf
  have ns : ∀ {y : Addr}, y ≠ I.tl → y ∉ [I.tl] := fun h => by simpa using h
  refine ⟨⟨f.at h.d (ns n2), f.at h.lg1 (ns n5), h.lg2.imp fun a b m q => q.mv (f a q.ne (ns (Ne.symm (ap.fl _ mt a m)))), ?_, f.at h.sg1 (ns (Ne.symm n8)), h.sg2.imp fun a b m q => q.mv (f a q.ne (ns (Ne.symm (ap.fg _ mt a m)))), f.at h.tk1 (ns (Ne.symm n9)), h.tk2.imp fun a b m q => q.mv (f a q.ne (ns (Ne.symm (ap.ft _ mt a m)))), h.nd⟩,
    f.sub fun y hy => by rw [List.mem_singleton.mp hy]; simp [Iad.all], fun y hy => .inl hy⟩
  rw [rup_same]
  show _ = some (Mo.lst ((A.told ++ [A.logs.getD j []]).map _))
  rw [getD_of hx, List.map_append]
  rfl
theorem ItW.branch (h : ItW ia A I s) {j n : Nat} {xs : List Str} (hx : A.logs[j]? = some xs) (nc : s c = none) (f : Fm [I.la] s s') (e1 : s' I.la = some (.lst (opqs (I.Ls ++ [c])))) (e2 : s' c = some (.lst (txs (xs.take n)))) : ItW ia (A.branch j n) { I with Ls := I.Ls ++ [c] } s' ∧ NxI ia I { I with Ls := I.Ls ++ [c] } s s' := by
  have ap := apI h.nd
  have nc' : c ∉ I.all ia := fun z => h.there c z nc
  have mt : I.la ∈ ([ia, I.la, I.tl, I.gl, I.al] : List Addr) := by simp
  have hf := ap.f
  simp only [List.nodup_cons, List.mem_cons, List.not_mem_nil, or_false, not_or] at hf
  obtain ⟨⟨n1, n2, n3, n4⟩, ⟨n5, n6, n7⟩, ⟨n8, n9⟩, n10, _⟩ := hf
  have ns : ∀ {y : Addr}, y ≠ I.la → y ∉ [I.la] := fun h => by simpa using h
  have pm : (Iad.all ia { I with Ls := I.Ls ++ [c] }).Perm (c :: I.all ia) := by
    show ([ia, I.la, I.tl, I.gl, I.al] ++ (I.Ls ++ [c] ++ _)).Perm _
    exact (List.Perm.append_left _ (perm_snoc I.Ls _ c)).trans List.perm_middle
  refine ⟨⟨f.at h.d (ns n1), e1, ?_, f.at h.tl (ns (Ne.symm n5)), f.at h.sg1 (ns (Ne.symm n6)), h.sg2.imp fun a b m q => q.mv (f a q.ne (ns (Ne.symm (ap.fg _ mt a m)))), f.at h.tk1 (ns (Ne.symm n7)), h.tk2.imp fun a b m q => q.mv (f a q.ne (ns (Ne.symm (ap.ft _ mt a m)))), pm.nodup_iff.mpr (List.nodup_cons.mpr ⟨nc', h.nd⟩)⟩,
    f.sub fun y hy => by rw [List.mem_singleton.mp hy]; simp [Iad.all], fun y hy => ?_⟩
  · refine Al.snoc (h.lg2.imp fun a b m q => q.mv (f a q.ne (ns (Ne.symm (ap.fl _ mt a m))))) ?_
    rw [getD_of hx]
    exact e2
  · rcases List.mem_cons.mp (pm.mem_iff.mp hy) with rfl | m
    · exact .inr nc
    · exact .inl m
theorem Al.set {α β : Type} {R : α → β → Prop} : ∀ {as : List α} {bs : List β} {a : α} {b : β} (i : Nat), Al R as bs → R a b → Al R (as.set i a) (bs.set i b)
  | _, _, _, _, _, .nil, _ => .nil
  | _, _, _, _, 0, .cons _ t, h => .cons h t
  | _, _, _, _, i + 1, .cons g t, h => .cons g (t.set i h)
theorem nodup_set {as : List Addr} {i : Nat} (h : as.Nodup) (n : c ∉ as) : (as.set i c).Nodup := by
  induction as generalizing i with
  | nil => exact h
  | cons a r ih =>
    rw [List.nodup_cons] at h
    simp only [List.mem_cons, not_or] at n
    cases i with
    | zero => exact List.nodup_cons.mpr ⟨n.2, h.2⟩
    | succ i =>
      refine List.nodup_cons.mpr ⟨fun m => ?_, ih h.2 n.2⟩
      rcases List.mem_or_eq_of_mem_set m with m | m
      · exact h.1 m
      · exact n.1 m.symm
theorem ItW.sgn (h : ItW ia A I s) {i : Nat} {gs : List Nat} (nc : s c = none) (f : Fm [I.gl] s s') (e1 : s' I.gl = some (.lst (opqs (I.Gs.set i c)))) (e2 : s' c = some (.lst (gs.map iD))) : ItW ia { A with sgn := A.sgn.set i gs } { I with Gs := I.Gs.set i c } s' ∧ NxI ia I { I with Gs := I.Gs.set i c } s s' := by
  have ap := apI h.nd
  have nc' : c ∉ I.all ia := fun z => h.there c z nc
  simp only [Iad.all, List.mem_append, not_or] at nc'
  have mt : I.gl ∈ ([ia, I.la, I.tl, I.gl, I.al] : List Addr) := by simp
  have hf := ap.f
  simp only [List.nodup_cons, List.mem_cons, List.not_mem_nil, or_false, not_or] at hf
  obtain ⟨⟨n1, n2, n3, n4⟩, ⟨n5, n6, n7⟩, ⟨n8, n9⟩, n10, _⟩ := hf
  have ns : ∀ {y : Addr}, y ≠ I.gl → y ∉ [I.gl] := fun h => by simpa using h
  have mset : ∀ {y : Addr}, y ∈ I.Gs.set i c → y ∈ I.Gs ∨ y = c := fun m => List.mem_or_eq_of_mem_set m
  refine ⟨⟨f.at h.d (ns n3), f.at h.lg1 (ns n6), h.lg2.imp fun a b m q => q.mv (f a q.ne (ns (Ne.symm (ap.fl _ mt a m)))), f.at h.tl (ns n8), e1, ?_, f.at h.tk1 (ns (Ne.symm n10)), h.tk2.imp fun a b m q => q.mv (f a q.ne (ns (Ne.symm (ap.ft _ mt a m)))), ?_⟩,
    f.sub fun y hy => by rw [List.mem_singleton.mp hy]; simp [Iad.all], fun y hy => ?_⟩
  · exact Al.set i (h.sg2.imp fun a b m q => q.mv (f a q.ne (ns (Ne.symm (ap.fg _ mt a m))))) e2
  · show ([ia, I.la, I.tl, I.gl, I.al] ++ (I.Ls ++ (I.Gs.set i c ++ I.Ts))).Nodup
    rw [List.nodup_append, List.nodup_append, List.nodup_append]
    refine ⟨ap.f, ⟨ap.l, ⟨nodup_set ap.g nc'.2.2.1, ap.t, fun a ha b hb => ?_⟩, fun a ha b hb => ?_⟩, fun a ha b hb => ?_⟩
    · rcases mset ha with m | rfl
      · exact ap.gt a m b hb
      · exact fun z => nc'.2.2.2 (z ▸ hb)
    · rcases List.mem_append.mp hb with m | m
      · rcases mset m with m | rfl
        · exact ap.lg a ha b m
        · exact fun z => nc'.2.1 (z ▸ ha)
      · exact ap.lt a ha b m
    · rcases List.mem_append.mp hb with m | m
      · exact ap.fl a ha b m
      · rcases List.mem_append.mp m with m | m
        · rcases mset m with m | rfl
          · exact ap.fg a ha b m
          · exact fun z => nc'.1 (z ▸ ha)
        · exact ap.ft a ha b m
  · have hy : y ∈ [ia, I.la, I.tl, I.gl, I.al] ++ (I.Ls ++ (I.Gs.set i c ++ I.Ts)) := hy
    simp only [List.mem_append] at hy
    rcases hy with m | m | m | m
    · exact .inl (by simp only [Iad.all, List.mem_append]; exact .inl m)
    · exact .inl (by simp only [Iad.all, List.mem_append]; exact .inr (.inl m))
    · rcases mset m with m | rfl
      · exact .inl (by simp only [Iad.all, List.mem_append]; exact .inr (.inr (.inl m)))
      · exact .inr nc
    · exact .inl (by simp only [Iad.all, List.mem_append]; exact .inr (.inr (.inr m)))
theorem ItW.tak (h : ItW ia A I s) {i : Nat} {gs : List Nat} (nc : s c = none) (f : Fm [I.al] s s') (e1 : s' I.al = some (.lst (opqs (I.Ts.set i c)))) (e2 : s' c = some (.lst (gs.map iD))) : ItW ia { A with acc := A.acc.set i gs } { I with Ts := I.Ts.set i c } s' ∧ NxI ia I { I with Ts := I.Ts.set i c } s s' := by
  have ap := apI h.nd
  have nc' : c ∉ I.all ia := fun z => h.there c z nc
  simp only [Iad.all, List.mem_append, not_or] at nc'
  have mt : I.al ∈ ([ia, I.la, I.tl, I.gl, I.al] : List Addr) := by simp
  have hf := ap.f
  simp only [List.nodup_cons, List.mem_cons, List.not_mem_nil, or_false, not_or] at hf
  obtain ⟨⟨n1, n2, n3, n4⟩, ⟨n5, n6, n7⟩, ⟨n8, n9⟩, n10, _⟩ := hf
  have ns : ∀ {y : Addr}, y ≠ I.al → y ∉ [I.al] := fun h => by simpa using h
  have mset : ∀ {y : Addr}, y ∈ I.Ts.set i c → y ∈ I.Ts ∨ y = c := fun m => List.mem_or_eq_of_mem_set m
  refine ⟨⟨f.at h.d (ns n4), f.at h.lg1 (ns n7), h.lg2.imp fun a b m q => q.mv (f a q.ne (ns (Ne.symm (ap.fl _ mt a m)))), f.at h.tl (ns n9), f.at h.sg1 (ns n10), h.sg2.imp fun a b m q => q.mv (f a q.ne (ns (Ne.symm (ap.fg _ mt a m)))), e1, ?_, ?_⟩,
    f.sub fun y hy => by rw [List.mem_singleton.mp hy]; simp [Iad.all], fun y hy => ?_⟩
  · exact Al.set i (h.tk2.imp fun a b m q => q.mv (f a q.ne (ns (Ne.symm (ap.ft _ mt a m))))) e2
  · show ([ia, I.la, I.tl, I.gl, I.al] ++ (I.Ls ++ (I.Gs ++ I.Ts.set i c))).Nodup
    rw [List.nodup_append, List.nodup_append, List.nodup_append]
    refine ⟨ap.f, ⟨ap.l, ⟨ap.g, nodup_set ap.t nc'.2.2.2, fun a ha b hb => ?_⟩, fun a ha b hb => ?_⟩, fun a ha b hb => ?_⟩
    · rcases mset hb with m | rfl
      · exact ap.gt a ha b m
      · exact fun z => nc'.2.2.1 (z ▸ ha)
    · rcases List.mem_append.mp hb with m | m
      · exact ap.lg a ha b m
      · rcases mset m with m | rfl
        · exact ap.lt a ha b m
        · exact fun z => nc'.2.1 (z ▸ ha)
    · rcases List.mem_append.mp hb with m | m
      · exact ap.fl a ha b m
      · rcases List.mem_append.mp m with m | m
        · exact ap.fg a ha b m
        · rcases mset m with m | rfl
          · exact ap.ft a ha b m
          · exact fun z => nc'.1 (z ▸ ha)
  · have hy : y ∈ [ia, I.la, I.tl, I.gl, I.al] ++ (I.Ls ++ (I.Gs ++ I.Ts.set i c)) := hy
    simp only [List.mem_append] at hy
    rcases hy with m | m | m | m
    · exact .inl (by simp only [Iad.all, List.mem_append]; exact .inl m)
    · exact .inl (by simp only [Iad.all, List.mem_append]; exact .inr (.inl m))
    · exact .inl (by simp only [Iad.all, List.mem_append]; exact .inr (.inr (.inl m)))
    · rcases mset m with m | rfl
      · exact .inl (by simp only [Iad.all, List.mem_append]; exact .inr (.inr (.inr m)))
      · exact .inr nc
end
/-- hand, watch and account, apart -/
structure Two (P : Program) (w : World) (CB CS CW a c wa ia : Addr) (A B : Acc) (t u : Nat) (W : Wad) (I : Iad) (s : Rg) : Prop where
  w : WatW P w CB CS CW wa A t u W s
  i : ItW ia B I s
  h : HoR a c s
  dj : ∀ x ∈ W.all wa, x ∉ I.all ia
  hw : a ∉ W.all wa ∧ c ∉ W.all wa
  hi : a ∉ I.all ia ∧ c ∉ I.all ia
section
variable {P : Program} {w : World} {CB CS CW a c wa ia : Addr} {A A' B B' : Acc} {t t' u u' : Nat} {W W' : Wad} {I I' : Iad} {s s' : Rg}
theorem offr_fm (o : OffR a s s') : Fm [a] s s' := fun x _ m => o x (by simpa using m)
theorem Two.draw (T : Two P w CB CS CW a c wa ia A B t u W I s) (h : HoR a c s') (o : OffR a s s') : Two P w CB CS CW a c wa ia A B t u W I s' :=
  ⟨T.w.fm (offr_fm o) fun x m z => T.hw.1 (List.mem_singleton.mp z ▸ m), T.i.fm (offr_fm o) fun x m z => T.hi.1 (List.mem_singleton.mp z ▸ m), h, T.dj, T.hw, T.hi⟩
theorem Two.watch (T : Two P w CB CS CW a c wa ia A B t u W I s) (h : WatW P w CB CS CW wa A' t' u' W' s') (n : Nxt wa W W' s s') : Two P w CB CS CW a c wa ia A' B t' u' W' I s' :=
  ⟨h, T.i.fm n.1 fun x m z => T.dj x z m, T.h.fm n.1 T.hw.1 T.hw.2, fun x m z => (n.2 x m).elim (fun q => T.dj x q z) (fun q => T.i.there x z q),
    ⟨fun z => (n.2 _ z).elim T.hw.1 T.h.there.1, fun z => (n.2 _ z).elim T.hw.2 T.h.there.2⟩, T.hi⟩
theorem Two.its (T : Two P w CB CS CW a c wa ia A B t u W I s) (h : ItW ia B' I' s') (n : NxI ia I I' s s') : Two P w CB CS CW a c wa ia A B' t u W I' s' :=
  ⟨T.w.fm n.1 fun x m z => T.dj x m z, h, T.h.fm n.1 T.hi.1 T.hi.2, fun x m z => (n.2 x z).elim (fun q => T.dj x m q) (fun q => T.w.there x m q), T.hw,
    ⟨fun z => (n.2 _ z).elim T.hi.1 T.h.there.1, fun z => (n.2 _ z).elim T.hi.2 T.h.there.2⟩⟩
end
theorem TxOk.add {A : Acc} (h : TxOk A) {j : Nat} {x : Str} (ox : okText x) (hj : j < A.logs.length) : TxOk (A.add j x) := ⟨fun xs m y hy => by
  rcases mem_set m with rfl | m
  · rw [getD_of (List.getElem?_eq_getElem hj)] at hy
    rcases List.mem_append.mp hy with hy | hy
    · exact h.l _ (List.getElem_mem hj) y hy
    · rw [List.mem_singleton.mp hy]; exact ox
  · exact h.l xs m y hy, h.t⟩
theorem TxOk.branch {A : Acc} (h : TxOk A) {j n : Nat} (hj : j < A.logs.length) : TxOk (A.branch j n) := ⟨fun xs m y hy => by
  rcases List.mem_append.mp m with m | m
  · exact h.l xs m y hy
  · rw [List.mem_singleton.mp m, getD_of (List.getElem?_eq_getElem hj)] at hy
    exact h.l _ (List.getElem_mem hj) y (List.mem_of_mem_take hy), h.t⟩
theorem TxOk.sign {A : Acc} (h : TxOk A) {j : Nat} (hj : j < A.logs.length) : TxOk (A.sign j) := ⟨h.l, fun xs m y hy => by
  rcases List.mem_append.mp m with m | m
  · exact h.t xs m y hy
  · rw [List.mem_singleton.mp m, getD_of (List.getElem?_eq_getElem hj)] at hy
    exact h.l _ (List.getElem_mem hj) y hy⟩
end Law
set_option Elab.async false
set_option linter.all false
set_option maxRecDepth 100000
set_option maxHeartbeats 2000000
namespace Law
open PySem PySem.Spec PyProof.Rows L2 Gl Dw


local macro_rules | `(tactic| walk_at "sim") => `(tactic| ((with_reducible apply ss_appM) <;> walk_at "sim"))
local macro_rules | `(tactic| walk_at "sim") => `(tactic| ((with_reducible apply sim_addFR) <;> walk_at "sim"))
theorem ixN_nat {n i : Nat} (h : i < n) : ixN n (i : Int) = some i := by
  unfold ixN
  rw [if_pos (by omega)]
  simp
  omega
theorem set_same {α : Type} {xs : List α} {i : Nat} {a : α} (h : xs[i]? = some a) : xs.set i a = xs := by
  refine List.ext_getElem? fun j => ?_
  by_cases q : i = j
  · subst q
    rw [List.getElem?_set_self (List.getElem?_eq_some_iff.mp h).1, h]
  · rw [List.getElem?_set_ne q]
theorem opqs_set (as : List Addr) (i : Nat) (a : Addr) : (opqs as).set i (.opq a) = opqs (as.set i a) := by
  unfold opqs
  rw [List.map_set]
abbrev s__law_deed : Stmt := top 67
abbrev N__law_deed : List Str := ["hand", "watch", "its", "kind", "told", "log", "text", "n", "number", "witness", "due", "client"]
theorem sc__law_deed : FnScope N__law_deed ["hand", "watch", "its"] (defScope s__law_deed) := ⟨rfl, rfl, rfl, by decide +kernel, rfl, by decide +kernel, by decide +kernel⟩
def wfDeed (P : Program) (w : World) (CB CS CW : Addr) : WF Rg := fun ds s k _ => match ds with
  | [.opq a, .opq wa, .opq ia] => ∃ c A t W I, Two P w CB CS CW a c wa ia A A t t W I s ∧ TxOk A ∧ A.liars.length ≤ 9 ∧ 1 ≤ A.logs.length ∧ t ≤ 60 ∧ ∀ s' A' W' I', Two P w CB CS CW a c wa ia A' A' (t + 1) (t + 1) W' I' s' → TxOk A' → A'.liars = A.liars → 1 ≤ A'.logs.length → k (.bl true) s'
  | _ => False
def deE (a wa ia : Addr) (kind : Int) (I : Iad) (log : Nat) (v6 v7 v8 v9 v10 v11 : Sl) : List Sl := [.dat (.opq a), .dat (.opq wa), .dat (.opq ia), .dat (.int kind), .dat (.opq I.tl), .dat (.int log), v6, v7, v8, v9, v10, v11]
theorem shown_i {i j : Int} (e : i = j) (h0 : 0 ≤ i) (h1 : i ≤ 1000000) {k : Bool → Prop} (hk : k true) : (PyData.int i).showable = true ∧ (PyData.int i).shown.length ≤ sizeLine ∧ (PyData.int i).depth ≤ 190 ∧ (PyData.int j).showable = true ∧ (PyData.int j).shown.length ≤ sizeLine ∧ (PyData.int j).depth ≤ 190 ∧ k (decide ((PyData.int i).shown = (PyData.int j).shown)) := by
  subst e
  obtain ⟨p, a1, a2, a3, a4⟩ := (Pq.int (i := i) ⟨by omega, by omega⟩).shown (by decide) (by decide)
  cases a1
  exact ⟨a2, a3, a4, a2, a3, a4, by rw [decide_eq_true rfl]; exact hk⟩
theorem shown_b {b : Bool} {k : Bool → Prop} (hk : k true) : (PyData.bool b).showable = true ∧ (PyData.bool b).shown.length ≤ sizeLine ∧ (PyData.bool b).depth ≤ 190 ∧ (PyData.bool b).showable = true ∧ (PyData.bool b).shown.length ≤ sizeLine ∧ (PyData.bool b).depth ≤ 190 ∧ k (decide ((PyData.bool b).shown = (PyData.bool b).shown)) := by
  obtain ⟨p, a1, a2, a3, a4⟩ := (Pq.bl b).shown (by decide) (by decide)
  cases a1
  exact ⟨a2, a3, a4, a2, a3, a4, by rw [decide_eq_true rfl]; exact hk⟩
section
variable {P : Program} {w : World} {K : PySem.W.Frag} {mg : Str → Option Value} {base : Heap} {CB CH CS CW : Addr}
theorem ok_deed (T : Tx P w K mg) (f__law_draw : Df P w K mg base 1 "_law_draw" (spX RW wfDraw)) (f__law_any : Df P w K mg base 2 "_law_any" (spX RW wfAny)) (f__law_text : Df P w K mg base 3 "_law_text" (spX RW wfTxt)) (f__law_does_sign : Df P w K mg base 2 "_law_does_sign" (spX RW (wfDoes (fun A => A.many) doesSign))) (f__law_does_accept : Df P w K mg base 2 "_law_does_accept" (spX RW (wfDoes (fun _ => 10) fun A j c => doesAccept A c j)))
    (q_Watch_add : Cf P w K mg base 4 CW "add" (spX RW (wfDo P w CB CS CW rAddL))) (q_Watch_branch : Cf P w K mg base 4 CW "branch" (spX RW (wfDo P w CB CS CW rBranch))) (q_Watch_sign : Cf P w K mg base 18 CW "sign" (spX RW (wfDo P w CB CS CW rSign))) (q_Watch_show : Cf P w K mg base 19 CW "show" (spX RW (wfDo P w CB CS CW rShow))) (q_Watch_accept : Cf P w K mg base 19 CW "accept" (spX RW (wfDo P w CB CS CW rAccept))) {f : Addr} {fd : FuncData} (F : FD K "_law_deed" s__law_deed f fd) : Fn P w K mg base 20 f fd ["hand", "watch", "its"] (spX RW (wfDeed P w CB CS CW)) := by
  refine fn_data F sc__law_deed (fun ds s k x h => ?_) fun cv A outer s H G hr gd => ⟨_, (pss_cons (ps_par (i := 3) (j := 4) (by rfl) sc__law_deed.nd rfl rfl (by decide) rfl rfl (pa_cons (pe_df f__law_draw hr (by omega) gd rfl (fun σ => Gl.no_pass σ) (pa_cons (pv 0) (pa_cons pe_int pa_nil))) (pa_cons (pe_dget (huB hr) (pv 2) pe_str (fun _ _ => rfl)) pa_nil)) (by rfl))
    (pss_cons (ps_set (i := 5) sc__law_deed.nd rfl (Or.inl rfl) (pe_df f__law_draw hr (by omega) gd rfl (fun σ => Gl.no_pass σ) (pa_cons (pv 0) (pa_cons (pe_callB (kLen (K := K)) (by rfl) T.len (by decide +kernel) (pa_cons (pe_dget (huB hr) (pv 2) pe_str (fun _ _ => rfl)) pa_nil)) pa_nil))))
    (pss_cons (ps_if (pt_cmpR op_ltX (pv 3) pe_int (nomark _)) (pss_cons (ps_set (i := 6) sc__law_deed.nd rfl (Or.inl rfl) (pe_df f__law_text hr (by omega) gd rfl (fun σ => Gl.no_pass σ) (pa_cons (pv 0) pa_nil)))
    (pss_cons (ps_expr (pe_bm PySem.F.plainAttrs_list PySem.F.slot_list_append PySem.F.type_list_append mt_append (pe_ix (kIx (K := K)) (pe_dget (huB hr) (pv 2) pe_str (fun _ _ => rfl)) (pv 5) (fun _ _ => rfl)) (pa_cons (pv 6) pa_nil)))
    (pss_one (ps_ret (pe_cmpR (kEq (K := K) hr) (pe_callB (kRepr (K := K) hr gd) (by rfl) T.repr (by decide +kernel) (pa_cons (pe_mtA q_Watch_add hr (by omega) gd (fun σ => Gl.no_pass σ) (pv 1) (pa_cons (pv 5) (pa_cons (pv 6) pa_nil))) pa_nil)) (pe_callB (kRepr (K := K) hr gd) (by rfl) T.repr (by decide +kernel) (pa_cons (pe_op op_sub (pe_callB (kLen (K := K)) (by rfl) T.len (by decide +kernel) (pa_cons (pe_ix (kIx (K := K)) (pe_dget (huB hr) (pv 2) pe_str (fun _ _ => rfl)) (pv 5) (fun _ _ => rfl)) pa_nil)) pe_int) pa_nil)) (nomark _)))))) pss_nil)
    (pss_cons (ps_if (PW.pt (pw_and (pt_cmpR (kEq (K := K) hr) (pv 3) pe_int (nomark _)) (pw_and (pt_val (pe_dget (huB hr) (pv 2) pe_str (fun _ _ => rfl))) (pw_and1 (pt_cmpR op_ltX (pe_callB (kLen (K := K)) (by rfl) T.len (by decide +kernel) (pa_cons (pe_dget (huB hr) (pv 2) pe_str (fun _ _ => rfl)) pa_nil)) pe_int (nomark _)))))) (pss_cons (ps_set (i := 7) sc__law_deed.nd rfl (Or.inl rfl) (pe_df f__law_draw hr (by omega) gd rfl (fun σ => Gl.no_pass σ) (pa_cons (pv 0) (pa_cons (pe_op (kAdd (K := K)) (pe_callB (kLen (K := K)) (by rfl) T.len (by decide +kernel) (pa_cons (pe_ix (kIx (K := K)) (pe_dget (huB hr) (pv 2) pe_str (fun _ _ => rfl)) (pv 5) (fun _ _ => rfl)) pa_nil)) pe_int) pa_nil))))
    (pss_cons (ps_expr (pe_bm PySem.F.plainAttrs_list PySem.F.slot_list_append PySem.F.type_list_append mt_append (pe_dget (huB hr) (pv 2) pe_str (fun _ _ => rfl)) (pa_cons (pe_callTy (kListR (K := K)) (by rfl) T.list (by decide +kernel) (pa_cons (pe_slice (kSl (K := K)) (pe_ix (kIx (K := K)) (pe_dget (huB hr) (pv 2) pe_str (fun _ _ => rfl)) (pv 5) (fun _ _ => rfl)) po_none (po_some (pv 7))) pa_nil)) pa_nil)))
    (pss_one (ps_ret (pe_cmpR (kEq (K := K) hr) (pe_callB (kRepr (K := K) hr gd) (by rfl) T.repr (by decide +kernel) (pa_cons (pe_mtA q_Watch_branch hr (by omega) gd (fun σ => Gl.no_pass σ) (pv 1) (pa_cons (pv 5) (pa_cons (pv 7) pa_nil))) pa_nil)) (pe_callB (kRepr (K := K) hr gd) (by rfl) T.repr (by decide +kernel) (pa_cons (pe_op op_sub (pe_callB (kLen (K := K)) (by rfl) T.len (by decide +kernel) (pa_cons (pe_dget (huB hr) (pv 2) pe_str (fun _ _ => rfl)) pa_nil)) pe_int) pa_nil)) (nomark _)))))) pss_nil)
    (pss_cons (ps_if (PW.pt (pw_or (pt_cmpR op_ltX (pv 3) pe_int (nomark _)) (pw_or1 (pt_cmpR (kEq (K := K) hr) (pe_callB (kLen (K := K)) (by rfl) T.len (by decide +kernel) (pa_cons (pv 4) pa_nil)) pe_int (nomark _))))) (pss_cons (ps_expr (pe_bm PySem.F.plainAttrs_list PySem.F.slot_list_append PySem.F.type_list_append mt_append (pv 4) (pa_cons (pe_callTy (kTuple (K := K)) (by rfl) T.tuple (by decide +kernel) (pa_cons (pe_ix (kIx (K := K)) (pe_dget (huB hr) (pv 2) pe_str (fun _ _ => rfl)) (pv 5) (fun _ _ => rfl)) pa_nil)) pa_nil)))
    (pss_one (ps_ret (pe_cmpR (kEq (K := K) hr) (pe_callB (kRepr (K := K) hr gd) (by rfl) T.repr (by decide +kernel) (pa_cons (pe_mtA q_Watch_sign hr (by omega) gd (fun σ => Gl.no_pass σ) (pv 1) (pa_cons (pv 5) pa_nil)) pa_nil)) (pe_callB (kRepr (K := K) hr gd) (by rfl) T.repr (by decide +kernel) (pa_cons (pe_op op_sub (pe_callB (kLen (K := K)) (by rfl) T.len (by decide +kernel) (pa_cons (pv 4) pa_nil)) pe_int) pa_nil)) (nomark _))))) pss_nil)
    (pss_cons (ps_set (i := 8) sc__law_deed.nd rfl (Or.inl rfl) (pe_df f__law_any hr (by omega) gd rfl (fun σ => Gl.no_pass σ) (pa_cons (pv 0) (pa_cons (pe_lst (pa_cons (pe_op op_sub (pe_callB (kLen (K := K)) (by rfl) T.len (by decide +kernel) (pa_cons (pv 4) pa_nil)) pe_int) (pa_cons (pe_df f__law_draw hr (by omega) gd rfl (fun σ => Gl.no_pass σ) (pa_cons (pv 0) (pa_cons (pe_callB (kLen (K := K)) (by rfl) T.len (by decide +kernel) (pa_cons (pv 4) pa_nil)) pa_nil))) pa_nil))) pa_nil))))
    (pss_cons (ps_if (pt_cmpR op_ltX (pv 3) pe_int (nomark _)) (pss_cons (ps_set (i := 9) sc__law_deed.nd rfl (Or.inl rfl) (pe_df f__law_draw hr (by omega) gd rfl (fun σ => Gl.no_pass σ) (pa_cons (pv 0) (pa_cons (pe_dget (huB hr) (pv 2) pe_str (fun _ _ => rfl)) pa_nil))))
    (pss_cons (ps_set (i := 10) sc__law_deed.nd rfl (Or.inl rfl) (pe_df f__law_does_sign hr (by omega) gd rfl (fun σ => Gl.no_pass σ) (pa_cons (pv 2) (pa_cons (pv 8) (pa_cons (pv 9) pa_nil)))))
    (pss_cons (ps_asg (pe_reg (pe_op (kAdd (K := K)) (pe_ix (kIx (K := K)) (pe_dget (huB hr) (pv 2) pe_str (fun _ _ => rfl)) (pv 9) (fun _ _ => rfl)) (pe_ifExp (pt_val (pv 10)) (pe_lst (pa_cons (pv 8) pa_nil)) (pe_lst pa_nil)))) (pg_sub (pe_dget (huB hr) (pv 2) pe_str (fun _ _ => rfl)) (pv 9) set_list))
    (pss_one (ps_ret (pe_cmpR (kEq (K := K) hr) (pe_callB (kRepr (K := K) hr gd) (by rfl) T.repr (by decide +kernel) (pa_cons (pe_mtA q_Watch_show hr (by omega) gd (fun σ => Gl.no_pass σ) (pv 1) (pa_cons (pv 8) (pa_cons (pv 9) pa_nil))) pa_nil)) (pe_callB (kRepr (K := K) hr gd) (by rfl) T.repr (by decide +kernel) (pa_cons (pv 10) pa_nil)) (nomark _))))))) pss_nil)
    (pss_cons (ps_set (i := 11) sc__law_deed.nd rfl (Or.inl rfl) (pe_df f__law_any hr (by omega) gd rfl (fun σ => Gl.no_pass σ) (pa_cons (pv 0) (pa_cons (pe_lst (pa_cons pe_int (pa_cons pe_int (pa_cons pe_int pa_nil)))) pa_nil))))
    (pss_cons (ps_set (i := 10) sc__law_deed.nd rfl (Or.inl rfl) (pe_df f__law_does_accept hr (by omega) gd rfl (fun σ => Gl.no_pass σ) (pa_cons (pv 2) (pa_cons (pv 8) (pa_cons (pv 11) pa_nil)))))
    (pss_cons (ps_asg (pe_reg (pe_op (kAdd (K := K)) (pe_ix (kIx (K := K)) (pe_dget (huB hr) (pv 2) pe_str (fun _ _ => rfl)) (pv 11) (fun _ _ => rfl)) (pe_ifExp (pt_val (pv 10)) (pe_lst (pa_cons (pv 8) pa_nil)) (pe_lst pa_nil)))) (pg_sub (pe_dget (huB hr) (pv 2) pe_str (fun _ _ => rfl)) (pv 11) set_list))
    (pss_one (ps_ret (pe_cmpR (kEq (K := K) hr) (pe_callB (kRepr (K := K) hr gd) (by rfl) T.repr (by decide +kernel) (pa_cons (pe_mtA q_Watch_accept hr (by omega) gd (fun σ => Gl.no_pass σ) (pv 1) (pa_cons (pv 11) (pa_cons (pv 8) pa_nil))) pa_nil)) (pe_callB (kRepr (K := K) hr gd) (by rfl) T.repr (by decide +kernel) (pa_cons (pv 10) pa_nil)) (nomark _)))))))))))))), ?_⟩
  · match ds, h with
    | [.opq a, .opq wa, .opq ia], _ => rfl
  · skip

    apply bodyW
    · (first | walk_at "sim" | fail)
    intro ds s k x ok hw
    match ds, hw with
    | [.opq a, .opq wa, .opq ia], ⟨c, A, t, W, I, T0, tx, ll, lg, ht, hk⟩ =>
      have hl := T0.w.ok.l1
      have hti := T0.i.lg2.len
      refine cut (fun env u => ∃ (kind : Nat), Two P w CB CS CW a c wa ia A A t t W I u ∧ env = [.dat (.opq a), .dat (.opq wa), .dat (.opq ia), .dat (.int kind), .dat (.opq I.tl), .no, .no, .no, .no, .no, .no, .no]) (fun K1 h1 hrt _ => ?_) fun env u hI => ?_
      · simp
        refine ⟨c, T0.h, by decide, by decide, fun s1 i h1' o1 i0 i1 => ?_⟩
        obtain ⟨j, rfl⟩ := Int.eq_ofNat_of_zero_le i0
        have T1 := T0.draw h1' o1
        simp [dget_dic T1.i.d, vkT]
        exact h1 _ _ ⟨j, T1, rfl⟩
      obtain ⟨kind, T1, rfl⟩ := hI
      refine cut (fun env u => ∃ (log : Nat), log < A.logs.length ∧ Two P w CB CS CW a c wa ia A A t t W I u ∧ env = deE a wa ia kind I log .no .no .no .no .no .no) (fun K1 h1 hrt _ => ?_) fun env u hI => ?_
      · simp [dget_dic T1.i.d, vkO, T1.i.lg1, opqs_len]
        refine ⟨c, T1.h, by omega, by omega, fun s1 i h1' o1 i0 i1 => ?_⟩
        obtain ⟨j, rfl⟩ := Int.eq_ofNat_of_zero_le i0
        exact h1 _ _ ⟨j, by omega, T1.draw h1' o1, rfl⟩
      obtain ⟨log, hlog, T2, rfl⟩ := hI
      obtain ⟨xs, hx⟩ : ∃ xs, A.logs[log]? = some xs := ⟨_, List.getElem?_eq_getElem hlog⟩
      obtain ⟨cl, hcl, _⟩ := T2.i.lg2.get' hx
      have clat : ∀ {B : Acc} {v : Rg} {W0 : Wad} {t0 u0 : Nat}, B.logs = A.logs → Two P w CB CS CW a c wa ia A B t0 u0 W0 I v → v cl = some (.lst (txs xs)) := fun eb T => by
        obtain ⟨c', h1, h2⟩ := T.i.lg2.get' (show _ = some xs by rw [eb]; exact hx)
        rw [hcl] at h1
        cases h1
        exact h2
      have lx : xs.length ≤ t := T2.w.ok.l2 xs (List.mem_of_getElem? hx)
      have txl : (txs xs).length = xs.length := List.length_map ..
      have gx : A.logs.getD log [] = xs := getD_of hx
      refine cut (fun env v => v = u ∧ env = deE a wa ia kind I log .no .no .no .no .no .no) (fun K1 h1 hrt _ => ?_) fun env v hI => ?_
      · simp [deE]
        refine iteP (fun c3 => ?_) fun c3 => h1 _ _ ⟨rfl, rfl⟩
        refine ⟨c, T2.h, fun s3 x h3 o3 ox => ?_⟩
        have T3 := T2.draw h3 o3
        simp [dget_dic T3.i.d, vkO, T3.i.lg1, atI_nat (opqs_get hcl), clat rfl T3]
        refine ⟨by rw [txl, sizeLine_eq]; omega, ?_⟩
        obtain ⟨i4, n4⟩ := T3.i.add (x := x) hcl hx
        have T4 := T3.its i4 n4
        obtain ⟨dw, ew⟩ := T4.w.ins
        rw [ew]
        refine ⟨rfl, noW (by decide), A, t, W, _, _, T4.w, by omega, ⟨log, x, rfl, hlog, ox, rfl, rfl⟩, fun s5 W5 h5 n5 => ?_⟩
        have T5 := T4.watch h5 n5
        have ox5 : ∃ c5, I.Ls[log]? = some c5 ∧ s5 c5 = some (.lst (txs (xs ++ [x]))) := by
          refine T5.i.lg2.get' ?_
          show (A.logs.set log _)[log]? = _
          rw [List.getElem?_set_self hlog, gx]
        obtain ⟨c5, hc5, e5⟩ := ox5
        rw [hcl] at hc5
        cases hc5
        simp [dget_dic T5.i.d, vkO, T5.i.lg1, atI_nat (opqs_get hcl), e5, gx]
        have g0 : A.logs[log]?.getD [] = xs := by rw [hx]; rfl
        rw [g0]
        have tl5 : (txs (xs ++ [x])).length = xs.length + 1 := by rw [txs, List.length_map, List.length_append]; rfl
        refine shown_i (k := fun b => K1.rt (.bl b) s5) (by omega) (by omega) (by omega) ?_
        rw [hrt]
        exact hk _ _ _ _ T5 (tx.add ox hlog) rfl (by show 1 ≤ (A.logs.set _ _).length; rw [List.length_set]; exact lg)
      obtain ⟨rfl, rfl⟩ := hI
      refine cut (fun env u => u = v ∧ env = deE a wa ia kind I log .no .no .no .no .no .no) (fun K1 h1 hrt _ => ?_) fun env u hI => ?_
      · simp [deE, dget_dic T2.i.d, vkF, vkO, T2.i.lg1, opqs_len, atI_nat (opqs_get hcl), clat rfl T2]
        refine iteP (fun c3 => iteP (fun lf => iteP (fun l6 => ?_) fun _ => h1 _ _ ⟨rfl, rfl⟩) fun _ => h1 _ _ ⟨rfl, rfl⟩) fun _ => h1 _ _ ⟨rfl, rfl⟩
        rw [txl]
        refine ⟨c, T2.h, by omega, by omega, fun s3 i h3 o3 i0 i1 => ?_⟩
        obtain ⟨n, rfl⟩ := Int.eq_ofNat_of_zero_le i0
        have T3 := T2.draw h3 o3
        simp [dget_dic T3.i.d, vkO, T3.i.lg1, atI_nat (opqs_get hcl), clat rfl T3]
        have et : Dw.cutD (txs xs) none (some (n : Int)) = txs (xs.take n) := by rw [cut_take, txs, txs, List.map_take]
        rw [et]
        refine ⟨flts_of fun d hd => by obtain ⟨y, _, rfl⟩ := List.mem_map.mp hd; rfl, fun a3 n3 => ?_⟩
        have ne : I.la ≠ a3 := fun z => by rw [← z, T3.i.lg1] at n3; cases n3
        rw [rup_ne ne, T3.i.lg1]
        refine ⟨by rw [opqs_len, sizeLine_eq]; omega, ?_⟩
        have es : opqs I.Ls ++ [D.opq a3] = opqs (I.Ls ++ [a3]) := by simp [opqs]
        rw [es]
        obtain ⟨i4, m4⟩ := T3.i.branch (n := n) hx n3 ((Fm.new n3).trans (Fm.put (o := .lst (opqs (I.Ls ++ [a3]))) (List.mem_singleton.mpr rfl))) rup_same (by rw [rup_ne (Ne.symm ne), rup_same])
        have T4 := T3.its i4 m4
        obtain ⟨dw, ew⟩ := T4.w.ins
        try dsimp only
        rw [ew]
        refine ⟨rfl, noW (by decide), A, t, W, _, _, T4.w, by omega, ⟨log, n, rfl, hlog, by rw [gx]; omega, lf, rfl, rfl⟩, fun s5 W5 h5 n5 => ?_⟩
        have T5 := T4.watch h5 n5
        simp [dget_dic T5.i.d, vkO, T5.i.lg1, opqs_len]
        refine shown_i (k := fun b => K1.rt (.bl b) s5) (by omega) (by omega) (by omega) ?_
        rw [hrt]
        exact hk _ _ _ _ T5 (tx.branch hlog) rfl (by show 1 ≤ (A.logs ++ [_]).length; rw [List.length_append]; omega)
      obtain ⟨rfl, rfl⟩ := hI
      refine cut (fun env v => v = u ∧ 1 ≤ A.told.length ∧ env = deE a wa ia kind I log .no .no .no .no .no .no) (fun K1 h1 hrt _ => ?_) fun env v hI => ?_
      · simp [deE, dget_dic T2.i.d, vkO, T2.i.lg1, T2.i.tl, opqs_len, atI_nat (opqs_get hcl), clat rfl T2]
        refine iteP (fun _ => ?_) fun _ => iteP (fun _ => ?_) fun q => h1 _ _ ⟨rfl, by cases e : A.told with | nil => exact absurd e q | cons _ _ => simp, rfl⟩
        all_goals
          have tb := T2.w.ok.t1
          refine ⟨flts_of fun d hd => by obtain ⟨y, _, rfl⟩ := List.mem_map.mp hd; rfl, by rw [sizeLine_eq]; omega, ?_⟩
          obtain ⟨i4, m4⟩ := T2.i.told hx
          have T4 := T2.its i4 m4
          obtain ⟨dw, ew⟩ := T4.w.ins
          rw [ew]
          refine ⟨rfl, noW (by decide), A, t, W, _, _, T4.w, by omega, ⟨log, rfl, hlog, rfl, rfl⟩, fun s5 W5 h5 n5 => ?_⟩
          have T5 := T4.watch h5 n5
          have sl : (A.sign log).told.length = A.told.length + 1 := by show (A.told ++ [_]).length = _; simp
          simp [T5.i.tl]
          refine shown_i (k := fun b => K1.rt (.bl b) s5) (by omega) (by omega) (by omega) ?_
          rw [hrt]
          exact hk _ _ _ _ T5 (tx.sign hlog) rfl lg
      obtain ⟨rfl, tn, rfl⟩ := hI
      have tl := T2.w.ok.t1
      refine cut (fun env u => ∃ num : Nat, num < A.told.length ∧ Two P w CB CS CW a c wa ia A A t t W I u ∧ env = deE a wa ia kind I log .no .no (.dat (.int num)) .no .no .no) (fun K1 h1 hrt _ => ?_) fun env u hI => ?_
      · simp [deE, T2.i.tl]
        refine ⟨c, T2.h, by omega, by omega, fun s3 i h3 o3 i0 i1 => ?_⟩
        obtain ⟨n, rfl⟩ := Int.eq_ofNat_of_zero_le i0
        have T3 := T2.draw h3 o3
        refine ⟨by decide, c, T3.h, by simp, by simp, fun s4 d h4 o4 hd => ?_⟩
        have T4 := T3.draw h4 o4
        simp only [List.mem_cons, List.not_mem_nil, or_false] at hd
        rcases hd with rfl | rfl
        · rw [show ((A.told.length : Nat) : Int) - 1 = ((A.told.length - 1 : Nat) : Int) by omega]
          exact h1 _ _ ⟨A.told.length - 1, by omega, T4, rfl⟩
        · exact h1 _ _ ⟨n, by omega, T4, rfl⟩
      obtain ⟨num, hnum, T3, rfl⟩ := hI
      have mm := T3.w.ok.m1
      have m9 := T3.w.ok.m2
      refine cut (fun env v => v = u ∧ env = deE a wa ia kind I log .no .no (.dat (.int num)) .no .no .no) (fun K1 h1 hrt _ => ?_) fun env v hI => ?_
      · simp [deE, dget_dic T3.i.d, vkM]
        refine iteP (fun c3 => ?_) fun c3 => h1 _ _ ⟨rfl, rfl⟩
        refine ⟨c, T3.h, by omega, by omega, fun s4 i h4 o4 i0 i1 => ?_⟩
        obtain ⟨wi, rfl⟩ := Int.eq_ofNat_of_zero_le i0
        have T4 := T3.draw h4 o4
        refine ⟨A, t, I, num, wi, T4.i, T4.w.ok, tx, by omega, ll, rfl, rfl, hnum, (by show wi < A.many; omega), ?_⟩
        have s1 := T4.w.ok.s1
        obtain ⟨is, hs⟩ : ∃ is, A.sgn[wi]? = some is := ⟨_, List.getElem?_eq_getElem (by omega)⟩
        obtain ⟨cg, hcg, ecg⟩ := T4.i.sg2.get' hs
        have ecg : s4 cg = some (.lst (is.map iD)) := ecg
        have gs : A.sgn.getD wi [] = is := getD_of hs
        have so := T4.w.ok.s2 is (List.mem_of_getElem? hs)
        have gl2 := T4.i.sg2.len
        have wlt : wi < (opqs I.Gs).length := by rw [opqs_len]; omega
        have go : ∀ (new : List Nat) (A' : Acc), new.length ≤ 1 → A' = { A with sgn := A.sgn.set wi (is ++ new) } → A' = (if doesSign A num wi = true then A.show num wi else A) → ∀ a1, s4 a1 = none → ∃ dx, dgetR (rup s4 a1 (.lst (is.map iD ++ new.map iD))) (.opq ia) (.str "signed") = some (some (.opq I.gl)) ∧ rup s4 a1 (.lst (is.map iD ++ new.map iD)) I.gl = some (.lst (opqs I.Gs)) ∧
            rup (rup s4 a1 (.lst (is.map iD ++ new.map iD))) I.gl (.lst ((opqs I.Gs).set wi (.opq a1))) wa = some (.ins CW dx (wtFs A W)) ∧ ∀ k' : D → Rg → Prop, (∀ s7, K1.rt (.bl true) s7 → k' (.bl (doesSign A num wi)) s7) → wfDo P w CB CS CW rShow [.opq wa, .int (num : Nat), .int (wi : Nat)] (rup (rup s4 a1 (.lst (is.map iD ++ new.map iD))) I.gl (.lst ((opqs I.Gs).set wi (.opq a1)))) k' fun _ _ => False := by
          intro new A' nl eA eA' a1 n1
          have i5 : ItW ia A I (rup s4 a1 (.lst (is.map iD ++ new.map iD))) := T4.i.fm (X := []) (Fm.new n1) (fun _ _ => by simp)
          have ne : I.gl ≠ a1 := fun z => by rw [← z, T4.i.sg1] at n1; cases n1
          have f : Fm [I.gl] s4 (rup (rup s4 a1 (.lst (is.map iD ++ new.map iD))) I.gl (.lst ((opqs I.Gs).set wi (.opq a1)))) := (Fm.new n1).trans (Fm.put (List.mem_singleton.mpr rfl))
          obtain ⟨i6, m6⟩ := T4.i.sgn (i := wi) (gs := is ++ new) n1 f (by rw [rup_same, opqs_set]) (by rw [rup_ne (Ne.symm ne), rup_same, List.map_append])
          have T6 := T4.its i6 m6
          obtain ⟨dw, ew⟩ := T6.w.ins
          refine ⟨dw, by rw [dget_dic i5.d, vkS], i5.sg1, ew, fun k' hk' => ⟨A, t, W, A', _, T6.w, by omega, ⟨num, wi, rfl, hnum, by omega, ll, rfl, eA'⟩, fun s7 W7 h7 n7 => hk' _ ?_⟩⟩
          have T7 := T6.watch h7 n7
          rw [hrt]
          have eB : A' = { A with sgn := A.sgn.set wi (is ++ new) } := eA
          rw [← eB] at T7
          have le : A'.logs = A.logs ∧ A'.told = A.told ∧ A'.liars = A.liars := by rw [eA]; exact ⟨rfl, rfl, rfl⟩
          exact hk _ _ _ _ T7 ⟨by rw [le.1]; exact tx.l, by rw [le.2.1]; exact tx.t⟩ le.2.2 (by rw [le.1]; exact lg)
        have fin : ∀ s7, K1.rt (.bl true) s7 → _ := fun s7 h => shown_b (b := doesSign A num wi) (k := fun b => K1.rt (.bl b) s7) h
        simp [dget_dic T4.i.d, vkS, T4.i.sg1, atI_nat (opqs_get hcg)]
        by_cases ds : doesSign A num wi = true
        · have g := go [num] (A.show num wi) (by simp) (by show ({ A with sgn := _ } : Acc) = _; rw [gs]) (by rw [if_pos ds])
          rw [if_pos ds]
          rw [ecg]
          refine ⟨by decide, by rw [List.length_map, sizeLine_eq]; omega, flts_of fun d hd => by
              rcases List.mem_append.mp hd with hd | hd
              · obtain ⟨y, _, rfl⟩ := List.mem_map.mp hd; rfl
              · rw [List.mem_singleton.mp hd]; rfl, fun a1 n1 => ?_⟩
          obtain ⟨dx1, g1, g2, g3, g4⟩ := g a1 n1
          simp only [List.map_cons, List.map_nil, List.append_nil] at g1 g2 g3 g4
          rw [g1]
          try dsimp only
          rw [g2]
          try dsimp only
          rw [ixN_nat wlt]
          try dsimp only
          rw [g3]
          exact ⟨rfl, noW (by decide), g4 _ fun s7 h => ⟨_, rfl, fin s7 h⟩⟩
        · have g := go [] A (by simp) (by rw [List.append_nil, set_same hs]) (by rw [if_neg ds])
          rw [if_neg ds]
          rw [ecg]
          refine ⟨by rw [List.length_map, sizeLine_eq]; omega, flts_nat is, fun a1 n1 => ?_⟩
          obtain ⟨dx1, g1, g2, g3, g4⟩ := g a1 n1
          simp only [List.map_cons, List.map_nil, List.append_nil] at g1 g2 g3 g4
          rw [g1]
          try dsimp only
          rw [g2]
          try dsimp only
          rw [ixN_nat wlt]
          try dsimp only
          rw [g3]
          exact ⟨rfl, noW (by decide), g4 _ fun s7 h => ⟨_, rfl, fin s7 h⟩⟩
      obtain ⟨rfl, rfl⟩ := hI
      have a10 := T3.w.ok.a1
      refine cut (fun env u => ∃ ci : Nat, ci < 10 ∧ Two P w CB CS CW a c wa ia A A t t W I u ∧ env = deE a wa ia kind I log .no .no (.dat (.int num)) .no .no (.dat (.int ci))) (fun K1 h1 hrt _ => ?_) fun env u hI => ?_
      · simp [deE]
        refine ⟨by decide, c, T3.h, by simp, by simp, fun s4 d h4 o4 hd => ?_⟩
        have T4 := T3.draw h4 o4
        simp only [List.mem_cons, List.not_mem_nil, or_false] at hd
        rcases hd with rfl | rfl | rfl
        · exact h1 _ _ ⟨0, by omega, T4, rfl⟩
        · exact h1 _ _ ⟨1, by omega, T4, rfl⟩
        · exact h1 _ _ ⟨9, by omega, T4, rfl⟩
      obtain ⟨wi, hwi, T4, rfl⟩ := hI
      refine last (fun _ _ => False) (fun K1 _ hrt _ => ?_) fun env u hI => hI.elim
      · simp [deE]
        refine ⟨A, t, I, num, wi, T4.i, T4.w.ok, tx, by omega, ll, rfl, rfl, hnum, hwi, ?_⟩
        obtain ⟨is, hs⟩ : ∃ is, A.acc[wi]? = some is := ⟨_, List.getElem?_eq_getElem (by omega)⟩
        obtain ⟨cg, hcg, ecg⟩ := T4.i.tk2.get' hs
        have ecg : u cg = some (.lst (is.map iD)) := ecg
        have gs : A.acc.getD wi [] = is := getD_of hs
        have so := T4.w.ok.a2 is (List.mem_of_getElem? hs)
        have gl2 := T4.i.tk2.len
        have wlt : wi < (opqs I.Ts).length := by rw [opqs_len]; omega
        have go : ∀ (new : List Nat) (A' : Acc), new.length ≤ 1 → A' = { A with acc := A.acc.set wi (is ++ new) } → A' = (if doesAccept A wi num = true then A.take wi num else A) → ∀ a1, u a1 = none → ∃ dx, dgetR (rup u a1 (.lst (is.map iD ++ new.map iD))) (.opq ia) (.str "accepted") = some (some (.opq I.al)) ∧ rup u a1 (.lst (is.map iD ++ new.map iD)) I.al = some (.lst (opqs I.Ts)) ∧
            rup (rup u a1 (.lst (is.map iD ++ new.map iD))) I.al (.lst ((opqs I.Ts).set wi (.opq a1))) wa = some (.ins CW dx (wtFs A W)) ∧ ∀ k' : D → Rg → Prop, (∀ s7, K1.rt (.bl true) s7 → k' (.bl (doesAccept A wi num)) s7) → wfDo P w CB CS CW rAccept [.opq wa, .int (wi : Nat), .int (num : Nat)] (rup (rup u a1 (.lst (is.map iD ++ new.map iD))) I.al (.lst ((opqs I.Ts).set wi (.opq a1)))) k' fun _ _ => False := by
          intro new A' nl eA eA' a1 n1
          have i5 : ItW ia A I (rup u a1 (.lst (is.map iD ++ new.map iD))) := T4.i.fm (X := []) (Fm.new n1) (fun _ _ => by simp)
          have ne : I.al ≠ a1 := fun z => by rw [← z, T4.i.tk1] at n1; cases n1
          have f : Fm [I.al] u (rup (rup u a1 (.lst (is.map iD ++ new.map iD))) I.al (.lst ((opqs I.Ts).set wi (.opq a1)))) := (Fm.new n1).trans (Fm.put (List.mem_singleton.mpr rfl))
          obtain ⟨i6, m6⟩ := T4.i.tak (i := wi) (gs := is ++ new) n1 f (by rw [rup_same, opqs_set]) (by rw [rup_ne (Ne.symm ne), rup_same, List.map_append])
          have T6 := T4.its i6 m6
          obtain ⟨dw, ew⟩ := T6.w.ins
          refine ⟨dw, by rw [dget_dic i5.d, vkA], i5.tk1, ew, fun k' hk' => ⟨A, t, W, A', _, T6.w, by omega, ⟨wi, num, rfl, hwi, hnum, rfl, eA'⟩, fun s7 W7 h7 n7 => hk' _ ?_⟩⟩
          have T7 := T6.watch h7 n7
          rw [hrt]
          have eB : A' = { A with acc := A.acc.set wi (is ++ new) } := eA
          rw [← eB] at T7
          have le : A'.logs = A.logs ∧ A'.told = A.told ∧ A'.liars = A.liars := by rw [eA]; exact ⟨rfl, rfl, rfl⟩
          exact hk _ _ _ _ T7 ⟨by rw [le.1]; exact tx.l, by rw [le.2.1]; exact tx.t⟩ le.2.2 (by rw [le.1]; exact lg)
        have fin : ∀ s7, K1.rt (.bl true) s7 → _ := fun s7 h => shown_b (b := doesAccept A wi num) (k := fun b => K1.rt (.bl b) s7) h
        simp [dget_dic T4.i.d, vkA, T4.i.tk1, atI_nat (opqs_get hcg)]
        by_cases ds : doesAccept A wi num = true
        · have g := go [num] (A.take wi num) (by simp) (by show ({ A with acc := _ } : Acc) = _; rw [gs]) (by rw [if_pos ds])
          rw [if_pos ds]
          rw [ecg]
          refine ⟨by decide, by rw [List.length_map, sizeLine_eq]; omega, flts_of fun d hd => by
              rcases List.mem_append.mp hd with hd | hd
              · obtain ⟨y, _, rfl⟩ := List.mem_map.mp hd; rfl
              · rw [List.mem_singleton.mp hd]; rfl, fun a1 n1 => ?_⟩
          obtain ⟨dx1, g1, g2, g3, g4⟩ := g a1 n1
          simp only [List.map_cons, List.map_nil, List.append_nil] at g1 g2 g3 g4
          rw [g1]
          try dsimp only
          rw [g2]
          try dsimp only
          rw [ixN_nat wlt]
          try dsimp only
          rw [g3]
          exact ⟨rfl, noW (by decide), g4 _ fun s7 h => ⟨_, rfl, fin s7 h⟩⟩
        · have g := go [] A (by simp) (by rw [List.append_nil, set_same hs]) (by rw [if_neg ds])
          rw [if_neg ds]
          rw [ecg]
          refine ⟨by rw [List.length_map, sizeLine_eq]; omega, flts_nat is, fun a1 n1 => ?_⟩
          obtain ⟨dx1, g1, g2, g3, g4⟩ := g a1 n1
          simp only [List.map_cons, List.map_nil, List.append_nil] at g1 g2 g3 g4
          rw [g1]
          try dsimp only
          rw [g2]
          try dsimp only
          rw [ixN_nat wlt]
          try dsimp only
          rw [g3]
          exact ⟨rfl, noW (by decide), g4 _ fun s7 h => ⟨_, rfl, fin s7 h⟩⟩
end
end Law
set_option Elab.async false
set_option linter.all false
set_option maxRecDepth 100000
set_option maxHeartbeats 2000000
namespace Law
open PySem PySem.Spec PyProof.Rows L2 Gl Dw


abbrev s__law_stands : Stmt := top 68
abbrev N__law_stands : List Str := ["watch", "its", "at", "row", "got"]
theorem sc__law_stands : FnScope N__law_stands ["watch", "its"] (defScope s__law_stands) := ⟨rfl, rfl, rfl, by decide +kernel, rfl, by decide +kernel, by decide +kernel⟩
def wfStands (P : Program) (w : World) (CB CS CW : Addr) : WF Rg := fun ds s k _ => match ds with
  | [.opq wa, .opq ia] => ∃ A t W I, WatW P w CB CS CW wa A t t W s ∧ ItW ia A I s ∧ TxOk A ∧ t ≤ 64 ∧ k (.bl true) s
  | _ => False
def tupN (g : List Nat) : D := .tup (g.map iD)
theorem tupN_pq {g : List Nat} (h : g.length ≤ 64) (h2 : ∀ i ∈ g, i < 100000) : Pq 2692 1 (tupN g) := by
  have q : Lq 40 0 64 (g.map iD) := ⟨by rw [List.length_map]; exact h, fun d hd => by
    obtain ⟨i, hi, rfl⟩ := List.mem_map.mp hd
    have := h2 i hi
    exact Pq.int ⟨by omega, by omega⟩⟩
  exact q.tup
theorem rows_pq {gs : List (List Nat)} (h : gs.length ≤ 10) (h2 : ∀ g ∈ gs, g.length ≤ 64 ∧ ∀ i ∈ g, i < 100000) : Pq 26944 2 (.lst (gs.map tupN)) := by
  have q : Lq 2692 1 10 (gs.map tupN) := ⟨by rw [List.length_map]; exact h, fun d hd => by
    obtain ⟨g, hg, rfl⟩ := List.mem_map.mp hd
    exact tupN_pq (h2 g hg).1 (h2 g hg).2⟩
  exact q.lst
theorem enumD_mem : ∀ {ds : List D} {n : Nat} {d : D}, d ∈ enumD n ds → ∃ (i : Nat) (x : D), ds[i]? = some x ∧ d = .tup [.int ((n + i : Nat) : Int), x]
  | [], _, _, h => by simp [enumD] at h
  | e :: r, n, d, h => by
    simp only [enumD, List.mem_cons] at h
    rcases h with rfl | h
    · exact ⟨0, e, rfl, rfl⟩
    · obtain ⟨i, x, h1, rfl⟩ := enumD_mem h
      exact ⟨i + 1, x, by simpa using h1, by rw [show n + 1 + i = n + (i + 1) by omega]⟩
def fT (s : Rg) : D → D
  | .opq c => (match s c with
    | some (.lst ds) => .tup ds
    | _ => .non)
  | _ => .non
theorem fT_map {s : Rg} : ∀ {Gs : List Addr} {gs : List (List Nat)}, Al (NatAt s) Gs gs → (opqs Gs).map (fT s) = gs.map tupN
  | _, _, .nil => rfl
  | _, _, .cons (a := c) (b := g) (as := as) h t => by
    show fT s (.opq c) :: (opqs as).map (fT s) = tupN g :: _
    rw [fT_map t]
    unfold fT
    dsimp only
    rw [show s c = some (.lst (g.map iD)) from h]
    rfl
theorem rng_tell {gs : List (List Nat)} {n : Nat} (h : gs.length = n) : ((List.range n).map fun i => tupN (gs.getD i [])) = gs.map tupN := by
  subst h
  conv => rhs; rw [← map_range_getD gs []]
  rw [List.map_map]
  rfl
section
variable {P : Program} {w : World} {K : PySem.W.Frag} {mg : Str → Option Value} {base : Heap} {CB CH CS CW : Addr}
theorem ok_stands (T : Tx P w K mg) (q_Watch_entries : Cf P w K mg base 4 CW "entries" (spX RW (wfTell P w CB CS CW fun A i => A.told[i]?.map fun xs => .tup (xs.map D.str)))) (q_Watch_signed : Cf P w K mg base 4 CW "signed" (spX RW (wfTell P w CB CS CW fun A i => A.sgn[i]?.map fun is => .tup (is.map iD)))) (q_Watch_accepted : Cf P w K mg base 4 CW "accepted" (spX RW (wfTell P w CB CS CW fun A i => A.acc[i]?.map fun is => .tup (is.map iD)))) {f : Addr} {fd : FuncData} (F : FD K "_law_stands" s__law_stands f fd) : Fn P w K mg base 5 f fd ["watch", "its"] (spX RW (wfStands P w CB CS CW)) := by
  refine fn_data F sc__law_stands (fun ds s k x h => ?_) fun cv A outer s H G hr gd => ⟨_, (pss_cons (ps_if (pt_not (pt_val (pe_callB (kAll (K := K) rfl) (by rfl) T.all (by decide +kernel) (pa_cons (pe_lc (own := [("at", 2), ("row", 3)]) (g := gTup K 2 (gCons (gName 2) (gCons (gName 3) gNil))) (by rfl) sc__law_stands.nd (pi_reg (pi_enum rfl T.enumerate (pa_cons (pe_dget (huB hr) (pv 1) pe_str (fun _ _ => rfl)) pa_nil))) (blkOk_by (own := [("at", 2), ("row", 3)]) (N := N__law_stands) (sc := defScope s__law_stands) (by decide +kernel)) (fun _ _ _ _ _ => kTup (K := K) (n := 2) rfl (pgs_cons (pg_name (i := 2) sc__law_stands.nd rfl (Or.inl rfl)) (pgs_cons (pg_name (i := 3) sc__law_stands.nd rfl (Or.inl rfl)) pgs_nil))) (fun _ _ _ _ _ => pts_nil) (fun _ _ _ _ _ => (pe_cmpR (kEq (K := K) hr) (pe_mtA q_Watch_entries hr (by omega) gd (fun σ => Gl.no_pass σ) (pv 0) (pa_cons (pv 2) pa_nil)) (pv 3) (nomark _)))) pa_nil)))) (pss_one (ps_ret pe_bl)) pss_nil)
    (pss_cons (ps_setLc (i := 4) (y := "got") (own := [("at", 2)]) (g := gName 2) (by rfl) sc__law_stands.nd rfl rfl (sw_true rfl rfl rfl (by decide +kernel)) (pi_range1 rfl T.range (pa_cons (pe_dget (huB hr) (pv 1) pe_str (fun _ _ => rfl)) pa_nil)) (blkOk_by (own := [("at", 2)]) (N := N__law_stands) (sc := defScope s__law_stands) (by decide +kernel)) (fun _ _ _ _ _ => pg_name (i := 2) sc__law_stands.nd rfl (Or.inl rfl)) (fun _ _ _ _ _ => pts_nil) (fun _ _ _ _ _ => (pe_mtA q_Watch_signed hr (by omega) gd (fun σ => Gl.no_pass σ) (pv 0) (pa_cons (pv 2) pa_nil))))
    (pss_cons (ps_if (pt_cmpR (kNe (K := K) hr) (pe_callB (kRepr (K := K) hr gd) (by rfl) T.repr (by decide +kernel) (pa_cons (pv 4) pa_nil)) (pe_callB (kRepr (K := K) hr gd) (by rfl) T.repr (by decide +kernel) (pa_cons (pe_lc (own := [("row", 3)]) (g := gName 3) (by rfl) sc__law_stands.nd (pi_reg (kpi (K := K) (pe_dget (huB hr) (pv 1) pe_str (fun _ _ => rfl)))) (blkOk_by (own := [("row", 3)]) (N := N__law_stands) (sc := defScope s__law_stands) (by decide +kernel)) (fun _ _ _ _ _ => pg_name (i := 3) sc__law_stands.nd rfl (Or.inl rfl)) (fun _ _ _ _ _ => pts_nil) (fun _ _ _ _ _ => (pe_callTy (kTuple (K := K)) (by rfl) T.tuple (by decide +kernel) (pa_cons (pv 3) pa_nil)))) pa_nil)) (nomark _)) (pss_one (ps_ret pe_bl)) pss_nil)
    (pss_cons (ps_setLc (i := 4) (y := "got") (own := [("at", 2)]) (g := gName 2) (by rfl) sc__law_stands.nd rfl rfl (sw_true rfl rfl rfl (by decide +kernel)) (pi_range1 rfl T.range (pa_cons pe_int pa_nil)) (blkOk_by (own := [("at", 2)]) (N := N__law_stands) (sc := defScope s__law_stands) (by decide +kernel)) (fun _ _ _ _ _ => pg_name (i := 2) sc__law_stands.nd rfl (Or.inl rfl)) (fun _ _ _ _ _ => pts_nil) (fun _ _ _ _ _ => (pe_mtA q_Watch_accepted hr (by omega) gd (fun σ => Gl.no_pass σ) (pv 0) (pa_cons (pv 2) pa_nil))))
    (pss_one (ps_ret (pe_cmpR (kEq (K := K) hr) (pe_callB (kRepr (K := K) hr gd) (by rfl) T.repr (by decide +kernel) (pa_cons (pv 4) pa_nil)) (pe_callB (kRepr (K := K) hr gd) (by rfl) T.repr (by decide +kernel) (pa_cons (pe_lc (own := [("row", 3)]) (g := gName 3) (by rfl) sc__law_stands.nd (pi_reg (kpi (K := K) (pe_dget (huB hr) (pv 1) pe_str (fun _ _ => rfl)))) (blkOk_by (own := [("row", 3)]) (N := N__law_stands) (sc := defScope s__law_stands) (by decide +kernel)) (fun _ _ _ _ _ => pg_name (i := 3) sc__law_stands.nd rfl (Or.inl rfl)) (fun _ _ _ _ _ => pts_nil) (fun _ _ _ _ _ => (pe_callTy (kTuple (K := K)) (by rfl) T.tuple (by decide +kernel) (pa_cons (pv 3) pa_nil)))) pa_nil)) (nomark _)))))))), ?_⟩
  · match ds, h with
    | [.opq wa, .opq ia], _ => rfl
  · skip

    apply bodyW
    · (first | walk_at "sim" | fail)
    intro ds s k x ok hw
    match ds, hw with
    | [.opq wa, .opq ia], ⟨A, t, W, I, h, i, tx, ht, hk⟩ =>
      obtain ⟨dx, hi⟩ := h.ins
      have t1 := h.ok.t1
      have m9 := h.ok.m2
      refine cut (fun env u => u = s ∧ ∃ v2 v3 v4, env = [.dat (.opq wa), .dat (.opq ia), v2, v3, v4]) (fun K1 h1 hrt _ => ?_) fun env u hI => ?_
      · simp [dget_dic i.d, vkT, i.tl]
        refine ⟨by rw [enumD_len, List.length_map, sizeLine_eq]; omega, wLcK_pure (ck := fun s : Rg => s I.tl = some (Mo.lst (A.told.map fun xs => D.tup (txs xs)))) i.tl (fun _ => true) (fun _ => .bl true) (fun d hd kt kf y1 y2 => ?_) ?_⟩
        · obtain ⟨j, x, hx, rfl⟩ := enumD_mem hd
          rw [List.getElem?_map] at hx
          obtain ⟨xs, hx1, rfl⟩ := Option.map_eq_some_iff.mp hx
          rw [Nat.zero_add]
          simp [hi]
          refine ⟨noW (by decide), A, t, W, j, _, h, ht, rfl, (by show Option.map _ A.told[j]? = _; rw [hx1]; rfl), ?_⟩
          have ox := tx.t _ (List.mem_of_getElem? hx1)
          refine ⟨.tuple (xs.map PyData.str), (by show (D.tup (txs xs)).py = _; simp only [D.py, txs_pys]; rfl), .tuple (xs.map PyData.str), ⟨_, txs_pys xs, rfl⟩, txs_shaped ox, txs_shaped ox, ?_⟩
          rw [txs_eqv, decide_eq_true rfl]
          exact y1 rfl
        · rw [List.filter_eq_self.mpr (by simp)]
          exact ⟨_, bls_map (fun _ => true) _, ite_f (by simp) (h1 _ _ ⟨rfl, _, _, _, rfl⟩)⟩
      obtain ⟨rfl, v2, v3, v4, rfl⟩ := hI
      have s1 := h.ok.s1
      have a1 := h.ok.a1
      refine cut (fun env u' => u' = u ∧ ∃ v2 v3, env = [.dat (.opq wa), .dat (.opq ia), v2, v3, .dat (.lst (A.sgn.map tupN))]) (fun K1 h1 hrt _ => ?_) fun env u' hI => ?_
      · simp [dget_dic i.d, vkM]
        rw [rngD_eq]
        refine ⟨by rw [sizeLine_eq]; omega, by rw [List.length_map, List.length_range, sizeLine_eq]; omega, wLc_mapA (fun j => tupN (A.sgn.getD j [])) _ (fun j hj kt hkt => ?_) ?_⟩
        · have hj := List.mem_range.mp hj
          obtain ⟨g, hg⟩ : ∃ g, A.sgn[j]? = some g := ⟨_, List.getElem?_eq_getElem (by omega)⟩
          rw [getD_of hg] at hkt
          simp [hi]
          refine ⟨noW (by decide), A, t, W, j, _, h, ht, rfl, (by show Option.map _ A.sgn[j]? = _; rw [hg]; rfl), hkt⟩
        · rw [rng_tell s1]
          exact h1 _ _ ⟨rfl, _, _, rfl⟩
      obtain ⟨rfl, v2, v3, rfl⟩ := hI
      have pq1 : Pq 26944 2 (.lst (A.sgn.map tupN)) := rows_pq (by omega) fun g hg => ⟨by have := (h.ok.s2 g hg).1; omega, fun j hj => by have := (h.ok.s2 g hg).2 j hj; omega⟩
      have pq2 : Pq 26944 2 (.lst (A.acc.map tupN)) := rows_pq (by omega) fun g hg => ⟨by have := (h.ok.a2 g hg).1; omega, fun j hj => by have := (h.ok.a2 g hg).2 j hj; omega⟩
      obtain ⟨p1, b1, b2, b3, b4⟩ := pq1.shown (by decide) (by decide)
      obtain ⟨p2, d1, d2, d3, d4⟩ := pq2.shown (by decide) (by decide)
      have gl1 := i.sg2.len
      have gl2 := i.tk2.len
      refine cut (fun env u => u = u' ∧ ∃ v2 v3 v4, env = [.dat (.opq wa), .dat (.opq ia), v2, v3, v4]) (fun K1 h1 hrt _ => ?_) fun env u hI => ?_
      · simp only [wIfS, wTest, wOp, wCB, wCons, wNil, wVarG, wVar, sg, wRepr]
        refine ⟨p1, b1, b2, b3, b4, ?_⟩
        simp only [wLcKE, wiXM, wGetR, wVar, wC, sg, vD, dget_dic i.d, vkS, i.sg1]
        refine ⟨by rw [opqs_len, sizeLine_eq]; omega, wLcK_pure (ck := fun s : Rg => s I.gl = some (Mo.lst (opqs I.Gs))) i.sg1 (fun _ => true) (fT u') (fun d hd kt kf y1 y2 => ?_) ?_⟩
        · obtain ⟨cr, hcr, rfl⟩ := List.mem_map.mp hd
          obtain ⟨i', hi'⟩ := List.mem_iff_getElem?.mp hcr
          obtain ⟨g, _, eg⟩ := i.sg2.get hi'
          have eg : u' cr = some (.lst (g.map iD)) := eg
          have e : fT u' (.opq cr) = .tup (g.map iD) := by unfold fT; dsimp only; rw [eg]
          have y1 := y1 rfl
          rw [e] at y1
          simp [eg]
          exact y1
        · rw [List.filter_eq_self.mpr (by simp), fT_map i.sg2]
          refine ⟨p1, b1, b2, b3, b4, ?_⟩
          simp
          exact h1 _ _ ⟨rfl, _, _, _, rfl⟩
      obtain ⟨rfl, v2, v3, v4, rfl⟩ := hI
      refine cut (fun env u' => u' = u ∧ ∃ v2 v3, env = [.dat (.opq wa), .dat (.opq ia), v2, v3, .dat (.lst (A.acc.map tupN))]) (fun K1 h1 hrt _ => ?_) fun env u' hI => ?_
      · simp
        rw [rngD_eq]
        refine ⟨by rw [sizeLine_eq]; decide, by rw [List.length_map, List.length_range, sizeLine_eq]; decide, wLc_mapA (fun j => tupN (A.acc.getD j [])) _ (fun j hj kt hkt => ?_) ?_⟩
        · have hj := List.mem_range.mp hj
          obtain ⟨g, hg⟩ : ∃ g, A.acc[j]? = some g := ⟨_, List.getElem?_eq_getElem (by omega)⟩
          rw [getD_of hg] at hkt
          simp [hi]
          refine ⟨noW (by decide), A, t, W, j, _, h, ht, rfl, (by show Option.map _ A.acc[j]? = _; rw [hg]; rfl), hkt⟩
        · rw [rng_tell a1]
          exact h1 _ _ ⟨rfl, _, _, rfl⟩
      obtain ⟨rfl, v2, v3, rfl⟩ := hI
      simp only [wRet, wOp, wCB, wCons, wNil, wVarG, wVar, sg, wRepr]
      refine ⟨p2, d1, d2, d3, d4, ?_⟩
      simp only [frzA, List.map_cons, List.map_nil, Sl.frz, wLcKE, wiXM, wGetR, wVar, wC, sg, vD]
      rw [dget_dic i.d, vkA]
      dsimp only
      rw [i.tk1]
      refine ⟨by rw [opqs_len, sizeLine_eq]; omega, wLcK_pure (ck := fun s : Rg => s I.al = some (Mo.lst (opqs I.Ts))) i.tk1 (fun _ => true) (fT u') (fun d hd kt kf y1 y2 => ?_) ?_⟩
      · obtain ⟨cr, hcr, rfl⟩ := List.mem_map.mp hd
        obtain ⟨i', hi'⟩ := List.mem_iff_getElem?.mp hcr
        obtain ⟨g, _, eg⟩ := i.tk2.get hi'
        have eg : u' cr = some (.lst (g.map iD)) := eg
        have e : fT u' (.opq cr) = .tup (g.map iD) := by unfold fT; dsimp only; rw [eg]
        have y1 := y1 rfl
        rw [e] at y1
        simp [eg]
        exact y1
      · rw [List.filter_eq_self.mpr (by simp), fT_map i.tk2]
        refine ⟨p2, d1, d2, d3, d4, ?_⟩
        simp
        exact hk
end
end Law
set_option Elab.async false
set_option linter.all false
set_option maxRecDepth 100000
set_option maxHeartbeats 2000000
namespace Law
open PySem PySem.Spec PyProof.Rows L2 Gl Dw


abbrev s__law_world : Stmt := top 62
abbrev N__law_world : List Str := ["hand", "many", "some", "liars", "is_liar", "its", "at"]
theorem sc__law_world : FnScope N__law_world ["hand"] (defScope s__law_world) := ⟨rfl, rfl, rfl, by decide +kernel, rfl, by decide +kernel, by decide +kernel⟩
def wfWorld (P : Program) (w : World) (CB CS CW : Addr) : WF Rg := fun ds s k _ => match ds with
  | [.opq a] => ∃ c, HoR a c s ∧ ∀ s' wa ia A W I, Two P w CB CS CW a c wa ia A A 0 0 W I s' → TxOk A → A.liars.length ≤ 9 → 1 ≤ A.logs.length → k (.tup [.opq wa, .opq ia]) s'
  | _ => False
structure Nw (s t : Rg) (X : List Addr) : Prop where
  fm : Fm [] s t
  nd : X.Nodup
  nx : ∀ x ∈ X, s x = none ∧ t x ≠ none
section
variable {s t : Rg} {X A B : List Addr} {c : Addr} {o : Mo}
theorem Nw.s0 (n : Nw s t X) (h : t c = none) : s c = none ∧ c ∉ X := by
  refine ⟨?_, fun z => (n.nx c z).2 h⟩
  cases q : s c with
  | none => rfl
  | some o =>
    have := n.fm c (by rw [q]; simp) (by simp)
    rw [h, q] at this
    cases this
theorem Nw.new (n : Nw s t (A ++ B)) (h : t c = none) : Nw s (rup t c o) (A ++ c :: B) := by
  obtain ⟨h1, h2⟩ := n.s0 h
  refine ⟨n.fm.trans (Fm.new h), nodup_ins n.nd h2, fun x hx => ?_⟩
  by_cases q : x = c
  · subst q
    exact ⟨h1, by rw [rup_same]; simp⟩
  · have m : x ∈ A ++ B := by
      rcases List.mem_append.mp hx with z | z
      · exact List.mem_append_left _ z
      · rcases List.mem_cons.mp z with z | z
        · exact absurd z q
        · exact List.mem_append_right _ z
    exact ⟨(n.nx x m).1, by rw [rup_ne q]; exact (n.nx x m).2⟩
theorem Nw.upd (n : Nw s t X) (m : c ∈ X) : Nw s (rup t c o) X := by
  refine ⟨fun x h _ => ?_, n.nd, fun x hx => ?_⟩
  · rw [rup_ne fun z => h (by rw [z]; exact (n.nx c m).1)]
    exact n.fm x h (by simp)
  · by_cases q : x = c
    · subst q
      exact ⟨(n.nx x m).1, by rw [rup_same]; simp⟩
    · rw [rup_ne q]
      exact n.nx x hx
theorem Nw.keep {x : Addr} {u : Mo} (n : Nw s t X) (e : t x = some u) (h : t c = none) : rup t c o x = some u := by
  rw [rup_ne fun z => by rw [z, h] at e; cases e]
  exact e
end
/-- sorted ones of a part of the numbers below -/
theorem asc_of {qs : List Nat} {ms : List Int} {many : Nat} (pm : ms.Perm (qs.map fun n : Nat => (n : Int))) (pw : ms.Pairwise (· ≤ ·)) (nd : qs.Nodup) (lt : ∀ q ∈ qs, q < many) : ∃ ls : List Nat, ms = ls.map (fun n : Nat => (n : Int)) ∧ ls.length = qs.length ∧ ls.Pairwise (fun a b => a < b) ∧ ∀ l ∈ ls, l < many := by
  have all : ∀ m ∈ ms, ∃ q : Nat, q ∈ qs ∧ m = (q : Int) := fun m hm => by
    obtain ⟨q, hq, e⟩ := List.mem_map.mp (pm.mem_iff.mp hm)
    exact ⟨q, hq, e.symm⟩
  have e : ms = (ms.map Int.toNat).map (fun n : Nat => (n : Int)) := by
    rw [List.map_map]
    conv => lhs; rw [← List.map_id ms]
    refine List.map_congr_left fun m hm => ?_
    obtain ⟨q, _, rfl⟩ := all m hm
    simp
  have ndm : ms.Nodup := pm.nodup_iff.mpr (by
    rw [List.nodup_iff_pairwise_ne, List.pairwise_map]
    exact nd.imp fun h z => h (by omega))
  refine ⟨ms.map Int.toNat, e, by rw [List.length_map, pm.length_eq, List.length_map], ?_, fun l hl => ?_⟩
  · rw [List.pairwise_map]
    have both := pw.and (List.nodup_iff_pairwise_ne.mp ndm)
    refine both.imp_of_mem fun {a b} ha hb h => ?_
    obtain ⟨q, _, rfl⟩ := all a ha
    obtain ⟨r, _, rfl⟩ := all b hb
    have := h.1
    have := h.2
    omega
  · obtain ⟨m, hm, rfl⟩ := List.mem_map.mp hl
    obtain ⟨q, hq, rfl⟩ := all m hm
    simpa using lt q hq
theorem perm_nat {us : List D} {many : Nat} (pm : us.Perm (rngD 0 many)) : ∃ qs : List Nat, us = qs.map iD ∧ qs.Nodup ∧ (∀ q ∈ qs, q < many) ∧ qs.length = many := by
  have all : ∀ d ∈ us, ∃ q : Nat, q < many ∧ d = iD q := fun d hd => by
    have := pm.mem_iff.mp hd
    rw [rngD_eq] at this
    obtain ⟨q, hq, e⟩ := List.mem_map.mp this
    exact ⟨q, List.mem_range.mp hq, by rw [← e]; simp⟩
  let f : D → Nat := fun d => match d with
    | .int i => i.toNat
    | _ => 0
  have e : us = (us.map f).map iD := by
    rw [List.map_map]
    conv => lhs; rw [← List.map_id us]
    refine List.map_congr_left fun d hd => ?_
    obtain ⟨q, _, rfl⟩ := all d hd
    simp [f]
  have pf : (us.map f).Perm (List.range many) := by
    have := pm.map f
    rw [rngD_eq, List.map_map] at this
    have i : (f ∘ fun (i : Nat) => D.int (0 + (i : Nat))) = id := by
      funext i
      simp [f]
    rw [i, List.map_id] at this
    exact this
  exact ⟨us.map f, e, pf.nodup_iff.mpr List.nodup_range, fun q hq => List.mem_range.mp (pf.mem_iff.mp hq), by rw [pf.length_eq, List.length_range]⟩
theorem ints_nat : ∀ qs : List Nat, D.ints (qs.map iD) = some (qs.map fun n : Nat => (n : Int))
  | [] => rfl
  | q :: r => by
    show D.ints (D.int (q : Nat) :: r.map iD) = _
    simp only [D.ints, ints_nat r]
    rfl
def kv5 (many : Nat) (ls : List Nat) (fl : Bool) (la tl : Addr) : List (Key × D) := [(.inr "many", .int many), (.inr "liars", .tup (ls.map iD)), (.inr "liar", .bl fl), (.inr "logs", .opq la), (.inr "told", .opq tl)]
theorem dput_dic {s : Rg} {a : Addr} {kvs : List (Key × D)} {x : Str} {v : D} (e : s a = some (.dic kvs)) (z : kvs.length < sizeLine) : dputR s a (.str x) v = some (.dic (putKD kvs (.inr x) v)) := by
  unfold dputR
  rw [e]
  dsimp only
  rw [if_pos z]
  rfl
section
variable {P : Program} {w : World} {K : PySem.W.Frag} {mg : Str → Option Value} {base : Heap} {CB CH CS CW : Addr}
theorem ok_world (T : Tx P w K mg) (f__law_draw : Df P w K mg base 1 "_law_draw" (spX RW wfDraw)) (f__law_any : Df P w K mg base 2 "_law_any" (spX RW wfAny)) (f__law_mixed : Df P w K mg base 2 "_law_mixed" (spX RW wfMixed)) (kWatch : Gl.Cm P w K mg base 4 "Watch" CW (spX RW (wfWI P w CB CS CW))) {f : Addr} {fd : FuncData} (F : FD K "_law_world" s__law_world f fd) : Fn P w K mg base 8 f fd ["hand"] (spX RW (wfWorld P w CB CS CW)) := by
  refine fn_data F sc__law_world (fun ds s k x h => ?_) fun cv A outer s H G hr gd => ⟨_, (pss_cons (ps_set (i := 1) sc__law_world.nd rfl (Or.inl rfl) (pe_df f__law_any hr (by omega) gd rfl (fun σ => Gl.no_pass σ) (pa_cons (pv 0) (pa_cons (pe_lst (pa_cons pe_int (pa_cons pe_int (pa_cons pe_int (pa_cons pe_int (pa_cons pe_int (pa_cons pe_int (pa_cons pe_int pa_nil)))))))) pa_nil))))
    (pss_cons (ps_set (i := 2) sc__law_world.nd rfl (Or.inl rfl) (pe_df f__law_mixed hr (by omega) gd rfl (fun σ => Gl.no_pass σ) (pa_cons (pv 0) (pa_cons (pe_listRg rfl (by rfl) T.list (prg_1 (by rfl) T.range (pv 1))) pa_nil))))
    (pss_cons (ps_set (i := 3) sc__law_world.nd rfl (Or.inl rfl) (pe_callTy (kTuple (K := K)) (by rfl) T.tuple (by decide +kernel) (pa_cons (pe_callB (kSorted (K := K)) (by rfl) T.sorted (by decide +kernel) (pa_cons (pe_slice (kSl (K := K)) (pv 2) po_none (po_some (pe_df f__law_any hr (by omega) gd rfl (fun σ => Gl.no_pass σ) (pa_cons (pv 0) (pa_cons (pe_lst (pa_cons pe_int (pa_cons pe_int (pa_cons pe_int (pa_cons pe_int (pa_cons pe_int (pa_cons (pv 1) pa_nil))))))) pa_nil))))) pa_nil)) pa_nil)))
    (pss_cons (ps_set (i := 4) sc__law_world.nd rfl (Or.inl rfl) (pe_cmpR op_gtX (pe_df f__law_draw hr (by omega) gd rfl (fun σ => Gl.no_pass σ) (pa_cons (pv 0) (pa_cons pe_int pa_nil))) pe_int (nomark _)))
    (pss_cons (ps_set (i := 5) sc__law_world.nd rfl (Or.inl rfl) (pe_disp (pps_cons pe_str (pv 1) (pps_cons pe_str (pv 3) (pps_cons pe_str (pv 4) (pps_cons pe_str (pe_reg (pe_lst (pa_cons (pe_reg (pe_lst pa_nil)) pa_nil))) (pps_cons pe_str (pe_reg (pe_lst pa_nil)) pps_nil))))) (by rfl) (by rfl) (fun z => by cases z) (by decide)))
    (pss_cons (ps_asg (pe_tup (pa_cons (pe_reg (pe_lc (own := [("at", 6)]) (g := gName 6) (by rfl) sc__law_world.nd (pi_range1 rfl T.range (pa_cons (pv 1) pa_nil)) (blkOk_by (own := [("at", 6)]) (N := N__law_world) (sc := defScope s__law_world) (by decide +kernel)) (fun _ _ _ _ _ => pg_name (i := 6) sc__law_world.nd rfl (Or.inl rfl)) (fun _ _ _ _ _ => pts_nil) (fun _ _ _ _ _ => (pe_reg (pe_lst pa_nil))))) (pa_cons (pe_reg (pe_lc (own := [("at", 6)]) (g := gName 6) (by rfl) sc__law_world.nd (pi_range1 rfl T.range (pa_cons pe_int pa_nil)) (blkOk_by (own := [("at", 6)]) (N := N__law_world) (sc := defScope s__law_world) (by decide +kernel)) (fun _ _ _ _ _ => pg_name (i := 6) sc__law_world.nd rfl (Or.inl rfl)) (fun _ _ _ _ _ => pts_nil) (fun _ _ _ _ _ => (pe_reg (pe_lst pa_nil))))) pa_nil))) (kTup (K := K) (n := 2) rfl (pgs_cons (pg_sub (pv 5) pe_str (set_dict (huB hr))) (pgs_cons (pg_sub (pv 5) pe_str (set_dict (huB hr))) pgs_nil))))
    (pss_one (ps_ret (pe_tup (pa_cons (pe_mkC kWatch hr (by omega) gd rfl (fun σ => Gl.no_pass σ) (pa_cons (pv 1) (pa_cons (pv 3) (pa_cons (pv 4) pa_nil)))) (pa_cons (pv 5) pa_nil))))))))))), ?_⟩
  · match ds, h with
    | [.opq a], _ => rfl
  · skip

    apply bodyW
    · (first | walk_at "sim" | fail)
    intro ds s k x ok hw
    match ds, hw with
    | [.opq a], ⟨c, ho, hk⟩ =>
      refine cut (fun env u => ∃ many : Nat, 1 ≤ many ∧ many ≤ 9 ∧ HoR a c u ∧ env = [.dat (.opq a), .dat (.int many), .no, .no, .no, .no, .no]) (fun K1 h1 hrt _ => ?_) fun env u hI => ?_
      · simp
        refine ⟨by decide, c, ho, by simp, by simp, fun s1 d h1' o1 hd => ?_⟩
        simp only [List.mem_cons, List.not_mem_nil, or_false] at hd
        rcases hd with rfl | rfl | rfl | rfl | rfl | rfl | rfl
        · exact h1 _ _ ⟨1, by omega, by omega, h1', rfl⟩
        · exact h1 _ _ ⟨2, by omega, by omega, h1', rfl⟩
        · exact h1 _ _ ⟨3, by omega, by omega, h1', rfl⟩
        · exact h1 _ _ ⟨3, by omega, by omega, h1', rfl⟩
        · exact h1 _ _ ⟨4, by omega, by omega, h1', rfl⟩
        · exact h1 _ _ ⟨5, by omega, by omega, h1', rfl⟩
        · exact h1 _ _ ⟨9, by omega, by omega, h1', rfl⟩
      obtain ⟨many, m1, m9, ho1, rfl⟩ := hI
      refine cut (fun env u => ∃ us, us.Perm (rngD 0 many) ∧ HoR a c u ∧ env = [.dat (.opq a), .dat (.int many), .dat (.lst us), .no, .no, .no, .no]) (fun K1 h1 hrt _ => ?_) fun env u hI => ?_
      · simp
        exact ⟨.of_le (by omega) (by omega) (by omega) (by omega), c, ho1, by rw [rng_len]; omega, flts_of fun d hd => by rw [rngD_eq] at hd; obtain ⟨i, _, rfl⟩ := List.mem_map.mp hd; rfl, fun s2 us h2 kb pm => h1 _ _ ⟨us, pm, h2, rfl⟩⟩
      obtain ⟨us, pm, ho2, rfl⟩ := hI
      obtain ⟨qs, rfl, nd, lt, ql⟩ := perm_nat pm
      refine cut (fun env u => ∃ ls : List Nat, ls.length ≤ 9 ∧ ls.Pairwise (fun a b => a < b) ∧ (∀ l ∈ ls, l < many) ∧ HoR a c u ∧ env = [.dat (.opq a), .dat (.int many), .dat (.lst (qs.map iD)), .dat (.tup (ls.map iD)), .no, .no, .no]) (fun K1 h1 hrt _ => ?_) fun env u hI => ?_
      · simp
        refine ⟨by decide, c, ho2, by simp, by simp, fun s1 d h1' o1 hd => ?_⟩
        have go : ∀ n : Nat, ∃ ns, D.ints (Dw.cutD (qs.map iD) none (some (n : Int))) = some ns ∧ ∀ ms : List Int, ms.Perm ns → ms.Pairwise (· ≤ ·) → K1.nx [.dat (.opq a), .dat (.int many), .dat (.lst (qs.map iD)), .dat (.tup (ms.map D.int)), .no, .no, .no] s1 := fun n => by
          rw [cut_take, ← List.map_take, ints_nat]
          refine ⟨_, rfl, fun ms pm pw => ?_⟩
          obtain ⟨ls, rfl, l1, l2, l3⟩ := asc_of pm pw (nd.sublist (List.take_sublist _ _)) fun q hq => lt q (List.mem_of_mem_take hq)
          refine h1 _ _ ⟨ls, by rw [l1, List.length_take]; omega, l2, l3, h1', ?_⟩
          rw [List.map_map]
          rfl
        simp only [List.mem_cons, List.not_mem_nil, or_false] at hd
        rcases hd with rfl | rfl | rfl | rfl | rfl | rfl
        · exact go 0
        · exact go 0
        · exact go 1
        · exact go 1
        · exact go 2
        · exact go many
      obtain ⟨ls, l9, pw, lm, ho3, rfl⟩ := hI
      refine cut (fun env u => ∃ fl : Bool, HoR a c u ∧ env = [.dat (.opq a), .dat (.int many), .dat (.lst (qs.map iD)), .dat (.tup (ls.map iD)), .dat (.bl fl), .no, .no]) (fun K1 h1 hrt _ => ?_) fun env u hI => ?_
      · simp
        refine ⟨c, ho3, by decide, by decide, fun s1 i h1' o1 i0 i1 => h1 _ _ ⟨_, h1', rfl⟩⟩
      obtain ⟨fl, ho4, rfl⟩ := hI
      refine cut (fun env v => ∃ ia la tl l0, Nw u v [ia, la, tl, l0] ∧ v ia = some (.dic (kv5 many ls fl la tl)) ∧ v la = some (.lst (opqs [l0])) ∧ v l0 = some (.lst []) ∧ v tl = some (.lst []) ∧ env = [.dat (.opq a), .dat (.int many), .dat (.lst (qs.map iD)), .dat (.tup (ls.map iD)), .dat (.bl fl), .dat (.opq ia), .no]) (fun K1 h1 hrt _ => ?_) fun env v hI => ?_
      · simp
        intro ia ni
        simp [wPairs, D.ky]
        have n0 : Nw u u [] := ⟨Fm.refl, List.nodup_nil, fun x hx => (nomatch hx)⟩
        have n1 := n0.new (A := []) (B := []) (o := .dic []) ni
        intro l0 nl0
        refine ⟨by decide, fun la nla0 nla tl ntl => ?_⟩
        have n2 := n1.new (A := [ia]) (B := []) (o := .lst []) nl0
        have n3 := n2.new (A := [ia]) (B := [l0]) (o := .lst [D.opq l0]) nla
        have n4 := n3.new (A := [ia, la]) (B := [l0]) (o := .lst []) ntl
        have n5 := n4.upd (c := ia) (o := .dic (mrgD [] [(Sum.inr ("many" : Str), D.int (many : Nat)), (Sum.inr ("liars" : Str), D.tup (ls.map iD)), (Sum.inr ("liar" : Str), D.bl fl), (Sum.inr ("logs" : Str), D.opq la), (Sum.inr ("told" : Str), D.opq tl)])) (by simp)
        have nd := n4.nd
        simp only [List.cons_append, List.nil_append, List.nodup_cons, List.mem_cons, List.not_mem_nil, or_false, not_or] at nd
        obtain ⟨⟨d1, d2, d3⟩, ⟨d4, d5⟩, d6, _⟩ := nd
        refine ⟨by rw [rup_ne d2, rup_ne d1, rup_ne d3, rup_same], flts_nat ls, h1 _ _ ⟨ia, la, tl, l0, n5, ?_, ?_, ?_, ?_, rfl⟩⟩
        · rw [rup_same]
          rfl
        · rw [rup_ne (Ne.symm d1), rup_ne d4, rup_same]
          rfl
        · rw [rup_ne (Ne.symm d3), rup_ne (Ne.symm d6), rup_ne (Ne.symm d5), rup_same]
        · rw [rup_ne (Ne.symm d2), rup_same]
      obtain ⟨ia, la, tl, l0, n1, hia, hla, hl0, htl, rfl⟩ := hI
      refine cut (fun env z => ∃ gl al Gs Ts, ItW ia (accNew many ls fl) ⟨la, tl, gl, al, [l0], Gs, Ts⟩ z ∧ Fm [] u z ∧ (∀ x ∈ Iad.all ia ⟨la, tl, gl, al, [l0], Gs, Ts⟩, u x = none) ∧ env = [.dat (.opq a), .dat (.int many), .dat (.lst (qs.map iD)), .dat (.tup (ls.map iD)), .dat (.bl fl), .dat (.opq ia), .no]) (fun K1 h1 hrt _ => ?_) fun env z hI => ?_
      · simp
        refine ⟨by rw [sizeLine_eq]; omega, by rw [rng_len, sizeLine_eq]; omega, wLc_fold (fun done ys v' => ∃ Gs, Nw u v' ([ia, la, tl, l0] ++ Gs) ∧ Fm [] v v' ∧ ys = opqs Gs ∧ Gs.length = done.length ∧ ∀ c ∈ Gs, v' c = some (.lst [])) (fun done d rest ys v' e0 hI kt hkt => ?_) ⟨[], by rw [List.append_nil]; exact n1, .refl, rfl, rfl, fun c hc => (nomatch hc)⟩ fun ys v' hI => ?_⟩
        · obtain ⟨Gs, nn, fm, rfl, gl, hgs⟩ := hI
          simp
          intro c nc
          have a1 := nn.s0 nc
          refine hkt _ _ ⟨Gs ++ [c], ?_, fm.trans (Fm.new nc), by simp [opqs], by simp [gl], fun c' hc' => ?_⟩
          · have q := Nw.new (A := [ia, la, tl, l0] ++ Gs) (B := []) (o := .lst []) (by rw [List.append_nil]; exact nn) nc
            rw [List.append_assoc] at q
            exact q
          · rcases List.mem_append.mp hc' with m | m
            · rw [rup_ne fun z => by rw [z] at m; exact a1.2 (List.mem_append_right _ m)]
              exact hgs c' m
            · rw [List.mem_singleton.mp m, rup_same]
        obtain ⟨Gs, n2, fm, rfl, gln, hgs⟩ := hI
        rw [rng_len] at gln
        refine ⟨flts_of fun d hd => by obtain ⟨i, _, rfl⟩ := List.mem_map.mp hd; rfl, fun gl _ ngl => ?_⟩
        have n3 := Nw.new (A := [ia, la, tl]) (B := l0 :: Gs) (o := .lst (opqs Gs)) n2 ngl
        have f3 : Fm [] v (rup v' gl (.lst (opqs Gs))) := fm.trans (Fm.new ngl)
        have hgs3 : ∀ c ∈ Gs, rup v' gl (.lst (opqs Gs)) c = some (.lst []) := fun c hc => n2.keep (hgs c hc) ngl
        have hgl3 : rup v' gl (.lst (opqs Gs)) gl = some (.lst (opqs Gs)) := rup_same
        refine ⟨by rw [sizeLine_eq]; decide, by rw [rng_len, sizeLine_eq]; decide, wLc_fold (fun done ys v2 => ∃ Ts, Nw u v2 ([ia, la, tl, gl, l0] ++ (Gs ++ Ts)) ∧ Fm [] v v2 ∧ v2 gl = some (.lst (opqs Gs)) ∧ (∀ c ∈ Gs, v2 c = some (.lst [])) ∧ ys = opqs Ts ∧ Ts.length = done.length ∧ ∀ c ∈ Ts, v2 c = some (.lst [])) (fun done d rest ys v2 e0 hI kt hkt => ?_) ⟨[], by rw [List.append_nil]; exact n3, f3, hgl3, hgs3, rfl, rfl, fun c hc => (nomatch hc)⟩ fun ys v2 hI => ?_⟩
        · obtain ⟨Ts, nn, fm2, g1, g2, rfl, tl', hts⟩ := hI
          simp
          intro c nc
          have a1 := nn.s0 nc
          refine hkt _ _ ⟨Ts ++ [c], ?_, fm2.trans (Fm.new nc), nn.keep g1 nc, fun c' hc' => nn.keep (g2 c' hc') nc, by simp [opqs], by simp [tl'], fun c' hc' => ?_⟩
          · have q := Nw.new (A := [ia, la, tl, gl, l0] ++ (Gs ++ Ts)) (B := []) (o := .lst []) (by rw [List.append_nil]; exact nn) nc
            rw [List.append_assoc, List.append_assoc] at q
            exact q
          · rcases List.mem_append.mp hc' with m | m
            · exact nn.keep (hts c' m) nc
            · rw [List.mem_singleton.mp m, rup_same]
        obtain ⟨Ts, n4, f4, hgl4, hgs4, rfl, tln, hts⟩ := hI
        rw [rng_len] at tln
        refine ⟨flts_of fun d hd => by obtain ⟨i, _, rfl⟩ := List.mem_map.mp hd; rfl, fun al _ nal => ?_⟩
        have n5 := Nw.new (A := [ia, la, tl, gl]) (B := l0 :: (Gs ++ Ts)) (o := .lst (opqs Ts)) n4 nal
        have f5 : Fm [] v (rup v2 al (.lst (opqs Ts))) := f4.trans (Fm.new nal)
        have hia5 := f5.at hia (by simp)
        rw [dput_dic hia5 (by show (5 : Nat) < sizeLine; rw [sizeLine_eq]; decide)]
        dsimp only
        rw [dput_dic rup_same (by show (6 : Nat) < sizeLine; rw [sizeLine_eq]; decide)]
        try dsimp only
        have n6 := n5.upd (c := ia) (o := .dic (putKD (putKD (kv5 many ls fl la tl) (.inr "signed") (.opq gl)) (.inr "accepted") (.opq al))) (by simp)
        have nd := n6.nd
        have nd' : (ia :: ([la, tl, gl] ++ al :: l0 :: (Gs ++ Ts))).Nodup := nd
        have nia : ∀ {x : Addr} {o : Mo}, x ∈ [la, tl, gl] ++ al :: l0 :: (Gs ++ Ts) → rup v2 al (.lst (opqs Ts)) x = some o → rup (rup v2 al (.lst (opqs Ts))) ia (.dic (putKD (putKD (kv5 many ls fl la tl) (.inr "signed") (.opq gl)) (.inr "accepted") (.opq al))) x = some o := fun {x o} m e => by
          rw [rup_ne fun z => (List.nodup_cons.mp nd').1 (by rw [← z]; exact m)]
          exact e
        have eG := al_rep (s := rup (rup v2 al (.lst (opqs Ts))) ia (.dic (putKD (putKD (kv5 many ls fl la tl) (.inr "signed") (.opq gl)) (.inr "accepted") (.opq al)))) fun c hc => nia (x := c) (by simp [hc]) (n4.keep (hgs4 c hc) nal)
        have eT := al_rep (s := rup (rup v2 al (.lst (opqs Ts))) ia (.dic (putKD (putKD (kv5 many ls fl la tl) (.inr "signed") (.opq gl)) (.inr "accepted") (.opq al)))) fun c hc => nia (x := c) (by simp [hc]) (n4.keep (hts c hc) nal)
        rw [gln] at eG
        rw [tln] at eT
        refine h1 _ _ ⟨gl, al, Gs, Ts, ⟨?_, nia (by simp) (f5.at hla (by simp)), .cons (nia (by simp) (f5.at hl0 (by simp))) .nil, nia (by simp) (f5.at htl (by simp)), nia (by simp) (n4.keep hgl4 nal), eG, nia (by simp) rup_same, eT, nd⟩, n6.fm, fun x hx => (n6.nx x hx).1, rfl⟩
        rw [rup_same]
        rfl
      obtain ⟨gl, al, Gs, Ts, hI, fz, nz, rfl⟩ := hI
      refine last (fun _ _ => False) (fun K1 _ hrt _ => ?_) fun env u hI => hI.elim
      simp
      intro wa dx nwa
      refine ⟨dx, many, ls, rup_same, rfl, rfl, m1, m9, l9, pw, lm, fun s' W' hW f nW => ⟨rfl, by decide, ?_⟩⟩
      rw [hrt]
      have fz' : Fm [wa] z s' := (Fm.new nwa).trans f
      have nn : ∀ {x : Addr}, z x ≠ none → x ∉ [wa] := fun h q => h (List.mem_singleton.mp q ▸ nwa)
      have hoz := ho4.fm fz (by simp) (by simp)
      have zn : ∀ x ∈ W'.all wa, z x = none := fun x hx => by
        rcases nW x hx with rfl | q
        · exact nwa
        · by_cases e : x = wa
          · rw [e]; exact nwa
          · rw [rup_ne e] at q; exact q
      refine hk s' wa ia _ W' ⟨la, tl, gl, al, [l0], Gs, Ts⟩ ⟨hW, hI.fm fz' fun x hx => nn (hI.there x hx), hoz.fm fz' (nn hoz.there.1) (nn hoz.there.2), fun x hx hy => hI.there x hy (zn x hx), ⟨fun q => hoz.there.1 (zn _ q), fun q => hoz.there.2 (zn _ q)⟩, ⟨fun q => ho4.there.1 (nz _ q), fun q => ho4.there.2 (nz _ q)⟩⟩ ⟨fun xs m y hy => ?_, fun xs m => (nomatch m)⟩ l9 (Nat.le_refl _)
      rw [List.mem_singleton.mp m] at hy
      cases hy
end
end Law
set_option Elab.async false
set_option linter.all false
set_option maxRecDepth 100000
set_option maxHeartbeats 2000000
namespace Law
open PySem PySem.Spec PyProof.Rows L2 Gl Dw


abbrev s__law_known_right : Stmt := top 69
abbrev N__law_known_right : List Str := ["watch", "told", "due"]
theorem sc__law_known_right : FnScope N__law_known_right [] (defScope s__law_known_right) := ⟨rfl, rfl, rfl, by decide +kernel, rfl, by decide +kernel, by decide +kernel⟩
def wfKnown : WF Rg := fun ds s k _ => match ds with
  | [] => ∀ s', Fm [] s s' → k (.bl true) s'
  | _ => False
def KS (P : Program) (w : World) (CB CS CW wa : Addr) (A : Acc) (t : Nat) (s0 s : Rg) : Prop := ∃ W, WatW P w CB CS CW wa A t t W s ∧ Fm [] s0 s ∧ ∀ x ∈ W.all wa, s0 x = none
section
variable {P : Program} {w : World} {CB CS CW wa : Addr} {A A' : Acc} {t : Nat} {s0 s : Rg}
theorem KS.ins (h : KS P w CB CS CW wa A t s0 s) : ∃ dx W, s wa = some (.ins CW dx (wtFs A W)) := by
  obtain ⟨W, h, _⟩ := h
  obtain ⟨dx, e⟩ := h.ins
  exact ⟨dx, W, e⟩
theorem KS.next {R : Acc → List D → Acc → D → Prop} {as : List D} {d : D} (h : KS P w CB CS CW wa A t s0 s) (ht : t ≤ 62) (r : R A as A' d) {k : D → Rg → Prop} {x : Xc → Rg → Prop} (hk : ∀ s', KS P w CB CS CW wa A' (t + 1) s0 s' → k d s') : wfDo P w CB CS CW R (.opq wa :: as) s k x := by
  obtain ⟨W, hw, f, n⟩ := h
  refine ⟨A, t, W, A', d, hw, ht, r, fun s' W' h' m => hk s' ⟨W', h', fun y hy _ => ?_, fun y hy => ?_⟩⟩
  · have e := f y hy (by simp)
    rw [← e]
    exact m.1 y (by rw [e]; exact hy) fun z => hy (n y z)
  · rcases m.2 y hy with q | q
    · exact n y q
    · cases e : s0 y with
      | none => rfl
      | some o =>
        have := f y (by rw [e]; simp) (by simp)
        rw [q, e] at this
        cases this
theorem KS.tell {g : Acc → Nat → Option D} {j : Nat} {d : D} (h : KS P w CB CS CW wa A t s0 s) (ht : t ≤ 64) (r : g A j = some d) {k : D → Rg → Prop} {x : Xc → Rg → Prop} (hk : k d s) : wfTell P w CB CS CW g [.opq wa, .int (j : Nat)] s k x := by
  obtain ⟨W, hw, f, n⟩ := h
  exact ⟨A, t, W, j, d, hw, ht, rfl, r, hk⟩
end
def kA (logs told : List (List Str)) (sgn acc : List (List Nat)) : Acc := ⟨1, [], true, logs, told, sgn, acc⟩
def a0 : List (List Nat) := List.replicate 10 []
def a1 : List (List Nat) := [[0], [], [], [], [], [], [], [], [], []]
def a2 : List (List Nat) := [[0], [2], [], [], [], [], [], [], [], []]
theorem txA : okText "a" := okText_of (by decide +kernel)
theorem txB : okText "b" := okText_of (by decide +kernel)
theorem txC : okText "c" := okText_of (by decide +kernel)
section
variable {P : Program} {w : World} {K : PySem.W.Frag} {mg : Str → Option Value} {base : Heap} {CB CH CS CW : Addr}
theorem ok_known (T : Tx P w K mg) (kWatch : Gl.Cm P w K mg base 4 "Watch" CW (spX RW (wfWI P w CB CS CW))) (q_Watch_add : Cf P w K mg base 4 CW "add" (spX RW (wfDo P w CB CS CW rAddL))) (q_Watch_branch : Cf P w K mg base 4 CW "branch" (spX RW (wfDo P w CB CS CW rBranch))) (q_Watch_sign : Cf P w K mg base 18 CW "sign" (spX RW (wfDo P w CB CS CW rSign))) (q_Watch_show : Cf P w K mg base 19 CW "show" (spX RW (wfDo P w CB CS CW rShow))) (q_Watch_accept : Cf P w K mg base 19 CW "accept" (spX RW (wfDo P w CB CS CW rAccept)))
    (q_Watch_entries : Cf P w K mg base 4 CW "entries" (spX RW (wfTell P w CB CS CW fun A i => A.told[i]?.map fun xs => .tup (xs.map D.str)))) (q_Watch_signed : Cf P w K mg base 4 CW "signed" (spX RW (wfTell P w CB CS CW fun A i => A.sgn[i]?.map fun is => .tup (is.map iD)))) {f : Addr} {fd : FuncData} (F : FD K "_law_known_right" s__law_known_right f fd) : Fn P w K mg base 20 f fd [] (spX RW wfKnown) := by
  refine fn_data F sc__law_known_right (fun ds s k x h => ?_) fun cv A outer s H G hr gd => ⟨_, (pss_cons (ps_set (i := 0) sc__law_known_right.nd rfl (Or.inl rfl) (pe_mkC kWatch hr (by omega) gd rfl (fun σ => Gl.no_pass σ) (pa_cons pe_int (pa_cons (pe_tup pa_nil) (pa_cons pe_bl pa_nil)))))
    (pss_cons (ps_set (i := 1) sc__law_known_right.nd rfl (Or.inl rfl) (pe_lst (pa_cons (pe_mtA q_Watch_add hr (by omega) gd (fun σ => Gl.no_pass σ) (pv 0) (pa_cons pe_int (pa_cons pe_str pa_nil))) (pa_cons (pe_mtA q_Watch_branch hr (by omega) gd (fun σ => Gl.no_pass σ) (pv 0) (pa_cons pe_int (pa_cons pe_int pa_nil))) (pa_cons (pe_mtA q_Watch_add hr (by omega) gd (fun σ => Gl.no_pass σ) (pv 0) (pa_cons pe_int (pa_cons pe_str pa_nil))) pa_nil)))))
    (pss_cons (ps_set (i := 1) sc__law_known_right.nd rfl (Or.inl rfl) (pe_op (kAdd (K := K)) (pv 1) (pe_lst (pa_cons (pe_mtA q_Watch_sign hr (by omega) gd (fun σ => Gl.no_pass σ) (pv 0) (pa_cons pe_int pa_nil)) (pa_cons (pe_mtA q_Watch_sign hr (by omega) gd (fun σ => Gl.no_pass σ) (pv 0) (pa_cons pe_int pa_nil)) (pa_cons (pe_mtA q_Watch_accept hr (by omega) gd (fun σ => Gl.no_pass σ) (pv 0) (pa_cons pe_int (pa_cons pe_int pa_nil))) pa_nil))))))
    (pss_cons (ps_set (i := 1) sc__law_known_right.nd rfl (Or.inl rfl) (pe_op (kAdd (K := K)) (pv 1) (pe_lst (pa_cons (pe_mtA q_Watch_show hr (by omega) gd (fun σ => Gl.no_pass σ) (pv 0) (pa_cons pe_int (pa_cons pe_int pa_nil))) (pa_cons (pe_mtA q_Watch_show hr (by omega) gd (fun σ => Gl.no_pass σ) (pv 0) (pa_cons pe_int (pa_cons pe_int pa_nil))) (pa_cons (pe_mtA q_Watch_accept hr (by omega) gd (fun σ => Gl.no_pass σ) (pv 0) (pa_cons pe_int (pa_cons pe_int pa_nil))) pa_nil))))))
    (pss_cons (ps_set (i := 1) sc__law_known_right.nd rfl (Or.inl rfl) (pe_op (kAdd (K := K)) (pv 1) (pe_lst (pa_cons (pe_mtA q_Watch_accept hr (by omega) gd (fun σ => Gl.no_pass σ) (pv 0) (pa_cons pe_int (pa_cons pe_int pa_nil))) (pa_cons (pe_mtA q_Watch_add hr (by omega) gd (fun σ => Gl.no_pass σ) (pv 0) (pa_cons pe_int (pa_cons pe_str pa_nil))) (pa_cons (pe_mtA q_Watch_sign hr (by omega) gd (fun σ => Gl.no_pass σ) (pv 0) (pa_cons pe_int pa_nil)) pa_nil))))))
    (pss_cons (ps_set (i := 1) sc__law_known_right.nd rfl (Or.inl rfl) (pe_op (kAdd (K := K)) (pv 1) (pe_lst (pa_cons (pe_mtA q_Watch_show hr (by omega) gd (fun σ => Gl.no_pass σ) (pv 0) (pa_cons pe_int (pa_cons pe_int pa_nil))) (pa_cons (pe_mtA q_Watch_show hr (by omega) gd (fun σ => Gl.no_pass σ) (pv 0) (pa_cons pe_int (pa_cons pe_int pa_nil))) (pa_cons (pe_mtA q_Watch_accept hr (by omega) gd (fun σ => Gl.no_pass σ) (pv 0) (pa_cons pe_int (pa_cons pe_int pa_nil))) pa_nil))))))
    (pss_cons (ps_set (i := 2) sc__law_known_right.nd rfl (Or.inl rfl) (pe_lst (pa_cons pe_int (pa_cons pe_int (pa_cons pe_int (pa_cons pe_int (pa_cons pe_int (pa_cons pe_bl (pa_cons pe_bl (pa_cons pe_bl (pa_cons pe_bl (pa_cons pe_bl (pa_cons pe_int (pa_cons pe_int (pa_cons pe_bl (pa_cons pe_bl (pa_cons pe_bl pa_nil)))))))))))))))))
    (pss_one (ps_ret (pe_and (pe_cmpR (kEq (K := K) hr) (pe_callB (kRepr (K := K) hr gd) (by rfl) T.repr (by decide +kernel) (pa_cons (pv 1) pa_nil)) (pe_callB (kRepr (K := K) hr gd) (by rfl) T.repr (by decide +kernel) (pa_cons (pv 2) pa_nil)) (nomark _)) (pe_and (pe_cmpR (kEq (K := K) hr) (pe_mtA q_Watch_entries hr (by omega) gd (fun σ => Gl.no_pass σ) (pv 0) (pa_cons pe_int pa_nil)) (pe_tup (pa_cons pe_str (pa_cons pe_str pa_nil))) (nomark _)) (pe_one (pe_cmpR (kEq (K := K) hr) (pe_mtA q_Watch_signed hr (by omega) gd (fun σ => Gl.no_pass σ) (pv 0) (pa_cons pe_int pa_nil)) (pe_tup (pa_cons pe_int (pa_cons pe_int pa_nil))) (nomark _)))))))))))))), ?_⟩
  · match ds, h with
    | [], _ => rfl
  · skip

    apply bodyW
    · (first | walk_at "sim" | fail)
    intro ds s k x ok hw
    match ds, hw with
    | [], hk =>
      refine cut (fun env u => ∃ wa, KS P w CB CS CW wa (kA [[]] [] [[]] a0) 0 s u ∧ env = [.dat (.opq wa), .no, .no]) (fun K1 h1 hrt _ => ?_) fun env s1 hI => ?_
      · simp
        intro wa dx nwa
        refine ⟨dx, 1, [], rup_same, rfl, rfl, by decide, by decide, by decide, List.Pairwise.nil, fun l hl => (nomatch hl), fun s' W' hW f nW => ⟨rfl, h1 _ _ ⟨wa, ⟨W', hW, fun y hy _ => ?_, fun y hy => ?_⟩, rfl⟩⟩⟩
        · have ne : y ≠ wa := fun z => hy (z ▸ nwa)
          rw [f y (by rw [rup_ne ne]; exact hy) (by simpa using ne), rup_ne ne]
        · rcases nW y hy with rfl | q
          · exact nwa
          · by_cases e : y = wa
            · rw [e]; exact nwa
            · rw [rup_ne e] at q; exact q
      obtain ⟨wa, K1, rfl⟩ := hI
      refine cut (fun env u => KS P w CB CS CW wa (kA [["a"], ["b"]] [] [[]] a0) 3 s u ∧ env = [.dat (.opq wa), .dat (.lst [.int 0, .int 1, .int 0]), .no]) (fun KK h1 hrt _ => ?_) fun env s4 hI => ?_
      · simp
        obtain ⟨dx1, W1, e1⟩ := K1.ins
        try dsimp only
        rw [e1]
        refine ⟨rfl, noW (by decide), K1.next (R := rAddL) (A' := kA [["a"]] [] [[]] a0) (d := .int 0) (by omega) ⟨0, "a", rfl, by decide, txA, rfl, rfl⟩ fun s2 K2 => ?_⟩
        obtain ⟨dx2, W2, e2⟩ := K2.ins
        try dsimp only
        rw [e2]
        refine ⟨rfl, noW (by decide), K2.next (R := rBranch) (A' := kA [["a"], []] [] [[]] a0) (d := .int 1) (by omega) ⟨0, 0, rfl, by decide, by decide, rfl, rfl, rfl⟩ fun s3 K3 => ?_⟩
        obtain ⟨dx3, W3, e3⟩ := K3.ins
        try dsimp only
        rw [e3]
        refine ⟨rfl, noW (by decide), K3.next (R := rAddL) (A' := kA [["a"], ["b"]] [] [[]] a0) (d := .int 0) (by omega) ⟨1, "b", rfl, by decide, txB, rfl, rfl⟩ fun s4 K4 => ?_⟩
        exact ⟨by decide, h1 _ _ ⟨K4, rfl⟩⟩
      obtain ⟨K4, rfl⟩ := hI
      refine cut (fun env u => KS P w CB CS CW wa (kA [["a"], ["b"]] [["a"], ["b"]] [[]] a0) 6 s u ∧ env = [.dat (.opq wa), .dat (.lst [.int 0, .int 1, .int 0, .int 0, .int 1, .bl false]), .no]) (fun KK h1 hrt _ => ?_) fun env s7 hI => ?_
      · simp
        obtain ⟨dx4, W4, e4⟩ := K4.ins
        try dsimp only
        rw [e4]
        refine ⟨rfl, noW (by decide), K4.next (R := rSign) (A' := kA [["a"], ["b"]] [["a"]] [[]] a0) (d := .int 0) (by omega) ⟨0, rfl, by decide, rfl, rfl⟩ fun s5 K5 => ?_⟩
        obtain ⟨dx5, W5, e5⟩ := K5.ins
        try dsimp only
        rw [e5]
        refine ⟨rfl, noW (by decide), K5.next (R := rSign) (A' := kA [["a"], ["b"]] [["a"], ["b"]] [[]] a0) (d := .int 1) (by omega) ⟨1, rfl, by decide, rfl, rfl⟩ fun s6 K6 => ?_⟩
        obtain ⟨dx6, W6, e6⟩ := K6.ins
        try dsimp only
        rw [e6]
        refine ⟨rfl, noW (by decide), K6.next (R := rAccept) (A' := kA [["a"], ["b"]] [["a"], ["b"]] [[]] a0) (d := .bl false) (by omega) ⟨0, 0, rfl, by decide, by decide, congrArg D.bl (by decide +kernel), by rfl⟩ fun s7 K7 => ?_⟩
        exact ⟨by decide, by decide, h1 _ _ ⟨K7, rfl⟩⟩
      obtain ⟨K7, rfl⟩ := hI
      refine cut (fun env u => KS P w CB CS CW wa (kA [["a"], ["b"]] [["a"], ["b"]] [[0]] a1) 9 s u ∧ env = [.dat (.opq wa), .dat (.lst [.int 0, .int 1, .int 0, .int 0, .int 1, .bl false, .bl true, .bl false, .bl true]), .no]) (fun KK h1 hrt _ => ?_) fun env s10 hI => ?_
      · simp
        obtain ⟨dx7, W7, e7⟩ := K7.ins
        try dsimp only
        rw [e7]
        refine ⟨rfl, noW (by decide), K7.next (R := rShow) (A' := kA [["a"], ["b"]] [["a"], ["b"]] [[0]] a0) (d := .bl true) (by omega) ⟨0, 0, rfl, by decide, by decide, by decide, congrArg D.bl (by decide +kernel), by rfl⟩ fun s8 K8 => ?_⟩
        obtain ⟨dx8, W8, e8⟩ := K8.ins
        try dsimp only
        rw [e8]
        refine ⟨rfl, noW (by decide), K8.next (R := rShow) (A' := kA [["a"], ["b"]] [["a"], ["b"]] [[0]] a0) (d := .bl false) (by omega) ⟨1, 0, rfl, by decide, by decide, by decide, congrArg D.bl (by decide +kernel), by rfl⟩ fun s9 K9 => ?_⟩
        obtain ⟨dx9, W9, e9⟩ := K9.ins
        try dsimp only
        rw [e9]
        refine ⟨rfl, noW (by decide), K9.next (R := rAccept) (A' := kA [["a"], ["b"]] [["a"], ["b"]] [[0]] a1) (d := .bl true) (by omega) ⟨0, 0, rfl, by decide, by decide, congrArg D.bl (by decide +kernel), by rfl⟩ fun s10 K10 => ?_⟩
        exact ⟨by decide, by decide, h1 _ _ ⟨K10, rfl⟩⟩
      obtain ⟨K10, rfl⟩ := hI
      refine cut (fun env u => KS P w CB CS CW wa (kA [["a", "c"], ["b"]] [["a"], ["b"], ["a", "c"]] [[0]] a1) 12 s u ∧ env = [.dat (.opq wa), .dat (.lst [.int 0, .int 1, .int 0, .int 0, .int 1, .bl false, .bl true, .bl false, .bl true, .bl false, .int 1, .int 2]), .no]) (fun KK h1 hrt _ => ?_) fun env s13 hI => ?_
      · simp
        obtain ⟨dx10, W10, e10⟩ := K10.ins
        try dsimp only
        rw [e10]
        refine ⟨rfl, noW (by decide), K10.next (R := rAccept) (A' := kA [["a"], ["b"]] [["a"], ["b"]] [[0]] a1) (d := .bl false) (by omega) ⟨1, 1, rfl, by decide, by decide, congrArg D.bl (by decide +kernel), by rfl⟩ fun s11 K11 => ?_⟩
        obtain ⟨dx11, W11, e11⟩ := K11.ins
        try dsimp only
        rw [e11]
        refine ⟨rfl, noW (by decide), K11.next (R := rAddL) (A' := kA [["a", "c"], ["b"]] [["a"], ["b"]] [[0]] a1) (d := .int 1) (by omega) ⟨0, "c", rfl, by decide, txC, rfl, rfl⟩ fun s12 K12 => ?_⟩
        obtain ⟨dx12, W12, e12⟩ := K12.ins
        try dsimp only
        rw [e12]
        refine ⟨rfl, noW (by decide), K12.next (R := rSign) (A' := kA [["a", "c"], ["b"]] [["a"], ["b"], ["a", "c"]] [[0]] a1) (d := .int 2) (by omega) ⟨0, rfl, by decide, rfl, rfl⟩ fun s13 K13 => ?_⟩
        exact ⟨by decide, by decide, h1 _ _ ⟨K13, rfl⟩⟩
      obtain ⟨K13, rfl⟩ := hI
      refine cut (fun env u => KS P w CB CS CW wa (kA [["a", "c"], ["b"]] [["a"], ["b"], ["a", "c"]] [[0, 2]] a2) 15 s u ∧ env = [.dat (.opq wa), .dat (.lst [.int 0, .int 1, .int 0, .int 0, .int 1, .bl false, .bl true, .bl false, .bl true, .bl false, .int 1, .int 2, .bl true, .bl false, .bl true]), .no]) (fun KK h1 hrt _ => ?_) fun env s16 hI => ?_
      · simp
        obtain ⟨dx13, W13, e13⟩ := K13.ins
        try dsimp only
        rw [e13]
        refine ⟨rfl, noW (by decide), K13.next (R := rShow) (A' := kA [["a", "c"], ["b"]] [["a"], ["b"], ["a", "c"]] [[0, 2]] a1) (d := .bl true) (by omega) ⟨2, 0, rfl, by decide, by decide, by decide, congrArg D.bl (by decide +kernel), by rfl⟩ fun s14 K14 => ?_⟩
        obtain ⟨dx14, W14, e14⟩ := K14.ins
        try dsimp only
        rw [e14]
        refine ⟨rfl, noW (by decide), K14.next (R := rShow) (A' := kA [["a", "c"], ["b"]] [["a"], ["b"], ["a", "c"]] [[0, 2]] a1) (d := .bl false) (by omega) ⟨0, 0, rfl, by decide, by decide, by decide, congrArg D.bl (by decide +kernel), by rfl⟩ fun s15 K15 => ?_⟩
        obtain ⟨dx15, W15, e15⟩ := K15.ins
        try dsimp only
        rw [e15]
        refine ⟨rfl, noW (by decide), K15.next (R := rAccept) (A' := kA [["a", "c"], ["b"]] [["a"], ["b"], ["a", "c"]] [[0, 2]] a2) (d := .bl true) (by omega) ⟨1, 2, rfl, by decide, by decide, congrArg D.bl (by decide +kernel), by rfl⟩ fun s16 K16 => ?_⟩
        exact ⟨by decide, by decide, h1 _ _ ⟨K16, rfl⟩⟩
      obtain ⟨K16, rfl⟩ := hI
      refine cut (fun env u => u = s16 ∧ env = [.dat (.opq wa), .dat (.lst [.int 0, .int 1, .int 0, .int 0, .int 1, .bl false, .bl true, .bl false, .bl true, .bl false, .int 1, .int 2, .bl true, .bl false, .bl true]), .dat (.lst [.int 0, .int 1, .int 0, .int 0, .int 1, .bl false, .bl true, .bl false, .bl true, .bl false, .int 1, .int 2, .bl true, .bl false, .bl true])]) (fun KK h1 hrt _ => ?_) fun env u hI => ?_
      · simp
        exact ⟨by decide, h1 _ _ ⟨rfl, rfl⟩⟩
      obtain ⟨rfl, rfl⟩ := hI
      obtain ⟨dx, W, e⟩ := K16.ins
      simp [e]
      have eq1 : PyData.eqv (.tuple [.str ("a" : Str), .str ("c" : Str)]) (.tuple [.str ("a" : Str), .str ("c" : Str)]) = true := txs_eqv ["a", "c"] ["a", "c"]
      have eq2 : PyData.eqv (.tuple [.int 0, .int 2]) (.tuple [.int 0, .int 2]) = true := by decide +kernel
      have sh1 : SeqAt.shaped (PyData.tuple [.str ("a" : Str), .str ("c" : Str)]) = true := by decide +kernel
      have sh2 : SeqAt.shaped (PyData.tuple [.int 0, .int 2]) = true := by decide +kernel
      refine ⟨by decide +kernel, by decide +kernel, by decide +kernel, by decide +kernel, by decide +kernel, by decide +kernel, noW (by decide), K16.tell (j := 2) (d := .tup [.str "a", .str "c"]) (by omega) rfl ⟨by decide, _, rfl, sh1, sh1, ite_t eq1 ?_⟩⟩
      rw [e]
      refine ⟨rfl, noW (by decide), K16.tell (j := 0) (d := .tup [.int 0, .int 2]) (by omega) rfl ⟨by decide, _, rfl, sh2, sh2, ?_⟩⟩
      rw [eq2]
      obtain ⟨_, _, f, _⟩ := K16
      exact hk _ f
end
end Law
set_option Elab.async false
set_option linter.all false
set_option maxRecDepth 100000
set_option maxHeartbeats 4000000
namespace Law
open PySem PySem.Spec PyProof.Rows L2 Gl Dw


def spLaw (K : PySem.W.Frag) : Sp := fun vs H Q _ => ∃ (a : Addr) (ns : List Int), vs = [.ref a] ∧ ns.length ≤ 1000 ∧ SqL K H a (ns.map V.int) ∧ ∀ H', Q (.bl true) H'
abbrev s_law : Stmt := top 70
abbrev N_law : List Str := ["script", "hand", "lap", "watch", "its", "turn", "again"]
theorem sc_law : FnScope N_law ["script"] (defScope s_law) := ⟨rfl, rfl, rfl, by decide +kernel, rfl, by decide +kernel, by decide +kernel⟩
section
variable {P : Program} {w : World} {K : PySem.W.Frag} {mg : Str → Option Value} {base : Heap} {CB CS CW : Addr}
theorem ok_law (T : Tx P w K mg) (f__law_hand : Df P w K mg base 1 "_law_hand" (spHandR K)) (f__law_draw : Df P w K mg base 1 "_law_draw" (spX RW wfDraw)) (f__law_known_right : Df P w K mg base 20 "_law_known_right" (spX RW wfKnown)) (f__law_world : Df P w K mg base 8 "_law_world" (spX RW (wfWorld P w CB CS CW)))
    (f__law_deed : Df P w K mg base 20 "_law_deed" (spX RW (wfDeed P w CB CS CW))) (f__law_stands : Df P w K mg base 5 "_law_stands" (spX RW (wfStands P w CB CS CW)))
    {f : Addr} {fd : FuncData} (F : FD K "law" s_law f fd) : Fn P w K mg base 21 f fd ["script"] (spLaw K) := by
  refine fn_body F sc_law (fun vs H Q E h => ?_) (fun cv A outer s H vs Q E hr gd h => ?_)
  · obtain ⟨a, ns, rfl, _⟩ := h
    rfl
  · obtain ⟨a0, ns, rfl, hl, hS, hQ⟩ := h
    refine ⟨_, (pss_cons (ps_set (i := 1) sc_law.nd rfl (Or.inr rfl) (pe_df f__law_hand hr (by omega) gd rfl (fun σ => Gl.no_pass σ) (pa_cons (pv 0) pa_nil)))
    (pss_cons (ps_if (pt_not (pt_val (pe_df0 f__law_known_right hr (by omega) gd rfl (fun σ => Gl.no_pass σ)))) (pss_one (ps_ret pe_bl)) pss_nil)
    (pss_cons (ps_for (passes_of rfl) rfl (pi_range1 rfl T.range (pa_cons pe_int pa_nil)) (pg_name (i := 2) sc_law.nd rfl (Or.inl rfl))
      (pss_cons (ps_asg (pe_df f__law_world hr (by omega) gd rfl (fun σ => Gl.no_pass σ) (pa_cons (pv 1) pa_nil)) (kTup (K := K) (n := 2) rfl (pgs_cons (pg_name (i := 3) sc_law.nd rfl (Or.inr rfl)) (pgs_cons (pg_name (i := 4) sc_law.nd rfl (Or.inr rfl)) pgs_nil))))
    (pss_one (ps_for (passes_of rfl) rfl (pi_range1 rfl T.range (pa_cons (pe_op (kAdd (K := K)) pe_int (pe_df f__law_draw hr (by omega) gd rfl (fun σ => Gl.no_pass σ) (pa_cons (pv 1) (pa_cons pe_int pa_nil)))) pa_nil)) (pg_name (i := 5) sc_law.nd rfl (Or.inl rfl))
      (pss_cons (ps_if (pt_not (pt_val (pe_callB (kAll (K := K) rfl) (by rfl) T.all (by decide +kernel) (pa_cons (pe_lc (own := [("again", 6)]) (g := gName 6) (by rfl) sc_law.nd (pi_range1 rfl T.range (pa_cons pe_int pa_nil)) (blkOk_by (own := [("again", 6)]) (N := N_law) (sc := defScope s_law) (by decide +kernel)) (fun _ _ _ _ _ => pg_name (i := 6) sc_law.nd rfl (Or.inl rfl)) (fun _ _ _ _ _ => pts_nil) (fun _ _ _ _ _ => (pe_df f__law_deed hr (by omega) gd rfl (fun σ => Gl.no_pass σ) (pa_cons (pv 1) (pa_cons (pv 3) (pa_cons (pv 4) pa_nil)))))) pa_nil)))) (pss_one (ps_ret pe_bl)) pss_nil)
    (pss_one (ps_if (pt_not (pt_val (pe_df f__law_stands hr (by omega) gd rfl (fun σ => Gl.no_pass σ) (pa_cons (pv 3) (pa_cons (pv 4) pa_nil))))) (pss_one (ps_ret pe_bl)) pss_nil)))))))
    (pss_one (ps_ret pe_bl))))), ?_⟩
    refine hand_startR hS (Nat.le_trans hl (by decide)) hQ (by decide) ?_
    apply bodyR
    · intro G
      (first | walk_at "sim" | fail)
    intro a c s ho
    refine cut (fun env s => HoR a c s ∧ env = [.dat (.opq a0), .dat (.opq a), .no, .no, .no, .no, .no]) (fun K1 h1 hrt _ => ?_) fun env s hI => ?_
    · simp [N_law]
      exact fun s' f => h1 _ _ ⟨ho.fm f (by simp) (by simp), rfl⟩
    clear ho
    obtain ⟨ho, rfl⟩ := hI
    refine cut (fun env s => True) (fun K1 h1 hrt _ => ?_) fun env s hI => ?_
    · simp
      refine ⟨by rw [sizeLine_eq]; decide, ?_⟩
      refine wFor_ind (fun rest env s => HoR a c s ∧ ∃ v2 v3 v4 v5 v6, env = [.dat (.opq a0), .dat (.opq a), v2, v3, v4, v5, v6]) ⟨ho, _, _, _, _, _, rfl⟩ (fun env s hp => h1 env s True.intro) fun d rest ih env s hp => ?_
      clear h1 ho
      obtain ⟨ho, v2, v3, v4, v5, v6, rfl⟩ := hp
      simp only [wName]
      refine cut (fun env s => ∃ wa ia A W I, Two P w CB CS CW a c wa ia A A 0 0 W I s ∧ TxOk A ∧ A.liars.length ≤ 9 ∧ 1 ≤ A.logs.length ∧ env = [.dat (.opq a0), .dat (.opq a), .dat d, .dat (.opq wa), .dat (.opq ia), v5, v6]) (fun K2 h2 _ _ => ?_) fun env s hI => ?_
      · simp
        exact ⟨c, ho, fun s' wa ia A W I T tx ll lg => ⟨rfl, h2 _ _ ⟨wa, ia, A, W, I, T, tx, ll, lg, rfl⟩⟩⟩
      clear ho
      obtain ⟨wa, ia, A, W, I, T0, tx, ll, lg, rfl⟩ := hI
      simp
      refine ⟨c, T0.h, by decide, by decide, fun s1 i h1' o1 i0 i1 => ?_⟩
      obtain ⟨n, rfl⟩ := Int.eq_ofNat_of_zero_le i0
      have T1 := T0.draw h1' o1
      try dsimp only
      refine ⟨by rw [sizeLine_eq]; omega, by omega, ?_⟩
      refine wFor_ind (fun rest env s => ∃ A t W I, Two P w CB CS CW a c wa ia A A t t W I s ∧ TxOk A ∧ A.liars.length ≤ 9 ∧ 1 ≤ A.logs.length ∧ t + 5 * rest.length ≤ 60 ∧ ∃ v5 v6, env = [.dat (.opq a0), .dat (.opq a), .dat d, .dat (.opq wa), .dat (.opq ia), v5, v6]) ⟨A, 0, W, I, T1, tx, ll, lg, by rw [rng_len]; omega, _, _, rfl⟩ (fun env s hp => by
        obtain ⟨_, _, _, _, T, _, _, _, _, _, _, rfl⟩ := hp
        exact ih _ _ ⟨T.h, _, _, _, _, _, rfl⟩) fun d2 rest2 ih2 env s hp => ?_
      clear T0 T1 tx ll lg
      obtain ⟨A, t, W, I, T0, tx, ll, lg, ht, v5, v6, rfl⟩ := hp
      rw [List.length_cons] at ht
      simp only [wName]
      refine cut (fun env s => ∃ A' W I, Two P w CB CS CW a c wa ia A' A' (t + 5) (t + 5) W I s ∧ TxOk A' ∧ A'.liars.length ≤ 9 ∧ 1 ≤ A'.logs.length ∧ ∃ v5 v6, env = [.dat (.opq a0), .dat (.opq a), .dat d, .dat (.opq wa), .dat (.opq ia), v5, v6]) (fun K2 h2 _ _ => ?_) fun env s hI => ?_
      · simp
        refine ⟨by rw [sizeLine_eq]; decide, by rw [rng_len, sizeLine_eq]; decide, wLc_fold (fun done ys s => ∃ A' W' I', Two P w CB CS CW a c wa ia A' A' (t + done.length) (t + done.length) W' I' s ∧ TxOk A' ∧ A'.liars.length ≤ 9 ∧ 1 ≤ A'.logs.length ∧ ys = done.map fun _ => D.bl true) (fun done d rest ys s e0 hI kt hkt => ?_) ⟨A, W, I, T0, tx, ll, lg, rfl⟩ fun ys s hI => ?_⟩
        · obtain ⟨A', W', I', T', tx', ll', lg', rfl⟩ := hI
          have dl : done.length < 5 := by
            have := congrArg List.length e0
            rw [rng_len] at this
            simp at this
            omega
          simp
          refine ⟨c, A', t + done.length, W', I', T', tx', ll', lg', by omega, fun s' A2 W2 I2 T2 tx2 l2 lg2 => hkt _ _ ⟨A2, W2, I2, ?_, tx2, by rw [l2]; exact ll', lg2, by simp⟩⟩
          rw [List.length_append]
          exact T2
        · obtain ⟨A', W', I', T', tx', ll', lg', rfl⟩ := hI
          rw [rng_len] at T'
          exact ⟨_, bls_map (fun _ => true) _, ite_f (by simp) (h2 _ _ ⟨A', W', I', T', tx', ll', lg', _, _, rfl⟩)⟩
      clear T0 tx ll lg
      obtain ⟨A', W, I, T0, tx, ll, lg, v5, v6, rfl⟩ := hI
      simp
      exact ⟨A', t + 5, W, I, T0.w, T0.i, tx, by omega, ih2 _ _ ⟨A', t + 5, W, I, T0, tx, ll, lg, by omega, _, _, rfl⟩⟩
    · simp
end
end Law
set_option Elab.async false
set_option linter.all false
set_option maxRecDepth 100000
set_option maxHeartbeats 0
namespace Law
open PySem PySem.Spec PyProof.Rows L2 Gl Dw
abbrev PP : Program := PySem.Challenge.pw_veilpost_k80_whole_lives_of_watches
def frees : List Str := ["abs", "all", "bool", "dict", "enumerate", "int", "isinstance", "len", "list", "range", "repr", "sorted", "str", "super", "tuple", "zip"]
def dd (x : Str) (s : Stmt) : He.DefD := ⟨(x, none), x, x, defArgs s, defBody s, defScope s, [], []⟩
def fns : List He.DefD := [dd "_law_draw" s__law_draw, dd "_law_hand" s__law_hand, dd "is_integer" s_is_integer, dd "is_within" s_is_within, dd "is_sign" s_is_sign, dd "is_text" s_is_text, ⟨("Book", some "raw_put"), "raw_put", "Book.raw_put", defArgs s_Book_raw_put, defBody s_Book_raw_put, defScope s_Book_raw_put, [], []⟩, ⟨("Book", some "fresh"), "fresh", "Book.fresh", defArgs s_Book_fresh, defBody s_Book_fresh, defScope s_Book_fresh, [], []⟩, ⟨("Book", some "is_number"), "is_number", "Book.is_number", defArgs s_Book_is_number, defBody s_Book_is_number, defScope s_Book_is_number, [], []⟩, ⟨("Book", some "raw_parts"), "raw_parts", "Book.raw_parts", defArgs s_Book_raw_parts, defBody s_Book_raw_parts, defScope s_Book_raw_parts, [], []⟩, ⟨("Book", some "__init__"), "__init__", "Book.__init__", defArgs s_Book___init__, defBody s_Book___init__, defScope s_Book___init__, [], []⟩, dd "raw_empty" s_raw_empty, dd "raw_leaf" s_raw_leaf, dd "raw_node" s_raw_node, dd "half_of" s_half_of, dd "is_count" s_is_count, dd "there" s_there, dd "empty_there" s_empty_there, dd "node_there" s_node_there, dd "pieces" s_pieces, ⟨("Heads", some "__init__"), "__init__", "Heads.__init__", defArgs s_Heads___init__, defBody s_Heads___init__, defScope s_Heads___init__, [], []⟩, ⟨("Heads", some "of"), "of", "Heads.of", defArgs s_Heads_of, defBody s_Heads_of, defScope s_Heads_of, [], []⟩, ⟨("Heads", some "fresh_one"), "fresh_one", "Heads.fresh_one", defArgs s_Heads_fresh_one, defBody s_Heads_fresh_one, defScope s_Heads_fresh_one, [], []⟩, dd "joined" s_joined, dd "is_grown" s_is_grown, dd "are_liars" s_are_liars, ⟨("Statement", some "__init__"), "__init__", "Statement.__init__", defArgs s_Statement___init__, defBody s_Statement___init__, defScope s_Statement___init__, [], []⟩, ⟨("Watch", some "__init__"), "__init__", "Watch.__init__", defArgs s_Watch___init__, defBody s_Watch___init__, defScope s_Watch___init__, [], []⟩, ⟨("Watch", some "check_log"), "check_log", "Watch.check_log", defArgs s_Watch_check_log, defBody s_Watch_check_log, defScope s_Watch_check_log, [], []⟩, ⟨("Watch", some "check_statement"), "check_statement", "Watch.check_statement", defArgs s_Watch_check_statement, defBody s_Watch_check_statement, defScope s_Watch_check_statement, [], []⟩, ⟨("Watch", some "check_witness"), "check_witness", "Watch.check_witness", defArgs s_Watch_check_witness, defBody s_Watch_check_witness, defScope s_Watch_check_witness, [], []⟩, ⟨("Watch", some "check_client"), "check_client", "Watch.check_client", defArgs s_Watch_check_client, defBody s_Watch_check_client, defScope s_Watch_check_client, [], []⟩, ⟨("Watch", some "signed"), "signed", "Watch.signed", defArgs s_Watch_signed, defBody s_Watch_signed, defScope s_Watch_signed, [], []⟩, ⟨("Watch", some "accepted"), "accepted", "Watch.accepted", defArgs s_Watch_accepted, defBody s_Watch_accepted, defScope s_Watch_accepted, [], []⟩, ⟨("Watch", some "entries"), "entries", "Watch.entries", defArgs s_Watch_entries, defBody s_Watch_entries, defScope s_Watch_entries, [], []⟩, ⟨("Watch", some "add"), "add", "Watch.add", defArgs s_Watch_add, defBody s_Watch_add, defScope s_Watch_add, [], []⟩, ⟨("Watch", some "branch"), "branch", "Watch.branch", defArgs s_Watch_branch, defBody s_Watch_branch, defScope s_Watch_branch, [], []⟩, ⟨("Watch", some "sign"), "sign", "Watch.sign", defArgs s_Watch_sign, defBody s_Watch_sign, defScope s_Watch_sign, [], []⟩, ⟨("Watch", some "goes_on"), "goes_on", "Watch.goes_on", defArgs s_Watch_goes_on, defBody s_Watch_goes_on, defScope s_Watch_goes_on, [], []⟩, ⟨("Watch", some "show"), "show", "Watch.show", defArgs s_Watch_show, defBody s_Watch_show, defScope s_Watch_show, [], []⟩, ⟨("Watch", some "accept"), "accept", "Watch.accept", defArgs s_Watch_accept, defBody s_Watch_accept, defScope s_Watch_accept, [], []⟩, dd "_law_any" s__law_any, dd "_law_mixed" s__law_mixed, dd "_law_text" s__law_text, dd "_law_begins" s__law_begins, dd "_law_does_sign" s__law_does_sign, dd "_law_does_accept" s__law_does_accept, dd "_law_deed" s__law_deed, dd "_law_stands" s__law_stands, dd "_law_known_right" s__law_known_right, dd "_law_world" s__law_world, dd "law" s_law]
def fas : List He.Fa := [.glo "_law_draw", .glo "_law_hand", .glo "is_integer", .glo "is_within", .glo "is_sign", .glo "is_text", .glo "raw_empty", .glo "raw_leaf", .glo "raw_node", .glo "half_of", .glo "is_count", .glo "there", .glo "empty_there", .glo "node_there", .glo "pieces", .glo "joined", .glo "is_grown", .glo "are_liars", .glo "_law_any", .glo "_law_mixed", .glo "_law_text", .glo "_law_begins", .glo "_law_does_sign", .glo "_law_does_accept", .glo "_law_deed", .glo "_law_stands", .glo "_law_known_right", .glo "_law_world", .glo "law", .int "MOST_TEXT" 40, .int "MOST_NUMBER" 999999999999, .int "MOST_ITEMS" 400, .str "NAME" "name", .str "NUMBER_books" "number", .str "FRESH" "fresh", .str "ROW" "row", .str "PRINT" "print", .str "EMPTY" "empty", .str "LEAF" "leaf", .str "NODE" "node", .int "MOST_WITNESSES" 9, .int "MOST_CLIENTS" 10, .str "MARK" "mark", .str "NUMBER_watches" "number", .str "HEAD" "head", .glo "BadWatch", .glo "NoLog", .glo "NoStatement", .glo "NoWitness", .glo "NoClient", .glo "NoText", .glo "NoSize", .glo "NotLiar", .glo "Book", .glo "Heads", .glo "Statement", .glo "Watch", .cls "Book", .noat "Book" "records", .noat "Book" "places", .noat "Book" "freshes", .cls "Heads", .noat "Heads" "book", .noat "Heads" "rows", .noat "Heads" "known", .cls "Statement", .noat "Statement" "rows", .noat "Statement" "top", .noat "Statement" "mark", .cls "Watch", .noat "Watch" "witness_count", .noat "Watch" "liars", .noat "Watch" "is_liar", .noat "Watch" "pages", .noat "Watch" "key", .noat "Watch" "witness_keys", .noat "Watch" "rows", .noat "Watch" "statements", .noat "Watch" "signs", .noat "Watch" "taken"]
theorem bot {S : Type} {W : Wd S} {P : Program} {w : World} {K : PySem.W.Frag} {mg : Str → Option Value} {base : Heap} {n : Nat} {f : Addr} {fd : FuncData} {ps : List Str} {wf : List D → S → (D → S → Prop) → (Xc → S → Prop) → Prop} (h : ∀ ds s k x, ¬ wf ds s k x) : Fn P w K mg base n f fd ps (spX W wf) :=
  ⟨fun vs H Q E z => (let ⟨_, _, _, _, _, _, _, q, _⟩ := z; (h _ _ _ _ q).elim), fun _ _ _ _ _ _ _ _ _ _ _ _ _ _ z => (let ⟨_, _, _, _, _, _, _, q, _⟩ := z; (h _ _ _ _ q).elim)⟩
def e0B (K : PySem.W.Frag) (C : Addr) : Bool := PySem.W.excIn K C He.veBase "ValueError.__new__" && PySem.W.keepIn K (.ref C)
def exs (K : PySem.W.Frag) : List Bool := [Ex.badB PP.main.file K (He.ga K "BadWatch") "part", excB K (He.ga K "BadWatch"), rsB K (He.ga K "BadWatch"), e0B K (He.ga K "NoLog"), excB K (He.ga K "NoLog"), rsB K (He.ga K "NoLog"), e0B K (He.ga K "NoStatement"), excB K (He.ga K "NoStatement"), rsB K (He.ga K "NoStatement"), e0B K (He.ga K "NoWitness"), excB K (He.ga K "NoWitness"), rsB K (He.ga K "NoWitness"), e0B K (He.ga K "NoClient"), excB K (He.ga K "NoClient"), rsB K (He.ga K "NoClient"), e0B K (He.ga K "NoText"), excB K (He.ga K "NoText"), rsB K (He.ga K "NoText"), e0B K (He.ga K "NoSize"), excB K (He.ga K "NoSize"), rsB K (He.ga K "NoSize"), e0B K (He.ga K "NotLiar"), excB K (He.ga K "NotLiar"), rsB K (He.ga K "NotLiar"), incB K (He.ga K "Book"), mkB K (He.ga K "Book"), incB K (He.ga K "Heads"), mkB K (He.ga K "Heads"), incB K (He.ga K "Statement"), mkB K (He.ga K "Statement"), incB K (He.ga K "Watch"), mkB K (He.ga K "Watch"), metB K (He.ga K "Book") "raw_put", metB K (He.ga K "Book") "fresh", metB K (He.ga K "Book") "is_number", metB K (He.ga K "Book") "raw_parts", metB K (He.ga K "Heads") "of", metB K (He.ga K "Heads") "fresh_one", metB K (He.ga K "Watch") "check_log", metB K (He.ga K "Watch") "check_statement", metB K (He.ga K "Watch") "check_witness", metB K (He.ga K "Watch") "check_client", metB K (He.ga K "Watch") "signed", metB K (He.ga K "Watch") "accepted", metB K (He.ga K "Watch") "entries", metB K (He.ga K "Watch") "add", metB K (He.ga K "Watch") "branch", metB K (He.ga K "Watch") "sign", metB K (He.ga K "Watch") "goes_on", metB K (He.ga K "Watch") "show", metB K (He.ga K "Watch") "accept"]
def exK (K : PySem.W.Frag) : Bool := frees.all (fun x => (He.Fa.free x).ok K) && (exs K).all id
def obM (K : PySem.W.Frag) : List Ex.FnM := (["BadWatch"] : List Str).map fun m => Ex.obsM K m
def vaM : List Ex.FnM := [Ex.valM "BadWatch.__init__" (inClass (top 10) 0)]
def KK (g : Addr → Option Obj) : PySem.W.Frag := He.frG g [2, 1, 3, 28, 35, 45, 115, 127, 139, 151, 163, 175, 187, 199, 209, 214, 353, 364, 371, 378, 385, 392, 399, 406, 413, 425, 461, 472, 477, 482, 499, 645, 654, 661, 668, 675, 680, 687, 694, 699, 706, 713, 718, 725, 730, 27, 34, 44, 114, 126, 138, 150, 162, 174, 186, 198, 208, 213, 352, 363, 370, 377, 384, 391, 398, 405, 412, 424, 460, 471, 476, 481, 498, 644, 653, 660, 667, 674, 679, 686, 693, 698, 705, 712, 717, 724, 729, 112, 228, 249, 275, 289, 303, 439, 446, 453, 496, 515, 522, 529, 536, 543, 550, 557, 564, 569, 576, 581, 586, 593, 600, 111, 100, 227, 248, 274, 288, 302, 438, 445, 452, 495, 514, 521, 528, 535, 542, 549, 556, 563, 568, 575, 580, 585, 592, 599]
abbrev AlM : Type := He.AlD × Bool × List Ex.FnM
def obK (K : PySem.W.Frag) : AlM := (He.obsD fas fns K, exK K, obM K)
def vaK : AlM := (He.valD fns, true, vaM)
def hk : PySem.W.Hook where
  α := AlM
  obs := fun s => obK (KK s.heap.get?)
  val := fun _ => vaK
  says := fun _ h => ∃ K : PySem.W.Frag, K.In h ∧ obK K = vaK
  of := fun _ _ e => ⟨_, He.frG_in, e⟩
  keeps := fun _ _ _ ⟨K, hK, c⟩ k => ⟨K, PySem.W.Frag.In.keeps hK k, c⟩
theorem facts {w : World} {K : PySem.W.Frag} {h : Heap} {mg : Str → Option Value} {f : Addr} (X : K.In h) (G : h.Ns mainGlobals mg) (hfa : mg ("law" : Str) = some (.ref f)) (c : obK K = vaK) :
    ∃ fd : FuncData, (∀ (s : Shared) (v : Value), BindsTo s fd ⟨[v], []⟩ [("script", v)]) ∧ ∀ base : Heap, K.In base → base.Ns mainGlobals mg → Fn PP w K mg base 21 f fd ["script"] (spLaw K) := by
  have c0 : He.SaysD fas fns K := congrArg (fun z : AlM => z.1) c
  have c2 : exK K = true := congrArg (fun z : AlM => z.2.1) c
  have c3 : obM K = vaM := congrArg (fun z : AlM => z.2.2) c
  obtain ⟨e1, e2⟩ := Ex.ba c2
  have ext : ∀ (i : Nat) {b : Bool}, (exs K)[i]? = some b → b = true := fun i b hb => List.all_eq_true.mp e2 b (List.mem_of_getElem? hb)
  have fr : ∀ (i : Nat) {x : Str}, frees[i]? = some x → mg x = none := fun i x hx => He.free_ok X G (List.all_eq_true.mp e1 x (List.mem_of_getElem? hx))
  have int : ∀ {x : Str} {i : Int}, (He.Fa.int x i).ok K = true → ∃ u, mg x = some u ∧ RelV (.int i) u := fun h => by obtain ⟨t, q⟩ := He.int_ok X G h; exact ⟨_, q, t, rfl⟩
  have str : ∀ {x z : Str}, (He.Fa.str x z).ok K = true → ∃ u, mg x = some u ∧ RelV (.str z) u := fun h => by obtain ⟨t, q⟩ := He.str_ok X G h; exact ⟨_, q, t, rfl⟩
  have T : Tx PP w K mg := ⟨fr 0 rfl, fr 1 rfl, fr 2 rfl, fr 3 rfl, fr 4 rfl, fr 5 rfl, fr 6 rfl, fr 7 rfl, fr 8 rfl, fr 9 rfl, fr 10 rfl, fr 11 rfl, fr 12 rfl, fr 13 rfl, fr 14 rfl, fr 15 rfl, int (c0.fact 29 (f := .int "MOST_TEXT" 40) rfl), int (c0.fact 30 (f := .int "MOST_NUMBER" 999999999999) rfl), int (c0.fact 31 (f := .int "MOST_ITEMS" 400) rfl), str (c0.fact 32 (f := .str "NAME" "name") rfl), str (c0.fact 33 (f := .str "NUMBER_books" "number") rfl), str (c0.fact 34 (f := .str "FRESH" "fresh") rfl), str (c0.fact 35 (f := .str "ROW" "row") rfl), str (c0.fact 36 (f := .str "PRINT" "print") rfl), str (c0.fact 37 (f := .str "EMPTY" "empty") rfl), str (c0.fact 38 (f := .str "LEAF" "leaf") rfl), str (c0.fact 39 (f := .str "NODE" "node") rfl), int (c0.fact 40 (f := .int "MOST_WITNESSES" 9) rfl), int (c0.fact 41 (f := .int "MOST_CLIENTS" 10) rfl), str (c0.fact 42 (f := .str "MARK" "mark") rfl), str (c0.fact 43 (f := .str "NUMBER_watches" "number") rfl), str (c0.fact 44 (f := .str "HEAD" "head") rfl)⟩
  have g_BadWatch : mg "BadWatch" = some (.ref (He.ga K "BadWatch")) := He.glo_ok X G (c0.fact 45 (f := .glo "BadWatch") rfl)
  have v_BadWatch : ∃ u, mg "BadWatch" = some u ∧ RelV (.ref (He.ga K "BadWatch")) u := ⟨_, g_BadWatch, rfl⟩
  have g_NoLog : mg "NoLog" = some (.ref (He.ga K "NoLog")) := He.glo_ok X G (c0.fact 46 (f := .glo "NoLog") rfl)
  have v_NoLog : ∃ u, mg "NoLog" = some u ∧ RelV (.ref (He.ga K "NoLog")) u := ⟨_, g_NoLog, rfl⟩
  have g_NoStatement : mg "NoStatement" = some (.ref (He.ga K "NoStatement")) := He.glo_ok X G (c0.fact 47 (f := .glo "NoStatement") rfl)
  have v_NoStatement : ∃ u, mg "NoStatement" = some u ∧ RelV (.ref (He.ga K "NoStatement")) u := ⟨_, g_NoStatement, rfl⟩
  have g_NoWitness : mg "NoWitness" = some (.ref (He.ga K "NoWitness")) := He.glo_ok X G (c0.fact 48 (f := .glo "NoWitness") rfl)
  have v_NoWitness : ∃ u, mg "NoWitness" = some u ∧ RelV (.ref (He.ga K "NoWitness")) u := ⟨_, g_NoWitness, rfl⟩
  have g_NoClient : mg "NoClient" = some (.ref (He.ga K "NoClient")) := He.glo_ok X G (c0.fact 49 (f := .glo "NoClient") rfl)
  have v_NoClient : ∃ u, mg "NoClient" = some u ∧ RelV (.ref (He.ga K "NoClient")) u := ⟨_, g_NoClient, rfl⟩
  have g_NoText : mg "NoText" = some (.ref (He.ga K "NoText")) := He.glo_ok X G (c0.fact 50 (f := .glo "NoText") rfl)
  have v_NoText : ∃ u, mg "NoText" = some u ∧ RelV (.ref (He.ga K "NoText")) u := ⟨_, g_NoText, rfl⟩
  have g_NoSize : mg "NoSize" = some (.ref (He.ga K "NoSize")) := He.glo_ok X G (c0.fact 51 (f := .glo "NoSize") rfl)
  have v_NoSize : ∃ u, mg "NoSize" = some u ∧ RelV (.ref (He.ga K "NoSize")) u := ⟨_, g_NoSize, rfl⟩
  have g_NotLiar : mg "NotLiar" = some (.ref (He.ga K "NotLiar")) := He.glo_ok X G (c0.fact 52 (f := .glo "NotLiar") rfl)
  have v_NotLiar : ∃ u, mg "NotLiar" = some u ∧ RelV (.ref (He.ga K "NotLiar")) u := ⟨_, g_NotLiar, rfl⟩
  have g_Book : mg "Book" = some (.ref (He.ga K "Book")) := He.glo_ok X G (c0.fact 53 (f := .glo "Book") rfl)
  have v_Book : ∃ u, mg "Book" = some u ∧ RelV (.ref (He.ga K "Book")) u := ⟨_, g_Book, rfl⟩
  have g_Heads : mg "Heads" = some (.ref (He.ga K "Heads")) := He.glo_ok X G (c0.fact 54 (f := .glo "Heads") rfl)
  have v_Heads : ∃ u, mg "Heads" = some u ∧ RelV (.ref (He.ga K "Heads")) u := ⟨_, g_Heads, rfl⟩
  have g_Statement : mg "Statement" = some (.ref (He.ga K "Statement")) := He.glo_ok X G (c0.fact 55 (f := .glo "Statement") rfl)
  have v_Statement : ∃ u, mg "Statement" = some u ∧ RelV (.ref (He.ga K "Statement")) u := ⟨_, g_Statement, rfl⟩
  have g_Watch : mg "Watch" = some (.ref (He.ga K "Watch")) := He.glo_ok X G (c0.fact 56 (f := .glo "Watch") rfl)
  have v_Watch : ∃ u, mg "Watch" = some u ∧ RelV (.ref (He.ga K "Watch")) u := ⟨_, g_Watch, rfl⟩
  have bad_BadWatch : Ex.BadC PP K (He.ga K "BadWatch") "part" := Ex.badC_of (st := inClass (top 10) 0) (q := "BadWatch.__init__") (ext 0 rfl) (List.cons.inj (show Ex.obsM K _ :: _ = _ from c3)).1 rfl rfl rfl (by kernel_rfl) rfl rfl rfl rfl (fun env => ⟨_, rfl⟩) (fun kV doc pm ct cdv an cc s x v => .of_eq rfl)
  obtain ⟨xf_BadWatch, exc_BadWatch⟩ := excB_ok (ext 1 rfl)
  obtain ⟨r1_BadWatch, r2_BadWatch⟩ := rsB_ok (ext 2 rfl)
  have r_NoLog : E0c K mg "NoLog" (He.ga K "NoLog") := ⟨g_NoLog, (Ex.ba (ext 3 rfl)).1, (Ex.ba (ext 3 rfl)).2, (rsB_ok (ext 5 rfl)).1, (rsB_ok (ext 5 rfl)).2⟩
  obtain ⟨xf_NoLog, exc_NoLog⟩ := excB_ok (ext 4 rfl)
  have r_NoStatement : E0c K mg "NoStatement" (He.ga K "NoStatement") := ⟨g_NoStatement, (Ex.ba (ext 6 rfl)).1, (Ex.ba (ext 6 rfl)).2, (rsB_ok (ext 8 rfl)).1, (rsB_ok (ext 8 rfl)).2⟩
  obtain ⟨xf_NoStatement, exc_NoStatement⟩ := excB_ok (ext 7 rfl)
  have r_NoWitness : E0c K mg "NoWitness" (He.ga K "NoWitness") := ⟨g_NoWitness, (Ex.ba (ext 9 rfl)).1, (Ex.ba (ext 9 rfl)).2, (rsB_ok (ext 11 rfl)).1, (rsB_ok (ext 11 rfl)).2⟩
  obtain ⟨xf_NoWitness, exc_NoWitness⟩ := excB_ok (ext 10 rfl)
  have r_NoClient : E0c K mg "NoClient" (He.ga K "NoClient") := ⟨g_NoClient, (Ex.ba (ext 12 rfl)).1, (Ex.ba (ext 12 rfl)).2, (rsB_ok (ext 14 rfl)).1, (rsB_ok (ext 14 rfl)).2⟩
  obtain ⟨xf_NoClient, exc_NoClient⟩ := excB_ok (ext 13 rfl)
  have r_NoText : E0c K mg "NoText" (He.ga K "NoText") := ⟨g_NoText, (Ex.ba (ext 15 rfl)).1, (Ex.ba (ext 15 rfl)).2, (rsB_ok (ext 17 rfl)).1, (rsB_ok (ext 17 rfl)).2⟩
  obtain ⟨xf_NoText, exc_NoText⟩ := excB_ok (ext 16 rfl)
  have r_NoSize : E0c K mg "NoSize" (He.ga K "NoSize") := ⟨g_NoSize, (Ex.ba (ext 18 rfl)).1, (Ex.ba (ext 18 rfl)).2, (rsB_ok (ext 20 rfl)).1, (rsB_ok (ext 20 rfl)).2⟩
  obtain ⟨xf_NoSize, exc_NoSize⟩ := excB_ok (ext 19 rfl)
  have r_NotLiar : E0c K mg "NotLiar" (He.ga K "NotLiar") := ⟨g_NotLiar, (Ex.ba (ext 21 rfl)).1, (Ex.ba (ext 21 rfl)).2, (rsB_ok (ext 23 rfl)).1, (rsB_ok (ext 23 rfl)).2⟩
  obtain ⟨xf_NotLiar, exc_NotLiar⟩ := excB_ok (ext 22 rfl)
  have cls_Book : Cls K (He.ga K "Book") := He.cls_ok (c0.fact 57 (f := .cls "Book") rfl)
  have no_Book_records : NoAttr K (He.ga K "Book") "records" := He.eqO_ok (c0.fact 58 (f := .noat "Book" "records") rfl)
  have no_Book_places : NoAttr K (He.ga K "Book") "places" := He.eqO_ok (c0.fact 59 (f := .noat "Book" "places") rfl)
  have no_Book_freshes : NoAttr K (He.ga K "Book") "freshes" := He.eqO_ok (c0.fact 60 (f := .noat "Book" "freshes") rfl)
  obtain ⟨inc_Book, sub_Book⟩ := incB_ok (ext 24 rfl) cls_Book
  have mk_Book := mkB_ok (ext 25 rfl)
  have cls_Heads : Cls K (He.ga K "Heads") := He.cls_ok (c0.fact 61 (f := .cls "Heads") rfl)
  have no_Heads_book : NoAttr K (He.ga K "Heads") "book" := He.eqO_ok (c0.fact 62 (f := .noat "Heads" "book") rfl)
  have no_Heads_rows : NoAttr K (He.ga K "Heads") "rows" := He.eqO_ok (c0.fact 63 (f := .noat "Heads" "rows") rfl)
  have no_Heads_known : NoAttr K (He.ga K "Heads") "known" := He.eqO_ok (c0.fact 64 (f := .noat "Heads" "known") rfl)
  obtain ⟨inc_Heads, sub_Heads⟩ := incB_ok (ext 26 rfl) cls_Heads
  have mk_Heads := mkB_ok (ext 27 rfl)
  have cls_Statement : Cls K (He.ga K "Statement") := He.cls_ok (c0.fact 65 (f := .cls "Statement") rfl)
  have no_Statement_rows : NoAttr K (He.ga K "Statement") "rows" := He.eqO_ok (c0.fact 66 (f := .noat "Statement" "rows") rfl)
  have no_Statement_top : NoAttr K (He.ga K "Statement") "top" := He.eqO_ok (c0.fact 67 (f := .noat "Statement" "top") rfl)
  have no_Statement_mark : NoAttr K (He.ga K "Statement") "mark" := He.eqO_ok (c0.fact 68 (f := .noat "Statement" "mark") rfl)
  obtain ⟨inc_Statement, sub_Statement⟩ := incB_ok (ext 28 rfl) cls_Statement
  have mk_Statement := mkB_ok (ext 29 rfl)
  have cls_Watch : Cls K (He.ga K "Watch") := He.cls_ok (c0.fact 69 (f := .cls "Watch") rfl)
  have no_Watch_witness_count : NoAttr K (He.ga K "Watch") "witness_count" := He.eqO_ok (c0.fact 70 (f := .noat "Watch" "witness_count") rfl)
  have no_Watch_liars : NoAttr K (He.ga K "Watch") "liars" := He.eqO_ok (c0.fact 71 (f := .noat "Watch" "liars") rfl)
  have no_Watch_is_liar : NoAttr K (He.ga K "Watch") "is_liar" := He.eqO_ok (c0.fact 72 (f := .noat "Watch" "is_liar") rfl)
  have no_Watch_pages : NoAttr K (He.ga K "Watch") "pages" := He.eqO_ok (c0.fact 73 (f := .noat "Watch" "pages") rfl)
  have no_Watch_key : NoAttr K (He.ga K "Watch") "key" := He.eqO_ok (c0.fact 74 (f := .noat "Watch" "key") rfl)
  have no_Watch_witness_keys : NoAttr K (He.ga K "Watch") "witness_keys" := He.eqO_ok (c0.fact 75 (f := .noat "Watch" "witness_keys") rfl)
  have no_Watch_rows : NoAttr K (He.ga K "Watch") "rows" := He.eqO_ok (c0.fact 76 (f := .noat "Watch" "rows") rfl)
  have no_Watch_statements : NoAttr K (He.ga K "Watch") "statements" := He.eqO_ok (c0.fact 77 (f := .noat "Watch" "statements") rfl)
  have no_Watch_signs : NoAttr K (He.ga K "Watch") "signs" := He.eqO_ok (c0.fact 78 (f := .noat "Watch" "signs") rfl)
  have no_Watch_taken : NoAttr K (He.ga K "Watch") "taken" := He.eqO_ok (c0.fact 79 (f := .noat "Watch" "taken") rfl)
  obtain ⟨inc_Watch, sub_Watch⟩ := incB_ok (ext 30 rfl) cls_Watch
  have mk_Watch := mkB_ok (ext 31 rfl)
  have me_Book_raw_put := metB_ok (ext 32 rfl)
  have me_Book_fresh := metB_ok (ext 33 rfl)
  have me_Book_is_number := metB_ok (ext 34 rfl)
  have me_Book_raw_parts := metB_ok (ext 35 rfl)
  have me_Heads_of := metB_ok (ext 36 rfl)
  have me_Heads_fresh_one := metB_ok (ext 37 rfl)
  have me_Watch_check_log := metB_ok (ext 38 rfl)
  have me_Watch_check_statement := metB_ok (ext 39 rfl)
  have me_Watch_check_witness := metB_ok (ext 40 rfl)
  have me_Watch_check_client := metB_ok (ext 41 rfl)
  have me_Watch_signed := metB_ok (ext 42 rfl)
  have me_Watch_accepted := metB_ok (ext 43 rfl)
  have me_Watch_entries := metB_ok (ext 44 rfl)
  have me_Watch_add := metB_ok (ext 45 rfl)
  have me_Watch_branch := metB_ok (ext 46 rfl)
  have me_Watch_sign := metB_ok (ext 47 rfl)
  have me_Watch_goes_on := metB_ok (ext 48 rfl)
  have me_Watch_show := metB_ok (ext 49 rfl)
  have me_Watch_accept := metB_ok (ext 50 rfl)
  obtain ⟨fd__law_draw, F__law_draw⟩ := c0.def_ 0 (d := dd "_law_draw" s__law_draw) rfl
  have F__law_draw : FD K "_law_draw" s__law_draw (He.ga K "_law_draw") fd__law_draw := F__law_draw
  have m__law_draw := He.glo_ok X G (c0.fact 0 (f := .glo "_law_draw") rfl)
  have b__law_draw := FunD.bindsA (ps := ["hand", "below"]) F__law_draw fun _ _ _ _ _ _ us hl => match us, hl with | [_, _], _ => rfl
  obtain ⟨fd__law_hand, F__law_hand⟩ := c0.def_ 1 (d := dd "_law_hand" s__law_hand) rfl
  have F__law_hand : FD K "_law_hand" s__law_hand (He.ga K "_law_hand") fd__law_hand := F__law_hand
  have m__law_hand := He.glo_ok X G (c0.fact 1 (f := .glo "_law_hand") rfl)
  have b__law_hand := FunD.bindsA (ps := ["script"]) F__law_hand fun _ _ _ _ _ _ us hl => match us, hl with | [_], _ => rfl
  obtain ⟨fd_is_integer, F_is_integer⟩ := c0.def_ 2 (d := dd "is_integer" s_is_integer) rfl
  have F_is_integer : FD K "is_integer" s_is_integer (He.ga K "is_integer") fd_is_integer := F_is_integer
  have m_is_integer := He.glo_ok X G (c0.fact 2 (f := .glo "is_integer") rfl)
  have b_is_integer := FunD.bindsA (ps := ["thing"]) F_is_integer fun _ _ _ _ _ _ us hl => match us, hl with | [_], _ => rfl
  obtain ⟨fd_is_within, F_is_within⟩ := c0.def_ 3 (d := dd "is_within" s_is_within) rfl
  have F_is_within : FD K "is_within" s_is_within (He.ga K "is_within") fd_is_within := F_is_within
  have m_is_within := He.glo_ok X G (c0.fact 3 (f := .glo "is_within") rfl)
  have b_is_within := FunD.bindsA (ps := ["thing", "least", "most"]) F_is_within fun _ _ _ _ _ _ us hl => match us, hl with | [_, _, _], _ => rfl
  obtain ⟨fd_is_sign, F_is_sign⟩ := c0.def_ 4 (d := dd "is_sign" s_is_sign) rfl
  have F_is_sign : FD K "is_sign" s_is_sign (He.ga K "is_sign") fd_is_sign := F_is_sign
  have m_is_sign := He.glo_ok X G (c0.fact 4 (f := .glo "is_sign") rfl)
  have b_is_sign := FunD.bindsA (ps := ["sign"]) F_is_sign fun _ _ _ _ _ _ us hl => match us, hl with | [_], _ => rfl
  obtain ⟨fd_is_text, F_is_text⟩ := c0.def_ 5 (d := dd "is_text" s_is_text) rfl
  have F_is_text : FD K "is_text" s_is_text (He.ga K "is_text") fd_is_text := F_is_text
  have m_is_text := He.glo_ok X G (c0.fact 5 (f := .glo "is_text") rfl)
  have b_is_text := FunD.bindsA (ps := ["thing"]) F_is_text fun _ _ _ _ _ _ us hl => match us, hl with | [_], _ => rfl
  obtain ⟨fd_Book_raw_put, F_Book_raw_put⟩ := c0.def_ 6 (d := ⟨("Book", some "raw_put"), "raw_put", "Book.raw_put", defArgs s_Book_raw_put, defBody s_Book_raw_put, defScope s_Book_raw_put, [], []⟩) rfl
  have F_Book_raw_put : FunD K "raw_put" "Book.raw_put" (defArgs s_Book_raw_put) (defBody s_Book_raw_put) (defScope s_Book_raw_put) [] [] (He.ma K (He.ga K "Book") "raw_put") fd_Book_raw_put := F_Book_raw_put
  have b_Book_raw_put := FunD.bindsA (ps := ["self", "kind", "parts"]) F_Book_raw_put fun _ _ _ _ _ _ us hl => match us, hl with | [_, _, _], _ => rfl
  obtain ⟨fd_Book_fresh, F_Book_fresh⟩ := c0.def_ 7 (d := ⟨("Book", some "fresh"), "fresh", "Book.fresh", defArgs s_Book_fresh, defBody s_Book_fresh, defScope s_Book_fresh, [], []⟩) rfl
  have F_Book_fresh : FunD K "fresh" "Book.fresh" (defArgs s_Book_fresh) (defBody s_Book_fresh) (defScope s_Book_fresh) [] [] (He.ma K (He.ga K "Book") "fresh") fd_Book_fresh := F_Book_fresh
  have b_Book_fresh := FunD.bindsA (ps := ["self"]) F_Book_fresh fun _ _ _ _ _ _ us hl => match us, hl with | [_], _ => rfl
  obtain ⟨fd_Book_is_number, F_Book_is_number⟩ := c0.def_ 8 (d := ⟨("Book", some "is_number"), "is_number", "Book.is_number", defArgs s_Book_is_number, defBody s_Book_is_number, defScope s_Book_is_number, [], []⟩) rfl
  have F_Book_is_number : FunD K "is_number" "Book.is_number" (defArgs s_Book_is_number) (defBody s_Book_is_number) (defScope s_Book_is_number) [] [] (He.ma K (He.ga K "Book") "is_number") fd_Book_is_number := F_Book_is_number
  have b_Book_is_number := FunD.bindsA (ps := ["self", "thing"]) F_Book_is_number fun _ _ _ _ _ _ us hl => match us, hl with | [_, _], _ => rfl
  obtain ⟨fd_Book_raw_parts, F_Book_raw_parts⟩ := c0.def_ 9 (d := ⟨("Book", some "raw_parts"), "raw_parts", "Book.raw_parts", defArgs s_Book_raw_parts, defBody s_Book_raw_parts, defScope s_Book_raw_parts, [], []⟩) rfl
  have F_Book_raw_parts : FunD K "raw_parts" "Book.raw_parts" (defArgs s_Book_raw_parts) (defBody s_Book_raw_parts) (defScope s_Book_raw_parts) [] [] (He.ma K (He.ga K "Book") "raw_parts") fd_Book_raw_parts := F_Book_raw_parts
  have b_Book_raw_parts := FunD.bindsA (ps := ["self", "term"]) F_Book_raw_parts fun _ _ _ _ _ _ us hl => match us, hl with | [_, _], _ => rfl
  obtain ⟨fd_Book___init__, F_Book___init__⟩ := c0.def_ 10 (d := ⟨("Book", some "__init__"), "__init__", "Book.__init__", defArgs s_Book___init__, defBody s_Book___init__, defScope s_Book___init__, [], []⟩) rfl
  have F_Book___init__ : FunD K "__init__" "Book.__init__" (defArgs s_Book___init__) (defBody s_Book___init__) (defScope s_Book___init__) [] [] (He.ma K (He.ga K "Book") "__init__") fd_Book___init__ := F_Book___init__
  have b_Book___init__ := FunD.bindsA (ps := ["self"]) F_Book___init__ fun _ _ _ _ _ _ us hl => match us, hl with | [_], _ => rfl
  obtain ⟨fd_raw_empty, F_raw_empty⟩ := c0.def_ 11 (d := dd "raw_empty" s_raw_empty) rfl
  have F_raw_empty : FD K "raw_empty" s_raw_empty (He.ga K "raw_empty") fd_raw_empty := F_raw_empty
  have m_raw_empty := He.glo_ok X G (c0.fact 6 (f := .glo "raw_empty") rfl)
  have b_raw_empty := FunD.bindsA (ps := ["book"]) F_raw_empty fun _ _ _ _ _ _ us hl => match us, hl with | [_], _ => rfl
  obtain ⟨fd_raw_leaf, F_raw_leaf⟩ := c0.def_ 12 (d := dd "raw_leaf" s_raw_leaf) rfl
  have F_raw_leaf : FD K "raw_leaf" s_raw_leaf (He.ga K "raw_leaf") fd_raw_leaf := F_raw_leaf
  have m_raw_leaf := He.glo_ok X G (c0.fact 7 (f := .glo "raw_leaf") rfl)
  have b_raw_leaf := FunD.bindsA (ps := ["book", "term"]) F_raw_leaf fun _ _ _ _ _ _ us hl => match us, hl with | [_, _], _ => rfl
  obtain ⟨fd_raw_node, F_raw_node⟩ := c0.def_ 13 (d := dd "raw_node" s_raw_node) rfl
  have F_raw_node : FD K "raw_node" s_raw_node (He.ga K "raw_node") fd_raw_node := F_raw_node
  have m_raw_node := He.glo_ok X G (c0.fact 8 (f := .glo "raw_node") rfl)
  have b_raw_node := FunD.bindsA (ps := ["book", "one", "other"]) F_raw_node fun _ _ _ _ _ _ us hl => match us, hl with | [_, _, _], _ => rfl
  obtain ⟨fd_half_of, F_half_of⟩ := c0.def_ 14 (d := dd "half_of" s_half_of) rfl
  have F_half_of : FD K "half_of" s_half_of (He.ga K "half_of") fd_half_of := F_half_of
  have m_half_of := He.glo_ok X G (c0.fact 9 (f := .glo "half_of") rfl)
  have b_half_of := FunD.bindsA (ps := ["many"]) F_half_of fun _ _ _ _ _ _ us hl => match us, hl with | [_], _ => rfl
  obtain ⟨fd_is_count, F_is_count⟩ := c0.def_ 15 (d := dd "is_count" s_is_count) rfl
  have F_is_count : FD K "is_count" s_is_count (He.ga K "is_count") fd_is_count := F_is_count
  have m_is_count := He.glo_ok X G (c0.fact 10 (f := .glo "is_count") rfl)
  have b_is_count := FunD.bindsA (ps := ["thing"]) F_is_count fun _ _ _ _ _ _ us hl => match us, hl with | [_], _ => rfl
  obtain ⟨fd_there, F_there⟩ := c0.def_ 16 (d := dd "there" s_there) rfl
  have F_there : FD K "there" s_there (He.ga K "there") fd_there := F_there
  have m_there := He.glo_ok X G (c0.fact 11 (f := .glo "there") rfl)
  have b_there := FunD.bindsA (ps := ["book", "kind", "parts"]) F_there fun _ _ _ _ _ _ us hl => match us, hl with | [_, _, _], _ => rfl
  obtain ⟨fd_empty_there, F_empty_there⟩ := c0.def_ 17 (d := dd "empty_there" s_empty_there) rfl
  have F_empty_there : FD K "empty_there" s_empty_there (He.ga K "empty_there") fd_empty_there := F_empty_there
  have m_empty_there := He.glo_ok X G (c0.fact 12 (f := .glo "empty_there") rfl)
  have b_empty_there := FunD.bindsA (ps := ["book"]) F_empty_there fun _ _ _ _ _ _ us hl => match us, hl with | [_], _ => rfl
  obtain ⟨fd_node_there, F_node_there⟩ := c0.def_ 18 (d := dd "node_there" s_node_there) rfl
  have F_node_there : FD K "node_there" s_node_there (He.ga K "node_there") fd_node_there := F_node_there
  have m_node_there := He.glo_ok X G (c0.fact 13 (f := .glo "node_there") rfl)
  have b_node_there := FunD.bindsA (ps := ["book", "one", "other"]) F_node_there fun _ _ _ _ _ _ us hl => match us, hl with | [_, _, _], _ => rfl
  obtain ⟨fd_pieces, F_pieces⟩ := c0.def_ 19 (d := dd "pieces" s_pieces) rfl
  have F_pieces : FD K "pieces" s_pieces (He.ga K "pieces") fd_pieces := F_pieces
  have m_pieces := He.glo_ok X G (c0.fact 14 (f := .glo "pieces") rfl)
  have b_pieces := FunD.bindsA (ps := ["m", "n"]) F_pieces fun _ _ _ _ _ _ us hl => match us, hl with | [_, _], _ => rfl
  obtain ⟨fd_Heads___init__, F_Heads___init__⟩ := c0.def_ 20 (d := ⟨("Heads", some "__init__"), "__init__", "Heads.__init__", defArgs s_Heads___init__, defBody s_Heads___init__, defScope s_Heads___init__, [], []⟩) rfl
  have F_Heads___init__ : FunD K "__init__" "Heads.__init__" (defArgs s_Heads___init__) (defBody s_Heads___init__) (defScope s_Heads___init__) [] [] (He.ma K (He.ga K "Heads") "__init__") fd_Heads___init__ := F_Heads___init__
  have b_Heads___init__ := FunD.bindsA (ps := ["self", "book", "rows"]) F_Heads___init__ fun _ _ _ _ _ _ us hl => match us, hl with | [_, _, _], _ => rfl
  obtain ⟨fd_Heads_of, F_Heads_of⟩ := c0.def_ 21 (d := ⟨("Heads", some "of"), "of", "Heads.of", defArgs s_Heads_of, defBody s_Heads_of, defScope s_Heads_of, [], []⟩) rfl
  have F_Heads_of : FunD K "of" "Heads.of" (defArgs s_Heads_of) (defBody s_Heads_of) (defScope s_Heads_of) [] [] (He.ma K (He.ga K "Heads") "of") fd_Heads_of := F_Heads_of
  have b_Heads_of := FunD.bindsA (ps := ["self", "low", "high"]) F_Heads_of fun _ _ _ _ _ _ us hl => match us, hl with | [_, _, _], _ => rfl
  obtain ⟨fd_Heads_fresh_one, F_Heads_fresh_one⟩ := c0.def_ 22 (d := ⟨("Heads", some "fresh_one"), "fresh_one", "Heads.fresh_one", defArgs s_Heads_fresh_one, defBody s_Heads_fresh_one, defScope s_Heads_fresh_one, [], []⟩) rfl
  have F_Heads_fresh_one : FunD K "fresh_one" "Heads.fresh_one" (defArgs s_Heads_fresh_one) (defBody s_Heads_fresh_one) (defScope s_Heads_fresh_one) [] [] (He.ma K (He.ga K "Heads") "fresh_one") fd_Heads_fresh_one := F_Heads_fresh_one
  have b_Heads_fresh_one := FunD.bindsA (ps := ["self", "low", "high"]) F_Heads_fresh_one fun _ _ _ _ _ _ us hl => match us, hl with | [_, _, _], _ => rfl
  obtain ⟨fd_joined, F_joined⟩ := c0.def_ 23 (d := dd "joined" s_joined) rfl
  have F_joined : FD K "joined" s_joined (He.ga K "joined") fd_joined := F_joined
  have m_joined := He.glo_ok X G (c0.fact 15 (f := .glo "joined") rfl)
  have b_joined := FunD.bindsA (ps := ["book", "heads", "low", "high"]) F_joined fun _ _ _ _ _ _ us hl => match us, hl with | [_, _, _, _], _ => rfl
  obtain ⟨fd_is_grown, F_is_grown⟩ := c0.def_ 24 (d := dd "is_grown" s_is_grown) rfl
  have F_is_grown : FD K "is_grown" s_is_grown (He.ga K "is_grown") fd_is_grown := F_is_grown
  have m_is_grown := He.glo_ok X G (c0.fact 16 (f := .glo "is_grown") rfl)
  have b_is_grown := FunD.bindsA (ps := ["book", "m", "one", "n", "other", "thing"]) F_is_grown fun _ _ _ _ _ _ us hl => match us, hl with | [_, _, _, _, _, _], _ => rfl
  obtain ⟨fd_are_liars, F_are_liars⟩ := c0.def_ 25 (d := dd "are_liars" s_are_liars) rfl
  have F_are_liars : FD K "are_liars" s_are_liars (He.ga K "are_liars") fd_are_liars := F_are_liars
  have m_are_liars := He.glo_ok X G (c0.fact 17 (f := .glo "are_liars") rfl)
  have b_are_liars := FunD.bindsA (ps := ["thing", "many"]) F_are_liars fun _ _ _ _ _ _ us hl => match us, hl with | [_, _], _ => rfl
  obtain ⟨fd_Statement___init__, F_Statement___init__⟩ := c0.def_ 26 (d := ⟨("Statement", some "__init__"), "__init__", "Statement.__init__", defArgs s_Statement___init__, defBody s_Statement___init__, defScope s_Statement___init__, [], []⟩) rfl
  have F_Statement___init__ : FunD K "__init__" "Statement.__init__" (defArgs s_Statement___init__) (defBody s_Statement___init__) (defScope s_Statement___init__) [] [] (He.ma K (He.ga K "Statement") "__init__") fd_Statement___init__ := F_Statement___init__
  have b_Statement___init__ := FunD.bindsA (ps := ["self", "rows", "head", "mark"]) F_Statement___init__ fun _ _ _ _ _ _ us hl => match us, hl with | [_, _, _, _], _ => rfl
  obtain ⟨fd_Watch___init__, F_Watch___init__⟩ := c0.def_ 27 (d := ⟨("Watch", some "__init__"), "__init__", "Watch.__init__", defArgs s_Watch___init__, defBody s_Watch___init__, defScope s_Watch___init__, [], []⟩) rfl
  have F_Watch___init__ : FunD K "__init__" "Watch.__init__" (defArgs s_Watch___init__) (defBody s_Watch___init__) (defScope s_Watch___init__) [] [] (He.ma K (He.ga K "Watch") "__init__") fd_Watch___init__ := F_Watch___init__
  have b_Watch___init__ := FunD.bindsA (ps := ["self", "many", "liars", "is_liar"]) F_Watch___init__ fun _ _ _ _ _ _ us hl => match us, hl with | [_, _, _, _], _ => rfl
  obtain ⟨fd_Watch_check_log, F_Watch_check_log⟩ := c0.def_ 28 (d := ⟨("Watch", some "check_log"), "check_log", "Watch.check_log", defArgs s_Watch_check_log, defBody s_Watch_check_log, defScope s_Watch_check_log, [], []⟩) rfl
  have F_Watch_check_log : FunD K "check_log" "Watch.check_log" (defArgs s_Watch_check_log) (defBody s_Watch_check_log) (defScope s_Watch_check_log) [] [] (He.ma K (He.ga K "Watch") "check_log") fd_Watch_check_log := F_Watch_check_log
  have b_Watch_check_log := FunD.bindsA (ps := ["self", "log"]) F_Watch_check_log fun _ _ _ _ _ _ us hl => match us, hl with | [_, _], _ => rfl
  obtain ⟨fd_Watch_check_statement, F_Watch_check_statement⟩ := c0.def_ 29 (d := ⟨("Watch", some "check_statement"), "check_statement", "Watch.check_statement", defArgs s_Watch_check_statement, defBody s_Watch_check_statement, defScope s_Watch_check_statement, [], []⟩) rfl
  have F_Watch_check_statement : FunD K "check_statement" "Watch.check_statement" (defArgs s_Watch_check_statement) (defBody s_Watch_check_statement) (defScope s_Watch_check_statement) [] [] (He.ma K (He.ga K "Watch") "check_statement") fd_Watch_check_statement := F_Watch_check_statement
  have b_Watch_check_statement := FunD.bindsA (ps := ["self", "statement"]) F_Watch_check_statement fun _ _ _ _ _ _ us hl => match us, hl with | [_, _], _ => rfl
  obtain ⟨fd_Watch_check_witness, F_Watch_check_witness⟩ := c0.def_ 30 (d := ⟨("Watch", some "check_witness"), "check_witness", "Watch.check_witness", defArgs s_Watch_check_witness, defBody s_Watch_check_witness, defScope s_Watch_check_witness, [], []⟩) rfl
  have F_Watch_check_witness : FunD K "check_witness" "Watch.check_witness" (defArgs s_Watch_check_witness) (defBody s_Watch_check_witness) (defScope s_Watch_check_witness) [] [] (He.ma K (He.ga K "Watch") "check_witness") fd_Watch_check_witness := F_Watch_check_witness
  have b_Watch_check_witness := FunD.bindsA (ps := ["self", "witness"]) F_Watch_check_witness fun _ _ _ _ _ _ us hl => match us, hl with | [_, _], _ => rfl
  obtain ⟨fd_Watch_check_client, F_Watch_check_client⟩ := c0.def_ 31 (d := ⟨("Watch", some "check_client"), "check_client", "Watch.check_client", defArgs s_Watch_check_client, defBody s_Watch_check_client, defScope s_Watch_check_client, [], []⟩) rfl
  have F_Watch_check_client : FunD K "check_client" "Watch.check_client" (defArgs s_Watch_check_client) (defBody s_Watch_check_client) (defScope s_Watch_check_client) [] [] (He.ma K (He.ga K "Watch") "check_client") fd_Watch_check_client := F_Watch_check_client
  have b_Watch_check_client := FunD.bindsA (ps := ["self", "client"]) F_Watch_check_client fun _ _ _ _ _ _ us hl => match us, hl with | [_, _], _ => rfl
  obtain ⟨fd_Watch_signed, F_Watch_signed⟩ := c0.def_ 32 (d := ⟨("Watch", some "signed"), "signed", "Watch.signed", defArgs s_Watch_signed, defBody s_Watch_signed, defScope s_Watch_signed, [], []⟩) rfl
  have F_Watch_signed : FunD K "signed" "Watch.signed" (defArgs s_Watch_signed) (defBody s_Watch_signed) (defScope s_Watch_signed) [] [] (He.ma K (He.ga K "Watch") "signed") fd_Watch_signed := F_Watch_signed
  have b_Watch_signed := FunD.bindsA (ps := ["self", "witness"]) F_Watch_signed fun _ _ _ _ _ _ us hl => match us, hl with | [_, _], _ => rfl
  obtain ⟨fd_Watch_accepted, F_Watch_accepted⟩ := c0.def_ 33 (d := ⟨("Watch", some "accepted"), "accepted", "Watch.accepted", defArgs s_Watch_accepted, defBody s_Watch_accepted, defScope s_Watch_accepted, [], []⟩) rfl
  have F_Watch_accepted : FunD K "accepted" "Watch.accepted" (defArgs s_Watch_accepted) (defBody s_Watch_accepted) (defScope s_Watch_accepted) [] [] (He.ma K (He.ga K "Watch") "accepted") fd_Watch_accepted := F_Watch_accepted
  have b_Watch_accepted := FunD.bindsA (ps := ["self", "client"]) F_Watch_accepted fun _ _ _ _ _ _ us hl => match us, hl with | [_, _], _ => rfl
  obtain ⟨fd_Watch_entries, F_Watch_entries⟩ := c0.def_ 34 (d := ⟨("Watch", some "entries"), "entries", "Watch.entries", defArgs s_Watch_entries, defBody s_Watch_entries, defScope s_Watch_entries, [], []⟩) rfl
  have F_Watch_entries : FunD K "entries" "Watch.entries" (defArgs s_Watch_entries) (defBody s_Watch_entries) (defScope s_Watch_entries) [] [] (He.ma K (He.ga K "Watch") "entries") fd_Watch_entries := F_Watch_entries
  have b_Watch_entries := FunD.bindsA (ps := ["self", "statement"]) F_Watch_entries fun _ _ _ _ _ _ us hl => match us, hl with | [_, _], _ => rfl
  obtain ⟨fd_Watch_add, F_Watch_add⟩ := c0.def_ 35 (d := ⟨("Watch", some "add"), "add", "Watch.add", defArgs s_Watch_add, defBody s_Watch_add, defScope s_Watch_add, [], []⟩) rfl
  have F_Watch_add : FunD K "add" "Watch.add" (defArgs s_Watch_add) (defBody s_Watch_add) (defScope s_Watch_add) [] [] (He.ma K (He.ga K "Watch") "add") fd_Watch_add := F_Watch_add
  have b_Watch_add := FunD.bindsA (ps := ["self", "log", "text"]) F_Watch_add fun _ _ _ _ _ _ us hl => match us, hl with | [_, _, _], _ => rfl
  obtain ⟨fd_Watch_branch, F_Watch_branch⟩ := c0.def_ 36 (d := ⟨("Watch", some "branch"), "branch", "Watch.branch", defArgs s_Watch_branch, defBody s_Watch_branch, defScope s_Watch_branch, [], []⟩) rfl
  have F_Watch_branch : FunD K "branch" "Watch.branch" (defArgs s_Watch_branch) (defBody s_Watch_branch) (defScope s_Watch_branch) [] [] (He.ma K (He.ga K "Watch") "branch") fd_Watch_branch := F_Watch_branch
  have b_Watch_branch := FunD.bindsA (ps := ["self", "log", "n"]) F_Watch_branch fun _ _ _ _ _ _ us hl => match us, hl with | [_, _, _], _ => rfl
  obtain ⟨fd_Watch_sign, F_Watch_sign⟩ := c0.def_ 37 (d := ⟨("Watch", some "sign"), "sign", "Watch.sign", defArgs s_Watch_sign, defBody s_Watch_sign, defScope s_Watch_sign, [], []⟩) rfl
  have F_Watch_sign : FunD K "sign" "Watch.sign" (defArgs s_Watch_sign) (defBody s_Watch_sign) (defScope s_Watch_sign) [] [] (He.ma K (He.ga K "Watch") "sign") fd_Watch_sign := F_Watch_sign
  have b_Watch_sign := FunD.bindsA (ps := ["self", "log"]) F_Watch_sign fun _ _ _ _ _ _ us hl => match us, hl with | [_, _], _ => rfl
  obtain ⟨fd_Watch_goes_on, F_Watch_goes_on⟩ := c0.def_ 38 (d := ⟨("Watch", some "goes_on"), "goes_on", "Watch.goes_on", defArgs s_Watch_goes_on, defBody s_Watch_goes_on, defScope s_Watch_goes_on, [], []⟩) rfl
  have F_Watch_goes_on : FunD K "goes_on" "Watch.goes_on" (defArgs s_Watch_goes_on) (defBody s_Watch_goes_on) (defScope s_Watch_goes_on) [] [] (He.ma K (He.ga K "Watch") "goes_on") fd_Watch_goes_on := F_Watch_goes_on
  have b_Watch_goes_on := FunD.bindsA (ps := ["self", "last", "statement"]) F_Watch_goes_on fun _ _ _ _ _ _ us hl => match us, hl with | [_, _, _], _ => rfl
  obtain ⟨fd_Watch_show, F_Watch_show⟩ := c0.def_ 39 (d := ⟨("Watch", some "show"), "show", "Watch.show", defArgs s_Watch_show, defBody s_Watch_show, defScope s_Watch_show, [], []⟩) rfl
  have F_Watch_show : FunD K "show" "Watch.show" (defArgs s_Watch_show) (defBody s_Watch_show) (defScope s_Watch_show) [] [] (He.ma K (He.ga K "Watch") "show") fd_Watch_show := F_Watch_show
  have b_Watch_show := FunD.bindsA (ps := ["self", "statement", "witness"]) F_Watch_show fun _ _ _ _ _ _ us hl => match us, hl with | [_, _, _], _ => rfl
  obtain ⟨fd_Watch_accept, F_Watch_accept⟩ := c0.def_ 40 (d := ⟨("Watch", some "accept"), "accept", "Watch.accept", defArgs s_Watch_accept, defBody s_Watch_accept, defScope s_Watch_accept, [], []⟩) rfl
  have F_Watch_accept : FunD K "accept" "Watch.accept" (defArgs s_Watch_accept) (defBody s_Watch_accept) (defScope s_Watch_accept) [] [] (He.ma K (He.ga K "Watch") "accept") fd_Watch_accept := F_Watch_accept
  have b_Watch_accept := FunD.bindsA (ps := ["self", "client", "statement"]) F_Watch_accept fun _ _ _ _ _ _ us hl => match us, hl with | [_, _, _], _ => rfl
  obtain ⟨fd__law_any, F__law_any⟩ := c0.def_ 41 (d := dd "_law_any" s__law_any) rfl
  have F__law_any : FD K "_law_any" s__law_any (He.ga K "_law_any") fd__law_any := F__law_any
  have m__law_any := He.glo_ok X G (c0.fact 18 (f := .glo "_law_any") rfl)
  have b__law_any := FunD.bindsA (ps := ["hand", "some"]) F__law_any fun _ _ _ _ _ _ us hl => match us, hl with | [_, _], _ => rfl
  obtain ⟨fd__law_mixed, F__law_mixed⟩ := c0.def_ 42 (d := dd "_law_mixed" s__law_mixed) rfl
  have F__law_mixed : FD K "_law_mixed" s__law_mixed (He.ga K "_law_mixed") fd__law_mixed := F__law_mixed
  have m__law_mixed := He.glo_ok X G (c0.fact 19 (f := .glo "_law_mixed") rfl)
  have b__law_mixed := FunD.bindsA (ps := ["hand", "things"]) F__law_mixed fun _ _ _ _ _ _ us hl => match us, hl with | [_, _], _ => rfl
  obtain ⟨fd__law_text, F__law_text⟩ := c0.def_ 43 (d := dd "_law_text" s__law_text) rfl
  have F__law_text : FD K "_law_text" s__law_text (He.ga K "_law_text") fd__law_text := F__law_text
  have m__law_text := He.glo_ok X G (c0.fact 20 (f := .glo "_law_text") rfl)
  have b__law_text := FunD.bindsA (ps := ["hand"]) F__law_text fun _ _ _ _ _ _ us hl => match us, hl with | [_], _ => rfl
  obtain ⟨fd__law_begins, F__law_begins⟩ := c0.def_ 44 (d := dd "_law_begins" s__law_begins) rfl
  have F__law_begins : FD K "_law_begins" s__law_begins (He.ga K "_law_begins") fd__law_begins := F__law_begins
  have m__law_begins := He.glo_ok X G (c0.fact 21 (f := .glo "_law_begins") rfl)
  have b__law_begins := FunD.bindsA (ps := ["longer", "one"]) F__law_begins fun _ _ _ _ _ _ us hl => match us, hl with | [_, _], _ => rfl
  obtain ⟨fd__law_does_sign, F__law_does_sign⟩ := c0.def_ 45 (d := dd "_law_does_sign" s__law_does_sign) rfl
  have F__law_does_sign : FD K "_law_does_sign" s__law_does_sign (He.ga K "_law_does_sign") fd__law_does_sign := F__law_does_sign
  have m__law_does_sign := He.glo_ok X G (c0.fact 22 (f := .glo "_law_does_sign") rfl)
  have b__law_does_sign := FunD.bindsA (ps := ["its", "number", "witness"]) F__law_does_sign fun _ _ _ _ _ _ us hl => match us, hl with | [_, _, _], _ => rfl
  obtain ⟨fd__law_does_accept, F__law_does_accept⟩ := c0.def_ 46 (d := dd "_law_does_accept" s__law_does_accept) rfl
  have F__law_does_accept : FD K "_law_does_accept" s__law_does_accept (He.ga K "_law_does_accept") fd__law_does_accept := F__law_does_accept
  have m__law_does_accept := He.glo_ok X G (c0.fact 23 (f := .glo "_law_does_accept") rfl)
  have b__law_does_accept := FunD.bindsA (ps := ["its", "number", "client"]) F__law_does_accept fun _ _ _ _ _ _ us hl => match us, hl with | [_, _, _], _ => rfl
  obtain ⟨fd__law_deed, F__law_deed⟩ := c0.def_ 47 (d := dd "_law_deed" s__law_deed) rfl
  have F__law_deed : FD K "_law_deed" s__law_deed (He.ga K "_law_deed") fd__law_deed := F__law_deed
  have m__law_deed := He.glo_ok X G (c0.fact 24 (f := .glo "_law_deed") rfl)
  have b__law_deed := FunD.bindsA (ps := ["hand", "watch", "its"]) F__law_deed fun _ _ _ _ _ _ us hl => match us, hl with | [_, _, _], _ => rfl
  obtain ⟨fd__law_stands, F__law_stands⟩ := c0.def_ 48 (d := dd "_law_stands" s__law_stands) rfl
  have F__law_stands : FD K "_law_stands" s__law_stands (He.ga K "_law_stands") fd__law_stands := F__law_stands
  have m__law_stands := He.glo_ok X G (c0.fact 25 (f := .glo "_law_stands") rfl)
  have b__law_stands := FunD.bindsA (ps := ["watch", "its"]) F__law_stands fun _ _ _ _ _ _ us hl => match us, hl with | [_, _], _ => rfl
  obtain ⟨fd__law_known_right, F__law_known_right⟩ := c0.def_ 49 (d := dd "_law_known_right" s__law_known_right) rfl
  have F__law_known_right : FD K "_law_known_right" s__law_known_right (He.ga K "_law_known_right") fd__law_known_right := F__law_known_right
  have m__law_known_right := He.glo_ok X G (c0.fact 26 (f := .glo "_law_known_right") rfl)
  have b__law_known_right := FunD.bindsA (ps := []) F__law_known_right fun _ _ _ _ _ _ us hl => match us, hl with | [], _ => rfl
  obtain ⟨fd__law_world, F__law_world⟩ := c0.def_ 50 (d := dd "_law_world" s__law_world) rfl
  have F__law_world : FD K "_law_world" s__law_world (He.ga K "_law_world") fd__law_world := F__law_world
  have m__law_world := He.glo_ok X G (c0.fact 27 (f := .glo "_law_world") rfl)
  have b__law_world := FunD.bindsA (ps := ["hand"]) F__law_world fun _ _ _ _ _ _ us hl => match us, hl with | [_], _ => rfl
  obtain ⟨fd_law, F_law⟩ := c0.def_ 51 (d := dd "law" s_law) rfl
  have F_law : FD K "law" s_law (He.ga K "law") fd_law := F_law
  have m_law := He.glo_ok X G (c0.fact 28 (f := .glo "law") rfl)
  have b_law := FunD.bindsA (ps := ["script"]) F_law fun _ _ _ _ _ _ us hl => match us, hl with | [_], _ => rfl
  have e := hfa.symm.trans m_law
  cases e
  refine ⟨fd_law, fun s v => b_law s [v] rfl, fun base _ _ => ?_⟩
  have cB : ClB K (He.ga K "Book") := ⟨cls_Book, no_Book_records, no_Book_places, no_Book_freshes⟩
  have cH : ClH K (He.ga K "Heads") := ⟨cls_Heads, no_Heads_book, no_Heads_rows, no_Heads_known⟩
  have cS : ClS K (He.ga K "Statement") := ⟨cls_Statement, no_Statement_rows, no_Statement_top, no_Statement_mark⟩
  have cW : ClW K (He.ga K "Watch") := ⟨cls_Watch, no_Watch_witness_count, no_Watch_liars, no_Watch_is_liar, no_Watch_pages, no_Watch_key, no_Watch_witness_keys, no_Watch_rows, no_Watch_statements, no_Watch_signs, no_Watch_taken⟩
  have cBadWatch : Er PP K mg "BadWatch" (He.ga K "BadWatch") := ⟨bad_BadWatch, g_BadWatch, T.super, r1_BadWatch, r2_BadWatch⟩
  have f__law_draw := df_of F__law_draw m__law_draw (ok_law_draw (w := w) (base := base) T  F__law_draw) b__law_draw
  have f__law_hand := df_of F__law_hand m__law_hand (ok_hand (w := w) (base := base) T  F__law_hand) b__law_hand
  have f_is_integer := df_of F_is_integer m_is_integer (ok_is_integer (W := RW) (w := w) (base := base) T  F_is_integer) b_is_integer
  have f_is_within := df_of F_is_within m_is_within (ok_is_within (W := RW) (w := w) (base := base) T f_is_integer F_is_within) b_is_within
  have f_is_sign := df_of F_is_sign m_is_sign (ok_is_sign (w := w) (base := base) T  F_is_sign) b_is_sign
  have f_is_text := df_of F_is_text m_is_text (ok_is_text (w := w) (base := base) T f_is_sign F_is_text) b_is_text
  have q_Book_raw_put : Cf PP w K mg base 1 (He.ga K "Book") "raw_put" _ := ⟨⟨_, _, _, (ok_raw_put (w := w) (base := base) T cB F_Book_raw_put), ⟨me_Book_raw_put.1, me_Book_raw_put.2, F_Book_raw_put.kp⟩, binds_of b_Book_raw_put⟩, cls_Book⟩
  have q_Book_fresh : Cf PP w K mg base 2 (He.ga K "Book") "fresh" _ := ⟨⟨_, _, _, (ok_fresh (w := w) (base := base) T cB q_Book_raw_put F_Book_fresh), ⟨me_Book_fresh.1, me_Book_fresh.2, F_Book_fresh.kp⟩, binds_of b_Book_fresh⟩, cls_Book⟩
  have q_Book_is_number : Cf PP w K mg base 3 (He.ga K "Book") "is_number" _ := ⟨⟨_, _, _, (ok_is_number (w := w) (base := base) T cB f_is_within F_Book_is_number), ⟨me_Book_is_number.1, me_Book_is_number.2, F_Book_is_number.kp⟩, binds_of b_Book_is_number⟩, cls_Book⟩
  have q_Book_raw_parts : Cf PP w K mg base 1 (He.ga K "Book") "raw_parts" _ := ⟨⟨_, _, _, (ok_raw_parts (w := w) (base := base) T cB F_Book_raw_parts), ⟨me_Book_raw_parts.1, me_Book_raw_parts.2, F_Book_raw_parts.kp⟩, binds_of b_Book_raw_parts⟩, cls_Book⟩
  have kBook := Cm.mk (P := PP) ⟨_, _, _, mk_Book, (ok_Book_init (w := w) (base := base) T cB F_Book___init__), binds_of b_Book___init__⟩ g_Book
  have f_raw_empty := df_of F_raw_empty m_raw_empty (ok_raw_empty (w := w) (base := base) T q_Book_raw_put F_raw_empty) b_raw_empty
  have f_raw_leaf := df_of F_raw_leaf m_raw_leaf (ok_raw_leaf (w := w) (base := base) T q_Book_raw_put F_raw_leaf) b_raw_leaf
  have f_raw_node := df_of F_raw_node m_raw_node (ok_raw_node (w := w) (base := base) T q_Book_raw_put F_raw_node) b_raw_node
  have f_half_of := df_of F_half_of m_half_of (ok_half_of (W := RW) (w := w) (base := base) T  F_half_of) b_half_of
  have f_is_count := df_of F_is_count m_is_count (ok_is_count (W := RW) (w := w) (base := base) T f_is_integer F_is_count) b_is_count
  have f_there := df_of F_there m_there (ok_there (w := w) (base := base) T cB F_there) b_there
  have f_empty_there := df_of F_empty_there m_empty_there (ok_empty_there (w := w) (base := base) T f_there F_empty_there) b_empty_there
  have f_node_there := df_of F_node_there m_node_there (ok_node_there (w := w) (base := base) T f_there F_node_there) b_node_there
  have f_pieces := df_of F_pieces m_pieces (ok_pieces (W := RW) (w := w) (base := base) T f_half_of F_pieces) b_pieces
  have kHeads := Cm.mk (P := PP) ⟨_, _, _, mk_Heads, (ok_Heads_init (w := w) (base := base) T cH F_Heads___init__), binds_of b_Heads___init__⟩ g_Heads
  have rec_heads : ∀ n, Cf PP w K mg base (2 * n + 3) (He.ga K "Heads") "of" (spX RW (wfHO PP w (He.ga K "Book") (He.ga K "Heads") n)) := fun n => by
    induction n with
    | zero => exact ⟨⟨_, _, _, (bot fun ds s k x h => by
        unfold wfHO at h
        split at h
        · obtain ⟨_, _, _, _, _, _, _, _, _, _, _, _, _, _, _, h, _⟩ := h
          omega
        · exact h), ⟨me_Heads_of.1, me_Heads_of.2, F_Heads_of.kp⟩, binds_of b_Heads_of⟩, cls_Heads⟩
    | succ n ih =>
      have q_fresh : Cf PP w K mg base (2 * n + 4) (He.ga K "Heads") "fresh_one" (spX RW (wfHF PP w (He.ga K "Book") (He.ga K "Heads") n)) := ⟨⟨_, _, _, (ok_fresh_one (n := n) (lv := 2 * n) (w := w) (base := base) T cH f_raw_leaf f_half_of f_raw_node ih F_Heads_fresh_one), ⟨me_Heads_fresh_one.1, me_Heads_fresh_one.2, F_Heads_fresh_one.kp⟩, binds_of b_Heads_fresh_one⟩, cls_Heads⟩
      exact ⟨⟨_, _, _, (ok_of (n := n) (lv := 2 * n) (w := w) (base := base) T cH f_raw_empty q_fresh F_Heads_of), ⟨me_Heads_of.1, me_Heads_of.2, F_Heads_of.kp⟩, binds_of b_Heads_of⟩, cls_Heads⟩
  have q_Heads_of := rec_heads 7
  have rec_joined : ∀ n, Df PP w K mg base (n + 3) "joined" (spX RW (wfJ PP w (He.ga K "Book") n)) := fun n => by
    induction n with
    | zero => exact df_of F_joined m_joined (bot fun ds s k x h => by
        unfold wfJ at h
        split at h
        · obtain ⟨_, _, _, _, _, _, _, _, _, _, _, h, _⟩ := h
          omega
        · exact h) b_joined
    | succ n ih => exact df_of F_joined m_joined (ok_joined (n := n) (w := w) (base := base) T f_half_of f_node_there ih F_joined) b_joined
  have f_joined := rec_joined 7
  have f_is_grown := df_of F_is_grown m_is_grown (ok_is_grown (w := w) (base := base) T f_is_count f_is_within q_Book_is_number f_pieces f_joined f_empty_there F_is_grown) b_is_grown
  have f_are_liars := df_of F_are_liars m_are_liars (ok_are_liars (w := w) (base := base) T f_is_within F_are_liars) b_are_liars
  have kStatement := Cm.mk (P := PP) ⟨_, _, _, mk_Statement, (ok_Statement_init (w := w) (base := base) T cS F_Statement___init__), binds_of b_Statement___init__⟩ g_Statement
  have kWatch := Cm.mk (P := PP) ⟨_, _, _, mk_Watch, (ok_Watch_init (w := w) (base := base) T (CS := He.ga K "Statement") cW cB cBadWatch f_is_within f_are_liars kBook q_Book_fresh F_Watch___init__), binds_of b_Watch___init__⟩ g_Watch
  have q_Watch_check_log : Cf PP w K mg base 3 (He.ga K "Watch") "check_log" _ := ⟨⟨_, _, _, (ok_check_log (w := w) (base := base) T (CB := He.ga K "Book") (CS := He.ga K "Statement") cW r_NoLog f_is_within F_Watch_check_log), ⟨me_Watch_check_log.1, me_Watch_check_log.2, F_Watch_check_log.kp⟩, binds_of b_Watch_check_log⟩, cls_Watch⟩
  have q_Watch_check_statement : Cf PP w K mg base 3 (He.ga K "Watch") "check_statement" _ := ⟨⟨_, _, _, (ok_check_statement (w := w) (base := base) T (CB := He.ga K "Book") (CS := He.ga K "Statement") cW r_NoStatement f_is_within F_Watch_check_statement), ⟨me_Watch_check_statement.1, me_Watch_check_statement.2, F_Watch_check_statement.kp⟩, binds_of b_Watch_check_statement⟩, cls_Watch⟩
  have q_Watch_check_witness : Cf PP w K mg base 3 (He.ga K "Watch") "check_witness" _ := ⟨⟨_, _, _, (ok_check_witness (w := w) (base := base) T (CB := He.ga K "Book") (CS := He.ga K "Statement") cW r_NoWitness f_is_within F_Watch_check_witness), ⟨me_Watch_check_witness.1, me_Watch_check_witness.2, F_Watch_check_witness.kp⟩, binds_of b_Watch_check_witness⟩, cls_Watch⟩
  have q_Watch_check_client : Cf PP w K mg base 3 (He.ga K "Watch") "check_client" _ := ⟨⟨_, _, _, (ok_check_client (w := w) (base := base) T (CB := He.ga K "Book") (CS := He.ga K "Statement") cW r_NoClient f_is_within F_Watch_check_client), ⟨me_Watch_check_client.1, me_Watch_check_client.2, F_Watch_check_client.kp⟩, binds_of b_Watch_check_client⟩, cls_Watch⟩
  have q_Watch_signed : Cf PP w K mg base 4 (He.ga K "Watch") "signed" _ := ⟨⟨_, _, _, (ok_signed (w := w) (base := base) T cW q_Watch_check_witness F_Watch_signed), ⟨me_Watch_signed.1, me_Watch_signed.2, F_Watch_signed.kp⟩, binds_of b_Watch_signed⟩, cls_Watch⟩
  have q_Watch_accepted : Cf PP w K mg base 4 (He.ga K "Watch") "accepted" _ := ⟨⟨_, _, _, (ok_accepted (w := w) (base := base) T cW q_Watch_check_client F_Watch_accepted), ⟨me_Watch_accepted.1, me_Watch_accepted.2, F_Watch_accepted.kp⟩, binds_of b_Watch_accepted⟩, cls_Watch⟩
  have q_Watch_entries : Cf PP w K mg base 4 (He.ga K "Watch") "entries" _ := ⟨⟨_, _, _, (ok_entries (w := w) (base := base) T cW cS q_Watch_check_statement q_Book_raw_parts F_Watch_entries), ⟨me_Watch_entries.1, me_Watch_entries.2, F_Watch_entries.kp⟩, binds_of b_Watch_entries⟩, cls_Watch⟩
  have q_Watch_add : Cf PP w K mg base 4 (He.ga K "Watch") "add" _ := ⟨⟨_, _, _, (ok_add (w := w) (base := base) T cW r_NoText q_Watch_check_log f_is_text q_Book_raw_put F_Watch_add), ⟨me_Watch_add.1, me_Watch_add.2, F_Watch_add.kp⟩, binds_of b_Watch_add⟩, cls_Watch⟩
  have q_Watch_branch : Cf PP w K mg base 4 (He.ga K "Watch") "branch" _ := ⟨⟨_, _, _, (ok_branch (w := w) (base := base) T cW r_NoSize r_NotLiar q_Watch_check_log f_is_within F_Watch_branch), ⟨me_Watch_branch.1, me_Watch_branch.2, F_Watch_branch.kp⟩, binds_of b_Watch_branch⟩, cls_Watch⟩
  have q_Watch_sign : Cf PP w K mg base 18 (He.ga K "Watch") "sign" _ := ⟨⟨_, _, _, (ok_sign (w := w) (base := base) T cW q_Watch_check_log q_Book_raw_put kHeads kStatement q_Heads_of F_Watch_sign), ⟨me_Watch_sign.1, me_Watch_sign.2, F_Watch_sign.kp⟩, binds_of b_Watch_sign⟩, cls_Watch⟩
  have q_Watch_goes_on : Cf PP w K mg base 18 (He.ga K "Watch") "goes_on" _ := ⟨⟨_, _, _, (ok_goes_on (w := w) (base := base) T cW cS f_pieces kHeads q_Heads_of f_is_grown F_Watch_goes_on), ⟨me_Watch_goes_on.1, me_Watch_goes_on.2, F_Watch_goes_on.kp⟩, binds_of b_Watch_goes_on⟩, cls_Watch⟩
  have q_Watch_show : Cf PP w K mg base 19 (He.ga K "Watch") "show" _ := ⟨⟨_, _, _, (ok_show (w := w) (base := base) T cW cS q_Watch_check_statement q_Watch_check_witness q_Watch_goes_on q_Book_raw_put F_Watch_show), ⟨me_Watch_show.1, me_Watch_show.2, F_Watch_show.kp⟩, binds_of b_Watch_show⟩, cls_Watch⟩
  have q_Watch_accept : Cf PP w K mg base 19 (He.ga K "Watch") "accept" _ := ⟨⟨_, _, _, (ok_accept (w := w) (base := base) T cW q_Watch_check_client q_Watch_check_statement q_Watch_goes_on F_Watch_accept), ⟨me_Watch_accept.1, me_Watch_accept.2, F_Watch_accept.kp⟩, binds_of b_Watch_accept⟩, cls_Watch⟩
  have f__law_any := df_of F__law_any m__law_any (ok_any (w := w) (base := base) T f__law_draw F__law_any) b__law_any
  have f__law_mixed := df_of F__law_mixed m__law_mixed (ok_mixed (w := w) (base := base) T f__law_draw F__law_mixed) b__law_mixed
  have f__law_text := df_of F__law_text m__law_text (ok_text (w := w) (base := base) T f__law_draw f__law_any F__law_text) b__law_text
  have f__law_begins := df_of F__law_begins m__law_begins (ok_begins (w := w) (base := base) T  F__law_begins) b__law_begins
  have f__law_does_sign := df_of F__law_does_sign m__law_does_sign (ok_does_sign (w := w) (base := base) T f__law_begins F__law_does_sign) b__law_does_sign
  have f__law_does_accept := df_of F__law_does_accept m__law_does_accept (ok_does_accept (w := w) (base := base) T f__law_begins F__law_does_accept) b__law_does_accept
  have f__law_deed := df_of F__law_deed m__law_deed (ok_deed (w := w) (base := base) T f__law_draw f__law_any f__law_text f__law_does_sign f__law_does_accept q_Watch_add q_Watch_branch q_Watch_sign q_Watch_show q_Watch_accept F__law_deed) b__law_deed
  have f__law_stands := df_of F__law_stands m__law_stands (ok_stands (w := w) (base := base) T q_Watch_entries q_Watch_signed q_Watch_accepted F__law_stands) b__law_stands
  have f__law_known_right := df_of F__law_known_right m__law_known_right (ok_known (w := w) (base := base) T kWatch q_Watch_add q_Watch_branch q_Watch_sign q_Watch_show q_Watch_accept q_Watch_entries q_Watch_signed F__law_known_right) b__law_known_right
  have f__law_world := df_of F__law_world m__law_world (ok_world (w := w) (base := base) T f__law_draw f__law_any f__law_mixed kWatch F__law_world) b__law_world
  exact (ok_law (w := w) (base := base) T f__law_hand f__law_draw f__law_known_right f__law_world f__law_deed f__law_stands F_law)
end Law
set_option Elab.async false
set_option linter.all false
set_option maxRecDepth 100000
set_option maxHeartbeats 0
open PySem PySem.W PySem.Calls PyProof.Rows
theorem PySem.Challenge.cw_veilpost_k80_whole_lives_of_watches_holds : PySem.Challenge.rw_veilpost_k80_whole_lives_of_watches.Holds := by
  w_on; o_law; o_head Law.hk; (case hw => w_witness2)
  refine Gl.law_end (l := PySem.Challenge.rw_veilpost_k80_whole_lives_of_watches) (n := 63) (k := 21) (x := "script") rfl (by decide) (by kernel_rfl) ⟨rfl, by decide, by decide⟩ ?F
  intro w mg fa h Y G hmg
  obtain ⟨K, KX, c⟩ := Y
  obtain ⟨fd, hb, hF⟩ := Law.facts (w := w) KX G hmg c
  exact ⟨K, fd, Law.spLaw K, KX, hb, fun H a ns hl _ hS => ⟨a, ns, rfl, Nat.le_trans hl (by decide), hS, fun _ => rfl⟩, hF⟩
