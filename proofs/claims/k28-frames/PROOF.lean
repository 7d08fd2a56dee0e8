import PyProof.Rows.All
import Wide.All
import OpenK.AllK
import Wide.FinOn
import HandS.Words
import HandS.WordsList
import HandS.WordsDict
import HandS.WordsExc
import HandS.Comp
import HandS.Codes
import HandS.Wide
import HandS.Iter
import HandS.TupAny
import HandS.IsInst
import HandS.Defaults
import HandS.HeadEnd
import KE.KExcSuper
import KE.KExcIs
import HandS.ExcInit
import HandS.ExcField
import HandS.ExcIs
import HandS.ExcValue
import HandS.HeadHook4
import HandS.DictComp
import HandS.Style
import PyProof.ReprRoads
import PyProof.CallFns
import HandS.Text
import HandS.TupMul
import HandS.Walk
import PyProof.StrOps2
import HandS.Small
import HandS.Deep
import HandS.Zip
import HandS.Rev
import HandS.RevTup
import HandS.OwnEq
import HandS.Steps
import HandS.Strs
import HandS.SetKeys
import HandS.TupLe
import HandS.Conv
import HandS.Exc
import Lean
import HandS.Head0
import HandS.Head1
import HandS.Head2
import HandS.HeadHook1
import HandS.HeadHook2
import HandS.HeadHook3
import KE.GoesEnum
import HandS.SortInts
import HandS.Keys
import HandS.SortRule
import KE.KDictCopyH
import KE.KDictSum
import KE.KeyNested
import HandS.More
import PySem.Challenge.RW_veilpost_k28_whole_frames_of_mixes
set_option Elab.async false
set_option maxRecDepth 100000
set_option maxHeartbeats 4000000
set_option linter.unusedVariables false
/-! Gl: promises of defs where it is known that no repr is under way around them. -/
namespace Gl
open PySem PySem.Spec PyProof.Rows L2

structure Fn (P : Program) (w : World) (K : PySem.W.Frag) (mg : Str → Option Value) (base : Heap) (k : Nat) (f : Addr) (fd : FuncData) (ps : List Str) (sp : Sp) : Prop where
  many : ∀ vs H Q E, sp vs H Q E → vs.length = ps.length
  go : ∀ (A : Around) (outer : List Env) (s : Shared) (H : Hp) (args : Args) (us : List Value) (vs : List V) (Q : VK) (E : XK),
    Room k A → A.guards = some [] → Env0 P w K mg base A outer s H → BindsTo s fd args (ps.zip us) → Vals vs us →
    sp vs H Q E → codeAny (model P w) A (.call (.ref f) args) (CR (L2.CX P w) outer P w H s Q E) s

section
variable {P : Program} {w : World} {K : PySem.W.Frag} {mg : Str → Option Value} {base : Heap}
theorem Fn.up {j k : Nat} {f : Addr} {fd : FuncData} {ps : List Str} {sp : Sp} (F : Fn P w K mg base j f fd ps sp) (h : j ≤ k) : Fn P w K mg base k f fd ps sp :=
  ⟨F.many, fun A outer s H args us vs Q E r g => F.go A outer s H args us vs Q E (r.mono h) g⟩

/-- a def by its body: what stands at f, and the reading of the body -/
theorem fn_body {x qual : Str} {pa : Arguments} {bd : List Stmt} {sc : Scope} {dvs : List V} {kws : List (Str × V)} {f : Addr} {fd : FuncData} {N ps : List Str} {k : Nat} {sp : Sp}
    (F : FunD K x qual pa bd sc dvs kws f fd) (S : FnScope N ps sc) (many : ∀ vs H Q E, sp vs H Q E → vs.length = ps.length)
    (body : ∀ (cv : Value) (A : Around) (outer : List Env) (s : Shared) (H : Hp) (vs : List V) (Q : VK) (E : XK),
      Room k (A.deeper (envOfC qual sc s.heap.objs.size f cv)) → A.guards = some [] → sp vs H Q E →
      ∃ t, PSs (cxOf (L2.CX P w) P w K mg base N qual sc f cv A outer s H E) bd t ∧ t ⟨fun _ H' => Q .non H', Q, fun _ _ => False, fun _ _ => False⟩ (L2.start N vs) H) :
    Fn P w K mg base (k + 1) f fd ps sp := by
  obtain ⟨oc, od, dV, kV, doc, pm, an, cv, ct, osl, rfl, at_f, code, _, _⟩ := F.ex
  refine ⟨many, fun A outer s H args us vs Q E room gd e0 binds rel pre => ?_⟩
  have KX : K.In s.heap := e0.mod.kin.keeps fun b o e => (e0.bs b o e).1
  have noLim : s.heap.NoLimit := e0.mod.nolimit.keeps fun b o e => (e0.bs b o e).1
  have par : ∀ y ∈ ps.zip us, sc.names.lookup y.1 = some .local ∨ (sc.names.lookup y.1 = some .cell ∧ ((cellsFrom (s.heap.objs.size + 1) sc.names []).lookup y.1).isSome = true) := by
    rintro ⟨n, v⟩ hy
    rcases S.par n (List.of_mem_zip hy).1 with q | q
    · exact Or.inl q
    · exact Or.inr ⟨q, PySem.W.cellsFrom_some _ _ _ (Or.inl q)⟩
  refine codeAny_call_function room.depth (KX _ _ at_f) rfl S.co S.gen rfl (PySem.W.codeRec_of KX code) (binds _ _ _ _ ?_)
  refine wpAny_newFunctionEnv_cells S.kind par fun env he s1 inCall => ?_
  subst he
  obtain ⟨t, der, rd⟩ := body cv A outer s H vs Q E (room.deeper _) gd pre
  have I := inv_start (CX := L2.CX P w) (qual := qual) (f := f) (cd := cv) (A := A) (E := E) S room.hd e0 (many _ _ _ _ pre) rel inCall
  refine ⟨noLim.keeps inCall.toInCall.keep, codeAny_func (wpAny_mono (der.run [] s1 (L2.start N vs) H _ I rd) (fun fl s' hs => ?_) fun e s' hs => hs)⟩
  cases fl with
  | ret u =>
    obtain ⟨v, σ', H', J, rv, q⟩ := hs
    exact ⟨v, H', J.os, J.bare, J.base, J.hok, rv, q⟩
  | next =>
    obtain ⟨σ', H', J, q⟩ := hs
    exact ⟨V.non, H', J.os, J.bare, J.base, J.hok, rfl, q⟩
  | brk => obtain ⟨_, _, _, q⟩ := hs; exact q.elim
  | cont => obtain ⟨_, _, _, q⟩ := hs; exact q.elim

/-- a def of the module that may be called by its name -/
structure Df (P : Program) (w : World) (K : PySem.W.Frag) (mg : Str → Option Value) (base : Heap) (k : Nat) (x : Str) (sp : Sp) : Prop where
  ex : ∃ (f : Addr) (fd : FuncData) (ps : List Str), Fn P w K mg base k f fd ps sp ∧ mg x = some (.ref f) ∧ PySem.W.keepIn K (.ref f) = true ∧ Binds K fd ps []
theorem Df.up {j k : Nat} {x : Str} {sp : Sp} (F : Df P w K mg base j x sp) (h : j ≤ k) : Df P w K mg base k x sp := by
  obtain ⟨f, fd, ps, a, b⟩ := F.ex
  exact ⟨f, fd, ps, a.up h, b⟩
end

/-! what of an exception is wished where: in a def's own body; in a try's body -/
theorem no_pass {X : Cx} (σ : L2.St) : PassesAt (L2.CX X.prog X.w) X σ E0 := fun pins H s e s' I c => passL pins σ H s e s' I c

/-- f(..): E what is wished of an exception, by the slots -/
def tDf (sp : Sp) (E : L2.St → XK) (t : TA) : TE := fun σ H Q => t σ H fun vs H1 => sp vs H1 Q (E σ)
section
variable {X : Cx} {k j : Nat} {f C : Addr} {fd : FuncData} {ps : List Str} {sp : Sp} {E : L2.St → XK} {x m : Str} {p pos apos : Pos} {e o : Expr} {es : List Expr} {ta : TE} {t : TA}
theorem run_df {pins : List (Addr × Obj)} {σ : L2.St} {H : Hp} {s : Shared} {Q : VK} {us : List Value} {vs : List V} {E' : XK} (F : Fn X.prog X.w X.K X.mg X.base k f fd ps sp) (hr : Room k X.A) (hG : X.A.guards = some []) (hb : Binds X.K fd ps [])
    (hx : PassesAt (L2.CX X.prog X.w) X σ E') (I : Inv X pins σ H s) (r : Vals vs us) (h : sp vs H Q E') : wpAny (model X.prog X.w) X.A (call (.ref f) us) (EP X pins σ Q) X.xe s := by
  have len : (us ++ []).length = ps.length := by rw [List.append_nil, ← r.length]; exact F.many _ _ _ _ h
  have b := hb s us I.kIn len
  rw [List.append_nil] at b
  refine wpAny_call (codeAny_mono (F.go X.A X.stack s H ⟨us, []⟩ us vs Q E' hr hG I.env0 b r h) fun res s' hq => ?_)
  match res, hq with
  | .error err, hq => exact hx pins H s err s' I hq
  | .ok (.ret u), hq => exact I.after hq
theorem pe_df (F : Df X.prog X.w X.K X.mg X.base k x sp) (hr : Room j X.A) (hk : k ≤ j) (hG : X.A.guards = some []) (hg : Gl X x) (hx : ∀ σ, PassesAt (L2.CX X.prog X.w) X σ (E σ)) (ha : PA X (e :: es) t)
    (hd : (x == ("__debug__" : Str)) = false := by decide) (he : starEach (e :: es) X.env = (false, eval e X.env) :: starEach es X.env := by rfl) (hp : (backTo pos (starEach es X.env)).any (·.1) = false := by rfl) : PE X (.Call (.Name x p) (e :: es) [] pos) (tDf sp E t) := by
  obtain ⟨f, fd, ps, F, hm, kp, hb⟩ := F.ex
  refine ⟨fun pins s σ H Q I h => wpAny_Call_Name_kw (ld_glob I hg hm ?_ hd)⟩
  exact PySem.W.callWith_K (h₀ := X.base) I.ok.mod.kin kp (thn (ha.run pos pins s σ H _ I h) fun us s1 ⟨vs, H1, I1, r, q⟩ => ⟨I1.kIn, run_df F (hr.mono hk) hG hb (hx σ) I1 r q⟩) he hp
end

/-- the law's own call at its heap h: H tells of the script alone -/
theorem call_at {P : Program} {w : World} {K : PySem.W.Frag} {mg mb : Str → Option Value} {k : Nat} {f a : Addr} {fd : FuncData} {x : Str} {sp : Sp} {s : Shared} {us : List Value} {H : Hp}
    (KX : K.In s.heap) (glob : s.heap.Ns mainGlobals mg) (bl : s.heap.Ns builtinsNs mb) (boot : ∀ y : Str, y ≠ "__name__" → mb y = bootBuiltins y) (lim : s.heap.NoLimit) (gens : s.gens = #[])
    (at_a : s.heap.get? a = some { cls := .type "list", data := .seq us.toArray }) (room : Room k callerA) (go : ∀ base : Heap, K.In base → base.Ns mainGlobals mg → Fn P w K mg base k f fd [x] sp)
    (bind : ∀ (s : Shared) (u : Value), BindsTo s fd ⟨[u], []⟩ [(x, u)]) (pre : sp [.ref a] H (fun v _ => v = .bl true) fun _ _ _ => False)
    (only : ∀ b, H b = none ∨ (b = a ∧ K.lookup a = none ∧ ∃ o xs, H b = some (.frz o (.lst xs)))) (ok : HOk P w H s.heap) :
    codeAny (model P w) callerA (.call (.ref f) ⟨[.ref a], []⟩) (fun r t => r = .ok (.ret (.bool true)) ∧ OldK s.heap t.heap ∧ t.os = s.os ∧ AllBare t.gens) s := by
  have free : ∀ {b : Addr}, b ≠ a → H b = none := fun {b} nb => (only b).elim id fun q => absurd q.1 nb
  have stay : ∀ {b : Addr} {o : Obj}, s.heap.get? b = some o → b ≠ a → (hidT s.heap H).get? b = some o := fun e nb => hidT_get e (free nb)
  have noDict : ∀ {b : Addr} {m : Str → Option Value}, s.heap.Ns b m → b ≠ a := by
    rintro b m ⟨o, es, ep, e, d, _⟩ rfl
    rw [at_a] at e
    cases e
    cases d
  have nsIn : ∀ {b : Addr} {m : Str → Option Value}, s.heap.Ns b m → (hidT s.heap H).Ns b m := fun {b m} q => by
    have nb := noDict q
    obtain ⟨o, es, ep, e, r⟩ := q
    exact ⟨o, es, ep, stay e nb, r⟩
  have kin : K.In (hidT s.heap H) := fun b o e => by
    refine hidT_get (KX b o e) ?_
    rcases only b with q | ⟨q, l, _⟩
    · exact q
    · rw [q, l] at e
      cases e
  obtain ⟨mc, l1, l2⟩ := lim
  have e0 : Env0 P w K mg (hidT s.heap H) callerA [] s H :=
    { frames := rfl, mod := ⟨kin, nsIn glob, ⟨mb, nsIn bl, boot⟩, ⟨mc, nsIn l1, l2⟩⟩, bs := fun b o e => of_hidT e, bsz := Nat.le_of_eq (hidT_size _ _), funs := trivial, frf := fun b z => (by cases z), hok := ok, bare := AllBare.of_eq gens }
  refine codeAny_mono ((go _ kin (nsIn glob)).go callerA [] s H ⟨[.ref a], []⟩ [.ref a] [.ref a] _ _ room rfl e0 (bind s (.ref a)) (.cons rfl .nil) pre) fun r t done => ?_
  match r, done with
  | .error e, done =>
    obtain ⟨_, _, _, _, _, _, _, _, _, _, _, _, z⟩ := done
    exact z.elim
  | .ok (.ret u), done =>
    obtain ⟨v, H', os, bare, un, ok', rv, q⟩ := done
    have qv : v = .bl true := q
    subst qv
    obtain rfl : u = Value.bool true := rv
    refine ⟨rfl, OldK.of_keep fun b o e => ?_, os, bare⟩
    rcases only b with q | ⟨_, _, ob, xs, q⟩
    · exact un.keep b o e q (fun z => nomatch z) (fun z => nomatch z)
    · have h1 := (ok b _ q).1
      have h2 := (ok' b _ (un.frzs b ob _ q)).1
      rw [e] at h1
      cases h1
      exact h2

/-- the law itself: how it is called at the end -/
theorem law_end {l : PySem.W.OpenLaw} {n k : Nat} {q : Program} {loose : List Str} {XP : (Str → Option Value) → Heap → Prop} {YP : World → Heap → Prop} {d : DefRec} {x : Str}
    (hn : l.most = some n) (hn2 : n ≤ sizeLine) (hdf : d.params.defaults = []) (hr : Room k callerA)
    (F : ∀ (w : World) (mg : Str → Option Value) (fa : Addr) (h : Heap), YP w h → h.Ns mainGlobals mg → mg d.name = some (.ref fa) →
      ∃ (K : PySem.W.Frag) (fd : FuncData) (sp : Sp), K.In h ∧ (∀ (s : Shared) (u : Value), BindsTo s fd ⟨[u], []⟩ [(x, u)]) ∧
        (∀ (H : Hp) (a : Addr) (ns : List Int), ns.length ≤ n → Only H → SqL K H a (ns.map V.int) → sp [.ref a] H (fun v _ => v = .bl true) fun _ _ _ => False) ∧
        ∀ base : Heap, K.In base → base.Ns mainGlobals mg → Fn l.prog w K mg base k fa fd [x] sp) :
    PySem.W.WalkO q loose XP YP l.row.toRowW d [] (fun f vs => PySem.call f vs) := by
  refine Att.attach_call hn hdf fun w s₀ s mg mb f o pm cd doc a us ns G Y _ _ _ hmg at_a nums short gens => ?_
  obtain ⟨K, fd, sp, KX, bind, pre, go⟩ := F w mg f _ Y G.T.g hmg
  have rv := vals_ints nums
  have size : us.length ≤ sizeLine := by rw [nums.length]; exact Nat.le_trans short hn2
  cases look : K.lookup a with
  | some ob =>
    have e := KX a ob look
    rw [at_a] at e
    cases e
    exact call_at (H := fun _ => none) (x := x) KX G.T.g G.T.b G.T.builtins G.T.nolimit gens at_a hr go bind
      (pre _ a ns short (fun _ => Or.inl rfl) (Or.inr ⟨_, us.toArray, _, look, rfl, rfl, rfl, by rw [List.size_toArray]; exact size, by simpa using rv⟩)) (fun _ => Or.inl rfl) (fun b u z => nomatch z)
  | none =>
    have one : ∀ b, (if b = a then some (HO.frz { cls := .type "list", data := .seq us.toArray } (.lst (ns.map V.int))) else none) = none ∨
        (b = a ∧ K.lookup a = none ∧ ∃ ob xs, (if b = a then some (HO.frz { cls := .type "list", data := .seq us.toArray } (.lst (ns.map V.int))) else none) = some (.frz ob (.lst xs))) := fun b => by
      by_cases hb : b = a
      · exact Or.inr ⟨hb, look, _, _, if_pos hb⟩
      · exact Or.inl (if_neg hb)
    refine call_at (x := x) (H := fun b => if b = a then some (HO.frz { cls := .type "list", data := .seq us.toArray } (.lst (ns.map V.int))) else none) KX G.T.g G.T.b G.T.builtins G.T.nolimit gens at_a hr go bind
      (pre _ a ns short (fun b => (one b).elim Or.inl fun z => Or.inr z.2.2) (Or.inl (Or.inr ⟨_, if_pos rfl⟩))) one (fun b u z => ?_)
    rcases one b with q | ⟨rfl, _, _⟩
    · exact absurd (q.symm.trans z) (by simp)
    · have z2 := (if_pos rfl).symm.trans z
      cases z2
      exact ⟨at_a, by rw [rv.length]; exact size, us, _, rv, at_a⟩
end Gl
set_option Elab.async false
set_option linter.all false
set_option maxRecDepth 100000
set_option maxHeartbeats 4000000
/-! Ex: own errors whose making hands the part on to the base's making and keeps it as a field. -/
namespace Ex
open PySem PySem.W PySem.Calls PyProof.Rows PySem.HandSPX
def iA (fld : Str) (p1 p2 : Pos) : Arguments := { posonlyargs := [], args := [{ arg := "self", annotation := none, pos := p1 }, { arg := fld, annotation := none, pos := p2 }], vararg := none, kwonlyargs := [], kw_defaults := [], kwarg := none, defaults := [] }
def iB (fld : Str) (p0 p1 p2 p3 p4 p5 p6 p7 p8 p9 : Pos) : List Stmt :=
  [.Expr (.Call (.Attribute (.Call (.Name "super" p0) [] [] p1) "__init__" p2) [.Name fld p3] [] p4) p5, .Assign [.Attribute (.Name "self" p6) fld p7] (.Name fld p8) p9]
def iS (fld : Str) : Scope := { kind := .function, names := [(PySem.Str.ofString "self", .local), (fld, .local), (PySem.Str.ofString "__class__", .free), (PySem.Str.ofString "super", .globalImplicit)], isGenerator := false, isCoroutine := false, more := [] }
structure BadC (P : Program) (K : Frag) (C : Addr) (fld : Str) : Prop where
  cls : ∃ nm q N bs bm sn sub ab col dd k0 k1 k2 k3 k5, K.lookup C = some (excClassObj nm q C N bs bm true sn sub ab col dd k0 k1 k2 k3 k5 "ValueError.__new__") ∧ refsVE bm = true
  sa : findIn K (.ref C) "__setattr__" = some (some (.builtin "object.__setattr__"))
  noN : findIn K (.ref C) fld = some none
  kC : keepIn K (.ref C) = true
  exC : subIn K (.ref C) (.type "BaseException") = some true
  tyC : typeIn K (.ref C) = some (.type "type")
  subV : subIn K (.ref C) (.type "ValueError") = some true
  mro : mroIn K C (.ref C) = some true
  sup : ks_superIn K C C "__init__" = some (some (.builtin "ValueError.__init__"))
  opq : nsIn K cStatics "thirdparty.any" = some none
  top : (P.main.scope.names.lookup ("super" : Str)).isSome = false
  fne : (fld == ("self" : Str)) = false
  fnc : (fld == ("__class__" : Str)) = false
  fns : (fld == ("super" : Str)) = false
  fnd : (fld == ("__debug__" : Str)) = false
  init : ∃ (fI cc cda : Addr) (oc kV doc pm ct ccl cl : Value) (od an cdd cld : Option Addr) (osl ccs csl : Array (Option Value)) (p1 p2 q0 q1 q2 q3 q4 q5 q6 q7 q8 q9 : Pos) (q : Str) (vs : Array Value) (file : Str) (tf : Tok),
    findIn K (.ref C) "__init__" = some (some (.ref fI)) ∧ typeIn K (.ref fI) = some (.type "function") ∧
    K.lookup fI = some ⟨oc, od, .func (ksFn "__init__" q (iA fld p1 p2) (iB fld q0 q1 q2 q3 q4 q5 q6 q7 q8 q9) (iS fld) .none kV doc pm an (.ref cda) ct cc), osl⟩ ∧ codeIn K (.ref cda) q = true ∧
    K.lookup cc = some ⟨cl, cld, .cell (some (.ref C)), csl⟩ ∧ K.lookup cda = some ⟨ccl, cdd, .fields vs, ccs⟩ ∧ vs[2]? = some (.str file tf) ∧ ((P.main.file : Str) == file) = true ∧
    (∀ env : Env, ∃ pl : Sem Bool, eval (.Call (.Attribute (.Call (.Name "super" q0) [] [] q1) "__init__" q2) [.Name fld q3] [] q4) env = (do
      let ov ← attributeBase (.Call (.Name "super" q0) [] [] q1) "__init__" env (eval (.Call (.Name "super" q0) [] [] q1) env)
      standAt q2.atName
      let (f, first) ← holding [ov] (getMethod ov "__init__" pl)
      callWith q4 f first (backTo q4 (starEach [.Name fld q3] env)) [])) ∧
    ∀ (s : Shared) (x v : Value), BindsTo s (ksFn "__init__" q (iA fld p1 p2) (iB fld q0 q1 q2 q3 q4 q5 q6 q7 q8 q9) (iS fld) .none kV doc pm an (.ref cda) ct cc) ⟨[x, v], []⟩ [("self", x), (fld, v)]
theorem lk_self {fld : Str} {x v : Value} (h : (fld == ("self" : Str)) = false) : ([("self", x), (fld, v)] : List (Str × Value)).reverse.lookup ("self" : Str) = some x := by
  have h2 : (("self" : Str) == fld) = false := by rw [beq_eq_false_iff_ne] at h ⊢; exact fun z => h z.symm
  show List.lookup ("self" : Str) [(fld, v), ("self", x)] = some x
  simp [List.lookup, h2]
theorem lk_fld {fld : Str} {x v : Value} : ([("self", x), (fld, v)] : List (Str × Value)).reverse.lookup fld = some v := by
  show List.lookup fld [(fld, v), ("self", x)] = some v
  simp [List.lookup]
theorem sc_self {fld : Str} : (iS fld).names.lookup ("self" : Str) = some .local := by simp [iS, List.lookup]
theorem sc_fld {fld : Str} : (iS fld).names.lookup fld = some .local := by
  by_cases h : fld = ("self" : Str)
  · subst h; exact sc_self
  · have h2 : (fld == ("self" : Str)) = false := beq_eq_false_iff_ne.mpr h
    have h3 : (fld == PySem.Str.ofString "self") = false := h2
    simp [iS, List.lookup, h3]
theorem sc_cls {fld : Str} (h : (fld == ("__class__" : Str)) = false) : (iS fld).names.lookup ("__class__" : Str) = some .free := by
  have h2 : (("__class__" : Str) == fld) = false := by rw [beq_eq_false_iff_ne] at h ⊢; exact fun z => h z.symm
  have h3 : (("__class__" : Str) == PySem.Str.ofString "self") = false := by decide
  simp [iS, List.lookup, h2, h3]
theorem sc_sup {fld : Str} (h : (fld == ("super" : Str)) = false) : (iS fld).names.lookup ("super" : Str) = some .globalImplicit := by
  have h2 : (("super" : Str) == fld) = false := by rw [beq_eq_false_iff_ne] at h ⊢; exact fun z => h z.symm
  have h3 : (("super" : Str) == PySem.Str.ofString "self") = false := by decide
  have h4 : (("super" : Str) == PySem.Str.ofString "__class__") = false := by decide
  simp [iS, List.lookup, h2, h3, h4]
/-- what the making leaves of a fresh exception at x -/
structure InitEnd (h h' : Heap) (x C dx t1 : Addr) (fld : Str) (v : Value) : Prop where
  keep : ∀ b o, b ≠ x → h.get? b = some o → h'.get? b = some o
  obj : h'.get? x = some { cls := .ref C, dict := some dx, data := .fields #[.ref t1, .none, .none, .none, .bool false, .none] }
  dbig : h.objs.size ≤ dx
  dne : dx ≠ x
  ns : h'.Ns1 dx (fun y => if y = fld then some v else none)
section
variable {prog : Program} {w : World} {A : Around} {E : Value → Shared → Prop} {R : Result → Shared → Prop} {s : Shared} {K : Frag} {mg mb : Str → Option Value} {C fI cc cda : Addr} {fld : Str}
theorem one_size (v : Value) : [v].length ≤ sizeLine := by
  rw [sizeLine_eq]
  exact (by decide : 1 ≤ 16777216)
theorem ld1 {M : Model} {s : Shared} {env : Env} {m : Str → Option Value} {x : Str} {pos : Pos} {v : Value} {Q : Value → Shared → Prop} {A : Around} {E : Value → Shared → Prop} (hk : env.scope.kind = .function) (hl : env.kindOf x = some .local) (hn : s.heap.Ns env.locals m) (hv : m x = some v) (hd : (x == ("__debug__" : Str)) = false) (h : Q v s) :
    wpAny M A (eval (.Name x pos) env) Q E s := wpAny_Name (wpAny_loadName_local hk hl hn hv h) hd
/-- the base's making, bound, called -/
theorem call_mw {u e t0 : Addr} {rest : List Value} {Q : Value → Shared → Prop} {h : Heap} {g : Array GenState} {d : Drawn} {t : Nat} {os : OsState} {nm q : Str} {N : Addr} {bs bm : List Value} {hdct : Bool} {sn : List Str} {sub : List Value} {ab : Bool} {col : Option Bool} {dd : Option Addr} {k0 k1 k2 k3 k5 : Option Value}
    (hC : h.get? C = some (excClassObj nm q C N bs bm hdct sn sub ab col dd k0 k1 k2 k3 k5 "ValueError.__new__")) (he : h.get? e = some (excO C t0)) (hu : h.get? u = some (kxs_mw "ValueError.__init__" e)) (hrest : rest.length ≤ sizeLine)
    (hq : ∀ h' t1, (∀ b o, b ≠ e → h.get? b = some o → h'.get? b = some o) → h.objs.size ≤ h'.objs.size → h'.get? e = some (excO C t1) → Q .none ⟨h', g, d, t, os⟩) :
    wpAny (model prog w) A (call (.ref u) rest) Q E ⟨h, g, d, t, os⟩ := by
  refine wpAny_call (codeAny_of_tree ?_)
  show wpAny _ A.in1 (callAny (.ref u) ⟨rest, []⟩) _ _ _
  simp only [callAny]
  refine wpAny_bind (wpAny_load hu ?_)
  simp only [kxs_mw, show (Value.type "method-wrapper" == Value.type "method" || Value.type "method-wrapper" == Value.type "builtin_function_or_method" || Value.type "method-wrapper" == Value.type "method-wrapper") = true by decide, if_true]
  refine KFB.if_so (by decide) ?_
  refine wpAny_bind (check_bound_init F.excBase_ValueError.toExcCallFacts hC he rfl ?_)
  refine wpAny_bind (wpAny_pure (wpAny_pure ?_))
  refine ⟨plainId_quiet F.excBase_ValueError.init.plain _, codeAny_builtin F.excBase_ValueError.initEntry ?_⟩
  refine exc_init_tree (cls := .ref C) (t0 := t0) (dv := none) (c2 := .none) (c3 := .none) (b4 := .bool false) he hrest (fun h' k e' t' => ?_)
  exact hq h' _ k (Nat.le_of_lt (Heap.lt_size t')) e'
theorem bad_init (T : BadC prog K C fld) {oc kV doc pm ct ccl cl : Value} {od an cdd cld : Option Addr} {osl ccs csl : Array (Option Value)} {p1 p2 q0 q1 q2 q3 q4 q5 q6 q7 q8 q9 : Pos} {q : Str} {vs : Array Value} {file : Str} {tf : Tok}
    (ho : K.lookup fI = some ⟨oc, od, .func (ksFn "__init__" q (iA fld p1 p2) (iB fld q0 q1 q2 q3 q4 q5 q6 q7 q8 q9) (iS fld) .none kV doc pm an (.ref cda) ct cc), osl⟩) (hcd : codeIn K (.ref cda) q = true)
    (hcell : K.lookup cc = some ⟨cl, cld, .cell (some (.ref C)), csl⟩) (hcode : K.lookup cda = some ⟨ccl, cdd, .fields vs, ccs⟩) (hvs : vs[2]? = some (.str file tf)) (hfile : ((prog.main.file : Str) == file) = true)
    (hmc : ∀ env : Env, ∃ pl : Sem Bool, eval (.Call (.Attribute (.Call (.Name "super" q0) [] [] q1) "__init__" q2) [.Name fld q3] [] q4) env = (do
      let ov ← attributeBase (.Call (.Name "super" q0) [] [] q1) "__init__" env (eval (.Call (.Name "super" q0) [] [] q1) env)
      standAt q2.atName
      let (f, first) ← holding [ov] (getMethod ov "__init__" pl)
      callWith q4 f first (backTo q4 (starEach [.Name fld q3] env)) []))
    {x t0 : Addr} {v : Value} (hbind : BindsTo s (ksFn "__init__" q (iA fld p1 p2) (iB fld q0 q1 q2 q3 q4 q5 q6 q7 q8 q9) (iS fld) .none kV doc pm an (.ref cda) ct cc) ⟨[.ref x, v], []⟩ [("self", .ref x), (fld, v)])
    (X : K.In s.heap) (hg : s.heap.Ns mainGlobals mg) (hgs : mg "super" = none) (hb : s.heap.Ns builtinsNs mb) (hbs : mb "super" = some (.type "super")) (hlim : s.heap.NoLimit) (hx : s.heap.get? x = some (excO C t0)) (hnx : K.lookup x = none) (hroom : A.depth < recursionLimit)
    (hq : ∀ h' tk dx t1, InitEnd s.heap h' x C dx t1 fld v → R (.ok (.ret .none)) { s with heap := h', toks := tk }) :
    codeAny (model prog w) A (.call (.ref fI) ⟨[.ref x, v], []⟩) R s := by
  obtain ⟨nm, q', N, bs, bm, sn, sub, ab, col, dd, k0, k1, k2, k3, k5, hC, hbm⟩ := T.cls
  have hcl : clsIn K C = some { name := nm, bases := bs, mro := .ref C :: bm, ns := N, qualname := q', hasDict := true, slotNames := sn, subclasses := sub, abstract := ab, collection := col, hasDel := false } := by unfold clsIn; rw [hC] <;> rfl
  refine ks_codeAny_call_defAt (fd := ksFn "__init__" q (iA fld p1 p2) (iB fld q0 q1 q2 q3 q4 q5 q6 q7 q8 q9) (iS fld) .none kV doc pm an (.ref cda) ct cc) (binds := [("self", .ref x), (fld, v)]) hroom (X _ _ ho) rfl hlim (codeRec_of X hcd) rfl hbind ?_ ?_ (fun h₁ hns k => ?_)
  · intro y hy
    simp only [ksFn, fnX, iS, List.mem_cons, List.not_mem_nil, or_false] at hy
    rcases hy with rfl | rfl | rfl | rfl <;> exact fun z => nomatch z
  · intro y hy
    simp only [List.mem_cons, List.not_mem_nil, or_false] at hy
    rcases hy with rfl | rfl
    · exact sc_self
    · exact sc_fld
  · obtain ⟨hp, g, d, t, os⟩ := s
    have X₁ : K.In h₁ := X.keeps k
    have hx₁ := k _ _ hx
    have hC₁ := X₁ _ _ hC
    obtain ⟨pl, hpl⟩ := hmc (callEnv (ksFn "__init__" q (iA fld p1 p2) (iB fld q0 q1 q2 q3 q4 q5 q6 q7 q8 q9) (iS fld) .none kV doc pm an (.ref cda) ct cc) hp.objs.size fI)
    refine ks_wpAt_execs_cons (ks_wpAt_Expr_any (ks_wpAt_MethodCall ?_ hpl))
    refine ks_wpAt_super_base (f := fI) (cc := cda) (sc_sup T.fns) (sc_cls T.fnc) rfl rfl (X₁ _ _ ho) rfl rfl rfl (X₁ _ _ hcode) rfl hvs hfile T.top ?_
    refine ks_loadName_global rfl (sc_sup T.fns) (loadGlobal_builtin (hg.keeps k) hgs (hb.keeps k) hbs ⟨rfl, ?_⟩)
    refine wpAny_loadName_free rfl (sc_cls T.fnc) rfl ⟨_, X₁ _ _ hcell, rfl⟩ ?_
    refine wpAny_loadName_local rfl sc_self hns (lk_self T.fne) ?_
    refine ks_wpAny_isType_cls hC₁ rfl ⟨rfl, ?_⟩
    refine ks_wpAny_call_super hC₁ rfl hx₁ rfl (fun c e => nomatch e) (looks_mroIn X₁ T.mro) (fun h₂ e₂ k₂ => ?_)
    have X₂ : K.In h₂ := X₁.keeps k₂
    have hx₂ := k₂ _ _ hx₁
    have hsup := T.sup
    unfold ks_superIn at hsup
    rw [hcl] at hsup
    have I₂ : InstAt h₂ x (excO C t0) C none := ⟨hx₂, rfl, rfl, trivial⟩
    refine kxs_getMethod kxs_ValueError e₂ (looks_opaque X₂ T.opq) (l₀ := Value.ref C :: bm) ?_ rfl X₂ hsup (I₂.type.andThen (looks_subIn X₂ T.subV)) (fun z => by rw [z, hC] at hnx; cases hnx) (by decide) ?_
    · exact fun A Q E s k q => wpAny_bind ((looks_clsIn X₂ hcl) A _ E s k (wpAny_pure q))
    · have k₃ : ∀ b o, h₂.get? b = some o → (h₂.push (kxs_mw "ValueError.__init__" x)).get? b = some o := fun b o e => Heap.get?_push_of_some _ e
      refine kxs_callWith (i := "ValueError.__init__") (x := x) rfl (evalArgs_plain (Calls.spliced_cons (ld1 rfl sc_fld ((hns.keeps k₂).keeps k₃) lk_fld T.fnd (Calls.spliced_nil ⟨Heap.get?_push_at rfl rfl, ?_⟩))))
      refine call_mw (X₂.keeps k₃ _ _ hC) (k₃ _ _ hx₂) (Heap.get?_push_at rfl rfl) (one_size v) (fun h₄ t1 k₄ sz₄ hx₄ => ?_)
      have keep₄ : ∀ b o, b ≠ x → h₁.get? b = some o → h₄.get? b = some o := fun b o hb e => k₄ b o hb (k₃ _ _ (k₂ _ _ e))
      have X₄ : K.In h₄ := fun b o e => keep₄ b o (fun z => by rw [z, hnx] at e; cases e) (X₁ b o e)
      have hns₄ := hns.at (fun o e => keep₄ _ o (Nat.ne_of_gt (Heap.lt_size hx)) e)
      refine wpAt_of_wpAny (wpAny_execs_cons (plainObj_wpAny_Assign_Attribute (ld1 rfl sc_fld hns₄ lk_fld T.fnd (ld1 rfl sc_self hns₄ (lk_self T.fne) (by decide) ?_))))
      refine set_plain X₄ (ox := excO C t1) (od := none) ⟨hx₄, rfl, rfl, trivial⟩ T.sa ?_
      refine exc_osa X₄ hx₄ hcl (show refsVE (.ref C :: bm) = true from hbm) rfl T.noN (fun h₅ tk₅ dx k₅ dn dne hx₅ hn₅ => ?_)
      show wpAny _ _ (execs _ _) _ _ _
      refine wpAny_execs_nil (hq h₅ tk₅ dx t1 ⟨fun b o hb e => k₅ b o hb (keep₄ b o hb (k b o e)), hx₅, ?_, dne, hn₅⟩)
      have a1 : hp.objs.size < h₁.objs.size := hns.lt
      have a2 : h₁.objs.size < h₂.objs.size := Heap.lt_size e₂
      have a3 : h₂.objs.size ≤ h₄.objs.size := Nat.le_trans (by rw [Heap.size_push]; omega) sz₄
      have a4 : h₄.objs.size ≤ dx := dn
      exact Nat.le_trans (Nat.le_of_lt a1) (Nat.le_trans (Nat.le_of_lt a2) (Nat.le_trans a3 a4))
/-- a made one -/
structure OwnMade (h h' : Heap) (e C d : Addr) (fld : Str) (v : Value) : Prop where
  keep : ∀ b o, h.get? b = some o → h'.get? b = some o
  new : h.objs.size ≤ e
  obj : ∃ t1 : Addr, h'.get? e = some { cls := .ref C, dict := some d, data := .fields #[.ref t1, .none, .none, .none, .bool false, .none] }
  dbig : h.objs.size ≤ d
  dne : d ≠ e
  ns : h'.Ns1 d (fun y => if y = fld then some v else none)
theorem bad_made (T : BadC prog K C fld) {v : Value} (X : K.In s.heap) (hg : s.heap.Ns mainGlobals mg) (hgs : mg "super" = none) (hb : s.heap.Ns builtinsNs mb) (hbs : mb "super" = some (.type "super")) (hlim : s.heap.NoLimit) (hroom : A.depth + 1 < recursionLimit)
    (hq : ∀ h' tk e d, OwnMade s.heap h' e C d fld v → R (.ok (.ret (.ref e))) { s with heap := h', toks := tk }) :
    codeAny (model prog w) A (.call (.ref C) ⟨[v], []⟩) R s := by
  obtain ⟨nm, q, N, bs, bm, sn, sub, ab, col, dd, k0, k1, k2, k3, k5, hC, hbm⟩ := T.cls
  obtain ⟨fI, cc, cda, oc, kV, doc, pm, ct, ccl, cl, od, an, cdd, cld, osl, ccs, csl, p1, p2, q0, q1, q2, q3, q4, q5, q6, q7, q8, q9, q, vs, file, tf, iC, tI, ho, hcd, hcell, hcode, hvs, hfile, hmc, hbind⟩ := T.init
  obtain ⟨hp, g, dr, tk, os⟩ := s
  have k : ∀ b o, hp.get? b = some o → ((hp.push (kdv_tup [v])).push (excO C hp.objs.size)).get? b = some o := fun b o e => Heap.get?_push_of_some _ (Heap.get?_push_of_some _ e)
  have hget : ((hp.push (kdv_tup [v])).push (excO C hp.objs.size)).get? (hp.objs.size + 1) = some (excO C hp.objs.size) := by heap_get
  have hnx : K.lookup (hp.objs.size + 1) = none := by
    cases e : K.lookup (hp.objs.size + 1) with
    | none => rfl
    | some o =>
      have z : hp.get? (hp.objs.size + 1) = some o := X _ _ e
      exact absurd (Nat.lt_of_succ_lt (Heap.lt_size z)) (Nat.lt_irrefl _)
  refine call_own F.excBase_ValueError (fun X => refsVE_contains X bm hbm) (X _ _ hC) (looks_findIn X iC) (fun self => bind_fn X self tI) (one_size v) ?_
  refine bad_init (s := ⟨(hp.push (kdv_tup [v])).push (excO C hp.objs.size), g, dr, tk, os⟩) T ho hcd hcell hcode hvs hfile hmc (hbind _ _ _) (X.keeps k) (hg.keeps k) hgs (hb.keeps k) hbs (hlim.keeps k) hget hnx ?_ fun h' tk' dx t1 ⟨k', hx, dn, dne, hns⟩ => ?_
  · show A.depth + 1 < recursionLimit
    exact hroom
  · have old : ∀ b o, hp.get? b = some o → h'.get? b = some o := fun b o e => k' b o (Nat.ne_of_lt (Nat.lt_succ_of_lt (Heap.lt_size e))) (k b o e)
    have z : hp.objs.size + 1 + 1 ≤ dx := by
      first
        | (simpa only [Heap.size_push] using dn)
        | exact dn
        | (have q := dn; rw [Heap.size_push, Heap.size_push] at q; exact q)
    exact ⟨rfl, hq h' tk' (hp.objs.size + 1) dx ⟨old, Nat.le_succ _, ⟨t1, hx⟩, Nat.le_trans (Nat.le_trans (Nat.le_succ _) (Nat.le_succ _)) z, dne, hns⟩⟩
end
end Ex

namespace L2
open PySem PySem.Spec PyProof.Rows
section
variable {X : Cx}
/-- C(e), C an own error that keeps its part in the field fld -/
def tMkE (K : PySem.W.Frag) (C : Addr) (fld : Str) (te : TE) : TE := fun σ H Q => te σ H fun v H1 => ∀ a d, H1 d = none → H1 a = none → a ≠ d → Q (.ref a) (upd (upd H1 d (.xd [(fld, v)])) a (exo a C (some d)))
theorem relO_one {fld : Str} {v : V} {v' : Value} (r : RelV v v') (f : Str) : RelO (List.lookup f [(fld, v)]) (if f = fld then some v' else none) := relO_put (fs := []) (mA := fun _ => none) r (fun _ => True.intro) f
/-- C(), C an own error of no own making -/
def tMkN (C : Addr) : TE := fun σ H Q => ∀ a, H a = none → Q (.ref a) (upd H a (exo a C none))
/-- e.fld -/
def tFldE (K : PySem.W.Frag) (n : Str) (te : TE) : TE := fun σ H Q => te σ H fun x H1 => ∃ (a C d : Addr) (v : V), x = .ref a ∧ XfC K C ∧ PySem.W.findIn K (.ref C) n = some none ∧ H1 a = some (exo a C (some d)) ∧ H1 d = some (.xd [(n, v)]) ∧ Q v H1
end
/-- isinstance(e, c) of such an error -/
def rIsX (K : PySem.W.Frag) : List V → Hp → VK → Prop := fun xs H Q => ∃ (a C : Addr) (d : Option Addr) (c : V) (cv : Value) (b : Bool), xs = [.ref a, c] ∧ H a = some (exo a C d) ∧ ExcC K C ∧ (∀ u, RelV c u → u = cv) ∧ (∀ dd, d = some dd → ∃ fs, H dd = some (.xd fs)) ∧ PySem.W.kitOne K (.ref C) cv = some b ∧ Q (.bl b) H
end L2
set_option Elab.async false
set_option maxRecDepth 100000
set_option maxHeartbeats 4000000
/-! Rd: readings, one lemma a construct; the tactic walk_at "rd" goes along a reading as far as it is plain. -/
namespace Rd
open PySem L2

/-! built-in calls by names of our own -/
def rLen (K : PySem.W.Frag) : List V → Hp → VK → Prop := fun xs H Q => (∃ p ys, xs = [.ref p] ∧ (SqL K H p ys ∨ SqT K H p ys) ∧ Q (.int ys.length) H) ∨ ∃ z, xs = [.str z] ∧ z.length ≤ sizeLine ∧ Q (.int z.length) H
theorem cr_len {X : Cx} : CallR X (.builtin "len") (rLen X.K) := call_len_seq.or call_len_str
def rInt : List V → Hp → VK → Prop := fun xs H Q => (∃ i, xs = [.int i] ∧ Q (.int i) H) ∨ ∃ k, xs = [.bl k] ∧ Q (.int (if k then 1 else 0)) H
theorem cr_int {X : Cx} : CallR X (.type "int") rInt := call_int1
def rAbs : List V → Hp → VK → Prop := fun xs H Q => ∃ i, xs = [.int i] ∧ Q (.int (if i < 0 then -i else i)) H
theorem cr_abs {X : Cx} : CallR X (.builtin "abs") rAbs := call_abs
def rListOf (K : PySem.W.Frag) : List V → Hp → VK → Prop := fun xs H Q => ∃ p ys, xs = [.ref p] ∧ (SqL K H p ys ∨ SqT K H p ys) ∧ ∀ l, H l = none → Q (.ref l) (upd H l (.lst ys))
theorem cr_list {X : Cx} : CallR X (.type "list") (rListOf X.K) := call_list_of
def rTupOf (K : PySem.W.Frag) : List V → Hp → VK → Prop := fun xs H Q => ∃ p ys, xs = [.ref p] ∧ ((SqL K H p ys ∧ ∀ l, H l = none → Q (.ref l) (upd H l (.tup ys))) ∨ (SqT K H p ys ∧ Q (.ref p) H))
theorem cr_tuple {X : Cx} : CallR X (.type "tuple") (rTupOf X.K) := call_tuple_of

section
variable {σ : L2.St} {H : Hp} {Q : VK} {D : Ends} {K : PySem.W.Frag}
variable {nx bk ct : L2.St → Hp → Prop} {rt : VK}
theorem seq {t u : TS} (h : t ⟨u ⟨nx, rt, bk, ct⟩, rt, bk, ct⟩ σ H) : tSeq t u ⟨nx, rt, bk, ct⟩ σ H := h
theorem next (h : nx σ H) : tNext ⟨nx, rt, bk, ct⟩ σ H := h
theorem brk (h : bk σ H) : tBreak ⟨nx, rt, bk, ct⟩ σ H := h
theorem cont (h : ct σ H) : tCont ⟨nx, rt, bk, ct⟩ σ H := h
theorem asg {te : TE} {g : TG} (h : te σ H fun x H1 => g x σ H1 nx) : tAsg te g ⟨nx, rt, bk, ct⟩ σ H := h
theorem gname {i : Nat} {v : V} {R : L2.St → Hp → Prop} (h : R (σ.set i (some v)) H) : gName i v σ H R := h
theorem ret {te : TE} (h : te σ H rt) : tRet te ⟨nx, rt, bk, ct⟩ σ H := h
theorem drop {te : TE} (h : te σ H fun _ H1 => nx σ H1) : tDrop te ⟨nx, rt, bk, ct⟩ σ H := h
theorem ifs {c : TT} {t u : TS} (h : c σ H fun b H1 => if b = true then t D σ H1 else u D σ H1) : tIfS c t u D σ H := h
theorem par {i j : Nat} {ta : TA} (h : ta σ H fun vs H1 => ∃ v w, vs = [v, w] ∧ nx ((σ.set i (some v)).set j (some w)) H1) : tPar i j ta ⟨nx, rt, bk, ct⟩ σ H := h
/-! expressions -/
theorem var {i : Nat} {v : V} (h0 : σ[i]? = some (some v)) (h : Q v H) : tVar i σ H Q := ⟨v, h0, h⟩
theorem cst {v : V} (h : Q v H) : tC v σ H Q := h
theorem op {r : R2} {ta tb : TE} (h : ta σ H fun x H1 => tb σ H1 fun y H2 => r x y H2 Q) : tOp r ta tb σ H Q := h
theorem un {r : V → Hp → VK → Prop} {ta : TE} (h : ta σ H fun x H1 => r x H1 Q) : tUn r ta σ H Q := h
theorem cb {r : List V → Hp → VK → Prop} {t : TA} (h : t σ H fun vs H1 => r vs H1 Q) : tCB r t σ H Q := h
theorem anil {R : List V → Hp → Prop} (h : R [] H) : tNil σ H R := h
theorem acons {ta : TE} {tr : TA} {R : List V → Hp → Prop} (h : ta σ H fun x H1 => tr σ H1 fun xs H2 => R (x :: xs) H2) : tCons ta tr σ H R := h
/-! tests -/
theorem test {t : TE} {R : Bool → Hp → Prop} (h : t σ H fun x H' => ∃ k, x = .bl k ∧ R k H') : tTest t σ H R := h
theorem tb {t : TE} {R : Bool → Hp → Prop} (h : t σ H fun x H' => ∃ k, x = .bl k ∧ R k H') : tB t σ H R := h
theorem iteT {A B : Prop} (h : A) : if true = true then A else B := by rw [if_pos rfl]; exact h
theorem iteF {A B : Prop} (h : B) : if false = true then A else B := by rw [if_neg Bool.false_ne_true]; exact h
theorem iteB {b : Bool} {A B : Prop} (h1 : b = true → A) (h2 : b = false → B) : if b = true then A else B := by
  cases b
  · exact iteF (h2 rfl)
  · exact iteT (h1 rfl)
/-! operators by values -/
theorem i0 {g : Int → Int → V} {i j : Int} (h : Q (g i j) H) : rI0 g (.int i) (.int j) H Q := ⟨i, j, rfl, rfl, h⟩
theorem iC {C : Int → Int → Prop} {g : Int → Int → V} {i j : Int} (hc : C i j) (h : Q (g i j) H) : rI C g (.int i) (.int j) H Q := ⟨i, j, rfl, rfl, hc, h⟩
theorem u1 {g : Int → V} {i : Int} (h : Q (g i) H) : rU g (.int i) H Q := ⟨i, rfl, h⟩
theorem neI {i j : Int} (h : Q (.bl (!decide (i = j))) H) : rNe (.int i) (.int j) H Q := ⟨rfl, by rw [show decide (V.int i = V.int j) = decide (i = j) by simp]; exact h⟩
theorem lenL {p : Addr} {ys : List V} (h1 : SqL K H p ys) (h : Q (.int ys.length) H) : rLen K [V.ref p] H Q := .inl ⟨p, ys, rfl, .inl h1, h⟩
theorem int1 {i : Int} (h : Q (.int i) H) : rInt [V.int i] H Q := .inl ⟨i, rfl, h⟩
theorem abs1 {i : Int} (h : Q (.int (if i < 0 then -i else i)) H) : rAbs [V.int i] H Q := ⟨i, rfl, h⟩
theorem bm {T : String} {r : V → List V → Hp → VK → Prop} {to : TE} {t : TA} (h : to σ H fun x H1 => tyV K T x H1 ∧ t σ H1 fun xs H2 => r x xs H2 Q) : tBM K T r to t σ H Q := h
theorem pop {l : Addr} {xs : List V} {y : V} (h1 : H l = some (.lst xs)) (h3 : xs[xs.length - 1]? = some y) (h : Q y (upd H l (.lst xs.dropLast))) : rPop (.ref l) [] H Q := ⟨l, xs, y, rfl, rfl, h1, h3, h⟩
theorem lst {t : TA} (h : t σ H fun xs H1 => xs.length ≤ sizeLine ∧ ∀ p, H1 p = none → Q (.ref p) (upd H1 p (.lst xs))) : tLst t σ H Q := h
theorem tup {t : TA} (h : t σ H fun xs H1 => xs.length ≤ sizeLine ∧ ∀ p, H1 p = none → Q (.ref p) (upd H1 p (.tup xs))) : tTup t σ H Q := h
theorem new {n : Nat} {o : HO} {R : V → Hp → Prop} (h1 : n ≤ 1000) (h : ∀ p, H p = none → R (.ref p) (upd H p o)) : n ≤ sizeLine ∧ ∀ p, H p = none → R (.ref p) (upd H p o) := ⟨Nat.le_trans h1 (by decide), h⟩
theorem sl {r : V → Option Int → Option Int → Hp → VK → Prop} {te : TE} {tl th : TO} (h : te σ H fun x H1 => tl σ H1 fun l H2 => th σ H2 fun u H3 => r x l u H3 Q) : tSl r te tl th σ H Q := h
theorem part {t : TE} {R : Option Int → Hp → Prop} (h : t σ H fun x H1 => ∃ i, x = .int i ∧ R (some i) H1) : tPart t σ H R := h
theorem szl {xs : List V} (h : xs.length ≤ 1000) : xs.length ≤ sizeLine := Nat.le_trans h (by decide)
theorem call {sp : Sp} {dvs : List V} {E : XK} {t : TA} (h : t σ H fun vs H1 => sp (vs ++ dvs) H1 Q E) : tCall sp dvs E t σ H Q := h
end
/-! own calls, own errors, joined lists, unequal things -/
section
variable {σ : L2.St} {H : Hp} {Q : VK} {K : PySem.W.Frag}
def rNeA (K : PySem.W.Frag) : R2 := fun x y H Q => rNe x y H Q ∨ rNeD K x y H Q ∨ rNeDA x y H Q
theorem upd_upd {H : Hp} {a : Addr} {o u : HO} : upd (upd H a o) a u = upd H a u := by
  funext b
  by_cases e : b = a
  · rw [e, upd_same, upd_same]
  · rw [upd_ne e, upd_ne e, upd_ne e]
theorem same_new {H : Hp} {a : Addr} {o : HO} (h : H a = none) : Same H (upd H a o) := fun b u e => by rw [upd_ne (ne_of_none e h)]; exact e
theorem lcW {g : TG} {tt : TT} {te : TE} {vs : List Nat} {H1 : Hp} {a : Addr} {xs : List V} (h1 : SqL K H1 a xs) (h2 : xs.length ≤ 1000) {p : V → Bool} {f : V → V}
    (step : ∀ x, x ∈ xs → ∀ (H2 : Hp) (S : VK) (F : Hp → Prop), Same H1 H2 → (p x = true → S (f x) H2) → (p x = false → F H2) → g x (wipe σ vs) H2 fun σ2 H3 => wipe σ2 vs = wipe σ vs ∧ tt σ2 H3 fun b H4 => if b = true then te σ2 H4 S else F H4)
    (last : ∀ D, H1 D = none → Q (.ref D) (upd H1 D (.lst ((xs.filter p).map f)))) (D : Addr) (hD : H1 D = none) :
    ∃ W : Nat → Nat → Hp → Prop, (∃ m, W 0 m (upd H1 D (.lst []))) ∧ ∀ i m H, W i m H →
      ((Itl K a).stop i H ∧ Q (.ref D) H) ∨ ((Itl K a).go i H ∧ ∃ Nx : Hp → Prop, (∀ H', Nx H' → ∃ m', m' < m ∧ W (i + 1) m' H') ∧ ∀ x H', (Itl K a).yld i H x H' → g x (wipe σ vs) H' fun σ2 H2 => wipe σ2 vs = wipe σ vs ∧ tt σ2 H2 fun b H3 =>
        if b = true then te σ2 H3 fun y H4 => ∃ acc, H4 D = some (.lst acc) ∧ acc.length < sizeLine ∧ Nx (upd H4 D (.lst (acc ++ [y]))) else Nx H3) := by
  refine lc_list (xs := xs) (D := D) (fun i H => H = upd H1 D (.lst (((xs.take i).filter p).map f))) (by simp) (fun i H hi e => ?_) (fun i x H e1 e2 => ?_) (fun H e => ?_)
  · subst e
    exact (same_new hD).seq h1
  · subst e2
    have tk : xs.take (i + 1) = xs.take i ++ [x] := by rw [List.take_succ, e1]; rfl
    refine step x (List.mem_of_getElem? e1) _ _ _ (same_new hD) (fun hp => ⟨_, upd_same, ?_, ?_⟩) (fun hp => ?_)
    · rw [List.length_map]
      refine Nat.lt_of_le_of_lt (Nat.le_trans (List.length_filter_le _ _) (Nat.le_trans (List.length_take_le _ _) (Nat.le_refl i))) (small1000 ?_)
      have := (List.getElem?_eq_some_iff.mp e1).1
      omega
    · rw [upd_upd, tk, List.filter_append, List.map_append]
      simp [hp]
    · show upd H1 D _ = upd H1 D _
      rw [tk, List.filter_append, List.map_append]
      simp [hp]
  · subst e
    rw [List.take_length]
    exact last D hD
theorem lcSl {i : Nat} {lo hi : Option Int} {tlo thi : TO} {g : TG} {tt : TT} {te : TE} {vs : List Nat} {a : Addr} {xs : List V} (h0 : σ[i]? = some (some (.ref a))) (h1 : SqL K H a xs) (h2 : (cutV xs lo hi).length ≤ 1000)
    (hlo : ∀ R : Option Int → Hp → Prop, R lo H → tlo σ H R) (hhi : ∀ R : Option Int → Hp → Prop, R hi H → thi σ H R) (p : V → Bool) (f : V → V)
    (step : ∀ x, x ∈ cutV xs lo hi → ∀ (H2 : Hp) (S : VK) (F : Hp → Prop), Same H H2 → (p x = true → S (f x) H2) → (p x = false → F H2) → g x (wipe σ vs) H2 fun σ2 H3 => wipe σ2 vs = wipe σ vs ∧ tt σ2 H3 fun b H4 => if b = true then te σ2 H4 S else F H4)
    (last : ∀ q, H q = none → ∀ D, upd H q (.lst (cutV xs lo hi)) D = none → Q (.ref D) (upd (upd H q (.lst (cutV xs lo hi))) D (.lst (((cutV xs lo hi).filter p).map f)))) : tLc (iList K (tSl (rSlL K) (tVar i) tlo thi)) g tt te vs σ H Q :=
  ⟨_, h0, hlo _ (hhi _ ⟨a, xs, rfl, h1, fun q hq => ⟨q, rfl, ⟨_, .of upd_same⟩, lcW (.of upd_same) h2 (fun x hx H2 S F hS => step x hx H2 S F ((same_new hq).trans hS)) (last q hq)⟩⟩)⟩
end
end Rd
set_option Elab.async false
set_option linter.all false
set_option maxRecDepth 100000
set_option maxHeartbeats 4000000
/-! Dt: data that stand on the heap away from the places in B, which alone may change. -/
namespace Dt
open PySem PySem.Spec PyProof.Rows L2
def kD : Key → PyData
  | .inl i => .int i
  | .inr x => .str x
mutual
inductive Da (B : Addr → Prop) (H : Hp) : V → PyData → Prop
  | non : Da B H .non .none
  | bl (b : Bool) : Da B H (.bl b) (.bool b)
  | int (i : Int) : Da B H (.int i) (.int i)
  | str {x : Str} (h : x.length ≤ 1000) : Da B H (.str x) (.str x)
  | lst {a : Addr} {xs : List V} {ds : List PyData} : H a = some (.lst xs) → ¬ B a → DaL B H xs ds → Da B H (.ref a) (.list ds)
  | tup {a : Addr} {xs : List V} {ds : List PyData} : H a = some (.tup xs) → ¬ B a → DaL B H xs ds → Da B H (.ref a) (.tuple ds)
  | dc0 {a : Addr} : H a = some (.dK []) → ¬ B a → Da B H (.ref a) (.dict [])
  | dc1 {a : Addr} {k : Key} {v : V} {d : PyData} : H a = some (.dK [(k, v)]) → ¬ B a → Da B H v d → Da B H (.ref a) (.dict [(kD k, d)])
inductive DaL (B : Addr → Prop) (H : Hp) : List V → List PyData → Prop
  | nil : DaL B H [] []
  | cons {v : V} {vs : List V} {d : PyData} {ds : List PyData} : Da B H v d → DaL B H vs ds → DaL B H (v :: vs) (d :: ds)
end
/-- all that was tracked away from B is as it was -/
def Kp (B : Addr → Prop) (H H' : Hp) : Prop := ∀ b o, H b = some o → ¬ B b → H' b = some o
theorem Kp.refl (B : Addr → Prop) (H : Hp) : Kp B H H := fun _ _ h _ => h
theorem Kp.trans {B : Addr → Prop} {H H1 H2 : Hp} (a : Kp B H H1) (b : Kp B H1 H2) : Kp B H H2 := fun c o h n => b c o (a c o h n) n
theorem Kp.of {B : Addr → Prop} {H H' : Hp} (s : Same H H') : Kp B H H' := fun b o h _ => s b o h
theorem Kp.new {B : Addr → Prop} {H H' : Hp} {a : Addr} {o : HO} (s : Kp B H H') (h : H' a = none) : Kp B H (upd H' a o) := fun b u e n => by
  have z := s b u e n
  rw [upd_ne (ne_of_none z h)]
  exact z
mutual
theorem Da.keep {B : Addr → Prop} {H H' : Hp} (s : Kp B H H') : ∀ {v : V} {d : PyData}, Da B H v d → Da B H' v d
  | _, _, .non => .non
  | _, _, .bl b => .bl b
  | _, _, .int i => .int i
  | _, _, .str h => .str h
  | _, _, .lst e n h => .lst (s _ _ e n) n (h.keep s)
  | _, _, .tup e n h => .tup (s _ _ e n) n (h.keep s)
  | _, _, .dc0 e n => .dc0 (s _ _ e n) n
  | _, _, .dc1 e n h => .dc1 (s _ _ e n) n (h.keep s)
theorem DaL.keep {B : Addr → Prop} {H H' : Hp} (s : Kp B H H') : ∀ {vs : List V} {ds : List PyData}, DaL B H vs ds → DaL B H' vs ds
  | _, _, .nil => .nil
  | _, _, .cons h t => .cons (h.keep s) (t.keep s)
end
theorem DaL.len {B : Addr → Prop} {H : Hp} : ∀ {vs : List V} {ds : List PyData}, DaL B H vs ds → vs.length = ds.length
  | _, _, .nil => rfl
  | _, _, .cons _ t => by rw [List.length_cons, List.length_cons, t.len]
theorem DaL.get {B : Addr → Prop} {H : Hp} : ∀ {vs : List V} {ds : List PyData} {i : Nat} {v : V}, DaL B H vs ds → vs[i]? = some v → ∃ d, ds[i]? = some d ∧ Da B H v d
  | _, _, 0, _, .cons h _, e => by
    cases e
    exact ⟨_, rfl, h⟩
  | _, _, i + 1, w, .cons _ t, e => t.get (i := i) (v := w) (by simpa using e)
  | _, _, _, _, .nil, e => by cases e
theorem DaL.get' {B : Addr → Prop} {H : Hp} : ∀ {vs : List V} {ds : List PyData} {i : Nat} {d : PyData}, DaL B H vs ds → ds[i]? = some d → ∃ v, vs[i]? = some v ∧ Da B H v d
  | _, _, 0, _, .cons h _, e => by
    cases e
    exact ⟨_, rfl, h⟩
  | _, _, i + 1, w, .cons _ t, e => t.get' (i := i) (d := w) (by simpa using e)
  | _, _, _, _, .nil, e => by cases e
theorem DaL.app {B : Addr → Prop} {H : Hp} : ∀ {vs us : List V} {ds es : List PyData}, DaL B H vs ds → DaL B H us es → DaL B H (vs ++ us) (ds ++ es)
  | _, _, _, _, .nil, h => h
  | _, _, _, _, .cons a t, h => .cons a (t.app h)
theorem DaL.drop {B : Addr → Prop} {H : Hp} : ∀ {vs : List V} {ds : List PyData} (n : Nat), DaL B H vs ds → DaL B H (vs.drop n) (ds.drop n)
  | _, _, 0, h => h
  | _, _, n + 1, .nil => .nil
  | _, _, n + 1, .cons _ t => t.drop n
theorem DaL.take {B : Addr → Prop} {H : Hp} : ∀ {vs : List V} {ds : List PyData} (n : Nat), DaL B H vs ds → DaL B H (vs.take n) (ds.take n)
  | _, _, 0, _ => .nil
  | _, _, n + 1, .nil => .nil
  | _, _, n + 1, .cons a t => .cons a (t.take n)
theorem DaL.mem {B : Addr → Prop} {H : Hp} {vs : List V} {ds : List PyData} {v : V} (h : DaL B H vs ds) (hv : v ∈ vs) : ∃ d, d ∈ ds ∧ Da B H v d := by
  obtain ⟨i, hi, e⟩ := List.mem_iff_getElem.mp hv
  obtain ⟨d, e1, e2⟩ := h.get (i := i) (v := v) (by rw [List.getElem?_eq_getElem hi, e])
  exact ⟨d, List.mem_of_getElem? e1, e2⟩
/-- the cut of data, as of values -/
def cutD (ds : List PyData) (lo hi : Option Int) : List PyData := (ds.drop (HT.sIx ds.length 0 lo)).take (HT.sIx ds.length ds.length hi - HT.sIx ds.length 0 lo)
theorem DaL.cut {B : Addr → Prop} {H : Hp} {vs : List V} {ds : List PyData} (h : DaL B H vs ds) (lo hi : Option Int) : DaL B H (cutV vs lo hi) (cutD ds lo hi) := by
  unfold cutV cutD
  rw [h.len]
  exact (h.drop _).take _
/-- a value's type -/
def tyD : PyData → Value
  | .none => .type "NoneType"
  | .bool _ => .type "bool"
  | .int _ => .type "int"
  | .str _ => .type "str"
  | .list _ => .type "list"
  | .tuple _ => .type "tuple"
  | .dict _ => .type "dict"
theorem Da.ty {B : Addr → Prop} {H : Hp} {K : PySem.W.Frag} {v : V} {d : PyData} (h : Da B H v d) : TyX K H v (tyD d) := by
  cases h with
  | non => exact .base .non
  | bl b => exact .base (.bl b)
  | int i => exact .base (.int i)
  | str h => exact .base (.str _)
  | lst e _ _ => exact .base (.lst e)
  | tup e _ _ => exact .base (.tup e)
  | dc0 e _ => exact .base (.dK e)
  | dc1 e _ _ => exact .base (.dK e)
def isT (n : String) (d : PyData) : Bool := match n, d with
  | "tuple", .tuple _ => true
  | "list", .list _ => true
  | "str", .str _ => true
  | "int", .int _ => true
  | "int", .bool _ => true
  | "bool", .bool _ => true
  | _, _ => false
/-! what they read as -/
section
variable {X : Cx} {pins : List (Addr × Obj)} {σ : L2.St} {H : Hp} {s : Shared} {B : Addr → Prop}
theorem key_reads {P : Program} {w : World} {k : Key} {v : Value} {h : Heap} (e : (mixKind P w).is k v = true) : Reads h v (kD k) [] := by
  rcases keyIs_shape e with ⟨i, t, rfl, rfl⟩ | ⟨x, t, rfl, rfl⟩
  · exact .int i t
  · exact .str x t
mutual
theorem Da.reads (I : Inv X pins σ H s) (hm : H sysModules = none) : ∀ {d : PyData} {v : V} {u : Value}, Da B H v d → RelV v u → ∃ as, Reads s.heap u d as ∧ sysModules ∉ as
  | _, _, _, .non, r => by
    cases r
    exact ⟨_, Reads.none, by simp⟩
  | _, _, _, .bl b, r => by
    cases r
    exact ⟨_, Reads.bool b, by simp⟩
  | _, _, _, .int i, r => by
    obtain ⟨t, rfl⟩ := r
    exact ⟨_, Reads.int i t, by simp⟩
  | _, _, _, .str _, r => by
    obtain ⟨t, rfl⟩ := r
    exact ⟨_, Reads.str _ t, by simp⟩
  | _, _, _, .lst (a := a) e n ha, r => by
    cases r
    obtain ⟨its, rv, ⟨o, n, ho, hc, _, hd⟩, _⟩ := I.list (SqL.of e)
    obtain ⟨as, hr, hs⟩ := DaL.reads I hm ha rv
    refine ⟨_, Reads.list ho hc hd hr, fun z => ?_⟩
    rcases List.mem_cons.mp z with z | z
    · rw [← z, hm] at e
      cases e
    · exact hs z
  | _, _, _, .tup e n ha, r => by
    cases r
    obtain ⟨its, rv, ⟨o, ho, hc, n, hd⟩, _⟩ := I.tuple (SqT.of e)
    obtain ⟨as, hr, hs⟩ := DaL.reads I hm ha rv
    exact ⟨_, Reads.tuple ho hc hd hr, hs⟩
  | _, _, _, .dc0 (a := a) e n, r => by
    cases r
    obtain ⟨_, hsm, vs, hk, o, es, ep, ho, hx, hd, _, hp, _⟩ := (show ObjOk X.prog X.w H s.heap a (.dK []) from I.hok a _ e)
    cases hk
    have hp' : Pairs (mixKind X.prog X.w) es.toList [] := hp
    cases hes : es.toList with
    | cons x r => rw [hes] at hp'; cases hp'
    | nil =>
      refine ⟨_, Reads.dict (kvs := []) ho hx.1 hd (by rw [hes]; exact .nil) (by rw [hes]; exact .nil), fun z => ?_⟩
      have z : sysModules = a := by simpa using z
      rw [← z] at hsm
      simp at hsm
  | _, _, _, .dc1 (a := a) (k := k) (v := w) (d := d) e n hv, r => by
    cases r
    obtain ⟨_, hsm, vs, hk, o, es, ep, ho, hx, hd, _, hp, _⟩ := (show ObjOk X.prog X.w H s.heap a (.dK [(k, w)]) from I.hok a _ e)
    cases hk with
    | cons hq hk =>
      cases hk
      rename_i kv
      obtain ⟨h1, h2⟩ := hq
      dsimp only at h1 h2
      cases hes : es.toList with
      | nil => rw [hes] at hp; cases hp
      | cons x r =>
        rw [hes] at hp
        cases hp with
        | cons p1 p2 p3 =>
          cases p3
          rw [← h1] at p1
          rw [← p2] at h2
          obtain ⟨as, hr, hs⟩ := Da.reads I hm hv h2
          refine ⟨_, Reads.dict (kvs := [(kD k, d)]) ho hx.1 hd (by rw [hes]; exact .cons (key_reads p1) .nil) (by rw [hes]; exact .cons hr .nil), fun z => ?_⟩
          have z : sysModules = a ∨ sysModules ∈ as := by simpa using z
          rcases z with z | z
          · rw [← z] at hsm
            simp at hsm
          · exact hs z
theorem DaL.reads (I : Inv X pins σ H s) (hm : H sysModules = none) : ∀ {ds : List PyData} {vs : List V} {us : List Value}, DaL B H vs ds → Vals vs us → ∃ as, ReadsAll s.heap us ds as ∧ sysModules ∉ as
  | _, _, _, .nil, r => by
    cases r
    exact ⟨_, ReadsAll.nil, by simp⟩
  | _, _, _, .cons h1 h2, r => by
    cases r with
    | cons r1 r2 =>
      obtain ⟨as, q1, n1⟩ := Da.reads I hm h1 r1
      obtain ⟨bs, q2, n2⟩ := DaL.reads I hm h2 r2
      exact ⟨_, ReadsAll.cons q1 q2, by rw [List.mem_append]; rintro (z | z); exact n1 z; exact n2 z⟩
end
/-- repr of such data -/
def rRepr (B : Addr → Prop) : List V → Hp → VK → Prop := fun xs H Q => ∃ v d, xs = [v] ∧ Da B H v d ∧ d.showable = true ∧ d.shown.length ≤ sizeLine ∧ d.depth ≤ 190 ∧ Q (.str d.shown) H
end
end Dt
set_option Elab.async false
set_option linter.all false
set_option maxRecDepth 100000
set_option maxHeartbeats 4000000
/-! Dg: the readings' words for data. -/
namespace Dt
open PySem PySem.Spec PyProof.Rows L2
/-- d.get(text, x), d a dict of the written part -/
def tKGet2 (K : PySem.W.Frag) (w : World) (td ty tx : TE) : TE := fun σ H Q => td σ H fun x H1 => ∃ a es n, x = .ref a ∧ KDict K w a es n ∧ ty σ H1 fun y H2 => tx σ H2 fun d H3 => ∃ z v, y = .str z ∧ (∀ u0, RelV d u0 → RelV v ((findBy Value.isStrOf es z).getD u0)) ∧ Q v H3
/-- a text times an int -/
def mulT (z : Str) (n : Int) : Str := ⟨(List.replicate n.toNat z.cps).foldl (· ++ ·) #[]⟩
def rMulS : R2 := fun x y H Q => ∃ z n, x = .str z ∧ y = .int n ∧ 2 ≤ n ∧ n ≤ 1000 ∧ (n == 1 || z.length == 0) = false ∧ z.length ≤ 1000 ∧ Builtin.Str.tooLong (z.length * n.toNat) = false ∧ (mulT z n).length ≤ sizeLine ∧ Q (.str (mulT z n)) H
theorem op_mulS {X : Cx} : OpR X (binaryOp .Mult) rMulS := by
  intro pins s σ H x y v u Q I rx ry h
  obtain ⟨z, n, rfl, rfl, h1, h2, h3, h4, h5, h6, q⟩ := h
  obtain ⟨t, rfl⟩ := rx
  obtain ⟨t', rfl⟩ := ry
  refine P.mul_str (by rw [decide_eq_false (by omega), decide_eq_false (by omega)]; rfl) (fun _ _ => ?_) (fun _ _ => h5) ?_
  · have h7 : (1000 : Int) ≤ (2 ^ 63 - 1) / n := by
      rw [Int.le_ediv_iff_mul_le (by omega)]
      omega
    omega
  · rw [if_neg (by omega), if_neg (by rw [h3]; exact Bool.false_ne_true)]
    exact ⟨h6, ⟨.str (mulT z n), H, I.tok _, ⟨_, rfl⟩, q⟩⟩
/-- B stands -/
def Tr (B : Addr → Prop) (H : Hp) : Prop := ∀ a, H a = none → ¬ B a
theorem Tr.same {B : Addr → Prop} {H H' : Hp} (t : Tr B H) (s : Same H H') : Tr B H' := fun a h => t a (s.free h)
theorem Tr.none {H : Hp} : Tr (fun _ => False) H := fun _ _ z => z
theorem Da.same {B : Addr → Prop} {H H' : Hp} {v : V} {d : PyData} (h : Da B H v d) (s : Same H H') : Da B H' v d := h.keep (.of s)
theorem DaL.same {B : Addr → Prop} {H H' : Hp} {v : List V} {d : List PyData} (h : DaL B H v d) (s : Same H H') : DaL B H' v d := h.keep (.of s)
mutual
theorem Da.imp {B B' : Addr → Prop} {H : Hp} (h : ∀ a o, H a = some o → ¬ B a → ¬ B' a) : ∀ {v : V} {d : PyData}, Da B H v d → Da B' H v d
  | _, _, .non => .non
  | _, _, .bl b => .bl b
  | _, _, .int i => .int i
  | _, _, .str x => .str x
  | _, _, .lst e n l => .lst e (h _ _ e n) (l.imp h)
  | _, _, .tup e n l => .tup e (h _ _ e n) (l.imp h)
  | _, _, .dc0 e n => .dc0 e (h _ _ e n)
  | _, _, .dc1 e n l => .dc1 e (h _ _ e n) (l.imp h)
theorem DaL.imp {B B' : Addr → Prop} {H : Hp} (h : ∀ a o, H a = some o → ¬ B a → ¬ B' a) : ∀ {vs : List V} {ds : List PyData}, DaL B H vs ds → DaL B' H vs ds
  | _, _, .nil => .nil
  | _, _, .cons a t => .cons (a.imp h) (t.imp h)
end
section
variable {σ : L2.St} {H : Hp} {Q : VK} {K : PySem.W.Frag} {B : Addr → Prop}
theorem cutV_whole {α : Type} {xs : List α} {lo hi : Option Int} (h : HT.sIx xs.length 0 lo = 0 ∧ HT.sIx xs.length xs.length hi = xs.length) : (xs.drop (HT.sIx xs.length 0 lo)).take (HT.sIx xs.length xs.length hi - HT.sIx xs.length 0 lo) = xs := by
  rw [h.1, h.2]
  simp
/-- a slice of a tuple -/
theorem sl {v : V} {ds : List PyData} {lo hi : Option Int} (h : Da B H v (.tuple ds)) (t : Tr B H) (k : ∀ (u : V) (H' : Hp), Same H H' → Da B H' u (.tuple (cutD ds lo hi)) → Q u H') : rSlA K v lo hi H Q := by
  cases h with
  | @tup a xs _ e n hl =>
    refine ⟨a, xs, rfl, .of e, fun hw => k _ _ (Same.refl _) ?_, fun hw p hp => k _ _ (Rd.same_new hp) ?_⟩
    · have hw' : HT.sIx ds.length 0 lo = 0 ∧ HT.sIx ds.length ds.length hi = ds.length := by rw [hl.len] at hw; exact hw
      unfold cutD
      rw [cutV_whole hw']
      exact .tup e n hl
    · exact .tup upd_same (t _ hp) ((hl.cut lo hi).same (Rd.same_new hp))
end
end Dt
set_option Elab.async false
set_option linter.all false
set_option maxRecDepth 100000
set_option maxHeartbeats 4000000
/-! Dw: readings over data. D: a value with all that hangs on it, no heap; what changes is kept apart (Wd). -/
namespace Dw
open PySem PySem.Spec PyProof.Rows L2
inductive D where
  | non | bl (b : Bool) | int (i : Int) | str (x : Str)
  | lst (ds : List D) | tup (ds : List D)
  | dic (kvs : List (Key × D)) | dit (kvs : List (List Key × D))
  | obj (C : Addr) (fs : List (Str × D))
  | opq (a : Addr) | ty (n : String)
  deriving Inhabited
mutual
inductive Da (B : Addr → Prop) (H : Hp) : V → D → Prop
  | non : Da B H .non .non
  | bl (b : Bool) : Da B H (.bl b) (.bl b)
  | int (i : Int) : Da B H (.int i) (.int i)
  | str {x : Str} (h : x.length ≤ sizeLine) : Da B H (.str x) (.str x)
  | lst {a : Addr} {xs : List V} {ds : List D} : H a = some (.lst xs) → ¬ B a → DaL B H xs ds → ds.length ≤ sizeLine → Da B H (.ref a) (.lst ds)
  | tup {a : Addr} {xs : List V} {ds : List D} : H a = some (.tup xs) → ¬ B a → DaL B H xs ds → ds.length ≤ sizeLine → Da B H (.ref a) (.tup ds)
  | dic {a : Addr} {xs : List (Key × V)} {ds : List (Key × D)} : H a = some (.dK xs) → ¬ B a → DaK B H xs ds → Da B H (.ref a) (.dic ds)
  | dit {a : Addr} {xs : List (List Key × V)} {ds : List (List Key × D)} : H a = some (.dT xs) → ¬ B a → DaT B H xs ds → Da B H (.ref a) (.dit ds)
  | obj {a C dx : Addr} {xs : List (Str × V)} {ds : List (Str × D)} : H a = some (.ins C dx xs) → ¬ B a → DaF B H xs ds → Da B H (.ref a) (.obj C ds)
  | opq (a : Addr) : Da B H (.ref a) (.opq a)
  | ty (n : String) : Da B H (.ty n) (.ty n)
inductive DaL (B : Addr → Prop) (H : Hp) : List V → List D → Prop
  | nil : DaL B H [] []
  | cons {v : V} {vs : List V} {d : D} {ds : List D} : Da B H v d → DaL B H vs ds → DaL B H (v :: vs) (d :: ds)
inductive DaK (B : Addr → Prop) (H : Hp) : List (Key × V) → List (Key × D) → Prop
  | nil : DaK B H [] []
  | cons {k : Key} {v : V} {vs : List (Key × V)} {d : D} {ds : List (Key × D)} : Da B H v d → DaK B H vs ds → DaK B H ((k, v) :: vs) ((k, d) :: ds)
inductive DaT (B : Addr → Prop) (H : Hp) : List (List Key × V) → List (List Key × D) → Prop
  | nil : DaT B H [] []
  | cons {k : List Key} {v : V} {vs : List (List Key × V)} {d : D} {ds : List (List Key × D)} : Da B H v d → DaT B H vs ds → DaT B H ((k, v) :: vs) ((k, d) :: ds)
inductive DaF (B : Addr → Prop) (H : Hp) : List (Str × V) → List (Str × D) → Prop
  | nil : DaF B H [] []
  | cons {k : Str} {v : V} {vs : List (Str × V)} {d : D} {ds : List (Str × D)} : Da B H v d → DaF B H vs ds → DaF B H ((k, v) :: vs) ((k, d) :: ds)
end
/-- from B and H to B' and H': what data stand on stands -/
def Mv (B : Addr → Prop) (H : Hp) (B' : Addr → Prop) (H' : Hp) : Prop := ∀ a o, H a = some o → ¬ B a → H' a = some o ∧ ¬ B' a
theorem Mv.refl {B : Addr → Prop} {H : Hp} : Mv B H B H := fun _ _ h n => ⟨h, n⟩
theorem Mv.trans {B B' B'' : Addr → Prop} {H H' H'' : Hp} (m : Mv B H B' H') (n : Mv B' H' B'' H'') : Mv B H B'' H'' := fun a o h b => n a o (m a o h b).1 (m a o h b).2
mutual
theorem Da.mv {B B' : Addr → Prop} {H H' : Hp} (s : Mv B H B' H') : ∀ {v : V} {d : D}, Da B H v d → Da B' H' v d
  | _, _, .non => .non
  | _, _, .bl b => .bl b
  | _, _, .int i => .int i
  | _, _, .str h => .str h
  | _, _, .lst e n h z => .lst (s _ _ e n).1 (s _ _ e n).2 (h.mv s) z
  | _, _, .tup e n h z => .tup (s _ _ e n).1 (s _ _ e n).2 (h.mv s) z
  | _, _, .dic e n h => .dic (s _ _ e n).1 (s _ _ e n).2 (h.mv s)
  | _, _, .dit e n h => .dit (s _ _ e n).1 (s _ _ e n).2 (h.mv s)
  | _, _, .obj e n h => .obj (s _ _ e n).1 (s _ _ e n).2 (h.mv s)
  | _, _, .opq a => .opq a
  | _, _, .ty n => .ty n
theorem DaL.mv {B B' : Addr → Prop} {H H' : Hp} (s : Mv B H B' H') : ∀ {vs : List V} {ds : List D}, DaL B H vs ds → DaL B' H' vs ds
  | _, _, .nil => .nil
  | _, _, .cons h t => .cons (h.mv s) (t.mv s)
theorem DaK.mv {B B' : Addr → Prop} {H H' : Hp} (s : Mv B H B' H') : ∀ {vs : List (Key × V)} {ds : List (Key × D)}, DaK B H vs ds → DaK B' H' vs ds
  | _, _, .nil => .nil
  | _, _, .cons h t => .cons (h.mv s) (t.mv s)
theorem DaT.mv {B B' : Addr → Prop} {H H' : Hp} (s : Mv B H B' H') : ∀ {vs : List (List Key × V)} {ds : List (List Key × D)}, DaT B H vs ds → DaT B' H' vs ds
  | _, _, .nil => .nil
  | _, _, .cons h t => .cons (h.mv s) (t.mv s)
theorem DaF.mv {B B' : Addr → Prop} {H H' : Hp} (s : Mv B H B' H') : ∀ {vs : List (Str × V)} {ds : List (Str × D)}, DaF B H vs ds → DaF B' H' vs ds
  | _, _, .nil => .nil
  | _, _, .cons h t => .cons (h.mv s) (t.mv s)
end
section
variable {B : Addr → Prop} {H : Hp}
theorem DaL.len : ∀ {vs : List V} {ds : List D}, DaL B H vs ds → vs.length = ds.length
  | _, _, .nil => rfl
  | _, _, .cons _ t => by rw [List.length_cons, List.length_cons, t.len]
theorem DaL.get : ∀ {vs : List V} {ds : List D} {i : Nat} {v : V}, DaL B H vs ds → vs[i]? = some v → ∃ d, ds[i]? = some d ∧ Da B H v d
  | _, _, 0, _, .cons h _, e => by
    cases e
    exact ⟨_, rfl, h⟩
  | _, _, i + 1, w, .cons _ t, e => t.get (i := i) (v := w) (by simpa using e)
  | _, _, _, _, .nil, e => by cases e
theorem DaL.get' : ∀ {vs : List V} {ds : List D} {i : Nat} {d : D}, DaL B H vs ds → ds[i]? = some d → ∃ v, vs[i]? = some v ∧ Da B H v d
  | _, _, 0, _, .cons h _, e => by
    cases e
    exact ⟨_, rfl, h⟩
  | _, _, i + 1, w, .cons _ t, e => t.get' (i := i) (d := w) (by simpa using e)
  | _, _, _, _, .nil, e => by cases e
theorem DaL.app : ∀ {vs us : List V} {ds es : List D}, DaL B H vs ds → DaL B H us es → DaL B H (vs ++ us) (ds ++ es)
  | _, _, _, _, .nil, h => h
  | _, _, _, _, .cons a t, h => .cons a (t.app h)
theorem DaL.drop : ∀ {vs : List V} {ds : List D} (n : Nat), DaL B H vs ds → DaL B H (vs.drop n) (ds.drop n)
  | _, _, 0, h => h
  | _, _, n + 1, .nil => .nil
  | _, _, n + 1, .cons _ t => t.drop n
theorem DaL.take : ∀ {vs : List V} {ds : List D} (n : Nat), DaL B H vs ds → DaL B H (vs.take n) (ds.take n)
  | _, _, 0, _ => .nil
  | _, _, n + 1, .nil => .nil
  | _, _, n + 1, .cons a t => .cons a (t.take n)
theorem DaL.setAt : ∀ {vs : List V} {ds : List D} (i : Nat) {v : V} {d : D}, DaL B H vs ds → Da B H v d → DaL B H (vs.set i v) (ds.set i d)
  | _, _, _, _, _, .nil, _ => .nil
  | _, _, 0, _, _, .cons _ t, h => .cons h t
  | _, _, i + 1, _, _, .cons a t, h => .cons a (t.setAt i h)
theorem DaL.erase : ∀ {vs : List V} {ds : List D} (i : Nat), DaL B H vs ds → DaL B H (vs.eraseIdx i) (ds.eraseIdx i)
  | _, _, _, .nil => .nil
  | _, _, 0, .cons _ t => t
  | _, _, i + 1, .cons a t => .cons a (t.erase i)
theorem DaL.mem {vs : List V} {ds : List D} {v : V} (h : DaL B H vs ds) (hv : v ∈ vs) : ∃ d, d ∈ ds ∧ Da B H v d := by
  obtain ⟨i, hi, e⟩ := List.mem_iff_getElem.mp hv
  obtain ⟨d, e1, e2⟩ := h.get (i := i) (v := v) (by rw [List.getElem?_eq_getElem hi, e])
  exact ⟨d, List.mem_of_getElem? e1, e2⟩
theorem DaF.look : ∀ {vs : List (Str × V)} {ds : List (Str × D)} {f : Str} {d : D}, DaF B H vs ds → ds.lookup f = some d → ∃ v, vs.lookup f = some v ∧ Da B H v d
  | _, _, f, d, .nil, e => by cases e
  | _, _, f, d, .cons (k := k) h t, e => by
    by_cases q : (f == k) = true
    · rw [List.lookup_cons, q] at e
      cases e
      exact ⟨_, by rw [List.lookup_cons, q], h⟩
    · have q' : (f == k) = false := by simpa using q
      rw [List.lookup_cons, q'] at e
      obtain ⟨v, e1, h1⟩ := t.look e
      exact ⟨v, by rw [List.lookup_cons, q']; exact e1, h1⟩
theorem DaF.len : ∀ {vs : List (Str × V)} {ds : List (Str × D)}, DaF B H vs ds → vs.length = ds.length
  | _, _, .nil => rfl
  | _, _, .cons _ t => by rw [List.length_cons, List.length_cons, t.len]
end
/-! the sizes that all data have -/
mutual
def D.ok : D → Prop
  | .str x => x.length ≤ sizeLine
  | .lst ds => ds.length ≤ sizeLine ∧ D.oks ds
  | .tup ds => ds.length ≤ sizeLine ∧ D.oks ds
  | _ => True
def D.oks : List D → Prop
  | [] => True
  | d :: r => d.ok ∧ D.oks r
end
mutual
theorem Da.ok {B : Addr → Prop} {H : Hp} : ∀ {d : D} {v : V}, Da B H v d → d.ok
  | .non, _, _ => by unfold D.ok; exact True.intro
  | .bl _, _, _ => by unfold D.ok; exact True.intro
  | .int _, _, _ => by unfold D.ok; exact True.intro
  | .str _, _, h => by
    cases h with
    | str h => unfold D.ok; exact h
  | .lst ds, _, h => by
    cases h with
    | lst e n l z => unfold D.ok; exact ⟨z, DaL.oks l⟩
  | .tup ds, _, h => by
    cases h with
    | tup e n l z => unfold D.ok; exact ⟨z, DaL.oks l⟩
  | .dic _, _, _ => by unfold D.ok; exact True.intro
  | .dit _, _, _ => by unfold D.ok; exact True.intro
  | .obj _ _, _, _ => by unfold D.ok; exact True.intro
  | .opq _, _, _ => by unfold D.ok; exact True.intro
  | .ty _, _, _ => by unfold D.ok; exact True.intro
theorem DaL.oks {B : Addr → Prop} {H : Hp} : ∀ {ds : List D} {vs : List V}, DaL B H vs ds → D.oks ds
  | [], _, _ => by unfold D.oks; exact True.intro
  | d :: r, _, h => by
    cases h with
    | cons a t => unfold D.oks; exact ⟨Da.ok a, DaL.oks t⟩
end
theorem D.oks_mem : ∀ {ds : List D} {d : D}, D.oks ds → d ∈ ds → d.ok
  | _ :: _, _, h, .head _ => by
    unfold D.oks at h
    exact h.1
  | _ :: _, _, h, .tail _ m => by
    unfold D.oks at h
    exact D.oks_mem h.2 m
/-- what changes: C the places, J what holds of them, by the state -/
structure Wd (S : Type) where
  C : S → Addr → Prop
  J : S → Hp → Prop
  tr : ∀ s H a, J s H → C s a → H a ≠ none
  st : ∀ s H H', J s H → (∀ a, C s a → H' a = H a) → (∀ a xs, H a = some (.tup xs) → H' a = some (.tup xs)) → J s H'
  ct : ∀ s H a xs, J s H → C s a → H a ≠ some (.tup xs)
section
variable {S : Type} (W : Wd S)
structure Fr (s : S) (H : Hp) (s' : S) (H' : Hp) : Prop where
  kp : ∀ b o, H b = some o → ¬ W.C s b → H' b = some o
  grow : ∀ a, W.C s a → W.C s' a
  new : ∀ a, W.C s' a → W.C s a ∨ H a = none
structure At (R : Addr → Prop) (s : S) (H : Hp) : Prop where
  j : W.J s H
  r : ∀ a, R a → H a ≠ none ∧ ¬ W.C s a
  t : ∀ a xs, R a → H a ≠ some (.tup xs)
def Bf (R : Addr → Prop) (s : S) : Addr → Prop := fun a => R a ∨ W.C s a
end
section
variable {S : Type} {W : Wd S} {R : Addr → Prop} {s s' s'' : S} {H H' H'' : Hp}
theorem Fr.refl : Fr W s H s H := ⟨fun _ _ h _ => h, fun _ h => h, fun _ h => .inl h⟩
theorem Fr.trans (f : Fr W s H s' H') (g : Fr W s' H' s'' H'') : Fr W s H s'' H'' where
  kp b o h n := by
    have h' := f.kp b o h n
    refine g.kp b o h' fun c => ?_
    rcases f.new b c with q | q
    · exact n q
    · rw [q] at h; cases h
  grow a c := g.grow a (f.grow a c)
  new a c := by
    rcases g.new a c with q | q
    · exact f.new a q
    · cases h : H a with
      | none => exact .inr rfl
      | some o =>
        by_cases n : W.C s a
        · exact .inl n
        · rw [f.kp a o h n] at q; cases q
theorem Fr.mv (f : Fr W s H s' H') : Mv (Bf W R s) H (Bf W R s') H' := fun a o h n => ⟨f.kp a o h fun c => n (.inr c), fun c => by
  rcases c with c | c
  · exact n (.inl c)
  · rcases f.new a c with q | q
    · exact n (.inr q)
    · rw [q] at h; cases h⟩
theorem At.fr (t : At W R s H) (f : Fr W s H s' H') (j : W.J s' H') : At W R s' H' where
  j := j
  r a r := by
    obtain ⟨h, n⟩ := t.r a r
    cases e : H a with
    | none => exact absurd e h
    | some o =>
      refine ⟨by rw [f.kp a o e n]; simp, fun c => ?_⟩
      rcases f.new a c with q | q
      · exact n q
      · rw [q] at e; cases e
  t a xs r z := by
    obtain ⟨h, n⟩ := t.r a r
    cases e : H a with
    | none => exact absurd e h
    | some o =>
      rw [f.kp a o e n] at z
      cases z
      exact t.t a xs r e
theorem At.fresh (t : At W R s H) {p : Addr} (h : H p = none) : ¬ Bf W R s p := fun z => by
  rcases z with z | z
  · exact (t.r p z).1 h
  · exact W.tr s H p t.j z h
/-- a tuple is none of the things that change -/
theorem At.tup (t : At W R s H) {a : Addr} {xs : List V} (e : H a = some (.tup xs)) : ¬ Bf W R s a := fun z => z.elim (fun r => t.t a xs r e) fun c => W.ct s H a xs t.j c e
theorem Fr.new_at {p : Addr} {o : HO} (h : H p = none) (t : At W R s H) : Fr W s H s (upd H p o) := ⟨fun b u e _ => by rw [upd_ne (ne_of_none e h)]; exact e, fun _ c => c, fun _ c => .inl c⟩
theorem At.new_at {p : Addr} {o : HO} (h : H p = none) (t : At W R s H) : At W R s (upd H p o) := by
  refine t.fr (Fr.new_at h t) (W.st s H _ t.j (fun a c => ?_) fun a xs e => ?_)
  · rw [upd_ne fun z => W.tr s H a t.j c (by rw [z]; exact h)]
  · rw [upd_ne (ne_of_none e h)]
    exact e
theorem At.imp {R' : Addr → Prop} (t : At W R s H) (h : ∀ a, R' a → R a) : At W R' s H := ⟨t.j, fun a r => t.r a (h a r), fun a xs r => t.t a xs (h a r)⟩
theorem Da.imp {B B' : Addr → Prop} {v : V} {d : D} (h : Da B H v d) (q : ∀ a, B' a → B a) : Da B' H v d := h.mv fun a o e n => ⟨e, fun b => n (q a b)⟩
theorem DaL.imp {B B' : Addr → Prop} {v : List V} {d : List D} (h : DaL B H v d) (q : ∀ a, B' a → B a) : DaL B' H v d := h.mv fun a o e n => ⟨e, fun b => n (q a b)⟩
end
end Dw
set_option Elab.async false
set_option linter.all false
set_option maxRecDepth 100000
set_option maxHeartbeats 4000000
/-! Ds: what a reading says over data: SimE, SimT, SimA, SimS .. -/
namespace Dw
open PySem PySem.Spec PyProof.Rows L2
/-- a slot: data; a list, a dict of the def's own that may still change; the instance that is being made -/
inductive Sl where
  | no | dat (d : D) | own (ds : List D) | ownk (ds : List (Key × D)) | ownt (ds : List (List Key × D))
  deriving Inhabited
@[simp] def sg : List Sl → Nat → Sl
  | [], _ => .no
  | a :: _, 0 => a
  | _ :: r, i + 1 => sg r i
@[simp] def ss : List Sl → Nat → Sl → List Sl
  | [], _, _ => []
  | _ :: r, 0, x => x :: r
  | a :: r, i + 1, x => a :: ss r i x
def Sl.isO : Sl → Bool
  | .own _ => true
  | .ownk _ => true
  | .ownt _ => true
  | _ => false
theorem ss_len : ∀ (e : List Sl) (i : Nat) (x : Sl), (ss e i x).length = e.length
  | [], _, _ => rfl
  | _ :: r, 0, _ => rfl
  | a :: r, i + 1, x => congrArg (· + 1) (ss_len r i x)
theorem sg_ss_ne : ∀ (e : List Sl) (i j : Nat) (x : Sl), i ≠ j → sg (ss e i x) j = sg e j
  | [], _, _, _, _ => rfl
  | _ :: r, 0, 0, _, h => absurd rfl h
  | _ :: r, 0, j + 1, _, _ => rfl
  | a :: r, i + 1, 0, _, _ => rfl
  | a :: r, i + 1, j + 1, x, h => sg_ss_ne r i j x fun z => h (by rw [z])
theorem sg_ss : ∀ (e : List Sl) (i : Nat) (x : Sl), i < e.length → sg (ss e i x) i = x
  | [], _, _, h => absurd h (Nat.not_lt_zero _)
  | _ :: r, 0, _, _ => rfl
  | a :: r, i + 1, x, h => sg_ss r i x (Nat.lt_of_succ_lt_succ h)
theorem ss_out : ∀ (e : List Sl) (i : Nat) (x : Sl), e.length ≤ i → ss e i x = e
  | [], _, _, _ => rfl
  | _ :: r, 0, _, h => absurd h (by simp)
  | a :: r, i + 1, x, h => congrArg (a :: ·) (ss_out r i x (Nat.le_of_succ_le_succ h))
theorem sg_out : ∀ (e : List Sl) (i : Nat), e.length ≤ i → sg e i = .no
  | [], _, _ => rfl
  | _ :: r, 0, h => absurd h (by simp)
  | a :: r, i + 1, h => sg_out r i (Nat.le_of_succ_le_succ h)
/-- an exception: its class, its fields -/
structure Xc where
  C : Addr
  fs : List (Str × D)
def XcR (B : Addr → Prop) (H : Hp) (c : Xc) (cls : Value) (d : Option Addr) : Prop :=
  cls = .ref c.C ∧ ((c.fs = [] ∧ d = none) ∨ ∃ a xs, d = some a ∧ H a = some (.xd xs) ∧ ¬ B a ∧ DaF B H xs c.fs)
/-- how a def was entered -/
structure Gm (S : Type) where
  H0 : Hp
  s0 : S
  R0 : Addr → Prop
  E : XK
abbrev WE (S : Type) := List Sl → S → (D → S → Prop) → (Xc → S → Prop) → Prop
abbrev WT (S : Type) := List Sl → S → (Bool → S → Prop) → (Xc → S → Prop) → Prop
abbrev WA (S : Type) := List Sl → S → (List D → S → Prop) → (Xc → S → Prop) → Prop
structure WEnds (S : Type) where
  nx : List Sl → S → Prop
  rt : D → S → Prop
  bk : List Sl → S → Prop
  ct : List Sl → S → Prop
  xc : Xc → S → Prop
abbrev WS (S : Type) := WEnds S → List Sl → S → Prop
section
variable {S : Type} (W : Wd S) (G : Gm S)
/-- what a slot that may still change holds -/
inductive OwnR (R : Addr → Prop) (s : S) (H : Hp) (p : Addr) : Sl → Prop
  | lst {xs : List V} {ds : List D} : H p = some (.lst xs) → DaL (Bf W R s) H xs ds → ds.length ≤ sizeLine → OwnR R s H p (.own ds)
  | dic {xs : List (Key × V)} {ds : List (Key × D)} : H p = some (.dK xs) → DaK (Bf W R s) H xs ds → OwnR R s H p (.ownk ds)
  | dit {xs : List (List Key × V)} {ds : List (List Key × D)} : H p = some (.dT xs) → DaT (Bf W R s) H xs ds → OwnR R s H p (.ownt ds)
structure EnvR (R : Addr → Prop) (s : S) (H : Hp) (σ : L2.St) (env : List Sl) : Prop where
  len : σ.length = env.length
  dat : ∀ i d, sg env i = .dat d → ∃ v, σ[i]? = some (some v) ∧ Da (Bf W R s) H v d
  own : ∀ i, (sg env i).isO = true → ∃ p, σ[i]? = some (some (.ref p)) ∧ R p ∧ G.H0 p = none ∧ OwnR W R s H p (sg env i)
  uniq : ∀ i j p, (sg env i).isO = true → (sg env j).isO = true → σ[i]? = some (some (.ref p)) → σ[j]? = some (some (.ref p)) → i = j
structure Rel (R : Addr → Prop) (env : List Sl) (σ : L2.St) (H : Hp) (s : S) : Prop where
  at_ : At W R s H
  fr : Fr W G.s0 G.H0 s H
  r0 : ∀ a, G.R0 a → R a
  z0 : At W G.R0 G.s0 G.H0
  env : EnvR W G R s H σ env
def XOk (x : Xc → S → Prop) : Prop := ∀ c s' cls d H', x c s' → Fr W G.s0 G.H0 s' H' → W.J s' H' → XcR (Bf W G.R0 s') H' c cls d → G.E cls d H'
/-- shallow: the outermost thing may be the def's own -/
inductive Ag (R : Addr → Prop) (s : S) (H : Hp) : V → D → Prop
  | da {v : V} {d : D} : Da (Bf W R s) H v d → Ag R s H v d
  | lst {a : Addr} {xs : List V} {ds : List D} : H a = some (.lst xs) → ¬ W.C s a → DaL (Bf W R s) H xs ds → ds.length ≤ sizeLine → Ag R s H (.ref a) (.lst ds)
  | dic {a : Addr} {xs : List (Key × V)} {ds : List (Key × D)} : H a = some (.dK xs) → ¬ W.C s a → DaK (Bf W R s) H xs ds → Ag R s H (.ref a) (.dic ds)
  | dit {a : Addr} {xs : List (List Key × V)} {ds : List (List Key × D)} : H a = some (.dT xs) → ¬ W.C s a → DaT (Bf W R s) H xs ds → Ag R s H (.ref a) (.dit ds)
inductive AgL (R : Addr → Prop) (s : S) (H : Hp) : List V → List D → Prop
  | nil : AgL R s H [] []
  | cons {v : V} {vs : List V} {d : D} {ds : List D} : Ag W R s H v d → AgL R s H vs ds → AgL R s H (v :: vs) (d :: ds)
def SimE (t : TE) (w : WE S) : Prop := ∀ R env σ H s, Rel W G R env σ H s → ∀ k x, w env s k x → XOk W G x → ∀ Q : VK,
  (∀ d s' v H', k d s' → Fr W s H s' H' → W.J s' H' → Da (Bf W R s') H' v d → Q v H') → t σ H Q
def SimG (t : TE) (w : WE S) : Prop := ∀ R env σ H s, Rel W G R env σ H s → ∀ k x, w env s k x → XOk W G x → ∀ Q : VK,
  (∀ d s' v H', k d s' → Fr W s H s' H' → W.J s' H' → Ag W R s' H' v d → Q v H') → t σ H Q
/-- a new list -/
def SimF (t : TE) (w : List Sl → S → (List D → S → Prop) → (Xc → S → Prop) → Prop) : Prop := ∀ R env σ H s, Rel W G R env σ H s → ∀ k x, w env s k x → XOk W G x → ∀ Q : VK,
  (∀ ds s' p xs H', k ds s' → Fr W s H s' H' → W.J s' H' → H p = none → H' p = some (.lst xs) → ¬ Bf W R s' p → DaL (Bf W (fun a => R a ∨ a = p) s') H' xs ds → ds.length ≤ sizeLine → Q (.ref p) H') → t σ H Q
def SimT (t : TT) (w : WT S) : Prop := ∀ R env σ H s, Rel W G R env σ H s → ∀ k x, w env s k x → XOk W G x → ∀ Q : Bool → Hp → Prop,
  (∀ b s' H', k b s' → Fr W s H s' H' → W.J s' H' → Q b H') → t σ H Q
def SimA (t : TA) (w : WA S) : Prop := ∀ R env σ H s, Rel W G R env σ H s → ∀ k x, w env s k x → XOk W G x → ∀ Q : List V → Hp → Prop,
  (∀ ds s' vs H', k ds s' → Fr W s H s' H' → W.J s' H' → DaL (Bf W R s') H' vs ds → Q vs H') → t σ H Q
def SimB (t : TA) (w : WA S) : Prop := ∀ R env σ H s, Rel W G R env σ H s → ∀ k x, w env s k x → XOk W G x → ∀ Q : List V → Hp → Prop,
  (∀ ds s' vs H', k ds s' → Fr W s H s' H' → W.J s' H' → AgL W R s' H' vs ds → Q vs H') → t σ H Q
/-- where a statement may end -/
structure EndsR (R : Addr → Prop) (s : S) (H : Hp) (K : WEnds S) (Dn : Ends) : Prop where
  nx : ∀ R' env' σ' H' s', K.nx env' s' → Rel W G R' env' σ' H' s' → Mv (Bf W R s) H (Bf W R' s') H' → Dn.nx σ' H'
  rt : ∀ d s' v H', K.rt d s' → Fr W G.s0 G.H0 s' H' → W.J s' H' → Da (Bf W G.R0 s') H' v d → Dn.rt v H'
  bk : ∀ R' env' σ' H' s', K.bk env' s' → Rel W G R' env' σ' H' s' → Mv (Bf W R s) H (Bf W R' s') H' → Dn.bk σ' H'
  ct : ∀ R' env' σ' H' s', K.ct env' s' → Rel W G R' env' σ' H' s' → Mv (Bf W R s) H (Bf W R' s') H' → Dn.ct σ' H'
  xc : XOk W G K.xc
def SimS (t : TS) (w : WS S) : Prop := ∀ R env σ H s, Rel W G R env σ H s → ∀ K, w K env s → ∀ Dn : Ends, EndsR W G R s H K Dn → t Dn σ H
/-- a binary operator by values -/
def SimO (r : R2) (w : D → D → S → (D → S → Prop) → Prop) : Prop := ∀ R s H, At W R s H → ∀ x y d e, Ag W R s H x d → Ag W R s H y e → ∀ k, w d e s k → ∀ Q : VK,
  (∀ d' v H', k d' s → Fr W s H s H' → W.J s H' → Da (Bf W R s) H' v d' → Q v H') → r x y H Q
def SimU (r : V → Hp → VK → Prop) (w : D → S → (D → S → Prop) → Prop) : Prop := ∀ R s H, At W R s H → ∀ x d, Ag W R s H x d → ∀ k, w d s k → ∀ Q : VK,
  (∀ d' v H', k d' s → Fr W s H s H' → W.J s H' → Da (Bf W R s) H' v d' → Q v H') → r x H Q
/-- a built-in called -/
def SimC (r : List V → Hp → VK → Prop) (w : List D → S → (D → S → Prop) → Prop) : Prop := ∀ R s H, At W R s H → ∀ xs ds, AgL W R s H xs ds → ∀ k, w ds s k → ∀ Q : VK,
  (∀ d' v H', k d' s → Fr W s H s H' → W.J s H' → Da (Bf W R s) H' v d' → Q v H') → r xs H Q
end
section
variable {S : Type} {W : Wd S} {G : Gm S} {R R' : Addr → Prop} {env : List Sl} {σ : L2.St} {H H' : Hp} {s s' : S}
theorem OwnR.fr {p : Addr} {a : Sl} (o : OwnR W R s H p a) (hc : ¬ W.C s p) (f : Fr W s H s' H') : OwnR W R s' H' p a := by
  cases o with
  | lst e l z => exact .lst (f.kp _ _ e hc) (l.mv f.mv) z
  | dic e l => exact .dic (f.kp _ _ e hc) (l.mv f.mv)
  | dit e l => exact .dit (f.kp _ _ e hc) (l.mv f.mv)
theorem OwnR.mv {p : Addr} {a : Sl} (o : OwnR W R s H p a) (m : Mv (Bf W R s) H (Bf W R' s') H') (e : ∀ u, H p = some u → H' p = some u) : OwnR W R' s' H' p a := by
  cases o with
  | lst q l z => exact .lst (e _ q) (l.mv m) z
  | dic q l => exact .dic (e _ q) (l.mv m)
  | dit q l => exact .dit (e _ q) (l.mv m)
theorem Rel.step (r : Rel W G R env σ H s) (f : Fr W s H s' H') (j : W.J s' H') : Rel W G R env σ H' s' where
  at_ := r.at_.fr f j
  fr := r.fr.trans f
  r0 := r.r0
  z0 := r.z0
  env := ⟨r.env.len, fun i d e => by obtain ⟨v, h1, h2⟩ := r.env.dat i d e; exact ⟨v, h1, h2.mv f.mv⟩,
    fun i e => by obtain ⟨p, h1, h2, h3, h4⟩ := r.env.own i e; exact ⟨p, h1, h2, h3, h4.fr (r.at_.r p h2).2 f⟩, r.env.uniq⟩
theorem EndsR.step {K : WEnds S} {Dn : Ends} (e : EndsR W G R s H K Dn) (m : Mv (Bf W R s) H (Bf W R' s') H') : EndsR W G R' s' H' K Dn where
  nx R2 env2 σ2 H2 s2 k r m2 := e.nx R2 env2 σ2 H2 s2 k r (m.trans m2)
  rt := e.rt
  bk R2 env2 σ2 H2 s2 k r m2 := e.bk R2 env2 σ2 H2 s2 k r (m.trans m2)
  ct R2 env2 σ2 H2 s2 k r m2 := e.ct R2 env2 σ2 H2 s2 k r (m.trans m2)
  xc := e.xc
theorem Ag.fr {v : V} {d : D} (a : Ag W R s H v d) (f : Fr W s H s' H') : Ag W R s' H' v d := by
  have nc : ∀ {a : Addr} {o : HO}, H a = some o → ¬ W.C s a → ¬ W.C s' a := fun {a o} e n c => (f.new a c).elim n fun z => by rw [z] at e; cases e
  cases a with
  | da h => exact .da (h.mv f.mv)
  | lst e n l z => exact .lst (f.kp _ _ e n) (nc e n) (l.mv f.mv) z
  | dic e n l => exact .dic (f.kp _ _ e n) (nc e n) (l.mv f.mv)
  | dit e n l => exact .dit (f.kp _ _ e n) (nc e n) (l.mv f.mv)
theorem AgL.fr {vs : List V} {ds : List D} (a : AgL W R s H vs ds) (f : Fr W s H s' H') : AgL W R s' H' vs ds := by
  induction a with
  | nil => exact .nil
  | cons h _ ih => exact .cons (h.fr f) ih
theorem DaL.ag {vs : List V} {ds : List D} (a : DaL (Bf W R s) H vs ds) : AgL W R s H vs ds := by
  induction vs generalizing ds with
  | nil => cases a; exact .nil
  | cons v vs ih =>
    cases a with
    | cons h t => exact .cons (.da h) (ih t)
theorem SimE.g {t : TE} {w : WE S} (h : SimE W G t w) : SimG W G t w := fun R env σ H s r k x hw ox Q hQ => h R env σ H s r k x hw ox Q fun d s' v H' hk f j a => hQ d s' v H' hk f j (.da a)
/-- a fresh place is new to the def -/
theorem Rel.new0 (r : Rel W G R env σ H s) {p : Addr} (h : H p = none) : G.H0 p = none := by
  cases e : G.H0 p with
  | none => rfl
  | some o =>
    by_cases c : W.C G.s0 p
    · exact absurd h (W.tr s H p r.at_.j (r.fr.grow p c))
    · rw [r.fr.kp p o e c] at h
      cases h
/-- a slot set to data -/
theorem Rel.setD (r : Rel W G R env σ H s) (i : Nat) {v : V} {d : D} (h : Da (Bf W R s) H v d) : Rel W G R (ss env i (.dat d)) (σ.set i (some v)) H s := by
  refine ⟨r.at_, r.fr, r.r0, r.z0, ?_⟩
  by_cases hi : i < env.length
  · have hi' : i < σ.length := by rw [r.env.len]; exact hi
    have sv : (σ.set i (some v))[i]? = some (some v) := by rw [List.getElem?_set_self hi']
    have sn : ∀ j, i ≠ j → (σ.set i (some v))[j]? = σ[j]? := fun j n => List.getElem?_set_ne n
    refine ⟨by rw [List.length_set, ss_len]; exact r.env.len, fun j e he => ?_, fun j he => ?_, fun j l p h1 h2 h3 h4 => ?_⟩
    · by_cases n : i = j
      · subst n
        rw [sg_ss _ _ _ hi] at he
        cases he
        exact ⟨v, sv, h⟩
      · rw [sg_ss_ne _ _ _ _ n] at he
        rw [sn j n]
        exact r.env.dat j e he
    · by_cases n : i = j
      · subst n
        rw [sg_ss _ _ _ hi] at he
        cases he
      · rw [sg_ss_ne _ _ _ _ n] at he ⊢
        rw [sn j n]
        exact r.env.own j he
    · have n1 : i ≠ j := by
        rintro rfl
        rw [sg_ss _ _ _ hi] at h1
        cases h1
      have n2 : i ≠ l := by
        rintro rfl
        rw [sg_ss _ _ _ hi] at h2
        cases h2
      rw [sg_ss_ne _ _ _ _ n1] at h1
      rw [sg_ss_ne _ _ _ _ n2] at h2
      rw [sn j n1] at h3
      rw [sn l n2] at h4
      exact r.env.uniq j l p h1 h2 h3 h4
  · rw [ss_out _ _ _ (Nat.le_of_not_lt hi), List.set_eq_of_length_le (by rw [r.env.len]; exact Nat.le_of_not_lt hi)]
    exact r.env
/-- a slot set to a thing of the def's own, new at p -/
theorem Rel.setO {s0 : S} {Hs : Hp} (r0 : Rel W G R env σ Hs s0) (f : Fr W s0 Hs s H) (j : W.J s H) (i : Nat) {p : Addr} {a : Sl} (hp : Hs p = none) (hn : H p ≠ none) (nb : ¬ Bf W R s p) (h : OwnR W (fun a => R a ∨ a = p) s H p a) (ho : a.isO = true) (hi : i < env.length) :
    Rel W G (fun a => R a ∨ a = p) (ss env i a) (σ.set i (some (.ref p))) H s ∧ Mv (Bf W R s0) Hs (Bf W (fun a => R a ∨ a = p) s) H := by
  have r := r0.step f j
  have m0 : Mv (Bf W R s0) Hs (Bf W (fun a => R a ∨ a = p) s) H := fun b o e n => by
    have z := (f.mv (R := R)) b o e n
    refine ⟨z.1, fun q => ?_⟩
    rcases q with (q | q) | q
    · exact z.2 (.inl q)
    · rw [q, hp] at e; cases e
    · exact z.2 (.inr q)
  refine ⟨⟨⟨j, fun b q => ?_, fun b xs q w => ?_⟩, r.fr, fun b q => .inl (r.r0 b q), r.z0, ?_⟩, m0⟩
  · rcases q with q | q
    · exact r.at_.r b q
    · rw [q]
      exact ⟨hn, fun c => nb (.inr c)⟩
  · rcases q with q | q
    · exact r.at_.t b xs q w
    · rw [q] at w
      cases h with
      | lst e _ _ => rw [e] at w; cases w
      | dic e _ => rw [e] at w; cases w
      | dit e _ => rw [e] at w; cases w
  · have hi' : i < σ.length := by rw [r.env.len]; exact hi
    have sv : (σ.set i (some (.ref p)))[i]? = some (some (.ref p)) := by rw [List.getElem?_set_self hi']
    have sn : ∀ l, i ≠ l → (σ.set i (some (.ref p)))[l]? = σ[l]? := fun l n => List.getElem?_set_ne n
    have neq : ∀ l q, (sg env l).isO = true → σ[l]? = some (some (.ref q)) → q ≠ p := fun l q h1 h2 => by
      rintro rfl
      obtain ⟨q', e1, e2, _, _⟩ := r.env.own l h1
      rw [h2] at e1
      cases e1
      exact nb (.inl e2)
    refine ⟨by rw [List.length_set, ss_len]; exact r.env.len, fun l e he => ?_, fun l he => ?_, fun l m q h1 h2 h3 h4 => ?_⟩
    · by_cases n : i = l
      · subst n
        rw [sg_ss _ _ _ hi] at he
        subst he
        cases ho
      · rw [sg_ss_ne _ _ _ _ n] at he
        rw [sn l n]
        obtain ⟨v, e1, e2⟩ := r0.env.dat l e he
        exact ⟨v, e1, e2.mv m0⟩
    · by_cases n : i = l
      · subst n
        rw [sg_ss _ _ _ hi]
        exact ⟨p, sv, .inr rfl, r0.new0 hp, h⟩
      · rw [sg_ss_ne _ _ _ _ n] at he ⊢
        rw [sn l n]
        obtain ⟨q, e1, e2, e3, e4⟩ := r0.env.own l he
        refine ⟨q, e1, .inl e2, e3, ?_⟩
        have nc := (r0.at_.r q e2).2
        exact e4.mv m0 fun u z => f.kp _ _ z nc
    · by_cases n1 : i = l
      · by_cases n2 : i = m
        · rw [← n1, ← n2]
        · subst n1
          rw [sv] at h3
          cases h3
          rw [sg_ss_ne _ _ _ _ n2] at h2
          rw [sn m n2] at h4
          exact absurd rfl (neq m p h2 h4)
      · by_cases n2 : i = m
        · subst n2
          rw [sv] at h4
          cases h4
          rw [sg_ss_ne _ _ _ _ n1] at h1
          rw [sn l n1] at h3
          exact absurd rfl (neq l p h1 h3)
        · rw [sg_ss_ne _ _ _ _ n1] at h1
          rw [sg_ss_ne _ _ _ _ n2] at h2
          rw [sn l n1] at h3
          rw [sn m n2] at h4
          exact r.env.uniq l m q h1 h2 h3 h4
/-- the def's own thing in slot i changed in its place -/
theorem Rel.chg (r : Rel W G R env σ H s) {i : Nat} {p : Addr} {a : Sl} {o : HO} (e : σ[i]? = some (some (.ref p))) (hO : (sg env i).isO = true) (h : OwnR W R s (upd H p o) p a) (ho : a.isO = true) :
    Rel W G R (ss env i a) σ (upd H p o) s ∧ Mv (Bf W R s) H (Bf W R s) (upd H p o) := by
  obtain ⟨p', e1, e2, e3, e4⟩ := r.env.own i hO
  rw [e] at e1
  cases e1
  have nc := (r.at_.r p e2).2
  have m : Mv (Bf W R s) H (Bf W R s) (upd H p o) := fun b u q n => by
    refine ⟨?_, n⟩
    rw [upd_ne fun z => n (by rw [z]; exact .inl e2)]
    exact q
  have hi : i < env.length := by
    rw [← r.env.len]
    exact (List.getElem?_eq_some_iff.mp e).1
  have at' : At W R s (upd H p o) := by
    refine ⟨W.st s H _ r.at_.j (fun b c => upd_ne fun z => nc (by rw [← z]; exact c)) fun b xs e => (by rw [upd_ne fun z => r.at_.t p xs e2 (by rw [← z]; exact e)]; exact e), fun b q => ?_, fun b xs q w => ?_⟩
    · by_cases z : b = p
      · rw [z, upd_same]
        exact ⟨by simp, nc⟩
      · rw [upd_ne z]
        exact r.at_.r b q
    · by_cases z : b = p
      · rw [z] at w
        cases h with
        | lst e _ _ => rw [e] at w; cases w
        | dic e _ => rw [e] at w; cases w
        | dit e _ => rw [e] at w; cases w
      · rw [upd_ne z] at w
        exact r.at_.t b xs q w
  refine ⟨⟨at', ⟨fun b u q n => ?_, r.fr.grow, r.fr.new⟩, r.r0, r.z0, ?_⟩, m⟩
  · rw [upd_ne (fun z => by rw [z, e3] at q; cases q)]
    exact r.fr.kp b u q n
  · refine ⟨by rw [ss_len]; exact r.env.len, fun l d he => ?_, fun l he => ?_, fun l l2 q h1 h2 h3 h4 => ?_⟩
    · by_cases n : i = l
      · subst n
        rw [sg_ss _ _ _ hi] at he
        subst he
        cases ho
      · rw [sg_ss_ne _ _ _ _ n] at he
        obtain ⟨v, q1, q2⟩ := r.env.dat l d he
        exact ⟨v, q1, q2.mv m⟩
    · by_cases n : i = l
      · subst n
        rw [sg_ss _ _ _ hi]
        exact ⟨p, e, e2, e3, h⟩
      · rw [sg_ss_ne _ _ _ _ n] at he ⊢
        obtain ⟨q, q1, q2, q3, q4⟩ := r.env.own l he
        have ne : q ≠ p := by
          rintro rfl
          exact n (r.env.uniq i l q hO he e q1)
        refine ⟨q, q1, q2, q3, ?_⟩
        exact q4.mv m fun u z => by rw [upd_ne ne]; exact z
    · have f : ∀ l, (sg (ss env i a) l).isO = true → (sg env l).isO = true := fun l he => by
        by_cases n : i = l
        · subst n
          exact hO
        · rw [sg_ss_ne _ _ _ _ n] at he
          exact he
      exact r.env.uniq l l2 q (f l h1) (f l2 h2) h3 h4
@[simp] def Sl.frz : Sl → Sl
  | .own ds => .dat (.lst ds)
  | .ownk ds => .dat (.dic ds)
  | .ownt ds => .dat (.dit ds)
  | a => a
/-- the def's own thing in slot i is data from now on -/
theorem Rel.frz (r : Rel W G R env σ H s) (i : Nat) : ∃ R', Rel W G R' (ss env i (sg env i).frz) σ H s ∧ (∀ a, R' a → R a) := by
  by_cases hO : (sg env i).isO = true
  · obtain ⟨p, e, e2, e3, e4⟩ := r.env.own i hO
    have sub : ∀ a, (R a ∧ a ≠ p) → R a := fun a h => h.1
    have sub' : ∀ a, Bf W (fun a => R a ∧ a ≠ p) s a → Bf W R s a := fun a h => h.elim (fun q => .inl q.1) .inr
    have hi : i < env.length := by
      rw [← r.env.len]
      exact (List.getElem?_eq_some_iff.mp e).1
    have nb : ¬ Bf W (fun a => R a ∧ a ≠ p) s p := fun q => q.elim (fun z => z.2 rfl) (r.at_.r p e2).2
    refine ⟨fun a => R a ∧ a ≠ p, ⟨r.at_.imp sub, r.fr, fun a q => ⟨r.r0 a q, fun z => (r.z0.r a q).1 (by rw [z]; exact e3)⟩, r.z0, ?_⟩, sub⟩
    refine ⟨by rw [ss_len]; exact r.env.len, fun l d he => ?_, fun l he => ?_, fun l l2 q h1 h2 h3 h4 => ?_⟩
    · by_cases n : i = l
      · subst n
        rw [sg_ss _ _ _ hi] at he
        refine ⟨.ref p, e, ?_⟩
        generalize hg : sg env i = a at e4 he
        cases e4 with
        | lst e l z => cases he; exact .lst e nb (l.imp sub') z
        | dic e l => cases he; exact .dic e nb (l.mv fun a o e n => ⟨e, fun b => n (sub' a b)⟩)
        | dit e l => cases he; exact .dit e nb (l.mv fun a o e n => ⟨e, fun b => n (sub' a b)⟩)
      · rw [sg_ss_ne _ _ _ _ n] at he
        obtain ⟨v, q1, q2⟩ := r.env.dat l d he
        exact ⟨v, q1, q2.imp sub'⟩
    · by_cases n : i = l
      · subst n
        rw [sg_ss _ _ _ hi] at he
        revert he
        cases sg env i <;> intro he <;> cases he
      · rw [sg_ss_ne _ _ _ _ n] at he ⊢
        obtain ⟨q, q1, q2, q3, q4⟩ := r.env.own l he
        have ne : q ≠ p := by
          rintro rfl
          exact n (r.env.uniq i l q hO he e q1)
        refine ⟨q, q1, ⟨q2, ne⟩, q3, ?_⟩
        exact q4.mv (fun a o e n => ⟨e, fun b => n (sub' a b)⟩) fun u z => z
    · have f : ∀ l, (sg (ss env i (sg env i).frz) l).isO = true → (sg env l).isO = true := fun l he => by
        by_cases n : i = l
        · subst n
          exact hO
        · rw [sg_ss_ne _ _ _ _ n] at he
          exact he
      exact r.env.uniq l l2 q (f l h1) (f l2 h2) h3 h4
  · refine ⟨R, ?_, fun _ h => h⟩
    have e : (sg env i).frz = sg env i := by
      revert hO
      cases sg env i <;> intro hO <;> first | rfl | exact absurd rfl hO
    rw [e]
    have e2 : ∀ (env : List Sl) (i : Nat), ss env i (sg env i) = env := fun env => by
      induction env with
      | nil => intro i; rfl
      | cons a r ih =>
        intro i
        cases i with
        | zero => rfl
        | succ i => exact congrArg (a :: ·) (ih i)
    rw [e2]
    exact r
end
end Dw
set_option Elab.async false
set_option linter.all false
set_option maxRecDepth 100000
set_option maxHeartbeats 4000000
/-! De: expressions over data. -/
namespace Dw
open PySem PySem.Spec PyProof.Rows L2
section
variable {S : Type}
@[simp] def wVar (i : Nat) : WE S := fun env s k _ => match sg env i with
  | .dat d => k d s
  | _ => False
@[simp] def wVarG (i : Nat) : WE S := fun env s k _ => match sg env i with
  | .dat d => k d s
  | .own ds => k (.lst ds) s
  | .ownk ds => k (.dic ds) s
  | .ownt ds => k (.dit ds) s
  | _ => False
@[simp] def vD : V → D
  | .non => .non
  | .bl b => .bl b
  | .int i => .int i
  | .str x => .str x
  | .ref a => .opq a
  | .ty n => .ty n
  | _ => .non
def Sc : V → Prop
  | .str x => x.length ≤ sizeLine
  | .byt _ => False
  | .flt _ => False
  | _ => True
@[simp] def wC (v : V) : WE S := fun _ s k _ => k (vD v) s
@[simp] def wOp (wo : D → D → S → (D → S → Prop) → Prop) (wa wb : WE S) : WE S := fun env s k x => wa env s (fun d s1 => wb env s1 (fun e s2 => wo d e s2 k) x) x
@[simp] def wUn (wo : D → S → (D → S → Prop) → Prop) (wa : WE S) : WE S := fun env s k x => wa env s (fun d s1 => wo d s1 k) x
@[simp] def wNil : WA S := fun _ s k _ => k [] s
@[simp] def wCons (wa : WE S) (wr : WA S) : WA S := fun env s k x => wa env s (fun d s1 => wr env s1 (fun ds s2 => k (d :: ds) s2) x) x
@[simp] def wCB (wc : List D → S → (D → S → Prop) → Prop) (wa : WA S) : WE S := fun env s k x => wa env s (fun ds s1 => wc ds s1 k) x
@[simp] def wTup (wa : WA S) : WE S := fun env s k x => wa env s (fun ds s1 => ds.length ≤ sizeLine ∧ k (.tup ds) s1) x
@[simp] def wLst (wa : WA S) : WE S := fun env s k x => wa env s (fun ds s1 => ds.length ≤ sizeLine ∧ k (.lst ds) s1) x
@[simp] def wLstF (wa : WA S) : List Sl → S → (List D → S → Prop) → (Xc → S → Prop) → Prop := fun env s k x => wa env s (fun ds s1 => ds.length ≤ sizeLine ∧ k ds s1) x
@[simp] def wTest (wa : WE S) : WT S := fun env s k x => wa env s (fun d s1 => match d with
  | .bl b => k b s1
  | _ => False) x
@[simp] def wAnd (wa wb : WT S) : WT S := fun env s k x => wa env s (fun b s1 => if b = true then wb env s1 k x else k false s1) x
@[simp] def wOr (wa wb : WT S) : WT S := fun env s k x => wa env s (fun b s1 => if b = true then k true s1 else wb env s1 k x) x
@[simp] def wNot (wa : WT S) : WT S := fun env s k x => wa env s (fun b s1 => k (!b) s1) x
@[simp] def wAndV (wa wb : WE S) : WE S := fun env s k x => wa env s (fun d s1 => match d with
  | .bl b => if b = true then wb env s1 k x else k (.bl false) s1
  | _ => False) x
@[simp] def wOrV (wa wb : WE S) : WE S := fun env s k x => wa env s (fun d s1 => match d with
  | .bl b => if b = true then k (.bl true) s1 else wb env s1 k x
  | _ => False) x
@[simp] def wNotV (wa : WE S) : WE S := fun env s k x => wa env s (fun d s1 => match d with
  | .bl b => k (.bl (!b)) s1
  | _ => False) x
@[simp] def wIf (wt : WT S) (wa wb : WE S) : WE S := fun env s k x => wt env s (fun b s1 => if b = true then wa env s1 k x else wb env s1 k x) x
@[simp] def wChain (wo wo' : D → D → S → (D → S → Prop) → Prop) (wa wb wc : WE S) : WE S := fun env s k x => wa env s (fun d s1 => wb env s1 (fun e s2 => wo d e s2 fun z s3 => match z with
  | .bl b => if b = true then wc env s3 (fun u s4 => wo' e u s4 k) x else k (.bl false) s3
  | _ => False) x) x
end
section
variable {S : Type} {W : Wd S} {G : Gm S} {K : PySem.W.Frag}
theorem Sc.da {v : V} (h : Sc v) {B : Addr → Prop} {H : Hp} : Da B H v (vD v) := by
  cases v with
  | non => exact .non
  | bl b => exact .bl b
  | int i => exact .int i
  | str x => exact .str h
  | byt b => exact h.elim
  | flt b => exact h.elim
  | ref a => exact .opq a
  | ty n => exact .ty n
theorem sim_var {i : Nat} : SimE W G (tVar i) (wVar i) := by
  intro R env σ H s r k x hw ox Q hQ
  unfold wVar at hw
  cases e : sg env i with
  | dat d =>
    rw [e] at hw
    obtain ⟨v, h1, h2⟩ := r.env.dat i d e
    exact ⟨v, h1, hQ d s v H hw .refl r.at_.j h2⟩
  | _ => rw [e] at hw; exact hw.elim
theorem sim_varG {i : Nat} : SimG W G (tVar i) (wVarG i) := by
  intro R env σ H s r k x hw ox Q hQ
  unfold wVarG at hw
  have ow : (sg env i).isO = true → ∃ p, σ[i]? = some (some (.ref p)) ∧ R p ∧ OwnR W R s H p (sg env i) := fun h => by
    obtain ⟨p, h1, h2, _, h4⟩ := r.env.own i h
    exact ⟨p, h1, h2, h4⟩
  cases e : sg env i with
  | dat d =>
    rw [e] at hw
    obtain ⟨v, h1, h2⟩ := r.env.dat i d e
    exact ⟨v, h1, hQ d s v H hw .refl r.at_.j (.da h2)⟩
  | no => rw [e] at hw; exact hw.elim
  | own ds =>
    rw [e] at hw ow
    obtain ⟨p, h1, h2, h4⟩ := ow rfl
    cases h4 with
    | lst q l z => exact ⟨.ref p, h1, hQ _ s _ H hw .refl r.at_.j (.lst q (r.at_.r p h2).2 l z)⟩
  | ownk ds =>
    rw [e] at hw ow
    obtain ⟨p, h1, h2, h4⟩ := ow rfl
    cases h4 with
    | dic q l => exact ⟨.ref p, h1, hQ _ s _ H hw .refl r.at_.j (.dic q (r.at_.r p h2).2 l)⟩
  | ownt ds =>
    rw [e] at hw ow
    obtain ⟨p, h1, h2, h4⟩ := ow rfl
    cases h4 with
    | dit q l => exact ⟨.ref p, h1, hQ _ s _ H hw .refl r.at_.j (.dit q (r.at_.r p h2).2 l)⟩
theorem sim_c {v : V} (h : Sc v) : SimE W G (tC v) (wC v) := fun R env σ H s r k x hw ox Q hQ => hQ _ s v H hw .refl r.at_.j h.da
theorem sim_op {r : R2} {wo : D → D → S → (D → S → Prop) → Prop} {ta tb : TE} {wa wb : WE S} (ho : SimO W r wo) (ha : SimG W G ta wa) (hb : SimG W G tb wb) : SimE W G (tOp r ta tb) (wOp wo wa wb) :=
  fun R env σ H s rl k x hw ox Q hQ => ha R env σ H s rl _ x hw ox _ fun d s1 v H1 hw1 f1 j1 a1 => hb R env σ H1 s1 (rl.step f1 j1) _ x hw1 ox _ fun e s2 u H2 hw2 f2 j2 a2 =>
    ho R s2 H2 ((rl.step f1 j1).step f2 j2).at_ v u d e (a1.fr f2) a2 k hw2 Q fun d' z H' hk f j a => hQ d' s2 z H' hk ((f1.trans f2).trans f) j a
theorem sim_un {r : V → Hp → VK → Prop} {wo : D → S → (D → S → Prop) → Prop} {ta : TE} {wa : WE S} (ho : SimU W r wo) (ha : SimG W G ta wa) : SimE W G (tUn r ta) (wUn wo wa) :=
  fun R env σ H s rl k x hw ox Q hQ => ha R env σ H s rl _ x hw ox _ fun d s1 v H1 hw1 f1 j1 a1 => ho R s1 H1 (rl.step f1 j1).at_ v d a1 k hw1 Q fun d' z H' hk f j a => hQ d' s1 z H' hk (f1.trans f) j a
theorem sim_nil : SimA W G tNil wNil := fun R env σ H s rl k x hw ox Q hQ => hQ [] s [] H hw .refl rl.at_.j .nil
theorem sim_nilB : SimB W G tNil wNil := fun R env σ H s rl k x hw ox Q hQ => hQ [] s [] H hw .refl rl.at_.j .nil
theorem sim_cons {ta : TE} {tr : TA} {wa : WE S} {wr : WA S} (ha : SimE W G ta wa) (hr : SimA W G tr wr) : SimA W G (tCons ta tr) (wCons wa wr) :=
  fun R env σ H s rl k x hw ox Q hQ => ha R env σ H s rl _ x hw ox _ fun d s1 v H1 hw1 f1 j1 a1 => hr R env σ H1 s1 (rl.step f1 j1) _ x hw1 ox _ fun ds s2 vs H2 hw2 f2 j2 a2 =>
    hQ (d :: ds) s2 (v :: vs) H2 hw2 (f1.trans f2) j2 (.cons (a1.mv f2.mv) a2)
theorem sim_consB {ta : TE} {tr : TA} {wa : WE S} {wr : WA S} (ha : SimG W G ta wa) (hr : SimB W G tr wr) : SimB W G (tCons ta tr) (wCons wa wr) :=
  fun R env σ H s rl k x hw ox Q hQ => ha R env σ H s rl _ x hw ox _ fun d s1 v H1 hw1 f1 j1 a1 => hr R env σ H1 s1 (rl.step f1 j1) _ x hw1 ox _ fun ds s2 vs H2 hw2 f2 j2 a2 =>
    hQ (d :: ds) s2 (v :: vs) H2 hw2 (f1.trans f2) j2 (.cons (a1.fr f2) a2)
theorem sim_cb {r : List V → Hp → VK → Prop} {wc : List D → S → (D → S → Prop) → Prop} {ta : TA} {wa : WA S} (hc : SimC W r wc) (ha : SimB W G ta wa) : SimE W G (tCB r ta) (wCB wc wa) :=
  fun R env σ H s rl k x hw ox Q hQ => ha R env σ H s rl _ x hw ox _ fun ds s1 vs H1 hw1 f1 j1 a1 => hc R s1 H1 (rl.step f1 j1).at_ vs ds a1 k hw1 Q fun d' z H' hk f j a => hQ d' s1 z H' hk (f1.trans f) j a
theorem sim_tup {ta : TA} {wa : WA S} (ha : SimA W G ta wa) : SimE W G (tTup ta) (wTup wa) :=
  fun R env σ H s rl k x hw ox Q hQ => ha R env σ H s rl _ x hw ox _ fun ds s1 vs H1 hw1 f1 j1 a1 => ⟨by rw [a1.len]; exact hw1.1, fun p hp => by
    have at1 := (rl.step f1 j1).at_
    exact hQ _ s1 _ _ hw1.2 (f1.trans (.new_at hp at1)) (at1.new_at hp).j (.tup upd_same (at1.fresh hp) (a1.mv (Fr.new_at hp at1).mv) hw1.1)⟩
/-- data away from a fresh place -/
theorem At.off {R : Addr → Prop} {s : S} {H : Hp} {p : Addr} {o : HO} (t : At W R s H) (hp : H p = none) : Mv (Bf W R s) H (Bf W (fun a => R a ∨ a = p) s) (upd H p o) := fun a u e n => by
  have ne : a ≠ p := fun z => by rw [z, hp] at e; cases e
  exact ⟨by rw [upd_ne ne]; exact e, fun q => q.elim (fun z => z.elim (fun y => n (.inl y)) ne) fun y => n (.inr y)⟩
theorem Fr.none {s s' : S} {H H' : Hp} {p : Addr} (f : Fr W s H s' H') (a : W.J s H) (h : H' p = none) (j' : W.J s' H') : H p = none := by
  cases e : H p with
  | none => rfl
  | some o =>
    by_cases c : W.C s p
    · exact absurd h (W.tr s' H' p j' (f.grow p c))
    · rw [f.kp p o e c] at h
      cases h
theorem sim_lstF {ta : TA} {wa : WA S} (ha : SimA W G ta wa) : SimF W G (tLst ta) (wLstF wa) :=
  fun R env σ H s rl k x hw ox Q hQ => ha R env σ H s rl _ x hw ox _ fun ds s1 vs H1 hw1 f1 j1 a1 => ⟨by rw [a1.len]; exact hw1.1, fun p hp => by
    have at1 := (rl.step f1 j1).at_
    exact hQ _ s1 p _ _ hw1.2 (f1.trans (.new_at hp at1)) (at1.new_at hp).j (f1.none rl.at_.j hp j1) upd_same (at1.fresh hp) (a1.mv (at1.off hp)) hw1.1⟩
theorem sim_test {t : TE} {w : WE S} (h : SimG W G t w) : SimT W G (tTest t) (wTest w) :=
  fun R env σ H s rl k x hw ox Q hQ => h R env σ H s rl _ x hw ox _ fun d s1 v H1 hw1 f1 j1 a1 => by
    cases d with
    | bl b =>
      cases a1 with
      | da a => cases a; exact ⟨b, rfl, hQ b s1 H1 hw1 f1 j1⟩
    | _ => exact hw1.elim
theorem sim_tB {t : TE} {w : WE S} (h : SimG W G t w) : SimT W G (tB t) (wTest w) :=
  fun R env σ H s rl k x hw ox Q hQ => h R env σ H s rl _ x hw ox _ fun d s1 v H1 hw1 f1 j1 a1 => by
    cases d with
    | bl b =>
      cases a1 with
      | da a => cases a; exact ⟨b, rfl, hQ b s1 H1 hw1 f1 j1⟩
    | _ => exact hw1.elim
theorem sim_and {t u : TT} {w v : WT S} (h : SimT W G t w) (h' : SimT W G u v) : SimT W G (tAnd t u) (wAnd w v) :=
  fun R env σ H s rl k x hw ox Q hQ => h R env σ H s rl _ x hw ox _ fun b s1 H1 hw1 f1 j1 => by
    cases b with
    | true => exact Rd.iteT (h' R env σ H1 s1 (rl.step f1 j1) k x hw1 ox Q fun b s2 H2 hk f j => hQ b s2 H2 hk (f1.trans f) j)
    | false => exact Rd.iteF (hQ _ s1 H1 (by simpa using hw1) f1 j1)
theorem sim_or {t u : TT} {w v : WT S} (h : SimT W G t w) (h' : SimT W G u v) : SimT W G (tOr t u) (wOr w v) :=
  fun R env σ H s rl k x hw ox Q hQ => h R env σ H s rl _ x hw ox _ fun b s1 H1 hw1 f1 j1 => by
    cases b with
    | true => exact Rd.iteT (hQ _ s1 H1 (by simpa using hw1) f1 j1)
    | false => exact Rd.iteF (h' R env σ H1 s1 (rl.step f1 j1) k x (by simpa using hw1) ox Q fun b s2 H2 hk f j => hQ b s2 H2 hk (f1.trans f) j)
theorem sim_not {t : TT} {w : WT S} (h : SimT W G t w) : SimT W G (tNot t) (wNot w) :=
  fun R env σ H s rl k x hw ox Q hQ => h R env σ H s rl _ x hw ox _ fun b s1 H1 hw1 f1 j1 => hQ _ s1 H1 hw1 f1 j1
theorem sim_yes : SimT W G tYes (fun _ s k _ => k true s) := fun R env σ H s rl k x hw ox Q hQ => hQ _ s H hw .refl rl.at_.j
theorem sim_andV {t u : TE} {w v : WE S} (h : SimG W G t w) (h' : SimE W G u v) : SimE W G (tAndV t u) (wAndV w v) :=
  fun R env σ H s rl k x hw ox Q hQ => h R env σ H s rl _ x hw ox _ fun d s1 z H1 hw1 f1 j1 a1 => by
    cases d with
    | bl b =>
      cases a1 with
      | da a =>
        cases a
        refine ⟨b, rfl, ?_⟩
        cases b with
        | true => exact Rd.iteT (h' R env σ H1 s1 (rl.step f1 j1) k x (by simpa using hw1) ox Q fun b s2 z H2 hk f j a => hQ b s2 z H2 hk (f1.trans f) j a)
        | false => exact Rd.iteF (hQ _ s1 _ H1 (by simpa using hw1) f1 j1 (.bl _))
    | _ => exact hw1.elim
theorem sim_notV {t : TE} {w : WE S} (h : SimG W G t w) : SimE W G (tNotV t) (wNotV w) :=
  fun R env σ H s rl k x hw ox Q hQ => h R env σ H s rl _ x hw ox _ fun d s1 z H1 hw1 f1 j1 a1 => by
    cases d with
    | bl b =>
      cases a1 with
      | da a => cases a; exact ⟨b, rfl, hQ _ s1 _ H1 hw1 f1 j1 (.bl _)⟩
    | _ => exact hw1.elim
theorem sim_if {t : TT} {ta tb : TE} {w : WT S} {wa wb : WE S} (h : SimT W G t w) (ha : SimE W G ta wa) (hb : SimE W G tb wb) : SimE W G (tIf t ta tb) (wIf w wa wb) :=
  fun R env σ H s rl k x hw ox Q hQ => h R env σ H s rl _ x hw ox _ fun b s1 H1 hw1 f1 j1 => by
    cases b with
    | true => exact Rd.iteT (ha R env σ H1 s1 (rl.step f1 j1) k x (by simpa using hw1) ox Q fun b s2 z H2 hk f j a => hQ b s2 z H2 hk (f1.trans f) j a)
    | false => exact Rd.iteF (hb R env σ H1 s1 (rl.step f1 j1) k x (by simpa using hw1) ox Q fun b s2 z H2 hk f j a => hQ b s2 z H2 hk (f1.trans f) j a)
theorem sim_chain {r r' : R2} {wo wo' : D → D → S → (D → S → Prop) → Prop} {ta tb tc : TE} {wa wb wc : WE S} (ho : SimO W r wo) (ho' : SimO W r' wo') (ha : SimG W G ta wa) (hb : SimG W G tb wb) (hc : SimG W G tc wc) :
    SimE W G (tChain r r' ta tb tc) (wChain wo wo' wa wb wc) :=
  fun R env σ H s rl k x hw ox Q hQ => ha R env σ H s rl _ x hw ox _ fun d s1 v H1 hw1 f1 j1 a1 => hb R env σ H1 s1 (rl.step f1 j1) _ x hw1 ox _ fun e s2 u H2 hw2 f2 j2 a2 => by
    have r2 := (rl.step f1 j1).step f2 j2
    refine ho R s2 H2 r2.at_ v u d e (a1.fr f2) a2 _ hw2 _ fun z zv H3 hk f3 j3 a3 => ?_
    cases z with
    | bl b =>
      cases a3
      refine ⟨b, rfl, ?_⟩
      have r3 := r2.step f3 j3
      cases b with
      | true =>
        refine Rd.iteT (hc R env σ H3 s2 r3 _ x (by simpa using hk) ox _ fun u' s4 uv H4 hw4 f4 j4 a4 => ?_)
        exact ho' R s4 H4 (r3.step f4 j4).at_ u uv e u' ((a2.fr f3).fr f4) a4 k hw4 Q fun d' z H' hk f j a => hQ d' s4 z H' hk ((((f1.trans f2).trans f3).trans f4).trans f) j a
      | false => exact Rd.iteF (hQ _ s2 _ H3 (by simpa using hk) ((f1.trans f2).trans f3) j3 (.bl _))
    | _ => exact hk.elim
/-- a def by its word over data: what it gives (k), what it raises (x) -/
def spX (W : Wd S) (wf : List D → S → (D → S → Prop) → (Xc → S → Prop) → Prop) : Sp := fun vs H Q E => ∃ R ds s k x, At W R s H ∧ DaL (Bf W R s) H vs ds ∧ wf ds s k x ∧
  (∀ d s' v H', k d s' → Fr W s H s' H' → W.J s' H' → Da (Bf W R s') H' v d → Q v H') ∧
  ∀ c s' cls d H', x c s' → Fr W s H s' H' → W.J s' H' → XcR (Bf W R s') H' c cls d → E cls d H'
@[simp] def wCall (wf : List D → S → (D → S → Prop) → (Xc → S → Prop) → Prop) (wa : WA S) : WE S := fun env s k x => wa env s (fun ds s1 => wf ds s1 k x) x
@[simp] def wCallN (wf : List D → S → (D → S → Prop) → (Xc → S → Prop) → Prop) (wa : WA S) : WE S := fun env s k x => wa env s (fun ds s1 => wf ds s1 k fun _ _ => False) x
theorem XcR.imp {B B' : Addr → Prop} {H : Hp} {c : Xc} {cls : Value} {d : Option Addr} (h : XcR B H c cls d) (q : ∀ a, B' a → B a) : XcR B' H c cls d := by
  obtain ⟨h1, h2⟩ := h
  refine ⟨h1, h2.imp id ?_⟩
  rintro ⟨a, xs, e1, e2, e3, e4⟩
  exact ⟨a, xs, e1, e2, fun z => e3 (q a z), e4.mv fun a o e n => ⟨e, fun b => n (q a b)⟩⟩
/-- a call that raises nothing -/
theorem sim_callN {wf : List D → S → (D → S → Prop) → (Xc → S → Prop) → Prop} {ta : TA} {wa : WA S} {E : L2.St → XK} (ha : SimA W G ta wa) : SimE W G (Gl.tDf (spX W wf) E ta) (wCallN wf wa) :=
  fun R env σ H s rl k x hw ox Q hQ => ha R env σ H s rl _ x hw ox _ fun ds s1 vs H1 hw1 f1 j1 a1 => by
    have r1 := rl.step f1 j1
    exact ⟨R, ds, s1, k, _, r1.at_, a1, hw1, fun d s' v H' hk f j a => hQ d s' v H' hk (f1.trans f) j a, fun c s' cls d H' hx f j a => hx.elim⟩
end
end Dw
set_option Elab.async false
set_option linter.all false
set_option maxRecDepth 100000
set_option maxHeartbeats 4000000
/-! Do: operators, built-ins, slices over data. -/
namespace Dw
open PySem PySem.Spec PyProof.Rows L2
/-! readings by names of our own -/
def rStr (p : Str → Str → Bool) : R2 := fun x y H Q => ∃ i j, x = .str i ∧ y = .str j ∧ Q (.bl (p i j)) H
theorem op_ltS {X : Cx} : OpR X (compareOp .Lt) (rStr fun i j => decide (i.cps.toList < j.cps.toList)) := op_lt_str
theorem op_leS {X : Cx} : OpR X (compareOp .LtE) (rStr fun i j => !decide (j.cps.toList < i.cps.toList)) := op_le_str
theorem op_gtS {X : Cx} : OpR X (compareOp .Gt) (rStr fun i j => decide (j.cps.toList < i.cps.toList)) := op_gt_str
theorem op_geS {X : Cx} : OpR X (compareOp .GtE) (rStr fun i j => !decide (i.cps.toList < j.cps.toList)) := op_ge_str
def rAddS : R2 := fun x y H Q => ∃ i j, x = .str i ∧ y = .str j ∧ i.length + j.length ≤ sizeLine ∧ Q (.str (i ++ j)) H
theorem op_addS {X : Cx} : OpR X (binaryOp .Add) rAddS := op_add_str
def rMM (f : Int → Int → Int) : List V → Hp → VK → Prop := fun xs H Q => ∃ i j, xs = [.int i, .int j] ∧ Q (.int (f i j)) H
def rStrI : List V → Hp → VK → Prop := fun xs H Q => ∃ i, xs = [.int i] ∧ i.natAbs.log2 < 1920 ∧ Q (.str (toString i)) H
section
variable {S : Type}
@[simp] def wI0 (g : Int → Int → V) : D → D → S → (D → S → Prop) → Prop := fun d e s k => match d, e with
  | .int i, .int j => k (vD (g i j)) s
  | _, _ => False
@[simp] def wIC (C : Int → Int → Prop) (g : Int → Int → V) : D → D → S → (D → S → Prop) → Prop := fun d e s k => match d, e with
  | .int i, .int j => C i j ∧ k (vD (g i j)) s
  | _, _ => False
@[simp] def wU (g : Int → V) : D → S → (D → S → Prop) → Prop := fun d s k => match d with
  | .int i => k (vD (g i)) s
  | _ => False
@[simp] def D.sv : D → Option V
  | .non => some .non
  | .bl b => some (.bl b)
  | .int i => some (.int i)
  | .str x => some (.str x)
  | _ => none
@[simp] def D.eqs : D → D → Option Bool
  | .non, .non => some true | .non, .int _ => some false | .int _, .non => some false | .non, .bl _ => some false | .bl _, .non => some false | .non, .str _ => some false | .str _, .non => some false
  | .int i, .int j => some (decide (i = j)) | .bl i, .bl j => some (decide (i = j)) | .str i, .str j => some (decide (i = j))
  | .int _, .str _ => some false | .str _, .int _ => some false | .bl _, .str _ => some false | .str _, .bl _ => some false
  | _, _ => none
@[simp] def wEq : D → D → S → (D → S → Prop) → Prop := fun d e s k => match d.eqs e with
  | some b => k (.bl b) s
  | none => False
@[simp] def wNe : D → D → S → (D → S → Prop) → Prop := fun d e s k => match d.eqs e with
  | some b => k (.bl (!b)) s
  | none => False
@[simp] def wIsN : D → D → S → (D → S → Prop) → Prop := fun d e s k => match e with
  | .non => k (.bl (match d with | .non => true | _ => false)) s
  | _ => False
@[simp] def wNotN : D → D → S → (D → S → Prop) → Prop := fun d e s k => match e with
  | .non => k (.bl (match d with | .non => false | _ => true)) s
  | _ => False
@[simp] def wIsB : D → D → S → (D → S → Prop) → Prop := fun d e s k => match d, e with
  | .bl a, .bl b => k (.bl (decide (a = b))) s
  | _, _ => False
@[simp] def wNotB : D → D → S → (D → S → Prop) → Prop := fun d e s k => match d, e with
  | .bl a, .bl b => k (.bl (!decide (a = b))) s
  | _, _ => False
@[simp] def wIxL : D → D → S → (D → S → Prop) → Prop := fun d e s k => match d, e with
  | .lst ds, .int i => (match atI ds i with
    | some x => k x s
    | none => False)
  | _, _ => False
@[simp] def wIxT : D → D → S → (D → S → Prop) → Prop := fun d e s k => match d, e with
  | .tup ds, .int i => (match atI ds i with
    | some x => k x s
    | none => False)
  | _, _ => False
@[simp] def wIx : D → D → S → (D → S → Prop) → Prop := fun d e s k => match d, e with
  | .lst ds, .int i => (match atI ds i with
    | some x => k x s
    | none => False)
  | .tup ds, .int i => (match atI ds i with
    | some x => k x s
    | none => False)
  | .str z, .int i => (match atI z.cps.toList i with
    | some c => k (.str ⟨#[c]⟩) s
    | none => False)
  | _, _ => False
@[simp] def D.items : D → Option (List D)
  | .lst ds => some ds
  | .tup ds => some ds
  | _ => none
def inD (d : D) (ds : List D) : Bool := ds.any fun e => match e.sv, d.sv with
  | some v, some u => eqV v u
  | _, _ => false
@[simp] def wIn (neg : Bool) : D → D → S → (D → S → Prop) → Prop := fun d e s k => match e.items with
  | some ds => d.sv.isSome = true ∧ ds.all (fun z => z.sv.isSome) = true ∧ k (.bl (if neg then !inD d ds else inD d ds)) s
  | none => False
@[simp] def wStr (p : Str → Str → Bool) : D → D → S → (D → S → Prop) → Prop := fun d e s k => match d, e with
  | .str i, .str j => k (.bl (p i j)) s
  | _, _ => False
@[simp] def wInS : D → D → S → (D → S → Prop) → Prop := fun d e s k => match d, e with
  | .str x, .str z => ∃ c, x = ⟨#[c]⟩ ∧ k (.bl (decide (c ∈ z.cps.toList))) s
  | _, _ => False
@[simp] def wNotInS : D → D → S → (D → S → Prop) → Prop := fun d e s k => match d, e with
  | .str x, .str z => ∃ c, x = ⟨#[c]⟩ ∧ k (.bl (!decide (c ∈ z.cps.toList))) s
  | _, _ => False
@[simp] def wCatT : D → D → S → (D → S → Prop) → Prop := fun d e s k => match d, e with
  | .tup a, .tup b => a.length + b.length ≤ sizeLine ∧ k (.tup (a ++ b)) s
  | _, _ => False
@[simp] def wCatL : D → D → S → (D → S → Prop) → Prop := fun d e s k => match d, e with
  | .lst a, .lst b => a.length + b.length ≤ sizeLine ∧ k (.lst (a ++ b)) s
  | _, _ => False
@[simp] def wAddS : D → D → S → (D → S → Prop) → Prop := fun d e s k => match d, e with
  | .str a, .str b => a.length + b.length ≤ sizeLine ∧ k (.str (a ++ b)) s
  | _, _ => False
@[simp] def wMulS : D → D → S → (D → S → Prop) → Prop := fun d e s k => match d, e with
  | .str z, .int n => 2 ≤ n ∧ n ≤ 1000 ∧ (n == 1 || z.length == 0) = false ∧ z.length ≤ 1000 ∧ Builtin.Str.tooLong (z.length * n.toNat) = false ∧ (Dt.mulT z n).length ≤ sizeLine ∧ k (.str (Dt.mulT z n)) s
  | _, _ => False
@[simp] def wRepT : D → D → S → (D → S → Prop) → Prop := fun d e s k => match d, e with
  | .tup a, .int n => a ≠ [] ∧ 2 ≤ n ∧ n ≤ 1000 ∧ a.length ≤ 1000 ∧ a.length * n.toNat ≤ sizeLine ∧ k (.tup (List.replicate n.toNat a).flatten) s
  | _, _ => False
@[simp] def wRepL : D → D → S → (D → S → Prop) → Prop := fun d e s k => match d, e with
  | .lst a, .int n => -(2 ^ 63) ≤ n ∧ n < 2 ^ 63 ∧ a.length * n.toNat ≤ sizeLine ∧ k (.lst (List.replicate n.toNat a).flatten) s
  | _, _ => False
mutual
@[simp] def D.py : D → Option PyData
  | .non => some .none
  | .bl b => some (.bool b)
  | .int i => some (.int i)
  | .str x => some (.str x)
  | .lst ds => (D.pys ds).map .list
  | .tup ds => (D.pys ds).map .tuple
  | _ => none
@[simp] def D.pys : List D → Option (List PyData)
  | [] => some []
  | d :: r => match d.py, D.pys r with
    | some a, some b => some (a :: b)
    | _, _ => none
end
@[simp] def wEqD : D → D → S → (D → S → Prop) → Prop := fun d e s k => ∃ a b, d.py = some a ∧ e.py = some b ∧ SeqAt.shaped a = true ∧ SeqAt.shaped b = true ∧ k (.bl (PyData.eqv a b)) s
@[simp] def wNeD : D → D → S → (D → S → Prop) → Prop := fun d e s k => ∃ a b, d.py = some a ∧ e.py = some b ∧ SeqAt.shaped a = true ∧ SeqAt.shaped b = true ∧ k (.bl (!PyData.eqv a b)) s
@[simp] def wInD : D → D → S → (D → S → Prop) → Prop := fun d e s k => ∃ a bs, d.py = some a ∧ e.py = some (.list bs) ∧ SeqAt.shaped a = true ∧ SeqAt.shaped (.list bs) = true ∧ k (.bl (bs.any fun z => PyData.eqv z a)) s
@[simp] def wNotInD : D → D → S → (D → S → Prop) → Prop := fun d e s k => ∃ a bs, d.py = some a ∧ e.py = some (.list bs) ∧ SeqAt.shaped a = true ∧ SeqAt.shaped (.list bs) = true ∧ k (.bl (!bs.any fun z => PyData.eqv z a)) s
def D.ints : List D → Option (List Int)
  | [] => some []
  | .int i :: r => (D.ints r).map (i :: ·)
  | _ => none
def D.bls : List D → Option (List Bool)
  | [] => some []
  | .bl i :: r => (D.bls r).map (i :: ·)
  | _ => none
def D.strs : List D → Option (List Str)
  | [] => some []
  | .str i :: r => (D.strs r).map (i :: ·)
  | _ => none
@[simp] def wLtT (f : List Int → List Int → Bool) : D → D → S → (D → S → Prop) → Prop := fun d e s k => match d, e with
  | .tup a, .tup b => ∃ ns ms, D.ints a = some ns ∧ D.ints b = some ms ∧ k (.bl (f ns ms)) s
  | _, _ => False
/-! built-ins -/
@[simp] def wLen : List D → S → (D → S → Prop) → Prop := fun ds s k => match ds with
  | [.lst xs] => k (.int xs.length) s
  | [.tup xs] => k (.int xs.length) s
  | [.str x] => k (.int x.length) s
  | _ => False
@[simp] def wInt : List D → S → (D → S → Prop) → Prop := fun ds s k => match ds with
  | [.int i] => k (.int i) s
  | [.bl b] => k (.int (if b then 1 else 0)) s
  | _ => False
@[simp] def wAbs : List D → S → (D → S → Prop) → Prop := fun ds s k => match ds with
  | [.int i] => k (.int (if i < 0 then -i else i)) s
  | _ => False
@[simp] def wStrI : List D → S → (D → S → Prop) → Prop := fun ds s k => match ds with
  | [.int i] => i.natAbs.log2 < 1920 ∧ (toString i : Str).length ≤ sizeLine ∧ k (.str (toString i)) s
  | _ => False
@[simp] def wMM (f : Int → Int → Int) : List D → S → (D → S → Prop) → Prop := fun ds s k => match ds with
  | [.int i, .int j] => k (.int (f i j)) s
  | _ => False
@[simp] def wListOf : List D → S → (D → S → Prop) → Prop := fun ds s k => match ds with
  | [.lst xs] => k (.lst xs) s
  | [.tup xs] => k (.lst xs) s
  | _ => False
@[simp] def wTupOf : List D → S → (D → S → Prop) → Prop := fun ds s k => match ds with
  | [.lst xs] => k (.tup xs) s
  | [.tup xs] => k (.tup xs) s
  | _ => False
@[simp] def wSum : List D → S → (D → S → Prop) → Prop := fun ds s k => match ds with
  | [.lst xs] => ∃ ns, D.ints xs = some ns ∧ k (.int ns.sum) s
  | _ => False
@[simp] def wAll : List D → S → (D → S → Prop) → Prop := fun ds s k => match ds with
  | [.lst xs] => ∃ ns, D.bls xs = some ns ∧ k (.bl (ns.all id)) s
  | _ => False
@[simp] def wAny : List D → S → (D → S → Prop) → Prop := fun ds s k => match ds with
  | [.lst xs] => ∃ ns, D.bls xs = some ns ∧ k (.bl (ns.any id)) s
  | _ => False
/-- is it of this built-in class -/
@[simp] def D.isT (n : String) : D → Option Bool
  | .non => some false
  | .bl _ => some (n = "bool" || n = "int")
  | .int _ => some (n = "int")
  | .str _ => some (n = "str")
  | .lst _ => some (n = "list")
  | .tup _ => some (n = "tuple")
  | .dic _ => some (n = "dict")
  | .dit _ => some (n = "dict")
  | _ => none
def known6 : List String := ["tuple", "list", "str", "int", "bool", "dict"]
def D.isTs : List D → D → Option Bool
  | [], d => if (d.isT "int").isSome = true then some false else none
  | .ty n :: r, d => if n ∈ known6 then (match d.isT n, D.isTs r d with
    | some a, some b => some (a || b)
    | _, _ => none) else none
  | _, _ => none
@[simp] def wIsi : List D → S → (D → S → Prop) → Prop := fun ds s k => match ds with
  | [d, .ty n] => n ∈ known6 ∧ (match d.isT n with
    | some b => k (.bl b) s
    | none => False)
  | _ => False
@[simp] def wIsiT : List D → S → (D → S → Prop) → Prop := fun ds s k => match ds with
  | [d, .tup ts] => (match D.isTs ts d with
    | some b => k (.bl b) s
    | none => False)
  | _ => False
def cutD (ds : List D) (lo hi : Option Int) : List D := (ds.drop (HT.sIx ds.length 0 lo)).take (HT.sIx ds.length ds.length hi - HT.sIx ds.length 0 lo)
abbrev WO (S : Type) := List Sl → S → (Option Int → S → Prop) → (Xc → S → Prop) → Prop
@[simp] def wNoPart : WO S := fun _ s k _ => k none s
@[simp] def wPart (w : WE S) : WO S := fun env s k x => w env s (fun d s1 => match d with
  | .int i => k (some i) s1
  | _ => False) x
@[simp] def wSl (wr : D → Option Int → Option Int → S → (D → S → Prop) → Prop) (we : WE S) (wl wh : WO S) : WE S := fun env s k x => we env s (fun d s1 => wl env s1 (fun l s2 => wh env s2 (fun h s3 => wr d l h s3 k) x) x) x
@[simp] def wSlT : D → Option Int → Option Int → S → (D → S → Prop) → Prop := fun d l h s k => match d with
  | .tup ds => k (.tup (cutD ds l h)) s
  | _ => False
@[simp] def wSlL : D → Option Int → Option Int → S → (D → S → Prop) → Prop := fun d l h s k => match d with
  | .lst ds => k (.lst (cutD ds l h)) s
  | _ => False
@[simp] def wSlS : D → Option Int → Option Int → S → (D → S → Prop) → Prop := fun d l h s k => match d with
  | .str z => k (.str (cutS z l h)) s
  | _ => False
end
section
variable {S : Type} (W : Wd S) (G : Gm S)
def SimP (t : TO) (w : WO S) : Prop := ∀ R env σ H s, Rel W G R env σ H s → ∀ k x, w env s k x → XOk W G x → ∀ Q : Option Int → Hp → Prop,
  (∀ o s' H', k o s' → Fr W s H s' H' → W.J s' H' → Q o H') → t σ H Q
def SimL (r : V → Option Int → Option Int → Hp → VK → Prop) (w : D → Option Int → Option Int → S → (D → S → Prop) → Prop) : Prop := ∀ R s H, At W R s H → ∀ x d, Ag W R s H x d → ∀ l h k, w d l h s k → ∀ Q : VK,
  (∀ d' v H', k d' s → Fr W s H s H' → W.J s H' → Da (Bf W R s) H' v d' → Q v H') → r x l h H Q
end
section
variable {S : Type} {W : Wd S} {G : Gm S} {K : PySem.W.Frag} {R : Addr → Prop} {s : S} {H : Hp}
/-! what a shallow thing is -/
theorem Ag.lstI {v : V} {ds : List D} (a : Ag W R s H v (.lst ds)) : ∃ p xs, v = .ref p ∧ H p = some (.lst xs) ∧ DaL (Bf W R s) H xs ds ∧ ds.length ≤ sizeLine := by
  cases a with
  | da h => cases h with
    | lst e n l z => exact ⟨_, _, rfl, e, l, z⟩
  | lst e n l z => exact ⟨_, _, rfl, e, l, z⟩
theorem Ag.tupI {v : V} {ds : List D} (a : Ag W R s H v (.tup ds)) : ∃ p xs, v = .ref p ∧ H p = some (.tup xs) ∧ DaL (Bf W R s) H xs ds ∧ Da (Bf W R s) H v (.tup ds) ∧ ds.length ≤ sizeLine := by
  cases a with
  | da h =>
    cases h with
    | tup e n l z => exact ⟨_, _, rfl, e, l, .tup e n l z, z⟩
theorem Ag.intI {v : V} {i : Int} (a : Ag W R s H v (.int i)) : v = .int i := by
  cases a with
  | da h => cases h; rfl
theorem Ag.blI {v : V} {i : Bool} (a : Ag W R s H v (.bl i)) : v = .bl i := by
  cases a with
  | da h => cases h; rfl
theorem Ag.strI {v : V} {i : Str} (a : Ag W R s H v (.str i)) : v = .str i ∧ i.length ≤ sizeLine := by
  cases a with
  | da h => cases h with
    | str h => exact ⟨rfl, h⟩
theorem Ag.nonI {v : V} (a : Ag W R s H v .non) : v = .non := by
  cases a with
  | da h => cases h; rfl
theorem Ag.tyI {v : V} {n : String} (a : Ag W R s H v (.ty n)) : v = .ty n := by
  cases a with
  | da h => cases h; rfl
theorem Ag.svI {v : V} {d : D} {u : V} (a : Ag W R s H v d) (h : d.sv = some u) : v = u := by
  cases d with
  | non => cases h; exact a.nonI
  | bl b => cases h; exact a.blI
  | int b => cases h; exact a.intI
  | str b => cases h; exact a.strI.1
  | _ => cases h
theorem AgL.one {vs : List V} {d : D} (a : AgL W R s H vs [d]) : ∃ v, vs = [v] ∧ Ag W R s H v d := by
  cases a with
  | cons h t => cases t; exact ⟨_, rfl, h⟩
theorem AgL.two {vs : List V} {d e : D} (a : AgL W R s H vs [d, e]) : ∃ v u, vs = [v, u] ∧ Ag W R s H v d ∧ Ag W R s H u e := by
  cases a with
  | cons h t =>
    obtain ⟨u, rfl, h2⟩ := t.one
    exact ⟨_, _, rfl, h, h2⟩
/-! operators -/
theorem so_i0 {g : Int → Int → V} (hs : ∀ i j, Sc (g i j) := by intros; exact True.intro) : SimO W (rI0 g) (wI0 g) := fun R s H at_ x y d e a b k hw Q hQ => by
  cases d with
  | int i => cases e with
    | int j => exact ⟨i, j, a.intI, b.intI, hQ _ _ H hw .refl at_.j (hs i j).da⟩
    | _ => exact hw.elim
  | _ => exact hw.elim
theorem so_iC {C : Int → Int → Prop} {g : Int → Int → V} (hs : ∀ i j, Sc (g i j) := by intros; exact True.intro) : SimO W (rI C g) (wIC C g) := fun R s H at_ x y d e a b k hw Q hQ => by
  cases d with
  | int i => cases e with
    | int j => exact ⟨i, j, a.intI, b.intI, hw.1, hQ _ _ H hw.2 .refl at_.j (hs i j).da⟩
    | _ => exact hw.elim
  | _ => exact hw.elim
theorem su_i {g : Int → V} (hs : ∀ i, Sc (g i) := by intros; exact True.intro) : SimU W (rU g) (wU g) := fun R s H at_ x d a k hw Q hQ => by
  cases d with
  | int i => exact ⟨i, a.intI, hQ _ _ H hw .refl at_.j (hs i).da⟩
  | _ => exact hw.elim
theorem D.eqs_sv {d e : D} {b : Bool} (h : d.eqs e = some b) : ∃ u v, d.sv = some u ∧ e.sv = some v ∧ scal u v = true ∧ b = decide (u = v) := by
  cases d <;> cases e <;> first
    | (cases h; exact ⟨_, _, rfl, rfl, rfl, by simp⟩)
    | cases h
theorem so_eq : SimO W rEq wEq := fun R s H at_ x y d e a b k hw Q hQ => by
  unfold wEq at hw
  cases h : d.eqs e with
  | none => rw [h] at hw; exact hw.elim
  | some c =>
    rw [h] at hw
    obtain ⟨u, v, h1, h2, h3, rfl⟩ := D.eqs_sv h
    rw [a.svI h1, b.svI h2]
    exact ⟨h3, hQ _ _ H hw .refl at_.j (.bl _)⟩
theorem so_ne : SimO W rNe wNe := fun R s H at_ x y d e a b k hw Q hQ => by
  unfold wNe at hw
  cases h : d.eqs e with
  | none => rw [h] at hw; exact hw.elim
  | some c =>
    rw [h] at hw
    obtain ⟨u, v, h1, h2, h3, rfl⟩ := D.eqs_sv h
    rw [a.svI h1, b.svI h2]
    exact ⟨h3, hQ _ _ H hw .refl at_.j (.bl _)⟩
theorem Ag.isN {v : V} {d : D} (a : Ag W R s H v d) : decide (v = .non) = (match d with | .non => true | _ => false) := by
  cases a with
  | da h => cases h <;> simp
  | _ => simp
theorem so_isN : SimO W rIsN wIsN := fun R s H at_ x y d e a b k hw Q hQ => by
  cases e with
  | non =>
    refine ⟨b.nonI, hQ _ _ H hw .refl at_.j ?_⟩
    rw [a.isN]
    cases d <;> exact .bl _
  | _ => exact hw.elim
theorem DaL.atI {B : Addr → Prop} {vs : List V} {ds : List D} {i : Int} {d : D} (h : DaL B H vs ds) (e : L2.atI ds i = some d) : ∃ v, L2.atI vs i = some v ∧ Da B H v d := by
  unfold L2.atI at e ⊢
  rw [h.len]
  cases q : ixN ds.length i with
  | none => rw [q] at e; cases e
  | some j =>
    rw [q] at e
    exact h.get' e
theorem so_ixL : SimO W (rIxL K) wIxL := fun R s H at_ x y d e a b k hw Q hQ => by
  cases d with
  | lst ds => cases e with
    | int i =>
      obtain ⟨p, xs, rfl, e1, l, lz⟩ := a.lstI
      simp only [wIxL] at hw
      cases q : atI ds i with
      | none => rw [q] at hw; exact hw.elim
      | some z =>
        rw [q] at hw
        obtain ⟨v, e2, h2⟩ := l.atI q
        exact ⟨p, xs, i, v, rfl, b.intI, .of e1, e2, hQ _ _ H hw .refl at_.j h2⟩
    | _ => exact hw.elim
  | _ => exact hw.elim
theorem so_ixT : SimO W (rIxT K) wIxT := fun R s H at_ x y d e a b k hw Q hQ => by
  cases d with
  | tup ds => cases e with
    | int i =>
      obtain ⟨p, xs, rfl, e1, l, _, lz⟩ := a.tupI
      simp only [wIxT] at hw
      cases q : atI ds i with
      | none => rw [q] at hw; exact hw.elim
      | some z =>
        rw [q] at hw
        obtain ⟨v, e2, h2⟩ := l.atI q
        exact ⟨p, xs, i, v, rfl, b.intI, .of e1, e2, hQ _ _ H hw .refl at_.j h2⟩
    | _ => exact hw.elim
  | _ => exact hw.elim
theorem one_le : ∀ c : Nat, (⟨#[c]⟩ : Str).length ≤ sizeLine := fun c => by
  show 1 ≤ sizeLine
  decide
theorem so_ix : SimO W (rIx K) wIx := fun R s H at_ x y d e a b k hw Q hQ => by
  cases d with
  | lst ds => cases e with
    | int i => exact .inl (so_ixL (K := K) R s H at_ x y _ _ a b k hw Q hQ)
    | _ => exact hw.elim
  | tup ds => cases e with
    | int i => exact .inr (.inl (so_ixT (K := K) R s H at_ x y _ _ a b k hw Q hQ))
    | _ => exact hw.elim
  | str z => cases e with
    | int i =>
      simp only [wIx] at hw
      cases q : atI z.cps.toList i with
      | none => rw [q] at hw; exact hw.elim
      | some c =>
        rw [q] at hw
        exact .inr (.inr ⟨z, i, c, a.strI.1, b.intI, a.strI.2, q, hQ _ _ H hw .refl at_.j (.str (one_le c))⟩)
    | _ => exact hw.elim
  | _ => exact hw.elim
theorem DaL.svs {B : Addr → Prop} {vs : List V} {ds : List D} (h : DaL B H vs ds) (q : ds.all (fun z => z.sv.isSome) = true) : ds.map (·.sv) = vs.map some := by
  induction vs generalizing ds with
  | nil => cases h; rfl
  | cons v vs ih =>
    cases h with
    | cons h1 t =>
      rw [List.all_cons, Bool.and_eq_true] at q
      rw [List.map_cons, List.map_cons, ih t q.2]
      congr 1
      cases h1 <;> first | rfl | exact absurd q.1 (by simp)
theorem sv_flat {d : D} {u : V} (h : d.sv = some u) : flatV u = true := by
  cases d <;> cases h <;> rfl
theorem so_in {neg : Bool} : SimO W (rIn K neg) (wIn neg) := fun R s H at_ x y d e a b k hw Q hQ => by
  have key : ∀ (p : Addr) (xs : List V) (ds : List D), y = .ref p → (SqL K H p xs ∨ SqT K H p xs) → DaL (Bf W R s) H xs ds → (d.sv.isSome = true ∧ ds.all (fun z => z.sv.isSome) = true ∧ k (.bl (if neg then !inD d ds else inD d ds)) s) → rIn K neg x y H Q := by
    rintro p xs ds rfl hs l ⟨h1, h2, h3⟩
    obtain ⟨u, hu⟩ := Option.isSome_iff_exists.mp h1
    have ex := a.svI hu
    subst ex
    have m := l.svs h2
    have ein : inV x xs = inD d ds := by
      clear h3 h2 hs l
      unfold inV inD
      induction xs generalizing ds with
      | nil => cases ds with
        | nil => rfl
        | cons _ _ => cases m
      | cons z zs ih => cases ds with
        | nil => cases m
        | cons c cs =>
          rw [List.map_cons, List.map_cons] at m
          injection m with m1 m2
          rw [List.any_cons, List.any_cons, ih cs m2, m1, hu]
    refine ⟨p, xs, rfl, hs, sv_flat hu, ?_, ?_⟩
    · rw [List.all_eq_true]
      intro z hz
      obtain ⟨c, hc, dc⟩ := l.mem hz
      have := List.all_eq_true.mp h2 c hc
      obtain ⟨u, hu⟩ := Option.isSome_iff_exists.mp this
      have e := (Ag.da (W := W) (R := R) (s := s) dc).svI hu
      rw [e]
      exact sv_flat hu
    · rw [ein]
      exact hQ _ _ H h3 .refl at_.j (.bl _)
  cases e with
  | lst ds =>
    obtain ⟨p, xs, rfl, e1, l, lz⟩ := b.lstI
    exact key p xs ds rfl (.inl (.of e1)) l hw
  | tup ds =>
    obtain ⟨p, xs, rfl, e1, l, _, lz⟩ := b.tupI
    exact key p xs ds rfl (.inr (.of e1)) l hw
  | _ => exact hw.elim
theorem so_inS : SimO W rInS wInS := fun R s H at_ x y d e a b k hw Q hQ => by
  cases d with
  | str i => cases e with
    | str j =>
      obtain ⟨c, rfl, hw⟩ := hw
      exact ⟨c, j, a.strI.1, b.strI.1, hQ _ _ H hw .refl at_.j (.bl _)⟩
    | _ => exact hw.elim
  | _ => exact hw.elim
theorem so_catT : SimO W (rCatA K) wCatT := fun R s H at_ x y d e a b k hw Q hQ => by
  cases d with
  | tup ds => cases e with
    | tup es =>
      obtain ⟨p, xs, rfl, e1, l1, da1, lz1⟩ := a.tupI
      obtain ⟨q, ys, rfl, e2, l2, da2, lz2⟩ := b.tupI
      refine ⟨p, q, xs, ys, rfl, rfl, .of e1, .of e2, by rw [l1.len, l2.len]; exact hw.1, fun hx => ?_, fun hx hy => ?_, fun hx hy r hr => ?_⟩
      · subst hx
        cases l1
        exact hQ _ _ H hw.2 .refl at_.j da2
      · subst hy
        cases l2
        have := hw.2
        rw [List.append_nil] at this
        exact hQ _ _ H this .refl at_.j da1
      · exact hQ _ _ _ hw.2 (.new_at hr at_) (at_.new_at hr).j (.tup upd_same (at_.fresh hr) ((l1.app l2).mv (Fr.new_at hr at_).mv) (by rw [List.length_append]; exact hw.1))
    | _ => exact hw.elim
  | _ => exact hw.elim
theorem so_catL : SimO W rCat wCatL := fun R s H at_ x y d e a b k hw Q hQ => by
  cases d with
  | lst ds => cases e with
    | lst es =>
      obtain ⟨p, xs, rfl, e1, l1, lz1⟩ := a.lstI
      obtain ⟨q, ys, rfl, e2, l2, lz2⟩ := b.lstI
      exact ⟨p, q, xs, ys, rfl, rfl, e1, e2, by rw [l1.len, l2.len]; exact hw.1, fun r hr => hQ _ _ _ hw.2 (.new_at hr at_) (at_.new_at hr).j (.lst upd_same (at_.fresh hr) ((l1.app l2).mv (Fr.new_at hr at_).mv) (by rw [List.length_append]; exact hw.1))⟩
    | _ => exact hw.elim
  | _ => exact hw.elim
theorem len_app (a b : Str) : (a ++ b).length = a.length + b.length := by
  show (a.cps ++ b.cps).size = _
  rw [Array.size_append]
  rfl
theorem so_addS : SimO W rAddS wAddS := fun R s H at_ x y d e a b k hw Q hQ => by
  cases d with
  | str i => cases e with
    | str j => exact ⟨i, j, a.strI.1, b.strI.1, hw.1, hQ _ _ H hw.2 .refl at_.j (.str (by rw [len_app]; exact hw.1))⟩
    | _ => exact hw.elim
  | _ => exact hw.elim
theorem so_mulS : SimO W Dt.rMulS wMulS := fun R s H at_ x y d e a b k hw Q hQ => by
  cases d with
  | str i => cases e with
    | int j =>
      obtain ⟨h1, h2, h3, h4, h5, h6, h7⟩ := hw
      exact ⟨i, j, a.strI.1, b.intI, h1, h2, h3, h4, h5, h6, hQ _ _ H h7 .refl at_.j (.str h6)⟩
    | _ => exact hw.elim
  | _ => exact hw.elim
theorem DaL.rep {B : Addr → Prop} {vs : List V} {ds : List D} (h : DaL B H vs ds) : ∀ n, DaL B H (List.replicate n vs).flatten (List.replicate n ds).flatten
  | 0 => .nil
  | n + 1 => by
    rw [List.replicate_succ, List.replicate_succ, List.flatten_cons, List.flatten_cons]
    exact h.app (h.rep n)
theorem rep_len {α : Type} (n : Nat) (l : List α) : (List.replicate n l).flatten.length = n * l.length := by
  induction n with
  | zero => simp
  | succ n ih => rw [List.replicate_succ, List.flatten_cons, List.length_append, ih, Nat.succ_mul, Nat.add_comm]
theorem so_repT : SimO W (rRepT K) wRepT := fun R s H at_ x y d e a b k hw Q hQ => by
  cases d with
  | tup ds => cases e with
    | int j =>
      obtain ⟨h1, h2, h3, h4, h5, h6⟩ := hw
      obtain ⟨p, xs, rfl, e1, l1, da1, lz1⟩ := a.tupI
      exact ⟨p, j, xs, rfl, b.intI, .of e1, fun z => h1 (by subst z; cases l1; rfl), h2, h3, by rw [l1.len]; exact h4, fun r hr =>
        hQ _ _ _ h6 (.new_at hr at_) (at_.new_at hr).j (.tup upd_same (at_.fresh hr) ((l1.rep _).mv (Fr.new_at hr at_).mv) (by rw [rep_len, Nat.mul_comm]; exact h5))⟩
    | _ => exact hw.elim
  | _ => exact hw.elim
mutual
theorem Da.py {B : Addr → Prop} : ∀ {d : D} {v : V} {p : PyData}, Da B H v d → d.py = some p → Dp K H v p
  | .non, _, _, h, e => by
    cases h
    cases e
    exact .non
  | .bl b, _, _, h, e => by
    cases h
    cases e
    exact .bl b
  | .int i, _, _, h, e => by
    cases h
    cases e
    exact .int i
  | .str x, _, _, h, e => by
    cases h
    cases e
    exact .str x
  | .lst ds, _, _, h, e => by
    cases h with
    | lst e1 n l _ =>
      unfold D.py at e
      obtain ⟨ps, e2, rfl⟩ := Option.map_eq_some_iff.mp e
      exact .lst (.of e1) (DaL.pys l e2)
  | .tup ds, _, _, h, e => by
    cases h with
    | tup e1 n l _ =>
      unfold D.py at e
      obtain ⟨ps, e2, rfl⟩ := Option.map_eq_some_iff.mp e
      exact .tup (.of e1) (DaL.pys l e2)
  | .dic _, _, _, _, e => by cases e
  | .dit _, _, _, _, e => by cases e
  | .obj _ _, _, _, _, e => by cases e
  | .opq _, _, _, _, e => by cases e
  | .ty _, _, _, _, e => by cases e
theorem DaL.pys {B : Addr → Prop} : ∀ {ds : List D} {vs : List V} {ps : List PyData}, DaL B H vs ds → D.pys ds = some ps → DpAll K H vs ps
  | [], _, _, h, e => by
    cases h
    cases e
    exact .nil
  | d :: r, _, _, h, e => by
    cases h with
    | cons h1 t =>
      unfold D.pys at e
      cases e1 : d.py with
      | none => rw [e1] at e; cases e
      | some a =>
        cases e2 : D.pys r with
        | none => rw [e1, e2] at e; cases e
        | some b =>
          rw [e1, e2] at e
          cases e
          exact .cons (Da.py h1 e1) (DaL.pys t e2)
end
theorem Ag.py {v : V} {d : D} {p : PyData} (a : Ag W R s H v d) (e : d.py = some p) : Dp K H v p := by
  cases a with
  | da h => exact h.py e
  | lst e1 n l _ =>
    unfold D.py at e
    obtain ⟨ps, e2, rfl⟩ := Option.map_eq_some_iff.mp e
    exact .lst (.of e1) (l.pys e2)
  | dic => cases e
  | dit => cases e
theorem so_eqD : SimO W (rEqD K) wEqD := fun R s H at_ x y d e a b k hw Q hQ => by
  obtain ⟨p, q, h1, h2, h3, h4, h5⟩ := hw
  exact ⟨p, q, a.py h1, b.py h2, h3, h4, hQ _ _ H h5 .refl at_.j (.bl _)⟩
theorem so_neD : SimO W (rNeD K) wNeD := fun R s H at_ x y d e a b k hw Q hQ => by
  obtain ⟨p, q, h1, h2, h3, h4, h5⟩ := hw
  exact ⟨p, q, a.py h1, b.py h2, h3, h4, hQ _ _ H h5 .refl at_.j (.bl _)⟩
theorem so_inD : SimO W (rInD K) wInD := fun R s H at_ x y d e a b k hw Q hQ => by
  obtain ⟨p, q, h1, h2, h3, h4, h5⟩ := hw
  exact ⟨p, q, a.py h1, b.py h2, h3, h4, hQ _ _ H h5 .refl at_.j (.bl _)⟩
theorem DaL.ints {B : Addr → Prop} : ∀ {ds : List D} {vs : List V} {ns : List Int}, DaL B H vs ds → D.ints ds = some ns → vs = ns.map V.int
  | [], _, _, .nil, e => by cases e; rfl
  | .int i :: r, _, _, .cons h t, e => by
    cases h
    unfold D.ints at e
    obtain ⟨ms, e2, rfl⟩ := Option.map_eq_some_iff.mp e
    rw [List.map_cons, t.ints e2]
  | .non :: _, _, _, _, e => by cases e
  | .bl _ :: _, _, _, _, e => by cases e
  | .str _ :: _, _, _, _, e => by cases e
  | .lst _ :: _, _, _, _, e => by cases e
  | .tup _ :: _, _, _, _, e => by cases e
  | .dic _ :: _, _, _, _, e => by cases e
  | .dit _ :: _, _, _, _, e => by cases e
  | .obj _ _ :: _, _, _, _, e => by cases e
  | .opq _ :: _, _, _, _, e => by cases e
  | .ty _ :: _, _, _, _, e => by cases e
theorem DaL.bls {B : Addr → Prop} : ∀ {ds : List D} {vs : List V} {ns : List Bool}, DaL B H vs ds → D.bls ds = some ns → vs = ns.map V.bl
  | [], _, _, .nil, e => by cases e; rfl
  | .bl i :: r, _, _, .cons h t, e => by
    cases h
    unfold D.bls at e
    obtain ⟨ms, e2, rfl⟩ := Option.map_eq_some_iff.mp e
    rw [List.map_cons, t.bls e2]
  | .non :: _, _, _, _, e => by cases e
  | .int _ :: _, _, _, _, e => by cases e
  | .str _ :: _, _, _, _, e => by cases e
  | .lst _ :: _, _, _, _, e => by cases e
  | .tup _ :: _, _, _, _, e => by cases e
  | .dic _ :: _, _, _, _, e => by cases e
  | .dit _ :: _, _, _, _, e => by cases e
  | .obj _ _ :: _, _, _, _, e => by cases e
  | .opq _ :: _, _, _, _, e => by cases e
  | .ty _ :: _, _, _, _, e => by cases e
theorem DaL.strs {B : Addr → Prop} : ∀ {ds : List D} {vs : List V} {ns : List Str}, DaL B H vs ds → D.strs ds = some ns → vs = ns.map V.str
  | [], _, _, .nil, e => by cases e; rfl
  | .str i :: r, _, _, .cons h t, e => by
    cases h
    unfold D.strs at e
    obtain ⟨ms, e2, rfl⟩ := Option.map_eq_some_iff.mp e
    rw [List.map_cons, t.strs e2]
  | .non :: _, _, _, _, e => by cases e
  | .int _ :: _, _, _, _, e => by cases e
  | .bl _ :: _, _, _, _, e => by cases e
  | .lst _ :: _, _, _, _, e => by cases e
  | .tup _ :: _, _, _, _, e => by cases e
  | .dic _ :: _, _, _, _, e => by cases e
  | .dit _ :: _, _, _, _, e => by cases e
  | .obj _ _ :: _, _, _, _, e => by cases e
  | .opq _ :: _, _, _, _, e => by cases e
  | .ty _ :: _, _, _, _, e => by cases e
def rTT (K : PySem.W.Frag) (f : List Int → List Int → Bool) : R2 := fun x y H Q => ∃ (a b : Addr) (ns ms : List Int), x = .ref a ∧ y = .ref b ∧ SqT K H a (ns.map V.int) ∧ SqT K H b (ms.map V.int) ∧ Q (.bl (f ns ms)) H
/-! built-ins -/
theorem sc_len : SimC W (Rd.rLen K) wLen := fun R s H at_ xs ds a k hw Q hQ => by
  match ds, a, hw with
  | [.lst es], a, hw =>
    obtain ⟨v, rfl, a1⟩ := a.one
    obtain ⟨p, ys, rfl, e, l, lz⟩ := a1.lstI
    exact .inl ⟨p, ys, rfl, .inl (.of e), hQ _ _ H (by simpa [l.len] using hw) .refl at_.j (.int _)⟩
  | [.tup es], a, hw =>
    obtain ⟨v, rfl, a1⟩ := a.one
    obtain ⟨p, ys, rfl, e, l, _, lz⟩ := a1.tupI
    exact .inl ⟨p, ys, rfl, .inr (.of e), hQ _ _ H (by simpa [l.len] using hw) .refl at_.j (.int _)⟩
  | [.str z], a, hw =>
    obtain ⟨v, rfl, a1⟩ := a.one
    exact .inr ⟨z, by rw [a1.strI.1], a1.strI.2, hQ _ _ H hw .refl at_.j (.int _)⟩
theorem sc_int : SimC W Rd.rInt wInt := fun R s H at_ xs ds a k hw Q hQ => by
  match ds, a, hw with
  | [.int i], a, hw =>
    obtain ⟨v, rfl, a1⟩ := a.one
    exact .inl ⟨i, by rw [a1.intI], hQ _ _ H hw .refl at_.j (.int _)⟩
  | [.bl i], a, hw =>
    obtain ⟨v, rfl, a1⟩ := a.one
    exact .inr ⟨i, by rw [a1.blI], hQ _ _ H hw .refl at_.j (.int _)⟩
theorem sc_list : SimC W (Rd.rListOf K) wListOf := fun R s H at_ xs ds a k hw Q hQ => by
  match ds, a, hw with
  | [.lst es], a, hw =>
    obtain ⟨v, rfl, a1⟩ := a.one
    obtain ⟨p, ys, rfl, e, l, lz⟩ := a1.lstI
    exact ⟨p, ys, rfl, .inl (.of e), fun r hr => hQ _ _ _ hw (.new_at hr at_) (at_.new_at hr).j (.lst upd_same (at_.fresh hr) (l.mv (Fr.new_at hr at_).mv) lz)⟩
  | [.tup es], a, hw =>
    obtain ⟨v, rfl, a1⟩ := a.one
    obtain ⟨p, ys, rfl, e, l, _, lz⟩ := a1.tupI
    exact ⟨p, ys, rfl, .inr (.of e), fun r hr => hQ _ _ _ hw (.new_at hr at_) (at_.new_at hr).j (.lst upd_same (at_.fresh hr) (l.mv (Fr.new_at hr at_).mv) lz)⟩
theorem sc_tuple : SimC W (Rd.rTupOf K) wTupOf := fun R s H at_ xs ds a k hw Q hQ => by
  match ds, a, hw with
  | [.lst es], a, hw =>
    obtain ⟨v, rfl, a1⟩ := a.one
    obtain ⟨p, ys, rfl, e, l, lz⟩ := a1.lstI
    exact ⟨p, ys, rfl, .inl ⟨.of e, fun r hr => hQ _ _ _ hw (.new_at hr at_) (at_.new_at hr).j (.tup upd_same (at_.fresh hr) (l.mv (Fr.new_at hr at_).mv) lz)⟩⟩
  | [.tup es], a, hw =>
    obtain ⟨v, rfl, a1⟩ := a.one
    obtain ⟨p, ys, rfl, e, l, d, lz⟩ := a1.tupI
    exact ⟨p, ys, rfl, .inr ⟨.of e, hQ _ _ H hw .refl at_.j d⟩⟩
theorem sc_all : SimC W (rAll K) wAll := fun R s H at_ xs ds a k hw Q hQ => by
  match ds, a, hw with
  | [.lst es], a, ⟨ns, h1, hw⟩ =>
    obtain ⟨v, rfl, a1⟩ := a.one
    obtain ⟨p, ys, rfl, e, l, lz⟩ := a1.lstI
    have := l.bls h1
    subst this
    exact ⟨p, ns, rfl, .of e, hQ _ _ H hw .refl at_.j (.bl _)⟩
def D.tyv : D → Option Value
  | .non => some (.type "NoneType")
  | .bl _ => some (.type "bool")
  | .int _ => some (.type "int")
  | .str _ => some (.type "str")
  | .lst _ => some (.type "list")
  | .tup _ => some (.type "tuple")
  | .dic _ => some (.type "dict")
  | .dit _ => some (.type "dict")
  | _ => none
theorem Ag.tyv {v : V} {d : D} {t : Value} (a : Ag W R s H v d) (h : d.tyv = some t) : TyX K H v t := by
  cases a with
  | da q =>
    cases q with
    | non => cases h; exact .base .non
    | bl b => cases h; exact .base (.bl b)
    | int i => cases h; exact .base (.int i)
    | str z => cases h; exact .base (.str _)
    | lst e _ _ _ => cases h; exact .base (.lst e)
    | tup e _ _ _ => cases h; exact .base (.tup e)
    | dic e _ _ => cases h; exact .base (.dK e)
    | dit e _ _ => cases h; exact .base (.dT e)
    | _ => cases h
  | lst e _ _ _ => cases h; exact .base (.lst e)
  | dic e _ _ => cases h; exact .base (.dK e)
  | dit e _ _ => cases h; exact .base (.dT e)
theorem isT_kit {d : D} {n : String} {b : Bool} (hn : n ∈ known6) (h : d.isT n = some b) : ∃ t, d.tyv = some t ∧ PySem.W.kitOne K t (.type n) = some b := by
  simp only [known6, List.mem_cons, List.not_mem_nil, or_false] at hn
  rcases hn with rfl | rfl | rfl | rfl | rfl | rfl <;> cases d <;> first | (cases h; exact ⟨_, rfl, rfl⟩) | cases h
theorem sc_isi : SimC W (rIsi K) wIsi := fun R s H at_ xs ds a k hw Q hQ => by
  match ds, a, hw with
  | [d, .ty n], a, ⟨hn, hw⟩ =>
    obtain ⟨v, u, rfl, a1, b1⟩ := a.two
    cases h : d.isT n with
    | none => rw [h] at hw; exact hw.elim
    | some c =>
      rw [h] at hw
      obtain ⟨t, h1, h2⟩ := isT_kit (K := K) hn h
      exact ⟨v, u, t, .type n, c, rfl, by rw [b1.tyI]; exact .ty n, a1.tyv h1, h2, hQ _ _ H hw .refl at_.j (.bl _)⟩
end
section
variable {S : Type} {W : Wd S} {G : Gm S} {K : PySem.W.Frag}
theorem sp_no : SimP W G tNoPart wNoPart := fun R env σ H s rl k x hw ox Q hQ => hQ none s H hw .refl rl.at_.j
theorem sp_part {t : TE} {w : WE S} (h : SimG W G t w) : SimP W G (tPart t) (wPart w) := fun R env σ H s rl k x hw ox Q hQ => h R env σ H s rl _ x hw ox _ fun d s1 v H1 hw1 f1 j1 a1 => by
  cases d with
  | int i => exact ⟨i, a1.intI, hQ _ s1 H1 hw1 f1 j1⟩
  | _ => exact hw1.elim
theorem sim_sl {r : V → Option Int → Option Int → Hp → VK → Prop} {wr : D → Option Int → Option Int → S → (D → S → Prop) → Prop} {te : TE} {tl th : TO} {we : WE S} {wl wh : WO S} (hr : SimL W r wr) (he : SimG W G te we) (hl : SimP W G tl wl) (hh : SimP W G th wh) :
    SimE W G (tSl r te tl th) (wSl wr we wl wh) := fun R env σ H s rl k x hw ox Q hQ => he R env σ H s rl _ x hw ox _ fun d s1 v H1 hw1 f1 j1 a1 => hl R env σ H1 s1 (rl.step f1 j1) _ x hw1 ox _ fun l s2 H2 hw2 f2 j2 =>
    hh R env σ H2 s2 ((rl.step f1 j1).step f2 j2) _ x hw2 ox _ fun u s3 H3 hw3 f3 j3 => hr R s3 H3 (((rl.step f1 j1).step f2 j2).step f3 j3).at_ v d ((a1.fr f2).fr f3) l u k hw3 Q fun d' z H' hk f j a => hQ d' s3 z H' hk (((f1.trans f2).trans f3).trans f) j a
theorem cutD_len (ds : List D) (lo hi : Option Int) : (cutD ds lo hi).length ≤ ds.length := by
  unfold cutD
  rw [List.length_take, List.length_drop]
  omega
theorem DaL.cut {B : Addr → Prop} {H : Hp} {vs : List V} {ds : List D} (h : DaL B H vs ds) (lo hi : Option Int) : DaL B H (cutV vs lo hi) (cutD ds lo hi) := by
  unfold cutV cutD
  rw [h.len]
  exact (h.drop _).take _
theorem sl_t : SimL W (rSlA K) wSlT := fun R s H at_ x d a l h k hw Q hQ => by
  cases d with
  | tup ds =>
    obtain ⟨p, xs, rfl, e, hl, da, lz⟩ := a.tupI
    refine ⟨p, xs, rfl, .of e, fun hx => ?_, fun hx r hr => ?_⟩
    · have hx' : HT.sIx ds.length 0 l = 0 ∧ HT.sIx ds.length ds.length h = ds.length := by rw [hl.len] at hx; exact hx
      have hw' : k (.tup (cutD ds l h)) s := hw
      unfold cutD at hw'
      rw [Dt.cutV_whole hx'] at hw'
      exact hQ _ _ H hw' .refl at_.j da
    · exact hQ _ _ _ hw (.new_at hr at_) (at_.new_at hr).j (.tup upd_same (at_.fresh hr) ((hl.cut l h).mv (Fr.new_at hr at_).mv) (Nat.le_trans (cutD_len _ _ _) lz))
  | _ => exact hw.elim
theorem sl_l : SimL W (rSlL K) wSlL := fun R s H at_ x d a l h k hw Q hQ => by
  cases d with
  | lst ds =>
    obtain ⟨p, xs, rfl, e, hl, lz⟩ := a.lstI
    exact ⟨p, xs, rfl, .of e, fun r hr => hQ _ _ _ hw (.new_at hr at_) (at_.new_at hr).j (.lst upd_same (at_.fresh hr) ((hl.cut l h).mv (Fr.new_at hr at_).mv) (Nat.le_trans (cutD_len _ _ _) lz))⟩
  | _ => exact hw.elim
theorem cutS_le (z : Str) (l h : Option Int) : (cutS z l h).length ≤ z.length := by
  show (Array.size _) ≤ _
  rw [cutS]
  simp only [List.size_toArray, List.length_take, List.length_drop]
  have : z.cps.toList.length = z.length := by simp [Str.length]
  omega
theorem sl_s : SimL W rSlS wSlS := fun R s H at_ x d a l h k hw Q hQ => by
  cases d with
  | str z => exact ⟨z, a.strI.1, a.strI.2, hQ _ _ H hw .refl at_.j (.str (Nat.le_trans (cutS_le z l h) a.strI.2))⟩
  | _ => exact hw.elim
end
end Dw
set_option Elab.async false
set_option linter.all false
set_option maxRecDepth 100000
set_option maxHeartbeats 4000000
/-! Dn: what is walked, targets, comprehensions, statements, defs over data. -/
namespace Dw
open PySem PySem.Spec PyProof.Rows L2 RZ
abbrev WG := D → List Sl → (List Sl → Prop) → Prop
abbrev WI (S : Type) := List Sl → S → (List D → S → Prop) → (Xc → S → Prop) → Prop
section
variable {S : Type} (W : Wd S) (G : Gm S)
/-- an iterator of just these items, while St holds -/
structure Itr (J : It) (ds : List D) (St : (Addr → Prop) → S → Hp → Prop) : Prop where
  mv : ∀ R s H R' s' H', St R s H → Mv (Bf W R s) H (Bf W R' s') H' → St R' s' H'
  go : ∀ i R s H, i < ds.length → St R s H → J.go i H
  stop : ∀ R s H, St R s H → J.stop ds.length H
  yld : ∀ i R s H x H', i < ds.length → St R s H → At W R s H → J.yld i H x H' → ∃ d, ds[i]? = some d ∧ Fr W s H s H' ∧ W.J s H' ∧ Da (Bf W R s) H' x d
def SimI (t : TI) (w : WI S) : Prop := ∀ R env σ H s, Rel W G R env σ H s → ∀ k x, w env s k x → XOk W G x → ∀ Q : It → Hp → Prop,
  (∀ ds s' J H' St, k ds s' → Fr W s H s' H' → W.J s' H' → Itr W J ds St → St R s' H' → Q J H') → t σ H Q
/-- a target; us the slots that it sets -/
def SimTg (us : List Nat) (g : TG) (w : WG) : Prop := ∀ R env σ H s, Rel W G R env σ H s → ∀ v d, Da (Bf W R s) H v d → ∀ k, w d env k → ∀ Q : L2.St → Hp → Prop,
  (∀ env' σ', k env' → Rel W G R env' σ' H s → (∀ j, j ∉ us → σ'[j]? = σ[j]?) → σ'.length = σ.length → Q σ' H) → g v σ H Q
def SimTgs (us : List Nat) (g : TGs) (w : List D → List Sl → (List Sl → Prop) → Prop) : Prop := ∀ R env σ H s, Rel W G R env σ H s → ∀ v d, DaL (Bf W R s) H v d → ∀ k, w d env k → ∀ Q : L2.St → Hp → Prop,
  (∀ env' σ', k env' → Rel W G R env' σ' H s → (∀ j, j ∉ us → σ'[j]? = σ[j]?) → σ'.length = σ.length → Q σ' H) → g v σ H Q
end
section
variable {S : Type}
@[simp] def wName (i : Nat) : WG := fun d env k => k (ss env i (.dat d))
@[simp] def wGTup (n : Nat) (w : List D → List Sl → (List Sl → Prop) → Prop) : WG := fun d env k => match d with
  | .tup ds => ds.length = n ∧ w ds env k
  | _ => False
@[simp] def wGNil : List D → List Sl → (List Sl → Prop) → Prop := fun ds env k => match ds with
  | [] => k env
  | _ => False
@[simp] def wGCons (w : WG) (u : List D → List Sl → (List Sl → Prop) → Prop) : List D → List Sl → (List Sl → Prop) → Prop := fun ds env k => match ds with
  | d :: r => w d env fun e => u r e k
  | _ => False
def pairD : List D → List D → List D
  | a :: r, b :: t => .tup [a, b] :: pairD r t
  | _, _ => []
def enumD : Nat → List D → List D
  | _, [] => []
  | n, d :: r => .tup [.int (n : Int), d] :: enumD (n + 1) r
@[simp] def wiTup (w : WE S) : WI S := fun env s k x => w env s (fun d s1 => match d with
  | .tup ds => k ds s1
  | _ => False) x
@[simp] def wiList (w : WE S) : WI S := fun env s k x => w env s (fun d s1 => match d with
  | .lst ds => k ds s1
  | _ => False) x
def signs (z : Str) : List D := z.cps.toList.map fun c => .str ⟨#[c]⟩
@[simp] def wiStr (w : WE S) : WI S := fun env s k x => w env s (fun d s1 => match d with
  | .str z => k (signs z) s1
  | _ => False) x
def rngD (lo : Int) (n : Nat) : List D := (List.range n).map fun i => .int (lo + (i : Nat))
@[simp] def wiRng1 (w : WA S) : WI S := fun env s k x => w env s (fun ds s1 => match ds with
  | [.int j] => j < sizeLine ∧ -(2 ^ 62) ≤ j ∧ k (rngD 0 j.toNat) s1
  | _ => False) x
@[simp] def wiRng2 (w : WA S) : WI S := fun env s k x => w env s (fun ds s1 => match ds with
  | [.int i, .int j] => j - i < sizeLine ∧ (-(2 ^ 62) ≤ i ∧ i < 2 ^ 62 ∧ -(2 ^ 62) ≤ j ∧ j < 2 ^ 62) ∧ k (rngD i (j - i).toNat) s1
  | _ => False) x
@[simp] def wiEnum (w : WA S) : WI S := fun env s k x => w env s (fun ds s1 => match ds with
  | [.lst es] => k (enumD 0 es) s1
  | _ => False) x
@[simp] def wiZip (w : WA S) : WI S := fun env s k x => w env s (fun ds s1 => match ds with
  | [.lst es, .lst fs] => k (pairD es fs) s1
  | [.tup es, .tup fs] => k (pairD es fs) s1
  | _ => False) x
@[simp] def wiRev (w : WE S) : WI S := fun env s k x => w env s (fun d s1 => match d with
  | .lst es => k es.reverse s1
  | .tup es => k es.reverse s1
  | _ => False) x
end
section
variable {S : Type} {W : Wd S} {G : Gm S} {K : PySem.W.Frag}
theorem tg_name {i : Nat} : SimTg W G [i] (gName i) (wName i) := fun R env σ H s rl v d a k hw Q hQ => hQ _ _ hw (rl.setD i a) (fun j hj => by
  rw [List.getElem?_set_ne (by simp at hj; omega)]) (List.length_set ..)
theorem tgs_nil : SimTgs W G [] gNil wGNil := fun R env σ H s rl v d a k hw Q hQ => by
  cases a with
  | nil => exact ⟨rfl, hQ _ _ hw rl (fun _ _ => rfl) rfl⟩
  | cons _ _ => exact hw.elim
theorem tgs_cons {g : TG} {u : TGs} {w : WG} {wu : List D → List Sl → (List Sl → Prop) → Prop} {us vs : List Nat} (hg : SimTg W G us g w) (hu : SimTgs W G vs u wu) : SimTgs W G (us ++ vs) (gCons g u) (wGCons w wu) := fun R env σ H s rl v d a k hw Q hQ => by
  cases a with
  | nil => exact hw.elim
  | cons a t => exact ⟨_, _, rfl, hg R env σ H s rl _ _ a _ hw _ fun env' σ' hk rl' ag ln => hu R env' σ' H s rl' _ _ t k hk Q fun env2 σ2 hk2 rl2 ag2 ln2 =>
      hQ env2 σ2 hk2 rl2 (fun j hj => by rw [ag2 j fun z => hj (List.mem_append.mpr (.inr z)), ag j fun z => hj (List.mem_append.mpr (.inl z))]) (ln2.trans ln)⟩
theorem tg_tup {n : Nat} {u : TGs} {wu : List D → List Sl → (List Sl → Prop) → Prop} {us : List Nat} (hu : SimTgs W G us u wu) : SimTg W G us (gTup K n u) (wGTup n wu) := fun R env σ H s rl v d a k hw Q hQ => by
  cases d with
  | tup ds =>
    cases a with
    | tup e nb l z => exact ⟨_, _, rfl, .of e, by rw [l.len]; exact hw.1, hu R env σ H s rl _ _ l k hw.2 Q hQ⟩
  | _ => exact hw.elim
theorem itr_tup {a : Addr} {ds : List D} : Itr W (Itt K a) ds (fun R s H => Da (Bf W R s) H (.ref a) (.tup ds)) where
  mv R s H R' s' H' h m := h.mv m
  go i R s H hi h := by
    cases h with
    | tup e n l z =>
      obtain ⟨v, hv, _⟩ := l.get' (i := i) (d := ds[i]) (List.getElem?_eq_getElem hi)
      exact ⟨_, v, .of e, hv⟩
  stop R s H h := by
    cases h with
    | tup e n l z => exact ⟨_, .of e, Nat.le_of_eq l.len⟩
  yld i R s H x H' hi h at_ y := by
    cases h with
    | tup e n l z =>
      obtain ⟨rfl, y⟩ := y
      obtain ⟨d, hd, q⟩ := l.get (y _ (.of e))
      exact ⟨d, hd, .refl, at_.j, q⟩
theorem itr_lst {a : Addr} {ds : List D} : Itr W (Itl K a) ds (fun R s H => Da (Bf W R s) H (.ref a) (.lst ds)) where
  mv R s H R' s' H' h m := h.mv m
  go i R s H hi h := by
    cases h with
    | lst e n l z =>
      obtain ⟨v, hv, _⟩ := l.get' (i := i) (d := ds[i]) (List.getElem?_eq_getElem hi)
      exact ⟨_, v, .of e, hv⟩
  stop R s H h := by
    cases h with
    | lst e n l z => exact ⟨_, .of e, Nat.le_of_eq l.len⟩
  yld i R s H x H' hi h at_ y := by
    cases h with
    | lst e n l z =>
      obtain ⟨rfl, y⟩ := y
      obtain ⟨d, hd, q⟩ := l.get (y _ (.of e))
      exact ⟨d, hd, .refl, at_.j, q⟩
theorem itr_str {z : Str} : Itr W (Its z) (signs z) (fun R s H => True) where
  mv R s H R' s' H' h m := h
  go i R s H hi h := by
    show i < z.cps.size
    simpa [signs] using hi
  stop R s H h := by
    show z.cps.size ≤ _
    simp [signs]
  yld i R s H x H' hi h at_ y := by
    obtain ⟨rfl, c, hc, rfl⟩ := y
    refine ⟨.str ⟨#[c]⟩, ?_, .refl, at_.j, .str (one_le c)⟩
    unfold signs
    rw [List.getElem?_map, Array.getElem?_toList, hc]
    rfl
theorem itr_rng {lo : Int} {n : Nat} : Itr W (L2.Itr lo n) (rngD lo n) (fun R s H => True) where
  mv R s H R' s' H' h m := h
  go i R s H hi h := by
    show i < n
    simpa [rngD] using hi
  stop R s H h := by
    show n ≤ _
    simp [rngD]
  yld i R s H x H' hi h at_ y := by
    obtain ⟨rfl, rfl⟩ := y
    refine ⟨.int (lo + (i : Nat)), ?_, .refl, at_.j, .int _⟩
    have hi' : i < n := by simpa [rngD] using hi
    unfold rngD
    rw [List.getElem?_map, List.getElem?_range hi']
    rfl
theorem enumD_len : ∀ (n : Nat) (ds : List D), (enumD n ds).length = ds.length
  | _, [] => rfl
  | n, d :: r => congrArg (· + 1) (enumD_len (n + 1) r)
theorem enumD_get : ∀ (n : Nat) (ds : List D) (i : Nat) (d : D), ds[i]? = some d → (enumD n ds)[i]? = some (.tup [.int ((n + i : Nat) : Int), d])
  | _, [], _, _, h => by cases h
  | n, e :: r, 0, d, h => by cases h; rfl
  | n, e :: r, i + 1, d, h => by
    have := enumD_get (n + 1) r i d h
    rw [show n + (i + 1) = n + 1 + i by omega]
    exact this
theorem two_le : (2 : Nat) ≤ sizeLine := by decide
theorem itr_enum {a : Addr} {ds : List D} : Itr W (Ite K a) (enumD 0 ds) (fun R s H => Da (Bf W R s) H (.ref a) (.lst ds)) where
  mv R s H R' s' H' h m := h.mv m
  go i R s H hi h := by
    cases h with
    | lst e n l z =>
      rw [enumD_len] at hi
      obtain ⟨v, hv, _⟩ := l.get' (i := i) (d := ds[i]) (List.getElem?_eq_getElem hi)
      exact ⟨_, v, .of e, hv⟩
  stop R s H h := by
    cases h with
    | lst e n l z => exact ⟨_, .of e, by rw [enumD_len]; exact Nat.le_of_eq l.len⟩
  yld i R s H x H' hi h at_ y := by
    cases h with
    | lst e n l z =>
      obtain ⟨T, v, rfl, hT, rfl, y⟩ := y
      obtain ⟨d, hd, q⟩ := l.get (y _ (.of e))
      refine ⟨_, enumD_get 0 ds i d hd, .new_at hT at_, (at_.new_at hT).j, ?_⟩
      rw [Nat.zero_add]
      exact .tup upd_same (at_.fresh hT) (.cons (.int _) (.cons (q.mv (Fr.new_at hT at_).mv) .nil)) two_le
theorem pairD_len : ∀ (ds es : List D), (pairD ds es).length = min ds.length es.length
  | [], _ => by simp [pairD]
  | _ :: _, [] => by simp [pairD]
  | a :: r, b :: t => by
    show (pairD r t).length + 1 = min (r.length + 1) (t.length + 1)
    rw [pairD_len r t]
    omega
theorem pairD_get : ∀ (ds es : List D) (i : Nat) (d e : D), ds[i]? = some d → es[i]? = some e → (pairD ds es)[i]? = some (.tup [d, e])
  | [], _, _, _, _, h, _ => by cases h
  | _ :: _, [], _, _, _, _, h => by cases h
  | a :: r, b :: t, 0, d, e, h1, h2 => by cases h1; cases h2; rfl
  | a :: r, b :: t, i + 1, d, e, h1, h2 => pairD_get r t i d e h1 h2
theorem itr_zipL {a b : Addr} {ds es : List D} : Itr W (Itz K a b) (pairD ds es) (fun R s H => Da (Bf W R s) H (.ref a) (.lst ds) ∧ Da (Bf W R s) H (.ref b) (.lst es)) where
  mv R s H R' s' H' h m := ⟨h.1.mv m, h.2.mv m⟩
  go i R s H hi h := by
    rw [pairD_len] at hi
    obtain ⟨h1, h2⟩ := h
    cases h1 with
    | lst e n l z =>
      cases h2 with
      | lst e2 n2 l2 z2 =>
        obtain ⟨v, hv, _⟩ := l.get' (i := i) (d := ds[i]'(by omega)) (List.getElem?_eq_getElem _)
        obtain ⟨u, hu, _⟩ := l2.get' (i := i) (d := es[i]'(by omega)) (List.getElem?_eq_getElem _)
        exact ⟨_, _, v, u, .of e, .of e2, hv, hu⟩
  stop R s H h := by
    obtain ⟨h1, h2⟩ := h
    cases h1 with
    | lst e n l z =>
      cases h2 with
      | lst e2 n2 l2 z2 => exact ⟨_, _, .of e, .of e2, by rw [pairD_len, l.len, l2.len]; omega⟩
  yld i R s H x H' hi h at_ y := by
    obtain ⟨h1, h2⟩ := h
    cases h1 with
    | lst e n l z =>
      cases h2 with
      | lst e2 n2 l2 z2 =>
        obtain ⟨T, v, u, rfl, hT, rfl, y1, y2⟩ := y
        obtain ⟨d, hd, q⟩ := l.get (y1 _ (.of e))
        obtain ⟨d2, hd2, q2⟩ := l2.get (y2 _ (.of e2))
        exact ⟨_, pairD_get ds es i d d2 hd hd2, .new_at hT at_, (at_.new_at hT).j, .tup upd_same (at_.fresh hT) (.cons (q.mv (Fr.new_at hT at_).mv) (.cons (q2.mv (Fr.new_at hT at_).mv) .nil)) two_le⟩
theorem itr_zipT {a b : Addr} {ds es : List D} : Itr W (ItzT K a b) (pairD ds es) (fun R s H => Da (Bf W R s) H (.ref a) (.tup ds) ∧ Da (Bf W R s) H (.ref b) (.tup es)) where
  mv R s H R' s' H' h m := ⟨h.1.mv m, h.2.mv m⟩
  go i R s H hi h := by
    rw [pairD_len] at hi
    obtain ⟨h1, h2⟩ := h
    cases h1 with
    | tup e n l z =>
      cases h2 with
      | tup e2 n2 l2 z2 =>
        obtain ⟨v, hv, _⟩ := l.get' (i := i) (d := ds[i]'(by omega)) (List.getElem?_eq_getElem _)
        obtain ⟨u, hu, _⟩ := l2.get' (i := i) (d := es[i]'(by omega)) (List.getElem?_eq_getElem _)
        exact ⟨_, _, v, u, .of e, .of e2, hv, hu⟩
  stop R s H h := by
    obtain ⟨h1, h2⟩ := h
    cases h1 with
    | tup e n l z =>
      cases h2 with
      | tup e2 n2 l2 z2 => exact ⟨_, _, .of e, .of e2, by rw [pairD_len, l.len, l2.len]; omega⟩
  yld i R s H x H' hi h at_ y := by
    obtain ⟨h1, h2⟩ := h
    cases h1 with
    | tup e n l z =>
      cases h2 with
      | tup e2 n2 l2 z2 =>
        obtain ⟨T, v, u, rfl, hT, rfl, y1, y2⟩ := y
        obtain ⟨d, hd, q⟩ := l.get (y1 _ (.of e))
        obtain ⟨d2, hd2, q2⟩ := l2.get (y2 _ (.of e2))
        exact ⟨_, pairD_get ds es i d d2 hd hd2, .new_at hT at_, (at_.new_at hT).j, .tup upd_same (at_.fresh hT) (.cons (q.mv (Fr.new_at hT at_).mv) (.cons (q2.mv (Fr.new_at hT at_).mv) .nil)) two_le⟩
theorem si_rng1 {t : TA} {w : WA S} (h : SimB W G t w) : SimI W G (iRng1 t) (wiRng1 w) := fun R env σ H s rl k x hw ox Q hQ => h R env σ H s rl _ x hw ox _ fun ds s1 vs H1 hw1 f1 j1 a1 => by
  match ds, a1, hw1 with
  | [.int j], a1, ⟨h1, h2, hw1⟩ =>
    obtain ⟨v, rfl, a⟩ := a1.one
    exact ⟨j, by rw [a.intI], h2, by rw [sizeLine_eq] at h1; omega, hQ _ s1 _ H1 _ hw1 f1 j1 itr_rng True.intro⟩
theorem si_enum {t : TA} {w : WA S} (h : SimA W G t w) : SimI W G (iEnum K t) (wiEnum w) := fun R env σ H s rl k x hw ox Q hQ => h R env σ H s rl _ x hw ox _ fun ds s1 vs H1 hw1 f1 j1 a1 => by
  match ds, a1, hw1 with
  | [.lst es], .cons a .nil, hw1 =>
    cases a with
    | lst e n l z => exact ⟨_, _, rfl, .of e, hQ _ s1 _ H1 _ hw1 f1 j1 itr_enum (.lst e n l z)⟩
theorem si_zip {t : TA} {w : WA S} (h : SimA W G t w) : SimI W G (iZipA K t) (wiZip w) := fun R env σ H s rl k x hw ox Q hQ => h R env σ H s rl _ x hw ox _ fun ds s1 vs H1 hw1 f1 j1 a1 => by
  match ds, a1, hw1 with
  | [.lst es, .lst fs], .cons a (.cons b .nil), hw1 =>
    cases a with
    | lst e n l z => cases b with
      | lst e2 n2 l2 z2 => exact ⟨_, _, _, _, rfl, .inl ⟨.of e, .of e2, hQ _ s1 _ H1 _ hw1 f1 j1 itr_zipL ⟨.lst e n l z, .lst e2 n2 l2 z2⟩⟩⟩
  | [.tup es, .tup fs], .cons a (.cons b .nil), hw1 =>
    cases a with
    | tup e n l z => cases b with
      | tup e2 n2 l2 z2 => exact ⟨_, _, _, _, rfl, .inr ⟨.of e, .of e2, hQ _ s1 _ H1 _ hw1 f1 j1 itr_zipT ⟨.tup e n l z, .tup e2 n2 l2 z2⟩⟩⟩
end
/-! comprehensions -/
@[simp] def wp : List Sl → List Nat → List Sl
  | e, [] => e
  | e, v :: vs => ss (wp e vs) v .no
section
variable {S : Type}
def wLc (g : WG) (tt : WT S) (te : WE S) (vs : List Nat) : List D → List Sl → S → (List D → S → Prop) → (Xc → S → Prop) → Prop
  | [], _, s, k, _ => k [] s
  | d :: r, env, s, k, x => g d (wp env vs) fun env1 => tt env1 s (fun b s1 => if b = true then te env1 s1 (fun y s2 => wLc g tt te vs r env s2 (fun ys s3 => k (y :: ys) s3) x) x else wLc g tt te vs r env s1 k x) x
@[simp] def wLcE (wi : WI S) (g : WG) (tt : WT S) (te : WE S) (vs : List Nat) : WE S := fun env s k x => wi env s (fun ds s1 => ds.length ≤ sizeLine ∧ wLc g tt te vs ds env s1 (fun ys s2 => k (.lst ys) s2) x) x
@[simp] def wLcF (wi : WI S) (g : WG) (tt : WT S) (te : WE S) (vs : List Nat) : WI S := fun env s k x => wi env s (fun ds s1 => ds.length ≤ sizeLine ∧ wLc g tt te vs ds env s1 k x) x
end
section
variable {S : Type} {W : Wd S} {G : Gm S} {K : PySem.W.Frag}
theorem Rel.setN {R : Addr → Prop} {env : List Sl} {σ : L2.St} {H : Hp} {s : S} (r : Rel W G R env σ H s) (i : Nat) : Rel W G R (ss env i .no) (σ.set i none) H s := by
  refine ⟨r.at_, r.fr, r.r0, r.z0, ?_⟩
  by_cases hi : i < env.length
  · have sn : ∀ j, i ≠ j → (σ.set i none)[j]? = σ[j]? := fun j n => List.getElem?_set_ne n
    have nn : ∀ j, (sg (ss env i .no) j).isO = true → i ≠ j := fun j h => by
      rintro rfl
      rw [sg_ss _ _ _ hi] at h
      cases h
    refine ⟨by rw [List.length_set, ss_len]; exact r.env.len, fun j e he => ?_, fun j he => ?_, fun j l p h1 h2 h3 h4 => ?_⟩
    · by_cases n : i = j
      · subst n
        rw [sg_ss _ _ _ hi] at he
        cases he
      · rw [sg_ss_ne _ _ _ _ n] at he
        rw [sn j n]
        exact r.env.dat j e he
    · have n := nn j he
      rw [sg_ss_ne _ _ _ _ n] at he ⊢
      rw [sn j n]
      exact r.env.own j he
    · have n1 := nn j h1
      have n2 := nn l h2
      rw [sg_ss_ne _ _ _ _ n1] at h1
      rw [sg_ss_ne _ _ _ _ n2] at h2
      rw [sn j n1] at h3
      rw [sn l n2] at h4
      exact r.env.uniq j l p h1 h2 h3 h4
  · rw [ss_out _ _ _ (Nat.le_of_not_lt hi), List.set_eq_of_length_le (by rw [r.env.len]; exact Nat.le_of_not_lt hi)]
    exact r.env
theorem Rel.wipe {R : Addr → Prop} {env : List Sl} {σ : L2.St} {H : Hp} {s : S} (r : Rel W G R env σ H s) : ∀ vs : List Nat, Rel W G R (wp env vs) (L2.wipe σ vs) H s
  | [] => r
  | v :: vs => (r.wipe vs).setN v
theorem wipe_get (σ : L2.St) : ∀ (vs : List Nat) (j : Nat), (L2.wipe σ vs)[j]? = if j ∈ vs ∧ j < σ.length then some none else σ[j]?
  | [], j => by simp [L2.wipe]
  | v :: vs, j => by
    show ((L2.wipe σ vs).set v none)[j]? = _
    rw [List.getElem?_set]
    have := wipe_get σ vs j
    by_cases h : v = j
    · subst h
      by_cases hl : v < σ.length
      · rw [if_pos rfl, if_pos (by rw [L2.wipe_length]; exact hl), if_pos ⟨by simp, hl⟩]
      · rw [if_pos rfl, if_neg (by rw [L2.wipe_length]; exact hl), if_neg (fun z => hl z.2), List.getElem?_eq_none (Nat.le_of_not_lt hl)]
    · rw [if_neg h, this]
      have e : (j ∈ v :: vs) ↔ j ∈ vs := by simp [List.mem_cons, Ne.symm h]
      simp only [e]
theorem wipe_eq {σ σ2 : L2.St} {us vs : List Nat} (hl : σ2.length = σ.length) (hs : ∀ j, j ∈ us → j ∈ vs) (h : ∀ j, j ∉ us → σ2[j]? = (L2.wipe σ vs)[j]?) : L2.wipe σ2 vs = L2.wipe σ vs := by
  refine List.ext_getElem? fun j => ?_
  rw [wipe_get σ2, hl]
  by_cases m : j ∈ vs ∧ j < σ.length
  · rw [if_pos m, wipe_get σ, if_pos m]
  · rw [if_neg m]
    by_cases u : j ∈ us
    · have hj : σ.length ≤ j := Nat.le_of_not_lt fun z => m ⟨hs j u, z⟩
      rw [List.getElem?_eq_none (by rw [hl]; exact hj), List.getElem?_eq_none (by rw [L2.wipe_length]; exact hj)]
    · exact h j u
/-- a new list beside the slots, changed -/
theorem Rel.side {R : Addr → Prop} {env : List Sl} {σ : L2.St} {H : Hp} {s : S} (r : Rel W G R env σ H s) {p : Addr} {o : HO} (hp : R p) (hz : G.H0 p = none) (hn : ∀ i, (sg env i).isO = true → σ[i]? ≠ some (some (.ref p))) (ho : ∀ xs, o ≠ .tup xs := by intro _ h; cases h) :
    Rel W G R env σ (upd H p o) s ∧ Mv (Bf W R s) H (Bf W R s) (upd H p o) := by
  have nc := (r.at_.r p hp).2
  have m : Mv (Bf W R s) H (Bf W R s) (upd H p o) := fun b u q n => by
    refine ⟨?_, n⟩
    rw [upd_ne fun z => n (by rw [z]; exact .inl hp)]
    exact q
  refine ⟨⟨⟨W.st s H _ r.at_.j (fun b c => upd_ne fun z => nc (by rw [← z]; exact c)) fun b xs e => (by rw [upd_ne fun z => r.at_.t p xs hp (by rw [← z]; exact e)]; exact e), fun b q => ?_, fun b xs q w => ?_⟩, ⟨fun b u q n => ?_, r.fr.grow, r.fr.new⟩, r.r0, r.z0, ⟨r.env.len, fun i d e => ?_, fun i e => ?_, r.env.uniq⟩⟩, m⟩
  · by_cases z : b = p
    · rw [z, upd_same]
      exact ⟨by simp, nc⟩
    · rw [upd_ne z]
      exact r.at_.r b q
  · by_cases z : b = p
    · rw [z, upd_same] at w
      cases w
      exact ho xs rfl
    · rw [upd_ne z] at w
      exact r.at_.t b xs q w
  · rw [upd_ne (fun z => by rw [z, hz] at q; cases q)]
    exact r.fr.kp b u q n
  · obtain ⟨v, h1, h2⟩ := r.env.dat i d e
    exact ⟨v, h1, h2.mv m⟩
  · obtain ⟨q, h1, h2, h3, h4⟩ := r.env.own i e
    refine ⟨q, h1, h2, h3, h4.mv m fun u z => ?_⟩
    rw [upd_ne fun z => hn i e (by rw [h1, z])]
    exact z
theorem Rel.more {R : Addr → Prop} {env : List Sl} {σ : L2.St} {H : Hp} {s : S} (r : Rel W G R env σ H s) {p : Addr} {o : HO} (hp : H p = none) (ho : ∀ xs, o ≠ .tup xs := by intro _ h; cases h) : Rel W G (fun a => R a ∨ a = p) env σ (upd H p o) s := by
  have nf := r.at_.fresh hp
  have m := r.at_.off (o := o) hp
  have at1 := r.at_.new_at (o := o) hp
  refine ⟨⟨at1.j, fun b q => ?_, fun b xs q w => ?_⟩, r.fr.trans (Fr.new_at hp r.at_), fun b q => .inl (r.r0 b q), r.z0, ⟨r.env.len, fun i d e => ?_, fun i e => ?_, r.env.uniq⟩⟩
  · rcases q with q | q
    · exact at1.r b q
    · rw [q, upd_same]
      exact ⟨by simp, fun c => nf (.inr c)⟩
  · rcases q with q | q
    · exact at1.t b xs q w
    · rw [q, upd_same] at w
      cases w
      exact ho xs rfl
  · obtain ⟨v, h1, h2⟩ := r.env.dat i d e
    exact ⟨v, h1, h2.mv m⟩
  · obtain ⟨q, h1, h2, h3, h4⟩ := r.env.own i e
    refine ⟨q, h1, .inl h2, h3, h4.mv m fun u z => ?_⟩
    rw [upd_ne fun z => (r.at_.r q h2).1 (by rw [z]; exact hp)]
    exact z
theorem sim_lcF {us : List Nat} {wi : TI} {g : TG} {tt : TT} {te : TE} {vs : List Nat} {wI : WI S} {wg : WG} {wt : WT S} {we : WE S} (hi : SimI W G wi wI) (hg : SimTg W G us g wg) (ht : SimT W G tt wt) (he : SimE W G te we) (hs : ∀ j, j ∈ us → j ∈ vs := by decide) :
    SimF W G (tLc wi g tt te vs) (wLcF wI wg wt we vs) := by
  intro R env σ H s rl k x hw ox Q hQ
  refine hi R env σ H s rl _ x hw ox _ fun ds s1 J H1 St hw1 f1 j1 it st p hp => ?_
  obtain ⟨hlen, hw1⟩ := hw1
  have r1 := rl.step f1 j1
  have rm := r1.more (o := .lst []) hp
  have m0 := r1.at_.off (o := .lst []) hp
  have hz := r1.new0 hp
  have hn : ∀ i, (sg env i).isO = true → σ[i]? ≠ some (some (.ref p)) := fun i e z => by
    obtain ⟨q, h1, h2, _⟩ := r1.env.own i e
    rw [z] at h1
    cases h1
    exact (r1.at_.r p h2).1 hp
  refine ⟨fun i m H2 => m = ds.length - i ∧ i ≤ ds.length ∧ ∃ s2 acc da, wLc wg wt we vs (ds.drop i) env s2 (fun ys s3 => k (da ++ ys) s3) x ∧ H2 p = some (.lst acc) ∧ acc.length ≤ i ∧ DaL (Bf W (fun a => R a ∨ a = p) s2) H2 acc da ∧
      Rel W G (fun a => R a ∨ a = p) env σ H2 s2 ∧ St (fun a => R a ∨ a = p) s2 H2 ∧ Fr W s1 H1 s2 H2, ⟨ds.length, by simp, Nat.zero_le _, s1, [], [], hw1, upd_same, Nat.le_refl _, .nil, rm, it.mv _ _ _ _ _ _ st m0, .new_at hp r1.at_⟩, ?_⟩
  rintro i m H2 ⟨rfl, hi', s2, acc, da, hw2, e2, la, da2, rl2, st2, f2⟩
  by_cases hlt : i < ds.length
  · refine .inr ⟨it.go i _ _ _ hlt st2, fun H' => i + 1 ≤ ds.length ∧ ∃ s2 acc da, wLc wg wt we vs (ds.drop (i + 1)) env s2 (fun ys s3 => k (da ++ ys) s3) x ∧ H' p = some (.lst acc) ∧ acc.length ≤ i + 1 ∧ DaL (Bf W (fun a => R a ∨ a = p) s2) H' acc da ∧
      Rel W G (fun a => R a ∨ a = p) env σ H' s2 ∧ St (fun a => R a ∨ a = p) s2 H' ∧ Fr W s1 H1 s2 H', fun H' h => ⟨ds.length - (i + 1), by omega, rfl, h⟩, fun v H3 hy => ?_⟩
    obtain ⟨d, hd, f3, j3, a3⟩ := it.yld i _ _ _ v H3 hlt st2 rl2.at_ hy
    have dr : ds.drop i = d :: ds.drop (i + 1) := by
      have h1 := List.getElem?_eq_some_iff.mp hd
      obtain ⟨h2, h3⟩ := h1
      rw [List.drop_eq_getElem_cons h2, h3]
    rw [dr] at hw2
    have rl3 := rl2.step f3 j3
    have e3 := f3.kp _ _ e2 (rl2.at_.r p (.inr rfl)).2
    refine hg _ _ _ H3 s2 (rl3.wipe vs) v d a3 _ hw2 _ fun env1 σ1 hw3 rl4 ag ln => ⟨wipe_eq (ln.trans (L2.wipe_length σ vs)) hs ag, ?_⟩
    refine ht _ _ _ H3 s2 rl4 _ x hw3 ox _ fun b s4 H4 hw4 f4 j4 => ?_
    have rl5 := rl3.step f4 j4
    have st5 := it.mv _ _ _ _ _ _ (it.mv _ _ _ _ _ _ st2 f3.mv) f4.mv
    have e4 := f4.kp _ _ e3 (rl3.at_.r p (.inr rfl)).2
    cases b with
    | false => exact Rd.iteF ⟨hlt, s4, acc, da, by simpa using hw4, e4, by omega, (da2.mv f3.mv).mv f4.mv, rl5, st5, (f2.trans f3).trans f4⟩
    | true =>
      refine Rd.iteT (he _ _ _ H4 s4 (rl4.step f4 j4) _ x (by simpa using hw4) ox _ fun y s5 yv H5 hw5 f5 j5 a5 => ?_)
      have e5 := f5.kp _ _ e4 (rl5.at_.r p (.inr rfl)).2
      have rl6 := rl5.step f5 j5
      obtain ⟨rl7, m7⟩ := rl6.side (o := .lst (acc ++ [yv])) (.inr rfl) hz hn
      refine ⟨acc, e5, by rw [sizeLine_eq] at hlen ⊢; omega, hlt, s5, acc ++ [yv], da ++ [y], ?_, upd_same, by simp; omega, ?_, rl7, it.mv _ _ _ _ _ _ (it.mv _ _ _ _ _ _ st5 f5.mv) m7, ?_⟩
      · simpa using hw5
      · exact ((((da2.mv f3.mv).mv f4.mv).mv f5.mv).app (.cons a5 .nil)).mv m7
      · have f6 := ((f2.trans f3).trans f4).trans f5
        exact ⟨fun b o e n => by
          rw [upd_ne fun z => by rw [z, hp] at e; cases e]
          exact f6.kp b o e n, f6.grow, f6.new⟩
  · have e : i = ds.length := by omega
    subst e
    rw [List.drop_length] at hw2
    refine .inl ⟨it.stop _ _ _ st2, ?_⟩
    have nb : ¬ Bf W R s2 p := fun z => z.elim (fun q => (r1.at_.r p q).1 hp) (rl2.at_.r p (.inr rfl)).2
    exact hQ da s2 p acc H2 (by have hw2' : k (da ++ []) s2 := hw2; rwa [List.append_nil] at hw2') (f1.trans f2) rl2.at_.j (f1.none rl.at_.j hp j1) e2 nb da2 (by rw [← da2.len]; exact Nat.le_trans la hlen)
end
end Dw
set_option Elab.async false
set_option linter.all false
set_option maxRecDepth 100000
set_option maxHeartbeats 4000000
/-! Dm: statements and defs over data. -/
namespace Dw
open PySem PySem.Spec PyProof.Rows L2 RZ
section
variable {S : Type}
@[simp] def wSeq (u v : WS S) : WS S := fun K env s => u { K with nx := fun e t => v K e t } env s
@[simp] def wNext : WS S := fun K env s => K.nx env s
@[simp] def wBreak : WS S := fun K env s => K.bk env s
@[simp] def wCont : WS S := fun K env s => K.ct env s
@[simp] def wRetN : WS S := fun K env s => K.rt .non s
@[simp] def frzA (env : List Sl) : List Sl := env.map Sl.frz
@[simp] def wRet (w : WE S) : WS S := fun K env s => w (frzA env) s K.rt K.xc
@[simp] def wDrop (w : WE S) : WS S := fun K env s => w env s (fun _ t => K.nx env t) K.xc
@[simp] def wIfS (c : WT S) (u v : WS S) : WS S := fun K env s => c env s (fun b t => if b = true then u K env t else v K env t) K.xc
@[simp] def wAsg (w : WE S) (g : WG) : WS S := fun K env s => w env s (fun d t => g d env fun e => K.nx e t) K.xc
@[simp] def wAsgO (w : WI S) (i : Nat) : WS S := fun K env s => w env s (fun ds t => K.nx (ss env i (.own ds)) t) K.xc
@[simp] def wPar (i j : Nat) (w : WA S) : WS S := fun K env s => w env s (fun ds t => match ds with
  | [d, e] => K.nx (ss (ss env i (.dat d)) j (.dat e)) t
  | _ => False) K.xc
@[simp] def wPar3 (i j l : Nat) (w : WA S) : WS S := fun K env s => w env s (fun ds t => match ds with
  | [d, e, f] => K.nx (ss (ss (ss env i (.dat d)) j (.dat e)) l (.dat f)) t
  | _ => False) K.xc
@[simp] def wAug (i : Nat) (w : WE S) (f : Int → Int → Int) : WS S := fun K env s => match sg env i with
  | .dat (.int a) => w env s (fun d t => match d with
    | .int b => K.nx (ss env i (.dat (.int (f a b)))) t
    | _ => False) K.xc
  | _ => False
def wFor (g : WG) (b : WS S) : List D → WS S
  | [] => fun K env s => K.nx env s
  | d :: r => fun K env s => g d env fun e => b { K with nx := fun e t => wFor g b r K e t, ct := fun e t => wFor g b r K e t, bk := K.nx } e s
@[simp] def wForE (wi : WI S) (g : WG) (b : WS S) : WS S := fun K env s => wi env s (fun ds t => wFor g b ds K env t) K.xc
def wWhN (c : WT S) (b : WS S) : Nat → WS S
  | 0 => fun _ _ _ => False
  | n + 1 => fun K env s => c env s (fun q t => if q = true then b { K with nx := fun e u => wWhN c b n K e u, ct := fun e u => wWhN c b n K e u, bk := K.nx } env t else K.nx env t) K.xc
@[simp] def wWhile (c : WT S) (b : WS S) : WS S := fun K env s => ∃ n, wWhN c b n K env s
/-- a thing of the def's own is data from here on -/
@[simp] def wFrz (i : Nat) (w : WS S) : WS S := fun K env s => w K (ss env i (sg env i).frz) s
@[simp] def wApp (i : Nat) (w : WE S) : WS S := fun K env s => match sg env i with
  | .own ds => w env s (fun d t => ds.length < sizeLine ∧ K.nx (ss env i (.own (ds ++ [d]))) t) K.xc
  | _ => False
@[simp] def wExt (i : Nat) (w : WE S) : WS S := fun K env s => match sg env i with
  | .own ds => w env s (fun d t => match d with
    | .lst es => ds.length + es.length ≤ sizeLine ∧ K.nx (ss env i (.own (ds ++ es))) t
    | _ => False) K.xc
  | _ => False
@[simp] def wSetL (i : Nat) (wv wk : WE S) : WS S := fun K env s => match sg env i with
  | .own ds => wv env s (fun v t => wk env t (fun k u => match k with
    | .int z => (match ixN ds.length z with
      | some j => K.nx (ss env i (.own (ds.set j v))) u
      | none => False)
    | _ => False) K.xc) K.xc
  | _ => False
/-- x = l.pop(i), l.pop() of the def's own list -/
@[simp] def wPopAt (i : Nat) (w : WE S) (g : WG) : WS S := fun K env s => match sg env i with
  | .own ds => w env s (fun k t => match k with
    | .int z => -(2 ^ 63) ≤ z ∧ z < 2 ^ 63 ∧ (match seqIndex? z ds.length with
      | some j => (match ds[j]? with
        | some d => g d (ss env i (.own (ds.eraseIdx j))) fun e => K.nx e t
        | none => False)
      | none => False)
    | _ => False) K.xc
  | _ => False
@[simp] def wPop (i : Nat) (g : WG) : WS S := fun K env s => match sg env i with
  | .own ds => (match ds[ds.length - 1]? with
    | some d => g d (ss env i (.own ds.dropLast)) fun e => K.nx e s
    | none => False)
  | _ => False
end
section
variable {S : Type} {W : Wd S} {G : Gm S} {K : PySem.W.Frag}
theorem ss_seq {t u : TS} {w v : WS S} (h : SimS W G t w) (h' : SimS W G u v) : SimS W G (tSeq t u) (wSeq w v) := fun R env σ H s rl K hw Dn e =>
  h R env σ H s rl _ hw _ ⟨fun R' env' σ' H' s' hk rl' m => h' R' env' σ' H' s' rl' K hk Dn (e.step m), e.rt, e.bk, e.ct, e.xc⟩
theorem ss_next : SimS W G tNext wNext := fun R env σ H s rl K hw Dn e => e.nx R env σ H s hw rl .refl
theorem Rel.frzN {R : Addr → Prop} {env : List Sl} {σ : L2.St} {H : Hp} {s : S} (r : Rel W G R env σ H s) : ∀ n, n ≤ env.length → ∃ R' env', Rel W G R' env' σ H s ∧ (∀ a, R' a → R a) ∧ (∀ i, i < n → sg env' i = (sg env i).frz) ∧ (∀ i, n ≤ i → sg env' i = sg env i) ∧ env'.length = env.length
  | 0, _ => ⟨R, env, r, fun _ h => h, fun i h => absurd h (Nat.not_lt_zero i), fun _ _ => rfl, rfl⟩
  | n + 1, hn => by
    obtain ⟨R1, env1, r1, h1, h2, h3, h4⟩ := r.frzN n (by omega)
    obtain ⟨R2, r2, h5⟩ := r1.frz n
    refine ⟨R2, _, r2, fun a h => h1 a (h5 a h), fun i hi => ?_, fun i hi => ?_, by rw [ss_len, h4]⟩
    · by_cases e : n = i
      · subst e
        rw [sg_ss _ _ _ (by omega), h3 _ (Nat.le_refl _)]
      · rw [sg_ss_ne _ _ _ _ e]
        exact h2 i (by omega)
    · rw [sg_ss_ne _ _ _ _ (by omega)]
      exact h3 i (by omega)
theorem sg_map : ∀ (env : List Sl) (i : Nat), sg (env.map Sl.frz) i = (sg env i).frz
  | [], _ => rfl
  | a :: r, 0 => rfl
  | a :: r, i + 1 => sg_map r i
theorem env_ext : ∀ (a b : List Sl), a.length = b.length → (∀ i, sg a i = sg b i) → a = b
  | [], [], _, _ => rfl
  | [], _ :: _, h, _ => by cases h
  | _ :: _, [], h, _ => by cases h
  | x :: r, y :: t, h, e => by
    rw [show x = y from e 0, env_ext r t (Nat.succ.inj h) fun i => e (i + 1)]
theorem Rel.frzAll {R : Addr → Prop} {env : List Sl} {σ : L2.St} {H : Hp} {s : S} (r : Rel W G R env σ H s) : ∃ R', Rel W G R' (frzA env) σ H s ∧ (∀ a, R' a → R a) := by
  obtain ⟨R1, env1, r1, h1, h2, h3, h4⟩ := r.frzN env.length (Nat.le_refl _)
  refine ⟨R1, ?_, h1⟩
  rw [show frzA env = env1 from env_ext _ _ (by simp [h4]) fun i => ?_]
  · exact r1
  · unfold frzA
    rw [sg_map]
    by_cases hi : i < env.length
    · rw [h2 i hi]
    · rw [h3 i (by omega), sg_out _ _ (by omega)]
      rfl
theorem ss_ret {t : TE} {w : WE S} (h : SimE W G t w) : SimS W G (tRet t) (wRet w) := fun R env σ H s rl K hw Dn e => by
  obtain ⟨R', rl', hs⟩ := rl.frzAll
  exact h R' _ σ H s rl' K.rt K.xc hw e.xc _ fun d s' v H' hk f j a => e.rt d s' v H' hk (rl'.fr.trans f) j (a.imp fun b z => z.imp (rl'.r0 b) id)
theorem ss_drop {t : TE} {w : WE S} (h : SimG W G t w) : SimS W G (tDrop t) (wDrop w) := fun R env σ H s rl K hw Dn e =>
  h R env σ H s rl _ K.xc hw e.xc _ fun d s' v H' hk f j a => e.nx R env σ H' s' hk (rl.step f j) f.mv
theorem ss_if {c : TT} {t u : TS} {wc : WT S} {w v : WS S} (hc : SimT W G c wc) (h : SimS W G t w) (h' : SimS W G u v) : SimS W G (tIfS c t u) (wIfS wc w v) := fun R env σ H s rl K hw Dn e =>
  hc R env σ H s rl _ K.xc hw e.xc _ fun b s' H' hk f j => by
    cases b with
    | true => exact Rd.iteT (h R env σ H' s' (rl.step f j) K (by simpa using hk) Dn (e.step f.mv))
    | false => exact Rd.iteF (h' R env σ H' s' (rl.step f j) K (by simpa using hk) Dn (e.step f.mv))
theorem ss_asg {t : TE} {g : TG} {w : WE S} {wg : WG} {us : List Nat} (h : SimE W G t w) (hg : SimTg W G us g wg) : SimS W G (tAsg t g) (wAsg w wg) := fun R env σ H s rl K hw Dn e =>
  h R env σ H s rl _ K.xc hw e.xc _ fun d s' v H' hk f j a => hg R env σ H' s' (rl.step f j) v d a _ hk _ fun env' σ' hk' rl' _ _ => e.nx R env' σ' H' s' hk' rl' f.mv
/-- slot i is the def's own list -/
structure OwnSl (i : Nat) : Prop where
  mk ::
theorem ss_asgO {t : TE} {i : Nat} {w : WI S} (o : OwnSl i) (h : SimF W G t w) : SimS W G (tAsg t (gName i)) (wAsgO w i) := fun R env σ H s rl K hw Dn e =>
  h R env σ H s rl _ K.xc hw e.xc _ fun ds s' p xs H' hk f j hp hp' nb l z => by
    by_cases hi : i < env.length
    · obtain ⟨rl', m⟩ := rl.setO f j i hp (by rw [hp']; simp) nb (.lst hp' l z) rfl hi
      exact e.nx _ _ _ H' s' hk rl' m
    · refine e.nx R _ _ H' s' hk ?_ f.mv
      rw [ss_out _ _ _ (Nat.le_of_not_lt hi), List.set_eq_of_length_le (by rw [rl.env.len]; exact Nat.le_of_not_lt hi)]
      exact rl.step f j
theorem ss_par {i j : Nat} {t : TA} {w : WA S} (h : SimA W G t w) : SimS W G (tPar i j t) (wPar i j w) := fun R env σ H s rl K hw Dn e =>
  h R env σ H s rl _ K.xc hw e.xc _ fun ds s' vs H' hk f j a => by
    match ds, a, hk with
    | [d, e'], .cons a (.cons b .nil), hk => exact ⟨_, _, rfl, e.nx R _ _ H' s' hk (((rl.step f j).setD _ a).setD _ b) f.mv⟩
theorem ss_par3 {i j l : Nat} {t : TA} {w : WA S} (h : SimA W G t w) : SimS W G (tPar3 i j l t) (wPar3 i j l w) := fun R env σ H s rl K hw Dn e =>
  h R env σ H s rl _ K.xc hw e.xc _ fun ds s' vs H' hk f j a => by
    match ds, a, hk with
    | [d, e', f'], .cons a (.cons b (.cons c .nil)), hk => exact ⟨_, _, _, rfl, e.nx R _ _ H' s' hk ((((rl.step f j).setD _ a).setD _ b).setD _ c) f.mv⟩
theorem ss_for {us : List Nat} {wi : TI} {g : TG} {tb : TS} {wI : WI S} {wg : WG} {wb : WS S} (hi : SimI W G wi wI) (hg : SimTg W G us g wg) (hb : SimS W G tb wb) : SimS W G (tFor wi g tb) (wForE wI wg wb) := by
  intro R env σ H s rl K hw Dn e
  refine hi R env σ H s rl _ K.xc hw e.xc _ fun ds s1 J H1 St hw1 f1 j1 it st => ?_
  have r1 := rl.step f1 j1
  refine ⟨fun i m σ2 H2 => m = ds.length - i ∧ i ≤ ds.length ∧ ∃ R2 env2 s2, wFor wg wb (ds.drop i) K env2 s2 ∧ Rel W G R2 env2 σ2 H2 s2 ∧ St R2 s2 H2 ∧ Mv (Bf W R s) H (Bf W R2 s2) H2, ⟨ds.length, by simp, Nat.zero_le _, R, env, s1, hw1, r1, st, f1.mv⟩, ?_⟩
  rintro i m σ2 H2 ⟨rfl, hi', R2, env2, s2, hw2, rl2, st2, m2⟩
  by_cases hlt : i < ds.length
  · refine .inr ⟨it.go i _ _ _ hlt st2, fun σ3 H3 => i + 1 ≤ ds.length ∧ ∃ R3 env3 s3, wFor wg wb (ds.drop (i + 1)) K env3 s3 ∧ Rel W G R3 env3 σ3 H3 s3 ∧ St R3 s3 H3 ∧ Mv (Bf W R s) H (Bf W R3 s3) H3, fun σ3 H3 h => ⟨ds.length - (i + 1), by omega, rfl, h⟩, fun v H3 hy => ?_⟩
    obtain ⟨d, hd, f3, j3, a3⟩ := it.yld i _ _ _ v H3 hlt st2 rl2.at_ hy
    have dr : ds.drop i = d :: ds.drop (i + 1) := by
      obtain ⟨h2, h3⟩ := List.getElem?_eq_some_iff.mp hd
      rw [List.drop_eq_getElem_cons h2, h3]
    rw [dr] at hw2
    have rl3 := rl2.step f3 j3
    have st3 := it.mv _ _ _ _ _ _ st2 f3.mv
    refine hg _ _ _ H3 s2 rl3 v d a3 _ hw2 _ fun env4 σ4 hw4 rl4 _ _ => ?_
    refine hb R2 env4 σ4 H3 s2 rl4 _ hw4 _ ⟨fun R5 env5 σ5 H5 s5 hk rl5 m5 => ?_, e.rt, fun R5 env5 σ5 H5 s5 hk rl5 m5 => ?_, fun R5 env5 σ5 H5 s5 hk rl5 m5 => ?_, e.xc⟩
    · exact ⟨hlt, R5, env5, s5, hk, rl5, it.mv _ _ _ _ _ _ st3 m5, (m2.trans f3.mv).trans m5⟩
    · exact e.nx R5 env5 σ5 H5 s5 hk rl5 ((m2.trans f3.mv).trans m5)
    · exact ⟨hlt, R5, env5, s5, hk, rl5, it.mv _ _ _ _ _ _ st3 m5, (m2.trans f3.mv).trans m5⟩
  · have eq : i = ds.length := by omega
    subst eq
    rw [List.drop_length] at hw2
    exact .inl ⟨it.stop _ _ _ st2, e.nx R2 env2 σ2 H2 s2 hw2 rl2 m2⟩
theorem ss_while {c : TT} {tb : TS} {wc : WT S} {wb : WS S} (hc : SimT W G c wc) (hb : SimS W G tb wb) : SimS W G (tWhile c tb) (wWhile wc wb) := by
  intro R env σ H s rl K hw Dn e
  obtain ⟨n, hw⟩ := hw
  refine ⟨fun m σ2 H2 => ∃ R2 env2 s2, wWhN wc wb m K env2 s2 ∧ Rel W G R2 env2 σ2 H2 s2 ∧ Mv (Bf W R s) H (Bf W R2 s2) H2, ⟨n, R, env, s, hw, rl, .refl⟩, ?_⟩
  rintro m σ2 H2 ⟨R2, env2, s2, hw2, rl2, m2⟩
  cases m with
  | zero => exact hw2.elim
  | succ m =>
    refine hc R2 env2 σ2 H2 s2 rl2 _ K.xc hw2 e.xc _ fun b s3 H3 hk f3 j3 => ?_
    cases b with
    | true =>
      refine Rd.iteT ⟨fun σ4 H4 => ∃ R2 env2 s2, wWhN wc wb m K env2 s2 ∧ Rel W G R2 env2 σ4 H4 s2 ∧ Mv (Bf W R s) H (Bf W R2 s2) H4, fun σ4 H4 h => ⟨m, Nat.lt_succ_self m, h⟩, ?_⟩
      rw [if_pos rfl] at hk
      refine hb R2 env2 σ2 H3 s3 (rl2.step f3 j3) _ hk _ ⟨fun R5 env5 σ5 H5 s5 hk rl5 m5 => ?_, e.rt, fun R5 env5 σ5 H5 s5 hk rl5 m5 => ?_, fun R5 env5 σ5 H5 s5 hk rl5 m5 => ?_, e.xc⟩
      · exact ⟨R5, env5, s5, hk, rl5, (m2.trans f3.mv).trans m5⟩
      · exact e.nx R5 env5 σ5 H5 s5 hk rl5 ((m2.trans f3.mv).trans m5)
      · exact ⟨R5, env5, s5, hk, rl5, (m2.trans f3.mv).trans m5⟩
    | false => exact Rd.iteF (e.nx R2 env2 σ2 H3 s3 (by simpa using hk) (rl2.step f3 j3) (m2.trans f3.mv))
/-! the def's own list changed -/
theorem Rel.ownL {R : Addr → Prop} {env : List Sl} {σ : L2.St} {H : Hp} {s : S} (r : Rel W G R env σ H s) {i : Nat} {ds : List D} (q : sg env i = .own ds) : ∃ p xs, σ[i]? = some (some (.ref p)) ∧ H p = some (.lst xs) ∧ DaL (Bf W R s) H xs ds ∧ ds.length ≤ sizeLine ∧ ¬ W.C s p ∧
    ∀ (s' : S) (H' : Hp), Fr W s H s' H' → W.J s' H' → ∀ ys es, DaL (Bf W R s') H' ys es → es.length ≤ sizeLine → Rel W G R (ss env i (.own es)) σ (upd H' p (.lst ys)) s' ∧ Mv (Bf W R s) H (Bf W R s') (upd H' p (.lst ys)) := by
  have hO : (sg env i).isO = true := by rw [q]; rfl
  obtain ⟨p, e1, e2, e3, e4⟩ := r.env.own i hO
  rw [q] at e4
  cases e4 with
  | lst e l z =>
    refine ⟨p, _, e1, e, l, z, (r.at_.r p e2).2, fun s' H' f j ys es l' z' => ?_⟩
    have r' := r.step f j
    have m' : Mv (Bf W R s') H' (Bf W R s') (upd H' p (.lst ys)) := fun b u q n => ⟨by rw [upd_ne fun z => n (by rw [z]; exact .inl e2)]; exact q, n⟩
    obtain ⟨a, b⟩ := r'.chg (o := .lst ys) e1 hO (.lst upd_same (l'.mv m') z') rfl
    exact ⟨a, f.mv.trans b⟩
theorem ss_app {i : Nat} {te : TE} {w : WE S} (h : SimE W G te w) : SimS W G (tDrop (tBM K "list" rAppend (tVar i) (tCons te tNil))) (wApp i w) := fun R env σ H s rl KK hw Dn e => by
  unfold wApp at hw
  cases q : sg env i with
  | own ds =>
    rw [q] at hw
    obtain ⟨p, xs, e1, e2, l, z, nc, ch⟩ := rl.ownL q
    refine ⟨.ref p, e1, .inl ⟨rfl, xs, .of e2⟩, h R env σ H s rl _ KK.xc hw e.xc _ fun d s' v H' hk f j a => ?_⟩
    obtain ⟨rl', m⟩ := ch s' H' f j (xs ++ [v]) (ds ++ [d]) ((l.mv f.mv).app (.cons a .nil)) (by rw [List.length_append]; have := hk.1; simp; omega)
    exact ⟨p, xs, v, rfl, rfl, f.kp _ _ e2 nc, by rw [l.len]; exact hk.1, e.nx R _ σ _ s' hk.2 rl' m⟩
  | _ => rw [q] at hw; exact hw.elim
theorem ss_ext {i : Nat} {te : TE} {w : WE S} (h : SimG W G te w) : SimS W G (tDrop (tBM K "list" rExtend (tVar i) (tCons te tNil))) (wExt i w) := fun R env σ H s rl KK hw Dn e => by
  unfold wExt at hw
  cases q : sg env i with
  | own ds =>
    rw [q] at hw
    obtain ⟨p, xs, e1, e2, l, z, nc, ch⟩ := rl.ownL q
    refine ⟨.ref p, e1, .inl ⟨rfl, xs, .of e2⟩, h R env σ H s rl _ KK.xc hw e.xc _ fun d s' v H' hk f j a => ?_⟩
    cases d with
    | lst es =>
      obtain ⟨b, ys, rfl, e3, l3, z3⟩ := a.lstI
      obtain ⟨rl', m⟩ := ch s' H' f j (xs ++ ys) (ds ++ es) ((l.mv f.mv).app l3) (by rw [List.length_append]; exact hk.1)
      exact ⟨p, b, xs, ys, rfl, rfl, f.kp _ _ e2 nc, e3, by rw [l.len, l3.len]; exact hk.1, e.nx R _ σ _ s' hk.2 rl' m⟩
    | _ => exact hk.elim
  | _ => rw [q] at hw; exact hw.elim
theorem ss_setL {i : Nat} {tv tk : TE} {wv wk : WE S} (hv : SimE W G tv wv) (hk : SimG W G tk wk) : SimS W G (tAsg tv (gSub (tVar i) tk rSetL)) (wSetL i wv wk) := fun R env σ H s rl KK hw Dn e => by
  unfold wSetL at hw
  cases q : sg env i with
  | own ds =>
    rw [q] at hw
    refine hv R env σ H s rl _ KK.xc hw e.xc _ fun d s1 v H1 hw1 f1 j1 a1 => ?_
    have rl1 := rl.step f1 j1
    obtain ⟨p, xs, e1, e2, l, z, nc, ch⟩ := rl1.ownL q
    refine ⟨.ref p, e1, hk R env σ H1 s1 rl1 _ KK.xc hw1 e.xc _ fun d2 s2 v2 H2 hw2 f2 j2 a2 => ?_⟩
    cases d2 with
    | int zi =>
      dsimp only at hw2
      cases qi : ixN ds.length zi with
      | none => rw [qi] at hw2; exact hw2.elim
      | some jj =>
        rw [qi] at hw2
        obtain ⟨rl', m⟩ := ch s2 H2 f2 j2 (xs.set jj v) (ds.set jj d) ((l.mv f2.mv).setAt jj (a1.mv f2.mv)) (by rw [List.length_set]; exact z)
        exact ⟨p, xs, zi, jj, rfl, a2.intI, f2.kp _ _ e2 nc, by rw [l.len]; exact qi, e.nx R _ σ _ s2 hw2 rl' (f1.mv.trans m)⟩
    | _ => exact hw2.elim
  | _ => rw [q] at hw; exact hw.elim
theorem ss_pop {i : Nat} {g : TG} {wg : WG} {us : List Nat} (hg : SimTg W G us g wg) : SimS W G (tAsg (tBM0 K "list" rPop (tVar i)) g) (wPop i wg) := fun R env σ H s rl KK hw Dn e => by
  unfold wPop at hw
  cases q : sg env i with
  | own ds =>
    rw [q] at hw
    obtain ⟨p, xs, e1, e2, l, z, nc, ch⟩ := rl.ownL q
    dsimp only at hw
    cases qd : ds[ds.length - 1]? with
    | none => rw [qd] at hw; exact hw.elim
    | some d =>
      rw [qd] at hw
      obtain ⟨v, ev, a⟩ := l.get' qd
      have dl : DaL (Bf W R s) H xs.dropLast ds.dropLast := by
        rw [List.dropLast_eq_take, List.dropLast_eq_take, l.len]
        exact l.take _
      obtain ⟨rl', m⟩ := ch s H .refl rl.at_.j xs.dropLast ds.dropLast dl (by simp; omega)
      exact ⟨.ref p, e1, .inl ⟨rfl, xs, .of e2⟩, p, xs, v, rfl, rfl, e2, by rw [l.len]; exact ev, hg R _ σ _ s rl' v d (a.mv m) _ hw _ fun env' σ' hk rl2 _ _ => e.nx R env' σ' _ s hk rl2 m⟩
  | _ => rw [q] at hw; exact hw.elim
end
/-! defs -/
@[simp] def envOf (n : Nat) (ds : List D) : List Sl := ds.map Sl.dat ++ List.replicate (n - ds.length) .no
section
variable {S : Type} {W : Wd S}
theorem sg_dat : ∀ (ds : List D) (r : List Sl) (i : Nat) (d : D), sg (ds.map Sl.dat ++ r) i = .dat d → (ds[i]? = some d) ∨ (ds.length ≤ i ∧ sg r (i - ds.length) = .dat d)
  | [], r, i, d, h => .inr ⟨Nat.zero_le _, h⟩
  | a :: t, r, 0, d, h => by
    cases h
    exact .inl rfl
  | a :: t, r, i + 1, d, h => by
    rcases sg_dat t r i d h with q | q
    · exact .inl q
    · exact .inr ⟨Nat.succ_le_succ q.1, by simpa [Nat.succ_sub_succ] using q.2⟩
theorem sg_rep : ∀ (n i : Nat), sg (List.replicate n Sl.no) i = .no
  | 0, _ => rfl
  | n + 1, 0 => rfl
  | n + 1, i + 1 => sg_rep n i
theorem sg_noO : ∀ (ds : List D) (n i : Nat), (sg (ds.map Sl.dat ++ List.replicate n .no) i).isO = false
  | [], n, i => by
    show (sg (List.replicate n Sl.no) i).isO = false
    rw [sg_rep]
    rfl
  | a :: t, n, 0 => rfl
  | a :: t, n, i + 1 => sg_noO t n i
theorem rel_start {R : Addr → Prop} {s : S} {H : Hp} {vs : List V} {ds : List D} {E : XK} {N : List Str} (a : At W R s H) (l : DaL (Bf W R s) H vs ds) : Rel W ⟨H, s, R, E⟩ R (envOf N.length ds) (L2.start N vs) H s := by
  refine ⟨a, .refl, fun _ h => h, a, ⟨by simp [L2.start, l.len], fun i d h => ?_, fun i h => ?_, fun i j p h => ?_⟩⟩
  · rcases sg_dat _ _ _ _ h with q | q
    · obtain ⟨v, hv, dv⟩ := l.get' q
      refine ⟨v, ?_, dv⟩
      unfold L2.start
      rw [List.getElem?_append_left (by rw [List.length_map, l.len]; exact (List.getElem?_eq_some_iff.mp q).1), List.getElem?_map, hv]
      rfl
    · have := q.2
      rw [sg_rep] at this
      cases this
  · rw [envOf, sg_noO] at h
    cases h
  · rw [envOf, sg_noO] at h
    cases h
theorem bodyW {G : Gm S} {t : TS} {ws : WS S} {O : WS S → Prop} (sim : SimS W G t ws) (ob : O ws) : ∃ ws : WS S, SimS W G t ws ∧ O ws := ⟨ws, sim, ob⟩
/-- a def by its body over data -/
theorem fn_data {P : Program} {w : World} {K : PySem.W.Frag} {mg : Str → Option Value} {base : Heap} {x qual : Str} {pa : Arguments} {bd : List Stmt} {sc : Scope} {dvs : List V} {kws : List (Str × V)} {f : Addr} {fd : FuncData} {N ps : List Str} {k : Nat}
    {wf : List D → S → (D → S → Prop) → (Xc → S → Prop) → Prop}
    (F : FunD K x qual pa bd sc dvs kws f fd) (Sc : FnScope N ps sc) (many : ∀ ds s k x, wf ds s k x → ds.length = ps.length)
    (body : ∀ (cv : Value) (A : Around) (outer : List Env) (s : Shared) (H : Hp) (G : Gm S), Room k (A.deeper (envOfC qual sc s.heap.objs.size f cv)) → A.guards = some [] →
      ∃ t, PSs (cxOf (L2.CX P w) P w K mg base N qual sc f cv A outer s H G.E) bd t ∧ ∃ ws : WS S, SimS W G t ws ∧
        ∀ (ds : List D) (s : S) (k : D → S → Prop) (x : Xc → S → Prop), (∀ d ∈ ds, d.ok) → wf ds s k x → ws ⟨fun _ s => k .non s, k, fun _ _ => False, fun _ _ => False, x⟩ (envOf N.length ds) s) :
    Gl.Fn P w K mg base (k + 1) f fd ps (spX W wf) := by
  refine Gl.fn_body F Sc (fun vs H Q E h => ?_) (fun cv A outer s H vs Q E hr gd h => ?_)
  · obtain ⟨R, ds, s, k, x, a, l, hw, _⟩ := h
    rw [l.len]
    exact many _ _ _ _ hw
  · obtain ⟨R, ds, s1, k1, x, a, l, hw, hQ, hE⟩ := h
    obtain ⟨t, ht, ws, sim, ob⟩ := body cv A outer s H ⟨H, s1, R, E⟩ hr gd
    refine ⟨t, ht, sim R _ _ H s1 (rel_start a l) _ (ob ds s1 k1 x (fun d hd => D.oks_mem l.oks hd) hw) _ ⟨?_, ?_, ?_, ?_, ?_⟩⟩
    · intro R' env' σ' H' s' hk rl m
      exact hQ _ s' _ H' hk rl.fr rl.at_.j .non
    · intro d s' v H' hk f j a
      exact hQ d s' v H' hk f j a
    · intro _ _ _ _ _ hk
      exact hk.elim
    · intro _ _ _ _ _ hk
      exact hk.elim
    · intro c s' cls d H' hx f j a
      exact hE c s' cls d H' hx f j a
end
end Dw
set_option Elab.async false
set_option linter.all false
set_option maxRecDepth 100000
set_option maxHeartbeats 3200000
/-! Sk: set(list of keys), keys of any kind. -/
namespace Sk
open PySem PySem.Spec PyProof.Rows L2
section
variable {κ : Type} [DecidableEq κ]
/-- one more met -/
def met1 (σ : List κ) (v : κ) : List κ := if v ∈ σ then σ else σ ++ [v]
def met (ks : List κ) (i : Nat) : List κ := (ks.take i).foldl met1 []
theorem met_succ {ks : List κ} {i : Nat} {k : κ} (h : ks[i]? = some k) : met ks (i + 1) = met1 (met ks i) k := by
  unfold met
  rw [List.take_add_one, h, List.foldl_append]
  rfl
theorem met1_le (σ : List κ) (v : κ) : (met1 σ v).length ≤ σ.length + 1 := by
  unfold met1
  split
  · exact Nat.le_succ _
  · simp
theorem met_le (ks : List κ) : ∀ i, (met ks i).length ≤ i
  | 0 => by simp [met]
  | i + 1 => by
    cases h : ks[i]? with
    | none =>
      have : met ks (i + 1) = met ks i := by
        unfold met
        rw [List.take_add_one, h]
        simp
      rw [this]
      exact Nat.le_succ_of_le (met_le ks i)
    | some k =>
      rw [met_succ h]
      exact Nat.le_trans (met1_le _ _) (Nat.succ_le_succ (met_le ks i))
theorem met1_mem (σ : List κ) (v k : κ) : decide (k ∈ met1 σ v) = (decide (k ∈ σ) || decide (k = v)) := by
  unfold met1
  by_cases h : v ∈ σ
  · rw [if_pos h]
    by_cases e : k = v
    · subst e
      simp [h]
    · simp [e]
  · rw [if_neg h]
    simp [List.mem_append]
theorem met1_len (σ : List κ) (v : κ) : (met1 σ v).length = if decide (v ∈ σ) = true then σ.length else σ.length + 1 := by
  unfold met1
  by_cases h : v ∈ σ <;> simp [h]
/-- no key twice -/
theorem met_nodup : ∀ (ks σ : List κ), (ks.foldl met1 σ).length = σ.length + ks.length ↔ (ks.Nodup ∧ ∀ k ∈ ks, k ∉ σ)
  | [], σ => by simp
  | k :: r, σ => by
    have up : ∀ (ks σ : List κ), (ks.foldl met1 σ).length ≤ σ.length + ks.length := fun ks => by
      induction ks with
      | nil => intro σ; simp
      | cons a t ih =>
        intro σ
        have := ih (met1 σ a)
        have := met1_le σ a
        rw [List.foldl_cons, List.length_cons]
        omega
    rw [List.foldl_cons, List.length_cons]
    by_cases h : k ∈ σ
    · have e : met1 σ k = σ := if_pos h
      rw [e]
      have := up r σ
      constructor
      · intro z
        omega
      · rintro ⟨_, z⟩
        exact absurd h (z k (by simp))
    · have e : met1 σ k = σ ++ [k] := if_neg h
      rw [e]
      have := met_nodup r (σ ++ [k])
      rw [List.length_append, List.length_singleton] at this
      rw [show σ.length + (r.length + 1) = σ.length + 1 + r.length by omega, this, List.nodup_cons]
      constructor
      · rintro ⟨a, b⟩
        refine ⟨⟨fun z => (b k z) (by simp), a⟩, fun j hj => ?_⟩
        rcases List.mem_cons.mp hj with rfl | hj
        · exact h
        · exact fun z => b j hj (by simp [z])
      · rintro ⟨⟨a, b⟩, c⟩
        refine ⟨b, fun j hj z => ?_⟩
        rcases List.mem_append.mp z with z | z
        · exact c j (by simp [hj]) z
        · rw [List.mem_singleton] at z
          exact a (by rw [← z]; exact hj)
end
section
variable {κ : Type} [DecidableEq κ] {prog : Program} {w : World} {knd : KeyKind prog w κ}
theorem congrS {h : Heap} {a : Addr} {S S' : κ → Bool} {n n' : Nat} (hS : h.SetOf knd a S n) (e : ∀ k, S k = S' k) (en : n = n') : h.SetOf knd a S' n' := by
  have z : S = S' := funext e
  subst z
  subst en
  exact hS
variable {A : Around} {R : Result → Shared → Prop} {I : Addr} {fp wr : List Addr} {G : Array GenState → Array GenState → Prop} {n : Nat} {P : Nat → Value → Prop} {St : Nat → Shared → Prop}
theorem loopK (Wk : WalksS prog w A.in1 I fp wr G n P St) (S : Addr) (nf : S ∉ fp) (ks : List κ) (hl : ks.length = n) (hb : n + 1 < scanBound) (hv : ∀ i v, P i v → ∃ k, ks[i]? = some k ∧ knd.is k v = true ∧ v.scannable = true) :
    ∀ (m i : Nat) (s : Shared), n - i = m → i ≤ n → St i s → s.heap.SetOf knd S (fun k => decide (k ∈ met ks i)) (met ks i).length →
      (∀ s', Moved (S :: wr) G s s' → s'.heap.SetOf knd S (fun k => decide (k ∈ met ks n)) (met ks n).length → R (.ok (.ret .none)) s') →
      codeAny (model prog w) A (.builtin "set.update.loop" ⟨[.ref S, .ref I], []⟩) R s := by
  have nw : S ∉ wr := fun h => nf (Wk.sub _ h)
  have up : ∀ b ∈ wr, b ∈ S :: wr := fun b hb => List.mem_cons_of_mem _ hb
  intro m
  induction m with
  | zero =>
    intro i s hm hi st hS hR
    obtain rfl : i = n := by omega
    refine codeAny_builtin PyProof.Rows.F.entry_set_update_loop ?_
    rw [Around.under_plainId PyProof.Rows.F.plain_set_update_loop _]
    show wpAny _ A.in1 (pyNext (.ref I) >>= _) _ _ s
    refine wpAny_bind (Wk.done s _ _ st fun s' mv => ?_)
    show wpAny _ A.in1 (ret Value.none) _ _ s'
    exact wpAny_pure (hR s' (mv.mono up) (by
      obtain ⟨o, es, ep, t, ho, more⟩ := hS
      exact ⟨o, es, ep, t, mv.heap S _ nw ho, more⟩))
  | succ m ih =>
    intro i s hm hi st hS hR
    have lt : i < n := by omega
    refine codeAny_builtin PyProof.Rows.F.entry_set_update_loop ?_
    rw [Around.under_plainId PyProof.Rows.F.plain_set_update_loop _]
    show wpAny _ A.in1 (pyNext (.ref I) >>= _) _ _ s
    refine wpAny_bind (Wk.item i s _ _ lt st fun v s' hP st' mv => ?_)
    obtain ⟨k, hk, isk, sc⟩ := hv i v hP
    have hS' : s'.heap.SetOf knd S (fun k => decide (k ∈ met ks i)) (met ks i).length := by
      obtain ⟨o, es, ep, tb, ho, more⟩ := hS
      exact ⟨o, es, ep, tb, mv.heap S _ nw ho, more⟩
    show wpAny _ A.in1 (holding [v] (setAdd S v) >>= _) _ _ s'
    refine wpAny_bind (wpAny_holding ?_)
    unfold setAdd
    refine wpAny_holding ?_
    refine wpAny_bind (knd.pyHash (k := k) isk ?_)
    have room : (met ks i).length + 1 < scanBound := by have := met_le ks i; omega
    refine wpAny_setAddHashed_of (knd := knd) (s := { s' with toks := s'.toks + 1 }) isk sc hS' room fun h' sb hS2 => ?_
    have hS3 : h'.SetOf knd S (fun j => decide (j ∈ met ks (i + 1))) (met ks (i + 1)).length :=
      congrS hS2 (fun j => by rw [met_succ hk, met1_mem]) (by rw [met_succ hk, met1_len])
    refine wpAny_pure ⟨plainId_quiet PyProof.Rows.F.plain_set_update_loop _, ih (i + 1) _ (by omega) lt (Wk.frame _ s' _ _ st' (Nat.le_succ _) fun b hb o e => ?_) hS3 fun s'' mv2 hS4 => ?_⟩
    · rw [sb.2 b (fun z : b = S => nf (by rw [← z]; exact hb))]
      exact e
    · refine hR s'' (Moved.trans Wk.gtrans ((mv.mono up).then_heap (Nat.le_succ _) fun b o hb e => ?_) mv2) hS4
      rw [sb.2 b (fun z : b = S => hb (by rw [z]; exact List.mem_cons_self))]
      exact e
end
section
variable {κ : Type} [DecidableEq κ] {prog : Program} {w : World} {knd : KeyKind prog w κ} {A : Around} {E : Value → Shared → Prop} {s : Shared}
/-- set(l), l a list of keys -/
theorem call_setL {l : Addr} {items : Array Value} {ks : List κ} {Q : Value → Shared → Prop}
    (hh : A.handled = none) (hl : s.heap.IsList l items) (hsz : ks.length = items.size) (hb : items.size + 1 < scanBound) (hv : ∀ (i : Nat) (v : Value), items[i]? = some v → ∃ k, ks[i]? = some k ∧ knd.is k v = true ∧ v.scannable = true)
    (h : ∀ (h' : Heap) (tk : Nat), h'.SetOf knd s.heap.objs.size (fun k => decide (k ∈ met ks items.size)) (met ks items.size).length →
      (∀ b o, b < s.heap.objs.size → s.heap.get? b = some o → h'.get? b = some o) → Q (.ref s.heap.objs.size) { s with heap := h', toks := tk }) :
    wpAny (model prog w) A (call (.type "set") [.ref l]) Q E s := by
  obtain ⟨c, tl, hmro⟩ := PySem.F.called_set.mro
  have made := PySem.F.called_set.made
  have sub := PySem.F.called_set.sub
  refine wpAny_call (codeAny_of_tree ?_)
  show wpAny _ _ (callAny (.type "set") _) _ _ _
  refine wpAny_pure ⟨Code.quiet_builtin _ (by decide +kernel), codeAny_builtin PySem.F.entry_type_call ?_⟩
  rw [Around.under_plain (weight_type_call_type "set" [.ref l] []) rfl]
  have nT := PySem.F.called_set.notType
  have cC := PySem.F.called_set.canCreate
  have tC := PySem.F.typeCall_set_1 (.ref l)
  repeat (any_goals (first | assumption | wp_step))
  refine codeAny_mono (code_set_new_1 (.ref l) (E := E) (Q₁ := fun obj s1 => ∃ led : Bool, obj = .ref s.heap.objs.size ∧ s1 = { s with heap := s.heap.push { cls := .type "set", dict := none, data := .set #[] 0 (.fresh 0 0 led) } }) fun led => ⟨led, rfl, rfl⟩) fun r s1 hr => ?_
  match r, hr with
  | .error e, hr => exact hr
  | .ok (.ret obj), hr =>
    obtain ⟨led, rfl, rfl⟩ := hr
    have hS : (s.heap.push { cls := .type "set", dict := none, data := .set #[] 0 (.fresh 0 0 led) }).get? s.heap.objs.size = some { cls := .type "set", dict := none, data := .set #[] 0 (.fresh 0 0 led) } := Heap.get?_push_size _ rfl
    have hT : Shared.TypeIs { s with heap := s.heap.push { cls := .type "set", dict := none, data := .set #[] 0 (.fresh 0 0 led) } } (.ref s.heap.objs.size) "set" := ⟨_, hS, rfl⟩
    have li := PySem.F.called_set.init.lookup
    have bi := PySem.F.called_set.init.bind (.ref s.heap.objs.size)
    repeat (any_goals (first | assumption | wp_step))
    refine codeAny_mono (codeAny_call_builtin (R := wants (fun r s2 => r = .none ∧ ∃ h' tk, s2 = { s with heap := h', toks := tk } ∧
        h'.SetOf knd s.heap.objs.size (fun k => decide (k ∈ met ks items.size)) (met ks items.size).length ∧
        (∀ b o, b < s.heap.objs.size → s.heap.get? b = some o → h'.get? b = some o)) E) PySem.F.called_set.init.plain PySem.F.entry_set_init (check_set_init_1 hT ?_)) fun r2 s2 hr2 => ?_
    · obtain ⟨ol, hol, hcl, nl, hdl⟩ := hl
      obtain ⟨ocls, odict, odata, oslots⟩ := ol
      simp only at hcl hdl
      subst hcl
      subst hdl
      have hol2 : (s.heap.push { cls := .type "set", dict := none, data := .set #[] 0 (.fresh 0 0 led) }).get? l = some { cls := .type "list", dict := odict, data := .seq items nl, slots := oslots } := Heap.get?_push_of_some _ hol
      have s1 := PySem.F.sub_list_set
      have s2 := PySem.F.sub_list_frozenset
      have ne : (Value.type "list" == Value.type "dict") = false := by decide
      have hl1 : (s.heap.push { cls := .type "set", dict := none, data := .set #[] 0 (.fresh 0 0 led) }).IsList l items := ⟨_, hol2, rfl, nl, rfl⟩
      unfold Builtin.«set.__init__» noKeywords Builtin.Frozenset.updateFrom
      generalize hPI : pyIter = PI
      wp_walk
      subst hPI
      refine wpAny_pyIter_list hl1 ?_
      refine wpAny_bind (wpAny_runValue ?_)
      have lS : l < s.heap.objs.size := Heap.lt_size hol
      have hh3 : A.in1.in1.in1.handled = none := by simp [hh]
      have neI : l ≠ (s.heap.push { cls := .type "set", dict := none, data := .set #[] 0 (.fresh 0 0 led) }).objs.size := by
        rw [Heap.size_push]
        exact Nat.ne_of_lt (Nat.lt_succ_of_lt lS)
      have nf : s.heap.objs.size ∉ [(s.heap.push { cls := .type "set", dict := none, data := .set #[] 0 (.fresh 0 0 led) }).objs.size, l] := by
        rw [Heap.size_push]
        simp only [List.mem_cons, List.mem_singleton, List.not_mem_nil, or_false, not_or]
        exact ⟨Nat.ne_of_lt (Nat.lt_succ_self _), Nat.ne_of_gt lS⟩
      refine loopK (knd := knd) ((Walks.list hh3 _ l neI items).toS) s.heap.objs.size nf ks hsz hb hv (items.size - 0) 0 _ (by omega) (Nat.zero_le _)
        ⟨⟨_, Heap.get?_push_size _ rfl, rfl, rfl⟩, (hl1.push _)⟩ ?hS0 ?hR
      case hS0 =>
        have get : ((s.heap.push { cls := .type "set", dict := none, data := .set #[] 0 (.fresh 0 0 led) }).push { cls := .type "list_iterator", data := .fields #[.ref l, .int 0 0] }).get? s.heap.objs.size
            = some { cls := .type "set", dict := none, data := .set #[] 0 (.fresh 0 0 led) } := Heap.get?_push_of_some _ hS
        exact congrS ((PyProof.Rows.setObjOf_fresh (knd := knd) led).setOf get (by unfold scanBound; omega)) (fun k => by simp [met]) (by simp [met])
      case hR =>
        intro s' mv hS'
        obtain ⟨h', g', d', tk', os'⟩ := s'
        have eg : g' = s.gens := mv.gens
        have ed : d' = s.drawn := mv.drawn
        have eo : os' = s.os := mv.os
        subst eg
        subst ed
        subst eo
        show wpAny _ _ _ _ _ _
        refine wpAny_pure ?_
        show wpAny _ _ (ret Value.none) _ _ _
        refine wpAny_pure ⟨rfl, h', tk', rfl, hS', fun b o hb e => ?_⟩
        have b1 : b ≠ s.heap.objs.size := Nat.ne_of_lt hb
        have b2 : b ≠ (s.heap.push { cls := .type "set", dict := none, data := .set #[] 0 (.fresh 0 0 led) }).objs.size := by
          rw [Heap.size_push]
          exact Nat.ne_of_lt (Nat.lt_succ_of_lt hb)
        exact mv.heap b o (by simp only [List.mem_cons, List.mem_singleton, List.not_mem_nil, or_false, not_or]; exact ⟨b1, b2⟩) (Heap.get?_push_of_some _ (Heap.get?_push_of_some _ e))
    · match r2, hr2 with
      | .error e, hr2 => exact hr2
      | .ok (.ret r), hr2 =>
        obtain ⟨rfl, h', tk, rfl, hS', hk'⟩ := hr2
        repeat (any_goals (first | assumption | wp_step))
        exact h _ _ hS' hk'
end
section
variable {X : Cx}
/-- len(set(l)), l a list of ints and texts -/
def tLenSetK (K : PySem.W.Frag) (ta : TE) : TE := fun σ H Q => ta σ H fun x H1 => ∃ (l : Addr) (ks : List Key), x = .ref l ∧ SqL K H1 l (ks.map kV) ∧ ks.length ≤ 4000 ∧ Q (.int ((met ks ks.length).length : Nat)) H1
theorem pe_lenSetK {a : Expr} {ta : TE} {p p2 q pos : Pos} (hg : Gl X "len") (hm : X.mg "len" = none) (hg2 : Gl X "set") (hm2 : X.mg "set" = none) (ha : PE X a ta) (hc : X.calm = true := by rfl)
    (na : starEach [a] X.env = (false, eval a X.env) :: starEach [] X.env := by rfl) : PE X (.Call (.Name "len" p) [.Call (.Name "set" p2) [a] [] q] [] pos) (tLenSetK X.K ta) := by
  refine ⟨fun pins s σ H Q I h => ?_⟩
  refine Call_ (ld_blt I hg hm boot_len ?_)
  refine PyProof.Rows.callWith_builtin1 (PyProof.Rows.args_cons ?_ rfl) rfl rfl
  refine Call_ (ld_blt I hg2 hm2 boot_set ?_)
  refine PyProof.Rows.callWith_type1 (PyProof.Rows.args_cons (thn (ha.run pins s σ H _ I h) fun v s1 ⟨x, H1, I1, r1, q1⟩ => PyProof.Rows.args_nil ?_) na) na rfl
  obtain ⟨l, ks, rfl, hq, hn, q1⟩ := q1
  cases r1
  obtain ⟨its, rv, pl, hz⟩ := I1.list hq
  have len : its.toArray.size = ks.length := by rw [List.size_toArray, ← rv.length, List.length_map]
  refine call_setL (knd := mixKind X.prog X.w) (ks := ks) (I1.ok.hd hc) pl.isList len.symm (by rw [len]; unfold scanBound; omega) (fun i v hv => ?_) fun h' tk hS hk => ?_
  · have hi : i < ks.length := by rw [← len]; exact (Array.getElem?_eq_some_iff.mp hv).1
    obtain ⟨u, hu, ru⟩ := rv.get (i := i) (x := kV ks[i]) (by simp [hi])
    have e : u = v := by
      have z : its.toArray[i]? = some v := hv
      rw [List.getElem?_toArray, hu] at z
      exact Option.some.inj z
    rw [e] at ru
    exact ⟨ks[i], by simp [hi], kV_is ru, key_scan ru⟩
  refine PyProof.Rows.args_nil ?_
  rw [len] at hS
  obtain ⟨o, es, ep, t, ho, hex, hd, _, _, _, hf, hn2⟩ := hS
  have I2 : Inv X pins σ H1 { s1 with heap := h', toks := tk } := I1.kept fun b o e => hk b o (Heap.lt_size e) e
  have := met_le ks ks.length
  exact call_len_set ho hex hd hf (by rw [hn2] <;> omega) ⟨.int ((met ks ks.length).length : Nat), H1, I2.tok _, ⟨_, by rw [hn2]⟩, q1⟩
end
end Sk
set_option Elab.async false
set_option linter.all false
set_option maxRecDepth 100000
set_option maxHeartbeats 4000000
/-! Dx: further words over data: joins, len(set(..)), repr, fields, classes in tuples. -/
namespace Dw
open PySem PySem.Spec PyProof.Rows L2 RZ
/-! readings by names -/
def rJoin (K : PySem.W.Frag) : V → List V → Hp → VK → Prop := fun x xs H Q => ∃ a p, ∃ ys : List Str, x = .str a ∧ xs = [.ref p] ∧ (SqL K H p (ys.map V.str) ∨ SqT K H p (ys.map V.str)) ∧
      (ys.map (·.length)).sum + ys.length * a.length ≤ 16777216 ∧ Q (.str (Txt.join a ys)) H
section
variable {X : Cx}
/-- repr of data without dicts -/
def rReprD (K : PySem.W.Frag) : List V → Hp → VK → Prop := fun xs H Q => ∃ v d, xs = [v] ∧ Dp K H v d ∧ d.showable = true ∧ d.shown.length ≤ sizeLine ∧ d.depth ≤ 190 ∧ Q (.str d.shown) H
mutual
theorem dp_nodict {K : PySem.W.Frag} {H : Hp} : ∀ (d : PyData) (v : V), Dp K H v d → d.hasDict = false
  | .none, _, _ => by unfold PyData.hasDict; rfl
  | .bool _, _, _ => by unfold PyData.hasDict; rfl
  | .int _, _, _ => by unfold PyData.hasDict; rfl
  | .str _, _, _ => by unfold PyData.hasDict; rfl
  | .list ds, _, h => by
    cases h with
    | lst _ l =>
      unfold PyData.hasDict
      exact dp_nodicts ds _ l
  | .tuple ds, _, h => by
    cases h with
    | tup _ l =>
      unfold PyData.hasDict
      exact dp_nodicts ds _ l
  | .dict _, _, h => by cases h
theorem dp_nodicts {K : PySem.W.Frag} {H : Hp} : ∀ (ds : List PyData) (vs : List V), DpAll K H vs ds → PyData.hasDictAll ds = false
  | [], _, _ => by unfold PyData.hasDictAll; rfl
  | d :: r, _, h => by
    cases h with
    | cons a t =>
      unfold PyData.hasDictAll
      rw [dp_nodict d _ a, dp_nodicts r _ t]
      rfl
end
end
/-- ns <= ms of two rows of ints -/
def leP (ns ms : List Int) : Bool := Ob.lexAt (fun j => decide (ns.getD j 0 = ms.getD j 0)) (fun j => decide (ns.getD j 0 ≤ ms.getD j 0)) (decide (ns.length ≤ ms.length)) 0 (min ns.length ms.length)
section
variable {S : Type}
@[simp] def wJoin (wo we : WE S) : WE S := fun env s k x => wo env s (fun a s1 => match a with
  | .str z => we env s1 (fun d s2 => match d.items with
    | some ds => ∃ ys, D.strs ds = some ys ∧ (ys.map (·.length)).sum + ys.length * z.length ≤ 16777216 ∧ (Txt.join z ys).length ≤ sizeLine ∧ k (.str (Txt.join z ys)) s2
    | none => False) x
  | _ => False) x
@[simp] def wRepr : List D → S → (D → S → Prop) → Prop := fun ds s k => match ds with
  | [d] => ∃ p, d.py = some p ∧ p.showable = true ∧ p.shown.length ≤ sizeLine ∧ p.depth ≤ 190 ∧ k (.str p.shown) s
  | _ => False
def D.keys : List D → Option (List Key)
  | [] => some []
  | .int i :: r => (D.keys r).map (.inl i :: ·)
  | .str x :: r => (D.keys r).map (.inr x :: ·)
  | _ => none
@[simp] def wLenSet (we : WE S) : WE S := fun env s k x => we env s (fun d s1 => match d with
  | .lst ds => ∃ ks, D.keys ds = some ks ∧ ks.length ≤ 4000 ∧ k (.int ((Sk.met ks ks.length).length : Nat)) s1
  | _ => False) x
@[simp] def wIxS : D → D → S → (D → S → Prop) → Prop := fun d e s k => match d, e with
  | .str z, .int i => (match atI z.cps.toList i with
    | some c => k (.str ⟨#[c]⟩) s
    | none => False)
  | _, _ => False
@[simp] def wLeT : D → D → S → (D → S → Prop) → Prop := fun d e s k => match d, e with
  | .tup a, .tup b => ∃ ns ms, D.ints a = some ns ∧ D.ints b = some ms ∧ k (.bl (leP ns ms)) s
  | _, _ => False
/-- e.f of an instance of a class of which Cl tells -/
@[simp] def wFld (f : Str) (Cl : Addr → Prop) (w : WE S) : WE S := fun env s k x => w env s (fun d s1 => match d with
  | .obj C fs => Cl C ∧ (match fs.lookup f with
    | some e => k e s1
    | none => False)
  | _ => False) x
end
section
variable {S : Type} {W : Wd S} {G : Gm S} {K : PySem.W.Frag}
theorem SimF.e {t : TE} {w : WI S} (h : SimF W G t w) : SimE W G t (fun env s k x => w env s (fun ds s1 => k (.lst ds) s1) x) := fun R env σ H s rl k x hw ox Q hQ => h R env σ H s rl _ x hw ox Q fun ds s1 p xs H1 hk f j hp e nb l z =>
  hQ _ s1 _ H1 hk f j (.lst e nb (l.imp fun a q => q.imp .inl id) z)
theorem sim_lcE {us : List Nat} {wi : TI} {g : TG} {tt : TT} {te : TE} {vs : List Nat} {wI : WI S} {wg : WG} {wt : WT S} {we : WE S} (hi : SimI W G wi wI) (hg : SimTg W G us g wg) (ht : SimT W G tt wt) (he : SimE W G te we) (hs : ∀ j, j ∈ us → j ∈ vs := by decide) :
    SimE W G (tLc wi g tt te vs) (wLcE wI wg wt we vs) := (sim_lcF hi hg ht he hs).e
theorem DaL.keys {B : Addr → Prop} {H : Hp} : ∀ {ds : List D} {vs : List V} {ns : List Key}, DaL B H vs ds → D.keys ds = some ns → vs = ns.map kV
  | [], _, _, .nil, e => by cases e; rfl
  | .int i :: r, _, _, .cons h t, e => by
    cases h
    unfold D.keys at e
    obtain ⟨ms, e2, rfl⟩ := Option.map_eq_some_iff.mp e
    rw [List.map_cons, t.keys e2]
    rfl
  | .str i :: r, _, _, .cons h t, e => by
    cases h
    unfold D.keys at e
    obtain ⟨ms, e2, rfl⟩ := Option.map_eq_some_iff.mp e
    rw [List.map_cons, t.keys e2]
    rfl
  | .non :: _, _, _, _, e => by cases e
  | .bl _ :: _, _, _, _, e => by cases e
  | .lst _ :: _, _, _, _, e => by cases e
  | .tup _ :: _, _, _, _, e => by cases e
  | .dic _ :: _, _, _, _, e => by cases e
  | .dit _ :: _, _, _, _, e => by cases e
  | .obj _ _ :: _, _, _, _, e => by cases e
  | .opq _ :: _, _, _, _, e => by cases e
  | .ty _ :: _, _, _, _, e => by cases e
theorem sim_lenSetS {te : TE} {we : WE S} (he : SimG W G te we) : SimE W G (Sk.tLenSetK K te) (wLenSet we) := fun R env σ H s rl k x hw ox Q hQ => he R env σ H s rl _ x hw ox _ fun d s1 v H1 hw1 f1 j1 a1 => by
  cases d with
  | lst ds =>
    obtain ⟨ks, h1, h2, h3⟩ := hw1
    obtain ⟨p, xs, rfl, e, l, lz⟩ := a1.lstI
    have := l.keys h1
    subst this
    exact ⟨p, ks, rfl, .of e, h2, hQ _ s1 _ H1 h3 f1 j1 (.int _)⟩
  | _ => exact hw1.elim
theorem so_leT : SimO W (rLeT K) wLeT := fun R s H at_ x y d e a b k hw Q hQ => by
  cases d with
  | tup ds => cases e with
    | tup es =>
      obtain ⟨ns, ms, h1, h2, h3⟩ := hw
      obtain ⟨p, xs, rfl, e1, l1, _, _⟩ := a.tupI
      obtain ⟨q, ys, rfl, e2, l2, _, _⟩ := b.tupI
      have := l1.ints h1
      subst this
      have := l2.ints h2
      subst this
      exact ⟨p, q, ns, ms, rfl, rfl, .of e1, .of e2, hQ _ _ H h3 .refl at_.j (.bl _)⟩
    | _ => exact hw.elim
  | _ => exact hw.elim
theorem isT_tyv {d : D} {n : String} (h : (d.isT n).isSome = true) : ∃ t, d.tyv = some t := by
  cases d <;> first | exact ⟨_, rfl⟩ | cases h
theorem isTs_kit {d : D} {t : Value} (hd : d.tyv = some t) : ∀ {ts : List D} {b : Bool}, D.isTs ts d = some b → ∃ us : List Value, (∀ {B : Addr → Prop} {H : Hp} {xs : List V}, DaL B H xs ts → Paired ClsV xs us) ∧ PySem.W.kitAny K t us = some b
  | [], b, h => by
    unfold D.isTs at h
    split at h
    · cases h
      refine ⟨[], fun l => ?_, rfl⟩
      cases l
      exact .nil
    · cases h
  | .ty n :: r, b, h => by
    unfold D.isTs at h
    split at h
    · rename_i hn
      cases h1 : d.isT n with
      | none => rw [h1] at h; cases h
      | some a =>
        cases h2 : D.isTs r d with
        | none => rw [h1, h2] at h; cases h
        | some c =>
          rw [h1, h2] at h
          cases h
          obtain ⟨us, q1, q2⟩ := isTs_kit hd h2
          obtain ⟨t', e1, e2⟩ := isT_kit (K := K) hn h1
          rw [hd] at e1
          cases e1
          refine ⟨.type n :: us, fun l => ?_, ?_⟩
          · cases l with
            | cons a tl =>
              cases a
              exact .cons (.ty n) (q1 tl)
          · unfold PySem.W.kitAny
            rw [e2]
            cases a
            · exact q2
            · rfl
    · cases h
  | .non :: _, _, h => by cases h
  | .bl _ :: _, _, h => by cases h
  | .int _ :: _, _, h => by cases h
  | .str _ :: _, _, h => by cases h
  | .lst _ :: _, _, h => by cases h
  | .tup _ :: _, _, h => by cases h
  | .dic _ :: _, _, h => by cases h
  | .dit _ :: _, _, h => by cases h
  | .obj _ _ :: _, _, h => by cases h
  | .opq _ :: _, _, h => by cases h
theorem isTs_ty {d : D} : ∀ {ts : List D} {b : Bool}, D.isTs ts d = some b → ∃ t, d.tyv = some t
  | [], b, h => by
    unfold D.isTs at h
    split at h
    · rename_i q
      exact isT_tyv q
    · cases h
  | .ty n :: r, b, h => by
    unfold D.isTs at h
    split at h
    · cases h1 : d.isT n with
      | none => rw [h1] at h; cases h
      | some a => exact isT_tyv (n := n) (by rw [h1]; rfl)
    · cases h
  | .non :: _, _, h => by cases h
  | .bl _ :: _, _, h => by cases h
  | .int _ :: _, _, h => by cases h
  | .str _ :: _, _, h => by cases h
  | .lst _ :: _, _, h => by cases h
  | .tup _ :: _, _, h => by cases h
  | .dic _ :: _, _, h => by cases h
  | .dit _ :: _, _, h => by cases h
  | .obj _ _ :: _, _, h => by cases h
  | .opq _ :: _, _, h => by cases h
theorem sc_isiT : SimC W (rIsiT K) wIsiT := fun R s H at_ xs ds a k hw Q hQ => by
  match ds, a, hw with
  | [d, .tup ts], a, hw =>
    obtain ⟨v, u, rfl, a1, b1⟩ := a.two
    obtain ⟨p, ys, rfl, e, l, _, _⟩ := b1.tupI
    simp only [wIsiT] at hw
    cases q : D.isTs ts d with
    | none => rw [q] at hw; exact hw.elim
    | some b =>
      rw [q] at hw
      obtain ⟨t, ht⟩ := isTs_ty q
      obtain ⟨us, q1, q2⟩ := isTs_kit (K := K) ht q
      exact ⟨v, p, ys, t, us, b, rfl, e, q1 l, a1.tyv ht, q2, hQ _ _ H hw .refl at_.j (.bl _)⟩
end
end Dw
set_option Elab.async false
set_option linter.all false
set_option maxRecDepth 100000
set_option maxHeartbeats 4000000
/-! Dy: operators that the data choose. -/
namespace Dw
open PySem PySem.Spec PyProof.Rows L2 RZ
section
variable {X : Cx} {k : Nat}
def rAddX (K : PySem.W.Frag) : R2 := fun x y H Q => rI0 (fun i j => .int (i + j)) x y H Q ∨ rCatA K x y H Q ∨ rCat x y H Q ∨ rAddS x y H Q
theorem op_addX : OpR X (binaryOp .Add) (rAddX X.K) := op_add.or (op_catA.or (op_cat.or op_addS))
def rMulX (K : PySem.W.Frag) : R2 := fun x y H Q => rI CMul (fun i j => .int (i * j)) x y H Q ∨ rI CMulW (fun i j => .int (i * j)) x y H Q ∨ rRepT K x y H Q ∨ rRep x y H Q ∨ Dt.rMulS x y H Q
theorem op_mulX : OpR X (binaryOp .Mult) (rMulX X.K) := op_mul.or (op_mulW.or (op_repT.or (op_rep.or Dt.op_mulS)))
def rDivX : R2 := fun x y H Q => rI CDiv (fun i j => .int (i / j)) x y H Q ∨ rI CDivW (fun i j => .int (i / j)) x y H Q
theorem op_divX : OpR X (binaryOp .FloorDiv) rDivX := op_fdiv.or op_fdivW
def rEqX (K : PySem.W.Frag) : R2 := fun x y H Q => rEq x y H Q ∨ rEqD K x y H Q
theorem op_eqX (hr : Room k X.A) : OpR X (compareOp .Eq) (rEqX X.K) := op_eq.or (op_eqD hr.units)
def rNeX (K : PySem.W.Frag) : R2 := fun x y H Q => rNe x y H Q ∨ rNeD K x y H Q
theorem op_neX (hr : Room k X.A) : OpR X (compareOp .NotEq) (rNeX X.K) := op_ne.or (op_neD hr.units)
def rInX (K : PySem.W.Frag) : R2 := fun x y H Q => rIn K false x y H Q ∨ rInS x y H Q ∨ rInD K x y H Q
theorem op_inX (hr : Room k X.A) : OpR X (compareOp .In) (rInX X.K) := op_in_seq.or (op_inS.or (op_inD (by have := hr.un; omega)))
def rNotInX (K : PySem.W.Frag) : R2 := fun x y H Q => rIn K true x y H Q ∨ rNotInS x y H Q ∨ rNotInD K x y H Q
def rLtX : R2 := fun x y H Q => rI0 (fun i j => .bl (decide (i < j))) x y H Q ∨ rStr (fun i j => decide (i.cps.toList < j.cps.toList)) x y H Q
theorem op_ltX : OpR X (compareOp .Lt) rLtX := op_lt.or op_ltS
def rGtX : R2 := fun x y H Q => rI0 (fun i j => .bl (decide (j < i))) x y H Q ∨ rStr (fun i j => decide (j.cps.toList < i.cps.toList)) x y H Q
theorem op_gtX : OpR X (compareOp .Gt) rGtX := op_gt.or op_gtS
def rGeX : R2 := fun x y H Q => rI0 (fun i j => .bl (decide (j ≤ i))) x y H Q ∨ rStr (fun i j => !decide (i.cps.toList < j.cps.toList)) x y H Q
theorem op_geX : OpR X (compareOp .GtE) rGeX := op_ge.or op_geS
def rLeX (K : PySem.W.Frag) : R2 := fun x y H Q => rI0 (fun i j => .bl (decide (i ≤ j))) x y H Q ∨ rStr (fun i j => !decide (j.cps.toList < i.cps.toList)) x y H Q ∨ rLeT K x y H Q
theorem op_leX (hr : Room k X.A) : OpR X (compareOp .LtE) (rLeX X.K) := op_le.or (op_leS.or (op_leT hr.units0))
def rSlX (K : PySem.W.Frag) : V → Option Int → Option Int → Hp → VK → Prop := fun x lo hi H Q => rSlA K x lo hi H Q ∨ rSlL K x lo hi H Q ∨ rSlS x lo hi H Q
theorem sl_X : SlR X (rSlX X.K) := sl_tupA.or (sl_list.or sl_str)
/-- a list, a tuple, a text walked -/
def iX (K : PySem.W.Frag) (te : TE) : TI := fun σ H R => te σ H fun v H1 => (∃ a, v = .ref a ∧ (∃ xs, SqL K H1 a xs) ∧ R (Itl K a) H1) ∨ (∃ a, v = .ref a ∧ (∃ xs, SqT K H1 a xs) ∧ R (Itt K a) H1) ∨ ∃ x, v = .str x ∧ R (Its x) H1
theorem pi_X {tg e : Expr} {te : TE} (he : PE X e te) : PI X tg e (iX X.K te) := by
  refine ⟨fun pins s σ H R I h => thn (he.run pins s σ H _ I h) fun v s1 ⟨y, H1, I1, r1, q1⟩ => ?_⟩
  rcases q1 with ⟨a, rfl, ⟨xs, hq⟩, q⟩ | ⟨a, rfl, ⟨xs, hq⟩, q⟩ | ⟨x, rfl, q⟩
  · obtain rfl : v = Value.ref a := r1
    obtain ⟨its, rv, p, hz⟩ := I1.list hq
    exact wpAny_pyIter_list p.isList (pi_one (tk := s1.toks) I1 _ (turn_list a _) ⟨_, Heap.get?_push_size _ rfl, rfl, rfl⟩ q)
  · obtain rfl : v = Value.ref a := r1
    obtain ⟨its, rv, p, hz⟩ := I1.tuple hq
    exact wpAny_pyIter_tuple (show s1.heap.IsTuple a its.toArray from p) (pi_one (tk := s1.toks) I1 _ (turn_tuple a _) ⟨_, Heap.get?_push_size _ rfl, rfl, rfl⟩ q)
  · obtain ⟨t, rfl⟩ := r1
    cases ha : x.cps.all (· < 128)
    · exact wpAny_pyIter_wide ha (pi_one (tk := s1.toks) I1 _ (turn_str _ x t "str_iterator" (.inr rfl)) ⟨_, Heap.get?_push_size _ rfl, rfl, rfl⟩ q)
    · exact wpAny_pyIter_ascii ha (pi_one (tk := s1.toks) I1 _ (turn_str _ x t "str_ascii_iterator" (.inl rfl)) ⟨_, Heap.get?_push_size _ rfl, rfl, rfl⟩ q)
/-! the same, K told -/
variable {K : PySem.W.Frag}
theorem kAdd (e : X.K = K := by rfl) : OpR X (binaryOp .Add) (rAddX K) := e ▸ op_addX
theorem kMul (e : X.K = K := by rfl) : OpR X (binaryOp .Mult) (rMulX K) := e ▸ op_mulX
theorem kEq (hr : Room k X.A) (e : X.K = K := by rfl) : OpR X (compareOp .Eq) (rEqX K) := e ▸ op_eqX hr
theorem kNe (hr : Room k X.A) (e : X.K = K := by rfl) : OpR X (compareOp .NotEq) (rNeX K) := e ▸ op_neX hr
theorem kIn (hr : Room k X.A) (e : X.K = K := by rfl) : OpR X (compareOp .In) (rInX K) := e ▸ op_inX hr
theorem kLe (hr : Room k X.A) (e : X.K = K := by rfl) : OpR X (compareOp .LtE) (rLeX K) := e ▸ op_leX hr
theorem kSl (e : X.K = K := by rfl) : SlR X (rSlX K) := e ▸ sl_X
theorem kIx (e : X.K = K := by rfl) : IxR X (rIx K) := e ▸ ix_seq
theorem kLen (e : X.K = K := by rfl) : CallR X (.builtin "len") (Rd.rLen K) := e ▸ Rd.cr_len
theorem kList (e : X.K = K := by rfl) : CallR X (.type "list") (Rd.rListOf K) := e ▸ Rd.cr_list
theorem kTuple (e : X.K = K := by rfl) : CallR X (.type "tuple") (Rd.rTupOf K) := e ▸ Rd.cr_tuple
theorem kIsi (e : X.K = K := by rfl) : CallR X (.builtin "isinstance") (rIsi K) := e ▸ call_isi
theorem kIsiT (e : X.K = K := by rfl) : CallR X (.builtin "isinstance") (rIsiT K) := e ▸ call_isiT
theorem kAll (hc : X.calm = true) (e : X.K = K := by rfl) : CallR X (.builtin "all") (rAll K) := e ▸ cr_all hc
theorem kTup {es : List Expr} {kk : Nat} {pos : Pos} {t : TGs} {n : Nat} (hc : X.calm = true) (h : PGs X es t)
    (hn : (assignEach es X.env).length = n := by rfl) (hst : (assignEach es X.env).findIdx? (·.1) = none := by rfl) (e : X.K = K := by rfl) : PG X (.Tuple es kk pos) (gTup K n t) := e ▸ pg_tup hc h hn hst
theorem kpi {tg e : Expr} {te : TE} (he : PE X e te) (e' : X.K = K := by rfl) : PI X tg e (iX K te) := e' ▸ pi_X he
end
section
variable {S : Type}
@[simp] def wiX (w : WE S) : WI S := fun env s k x => w env s (fun d s1 => match d with
  | .lst ds => k ds s1
  | .tup ds => k ds s1
  | .str z => k (signs z) s1
  | _ => False) x
@[simp] def wAddX : D → D → S → (D → S → Prop) → Prop := fun d e s k => match d, e with
  | .int i, .int j => k (.int (i + j)) s
  | .tup a, .tup b => a.length + b.length ≤ sizeLine ∧ k (.tup (a ++ b)) s
  | .lst a, .lst b => a.length + b.length ≤ sizeLine ∧ k (.lst (a ++ b)) s
  | .str a, .str b => a.length + b.length ≤ sizeLine ∧ k (.str (a ++ b)) s
  | _, _ => False
@[simp] def wMulX : D → D → S → (D → S → Prop) → Prop := fun d e s k => match d, e with
  | .int i, .int j => (CMul i j ∨ CMulW i j) ∧ k (.int (i * j)) s
  | .tup a, .int n => a ≠ [] ∧ 2 ≤ n ∧ n ≤ 1000 ∧ a.length ≤ 1000 ∧ a.length * n.toNat ≤ sizeLine ∧ k (.tup (List.replicate n.toNat a).flatten) s
  | .str z, .int n => 2 ≤ n ∧ n ≤ 1000 ∧ (n == 1 || z.length == 0) = false ∧ z.length ≤ 1000 ∧ Builtin.Str.tooLong (z.length * n.toNat) = false ∧ (Dt.mulT z n).length ≤ sizeLine ∧ k (.str (Dt.mulT z n)) s
  | .lst a, .int n => -(2 ^ 63) ≤ n ∧ n < 2 ^ 63 ∧ a.length * n.toNat ≤ sizeLine ∧ k (.lst (List.replicate n.toNat a).flatten) s
  | _, _ => False
@[simp] def wDivX : D → D → S → (D → S → Prop) → Prop := fun d e s k => match d, e with
  | .int i, .int j => (CDiv i j ∨ CDivW i j) ∧ k (.int (i / j)) s
  | _, _ => False
@[simp] def wEqX : D → D → S → (D → S → Prop) → Prop := fun d e s k => match d.eqs e with
  | some b => k (.bl b) s
  | none => ∃ a b, d.py = some a ∧ e.py = some b ∧ SeqAt.shaped a = true ∧ SeqAt.shaped b = true ∧ k (.bl (PyData.eqv a b)) s
@[simp] def wNeX : D → D → S → (D → S → Prop) → Prop := fun d e s k => match d.eqs e with
  | some b => k (.bl (!b)) s
  | none => ∃ a b, d.py = some a ∧ e.py = some b ∧ SeqAt.shaped a = true ∧ SeqAt.shaped b = true ∧ k (.bl (!PyData.eqv a b)) s
def flatIn (d : D) (ds : List D) : Bool := d.sv.isSome && ds.all fun z => z.sv.isSome
@[simp] def wInX : D → D → S → (D → S → Prop) → Prop := fun d e s k => match e with
  | .str z => (match d with
    | .str x => ∃ c, x = ⟨#[c]⟩ ∧ k (.bl (decide (c ∈ z.cps.toList))) s
    | _ => False)
  | .lst ds => if flatIn d ds = true then k (.bl (inD d ds)) s else ∃ a bs, d.py = some a ∧ (D.lst ds).py = some (.list bs) ∧ SeqAt.shaped a = true ∧ SeqAt.shaped (.list bs) = true ∧ k (.bl (bs.any fun z => PyData.eqv z a)) s
  | .tup ds => flatIn d ds = true ∧ k (.bl (inD d ds)) s
  | _ => False
@[simp] def wNotInX : D → D → S → (D → S → Prop) → Prop := fun d e s k => match e with
  | .str z => (match d with
    | .str x => ∃ c, x = ⟨#[c]⟩ ∧ k (.bl (!decide (c ∈ z.cps.toList))) s
    | _ => False)
  | .lst ds => if flatIn d ds = true then k (.bl (!inD d ds)) s else ∃ a bs, d.py = some a ∧ (D.lst ds).py = some (.list bs) ∧ SeqAt.shaped a = true ∧ SeqAt.shaped (.list bs) = true ∧ k (.bl (!bs.any fun z => PyData.eqv z a)) s
  | .tup ds => flatIn d ds = true ∧ k (.bl (!inD d ds)) s
  | _ => False
@[simp] def wCmpX (p : Int → Int → Bool) (q : Str → Str → Bool) : D → D → S → (D → S → Prop) → Prop := fun d e s k => match d, e with
  | .int i, .int j => k (.bl (p i j)) s
  | .str i, .str j => k (.bl (q i j)) s
  | _, _ => False
@[simp] def wLeX : D → D → S → (D → S → Prop) → Prop := fun d e s k => match d, e with
  | .int i, .int j => k (.bl (decide (i ≤ j))) s
  | .str i, .str j => k (.bl (!decide (j.cps.toList < i.cps.toList))) s
  | .tup a, .tup b => ∃ ns ms, D.ints a = some ns ∧ D.ints b = some ms ∧ k (.bl (leP ns ms)) s
  | _, _ => False
@[simp] def wSlX : D → Option Int → Option Int → S → (D → S → Prop) → Prop := fun d l h s k => match d with
  | .tup ds => k (.tup (cutD ds l h)) s
  | .lst ds => k (.lst (cutD ds l h)) s
  | .str z => k (.str (cutS z l h)) s
  | _ => False
end
section
variable {S : Type} {W : Wd S} {G : Gm S} {K : PySem.W.Frag}
theorem so_addX : SimO W (rAddX K) wAddX := fun R s H at_ x y d e a b k hw Q hQ => by
  cases d with
  | int i => cases e with
    | int j => exact .inl ⟨i, j, a.intI, b.intI, hQ _ _ H hw .refl at_.j (.int _)⟩
    | _ => exact hw.elim
  | tup i => cases e with
    | tup j => exact .inr (.inl (so_catT (K := K) R s H at_ x y (.tup i) (.tup j) a b k hw Q hQ))
    | _ => exact hw.elim
  | lst i => cases e with
    | lst j => exact .inr (.inr (.inl (so_catL R s H at_ x y (.lst i) (.lst j) a b k hw Q hQ)))
    | _ => exact hw.elim
  | str i => cases e with
    | str j => exact .inr (.inr (.inr (so_addS R s H at_ x y (.str i) (.str j) a b k hw Q hQ)))
    | _ => exact hw.elim
  | _ => exact hw.elim
theorem so_mulX : SimO W (rMulX K) wMulX := fun R s H at_ x y d e a b k hw Q hQ => by
  cases d with
  | int i => cases e with
    | int j =>
      rcases hw.1 with c | c
      · exact .inl ⟨i, j, a.intI, b.intI, c, hQ _ _ H hw.2 .refl at_.j (.int _)⟩
      · exact .inr (.inl ⟨i, j, a.intI, b.intI, c, hQ _ _ H hw.2 .refl at_.j (.int _)⟩)
    | _ => exact hw.elim
  | tup i => cases e with
    | int j => exact .inr (.inr (.inl (so_repT (K := K) R s H at_ x y (.tup i) (.int j) a b k hw Q hQ)))
    | _ => exact hw.elim
  | lst i => cases e with
    | int j =>
      obtain ⟨h1, h2, h3, h4⟩ := hw
      obtain ⟨p, xs, rfl, e1, l1, lz⟩ := a.lstI
      refine .inr (.inr (.inr (.inl ⟨p, j, xs, rfl, b.intI, e1, h1, h2, by rw [l1.len]; exact h3, fun r hr => ?_⟩)))
      exact hQ _ _ _ h4 (.new_at hr at_) (at_.new_at hr).j (.lst upd_same (at_.fresh hr) ((l1.rep _).mv (Fr.new_at hr at_).mv) (by rw [rep_len, Nat.mul_comm]; exact h3))
    | _ => exact hw.elim
  | str i => cases e with
    | int j => exact .inr (.inr (.inr (.inr (so_mulS R s H at_ x y (.str i) (.int j) a b k hw Q hQ))))
    | _ => exact hw.elim
  | _ => exact hw.elim
theorem so_divX : SimO W rDivX wDivX := fun R s H at_ x y d e a b k hw Q hQ => by
  cases d with
  | int i => cases e with
    | int j =>
      rcases hw.1 with c | c
      · exact .inl ⟨i, j, a.intI, b.intI, c, hQ _ _ H hw.2 .refl at_.j (.int _)⟩
      · exact .inr ⟨i, j, a.intI, b.intI, c, hQ _ _ H hw.2 .refl at_.j (.int _)⟩
    | _ => exact hw.elim
  | _ => exact hw.elim
theorem so_eqX : SimO W (rEqX K) wEqX := fun R s H at_ x y d e a b k hw Q hQ => by
  unfold wEqX at hw
  cases h : d.eqs e with
  | none =>
    rw [h] at hw
    exact .inr (so_eqD (K := K) R s H at_ x y d e a b k hw Q hQ)
  | some c =>
    rw [h] at hw
    exact .inl (so_eq R s H at_ x y d e a b k (by unfold wEq; rw [h]; exact hw) Q hQ)
theorem so_neX : SimO W (rNeX K) wNeX := fun R s H at_ x y d e a b k hw Q hQ => by
  unfold wNeX at hw
  cases h : d.eqs e with
  | none =>
    rw [h] at hw
    exact .inr (so_neD (K := K) R s H at_ x y d e a b k hw Q hQ)
  | some c =>
    rw [h] at hw
    exact .inl (so_ne R s H at_ x y d e a b k (by unfold wNe; rw [h]; exact hw) Q hQ)
theorem so_inX : SimO W (rInX K) wInX := fun R s H at_ x y d e a b k hw Q hQ => by
  cases e with
  | str z => cases d with
    | str i => exact .inr (.inl (so_inS R s H at_ x y (.str i) (.str z) a b k hw Q hQ))
    | _ => exact hw.elim
  | lst ds =>
    simp only [wInX] at hw
    split at hw
    · rename_i c
      rw [flatIn, Bool.and_eq_true] at c
      exact .inl (so_in (K := K) (neg := false) R s H at_ x y d (.lst ds) a b k ⟨c.1, c.2, by simpa using hw⟩ Q hQ)
    · exact .inr (.inr (so_inD (K := K) R s H at_ x y d (.lst ds) a b k hw Q hQ))
  | tup ds =>
    obtain ⟨c, hw⟩ := hw
    rw [flatIn, Bool.and_eq_true] at c
    exact .inl (so_in (K := K) (neg := false) R s H at_ x y d (.tup ds) a b k ⟨c.1, c.2, by simpa using hw⟩ Q hQ)
  | _ => exact hw.elim
theorem so_ltX : SimO W rLtX (wCmpX (fun i j => decide (i < j)) fun i j => decide (i.cps.toList < j.cps.toList)) := fun R s H at_ x y d e a b k hw Q hQ => by
  cases d with
  | int i => cases e with
    | int j => exact .inl ⟨i, j, a.intI, b.intI, hQ _ _ H hw .refl at_.j (.bl _)⟩
    | _ => exact hw.elim
  | str i => cases e with
    | str j => exact .inr ⟨i, j, a.strI.1, b.strI.1, hQ _ _ H hw .refl at_.j (.bl _)⟩
    | _ => exact hw.elim
  | _ => exact hw.elim
theorem so_gtX : SimO W rGtX (wCmpX (fun i j => decide (j < i)) fun i j => decide (j.cps.toList < i.cps.toList)) := fun R s H at_ x y d e a b k hw Q hQ => by
  cases d with
  | int i => cases e with
    | int j => exact .inl ⟨i, j, a.intI, b.intI, hQ _ _ H hw .refl at_.j (.bl _)⟩
    | _ => exact hw.elim
  | str i => cases e with
    | str j => exact .inr ⟨i, j, a.strI.1, b.strI.1, hQ _ _ H hw .refl at_.j (.bl _)⟩
    | _ => exact hw.elim
  | _ => exact hw.elim
theorem so_geX : SimO W rGeX (wCmpX (fun i j => decide (j ≤ i)) fun i j => !decide (i.cps.toList < j.cps.toList)) := fun R s H at_ x y d e a b k hw Q hQ => by
  cases d with
  | int i => cases e with
    | int j => exact .inl ⟨i, j, a.intI, b.intI, hQ _ _ H hw .refl at_.j (.bl _)⟩
    | _ => exact hw.elim
  | str i => cases e with
    | str j => exact .inr ⟨i, j, a.strI.1, b.strI.1, hQ _ _ H hw .refl at_.j (.bl _)⟩
    | _ => exact hw.elim
  | _ => exact hw.elim
theorem so_leX : SimO W (rLeX K) wLeX := fun R s H at_ x y d e a b k hw Q hQ => by
  cases d with
  | int i => cases e with
    | int j => exact .inl ⟨i, j, a.intI, b.intI, hQ _ _ H hw .refl at_.j (.bl _)⟩
    | _ => exact hw.elim
  | str i => cases e with
    | str j => exact .inr (.inl ⟨i, j, a.strI.1, b.strI.1, hQ _ _ H hw .refl at_.j (.bl _)⟩)
    | _ => exact hw.elim
  | tup i => cases e with
    | tup j => exact .inr (.inr (so_leT (K := K) R s H at_ x y (.tup i) (.tup j) a b k hw Q hQ))
    | _ => exact hw.elim
  | _ => exact hw.elim
theorem sl_x : SimL W (rSlX K) wSlX := fun R s H at_ x d a l h k hw Q hQ => by
  cases d with
  | tup ds => exact .inl (sl_t (K := K) R s H at_ x (.tup ds) a l h k hw Q hQ)
  | lst ds => exact .inr (.inl (sl_l (K := K) R s H at_ x (.lst ds) a l h k hw Q hQ))
  | str z => exact .inr (.inr (sl_s R s H at_ x (.str z) a l h k hw Q hQ))
  | _ => exact hw.elim
theorem si_x {t : TE} {w : WE S} (h : SimE W G t w) : SimI W G (iX K t) (wiX w) := fun R env σ H s rl k x hw ox Q hQ => h R env σ H s rl _ x hw ox _ fun d s1 v H1 hw1 f1 j1 a1 => by
  cases d with
  | lst ds =>
    cases a1 with
    | lst e n l z => exact .inl ⟨_, rfl, ⟨_, .of e⟩, hQ ds s1 _ H1 _ hw1 f1 j1 itr_lst (.lst e n l z)⟩
  | tup ds =>
    cases a1 with
    | tup e n l z => exact .inr (.inl ⟨_, rfl, ⟨_, .of e⟩, hQ ds s1 _ H1 _ hw1 f1 j1 itr_tup (.tup e n l z)⟩)
  | str z =>
    cases a1
    exact .inr (.inr ⟨z, rfl, hQ (signs z) s1 _ H1 _ hw1 f1 j1 itr_str True.intro⟩)
  | _ => exact hw1.elim
end
end Dw
set_option Elab.async false
set_option linter.all false
set_option maxRecDepth 100000
set_option maxHeartbeats 4000000
/-! Dz: plain facts about the words over data. -/
namespace Dw
open PySem L2
section
variable {S : Type} {g : WG} {tt : WT S} {te : WE S} {vs : List Nat} {env : List Sl} {s : S} {x : Xc → S → Prop}
/-- a comprehension that changes nothing -/
theorem wLc_pure (p : D → Bool) (f : D → D) : ∀ {ds : List D} {k : List D → S → Prop}, (∀ d ∈ ds, ∀ (kt : D → S → Prop) (kf : S → Prop), (p d = true → kt (f d) s) → (p d = false → kf s) →
      g d (wp env vs) fun e1 => tt e1 s (fun b s1 => if b = true then te e1 s1 kt x else kf s1) x) → k ((ds.filter p).map f) s → wLc g tt te vs ds env s k x
  | [], k, _, hk => hk
  | d :: r, k, h, hk => by
    unfold wLc
    refine h d (by simp) (fun y s2 => wLc g tt te vs r env s2 (fun ys s3 => k (y :: ys) s3) x) (fun s1 => wLc g tt te vs r env s1 k x) (fun hp => ?_) fun hp => ?_
    · refine wLc_pure p f (fun e he => h e (by simp [he])) ?_
      rw [List.filter_cons_of_pos hp, List.map_cons] at hk
      exact hk
    · refine wLc_pure p f (fun e he => h e (by simp [he])) ?_
      rw [List.filter_cons_of_neg (by rw [hp]; exact Bool.false_ne_true)] at hk
      exact hk
theorem wLc_map (f : D → D) {ds : List D} {k : List D → S → Prop} (h : ∀ d ∈ ds, ∀ (kt : D → S → Prop), kt (f d) s → g d (wp env vs) fun e1 => te e1 s kt x) (hk : k (ds.map f) s) :
    wLc g (fun _ s k _ => k true s) te vs ds env s k x := by
  refine wLc_pure (fun _ => true) f (fun d hd kt kf h1 _ => ?_) (by rw [List.filter_eq_self.mpr (by simp)]; exact hk)
  simpa using h d hd kt (h1 rfl)
end
@[simp] theorem bls_map {α : Type} (f : α → Bool) : ∀ ds : List α, D.bls (ds.map fun d => D.bl (f d)) = some (ds.map f)
  | [] => rfl
  | d :: r => by
    show (D.bls (r.map fun d => D.bl (f d))).map (f d :: ·) = _
    rw [bls_map f r]
    rfl
@[simp] theorem bls_map' {α : Type} (f : α → Bool) (ds : List α) : D.bls (ds.map (D.bl ∘ f)) = some (ds.map f) := bls_map f ds
@[simp] theorem ints_map {α : Type} (f : α → Int) : ∀ ds : List α, D.ints (ds.map fun d => D.int (f d)) = some (ds.map f)
  | [] => rfl
  | d :: r => by
    show (D.ints (r.map fun d => D.int (f d))).map (f d :: ·) = _
    rw [ints_map f r]
    rfl
@[simp] theorem strs_map {α : Type} (f : α → Str) : ∀ ds : List α, D.strs (ds.map fun d => D.str (f d)) = some (ds.map f)
  | [] => rfl
  | d :: r => by
    show (D.strs (r.map fun d => D.str (f d))).map (f d :: ·) = _
    rw [strs_map f r]
    rfl
@[simp] theorem keys_map {α : Type} (f : α → Str) : ∀ ds : List α, D.keys (ds.map fun d => D.str (f d)) = some (ds.map fun d => .inr (f d))
  | [] => rfl
  | d :: r => by
    show (D.keys (r.map fun d => D.str (f d))).map ((.inr (f d) : Key) :: ·) = _
    rw [keys_map f r]
    rfl
/-! nothing but plain data within -/
mutual
def D.pl : D → Bool
  | .obj _ _ => false
  | .opq _ => false
  | .ty _ => false
  | .lst ds => D.pls ds
  | .tup ds => D.pls ds
  | .dic _ => false
  | .dit _ => false
  | _ => true
def D.pls : List D → Bool
  | [] => true
  | d :: r => d.pl && D.pls r
end
theorem D.pls_all : ∀ ds : List D, D.pls ds = ds.all D.pl
  | [] => by unfold D.pls; rfl
  | d :: r => by unfold D.pls; rw [D.pls_all r, List.all_cons]
@[simp] theorem pl_non : D.pl .non = true := by unfold D.pl; rfl
@[simp] theorem pl_bl (b : Bool) : D.pl (.bl b) = true := by unfold D.pl; rfl
@[simp] theorem pl_int (b : Int) : D.pl (.int b) = true := by unfold D.pl; rfl
@[simp] theorem pl_str (b : Str) : D.pl (.str b) = true := by unfold D.pl; rfl
@[simp] theorem pl_lst (ds : List D) : D.pl (.lst ds) = ds.all D.pl := by unfold D.pl; exact D.pls_all ds
@[simp] theorem pl_tup (ds : List D) : D.pl (.tup ds) = ds.all D.pl := by unfold D.pl; exact D.pls_all ds
@[simp] theorem pl_obj (C : Addr) (fs : List (Str × D)) : D.pl (.obj C fs) = false := by unfold D.pl; rfl
@[simp] theorem pl_opq (C : Addr) : D.pl (.opq C) = false := by unfold D.pl; rfl
@[simp] theorem pl_ty (n : String) : D.pl (.ty n) = false := by unfold D.pl; rfl
@[simp] theorem pl_dic (k) : D.pl (.dic k) = false := by unfold D.pl; rfl
@[simp] theorem pl_dit (k) : D.pl (.dit k) = false := by unfold D.pl; rfl
@[simp] theorem atI_0 {α : Type} (d : α) (ds : List α) : atI (d :: ds) 0 = some d := by
  unfold atI ixN
  rw [if_pos (by omega), if_pos (by simp <;> omega)]
  rfl
@[simp] theorem atI_1 {α : Type} (c d : α) (ds : List α) : atI (c :: d :: ds) 1 = some d := by
  unfold atI ixN
  rw [if_pos (by omega), if_pos (by simp <;> omega)]
  rfl
@[simp] theorem atI_2 {α : Type} (b c d : α) (ds : List α) : atI (b :: c :: d :: ds) 2 = some d := by
  unfold atI ixN
  rw [if_pos (by omega), if_pos (by simp <;> omega)]
  rfl
theorem nodup_inr : ∀ {xs : List Str}, (xs.map fun x => (Sum.inr x : Key)).Nodup ↔ xs.Nodup
  | [] => by simp
  | x :: r => by
    rw [List.map_cons, List.nodup_cons, List.nodup_cons, nodup_inr]
    simp
theorem atI_nat' {α : Type} {xs : List α} {i : Int} (h0 : 0 ≤ i) (h : i < xs.length) : atI xs i = some (xs[i.toNat]'(by omega)) := by
  unfold atI ixN
  rw [if_pos h0, if_pos h]
  show xs[i.toNat]? = _
  rw [List.getElem?_eq_getElem]
theorem so_i0s {S : Type} {W : Wd S} {g : Int → Int → V} (hs : ∀ i j, Sc (g i j)) : SimO W (rI0 g) (wI0 g) := so_i0 hs
theorem so_iCs {S : Type} {W : Wd S} {C : Int → Int → Prop} {g : Int → Int → V} (hs : ∀ i j, Sc (g i j)) : SimO W (rI C g) (wIC C g) := so_iC hs
theorem su_is {S : Type} {W : Wd S} {g : Int → V} (hs : ∀ i, Sc (g i)) : SimU W (rU g) (wU g) := su_i hs
/-! list(range(..)), tuple(range(..)) -/
section
variable {S : Type} {W : Wd S} {G : Gm S} {K : PySem.W.Frag}
abbrev WR (S : Type) := List Sl → S → (Int → Int → S → Prop) → (Xc → S → Prop) → Prop
def SimR (W : Wd S) (G : Gm S) (t : L2.St → Hp → (Int → Int → Hp → Prop) → Prop) (w : WR S) : Prop := ∀ R env σ H s, Rel W G R env σ H s → ∀ k x, w env s k x → XOk W G x → ∀ Q : Int → Int → Hp → Prop,
  (∀ a b s' H', k a b s' → Fr W s H s' H' → W.J s' H' → Q a b H') → t σ H Q
@[simp] def wRg1 (wa : WE S) : WR S := fun env s k x => wa env s (fun d s1 => match d with
  | .int n => k 0 n s1
  | _ => False) x
@[simp] def wRg2 (wa wb : WE S) : WR S := fun env s k x => wa env s (fun d s1 => wb env s1 (fun e s2 => match d, e with
  | .int i, .int j => k i j s2
  | _, _ => False) x) x
@[simp] def wLstRg (w : WR S) : WE S := fun env s k x => w env s (fun a b s1 => RgOk a b ∧ k (.lst (rngD a (b - a).toNat)) s1) x
@[simp] def wLstRgF (w : WR S) : WI S := fun env s k x => w env s (fun a b s1 => RgOk a b ∧ k (rngD a (b - a).toNat) s1) x
@[simp] def wTupRg (w : WR S) : WE S := fun env s k x => w env s (fun a b s1 => RgOk a b ∧ k (.tup (rngD a (b - a).toNat)) s1) x
theorem sim_rg1 {ta : TE} {wa : WE S} (h : SimG W G ta wa) : SimR W G (tRg1 ta) (wRg1 wa) := fun R env σ H s rl k x hw ox Q hQ => h R env σ H s rl _ x hw ox _ fun d s1 v H1 hw1 f1 j1 a1 => by
  cases d with
  | int n => exact ⟨n, a1.intI, hQ _ _ s1 H1 hw1 f1 j1⟩
  | _ => exact hw1.elim
theorem rg_da {B : Addr → Prop} {H : Hp} (a b : Int) : DaL B H (rgV a b) (rngD a (b - a).toNat) := by
  unfold rgV rngD
  generalize (List.range (b - a).toNat) = l
  induction l with
  | nil => exact .nil
  | cons i r ih => exact .cons (.int _) ih
theorem rg_len {a b : Int} (h : RgOk a b) : (rngD a (b - a).toNat).length ≤ sizeLine := by
  unfold rngD
  rw [List.length_map, List.length_range, sizeLine_eq]
  exact h.2.2.2.2
theorem sim_lstRg {t : L2.St → Hp → (Int → Int → Hp → Prop) → Prop} {w : WR S} (h : SimR W G t w) : SimE W G (tLstRg t) (wLstRg w) := fun R env σ H s rl k x hw ox Q hQ => h R env σ H s rl _ x hw ox _ fun a b s1 H1 hw1 f1 j1 => ⟨hw1.1, fun p hp => by
  have at1 := (rl.step f1 j1).at_
  exact hQ _ s1 _ _ hw1.2 (f1.trans (.new_at hp at1)) (at1.new_at hp).j (.lst upd_same (at1.fresh hp) (rg_da a b) (rg_len hw1.1))⟩
theorem sim_tupRg {t : L2.St → Hp → (Int → Int → Hp → Prop) → Prop} {w : WR S} (h : SimR W G t w) : SimE W G (tTupRg t) (wTupRg w) := fun R env σ H s rl k x hw ox Q hQ => h R env σ H s rl _ x hw ox _ fun a b s1 H1 hw1 f1 j1 => ⟨hw1.1, fun p hp => by
  have at1 := (rl.step f1 j1).at_
  exact hQ _ s1 _ _ hw1.2 (f1.trans (.new_at hp at1)) (at1.new_at hp).j (.tup upd_same (at1.fresh hp) (rg_da a b) (rg_len hw1.1))⟩
/-! new lists of the def's own by list(..), by + -/
@[simp] def wListF (wa : WA S) : WI S := fun env s k x => wa env s (fun ds s1 => match ds with
  | [.lst xs] => k xs s1
  | [.tup xs] => k xs s1
  | _ => False) x
theorem sim_listF {ta : TA} {wa : WA S} (h : SimB W G ta wa) : SimF W G (tCB (Rd.rListOf K) ta) (wListF wa) := fun R env σ H s rl k x hw ox Q hQ => h R env σ H s rl _ x hw ox _ fun ds s1 vs H1 hw1 f1 j1 a1 => by
  have at1 := (rl.step f1 j1).at_
  match ds, a1, hw1 with
  | [.lst es], a1, hw1 =>
    obtain ⟨v, rfl, a2⟩ := a1.one
    obtain ⟨q, ys, rfl, e, l, lz⟩ := a2.lstI
    exact ⟨q, ys, rfl, .inl (.of e), fun p hp => hQ _ s1 p _ _ hw1 (f1.trans (.new_at hp at1)) (at1.new_at hp).j (f1.none rl.at_.j hp j1) upd_same (at1.fresh hp) (l.mv (at1.off hp)) lz⟩
  | [.tup es], a1, hw1 =>
    obtain ⟨v, rfl, a2⟩ := a1.one
    obtain ⟨q, ys, rfl, e, l, _, lz⟩ := a2.tupI
    exact ⟨q, ys, rfl, .inr (.of e), fun p hp => hQ _ s1 p _ _ hw1 (f1.trans (.new_at hp at1)) (at1.new_at hp).j (f1.none rl.at_.j hp j1) upd_same (at1.fresh hp) (l.mv (at1.off hp)) lz⟩
@[simp] def wAddF (wa wb : WE S) : WI S := fun env s k x => wa env s (fun d s1 => wb env s1 (fun e s2 => match d, e with
  | .lst a, .lst b => a.length + b.length ≤ sizeLine ∧ k (a ++ b) s2
  | _, _ => False) x) x
theorem sim_addF {ta tb : TE} {wa wb : WE S} (h : SimG W G ta wa) (h' : SimG W G tb wb) : SimF W G (tOp (rAddX K) ta tb) (wAddF wa wb) := fun R env σ H s rl k x hw ox Q hQ => h R env σ H s rl _ x hw ox _ fun d s1 v H1 hw1 f1 j1 a1 =>
  h' R env σ H1 s1 (rl.step f1 j1) _ x hw1 ox _ fun e s2 u H2 hw2 f2 j2 a2 => by
    have at2 := ((rl.step f1 j1).step f2 j2).at_
    cases d with
    | lst ds => cases e with
      | lst es =>
        obtain ⟨p, xs, rfl, e1, l1, lz1⟩ := (a1.fr f2).lstI
        obtain ⟨q, ys, rfl, e2, l2, lz2⟩ := a2.lstI
        refine .inr (.inr (.inl ⟨p, q, xs, ys, rfl, rfl, e1, e2, by rw [l1.len, l2.len]; exact hw2.1, fun r hr => ?_⟩))
        exact hQ _ s2 r _ _ hw2.2 ((f1.trans f2).trans (.new_at hr at2)) (at2.new_at hr).j ((f1.trans f2).none rl.at_.j hr j2) upd_same (at2.fresh hr) ((l1.app l2).mv (at2.off hr)) (by rw [List.length_append]; exact hw2.1)
      | _ => exact hw2.elim
    | _ => exact hw2.elim
end
theorem rngD_eq (a : Int) (n : Nat) : rngD a n = (List.range n).map fun i => D.int (a + (i : Nat)) := rfl
theorem rngD_len (a : Int) (n : Nat) : (rngD a n).length = n := by simp [rngD]
/-- a for by what holds ahead of each turn -/
theorem wFor_ind {S : Type} {g : WG} {b : WS S} {K : WEnds S} (P : List D → List Sl → S → Prop) {ds : List D} {env : List Sl} {s : S} (h0 : P ds env s) (hn : ∀ env s, P [] env s → K.nx env s)
    (hc : ∀ d r, (∀ env s, P r env s → wFor g b r K env s) → ∀ env s, P (d :: r) env s → g d env fun e => b { K with nx := fun e t => wFor g b r K e t, ct := fun e t => wFor g b r K e t, bk := K.nx } e s) : wFor g b ds K env s := by
  induction ds generalizing env s with
  | nil => exact hn env s h0
  | cons d r ih => exact hc d r (fun env s h => ih h) env s h0
theorem wWh_ind {S : Type} {c : WT S} {b : WS S} {K : WEnds S} (P : Nat → List Sl → S → Prop) {n : Nat} {env : List Sl} {s : S} (h0 : P n env s)
    (hc : ∀ n, (∀ m env s, m < n → P m env s → ∃ j, wWhN c b j K env s) → ∀ env s, P n env s → ∃ j, wWhN c b j K env s) : ∃ j, wWhN c b j K env s := by
  induction n using Nat.strongRecOn generalizing env s with
  | _ n ih => exact hc n (fun m env s hm h => ih m hm h) env s h0
mutual
/-- plain, its ints of at most thirty-one figures -/
def D.sm : D → Bool
  | .int i => decide (-(10 ^ 31) ≤ i) && decide (i ≤ 10 ^ 31)
  | .lst ds => D.sms ds
  | .tup ds => D.sms ds
  | .non => true
  | .bl _ => true
  | .str x => PySem.PyData.strOk x
  | _ => false
def D.sms : List D → Bool
  | [] => true
  | d :: r => d.sm && D.sms r
end
theorem D.sms_all : ∀ ds : List D, D.sms ds = ds.all D.sm
  | [] => by unfold D.sms; rfl
  | d :: r => by unfold D.sms; rw [D.sms_all r, List.all_cons]
@[simp] theorem sm_non : D.sm .non = true := by unfold D.sm; rfl
@[simp] theorem sm_bl (b : Bool) : D.sm (.bl b) = true := by unfold D.sm; rfl
@[simp] theorem sm_int (b : Int) : D.sm (.int b) = (decide (-(10 ^ 31) ≤ b) && decide (b ≤ 10 ^ 31)) := by unfold D.sm; rfl
@[simp] theorem sm_str (b : Str) : D.sm (.str b) = PySem.PyData.strOk b := by unfold D.sm; rfl
@[simp] theorem sm_lst (ds : List D) : D.sm (.lst ds) = ds.all D.sm := by unfold D.sm; exact D.sms_all ds
@[simp] theorem sm_tup (ds : List D) : D.sm (.tup ds) = ds.all D.sm := by unfold D.sm; exact D.sms_all ds
@[simp] theorem sm_obj (C : Addr) (fs : List (Str × D)) : D.sm (.obj C fs) = false := by unfold D.sm; rfl
@[simp] theorem sm_opq (C : Addr) : D.sm (.opq C) = false := by unfold D.sm; rfl
@[simp] theorem sm_ty (n : String) : D.sm (.ty n) = false := by unfold D.sm; rfl
@[simp] theorem sm_dic (k) : D.sm (.dic k) = false := by unfold D.sm; rfl
@[simp] theorem sm_dit (k) : D.sm (.dit k) = false := by unfold D.sm; rfl
mutual
theorem D.sm_pl : ∀ {d : D}, d.sm = true → d.pl = true
  | .non, _ => by simp
  | .bl _, _ => by simp
  | .int _, _ => by simp
  | .str _, _ => by simp
  | .lst ds, h => by
    rw [pl_lst]
    rw [sm_lst] at h
    exact D.sms_pls h
  | .tup ds, h => by
    rw [pl_tup]
    rw [sm_tup] at h
    exact D.sms_pls h
  | .dic _, h => by simp at h
  | .dit _, h => by simp at h
  | .obj _ _, h => by simp at h
  | .opq _, h => by simp at h
  | .ty _, h => by simp at h
theorem D.sms_pls : ∀ {ds : List D}, ds.all D.sm = true → ds.all D.pl = true
  | [], _ => rfl
  | d :: r, h => by
    rw [List.all_cons, Bool.and_eq_true] at h ⊢
    exact ⟨D.sm_pl h.1, D.sms_pls h.2⟩
end
/-! membership -/
theorem flatIn_strs (x : Str) (acc : List Str) : flatIn (.str x) (acc.map fun y => D.str y) = true := by
  unfold flatIn
  simp
theorem inD_strs (x : Str) : ∀ acc : List Str, inD (.str x) (acc.map fun y => D.str y) = decide (x ∈ acc)
  | [] => by simp [inD]
  | y :: r => by
    have ih := inD_strs x r
    unfold inD at ih ⊢
    rw [List.map_cons, List.any_cons, ih]
    show ((y == x) || _) = _
    by_cases h : x = y
    · subst h
      simp
    · have : (y == x) = false := by simpa using fun z => h z.symm
      simp [this, h]
theorem flatIn_ints (n : Int) (l : List Int) : flatIn (.int n) (l.map fun y => D.int y) = true := by
  unfold flatIn
  simp
theorem inD_ints (x : Int) : ∀ acc : List Int, inD (.int x) (acc.map fun y => D.int y) = decide (x ∈ acc)
  | [] => by simp [inD]
  | y :: r => by
    have ih := inD_ints x r
    unfold inD at ih ⊢
    rw [List.map_cons, List.any_cons, ih]
    show ((y == x) || _) = _
    by_cases h : x = y
    · subst h
      simp
    · have : (y == x) = false := by simpa using fun z => h z.symm
      simp [this, h]
theorem rngD_map (a : Int) (m : Nat) : rngD a m = ((List.range m).map fun i => a + (i : Nat)).map fun y => D.int y := by
  rw [rngD_eq, List.map_map]
  rfl
theorem cut1 (d : D) (r : List D) : cutD (d :: r) (some 1) none = r := by
  unfold cutD
  rw [show HT.sIx (d :: r).length 0 (some 1) = 1 by rw [show ((1 : Int)) = ((1 : Nat) : Int) from rfl, HT.sIx_nat, List.length_cons]; omega, HT.sIx_none]
  simp
end Dw
set_option Elab.async false
set_option linter.all false
set_option maxRecDepth 100000
set_option maxHeartbeats 4000000
/-! Bx: the drawing's box (a dict with text keys at a place that changes, a list of ints beside it) over data. -/
namespace Dw
open PySem PySem.Spec PyProof.Rows L2
theorem huB {k : Nat} {A : Around} (r : Room k A) : A.units + 1 < cLine := by have := r.un; omega
structure Box where
  a : Addr
  c : Addr
  cells : List Int
  at_ : Int
  rest : Int
  many : Int
  great : Bool
  all : Int
def Box.kvs (b : Box) : List (Key × V) := [(.inr "cells", .ref b.c), (.inr "at", .int b.at_), (.inr "rest", .int b.rest), (.inr "many", .int b.many), (.inr "great", .bl b.great), (.inr "all", .int b.all)]
def BW : Wd Box where
  C b x := x = b.a ∨ x = b.c
  J b H := H b.a = some (.dK b.kvs) ∧ H b.c = some (.lst (b.cells.map V.int)) ∧ b.cells.length ≤ sizeLine
  tr := by
    rintro s H a ⟨h1, h2, _⟩ (rfl | rfl)
    · rw [h1]; simp
    · rw [h2]; simp
  ct := by
    rintro s H a xs ⟨h1, h2, _⟩ (rfl | rfl)
    · rw [h1]; simp
    · rw [h2]; simp
  st := by
    rintro s H H' ⟨h1, h2, h3⟩ h _
    exact ⟨(h _ (.inl rfl)).trans h1, (h _ (.inr rfl)).trans h2, h3⟩
def bget (b : Box) (k : Str) : Option D := if k = "cells" then some (.opq b.c) else if k = "at" then some (.int b.at_) else if k = "rest" then some (.int b.rest) else
  if k = "many" then some (.int b.many) else if k = "great" then some (.bl b.great) else if k = "all" then some (.int b.all) else none
def bput (b : Box) (k : Str) : D → Option Box
  | .int i => if k = "at" then some { b with at_ := i } else if k = "rest" then some { b with rest := i } else if k = "many" then some { b with many := i } else if k = "all" then some { b with all := i } else none
  | .bl g => if k = "great" then some { b with great := g } else none
  | _ => none
@[simp] theorem bget_cells (b : Box) : bget b "cells" = some (.opq b.c) := rfl
@[simp] theorem bget_at (b : Box) : bget b "at" = some (.int b.at_) := rfl
@[simp] theorem bget_rest (b : Box) : bget b "rest" = some (.int b.rest) := rfl
@[simp] theorem bget_many (b : Box) : bget b "many" = some (.int b.many) := rfl
@[simp] theorem bget_great (b : Box) : bget b "great" = some (.bl b.great) := rfl
@[simp] theorem bget_all (b : Box) : bget b "all" = some (.int b.all) := rfl
@[simp] theorem bput_at (b : Box) (i : Int) : bput b "at" (.int i) = some { b with at_ := i } := rfl
@[simp] theorem bput_rest (b : Box) (i : Int) : bput b "rest" (.int i) = some { b with rest := i } := rfl
@[simp] theorem bput_many (b : Box) (i : Int) : bput b "many" (.int i) = some { b with many := i } := rfl
@[simp] theorem bput_all (b : Box) (i : Int) : bput b "all" (.int i) = some { b with all := i } := rfl
@[simp] theorem bput_great (b : Box) (g : Bool) : bput b "great" (.bl g) = some { b with great := g } := rfl
@[simp] def wBGet (i : Nat) (k : Str) : WE Box := fun env s kk _ => match sg env i with
  | .dat (.opq a) => a = s.a ∧ (match bget s k with
    | some d => kk d s
    | none => False)
  | _ => False
@[simp] def wBPut (i : Nat) (k : Str) (wv : WE Box) : WS Box := fun KK env s => wv env s (fun d s1 => match sg env i with
  | .dat (.opq a) => a = s1.a ∧ (match bput s1 k d with
    | some s2 => KK.nx env s2
    | none => False)
  | _ => False) KK.xc
@[simp] def wBAug (i : Nat) (k : Str) (wo : D → D → Box → (D → Box → Prop) → Prop) (wv : WE Box) : WS Box := fun KK env s => match sg env i with
  | .dat (.opq a) => a = s.a ∧ (match bget s k with
    | some d => wv env s (fun e s1 => wo d e s1 fun z s2 => a = s2.a ∧ (match bput s2 k z with
      | some s3 => KK.nx env s3
      | none => False)) KK.xc
    | none => False)
  | _ => False
@[simp] def wIxB : D → D → Box → (D → Box → Prop) → Prop := fun d e s k => match d, e with
  | .opq c, .int i => c = s.c ∧ (match atI s.cells i with
    | some n => k (.int n) s
    | none => False)
  | d, e => wIx d e s k
@[simp] def wLenB : List D → Box → (D → Box → Prop) → Prop := fun ds s k => match ds with
  | [.opq c] => c = s.c ∧ k (.int s.cells.length) s
  | ds => wLen ds s k
section
variable {G : Gm Box} {K : PySem.W.Frag}
end
/-! ### comprehensions that draw -/
/-- what a comprehension with a filter takes -/
inductive Sub (Pd : D → D → Prop) : List D → List D → Prop
  | nil : Sub Pd [] []
  | skip {d : D} {ds ys : List D} : Sub Pd ds ys → Sub Pd (d :: ds) ys
  | take {d y : D} {ds ys : List D} : Pd d y → Sub Pd ds ys → Sub Pd (d :: ds) (y :: ys)
section
variable {S : Type} {g : WG} {tt : WT S} {te : WE S} {vs : List Nat} {env : List Sl} {x : Xc → S → Prop}
theorem wLc_st (I : S → Prop) (Pd : D → D → Prop) : ∀ {ds : List D} {s : S} {k : List D → S → Prop}, (∀ d ∈ ds, ∀ s, I s → ∀ (kt : D → S → Prop) (kf : S → Prop), (∀ s' y, I s' → Pd d y → kt y s') → (∀ s', I s' → kf s') →
      g d (wp env vs) fun e1 => tt e1 s (fun b s1 => if b = true then te e1 s1 kt x else kf s1) x) → I s → (∀ s' ys, I s' → Sub Pd ds ys → k ys s') → wLc g tt te vs ds env s k x
  | [], s, k, _, i, hk => hk s [] i .nil
  | d :: r, s, k, h, i, hk => by
    unfold wLc
    refine h d (by simp) s i (fun y s2 => wLc g tt te vs r env s2 (fun ys s3 => k (y :: ys) s3) x) (fun s1 => wLc g tt te vs r env s1 k x) (fun s' y i' p => ?_) fun s' i' => ?_
    · exact wLc_st I Pd (fun e he => h e (by simp [he])) i' fun s2 ys i2 q => hk s2 (y :: ys) i2 (.take p q)
    · exact wLc_st I Pd (fun e he => h e (by simp [he])) i' fun s2 ys i2 q => hk s2 ys i2 (.skip q)
end
end Dw
set_option Elab.async false
set_option linter.all false
set_option maxRecDepth 100000
set_option maxHeartbeats 4000000
/-! Dv: how wide and how deep data are, for repr. -/
namespace Dw
open PySem PySem.Spec PyProof.Rows L2
/-! sizes -/
mutual
def sz : PyData → Nat
  | .none => 5
  | .bool _ => 6
  | .int i => (Str.ofString (toString i)).length + 1
  | .str x => (reprText x).length + 1
  | .list ds => 4 + szL ds
  | .tuple ds => 4 + szL ds
  | .dict kvs => 4 + szK kvs
def szL : List PyData → Nat
  | [] => 0
  | d :: r => sz d + 2 + szL r
def szK : List (PyData × PyData) → Nat
  | [] => 0
  | (a, b) :: r => sz a + sz b + 4 + szK r
end
theorem join_le : ∀ ts : List Str, (Str.join ", " ts).length ≤ piled ts := fun ts => by
  by_cases h : ts = []
  · subst h
    exact Nat.zero_le _
  · have := join_length_add ts h
    omega
theorem textFrom_le : ∀ (ts : List Str) (k : Nat) (acc : Str), (textFrom k acc ts).length ≤ acc.length + piled ts
  | [], k, acc => Nat.le_add_right _ _
  | t :: r, k, acc => by
    have h := textFrom_le r (k + 1) (acc ++ (if k > 0 then ", " else "" : String) ++ t)
    have e : (acc ++ (if k > 0 then ", " else "" : String) ++ t).length ≤ acc.length + 2 + t.length := by
      rw [strLen_append, strLen_append]
      by_cases c : k > 0
      · rw [if_pos c]
        exact Nat.le_refl _
      · rw [if_neg c]
        show acc.length + 0 + t.length ≤ _
        omega
    show (textFrom (k + 1) (acc ++ (if k > 0 then ", " else "" : String) ++ t) r).length ≤ _
    have e2 : piled (t :: r) = t.length + 2 + piled r := by simp [piled]
    omega
mutual
theorem shown_sz : ∀ d : PyData, d.shown.length ≤ sz d
  | .none => (by decide : 4 ≤ 5)
  | .bool b => by cases b <;> exact (by decide)
  | .int i => Nat.le_succ _
  | .str x => Nat.le_succ _
  | .list ds => by
    have h := shownAll_sz ds
    have h2 := textFrom_le (PyData.shownAll ds) 0 "["
    show (textFrom 0 "[" (PyData.shownAll ds) ++ "]").length ≤ 4 + szL ds
    rw [strLen_append]
    have e1 : ("]" : Str).length = 1 := rfl
    have e2 : ("[" : Str).length = 1 := rfl
    omega
  | .tuple ds => by
    have h := shownAll_sz ds
    have h2 := join_le (PyData.shownAll ds)
    show (("(" : Str) ++ Str.join ", " (PyData.shownAll ds) ++ (if (PyData.shownAll ds).length == 1 then ",)" else ")" : String)).length ≤ 4 + szL ds
    rw [strLen_append, strLen_append]
    have e1 : ("(" : Str).length = 1 := rfl
    have e2 : (Str.ofString (if (PyData.shownAll ds).length == 1 then ",)" else ")" : String)).length ≤ 2 := by split <;> decide
    omega
  | .dict kvs => by
    have h := shownKv_sz kvs
    have h2 := join_le (PyData.shownKv kvs)
    show (("{" : Str) ++ Str.join ", " (PyData.shownKv kvs) ++ "}").length ≤ 4 + szK kvs
    rw [strLen_append, strLen_append]
    have e1 : ("{" : Str).length = 1 := rfl
    have e2 : ("}" : Str).length = 1 := rfl
    omega
theorem shownAll_sz : ∀ ds : List PyData, piled (PyData.shownAll ds) ≤ szL ds
  | [] => Nat.le_refl _
  | d :: r => by
    have h1 := shown_sz d
    have h2 := shownAll_sz r
    show piled (d.shown :: PyData.shownAll r) ≤ sz d + 2 + szL r
    have e2 : piled (d.shown :: PyData.shownAll r) = d.shown.length + 2 + piled (PyData.shownAll r) := by simp [piled]
    omega
theorem shownKv_sz : ∀ ds : List (PyData × PyData), piled (PyData.shownKv ds) ≤ szK ds
  | [] => Nat.le_refl _
  | (a, b) :: r => by
    have h1 := shown_sz a
    have h3 := shown_sz b
    have h2 := shownKv_sz r
    show piled ((a.shown ++ ": " ++ b.shown) :: PyData.shownKv r) ≤ sz a + sz b + 4 + szK r
    have e2 : piled ((a.shown ++ ": " ++ b.shown) :: PyData.shownKv r) = (a.shown ++ ": " ++ b.shown).length + 2 + piled (PyData.shownKv r) := by simp [piled]
    rw [strLen_append, strLen_append] at e2
    have e3 : (": " : Str).length = 2 := rfl
    omega
end
mutual
def D.wd : D → Nat
  | .non => 5
  | .bl _ => 6
  | .int _ => 40
  | .str x => (reprText x).length + 1
  | .lst ds => 4 + D.wds ds
  | .tup ds => 4 + D.wds ds
  | _ => 0
def D.wds : List D → Nat
  | [] => 0
  | d :: r => d.wd + 2 + D.wds r
end
mutual
def D.dp : D → Nat
  | .lst ds => D.dps ds + 1
  | .tup ds => D.dps ds + 1
  | _ => 0
def D.dps : List D → Nat
  | [] => 0
  | d :: r => max d.dp (D.dps r)
end
theorem int_sz {i : Int} (h : -(10 ^ 31) ≤ i ∧ i ≤ 10 ^ 31) : (PyData.int i).showable = true ∧ sz (.int i) ≤ 40 := by
  have n : i.natAbs < 10 ^ 32 := by omega
  refine ⟨decide_eq_true ?_, ?_⟩
  · have : i.natAbs < 2 ^ 1920 := Nat.lt_trans n (Nat.lt_of_lt_of_le (by decide : (10 : Nat) ^ 32 < 2 ^ 107) (Nat.pow_le_pow_right (by decide) (by decide)))
    exact PySem.Flt.log2_lt_of (by decide) this
  · have := PySem.int_text_length_le10 (a := i) (k := 32) (by decide) n
    show (Str.ofString (toString i)).length + 1 ≤ 40
    have e : (Str.ofString (toString i)).length = (toString i).length := PySem.ofString_length _
    omega
mutual
theorem D.rp : ∀ {d : D}, d.sm = true → ∃ p, d.py = some p ∧ p.showable = true ∧ sz p ≤ d.wd ∧ p.depth ≤ d.dp
  | .non, _ => ⟨.none, rfl, rfl, by unfold D.wd; exact Nat.le_refl _, Nat.zero_le _⟩
  | .bl b, _ => ⟨.bool b, rfl, rfl, by unfold D.wd; exact Nat.le_refl _, Nat.zero_le _⟩
  | .int i, h => ⟨.int i, rfl, (int_sz (by simpa using h)).1, by unfold D.wd; exact (int_sz (by simpa using h)).2, Nat.zero_le _⟩
  | .str x, _ => ⟨.str x, rfl, rfl, by unfold D.wd; exact Nat.le_refl _, Nat.zero_le _⟩
  | .lst ds, h => by
    obtain ⟨ps, e, a, b, c⟩ := D.rps (ds := ds) (by simpa using h)
    exact ⟨.list ps, by simp [e], a, by unfold D.wd; exact Nat.add_le_add_left b 4, by unfold D.dp; exact Nat.succ_le_succ c⟩
  | .tup ds, h => by
    obtain ⟨ps, e, a, b, c⟩ := D.rps (ds := ds) (by simpa using h)
    exact ⟨.tuple ps, by simp [e], a, by unfold D.wd; exact Nat.add_le_add_left b 4, by unfold D.dp; exact Nat.succ_le_succ c⟩
  | .dic _, h => by simp at h
  | .dit _, h => by simp at h
  | .obj _ _, h => by simp at h
  | .opq _, h => by simp at h
  | .ty _, h => by simp at h
theorem D.rps : ∀ {ds : List D}, (∀ d ∈ ds, d.sm = true) → ∃ ps, D.pys ds = some ps ∧ PyData.showableAll ps = true ∧ szL ps ≤ D.wds ds ∧ PyData.depthAll ps ≤ D.dps ds
  | [], _ => ⟨[], rfl, rfl, Nat.zero_le _, Nat.zero_le _⟩
  | d :: r, h => by
    obtain ⟨p, e, a, b, c⟩ := D.rp (d := d) (h d (by simp))
    obtain ⟨ps, e2, a2, b2, c2⟩ := D.rps (ds := r) fun z hz => h z (by simp [hz])
    refine ⟨p :: ps, by simp [e, e2], by show (p.showable && PyData.showableAll ps) = true; rw [a, a2]; rfl, ?_, ?_⟩
    · unfold D.wds
      show sz p + 2 + szL ps ≤ _
      omega
    · unfold D.dps
      show max p.depth (PyData.depthAll ps) ≤ _
      omega
end
/-- good: plain with ints not too great, at most n wide, k deep -/
def Pq (n k : Nat) (d : D) : Prop := d.sm = true ∧ d.wd ≤ n ∧ d.dp ≤ k
def Lq (n k m : Nat) (ds : List D) : Prop := ds.length ≤ m ∧ ∀ d ∈ ds, Pq n k d
theorem Pq.mono {n k n' k' : Nat} {d : D} (h : Pq n k d) (a : n ≤ n') (b : k ≤ k') : Pq n' k' d := ⟨h.1, Nat.le_trans h.2.1 a, Nat.le_trans h.2.2 b⟩
theorem Lq.mono {n k m n' k' m' : Nat} {ds : List D} (h : Lq n k m ds) (a : n ≤ n') (b : k ≤ k') (c : m ≤ m') : Lq n' k' m' ds := ⟨Nat.le_trans h.1 c, fun d hd => (h.2 d hd).mono a b⟩
theorem wds_le {n : Nat} : ∀ {ds : List D}, (∀ d ∈ ds, d.wd ≤ n) → D.wds ds ≤ (n + 2) * ds.length
  | [], _ => by unfold D.wds; exact Nat.zero_le _
  | d :: r, h => by
    have h1 := h d (by simp)
    have h2 := wds_le (ds := r) fun z hz => h z (by simp [hz])
    unfold D.wds
    rw [List.length_cons, Nat.mul_succ]
    omega
theorem dps_le {k : Nat} : ∀ {ds : List D}, (∀ d ∈ ds, d.dp ≤ k) → D.dps ds ≤ k
  | [], _ => by unfold D.dps; exact Nat.zero_le _
  | d :: r, h => by
    have h1 := h d (by simp)
    have h2 := dps_le (ds := r) fun z hz => h z (by simp [hz])
    unfold D.dps
    omega
theorem Lq.wd {n k m : Nat} {ds : List D} (h : Lq n k m ds) : D.wds ds ≤ (n + 2) * m := Nat.le_trans (wds_le fun d hd => (h.2 d hd).2.1) (Nat.mul_le_mul_left _ h.1)
theorem Lq.tup {n k m : Nat} {ds : List D} (h : Lq n k m ds) : Pq (4 + (n + 2) * m) (k + 1) (.tup ds) := by
  refine ⟨by rw [sm_tup, List.all_eq_true]; exact fun d hd => (h.2 d hd).1, ?_, ?_⟩
  · unfold D.wd
    have := h.wd
    omega
  · unfold D.dp
    have := dps_le (ds := ds) (k := k) fun d hd => (h.2 d hd).2.2
    omega
theorem Lq.lst {n k m : Nat} {ds : List D} (h : Lq n k m ds) : Pq (4 + (n + 2) * m) (k + 1) (.lst ds) := by
  refine ⟨by rw [sm_lst, List.all_eq_true]; exact fun d hd => (h.2 d hd).1, ?_, ?_⟩
  · unfold D.wd
    have := h.wd
    omega
  · unfold D.dp
    have := dps_le (ds := ds) (k := k) fun d hd => (h.2 d hd).2.2
    omega
theorem Lq.nil {n k : Nat} : Lq n k 0 [] := ⟨Nat.le_refl _, fun _ h => by cases h⟩
theorem Lq.app {n k m l : Nat} {ds es : List D} (h : Lq n k m ds) (h' : Lq n k l es) : Lq n k (m + l) (ds ++ es) := ⟨by rw [List.length_append]; exact Nat.add_le_add h.1 h'.1, fun d hd => by
  rcases List.mem_append.mp hd with q | q
  · exact h.2 d q
  · exact h'.2 d q⟩
theorem Lq.one {n k : Nat} {d : D} (h : Pq n k d) : Lq n k 1 [d] := ⟨Nat.le_refl _, fun z hz => by rw [List.mem_singleton] at hz; rw [hz]; exact h⟩
theorem Lq.cons {n k m : Nat} {d : D} {ds : List D} (h : Pq n k d) (t : Lq n k m ds) : Lq n k (m + 1) (d :: ds) := ⟨by rw [List.length_cons]; exact Nat.succ_le_succ t.1, fun z hz => by
  rcases List.mem_cons.mp hz with rfl | q
  · exact h
  · exact t.2 z q⟩
theorem Lq.set {n k m : Nat} {d : D} {ds : List D} (i : Nat) (h : Lq n k m ds) (hd : Pq n k d) : Lq n k m (ds.set i d) := ⟨by rw [List.length_set]; exact h.1, fun z hz => by
  rcases List.mem_or_eq_of_mem_set hz with q | q
  · exact h.2 z q
  · rw [q]; exact hd⟩
theorem Lq.sub {n k m : Nat} {ds es : List D} (h : Lq n k m ds) (s : ∀ d ∈ es, d ∈ ds) (l : es.length ≤ m) : Lq n k m es := ⟨l, fun d hd => h.2 d (s d hd)⟩
theorem Pq.str {x : Str} {l : Nat} (h0 : ∀ c ∈ x.cps.toList, c < 0x110000) (hl : x.length ≤ l) : Pq (10 * l + 3) 0 (.str x) := by
  have h : ∀ c ∈ x.cps.toList, c < 16 ^ 8 := fun c hc => Nat.lt_trans (h0 c hc) (by decide)
  refine ⟨by
    rw [sm_str]
    unfold PySem.PyData.strOk
    rw [← Array.all_toList, List.all_eq_true]
    exact fun c hc => decide_eq_true (h0 c hc), ?_, by unfold D.dp; exact Nat.le_refl _⟩
  unfold D.wd
  have := PySem.StrLaws.reprText_len x h
  omega
theorem Pq.int {i : Int} (h : -(10 ^ 31) ≤ i ∧ i ≤ 10 ^ 31) : Pq 40 0 (.int i) := ⟨by simpa using h, by unfold D.wd; exact Nat.le_refl _, by unfold D.dp; exact Nat.le_refl _⟩
theorem Pq.non : Pq 5 0 .non := ⟨by simp, by unfold D.wd; exact Nat.le_refl _, by unfold D.dp; exact Nat.le_refl _⟩
theorem Pq.bl (b : Bool) : Pq 6 0 (.bl b) := ⟨by simp, by unfold D.wd; exact Nat.le_refl _, by unfold D.dp; exact Nat.le_refl _⟩
/-- what repr asks -/
theorem Pq.shown {n k : Nat} {d : D} (h : Pq n k d) (hn : n ≤ sizeLine) (hk : k ≤ 190) : ∃ p, d.py = some p ∧ p.showable = true ∧ p.shown.length ≤ sizeLine ∧ p.depth ≤ 190 := by
  obtain ⟨p, e, a, b, c⟩ := D.rp h.1
  exact ⟨p, e, a, Nat.le_trans (shown_sz p) (Nat.le_trans b (Nat.le_trans h.2.1 hn)), Nat.le_trans c (Nat.le_trans h.2.2 hk)⟩
end Dw
set_option Elab.async false
set_option linter.all false
set_option maxRecDepth 100000
set_option maxHeartbeats 4000000
/-! Rt: tuple(reversed(x)), x a tuple. -/
namespace Rt
open PySem PySem.Spec PyProof.Rows L2 RT
theorem short {n : Nat} (hn : n ≤ sizeLine) : Builtin.List.listTooLong ((n : Nat) : Int).toNat = false := decide_eq_false (Nat.not_lt.mpr hn)
section
variable {prog : Program} {w : World} {A : Around} {E : Value → Shared → Prop} {s : Shared}
end
/-- tuple(reversed(x)), x a tuple: a new tuple -/
def tTupRevT (K : PySem.W.Frag) (te : TE) : TE := fun σ H Q => te σ H fun v H1 => ∃ (a : Addr) (xs : List V), v = .ref a ∧ SqT K H1 a xs ∧ ∀ q, H1 q = none → Q (.ref q) (upd H1 q (.tup xs.reverse))
end Rt
set_option Elab.async false
set_option linter.all false
set_option maxRecDepth 100000
set_option maxHeartbeats 4000000
/-! Ru: tuple(reversed(tuple)) over data. -/
namespace Dw
open PySem PySem.Spec PyProof.Rows L2
section
variable {S : Type} {W : Wd S} {G : Gm S} {K : PySem.W.Frag}
@[simp] def wTupRev (wa : WE S) : WE S := fun env s k x => wa env s (fun d s1 => match d with
  | .tup ds => k (.tup ds.reverse) s1
  | _ => False) x
end
end Dw
set_option Elab.async false
set_option linter.all false
set_option maxRecDepth 100000
set_option maxHeartbeats 4000000
/-! Mk: an instance made, its __init__ promised where no repr is under way (Gl.Fn). -/
namespace Gl
open PySem PySem.Spec PyProof.Rows L2
theorem gd_make {A : Around} (h : A.guards = some []) (C : Addr) (us : List Value) (kw : List (Str × Value)) : (A.under (.builtin "type.__call__" ⟨.ref C :: us, kw⟩)).guards = some [] := by
  rw [← h]
  first | rfl | (simp [Around.under]; done) | kernel_rfl
section
variable {X : Cx} {k j : Nat} {f C : Addr} {fd : FuncData} {ps : List Str} {sp : Sp} {E : L2.St → XK} {x : Str} {p pos : Pos} {e : Expr} {es : List Expr} {t : TA}
/-- C(..) -/
def tMk (C : Addr) (sp : Sp) (E : L2.St → XK) (t : TA) : TE := fun σ H Q => t σ H fun vs H1 => ∀ a dx, H1 a = none → H1 dx = none → dx ≠ a →
  sp (.ref a :: vs) (upd (upd H1 dx (.own a)) a (.ins C dx [])) (fun v H2 => v = .non ∧ Q (.ref a) H2) (E σ)
theorem run_mk {pins : List (Addr × Obj)} {σ : L2.St} {H : Hp} {s : Shared} {Q : VK} {us : List Value} {vs : List V} {E' : XK} (M : Mk X.K C f) (F : Fn X.prog X.w X.K X.mg X.base k f fd ps sp) (hr : Room (k + 1) X.A) (hG : X.A.guards = some []) (hb : Binds X.K fd ps [])
    (hx : PassesAt (L2.CX X.prog X.w) X σ E') (I : Inv X pins σ H s) (r : Vals vs us)
    (h : ∀ a dx, H a = none → H dx = none → dx ≠ a → sp (.ref a :: vs) (upd (upd H dx (.own a)) a (.ins C dx [])) (fun v H2 => v = .non ∧ Q (.ref a) H2) E') :
    wpAny (model X.prog X.w) X.A (call (.ref C) us) (EP X pins σ Q) X.xe s := by
  have hq := h (s.heap.objs.size + 1) s.heap.objs.size (I.hok.fresh (Nat.le_succ _)) (I.hok.fresh (Nat.le_refl _)) (Nat.ne_of_lt (Nat.lt_succ_self _))
  have I2 := Inv.made (C := C) I
  have r2 : Vals (V.ref (s.heap.objs.size + 1) :: vs) (Value.ref (s.heap.objs.size + 1) :: us) := .cons rfl r
  have hl : (Value.ref (s.heap.objs.size + 1) :: us ++ []).length = ps.length := by
    have e := r2.length
    rw [F.many _ _ _ _ hq] at e
    rw [List.append_nil]
    exact e.symm
  have b := hb _ (Value.ref (s.heap.objs.size + 1) :: us) I2.kIn hl
  rw [List.append_nil] at b
  refine wpAny_call (make_map (f := f) I.kIn M.makes M.init (beq_iff_eq.mp M.fn) (codeAny_mono (F.go _ X.stack _ _ ⟨Value.ref (s.heap.objs.size + 1) :: us, []⟩ (Value.ref (s.heap.objs.size + 1) :: us) _ _ E' (hr.make C us [])
    (gd_make hG C us []) (I2.env0.make C us []) b r2 hq) fun r s' hq' => ?_))
  cases r with
  | error e => exact hx pins _ _ e s' I2 hq'
  | ok fl =>
    cases fl with
    | ret u =>
      obtain ⟨v, H', I3, rv, ev, q3⟩ := I2.after hq'
      subst ev
      exact ⟨rv, ⟨V.ref (s.heap.objs.size + 1), H', I3, rfl, q3⟩⟩
    | next => exact False.elim hq'
    | brk => exact False.elim hq'
    | cont => exact False.elim hq'
end
end Gl
set_option Elab.async false
set_option linter.all false
set_option maxRecDepth 100000
set_option maxHeartbeats 4000000
/-! Xr: an own error that keeps its part, raised. -/
namespace L2
open PySem PySem.Spec PyProof.Rows
section
variable {X : Cx}
/-- raise C(e) -/
def tRaE (C : Addr) (fld : Str) (te : TE) : L2.St → Hp → XK → Prop := fun σ H Q => te σ H fun v H1 => ∀ d, H1 d = none → Q (.ref C) (some d) (upd H1 d (.xd [(fld, v)]))
theorem pmk_mkE {x : Str} {a : Expr} {te : TE} {p pos : Pos} {k : Nat} {C : Addr} {fld : Str} (T : Ex.BadC X.prog X.K C fld) (hR : Raises X (.ref C)) (hm : X.mg x = some (.ref C)) (hs : X.mg "super" = none) (hr : Room k X.A) (hk : 2 ≤ k) (ha : PE X a te) (hg : Gl X x)
    (hd : (x == ("__debug__" : Str)) = false := by decide) (he : starEach (a :: []) X.env = (false, eval a X.env) :: starEach [] X.env := by rfl) (hpl : (backTo pos (starEach [] X.env)).any (·.1) = false := by rfl) :
    PMk X (.Call (.Name x p) [a] [] pos) (tRaE C fld te) := by
  intro pins s σ H Q I h
  refine wpAny_Call_Name_kw (ld_glob I hg hm ?_ hd)
  refine PySem.W.callWith_K (h₀ := X.base) I.ok.mod.kin T.kC ?_ he hpl
  rw [he]
  show wpAny _ _ (spliced ((false, eval a X.env) :: backTo pos (starEach [] X.env))) _ _ s
  refine Calls.spliced_cons (thn (ha.run pins s σ H _ I h) fun u s1 ⟨v, H1, I1, r1, q1⟩ => ?_)
  refine Calls.spliced_nil ⟨I1.kIn, ?_⟩
  show wpAny _ _ (call (.ref C) [u]) _ _ _
  have hlim := I1.nolimit
  have E0 := I1.env0
  obtain ⟨hp, g, dr, tk, os⟩ := s1
  obtain ⟨mb, hb, hbb⟩ := E0.mod.blt
  refine wpAny_call (Ex.bad_made T I1.kIn (E0.mod.glob.keeps fun b o q => (E0.bs b o q).1) hs (hb.keeps fun b o q => (E0.bs b o q).1) ((hbb "super" (by decide)).trans rfl) hlim (by have := hr.dp; omega) fun h' tk' e d M => ?_)
  obtain ⟨t1, hoe⟩ := M.obj
  have hns := M.ns
  obtain ⟨G', g1, g2⟩ := restrict h' fun b => decide (b ≠ e)
  have gk : ∀ b, b ≠ e → G'.get? b = h'.get? b := fun b hb => g1 b (decide_eq_true hb)
  have ge : G'.get? e = none := g2 e (by simp)
  have old : ∀ b o, hp.get? b = some o → G'.get? b = some o := fun b o q => (gk b (Nat.ne_of_lt (Nat.lt_of_lt_of_le (Heap.lt_size q) M.new))).trans (M.keep b o q)
  have ob : ObjOk X.prog X.w (upd H1 d (.xd [(fld, v)])) G' d (.xd [(fld, v)]) :=
    ⟨_, hns.at (fun o q => (gk d M.dne).trans q), fun f => relO_one r1 f⟩
  have J : Inv X pins σ (upd H1 d (.xd [(fld, v)])) ⟨G', g, dr, tk', os⟩ := I1.laid (t' := tk') old M.dbig ob
  have hd1 : H1 d = none := I1.hok.fresh M.dbig
  have he1 : H1 e = none := I1.hok.fresh M.new
  have he2 : upd H1 d (.xd [(fld, v)]) e = none := by rw [upd_ne (Ne.symm M.dne)]; exact he1
  have kk : ∀ b u, G'.get? b = some u → h'.get? b = some u := fun b u q => by
    by_cases hb : b = e
    · rw [hb, ge] at q; cases q
    · rw [← gk b hb]; exact q
  exact ⟨e, _, _, _, _, .ref C, some d, rfl, J, kk, ge, hoe, ⟨rfl, rfl⟩, rfl, rfl, he2, rfl, J.bare, hR, q1 d hd1⟩
end
end L2
namespace Dw
open PySem PySem.Spec PyProof.Rows L2
section
variable {S : Type} {W : Wd S} {G : Gm S}
@[simp] def wRaise (C : Addr) (fld : Str) (we : WE S) : WS S := fun KK env s => we env s (fun d s1 => KK.xc ⟨C, [(fld, d)]⟩ s1) KK.xc
theorem ss_raise {C : Addr} {fld : Str} {te : TE} {we : WE S} (he : SimE W G te we) : SimS W G (fun _ σ H => tRaE C fld te σ H fun cls d H' => G.E cls d H') (wRaise C fld we) := fun R env σ H s rl KK hw Dn e => by
  refine he R env σ H s rl _ KK.xc hw e.xc _ fun d s1 v H1 hw1 f1 j1 a1 => fun p hp => ?_
  have rl1 := rl.step f1 j1
  have at1 := rl1.at_
  have sub : ∀ a, Bf W G.R0 s1 a → Bf W R s1 a := fun a z => z.imp (rl1.r0 a) id
  refine e.xc ⟨C, [(fld, d)]⟩ s1 _ _ _ hw1 (rl1.fr.trans (.new_at hp at1)) (at1.new_at hp).j ⟨rfl, .inr ⟨p, _, rfl, upd_same, fun z => at1.fresh hp (sub p z), ?_⟩⟩
  exact .cons ((a1.mv (Fr.new_at hp at1).mv).imp sub) .nil
end
end Dw
set_option Elab.async false
set_option linter.all false
set_option maxRecDepth 100000
set_option maxHeartbeats 4000000
/-! Mw: instances made, over data: what an __init__ promises (spIni), the word of C(..). -/
namespace Dw
open PySem PySem.Spec PyProof.Rows L2
section
variable {S : Type}
/-- an __init__: wf says (as of a def) what instance comes of it -/
def spIni (W : Wd S) (C : Addr) (wf : List D → S → (D → S → Prop) → (Xc → S → Prop) → Prop) : Sp := fun vs H Q E => ∃ (R : Addr → Prop) (s : S) (k : D → S → Prop) (x : Xc → S → Prop) (a dx : Addr) (vs0 : List V) (ds : List D),
  vs = .ref a :: vs0 ∧ H a = some (.ins C dx []) ∧ R a ∧ At W R s H ∧ DaL (Bf W R s) H vs0 ds ∧ wf ds s k x ∧
  (∀ fs s' vF H', k (.obj C fs) s' → Fr W s H s' H' → W.J s' H' → DaF (Bf W R s') H' vF fs → Q .non (upd H' a (.ins C dx vF))) ∧
  ∀ c s' cls d H', x c s' → Fr W s H s' H' → W.J s' H' → XcR (Bf W R s') H' c cls d → E cls d H'
variable {W : Wd S} {G : Gm S}
end
end Dw
set_option Elab.async false
set_option linter.all false
set_option maxRecDepth 100000
set_option maxHeartbeats 4000000
/-! Ty: try .. except C as n, with more clauses behind it that are never asked: each exception of the body is a C. -/
namespace L2
open PySem PySem.Spec PyProof.Rows
/-- what the first clause wishes: it takes the exception for certain -/
def wAsR (K : PySem.W.Frag) (c : Value) (i : Nat) (ts : Addr → Value → Option Addr → TS) (D : Ends) : WX := fun cls d σ H =>
  PySem.W.exmOne K cls c = some true ∧ ∀ a, H a = none → ts a cls d { nx := fun σ' H' => D.nx (σ'.set i none) H', rt := D.rt, bk := fun σ' H' => D.bk (σ'.set i none) H', ct := fun σ' H' => D.ct (σ'.set i none) H' } (σ.set i (some (.ref a))) H
section
variable {X : Cx} {x n : Str} {c : Value} {i : Nat} {body suite : List Stmt} {b₀ : Stmt} {np pos pos' : Pos} {tb : WX → TS} {ts : Addr → Value → Option Addr → TS} {rest : List ExceptHandler}
theorem ps_try_asR (hs : X.stack = X.env :: X.outer) (hf : X.env.frame = some X.env.locals) (hN : X.N.Nodup) (hi : X.N[i]? = some n) (hln : X.env.kindOf n = some .local) (hc : Names X x c)
    (hb : ∀ (W : WX) (pn : List (Addr × Obj)) (xe : Value → Shared → Prop), Takes (X.tr pn xe) W → PassesOwn (model X.prog X.w) X.A X.env xe → PSs (X.tr pn xe) body (tb W))
    (hsu : ∀ (a : Addr) (oe : Obj) (cls : Value) (d : Option Addr) (pn : List (Addr × Obj)), Zc cls d oe → (∃ vs, oe.data = .fields vs) → PSs (X.suite a ((a, oe) :: pn)) (b₀ :: suite) (ts a cls d)) :
    PS X (.Try body (.ExceptHandler (some (.Name x np)) (some n) (b₀ :: suite) pos' :: rest) [] [] pos) (fun D σ H => tb (wAsR X.K c i ts D) D σ H) := by
  refine ⟨fun pins s σ H D I h => ?_⟩
  have ok := I.ok
  have hfr : X.A.frames = some (X.env :: X.outer) := by rw [ok.frames, hs]
  have hloc : Loc X.env.scope n := .inl hln
  refine wpAny_Try_except ?_
  refine wpAny_mono ((hb (wAsR X.K c i ts D) (X.pn ++ pins) (fun e s₁ => wpAny (model X.prog X.w) X.A (noteFrame e X.env) (fun _ s₂ => wpAny (model X.prog X.w) X.A (setFlight e none) (fun _ s₃ =>
    wpAny (model X.prog X.w) X.A (handleBy e X.env (.ExceptHandler (some (.Name x np)) (some n) (b₀ :: suite) pos' :: rest)) (SP X pins D) X.xe s₃) X.xe s₂) X.xe s₁) (fun u s' xx => ?_) PassesOwn.looking).run [] s σ H D (I.toTry _) h) (fun f s1 hsp => ?_) (fun e s1 he => he)
  · obtain ⟨a, B, sI, pins', σ', H', cls, d, rfl, J', nb, up, sky, na, os, ag, hb1, hyes⟩ := xx
    have J : Inv X pins σ' H' sI := J'.ofTry ok
    have sky' : Sky B (X.env :: X.outer) a (Zc cls d) X.env.locals s'.heap := by rw [← hs]; exact sky
    show wpAny (model X.prog X.w) X.A (noteFrame (.ref a) X.env) _ _ _
    refine Sky.land Zc.steady hfr hf sky' fun h3 fl3 up3 => ?_
    have J3 : Inv X pins σ' H' { s' with heap := h3 } := J.landed nb fl3.1 (up.trans up3) os ag
    obtain ⟨oe3, vs3, he3, hz3, hd3⟩ := fl3.there
    have nfr : a ∉ frs (X.env :: X.outer) := fun hm => by
      obtain ⟨_, o', e', hnf⟩ := fl3.2.2.1.mem hm
      rw [he3] at e'; cases e'
      exact hnf _ hd3
    have nL : a ≠ X.env.locals := fun z => nfr (List.mem_filterMap.mpr ⟨X.env, List.mem_cons_self, by rw [hf, z]⟩)
    have nF : a ∉ X.fs := fun hm => by
      obtain ⟨e, he, q⟩ := List.mem_filterMap.mp hm
      exact nfr (List.mem_filterMap.mpr ⟨e, List.mem_cons_of_mem _ he, q⟩)
    have S3 := J3.suite he3 hd3 na nL nF
    refine wpAny_handleBy_cons (codeAny_handlers_test ?_) (by intro q; cases q)
    have LT : PySem.W.Looks (model X.prog X.w) h3 (typeOf (.ref a)) cls := fun A Q E s k q => wpAny_typeOf_ref (k _ _ he3) (by rw [hz3.1]; exact q)
    have LM := PySem.W.exm_one (M := model X.prog X.w) (J3.kIn) LT hb1
    have test : ∀ {Q : Value → Shared → Prop} {E : Value → Shared → Prop}, Q c { s' with heap := h3 } → wpAny (model X.prog X.w) (X.A.mark (some (.ref a))) (eval (.Name x np) X.env) Q E { s' with heap := h3 } := fun {Q E} q => by
      obtain ⟨hg, hdbg, hm | ⟨hm, hv, hnn⟩⟩ := hc
      · exact ld_glob (X := X.suite a ((a, oe3) :: (X.pn ++ pins))) S3 hg hm q hdbg
      · exact ld_blt (X := X.suite a ((a, oe3) :: (X.pn ++ pins))) S3 hg hm hv q hnn hdbg
    refine test (LM.here ?_)
    refine codeAny_handlers_suite_as ?_
    refine HandSPX.lands_againZ fl3 fun h4 fl4 up4 => ?_
    have J4 : Inv X pins σ' H' { s' with heap := h4 } := J.landed nb fl4.1 ((up.trans up3).trans up4) os ag
    obtain ⟨oe4, vs4, he4, hz4, hd4⟩ := fl4.there
    have S4 := J4.suite he4 hd4 na nL nF
    refine store_ok (X := X.suite a ((a, oe4) :: (X.pn ++ pins))) (v := .ref a) S4 hN hi hloc rfl (fun s5 S5 => ?_) (.inr hln)
    refine wpAny_mono ((hsu a oe4 cls d (X.pn ++ pins) hz4 ⟨_, hd4⟩).run [] s5 _ H' _ S5 (hyes a na)) (fun f s6 hsp => ?_) (fun _ _ z => False.elim z)
    have end_ : ∀ {σ6 : L2.St} {H6 : Hp} {Q : Shared → Prop}, Inv (X.suite a ((a, oe4) :: (X.pn ++ pins))) [] σ6 H6 s6 → (∀ s7, Inv X pins (σ6.set i none) H6 s7 → Q s7) →
        wpAny (model X.prog X.w) X.A (do bindName X.env n .none; unbindBehindTheSuite X.env n pos') (fun _ s7 => Q s7) X.xe s6 := fun {σ6 H6 Q} S6 hq => gone_ok (S6.unsuite ok) hN hi hln hq
    cases f with
    | next =>
      obtain ⟨σ6, H6, S6, q6⟩ := hsp
      exact end_ S6 fun s7 J7 => ⟨_, _, J7, q6⟩
    | brk =>
      obtain ⟨σ6, H6, S6, q6⟩ := hsp
      exact end_ S6 fun s7 J7 => ⟨_, _, J7, q6⟩
    | cont =>
      obtain ⟨σ6, H6, S6, q6⟩ := hsp
      exact end_ S6 fun s7 J7 => ⟨_, _, J7, q6⟩
    | ret u =>
      obtain ⟨v6, σ6, H6, S6, r6, q6⟩ := hsp
      exact end_ S6 fun s7 J7 => ⟨_, _, _, J7, r6, q6⟩
  · cases f with
    | next =>
      obtain ⟨σ', H', J', q⟩ := hsp
      exact wpAny_execs_nil ⟨σ', H', J'.ofTry ok, q⟩
    | brk =>
      obtain ⟨σ', H', J', q⟩ := hsp
      exact ⟨σ', H', J'.ofTry ok, q⟩
    | cont =>
      obtain ⟨σ', H', J', q⟩ := hsp
      exact ⟨σ', H', J'.ofTry ok, q⟩
    | ret u =>
      obtain ⟨v, σ', H', J', r, q⟩ := hsp
      exact ⟨v, σ', H', J'.ofTry ok, r, q⟩
end
end L2
set_option Elab.async false
set_option linter.all false
set_option maxRecDepth 100000
set_option maxHeartbeats 4000000
/-! Eo: x == y, x an instance whose class has an own __eq__, y such an instance or a tuple. -/
namespace Gl
open PySem PySem.Spec PyProof.Rows L2
def rEqO (K : PySem.W.Frag) (C : Addr) (sp : Sp) (E : XK) : R2 := fun x y H Q => ∃ a dx fs, x = .ref a ∧ H a = some (.ins C dx fs) ∧ (∃ b, y = .ref b ∧ ((∃ dy gs, H b = some (.ins C dy gs)) ∨ ∃ ys, SqT K H b ys)) ∧ sp [x, y] H (fun v H' => ∃ k, v = .bl k ∧ Q v H') E
section
variable {X : Cx} {n : Nat}
end
end Gl
set_option Elab.async false
set_option linter.all false
set_option maxRecDepth 100000
set_option maxHeartbeats 4000000
/-! Iw: over data: isinstance against an own class; == of an own class. -/
namespace Dw
open PySem PySem.Spec PyProof.Rows L2
structure InC (K : PySem.W.Frag) (C : Addr) : Prop where
  c : C8.InsC K C
  tup : PySem.W.kitOne K (.type "tuple") (.ref C) = some false
section
variable {S : Type} {W : Wd S} {G : Gm S} {K : PySem.W.Frag}
@[simp] def wIsiC (C : Addr) : List D → S → (D → S → Prop) → Prop := fun ds s k => match ds with
  | [.obj C' _, .opq c] => C' = C ∧ c = C ∧ k (.bl true) s
  | [.tup _, .opq c] => c = C ∧ k (.bl false) s
  | _ => False
@[simp] def wEqO (C : Addr) (wf : List D → S → (D → S → Prop) → (Xc → S → Prop) → Prop) : D → D → S → (D → S → Prop) → Prop := fun d e s k => match d, e with
  | .obj C' fs, .obj C'' gs => C' = C ∧ C'' = C ∧ wf [.obj C' fs, .obj C'' gs] s (fun r s' => s' = s ∧ (∃ b, r = .bl b) ∧ k r s) fun _ _ => False
  | .obj C' fs, .tup es => C' = C ∧ wf [.obj C' fs, .tup es] s (fun r s' => s' = s ∧ (∃ b, r = .bl b) ∧ k r s) fun _ _ => False
  | _, _ => False
end
end Dw
set_option Elab.async false
set_option linter.all false
set_option maxRecDepth 100000
set_option maxHeartbeats 4000000
/-! Tw: over data: try .. except C as n (Ty's ps_try_asR); in the suite n.field, isinstance(n, C). -/
namespace L2
open PySem PySem.Spec PyProof.Rows
/-- isinstance(e, c), e the exception with fields that the suite holds -/
def rIsF (K : PySem.W.Frag) (a : Addr) (cls : Value) (d : Option Addr) : List V → Hp → VK → Prop := fun xs H Q => ∃ (D dd : Addr) (fs : List (Str × V)) (c : V) (cv : Value) (b : Bool), cls = .ref D ∧ ExcC K D ∧ d = some dd ∧ H dd = some (.xd fs) ∧ xs = [.ref a, c] ∧ (∀ u, RelV c u → u = cv) ∧ PySem.W.kitOne K (.ref D) cv = some b ∧ Q (.bl b) H
end L2
namespace Dw
open PySem PySem.Spec PyProof.Rows L2
def scD : D → Bool
  | .non => true
  | .bl _ => true
  | .int _ => true
  | .str _ => true
  | _ => false
theorem Da.sc {B B' : Addr → Prop} {H H' : Hp} {v : V} {d : D} (a : Da B H v d) (h : scD d = true) : Da B' H' v d := by
  cases a with
  | non => exact .non
  | bl b => exact .bl b
  | int i => exact .int i
  | str hs => exact .str hs
  | _ => cases h
section
variable {S : Type} {W : Wd S} {G : Gm S} {K : PySem.W.Frag} {R : Addr → Prop} {env : List Sl} {σ : L2.St} {H : Hp} {s : S}
theorem Rel.un {R' : Addr → Prop} {env' : List Sl} {σ' : L2.St} {H' : Hp} {s' : S} {E : XK} (r : Rel W G R env σ H s) (r2 : Rel W ⟨H, s, G.R0, E⟩ R' env' σ' H' s') : Rel W G R' env' σ' H' s' :=
  ⟨r2.at_, r.fr.trans r2.fr, r2.r0, r.z0, ⟨r2.env.len, r2.env.dat, fun i q => by obtain ⟨p, h1, h2, h3, h4⟩ := r2.env.own i q; exact ⟨p, h1, h2, r.new0 h3, h4⟩, r2.env.uniq⟩⟩
/-- the exception that a suite was entered with -/
structure XF (W : Wd S) (G : Gm S) (xc : Xc) (cls : Value) (d : Option Addr) : Prop where
  cls : cls = .ref xc.C
  at_ : (xc.fs = [] ∧ d = none) ∨ ∃ dd xs, d = some dd ∧ G.H0 dd = some (.xd xs) ∧ ¬ W.C G.s0 dd ∧ DaF (Bf W G.R0 G.s0) G.H0 xs xc.fs
@[simp] def wTryAs (K : PySem.W.Frag) (c : Value) (i i0 : Nat) (we : WE S) (wr : WS S) (wh : Addr → Xc → WS S) : WS S := fun KK env s => (∀ j, (sg env j).isO = false) ∧
  we env s (fun d s1 => wr KK (ss env i0 (.dat d)) s1) (fun xc s1 => PySem.W.exmOne K (.ref xc.C) c = some true ∧
    ∀ a, wh a xc { KK with nx := fun e t => KK.nx (ss e i .no) t, bk := fun e t => KK.bk (ss e i .no) t, ct := fun e t => KK.ct (ss e i .no) t } (ss env i (.dat (.opq a))) s1)
@[simp] def wXf (i : Nat) (a : Addr) (xc : Xc) (C : Addr) (f : Str) : WE S := fun env s k _ => sg env i = .dat (.opq a) ∧ xc.C = C ∧ ∃ d, xc.fs.lookup f = some d ∧ scD d = true ∧ k d s
@[simp] def wIsF (K : PySem.W.Frag) (a : Addr) (xc : Xc) (wa : WA S) : WE S := fun env s k x => xc.fs ≠ [] ∧ ExcC K xc.C ∧ wa env s (fun ds s1 => match ds with
  | [.opq e, .opq c] => e = a ∧ ∃ b, PySem.W.kitOne K (.ref xc.C) (.ref c) = some b ∧ k (.bl b) s1
  | [.opq e, .ty n] => e = a ∧ ∃ b, PySem.W.kitOne K (.ref xc.C) (.type n) = some b ∧ k (.bl b) s1
  | _ => False) x
end
end Dw
set_option Elab.async false
set_option linter.all false
set_option maxRecDepth 100000
set_option maxHeartbeats 4000000
/-! Mc: an own class with its __init__, its __eq__, packed. -/
namespace Gl
open PySem PySem.Spec PyProof.Rows L2
/-- C(..) by the name x -/
structure Cm (P : Program) (w : World) (K : PySem.W.Frag) (mg : Str → Option Value) (base : Heap) (n : Nat) (x : Str) (C : Addr) (sp : Sp) : Prop where
  ex : ∃ (f : Addr) (fd : FuncData) (ps : List Str), Mk K C f ∧ Fn P w K mg base n f fd ps sp ∧ Binds K fd ps []
  mgx : mg x = some (.ref C)
/-- x == y of the class C -/
structure Ce (P : Program) (w : World) (K : PySem.W.Frag) (mg : Str → Option Value) (base : Heap) (n : Nat) (C : Addr) (sp : Sp) : Prop where
  ex : ∃ (f : Addr) (fd : FuncData) (ps : List Str), Fn P w K mg base n f fd ps sp ∧ PySem.W.findIn K (.ref C) "__eq__" = some (some (.ref f)) ∧ PySem.W.isFn K (.ref f) = true ∧ Binds K fd ps []
  sub : PySem.W.subIn K (.type "tuple") (.ref C) = some false
section
variable {X : Cx} {k j : Nat} {C : Addr} {sp : Sp} {E : L2.St → XK} {x : Str} {p pos : Pos} {e : Expr} {es : List Expr} {t : TA}
end
end Gl
namespace L2
open PySem PySem.Spec PyProof.Rows
section
variable {X : Cx} {K : PySem.W.Frag}
theorem kFld {e : Expr} {te : TE} {pos : Pos} {n : Str} (he : PE X e te) (hb : attributeBase e n X.env (eval e X.env) = eval e X.env) (e' : X.K = K := by rfl) : PE X (.Attribute e n pos) (tFld K te n) := e' ▸ pe_fld he hb
end
end L2
namespace Dw
open PySem PySem.Spec PyProof.Rows L2
section
variable {S : Type} {W : Wd S} {G : Gm S}
end
end Dw
set_option Elab.async false
set_option linter.all false
set_option maxRecDepth 100000
set_option maxHeartbeats 4000000
/-! Lb: the drawing's box made of the script; the law's body behind it, over data. -/
namespace Dw
open PySem PySem.Spec PyProof.Rows L2
def boxOf (p c : Addr) (ns : List Int) : Box := ⟨p, c, ns, 0, 0, 0, false, 0⟩
def boxH (H : Hp) (p c : Addr) (ns : List Int) : Hp := upd (upd (upd H p (.dK [])) c (.lst (ns.map V.int))) p (.dK (boxOf p c ns).kvs)
def spBox (K : PySem.W.Frag) : Sp := fun vs H Q _ => ∃ (a : Addr) (ns : List Int), vs = [.ref a] ∧ SqL K H a (ns.map V.int) ∧ ∀ p c, H p = none → H c = none → c ≠ p → Q (.ref p) (boxH H p c ns)
abbrev trsBox (K : PySem.W.Frag) : List (TE × TE) := [(tC (.str "cells"), tCB (Rd.rListOf K) (tCons (tVar 0) tNil)), (tC (.str "at"), tC (.int 0)), (tC (.str "rest"), tC (.int 0)), (tC (.str "many"), tC (.int 0)), (tC (.str "great"), tC (.bl false)), (tC (.str "all"), tC (.int 0))]
end Dw
set_option Elab.async false
set_option linter.all false
set_option maxRecDepth 100000
set_option maxHeartbeats 8000000
/-! an own error's class, told by one look -/
namespace Ex
open PySem PySem.W PySem.Calls PyProof.Rows PySem.HandSPX
theorem ba {a b : Bool} (h : (a && b) = true) : a = true ∧ b = true := Bool.and_eq_true_iff.mp h
def clsB (K : Frag) (C : Addr) : Bool := match K.lookup C with
  | some ⟨.type "type", _, .cls cd, sl⟩ => (match cd.mro, sl.toList with
    | .ref C' :: bm, [_, _, _, _, some (.builtin n), _] => C' == C && n == "ValueError.__new__" && !cd.hasDel && cd.hasDict && refsVE bm
    | _, _ => false)
  | _ => false
theorem clsB_ok {K : Frag} {C : Addr} (q : clsB K C = true) : ∃ nm q N bs bm sn sub ab col dd k0 k1 k2 k3 k5, K.lookup C = some (excClassObj nm q C N bs bm true sn sub ab col dd k0 k1 k2 k3 k5 "ValueError.__new__") ∧ refsVE bm = true := by
  unfold clsB at q
  split at q
  · rename_i dd cd sl ho
    split at q
    · rename_i C' bm k0 k1 k2 k3 n k5 hm hs
      simp only [Bool.and_eq_true, beq_iff_eq, Bool.not_eq_true'] at q
      obtain ⟨⟨⟨⟨rfl, rfl⟩, hdel⟩, hdd⟩, hv⟩ := q
      obtain ⟨nm, bs, mro, ns, qn, hd, sn, sub, ab, col, del⟩ := cd
      dsimp only at hm hdel hdd
      subst hm hdel hdd
      have hsl : sl = #[k0, k1, k2, k3, some (.builtin "ValueError.__new__"), k5] := by
        obtain ⟨l⟩ := sl
        simp only at hs
        rw [hs]
      subst hsl
      exact ⟨nm, qn, ns, bs, bm, sn, sub, ab, col, dd, k0, k1, k2, k3, k5, ho, hv⟩
    · cases q
  · cases q
/-- the making's cell and code -/
def iniB (file : Str) (K : Frag) (C : Addr) (fd : FuncData) : Bool := codeIn K fd.code fd.qualname && ((match fd.defaults with
    | .none => true
    | _ => false) && ((match fd.closure with
    | [(_, cc)] => (match K.lookup cc with
      | some ⟨_, _, .cell (some (.ref D)), _⟩ => D == C
      | _ => false)
    | _ => false) && (match fd.code with
    | .ref cda => (match K.lookup cda with
      | some ⟨_, _, .fields vs, _⟩ => (match (vs[2]? : Option Value) with
        | some (.str f _) => file == f
        | _ => false)
      | _ => false)
    | _ => false)))
def badB (file : Str) (K : Frag) (C : Addr) (f : Str) : Bool := clsB K C && (decide (findIn K (.ref C) "__setattr__" = some (some (.builtin "object.__setattr__"))) && (decide (findIn K (.ref C) f = some none) && (keepIn K (.ref C) &&
  (decide (subIn K (.ref C) (.type "BaseException") = some true) && (decide (typeIn K (.ref C) = some (.type "type")) && (decide (subIn K (.ref C) (.type "ValueError") = some true) && (decide (mroIn K C (.ref C) = some true) &&
  (decide (ks_superIn K C C "__init__" = some (some (.builtin "ValueError.__init__"))) && (decide (nsIn K cStatics "thirdparty.any" = some none) && (decide (findIn K (.ref C) "__init__" = some (some (.ref (He.ma K C "__init__")))) &&
  (decide (typeIn K (.ref (He.ma K C "__init__")) = some (.type "function")) && (match K.lookup (He.ma K C "__init__") with
    | some ⟨_, _, .func fd, _⟩ => iniB file K C fd
    | _ => false))))))))))))
abbrev FnM : Type := Option (Str × Str × Arguments × FuncBody × Scope × Addr × List Str × Addr)
def obsM (K : Frag) (x : Str) : FnM := match K.lookup (He.ma K (He.ga K x) "__init__") with
  | some ⟨_, _, .func fd, _⟩ => some (fd.name, fd.qualname, fd.params, fd.body, fd.scope, fd.globals, fd.closure.map (·.1), fd.builtins)
  | _ => none
def valM (q : Str) (st : Stmt) : FnM := some ("__init__", q, L2.defArgs st, .stmts (L2.defBody st), L2.defScope st, mainGlobals, ["__class__"], builtinsNs)
theorem badC_of {P : Program} {K : Frag} {x f q : Str} {st : Stmt} (b : badB P.main.file K (He.ga K x) f = true) (o : obsM K x = valM q st) {p1 p2 q0 q1 q2 q3 q4 q5 q6 q7 q8 q9 : Pos}
    (ha : L2.defArgs st = iA f p1 p2) (hb : L2.defBody st = iB f q0 q1 q2 q3 q4 q5 q6 q7 q8 q9) (hs : L2.defScope st = iS f) (top : (P.main.scope.names.lookup ("super" : Str)).isSome = false)
    (f1 : (f == ("self" : Str)) = false) (f2 : (f == ("__class__" : Str)) = false) (f3 : (f == ("super" : Str)) = false) (f4 : (f == ("__debug__" : Str)) = false)
    (hmc : ∀ env : Env, ∃ pl : Sem Bool, eval (.Call (.Attribute (.Call (.Name "super" q0) [] [] q1) "__init__" q2) [.Name f q3] [] q4) env = (do
      let ov ← attributeBase (.Call (.Name "super" q0) [] [] q1) "__init__" env (eval (.Call (.Name "super" q0) [] [] q1) env)
      standAt q2.atName
      let (m, first) ← holding [ov] (getMethod ov "__init__" pl)
      callWith q4 m first (backTo q4 (starEach [.Name f q3] env)) []))
    (hbind : ∀ (kV doc pm ct cdv : Value) (an : Option Addr) (cc : Addr) (s : Shared) (x v : Value), BindsTo s (ksFn "__init__" q (iA f p1 p2) (iB f q0 q1 q2 q3 q4 q5 q6 q7 q8 q9) (iS f) .none kV doc pm an cdv ct cc) ⟨[x, v], []⟩ [("self", x), (f, v)]) :
    BadC P K (He.ga K x) f := by
  obtain ⟨b1, b⟩ := ba b
  obtain ⟨b2, b⟩ := ba b
  obtain ⟨b3, b⟩ := ba b
  obtain ⟨b4, b⟩ := ba b
  obtain ⟨b5, b⟩ := ba b
  obtain ⟨b6, b⟩ := ba b
  obtain ⟨b7, b⟩ := ba b
  obtain ⟨b8, b⟩ := ba b
  obtain ⟨b9, b⟩ := ba b
  obtain ⟨b10, b⟩ := ba b
  obtain ⟨b11, b⟩ := ba b
  obtain ⟨b12, b⟩ := ba b
  refine ⟨clsB_ok b1, of_decide_eq_true b2, of_decide_eq_true b3, b4, of_decide_eq_true b5, of_decide_eq_true b6, of_decide_eq_true b7, of_decide_eq_true b8, of_decide_eq_true b9, of_decide_eq_true b10, top, f1, f2, f3, f4, ?_⟩
  unfold obsM at o
  cases e : K.lookup (He.ma K (He.ga K x) "__init__") with
  | none =>
    rw [e] at b
    cases b
  | some ob =>
    obtain ⟨oc, od, dt, osl⟩ := ob
    rw [e] at b o
    cases dt with
    | func fd =>
      obtain ⟨n1, n2, n3, n4, n5, n6, cl, n8, n9, n10, n11, n12, n13, n14, n15⟩ := fd
      have e2 : (some (n1, n2, n3, n4, n5, n6, cl.map (·.1), n15) : FnM) = some (("__init__" : Str), q, L2.defArgs st, FuncBody.stmts (L2.defBody st), L2.defScope st, mainGlobals, [("__class__" : Str)], builtinsNs) := o
      simp only [Option.some.injEq, Prod.mk.injEq] at e2
      obtain ⟨h1, h2, h3, h4, h5, h6, h7, h8⟩ := e2
      rw [ha] at h3
      rw [hb] at h4
      rw [hs] at h5
      subst h1 h2 h3 h4 h5 h6 h8
      have b' : iniB P.main.file K (He.ga K x) _ = true := b
      unfold iniB at b'
      obtain ⟨c1, b'⟩ := ba b'
      obtain ⟨c2, b'⟩ := ba b'
      obtain ⟨c3, c4⟩ := ba b'
      dsimp only at c1 c2 c3 c4
      cases n8 with
      | none =>
        match cl, h7, c3 with
        | [(y, cc)], h7, c3 =>
          have hy : y = "__class__" := by simpa using h7
          subst hy
          cases ec : K.lookup cc with
          | none =>
            simp only [ec] at c3
            cases c3
          | some oc' =>
            obtain ⟨cl1, cl2, cdt, cl3⟩ := oc'
            simp only [ec] at c3
            cases cdt with
            | cell v =>
              cases v with
              | none => cases c3
              | some v =>
                cases v with
                | ref D =>
                  have hD : D = He.ga K x := by simpa using c3
                  subst hD
                  cases n13 with
                  | ref cda =>
                    dsimp only at c4
                    cases ed : K.lookup cda with
                    | none =>
                      simp only [ed] at c4
                      cases c4
                    | some od' =>
                      obtain ⟨d1, d2, ddt, d3⟩ := od'
                      simp only [ed] at c4
                      cases ddt with
                      | fields vs =>
                        dsimp only at c4
                        cases ev : vs[2]? with
                        | none =>
                          simp only [ev] at c4
                          cases c4
                        | some v =>
                          simp only [ev] at c4
                          cases v with
                          | str fl tf =>
                            exact ⟨_, cc, cda, oc, n9, n10, n11, n14, d1, cl1, od, n12, d2, cl2, osl, d3, cl3, p1, p2, q0, q1, q2, q3, q4, q5, q6, q7, q8, q9, n2, vs, fl, tf, of_decide_eq_true b11, of_decide_eq_true b12, e, c1, ec, ed, ev, c4, hmc, fun s x v => hbind _ _ _ _ _ _ _ s x v⟩
                          | _ => cases c4
                      | _ => cases c4
                  | _ => cases c4
                | _ => cases c3
            | _ => cases c3
      | _ => cases c2
    | _ => cases b
end Ex

/-! own classes told by looks -/
namespace Dw
open PySem PySem.Spec PyProof.Rows L2
def xcB (K : PySem.W.Frag) (C : Addr) : Bool := decide (PySem.W.findIn K (.ref C) "__class__" = some (some (.builtin "object.__class__"))) && (decide (PySem.W.specialIn K (.builtin "object.__class__") "__get__" = some (some (.builtin "getset_descriptor.__get__"))) &&
  (decide (PySem.W.takesIn K (.builtin "object.__class__") = some true) && decide (PySem.W.mroIn K C (.type "object") = some true)))
/-- an own error as it is caught -/
def excB (K : PySem.W.Frag) (C : Addr) : Bool := xfB K C && xcB K C
theorem excB_ok {K : PySem.W.Frag} {C : Addr} (h : excB K C = true) : XfC K C ∧ ExcC K C := by
  obtain ⟨a, b⟩ := Ex.ba h
  have xf := xfB_ok a
  obtain ⟨b1, b⟩ := Ex.ba b
  obtain ⟨b2, b⟩ := Ex.ba b
  obtain ⟨b3, b4⟩ := Ex.ba b
  exact ⟨xf, xf.ga, xf.gg, xf.exC, xf.hdC, of_decide_eq_true b1, of_decide_eq_true b2, of_decide_eq_true b3, of_decide_eq_true b4⟩
/-- an own error as it is raised -/
def rsB (K : PySem.W.Frag) (C : Addr) : Bool := decide (PySem.W.subIn K (.ref C) (.type "BaseException") = some true) && decide (PySem.W.typeIn K (.ref C) = some (.type "type"))
theorem rsB_ok {K : PySem.W.Frag} {C : Addr} (h : rsB K C = true) : PySem.W.subIn K (.ref C) (.type "BaseException") = some true ∧ PySem.W.typeIn K (.ref C) = some (.type "type") := by
  obtain ⟨a, b⟩ := Ex.ba h
  exact ⟨of_decide_eq_true a, of_decide_eq_true b⟩
/-- isinstance against an own class; its instances beside tuples -/
def incB (K : PySem.W.Frag) (C : Addr) : Bool := xcB K C && (decide (PySem.W.kitOne K (.ref C) (.ref C) = some true) && (decide (PySem.W.kitOne K (.type "tuple") (.ref C) = some false) && decide (PySem.W.subIn K (.type "tuple") (.ref C) = some false)))
theorem incB_ok {K : PySem.W.Frag} {C : Addr} (h : incB K C = true) (c : Cls K C) : InC K C ∧ PySem.W.subIn K (.type "tuple") (.ref C) = some false := by
  obtain ⟨a, b⟩ := Ex.ba h
  obtain ⟨b1, b⟩ := Ex.ba b
  obtain ⟨b2, b3⟩ := Ex.ba b
  obtain ⟨a1, a⟩ := Ex.ba a
  obtain ⟨a2, a⟩ := Ex.ba a
  obtain ⟨a3, a4⟩ := Ex.ba a
  exact ⟨⟨⟨c, of_decide_eq_true a1, of_decide_eq_true a2, of_decide_eq_true a3, of_decide_eq_true a4, of_decide_eq_true b1⟩, of_decide_eq_true b2⟩, of_decide_eq_true b3⟩
/-- the class C has the own method m -/
def metB (K : PySem.W.Frag) (C : Addr) (m : Str) : Bool := decide (PySem.W.findIn K (.ref C) m = some (some (.ref (He.ma K C m)))) && PySem.W.isFn K (.ref (He.ma K C m))
theorem metB_ok {K : PySem.W.Frag} {C : Addr} {m : Str} (h : metB K C m = true) : PySem.W.findIn K (.ref C) m = some (some (.ref (He.ma K C m))) ∧ PySem.W.isFn K (.ref (He.ma K C m)) = true := by
  obtain ⟨a, b⟩ := Ex.ba h
  exact ⟨of_decide_eq_true a, b⟩
def mkB (K : PySem.W.Frag) (C : Addr) : Bool := PySem.W.makesIn K C && (metB K C "__init__" && PySem.W.keepIn K (.ref C))
theorem mkB_ok {K : PySem.W.Frag} {C : Addr} (h : mkB K C = true) : Mk K C (He.ma K C "__init__") := by
  obtain ⟨a, b⟩ := Ex.ba h
  obtain ⟨b, c⟩ := Ex.ba b
  obtain ⟨d, e⟩ := metB_ok b
  exact ⟨a, d, e, c⟩
theorem binds_of {K : PySem.W.Frag} {fd : FuncData} {ps : List Str} (hb : ∀ (s : Shared) (us : List Value), us.length = ps.length → BindsTo s fd ⟨us, []⟩ (ps.zip us)) : Binds K fd ps [] := fun s us _ hl => by
  rw [List.append_nil] at hl ⊢
  exact hb s us hl
end Dw
namespace Gl
open PySem PySem.Spec PyProof.Rows L2
theorem df_of {P : Program} {w : World} {K : PySem.W.Frag} {mg : Str → Option Value} {base : Heap} {x qual : Str} {pa : Arguments} {bd : List Stmt} {sc : Scope} {dvs : List V} {kws : List (Str × V)} {f : Addr} {fd : FuncData} {k : Nat} {ps : List Str} {sp : Sp} (F : FunD K x qual pa bd sc dvs kws f fd) (hm : mg x = some (.ref f)) (G : Fn P w K mg base k f fd ps sp) (hb : ∀ (s : Shared) (us : List Value), us.length = ps.length → BindsTo s fd ⟨us, []⟩ (ps.zip us)) : Df P w K mg base k x sp :=
  ⟨f, fd, ps, G, hm, F.kp, Dw.binds_of hb⟩
end Gl
set_option Elab.async false
set_option linter.all false
set_option maxRecDepth 100000
set_option maxHeartbeats 4000000
/-! Nw: raise X(); o.m(); sorted of ints; enumerate over a tuple. -/
namespace L2
open PySem PySem.Spec PyProof.Rows
section
variable {X : Cx}
/-- raise C() -/
def tRa0 (C : Addr) : L2.St → Hp → XK → Prop := fun _ H Q => Q (.ref C) none H
theorem pmk_0 {x : Str} {p pos : Pos} {C : Addr} (q : PySem.W.excIn X.K C He.veBase "ValueError.__new__" = true) (hR : Raises X (.ref C)) (hm : X.mg x = some (.ref C)) (kC : PySem.W.keepIn X.K (.ref C) = true) (hg : Gl X x)
    (hd : (x == ("__debug__" : Str)) = false := by decide) : PMk X (.Call (.Name x p) [] [] pos) (tRa0 C) := fun pins s σ H Q I h => by
  refine wpAny_Call_Name_kw (ld_glob I hg hm (PySem.W.callWith_K0 I.kIn kC ?_) hd)
  obtain ⟨bm, N, n1, n2, bs, e1, e2, e3, e4, e5, e6, k0, k1, k2, k3, k5, mN, c1, c2, c3, c4⟩ := exc_obj I.kIn q
  exact wpAny_call_exc_subT PySem.F.excBase_ValueError c4 c1 c2 c3 (fun h' a made => mk_of I made hR h (I.hok.gone made.new)) (by show 0 ≤ sizeLine; omega)
end
end L2
namespace Gl
open PySem PySem.Spec PyProof.Rows L2
/-- o.m() -/
def tMt0 (C : Addr) (m : Str) (sp : Sp) (E : L2.St → XK) (ta : TE) : TE := fun σ H Q => ta σ H fun x H1 => ∃ a dx fs, x = .ref a ∧ H1 a = some (.ins C dx fs) ∧ fs.lookup m = none ∧ sp [x] H1 Q (E σ)
/-- the method m of the class C -/
structure Cf (P : Program) (w : World) (K : PySem.W.Frag) (mg : Str → Option Value) (base : Heap) (n : Nat) (C : Addr) (m : Str) (sp : Sp) : Prop where
  ex : ∃ (f : Addr) (fd : FuncData) (ps : List Str), Fn P w K mg base n f fd ps sp ∧ Meth K C m f ∧ Binds K fd ps []
  cls : Cls K C
section
variable {X : Cx} {k j : Nat} {C : Addr} {sp : Sp} {E : L2.St → XK} {m : Str} {pos apos : Pos} {o : Expr} {ta : TE}
theorem pe_mt0 {pl : Sem Bool} (M : Cf X.prog X.w X.K X.mg X.base k C m sp) (hr : Room j X.A) (hk : k ≤ j) (hG : X.A.guards = some []) (hx : ∀ σ, PassesAt (L2.CX X.prog X.w) X σ (E σ)) (he : PE X o ta)
    (ht : eval (.Call (.Attribute o m apos) [] [] pos) X.env = (do
      let ov ← eval o X.env
      standAt apos.atName
      let (f, first) ← holding [ov] (getMethod ov m pl)
      callWith pos f first (backTo pos (starEach [] X.env)) (backToKw pos (keywordEach [] X.env))) := by rfl) : PE X (.Call (.Attribute o m apos) [] [] pos) (tMt0 C m sp E ta) := by
  obtain ⟨f, fd, ps, F, mt, b⟩ := M.ex
  refine ⟨fun pins s σ H Q I h => PySem.W.methodCall_KW (pl := pl) (thn (he.run pins s σ H _ I h) fun u s1 hh => ?_) ht⟩
  obtain ⟨x, H1, I1, rx, a, dx, fs, rfl, ea, l, q⟩ := hh
  cases rx
  refine getmeth_ok I1 ea M.cls mt l (PySem.W.callWith_K0 (first := [.ref a]) I1.kIn mt.kp ?_)
  exact run_df (us := [.ref a]) (vs := [.ref a]) F (hr.mono hk) hG b (hx σ) I1 (.cons (show RelV (.ref a) (.ref a) from rfl) .nil) q
end
end Gl
namespace Dw
open PySem PySem.Spec PyProof.Rows L2
section
variable {S : Type} {W : Wd S} {G : Gm S} {K : PySem.W.Frag}
@[simp] def wRaise0 (C : Addr) : WS S := fun KK env s => KK.xc ⟨C, []⟩ s
theorem ss_raise0 {C : Addr} : SimS W G (fun _ σ H => tRa0 C σ H fun cls d H' => G.E cls d H') (wRaise0 C) := fun R env σ H s rl KK hw Dn e =>
  e.xc ⟨C, []⟩ s _ _ _ hw rl.fr rl.at_.j ⟨rfl, .inl ⟨rfl, rfl⟩⟩
@[simp] def wMt0 (C : Addr) (m : Str) (wf : List D → S → (D → S → Prop) → (Xc → S → Prop) → Prop) (we : WE S) : WE S := fun env s k x => we env s (fun d s1 => match d with
  | .obj C' fs => C' = C ∧ fs.lookup m = none ∧ wf [.obj C' fs] s1 k fun _ _ => False
  | _ => False) x
@[simp] def wSortI : List D → S → (D → S → Prop) → Prop := fun ds s k => match ds with
  | [.lst xs] => ∃ ns, D.ints xs = some ns ∧ ∀ ms : List Int, ms.Perm ns → ms.Pairwise (· ≤ ·) → k (.lst (ms.map D.int)) s
  | _ => False
theorem daL_ints {B : Addr → Prop} {H : Hp} : ∀ ms : List Int, DaL B H (ms.map V.int) (ms.map D.int)
  | [] => .nil
  | m :: r => .cons (.int m) (daL_ints r)
theorem sc_sortI : SimC W (rSortedI K) wSortI := fun R s H at_ xs ds a k hw Q hQ => by
  match ds, a, hw with
  | [.lst es], a, ⟨ns, hn, hk⟩ =>
    obtain ⟨v, rfl, a1⟩ := a.one
    have fin : ∀ (p : Addr) (vs : List V), H p = some (.lst vs) → DaL (Bf W R s) H vs es → es.length ≤ sizeLine → rSortedI K [.ref p] H Q := fun p vs e l z => by
      have ev := l.ints hn
      subst ev
      refine ⟨p, ns, rfl, .of e, fun ms q pm pw hq => hQ _ _ _ (hk ms pm pw) (.new_at hq at_) (at_.new_at hq).j (.lst upd_same (at_.fresh hq) (daL_ints ms) ?_)⟩
      have e1 := l.len
      rw [List.length_map] at e1
      rw [List.length_map, pm.length_eq, e1]
      exact z
    cases a1 with
    | da a1 =>
      cases a1 with
      | lst e n l z => exact fin _ _ e l z
    | lst e n l z => exact fin _ _ e l z
end
end Dw
set_option Elab.async false
set_option linter.all false
set_option maxRecDepth 100000
set_option maxHeartbeats 4000000
/-! Et: enumerate over a tuple. -/
namespace PySem
open Sem (wp)
theorem newEnum1 {v : Value} {o : Obj} {H : Heap → Prop} (B : Begins v o H) :
    Meets (Builtin.«enumerate.__new__» ⟨[.type "enumerate", v], []⟩) (fun _ R s => H s.heap ∧
      R (.ok (.ret (.ref (s.heap.push o).objs.size))) { s with heap := (s.heap.push o).push { cls := .type "enumerate", data := .fields #[.none, .bool false, .ref s.heap.objs.size, rawInt 0, .none, .none] } }) :=
  .of_wp fun prog w A R s h => by
    obtain ⟨hp, g, d, tk, os⟩ := s
    obtain ⟨h1, h⟩ := h
    have hsub := sub_enumerate
    have go : ∀ {A' : Around} {E : Value → Shared → Prop} {Q : Value → Shared → Prop}, Q (.ref hp.objs.size) ⟨hp.push o, g, d, tk, os⟩ → wpAny (model prog w) A' (pyIter v) Q E ⟨hp, g, d, tk, os⟩ :=
      fun q => B.iter prog w _ _ ⟨hp, g, d, tk, os⟩ _ h1 q
    wp_walk using go
    refine wpAny_stack_any fun st => wpAny_pure ?_
    split
    · next c _ _ _ _ _ =>
      cases (c == Value.type "enumerate") <;> (wp_walk using go) <;> exact ⟨_, rfl, h⟩
    · wp_walk using go
      exact ⟨_, rfl, h⟩
theorem callEnum1 {prog : Program} {w : World} {A : Around} {E : Value → Shared → Prop} {s : Shared} {v : Value} {o : Obj} {H : Heap → Prop} {Q : Value → Shared → Prop} (B : Begins v o H) (h1 : H s.heap)
    (h : ∀ g, IsEnum g (s.heap.objs.size + 1) s.heap.objs.size 0 .none → g.get? s.heap.objs.size = some o → (∀ b u, s.heap.get? b = some u → g.get? b = some u) → Q (.ref (s.heap.objs.size + 1)) { s with heap := g }) :
    wpAny (model prog w) A (call (.type "enumerate") [v]) Q E s := by
  have sz : (s.heap.push o).objs.size = s.heap.objs.size + 1 := Heap.size_push ..
  have he := Heap.get?_push_size (s.heap.push o) (o := { cls := .type "enumerate", data := .fields #[.none, .bool false, .ref s.heap.objs.size, rawInt 0, .none, .none] }) rfl
  rw [sz] at he
  have fin := h _ he (Heap.get?_push_of_some _ (Heap.get?_push_size _ B.free)) fun b u x => Heap.get?_push_of_some _ (Heap.get?_push_of_some _ x)
  refine callType_new F.called_enumerate (by decide) (F.typeCall_enumerate_1 _) (F.newCall_enumerate_1 _) (fun obj => F.args_object_init_2 obj _) F.entry_enumerate_new (newEnum1 B) ⟨h1, ?_⟩
  show _ ∧ _
  rw [sz]
  exact ⟨⟨_, he, rfl⟩, fin⟩
end PySem
namespace L2
open PySem PySem.Spec PyProof.Rows
/-- the tuple at a, each item in a new pair -/
def IteT (K : PySem.W.Frag) (a : Addr) : It where
  go i H := ∃ (xs : List V) (x : V), SqT K H a xs ∧ xs[i]? = some x
  yld i H v H' := ∃ T x, v = .ref T ∧ H T = none ∧ H' = upd H T (.tup [.int (i : Nat), x]) ∧ ∀ xs, SqT K H a xs → xs[i]? = some x
  stop i H := ∃ xs : List V, SqT K H a xs ∧ xs.length = i
def StT (a e it : Addr) (i : Nat) (h : Heap) : Prop := (∃ old, IsEnum h e it ((i : Nat) : Int) old) ∧ h.IsTupleIter it a i ∧ e ≠ it
theorem turn_enumT {P : Program} {w : World} {K : PySem.W.Frag} {elts : List Expr} {kk : Nat} {tpos : Pos} (a e it : Addr) : Turn P w K (.Tuple elts kk tpos) (IteT K a) [e, it] e (StT a e it) := by
  have two : ∀ b, b ∈ [e, it] → b = e ∨ b = it := fun b hb => by simpa using hb
  have drw : ∀ {X : Cx} {pins : List (Addr × Obj)} {s : Shared} {σ : L2.St} {H : Hp} {i : Nat} {xs : List V}, Inv X pins σ H s → X.calm = true → SqT X.K H a xs → StT a e it i s.heap →
      ∃ its : List Value, Vals xs its ∧ s.heap.IsTuple a its.toArray ∧ a ≠ it ∧ a ≠ e ∧ Draws X.prog X.w X.A.in1 it [it, a] its.toArray.size (fun j v => its.toArray[j]? = some v) fun j h => h.IsTupleIter it a j ∧ h.IsTuple a its.toArray := fun {X pins s σ H i xs} I hc hq st => by
    obtain ⟨its, rv, tp, _⟩ := I.tuple hq
    obtain ⟨⟨old, he⟩, ⟨o1, g1, c1, d1⟩, _⟩ := st
    have n1 : a ≠ it := by
      rintro rfl
      obtain ⟨o, ho, c, _⟩ := tp
      rw [ho] at g1
      cases g1
      rw [c1] at c
      injection c with c
      exact absurd c (by decide)
    have n2 : a ≠ e := by
      rintro rfl
      obtain ⟨o, ho, c, _⟩ := tp
      have he2 : s.heap.get? a = some _ := he
      rw [ho] at he2
      cases he2
      injection c with c
      exact absurd c (by decide)
    exact ⟨its, rv, tp, n1, n2, Draws.tuple (show X.A.in1.handled = none from I.ok.hd hc) it a n1 its.toArray⟩
  refine ⟨by simp, fun i h st b hb => ?_, fun i h h' st k => ?_, fun X hP hw hK hc i pins s σ H E I hf st hg => ?_, fun X hP hw hK hc i pins s σ H E I hf st hg => ?_, fun A i s Q E st h => ?_⟩
  · obtain ⟨⟨old, he⟩, ⟨o, ho, _, hd⟩, _⟩ := st
    rcases two b hb with rfl | rfl
    · exact ⟨_, he, fun v q => by cases q⟩
    · exact ⟨o, ho, fun v q => by rw [hd] at q; cases q⟩
  · obtain ⟨⟨old, he⟩, hi, ne⟩ := st
    exact ⟨⟨old, k e (by simp) _ he⟩, hi.at fun o q => k it (by simp) o q, ne⟩
  · subst hP hw hK
    obtain ⟨xs, x, hq, hx⟩ := hg
    obtain ⟨its, rv, tp, n1, n2, D⟩ := drw I hc hq st
    obtain ⟨⟨old, he⟩, hit, ne⟩ := st
    obtain ⟨u0, hu0, ru0⟩ := rv.get hx
    have hu1 : its.toArray[i]? = some u0 := by simpa using hu0
    have lt : i < its.toArray.size := (Array.getElem?_eq_some_iff.mp hu1).1
    have le := Heap.lt_size he
    have li : it < s.heap.objs.size := by
      obtain ⟨_, q, _⟩ := hit
      exact Heap.lt_size q
    refine wpAny_pyNext_enum_itemD D he ⟨hit, tp⟩ lt ne (by simp [ne, Ne.symm n2]) fun u g tk hu out st' hT hz hk => ?_
    have : u = u0 := by
      rw [hu1] at hu
      exact (Option.some.inj hu).symm
    subst this
    refine ⟨_, rfl, wpAny_letOwnedTupleGo_enum (s := { s with heap := g, toks := tk + 1 }) out fun g2 en sb => ?_⟩
    have hT2 := (sb.2 _ (Nat.ne_of_gt le)).trans hT
    have ob : ObjOk X.prog X.w (upd H s.heap.objs.size (.tup [.int (i : Nat), x])) g2 s.heap.objs.size (.tup [.int (i : Nat), x]) := ⟨(show 2 ≤ sizeLine by decide), [.int i tk, u], .cons ⟨_, rfl⟩ (.cons ru0 .nil), _, hT2, rfl, _, rfl⟩
    have away : ∀ b o, b ∉ [e, it] → s.heap.get? b = some o → g2.get? b = some o := fun b o nb q => by
      have a1 : b ≠ e := fun z => nb (by simp [z])
      have a2 : b ≠ it := fun z => nb (by simp [z])
      exact (sb.2 b a1).trans (hk b o a1 a2 q)
    have J := I.turnedNew (t' := tk + 1) (ch := [e, it]) away hf (Nat.le_refl _) ob
    refine ⟨.ref s.heap.objs.size, _, J, rfl, ⟨_, x, rfl, I.hok.fresh (Nat.le_refl _), rfl, fun ys hy => by rw [I.tuple_inj hy hq]; exact hx⟩, ⟨⟨u, ?_⟩, st'.1.at fun o q => (sb.2 it (Ne.symm ne)).trans q, ne⟩, fun b hb => ?_⟩
    · have : ((i + 1 : Nat) : Int) = (i : Int) + 1 := by omega
      rw [this]
      exact en
    · have lb : b < s.heap.objs.size := by rcases two b hb with rfl | rfl <;> assumption
      rw [upd_ne (Nat.ne_of_lt lb)]
      exact (hf b hb).1
  · subst hP hw hK
    obtain ⟨xs, hq, hx⟩ := hg
    obtain ⟨its, rv, tp, n1, n2, D⟩ := drw I hc hq st
    obtain ⟨⟨old, he⟩, hit, ne⟩ := st
    obtain ⟨z0, z1, z2, z3, z4, z5⟩ := hf it (by simp)
    have hl : its.toArray.size = i := by
      have := rv.length
      simp
      omega
    subst hl
    exact wpAny_pyNext_enum_endD D he ⟨hit, tp⟩ fun g eb => ⟨rfl, I.turned (t' := s.toks) (fun b o hb q => eb b o hb q) z0 z1 z3 z4 z5⟩
  · obtain ⟨⟨_, he⟩, _⟩ := st
    exact wpAny_pyIter_enum he h
def iEnumT (K : PySem.W.Frag) (ta : TA) : TI := fun σ H R => ta σ H fun vs H1 => ∃ a xs, vs = [.ref a] ∧ SqT K H1 a xs ∧ R (IteT K a) H1
theorem pi_enumT {X : Cx} {K : PySem.W.Frag} {e : Expr} {ta : TA} {p pos tpos : Pos} {elts : List Expr} {kk : Nat} (hg : Gl X "enumerate") (hm : X.mg "enumerate" = none) (ha : PA X [e] ta) (hs : starEach [e] X.env = [(false, eval e X.env)] := by rfl) (e' : X.K = K := by rfl) :
    PI X (.Tuple elts kk tpos) (.Call (.Name "enumerate" p) [e] [] pos) (iEnumT K ta) := by
  subst e'
  refine ⟨fun pins s σ H R I h => Call_ (ld_blt I hg hm boot_enumerate (PyProof.Rows.callWith_type1 (thn (ha.run pos pins s σ H _ I h) fun us s1 hh => ?_) hs rfl))⟩
  obtain ⟨vs, H1, I1, r1, a, xs, rfl, hq, q⟩ := hh
  cases r1 with
  | cons r rr =>
    cases rr
    cases r
    obtain ⟨its, rv, tp, _⟩ := I1.tuple hq
    refine PySem.callEnum1 (begins_tuple a its.toArray) tp fun g he ho hk => wpAny_pyIter_enum he ?_
    have I2 : Inv X pins σ H1 { s1 with heap := g } := I1.kept (t' := s1.toks) hk
    refine ⟨s1.heap.objs.size + 1, [s1.heap.objs.size + 1, s1.heap.objs.size], _, _, H1, rfl, I2, turn_enumT a (s1.heap.objs.size + 1) s1.heap.objs.size, ⟨⟨.none, he⟩, ⟨_, ho, rfl, rfl⟩, Nat.succ_ne_self _⟩, fun b hb => ?_, q⟩
    have le : s1.heap.objs.size ≤ b := by
      rcases List.mem_cons.mp hb with q | q
      · rw [q]
        exact Nat.le_succ _
      · rw [List.mem_singleton.mp q]
        exact Nat.le_refl _
    exact I1.fpOk le (I1.hok.fresh le)
end L2
namespace Dw
open PySem PySem.Spec PyProof.Rows L2
section
variable {S : Type} {W : Wd S} {G : Gm S} {K : PySem.W.Frag}
theorem itr_enumT {a : Addr} {ds : List D} : Itr W (IteT K a) (enumD 0 ds) (fun R s H => Da (Bf W R s) H (.ref a) (.tup ds)) where
  mv R s H R' s' H' h m := h.mv m
  go i R s H hi h := by
    cases h with
    | tup e n l z =>
      rw [enumD_len] at hi
      obtain ⟨v, hv, _⟩ := l.get' (i := i) (d := ds[i]) (List.getElem?_eq_getElem hi)
      exact ⟨_, v, .of e, hv⟩
  stop R s H h := by
    cases h with
    | tup e n l z => exact ⟨_, .of e, by rw [enumD_len]; exact l.len⟩
  yld i R s H x H' hi h at_ y := by
    cases h with
    | tup e n l z =>
      obtain ⟨T, v, rfl, hT, rfl, y⟩ := y
      obtain ⟨d, hd, q⟩ := l.get (y _ (.of e))
      refine ⟨_, enumD_get 0 ds i d hd, .new_at hT at_, (at_.new_at hT).j, ?_⟩
      rw [Nat.zero_add]
      exact .tup upd_same (at_.fresh hT) (.cons (.int _) (.cons (q.mv (Fr.new_at hT at_).mv) .nil)) two_le
@[simp] def wiEnumT (w : WA S) : WI S := fun env s k x => w env s (fun ds s1 => match ds with
  | [.tup es] => k (enumD 0 es) s1
  | _ => False) x
theorem si_enumT {t : TA} {w : WA S} (h : SimA W G t w) : SimI W G (iEnumT K t) (wiEnumT w) := fun R env σ H s rl k x hw ox Q hQ => h R env σ H s rl _ x hw ox _ fun ds s1 vs H1 hw1 f1 j1 a1 => by
  match ds, a1, hw1 with
  | [.tup es], .cons a .nil, hw1 =>
    cases a with
    | tup e n l z => exact ⟨_, _, rfl, .of e, hQ _ s1 _ H1 _ hw1 f1 j1 itr_enumT (.tup e n l z)⟩
end
end Dw
set_option Elab.async false
set_option linter.all false
set_option maxRecDepth 100000
set_option maxHeartbeats 4000000
/-! Dc: {k: v for ..} with tuples for keys; in, [] of such dicts, over data. -/
namespace L2
open PySem PySem.Spec PyProof.Rows
/-- {k: v for target in iter if ..}, k a tuple of ints and texts: D the new dict -/
def tDcT (wi : TI) (g : TG) (tt : TT) (tk tv : TE) (vs : List Nat) : TE := fun σ H Q => wi σ H fun J H1 => ∀ D, H1 D = none → ∃ W : Nat → Nat → Hp → Prop, (∃ m, W 0 m (upd H1 D (.dT []))) ∧ ∀ i m H, W i m H →
  (J.stop i H ∧ Q (.ref D) H) ∨ (J.go i H ∧ ∃ Nx : Hp → Prop, (∀ H', Nx H' → ∃ m', m' < m ∧ W (i + 1) m' H') ∧ ∀ x H', J.yld i H x H' → g x (wipe σ vs) H' fun σ2 H2 => wipe σ2 vs = wipe σ vs ∧ tt σ2 H2 fun b H3 =>
    if b = true then tk σ2 H3 fun y H4 => tv σ2 H4 fun z H5 => ∃ kvs k q, y = .ref q ∧ H5 q = some (.tup (k.map kV)) ∧ H5 D = some (.dT kvs) ∧ kvs.length < sizeLine ∧ Nx (upd H5 D (.dT (putK kvs k z))) else Nx H3)
section
variable {X : Cx} {kx vx tg iter : Expr} {ifs : List Expr} {scope : Scope} {own : List (Str × Nat)} {pos : Pos} {wi : TI} {g : TG} {tt : TT} {tk tv : TE}
end
end L2
set_option Elab.async false
set_option linter.all false
set_option maxRecDepth 100000
set_option maxHeartbeats 4000000
/-! Dd: dicts with tuples for keys, over data. -/
namespace Dw
open PySem PySem.Spec PyProof.Rows L2
def valD (kvs : List (List Key × D)) (k : List Key) : Option D := (kvs.find? fun kv => decide (kv.1 = k)).map (·.2)
def putD (kvs : List (List Key × D)) (k : List Key) (v : D) : List (List Key × D) :=
  if (kvs.any fun kv => decide (kv.1 = k)) = true then kvs.map (fun kv => if kv.1 = k then (kv.1, v) else kv) else kvs ++ [(k, v)]
section
variable {B : Addr → Prop} {H : Hp}
theorem DaT.len : ∀ {vs : List (List Key × V)} {ds : List (List Key × D)}, DaT B H vs ds → vs.length = ds.length
  | _, _, .nil => rfl
  | _, _, .cons _ t => by rw [List.length_cons, List.length_cons, t.len]
theorem DaT.imp {B' : Addr → Prop} {v : List (List Key × V)} {d : List (List Key × D)} (h : DaT B H v d) (q : ∀ a, B' a → B a) : DaT B' H v d := h.mv fun a o e n => ⟨e, fun b => n (q a b)⟩
theorem DaT.val {k : List Key} : ∀ {vs : List (List Key × V)} {ds : List (List Key × D)}, DaT B H vs ds → (valV vs k = none ∧ valD ds k = none) ∨ ∃ v d, valV vs k = some v ∧ valD ds k = some d ∧ Da B H v d
  | _, _, .nil => .inl ⟨rfl, rfl⟩
  | _, _, .cons (k := k') (v := v) (d := d) h t => by
    by_cases e : k' = k
    · exact .inr ⟨v, d, valV_pos e, by simp [valD, List.find?_cons, e], h⟩
    · rw [valV_neg e]
      have : ∀ r : List (List Key × D), valD ((k', d) :: r) k = valD r k := fun r => by simp [valD, List.find?_cons, e]
      rw [this]
      exact t.val
theorem DaT.any {k : List Key} : ∀ {vs : List (List Key × V)} {ds : List (List Key × D)}, DaT B H vs ds → (vs.any fun kv => decide (kv.1 = k)) = ds.any fun kv => decide (kv.1 = k)
  | _, _, .nil => rfl
  | _, _, .cons h t => by rw [List.any_cons, List.any_cons, t.any]
theorem DaT.snoc {k : List Key} {v : V} {d : D} : ∀ {vs : List (List Key × V)} {ds : List (List Key × D)}, DaT B H vs ds → Da B H v d → DaT B H (vs ++ [(k, v)]) (ds ++ [(k, d)])
  | _, _, .nil, h => .cons h .nil
  | _, _, .cons a t, h => .cons a (t.snoc h)
theorem DaT.repl {k : List Key} {v : V} {d : D} : ∀ {vs : List (List Key × V)} {ds : List (List Key × D)}, DaT B H vs ds → Da B H v d → DaT B H (vs.map fun kv => if kv.1 = k then (kv.1, v) else kv) (ds.map fun kv => if kv.1 = k then (kv.1, d) else kv)
  | _, _, .nil, h => .nil
  | _, _, .cons (k := k') a t, h => by
    rw [List.map_cons, List.map_cons]
    by_cases e : k' = k
    · rw [if_pos e, if_pos e]
      exact .cons h (t.repl h)
    · rw [if_neg e, if_neg e]
      exact .cons a (t.repl h)
theorem DaT.put {vs : List (List Key × V)} {ds : List (List Key × D)} {k : List Key} {v : V} {d : D} (t : DaT B H vs ds) (h : Da B H v d) : DaT B H (putK vs k v) (putD ds k d) := by
  unfold putK putD
  rw [t.any]
  split
  · exact t.repl h
  · exact t.snoc h
end
section
variable {S : Type}
def wDc (g : WG) (tt : WT S) (wk wv : WE S) (vs : List Nat) : List D → List (List Key × D) → List Sl → S → (List (List Key × D) → S → Prop) → (Xc → S → Prop) → Prop
  | [], acc, _, s, k, _ => k acc s
  | d :: r, acc, env, s, k, x => g d (wp env vs) fun e1 => tt e1 s (fun b s1 => if b = true then wk e1 s1 (fun y s2 => wv e1 s2 (fun z s3 => match y with
    | .tup ys => ∃ kk, D.keys ys = some kk ∧ wDc g tt wk wv vs r (putD acc kk z) env s3 k x
    | _ => False) x) x else wDc g tt wk wv vs r acc env s1 k x) x
@[simp] def wDcE (wi : WI S) (g : WG) (tt : WT S) (wk wv : WE S) (vs : List Nat) : WE S := fun env s k x => wi env s (fun ds s1 => ds.length < sizeLine ∧ wDc g tt wk wv vs ds [] env s1 (fun ys s2 => k (.dit ys) s2) x) x
@[simp] def wDGetT (wd wk : WE S) : WE S := fun env s k x => wd env s (fun d s1 => wk env s1 (fun e s2 => match d, e with
  | .dit kvs, .tup es => ∃ kk v, D.keys es = some kk ∧ valD kvs kk = some v ∧ k v s2
  | _, _ => False) x) x
@[simp] def wDInT (wk wd : WE S) : WE S := fun env s k x => wk env s (fun e s1 => wd env s1 (fun d s2 => match d, e with
  | .dit kvs, .tup es => ∃ kk, D.keys es = some kk ∧ k (.bl (valD kvs kk).isSome) s2
  | _, _ => False) x) x
@[simp] def wDNotInT (wk wd : WE S) : WE S := fun env s k x => wk env s (fun e s1 => wd env s1 (fun d s2 => match d, e with
  | .dit kvs, .tup es => ∃ kk, D.keys es = some kk ∧ k (.bl (!(valD kvs kk).isSome)) s2
  | _, _ => False) x) x
variable {W : Wd S} {G : Gm S} {K : PySem.W.Frag}
theorem Da.key {B : Addr → Prop} {H : Hp} {v : V} {es : List D} {kk : List Key} (a : Da B H v (.tup es)) (h : D.keys es = some kk) : ∃ q, v = .ref q ∧ H q = some (.tup (kk.map kV)) := by
  cases a with
  | tup e n l z => exact ⟨_, rfl, by rw [e, l.keys h]⟩
end
end Dw
set_option Elab.async false
set_option linter.all false
set_option maxRecDepth 100000
set_option maxHeartbeats 4000000
/-! Tz: try with several except clauses, with and without a name; clauses behind these are never asked. -/
namespace L2
open PySem PySem.Spec PyProof.Rows
abbrev Clause := Value × Option Nat × (Addr → Value → Option Addr → TS)
def endsN (i : Nat) (D : Ends) : Ends := { nx := fun σ' H' => D.nx (σ'.set i none) H', rt := D.rt, bk := fun σ' H' => D.bk (σ'.set i none) H', ct := fun σ' H' => D.ct (σ'.set i none) H' }
/-- what the clauses wish of an exception of the body -/
def wMix (K : PySem.W.Frag) (D : Ends) : List Clause → WX
  | [] => fun _ _ _ _ => False
  | (c, none, ts) :: r => fun cls d σ H => ∃ b, PySem.W.exmOne K cls c = some b ∧ (b = true → ∀ a, H a = none → ts a cls d D σ H) ∧ (b = false → wMix K D r cls d σ H)
  | (c, some i, ts) :: r => fun cls d σ H => ∃ b, PySem.W.exmOne K cls c = some b ∧ (b = true → ∀ a, H a = none → ts a cls d (endsN i D) (σ.set i (some (.ref a))) H) ∧ (b = false → wMix K D r cls d σ H)
def tTry (K : PySem.W.Frag) (l : List Clause) (tb : WX → TS) : TS := fun D σ H => tb (wMix K D l) D σ H
inductive HdsX (X : Cx) : List ExceptHandler → List Clause → Prop
  | rest {hds : List ExceptHandler} : HdsX X hds []
  | bare {x : Str} {c : Value} {ts : Addr → Value → Option Addr → TS} {b₀ : Stmt} {suite : List Stmt} {np pos' : Pos} {hds : List ExceptHandler} {l : List Clause} (hc : Names X x c)
      (hsu : ∀ (a : Addr) (oe : Obj) (cls : Value) (d : Option Addr) (pn : List (Addr × Obj)), Zc cls d oe → (∃ vs, oe.data = .fields vs) → PSs (X.suite a ((a, oe) :: pn)) (b₀ :: suite) (ts a cls d)) (r : HdsX X hds l) :
      HdsX X (.ExceptHandler (some (.Name x np)) none (b₀ :: suite) pos' :: hds) ((c, none, ts) :: l)
  | named {x n : Str} {i : Nat} {c : Value} {ts : Addr → Value → Option Addr → TS} {b₀ : Stmt} {suite : List Stmt} {np pos' : Pos} {hds : List ExceptHandler} {l : List Clause} (hi : X.N[i]? = some n) (hln : X.env.kindOf n = some .local) (hc : Names X x c)
      (hsu : ∀ (a : Addr) (oe : Obj) (cls : Value) (d : Option Addr) (pn : List (Addr × Obj)), Zc cls d oe → (∃ vs, oe.data = .fields vs) → PSs (X.suite a ((a, oe) :: pn)) (b₀ :: suite) (ts a cls d)) (r : HdsX X hds l) :
      HdsX X (.ExceptHandler (some (.Name x np)) (some n) (b₀ :: suite) pos' :: hds) ((c, some i, ts) :: l)
section
variable {X : Cx} {K : PySem.W.Frag} {body : List Stmt} {h₀ : ExceptHandler} {hds : List ExceptHandler} {l : List Clause} {pos : Pos} {tb : WX → TS}
end
end L2
namespace Dw
open PySem PySem.Spec PyProof.Rows L2
section
variable {S : Type}
abbrev ClauseW (S : Type) := Value × Option Nat × (Addr → Xc → WS S)
def endsNW (i : Nat) (KK : WEnds S) : WEnds S := { KK with nx := fun e t => KK.nx (ss e i .no) t, bk := fun e t => KK.bk (ss e i .no) t, ct := fun e t => KK.ct (ss e i .no) t }
def wMixW (K : PySem.W.Frag) : List (ClauseW S) → WEnds S → List Sl → Xc → S → Prop
  | [], _, _, _, _ => False
  | (c, none, wh) :: r, KK, env, xc, s => ∃ b, PySem.W.exmOne K (.ref xc.C) c = some b ∧ (b = true → ∀ a, wh a xc KK env s) ∧ (b = false → wMixW K r KK env xc s)
  | (c, some i, wh) :: r, KK, env, xc, s => ∃ b, PySem.W.exmOne K (.ref xc.C) c = some b ∧ (b = true → ∀ a, wh a xc (endsNW i KK) (ss env i (.dat (.opq a))) s) ∧ (b = false → wMixW K r KK env xc s)
@[simp] def wTry (K : PySem.W.Frag) (lw : List (ClauseW S)) (wb : WS S) : WS S := fun KK env s => (∀ j, (sg env j).isO = false) ∧ wb { KK with xc := fun xc s1 => wMixW K lw KK env xc s1 } env s
variable {W : Wd S} {G : Gm S} {K : PySem.W.Frag}
inductive SimHs (W : Wd S) : List Clause → List (ClauseW S) → Prop
  | nil : SimHs W [] []
  | cons {c : Value} {o : Option Nat} {ts : Addr → Value → Option Addr → TS} {wh : Addr → Xc → WS S} {l : List Clause} {lw : List (ClauseW S)} (h : ∀ a xc cls d (G' : Gm S), XF W G' xc cls d → SimS W G' (ts a cls d) (wh a xc)) (t : SimHs W l lw) : SimHs W ((c, o, ts) :: l) ((c, o, wh) :: lw)
/-- the body raises where nothing is set yet -/
def Loc (tb : WX → TS) : Prop := ∀ (Wx : WX) Dn σ H, tb Wx Dn σ H = tb (fun cls d _ H => Wx cls d σ H) Dn σ H
end
end Dw
namespace L2
open PySem PySem.Spec PyProof.Rows
/-- isinstance(e, c), e the exception that the suite holds -/
def rIsG (K : PySem.W.Frag) (a : Addr) (cls : Value) (d : Option Addr) : List V → Hp → VK → Prop := fun xs H Q => ∃ (D : Addr) (c : V) (cv : Value) (b : Bool), cls = .ref D ∧ ExcC K D ∧ (d = none ∨ ∃ dd fs, d = some dd ∧ H dd = some (.xd fs)) ∧ xs = [.ref a, c] ∧ (∀ u, RelV c u → u = cv) ∧ PySem.W.kitOne K (.ref D) cv = some b ∧ Q (.bl b) H
end L2
namespace Dw
open PySem PySem.Spec PyProof.Rows L2
section
variable {S : Type} {W : Wd S} {G : Gm S} {K : PySem.W.Frag}
@[simp] def wIsG (K : PySem.W.Frag) (a : Addr) (xc : Xc) (wa : WA S) : WE S := fun env s k x => ExcC K xc.C ∧ wa env s (fun ds s1 => match ds with
  | [.opq e, .opq c] => e = a ∧ ∃ b, PySem.W.kitOne K (.ref xc.C) (.ref c) = some b ∧ k (.bl b) s1
  | [.opq e, .ty n] => e = a ∧ ∃ b, PySem.W.kitOne K (.ref xc.C) (.type n) = some b ∧ k (.bl b) s1
  | _ => False) x
end
end Dw
namespace L2
open PySem PySem.Spec PyProof.Rows
/-- an own error without a making of its own -/
structure E0c (K : PySem.W.Frag) (mg : Str → Option Value) (x : Str) (C : Addr) : Prop where
  mgx : mg x = some (.ref C)
  exc : PySem.W.excIn K C He.veBase "ValueError.__new__" = true
  keep : PySem.W.keepIn K (.ref C) = true
  r1 : PySem.W.subIn K (.ref C) (.type "BaseException") = some true
  r2 : PySem.W.typeIn K (.ref C) = some (.type "type")
theorem E0c.raises {K : PySem.W.Frag} {mg : Str → Option Value} {x : Str} {C : Addr} (e : E0c K mg x C) {X : Cx} (h : X.K = K) : Raises X (.ref C) := raises_own (h ▸ e.r1) (h ▸ e.r2)
end L2
set_option Elab.async false
set_option linter.all false
set_option maxRecDepth 100000
set_option maxHeartbeats 4000000
/-! So: sorted(d) of a dict with pairs of ints for keys, any number of them. -/
namespace L2
open PySem PySem.Spec PyProof.Rows PySem.W
/-- the pair that stands at x -/
def kH (H : Hp) : V → Int × Int
  | .ref t => match H t with
    | some (.tup [.int i, .int j]) => (i, j)
    | _ => (0, 0)
  | _ => (0, 0)
def rSortedDT : List V → Hp → VK → Prop := fun vs H Q => ∃ (a : Addr) (kvs : List (List Key × V)), vs = [.ref a] ∧ H a = some (.dT kvs) ∧ (∀ kv ∈ kvs, ∃ i j : Int, kv.1 = [.inl i, .inl j]) ∧
  ∀ (zs : List (List Key × Addr)) (p : Addr), zs.length ≤ sizeLine → (zs.map (·.1)).Perm (kvs.map (·.1)) → (∀ z ∈ zs, H z.2 = some (.tup (z.1.map kV))) → SrtO.Srtd (ltP (kH H)) (zs.map fun z => V.ref z.2) → H p = none → Q (.ref p) (upd H p (.lst (zs.map fun z => V.ref z.2)))
theorem kt_keys {H : Hp} {kvs : List (List Key × V)} {xs : List (List Key × Addr × Value)} (r : KT H kvs xs) : kvs.map (·.1) = xs.map (·.1) ∧ (∀ x ∈ xs, H x.2.1 = some (.tup (x.1.map kV))) ∧ (∀ x ∈ xs, ∃ kv ∈ kvs, kv.1 = x.1) := by
  induction r with
  | nil => exact ⟨rfl, by simp, by simp⟩
  | @cons p q ps qs h t ih =>
    obtain ⟨h1, h2, _⟩ := h
    refine ⟨by rw [List.map_cons, List.map_cons, ih.1, h1], ⟨fun x hx => ?_, fun x hx => ?_⟩⟩
    · rcases List.mem_cons.mp hx with rfl | hx
      · rw [← h1]
        exact h2
      · exact ih.2.1 x hx
    · rcases List.mem_cons.mp hx with rfl | hx
      · exact ⟨p, by simp, h1⟩
      · obtain ⟨kv, m, e⟩ := ih.2.2 x hx
        exact ⟨kv, by simp [m], e⟩
section
variable {X : Cx}
theorem cr_sortedDT (hcalm : X.calm = true) : CallR X (.builtin "sorted") rSortedDT := by
  intro pins s σ H vs us Q I r h
  obtain ⟨a, kvs, rfl, hd, hk, q⟩ := h
  obtain ⟨u, rfl, ru⟩ := vals1 r
  obtain rfl : u = Value.ref a := ru
  obtain ⟨z, lo, xs, rel, dd⟩ := dt_of I.hok hd
  obtain ⟨e1, e2, e3⟩ := kt_keys rel
  obtain ⟨es, ep, raw, hs, hes⟩ := dd.raw
  have h16 : es.size ≤ sizeLine := by
    rw [hs]
    have := congrArg List.length e1
    simp only [List.length_map] at this
    omega
  refine Calls.call_function_entry PyProof.Rows.kind_sorted PyProof.Rows.plain_sorted PyProof.Rows.entry_sorted (PyProof.Rows.args_sorted1 _) ?_
  unfold Builtin.«sorted»
  refine wpAny_bind (m := checkCount "sorted" 1 1 _) (wpAny_pure ?_)
  refine wpAny_bind (kdu_collect (A := X.A.in1) (KdlSrc.rawDict (es := es) (ep := ep) lo) (I.ok.hd hcalm) raw h16 fun h' tk acc hkeep hacc => ?_)
  have hal : acc.toList = xs.map fun x => Value.ref x.2.1 := by
    refine List.ext_getElem? fun j => ?_
    rw [List.getElem?_map]
    by_cases hj : j < es.size
    · have hj' : j < acc.toList.length := by rw [Array.length_toList, hacc.1]; exact hj
      obtain ⟨y, hy, hy2, _⟩ := hes j hj
      obtain ⟨hi, ev⟩ := hacc.2 j (acc.toList[j]) (by rw [← Array.getElem?_toList, List.getElem?_eq_getElem hj'])
      rw [List.getElem?_eq_getElem hj', hy, ev, hy2]
      rfl
    · rw [List.getElem?_eq_none (by rw [Array.length_toList, hacc.1]; omega), List.getElem?_eq_none (by rw [← hs]; omega)]
      rfl
  have I1 : Inv X pins σ H { s with heap := h', toks := tk } := I.kept hkeep
  have hz : acc.toList.length ≤ sizeLine := by rw [Array.length_toList, hacc.1]; exact h16
  refine wpAny_bind (wpAny_newList ?_ hz)
  have hoL : (h'.push (seqObj "list" acc.toList.toArray 0)).get? h'.objs.size = some (seqObj "list" acc.toList.toArray 0) := Heap.get?_push_size _ rfl
  show wpAny _ _ _ _ _ { s with heap := h'.push (seqObj "list" acc.toList.toArray 0), toks := tk }
  have hp : ∀ v ∈ acc.toList, Srt.IsPair (h'.push (seqObj "list" acc.toList.toArray 0)) v (kH H (backV v)).1 (kH H (backV v)).2 := fun v hv => by
    rw [hal] at hv
    obtain ⟨x, hx, rfl⟩ := List.mem_map.mp hv
    have ht := e2 x hx
    obtain ⟨kv, m, ek⟩ := e3 x hx
    obtain ⟨i, j, eij⟩ := hk kv m
    have ht' : H x.2.1 = some (.tup [.int i, .int j]) := by rw [ht, ← ek, eij]; rfl
    have ek' : kH H (backV (.ref x.2.1)) = (i, j) := by
      show (match H x.2.1 with
        | some (.tup [.int i, .int j]) => (i, j)
        | _ => (0, 0)) = _
      rw [ht']
    rw [ek']
    obtain ⟨_, its2, r2, o, ho, hc, n, hd2⟩ := I1.hok _ _ ht'
    obtain ⟨u1, u2, rfl, ri, rj⟩ := vals2 r2
    obtain ⟨t1, rfl⟩ := ri
    obtain ⟨t2, rfl⟩ := rj
    exact ⟨x.2.1, o, t1, t2, n, rfl, Heap.get?_push_of_some _ ho, hc, hd2⟩
  refine wpAny_bind (wpAny_holding (wpAny_call_entry PyProof.Rows.slot_list_sort ⟨_, hoL, rfl⟩ PyProof.Rows.entry_list_sort
    (SrtO.list_sort_ord (s := { s with heap := h'.push (seqObj "list" acc.toList.toArray 0), toks := tk }) (SrtO.swo_lex fun u => kH H (backV u)) hoL hz (fun h2 => SrtO.pairs_sortableO (by omega) hp fun o e => ?_) fun out h1 h2 => ⟨_, rfl, ?_⟩) (PyProof.Rows.args_list_sort _)))
  · have e' : some o = some (seqObj "list" acc.toList.toArray 0) := e.symm.trans hoL
    cases e'
    intro c
    exact absurd (Value.type.inj c) (by decide)
  obtain ⟨e', he'⟩ := PyProof.Rows.sortedHeap_at (vs := acc.toList) (out := out.toArray) hoL
  obtain ⟨xs', pm, em⟩ := perm_lift (fun x : List Key × Addr × Value => Value.ref x.2.1) h2.perm xs hal.symm
  have eo : out.map backV = (xs'.map fun x => (x.1, x.2.1)).map fun z => V.ref z.2 := by
    rw [← em, List.map_map, List.map_map]
    rfl
  have h3 : ∀ u ∈ out, ∃ a, u = Value.ref a := fun u hu => by
    rw [← em] at hu
    obtain ⟨x, _, rfl⟩ := List.mem_map.mp hu
    exact ⟨_, rfl⟩
  have hlen : (out.map backV).length ≤ sizeLine := by
    rw [List.length_map, h2.len]
    exact hz
  refine wpAny_pure ⟨_, rfl, .ref h'.objs.size, upd H h'.objs.size (.lst (out.map backV)), I1.laid (t' := tk) (fun b u e => ?_) (Nat.le_refl _)
    (show ObjOk X.prog X.w _ _ _ (.lst (out.map backV)) from ⟨hlen, out, e', vals_back h3, he'⟩), rfl, ?_⟩
  · have hb : b < h'.objs.size := Heap.lt_size e
    rw [PyProof.Rows.sortedHeap_old (Nat.ne_of_lt hb) (by rw [size_push']; exact Nat.lt_succ_of_lt hb)]
    exact Heap.get?_push_of_some _ e
  · rw [eo]
    refine q _ _ ?_ ?_ (fun z hz => ?_) ?_ (I1.hok.fresh (Nat.le_refl _))
    · rw [List.length_map, pm.length_eq]
      have := congrArg List.length e1
      simp only [List.length_map] at this
      omega
    · rw [List.map_map, e1]
      exact pm.map _
    · obtain ⟨x, hx, rfl⟩ := List.mem_map.mp hz
      exact e2 x (pm.mem_iff.mp hx)
    · rw [← eo]
      exact SrtO.srtd_map h1
end
end L2
namespace L2
open PySem PySem.Spec PyProof.Rows PySem.W
section
variable {prog : Program} {w : World} {A : Around} {E : Value → Shared → Prop} {s : Shared}
theorem collect_tupT {l : Addr} {vs : List Value} {o : Obj} {n : Nat} {Q : List Value → Shared → Prop} (ho : s.heap.get? l = some o) (hc : o.cls = .type "tuple") (hd : o.data = .seq vs.toArray n)
    (h : Q vs { s with heap := (s.heap.push (seqObj "list" #[] 0)).update s.heap.objs.size (Obj.mapSeq (· ++ vs.toArray)) }) (hsz : vs.length ≤ sizeLine) :
    wpAny (model prog w) A (collect (.ref l)) Q E s := by
  unfold collect
  refine wpAny_bind (wpAny_runValue (codeAny_builtin entry_proto_collect' ?_))
  show wpAny _ _ (do again (.builtin "list.__iadd__" ⟨[← newList [], .ref l], []⟩)) _ _ s
  refine wpAny_bind (wpAny_newList (wpAny_pure ⟨Code.quiet_builtin _ (by decide +kernel), codeAny_builtin entry_list_iadd' ?_⟩))
  show wpAny _ _ (Builtin.List.listExtendWith (.ref s.heap.objs.size) (.ref l) (.ref s.heap.objs.size)) _ _ { s with heap := s.heap.push (seqObj "list" #[] 0) }
  unfold Builtin.List.listExtendWith
  have ho' : (s.heap.push (seqObj "list" #[] 0)).get? l = some o := Heap.get?_push_of_some _ ho
  refine wpAny_bind (wpAny_typeOf (T := "tuple") ⟨o, ho', hc⟩ ?_)
  have ht : (Value.type "tuple" == Value.type "tuple") = true := by rfl
  rw [if_pos (by rw [ht]; simp)]
  refine wpAny_bind (listItems_at ho' hd ?_)
  refine wpAny_bind (listItems_at (xs := #[]) (n := 0) (Heap.get?_push_size _ rfl) rfl ?_)
  rw [if_neg (by simp)]
  refine wpAny_bind (listUpdate_at (xs := #[]) (n := 0) (Heap.get?_push_size _ rfl) rfl ?_ (Nat.zero_le _) (by show (#[] ++ vs.toArray).size ≤ sizeLine + 1; simp only [Array.size_append, List.size_toArray, List.length_nil]; omega))
  refine wpAny_pure ?_
  show wpAny (model prog w) A (do
      let o ← load s.heap.objs.size
      match o.data with
      | .seq xs _ => pure xs.toList
      | _ => unsupported "internal:collect") Q E { s with heap := (s.heap.push (seqObj "list" #[] 0)).update s.heap.objs.size (Obj.mapSeq (· ++ vs.toArray)) }
  refine wpAny_bind (wpAny_load (get?_update_seq (Heap.get?_push_size _ rfl) _) ?_)
  show wpAny _ _ (pure ((#[] : Array Value) ++ vs.toArray).toList) Q E _
  rw [show ((#[] : Array Value) ++ vs.toArray).toList = vs by simp]
  exact wpAny_pure h
end
def rSortedIT : List V → Hp → VK → Prop := fun vs H Q => ∃ (a : Addr) (ns : List Int), vs = [V.ref a] ∧ H a = some (.tup (ns.map V.int)) ∧
  ∀ (ns' : List Int) (p : Addr), ns'.Perm ns → ns'.Pairwise (· ≤ ·) → H p = none → Q (.ref p) (upd H p (.lst (ns'.map V.int)))
section
variable {X : Cx}
theorem cr_sortedIT : CallR X (.builtin "sorted") rSortedIT := by
  intro pins s σ H vs us Q I r h
  obtain ⟨a, ns, rfl, hs, q⟩ := h
  obtain ⟨u, rfl, ru⟩ := vals1 r
  obtain rfl : u = Value.ref a := ru
  obtain ⟨hz, its, rv, o, ho, hc, n, hd⟩ := I.hok _ _ hs
  have hi := rv.ints
  have hz' : its.length ≤ sizeLine := by rw [← rv.length]; exact hz
  refine Calls.call_function_entry PyProof.Rows.kind_sorted PyProof.Rows.plain_sorted PyProof.Rows.entry_sorted (PyProof.Rows.args_sorted1 _) ?_
  unfold Builtin.«sorted»
  refine wpAny_bind (m := checkCount "sorted" 1 1 _) (wpAny_pure ?_)
  refine wpAny_bind (collect_tupT ho hc hd ?_ hz')
  have hk : ∀ b u, s.heap.get? b = some u → ((s.heap.push (seqObj "list" #[] 0)).update s.heap.objs.size (Obj.mapSeq (· ++ its.toArray))).get? b = some u := fun b u e => by
    rw [Heap.get?_update_ne _ _ _ _ (Nat.ne_of_lt (Heap.lt_size e))]
    exact Heap.get?_push_of_some _ e
  generalize (s.heap.push (seqObj "list" #[] 0)).update s.heap.objs.size (Obj.mapSeq (· ++ its.toArray)) = h' at hk ⊢
  have I1 : Inv X pins σ H { s with heap := h', toks := s.toks } := I.kept hk
  refine wpAny_bind (wpAny_newList ?_ hz')
  have hoL : (h'.push (seqObj "list" its.toArray 0)).get? h'.objs.size = some (seqObj "list" its.toArray 0) := Heap.get?_push_size _ rfl
  show wpAny _ _ _ _ _ { s with heap := h'.push (seqObj "list" its.toArray 0) }
  refine wpAny_bind (wpAny_holding (wpAny_call_entry PyProof.Rows.slot_list_sort ⟨_, hoL, rfl⟩ PyProof.Rows.entry_list_sort
    (SrtO.list_sort_ord (s := { s with heap := h'.push (seqObj "list" its.toArray 0) }) SrtO.swo_int hoL hz' (fun h2 => SrtO.ints_sortable hi h2) fun out h1 h2 => ⟨_, rfl, ?_⟩) (PyProof.Rows.args_list_sort _)))
  obtain ⟨k1, k2, k3⟩ := SrtO.ints_out hi h1 h2
  obtain ⟨e', he'⟩ := PyProof.Rows.sortedHeap_at (vs := its) (out := out.toArray) hoL
  have hlen : ((out.map SrtO.iv).map V.int).length ≤ sizeLine := by
    rw [List.length_map, k2.length_eq]
    rw [List.length_map] at hz
    exact hz
  refine wpAny_pure ⟨_, rfl, .ref h'.objs.size, upd H h'.objs.size (.lst ((out.map SrtO.iv).map V.int)), I1.laid (t' := s.toks) (fun b u e => ?_) (Nat.le_refl _)
    (show ObjOk X.prog X.w _ _ _ (.lst ((out.map SrtO.iv).map V.int)) from ⟨hlen, out, e', vals_of_ints k1, he'⟩), rfl, q _ _ k2 k3 (I1.hok.fresh (Nat.le_refl _))⟩
  have hb : b < h'.objs.size := Heap.lt_size e
  rw [PyProof.Rows.sortedHeap_old (Nat.ne_of_lt hb) (by rw [size_push']; exact Nat.lt_succ_of_lt hb)]
  exact Heap.get?_push_of_some _ e
/-- sorted of ints (list or tuple), of a dict with pairs for keys -/
def rSortedX (K : PySem.W.Frag) : List V → Hp → VK → Prop := fun vs H Q => rSortedI K vs H Q ∨ rSortedIT vs H Q ∨ rSortedDT vs H Q
theorem cr_sortedX (hc : X.calm = true) : CallR X (.builtin "sorted") (rSortedX X.K) := by
  intro pins s σ H vs us Q I r h
  rcases h with h | h | h
  · exact cr_sortedI pins s σ H vs us Q I r h
  · exact cr_sortedIT pins s σ H vs us Q I r h
  · exact cr_sortedDT hc pins s σ H vs us Q I r h
theorem kSortedX {K : PySem.W.Frag} (hc : X.calm = true) (e : X.K = K := by rfl) : CallR X (.builtin "sorted") (rSortedX K) := e ▸ cr_sortedX hc
end
end L2
set_option Elab.async false
set_option linter.all false
set_option maxRecDepth 100000
set_option maxHeartbeats 4000000
/-! Sh: what == asks of data (SeqAt.shaped). -/
namespace Dw
open PySem PySem.Spec PyProof.Rows L2
mutual
theorem D.lay : ∀ {d : D} {p : PyData}, d.sm = true → d.py = some p → p.canLay0 = true
  | .non, _, _, h => by cases h; rfl
  | .bl b, _, _, h => by cases h; rfl
  | .int i, _, _, h => by cases h; rfl
  | .str x, _, s, h => by
    cases h
    rw [sm_str] at s
    exact s
  | .lst ds, p, s, h => by
    simp only [D.py] at h
    cases e : D.pys ds with
    | none => rw [e] at h; cases h
    | some ps =>
      rw [e] at h
      cases h
      exact D.lays (by simpa using s) e
  | .tup ds, p, s, h => by
    simp only [D.py] at h
    cases e : D.pys ds with
    | none => rw [e] at h; cases h
    | some ps =>
      rw [e] at h
      cases h
      exact D.lays (by simpa using s) e
  | .dic _, _, s, _ => by simp at s
  | .dit _, _, s, _ => by simp at s
  | .obj _ _, _, s, _ => by simp at s
  | .opq _, _, s, _ => by simp at s
  | .ty _, _, s, _ => by simp at s
theorem D.lays : ∀ {ds : List D} {ps : List PyData}, (∀ d ∈ ds, d.sm = true) → D.pys ds = some ps → PyData.canLayAll0 ps = true
  | [], _, _, h => by cases h; rfl
  | d :: r, _, s, h => by
    simp only [D.pys] at h
    cases e : d.py with
    | none => rw [e] at h; cases h
    | some p =>
      cases e2 : D.pys r with
      | none => rw [e, e2] at h; cases h
      | some ps =>
        rw [e, e2] at h
        cases h
        show (p.canLay0 && PyData.canLayAll0 ps) = true
        rw [D.lay (s d (by simp)) e, D.lays (fun z hz => s z (by simp [hz])) e2]
        rfl
end
theorem Pq.shaped {n k : Nat} {d : D} (h : Pq n k d) (hk : k ≤ 64) : ∃ p, d.py = some p ∧ SeqAt.shaped p = true := by
  obtain ⟨p, e, a, b, c⟩ := D.rp h.1
  refine ⟨p, e, ?_⟩
  unfold SeqAt.shaped
  rw [D.lay h.1 e, decide_eq_true (show p.depth ≤ 64 from Nat.le_trans c (Nat.le_trans h.2.2 hk))]
  rfl
end Dw
set_option Elab.async false
set_option linter.all false
set_option maxRecDepth 100000
set_option maxHeartbeats 4000000
/-! Hx: the hand that numbers are drawn of (a list: its cells, four numbers) over data, as the world that changes. -/
namespace Dw
open PySem PySem.Spec PyProof.Rows L2
structure Hand where
  a : Addr
  c : Addr
  cells : List Int
  at_ : Int
  rest : Int
  mix : Int
  many : Int
def Hand.xs (b : Hand) : List V := [.ref b.c, .int b.at_, .int b.rest, .int b.mix, .int b.many]
def HW : Wd Hand where
  C b x := x = b.a ∨ x = b.c
  J b H := H b.a = some (.lst b.xs) ∧ H b.c = some (.lst (b.cells.map V.int)) ∧ b.cells.length ≤ sizeLine ∧ b.c ≠ b.a
  tr := by
    rintro s H a ⟨h1, h2, _⟩ (rfl | rfl)
    · rw [h1]; simp
    · rw [h2]; simp
  ct := by
    rintro s H a xs ⟨h1, h2, _⟩ (rfl | rfl)
    · rw [h1]; simp
    · rw [h2]; simp
  st := by
    rintro s H H' ⟨h1, h2, h3⟩ h _
    exact ⟨(h _ (.inl rfl)).trans h1, (h _ (.inr rfl)).trans h2, h3⟩
def hget (b : Hand) (i : Int) : Option D := if i = 0 then some (.opq b.c) else if i = 1 then some (.int b.at_) else if i = 2 then some (.int b.rest) else if i = 3 then some (.int b.mix) else if i = 4 then some (.int b.many) else none
def hput (b : Hand) (i : Int) : D → Option Hand
  | .int n => if i = 1 then some { b with at_ := n } else if i = 2 then some { b with rest := n } else if i = 3 then some { b with mix := n } else if i = 4 then some { b with many := n } else none
  | _ => none
@[simp] theorem hget_0 (b : Hand) : hget b 0 = some (.opq b.c) := rfl
@[simp] theorem hget_1 (b : Hand) : hget b 1 = some (.int b.at_) := rfl
@[simp] theorem hget_2 (b : Hand) : hget b 2 = some (.int b.rest) := rfl
@[simp] theorem hget_3 (b : Hand) : hget b 3 = some (.int b.mix) := rfl
@[simp] theorem hget_4 (b : Hand) : hget b 4 = some (.int b.many) := rfl
@[simp] theorem hput_1 (b : Hand) (i : Int) : hput b 1 (.int i) = some { b with at_ := i } := rfl
@[simp] theorem hput_2 (b : Hand) (i : Int) : hput b 2 (.int i) = some { b with rest := i } := rfl
@[simp] theorem hput_3 (b : Hand) (i : Int) : hput b 3 (.int i) = some { b with mix := i } := rfl
@[simp] theorem hput_4 (b : Hand) (i : Int) : hput b 4 (.int i) = some { b with many := i } := rfl
/-- hand[i], hand[0][i] -/
@[simp] def wIxH : D → D → Hand → (D → Hand → Prop) → Prop := fun d e s k => match d, e with
  | .opq x, .int i => if x = s.c then (match atI s.cells i with
      | some n => k (.int n) s
      | none => False)
    else x = s.a ∧ (match hget s i with
      | some d => k d s
      | none => False)
  | d, e => wIx d e s k
@[simp] def wLenH : List D → Hand → (D → Hand → Prop) → Prop := fun ds s k => match ds with
  | [.opq c] => c = s.c ∧ k (.int s.cells.length) s
  | ds => wLen ds s k
/-- hand[i] = .., or an own list's item -/
@[simp] def wSetH (i : Nat) (wv wk : WE Hand) : WS Hand := fun KK env s => match sg env i with
  | .dat (.opq a) => wv env s (fun v t => wk env t (fun k u => match k with
    | .int z => a = u.a ∧ (match hput u z v with
      | some u' => KK.nx env u'
      | none => False)
    | _ => False) KK.xc) KK.xc
  | _ => wSetL i wv wk KK env s
section
variable {G : Gm Hand} {K : PySem.W.Frag}
end
/-- the hand stands at a -/
def Ho (a : Addr) (s : Hand) : Prop := s.a = a ∧ s.c ≠ s.a ∧ 0 ≤ s.at_ ∧ 0 ≤ s.rest
def spHand (K : PySem.W.Frag) : Sp := fun vs H Q _ => ∃ (a : Addr) (ns : List Int), vs = [.ref a] ∧ ns.length ≤ 1000 ∧ SqL K H a (ns.map V.int) ∧ ∀ (b : Hand) H', HW.J b H' → Ho b.a b → Q (.ref b.a) H'
end Dw
set_option Elab.async false
set_option linter.all false
set_option maxRecDepth 100000
set_option maxHeartbeats 4000000
/-! Sp: sorted over data. -/
namespace Dw
open PySem PySem.Spec PyProof.Rows L2
def prD (p : Int × Int) : D := .tup [.int p.1, .int p.2]
def prK (p : Int × Int) : List Key := [.inl p.1, .inl p.2]
@[simp] def wSortX {S : Type} : List D → S → (D → S → Prop) → Prop := fun ds s k => match ds with
  | [.lst es] => ∃ ns, D.ints es = some ns ∧ ∀ ms : List Int, ms.Perm ns → ms.Pairwise (· ≤ ·) → k (.lst (ms.map D.int)) s
  | [.tup es] => ∃ ns, D.ints es = some ns ∧ ∀ ms : List Int, ms.Perm ns → ms.Pairwise (· ≤ ·) → k (.lst (ms.map D.int)) s
  | [.dit kvs] => ∃ ps : List (Int × Int), kvs.map (·.1) = ps.map prK ∧ ∀ qs : List (Int × Int), qs.Perm ps → qs.Pairwise (fun x y => SrtO.lexB y x = false) → k (.lst (qs.map prD)) s
  | _ => False
theorem DaT.keys {B : Addr → Prop} {H : Hp} {xs : List (List Key × V)} {ds : List (List Key × D)} (h : DaT B H xs ds) : xs.map (·.1) = ds.map (·.1) := by
  induction xs generalizing ds with
  | nil => cases h; rfl
  | cons x r ih =>
    cases h with
    | cons a b => rw [List.map_cons, List.map_cons, ih b]
theorem perm_pairs {l : List (List Key)} {ps : List (Int × Int)} (h : l.Perm (ps.map prK)) : ∃ qs : List (Int × Int), qs.Perm ps ∧ l = qs.map prK := by
  obtain ⟨qs, a, b⟩ := perm_lift prK h ps rfl
  exact ⟨qs, a, b.symm⟩
section
variable {S : Type} {W : Wd S} {K : PySem.W.Frag}
theorem pairs_da {R : Addr → Prop} {s : S} {H H' : Hp} (t : At W R s H) (hk : ∀ b o, H b = some o → H' b = some o) : ∀ (zs : List (List Key × Addr)) (qs : List (Int × Int)), zs.map (·.1) = qs.map prK → (∀ z ∈ zs, H z.2 = some (.tup (z.1.map kV))) →
    DaL (Bf W R s) H' (zs.map fun z => V.ref z.2) (qs.map prD) ∧ (zs.map fun z => kH H (V.ref z.2)) = qs
  | [], [], _, _ => ⟨.nil, rfl⟩
  | z :: zs, q :: qs, e, h => by
    rw [List.map_cons, List.map_cons] at e
    obtain ⟨e1, e2⟩ := List.cons.inj e
    obtain ⟨a, b⟩ := pairs_da t hk zs qs e2 fun y hy => h y (by simp [hy])
    have hz := h z (by simp)
    rw [e1] at hz
    have hz : H z.2 = some (.tup [.int q.1, .int q.2]) := hz
    refine ⟨.cons (.tup (hk _ _ hz) (t.tup hz) (.cons (.int _) (.cons (.int _) .nil)) two_le) a, ?_⟩
    rw [List.map_cons, b]
    congr 1
    show (match H z.2 with
      | some (.tup [.int i, .int j]) => (i, j)
      | _ => (0, 0)) = _
    rw [hz]
  | [], q :: qs, e, _ => by simp at e
  | z :: zs, [], e, _ => by simp at e
theorem sc_sortX : SimC W (rSortedX K) wSortX := fun R s H at_ xs ds a k hw Q hQ => by
  match ds, a, hw with
  | [.lst es], a, hw => exact .inl (sc_sortI R s H at_ xs _ a k hw Q hQ)
  | [.tup es], a, ⟨ns, hn, hk⟩ =>
    obtain ⟨v, rfl, a1⟩ := a.one
    cases a1 with
    | da a1 =>
      cases a1 with
      | @tup p xs _ e n l z =>
        have ev := l.ints hn
        subst ev
        refine .inr (.inl ⟨p, ns, rfl, e, fun ms q pm pw hq => hQ _ _ _ (hk ms pm pw) (.new_at hq at_) (at_.new_at hq).j (.lst upd_same (at_.fresh hq) (daL_ints ms) ?_)⟩)
        have e1 := l.len
        rw [List.length_map] at e1
        rw [List.length_map, pm.length_eq, e1]
        exact z
  | [.dit kvs], a, ⟨ps, hp, hk⟩ =>
    obtain ⟨v, rfl, a1⟩ := a.one
    have fin : ∀ (p : Addr) (xs : List (List Key × V)), H p = some (.dT xs) → xs.map (·.1) = kvs.map (·.1) → rSortedX K [.ref p] H Q := fun p xs e l => by
      rw [hp] at l
      refine .inr (.inr ⟨p, xs, rfl, e, fun kv m => ?_, fun zs q h0 h1 h2 h3 hq => ?_⟩)
      · have : kv.1 ∈ ps.map prK := by
          rw [← l]
          exact List.mem_map.mpr ⟨kv, m, rfl⟩
        obtain ⟨x, _, ex⟩ := List.mem_map.mp this
        exact ⟨x.1, x.2, ex.symm⟩
      · rw [l] at h1
        obtain ⟨qs, pq, eq⟩ := perm_pairs h1
        obtain ⟨d1, d2⟩ := pairs_da at_ (H' := upd H q (.lst (zs.map fun z => V.ref z.2))) (fun b o eb => by rw [upd_ne (ne_of_none eb hq)]; exact eb) zs qs eq h2
        refine hQ _ _ _ (hk qs pq ?_) (.new_at hq at_) (at_.new_at hq).j (.lst upd_same (at_.fresh hq) d1 ?_)
        · rw [← d2]
          exact List.pairwise_map.mpr (List.pairwise_map.mp h3)
        · have := congrArg List.length eq
          simp only [List.length_map] at this ⊢
          omega
    cases a1 with
    | da a1 =>
      cases a1 with
      | dit e n l => exact fin _ _ e l.keys
    | dit e n l => exact fin _ _ e l.keys
end
end Dw
set_option Elab.async false
set_option linter.all false
set_option maxRecDepth 100000
set_option maxHeartbeats 4000000
/-! Tn: x in a tuple and tuple.index by data; a tuple times 1. -/
namespace L2
open PySem PySem.Spec PyProof.Rows
def rInTD (K : PySem.W.Frag) : R2 := fun x y H Q => ∃ d ds, Dp K H x d ∧ Dp K H y (.tuple ds) ∧ SeqAt.shaped d = true ∧ SeqAt.shaped (.tuple ds) = true ∧ Q (.bl (ds.any fun z => PyData.eqv z d)) H
def rNotInTD (K : PySem.W.Frag) : R2 := fun x y H Q => ∃ d ds, Dp K H x d ∧ Dp K H y (.tuple ds) ∧ SeqAt.shaped d = true ∧ SeqAt.shaped (.tuple ds) = true ∧ Q (.bl (!ds.any fun z => PyData.eqv z d)) H
section
variable {X : Cx}
/-- t.index(x): the first place of an equal one -/
def rIndexTD (K : PySem.W.Frag) : V → List V → Hp → VK → Prop := fun x xs H Q => ∃ (a : Addr) (y : V) (d : PyData) (ds : List PyData) (j : Nat) (z : PyData), x = V.ref a ∧ xs = [y] ∧ Dp K H (V.ref a) (.tuple ds) ∧ Dp K H y d ∧
  SeqAt.shaped (.tuple ds) = true ∧ SeqAt.shaped d = true ∧ ds[j]? = some z ∧ PyData.eqv z d = true ∧ (∀ (m : Nat) (z' : PyData), m < j → ds[m]? = some z' → PyData.eqv z' d = false) ∧ Q (.int (j : Nat)) H
end
/-- a tuple times 1: itself -/
def rRepT1 (K : PySem.W.Frag) : R2 := fun x y H Q => ∃ l xs, x = .ref l ∧ y = .int 1 ∧ SqT K H l xs ∧ Q (.ref l) H
section
variable {X : Cx}
end
end L2
set_option Elab.async false
set_option linter.all false
set_option maxRecDepth 100000
set_option maxHeartbeats 4000000
/-! Nk: dicts whose keys are tuples within tuples. -/
namespace L2
open PySem PySem.Spec PyProof.Rows
mutual
inductive KeyV (H : Hp) : NestedKey → V → Prop
  | int (i : Int) : KeyV H (.num i) (.int i)
  | str (x : Str) : KeyV H (.text x) (.str x)
  | tup {t : Addr} {xs : List V} {ks : List NestedKey} : H t = some (.tup xs) → KeyVs H ks xs → KeyV H (.tup ks) (.ref t)
inductive KeyVs (H : Hp) : List NestedKey → List V → Prop
  | nil : KeyVs H [] []
  | cons {k : NestedKey} {v : V} {ks : List NestedKey} {vs : List V} : KeyV H k v → KeyVs H ks vs → KeyVs H (k :: ks) (v :: vs)
end
mutual
theorem KeyV.keeps {H H' : Hp} (hk : ∀ t xs, H t = some (.tup xs) → H' t = some (.tup xs)) : ∀ {k : NestedKey} {v : V}, KeyV H k v → KeyV H' k v
  | _, _, .int i => .int i
  | _, _, .str x => .str x
  | _, _, .tup e h => .tup (hk _ _ e) (h.keeps hk)
theorem KeyVs.keeps {H H' : Hp} (hk : ∀ t xs, H t = some (.tup xs) → H' t = some (.tup xs)) : ∀ {k : List NestedKey} {v : List V}, KeyVs H k v → KeyVs H' k v
  | _, _, .nil => .nil
  | _, _, .cons h t => .cons (h.keeps hk) (t.keeps hk)
end
mutual
theorem KeyV.is {P : Program} {w : World} {H : Hp} {h : Heap} (ok : HOk P w H h) : ∀ {k : NestedKey} {v : V} {u : Value}, KeyV H k v → RelV v u → NestedIs h k u
  | _, _, _, .int i, r => by
    obtain ⟨t, rfl⟩ := r
    exact .int i t
  | _, _, _, .str x, r => by
    obtain ⟨t, rfl⟩ := r
    exact .text x t
  | _, _, _, .tup e l, r => by
    cases r
    obtain ⟨_, its, rv, o, ho, hc, n, hd⟩ := (show ObjOk P w H h _ (.tup _) from ok _ _ e)
    exact .tup ho hc hd (by simpa using l.is ok rv)
theorem KeyVs.is {P : Program} {w : World} {H : Hp} {h : Heap} (ok : HOk P w H h) : ∀ {k : List NestedKey} {v : List V} {u : List Value}, KeyVs H k v → Vals v u → NestedAll h k u
  | _, _, _, .nil, .nil => .nil
  | _, _, _, .cons a t, .cons r rs => .cons (a.is ok r) (t.is ok rs)
end
abbrev NR (p : NestedKey × Addr × V) (q : NestedKey × Addr × Value) : Prop := p.1 = q.1 ∧ p.2.1 = q.2.1 ∧ RelV p.2.2 q.2.2
def NDφ (P : Program) (w : World) (a : Addr) (xs : List (NestedKey × Addr × V)) (h : Heap) : Prop := (a == sysModules) = false ∧ xs.length ≤ sizeLine ∧ ∃ ys : List (NestedKey × Addr × Value), Paired NR xs ys ∧
  ∃ o es ep, h.get? a = some o ∧ o.ExactDict ∧ o.data = .dict es ep ∧ es.toList = ys.map (entryOfKey (nestedKind P w)) ∧ (ys.map (·.1)).Nodup
def NDO (P : Program) (w : World) (a : Addr) (xs : List (NestedKey × Addr × V)) : HO := .ext (NDφ P w a xs)
theorem NDO_ok {P : Program} {w : World} {H : Hp} {h : Heap} {a : Addr} {xs : List (NestedKey × Addr × V)} (x : NDφ P w a xs h) : ObjOk P w H h a (NDO P w a xs) := by
  refine ⟨x, ?_, fun h1 h2 x1 k => ?_⟩
  · obtain ⟨_, _, _, _, o, _, _, e, _⟩ := x
    exact ⟨o, e⟩
  · obtain ⟨a1, a2, ys, r, o, es, ep, e, q⟩ := x1
    exact ⟨a1, a2, ys, r, o, es, ep, k o e, q⟩
/-- at a stands the dict xs -/
def ND (P : Program) (w : World) (H : Hp) (a : Addr) (xs : List (NestedKey × Addr × V)) : Prop := H a = some (NDO P w a xs) ∧ ∀ x ∈ xs, KeyV H x.1 (.ref x.2.1) ∧ x.1.depth ≤ 8
def atN (xs : List (NestedKey × Addr × V)) (k : NestedKey) : Option V := (xs.find? fun x => decide (x.1 = k)).map (·.2.2)
theorem NR.at {k : NestedKey} : ∀ {xs : List (NestedKey × Addr × V)} {ys : List (NestedKey × Addr × Value)}, Paired NR xs ys → (atN xs k = none ∧ atKey ys k = none) ∨ ∃ v p, atN xs k = some v ∧ atKey ys k = some p ∧ RelV v p.2
  | _, _, .nil => .inl ⟨rfl, rfl⟩
  | x :: xs, y :: ys, .cons h t => by
    obtain ⟨h1, h2, h3⟩ := h
    by_cases e : x.1 = k
    · exact .inr ⟨x.2.2, y.2, by simp [atN, List.find?_cons, e], by simp [atKey, List.find?_cons, ← h1, e], h3⟩
    · have e' : ¬ y.1 = k := by rw [← h1]; exact e
      rcases NR.at (k := k) t with ⟨a, b⟩ | ⟨v, p, a, b, c⟩
      · exact .inl ⟨by simpa [atN, List.find?_cons, e] using a, by simpa [atKey, List.find?_cons, e'] using b⟩
      · exact .inr ⟨v, p, by simpa [atN, List.find?_cons, e] using a, by simpa [atKey, List.find?_cons, e'] using b, c⟩
section
variable {X : Cx} {pins : List (Addr × Obj)} {σ : St} {H : Hp} {s : Shared} {a b : Addr} {xs : List (NestedKey × Addr × V)} {k : NestedKey} {A : Around} {E : Value → Shared → Prop}
theorem ND.of (I : Inv X pins σ H s) (d : ND X.prog X.w H a xs) : (a == sysModules) = false ∧ xs.length ≤ sizeLine ∧ ∃ ys, Paired NR xs ys ∧ s.heap.DictOfH (nestedKind X.prog X.w) a ys := by
  obtain ⟨e, hk⟩ := d
  obtain ⟨⟨h1, h2, ys, r, o, es, ep, g, ex, dt, ee, nd⟩, _⟩ := (show ObjOk X.prog X.w H s.heap a (NDO X.prog X.w a xs) from I.hok a _ e)
  refine ⟨h1, h2, ys, r, o, es, ep, g, ex, dt, ee, ?_, nd⟩
  have all : ∀ {l : List (NestedKey × Addr × V)} {m : List (NestedKey × Addr × Value)}, Paired NR l m → (∀ x ∈ l, KeyV H x.1 (.ref x.2.1) ∧ x.1.depth ≤ 8) → ∀ x ∈ m, (nestedKind X.prog X.w).is s.heap x.1 x.2.1 := by
    intro l m q
    induction q with
    | nil => intro _ x hx; exact nomatch hx
    | @cons p q ps qs hq t ih =>
      intro hl x hx
      rcases List.mem_cons.mp hx with rfl | hx
      · obtain ⟨z1, z2⟩ := hl p (by simp)
        rw [← hq.1, ← hq.2.1]
        exact ⟨z1.is I.hok rfl, z2⟩
      · exact ih (fun y hy => hl y (by simp [hy])) x hx
  exact all r hk
theorem nd_in {Q : Value → Shared → Prop} (hu : A.units + 9 < cLine) (I : Inv X pins σ H s) (d : ND X.prog X.w H a xs) (kk : KeyV H k (.ref b)) (kd : k.depth ≤ 8) (h : ∀ s', Inv X pins σ H s' → Q (.bool (!(atN xs k).isSome)) s') :
    wpAny (model X.prog X.w) A (compareOp .NotIn (.ref b) (.ref a)) Q E s := by
  obtain ⟨h1, _, ys, r, dd⟩ := d.of I
  refine wpAny_notIn_heap (knd := nestedKind X.prog X.w) (show A.in1.units + 8 < cLine from by show A.units + 1 + 8 < cLine; omega) ⟨kk.is I.hok rfl, kd⟩ h1 dd ?_
  have : (atKey ys k).isSome = (atN xs k).isSome := by rcases NR.at (k := k) r with ⟨x, y⟩ | ⟨v, p, x, y, _⟩ <;> rw [x, y] <;> rfl
  rw [this]
  exact h _ (I.tok _)
theorem nd_get {Q : Value → Shared → Prop} {v : V} (hu : A.units + 9 < cLine) (I : Inv X pins σ H s) (d : ND X.prog X.w H a xs) (kk : KeyV H k (.ref b)) (kd : k.depth ≤ 8) (hv : atN xs k = some v) (h : ∀ u s', Inv X pins σ H s' → RelV v u → Q u s') :
    wpAny (model X.prog X.w) A (getItem (.ref a) (.ref b)) Q E s := by
  obtain ⟨h1, _, ys, r, dd⟩ := d.of I
  rcases NR.at (k := k) r with ⟨x, y⟩ | ⟨v', p, x, y, z⟩
  · rw [hv] at x; cases x
  · rw [hv] at x
    cases x
    exact wpAny_getItem_heap (knd := nestedKind X.prog X.w) (show A.in1.units + 8 < cLine from by show A.units + 1 + 8 < cLine; omega) ⟨kk.is I.hok rfl, kd⟩ dd y (h _ _ (I.tok _) z)
/-- a new key -/
theorem nd_put {Q : Unit → Shared → Prop} {v : V} {u : Value} (hu : A.units + 9 < cLine) (I : Inv X pins σ H s) (d : ND X.prog X.w H a xs) (kk : KeyV H k (.ref b)) (kd : k.depth ≤ 8) (hv : atN xs k = none) (hl : xs.length < sizeLine) (rv : RelV v u)
    (h : ∀ s', Inv X pins σ (upd H a (NDO X.prog X.w a (xs ++ [(k, b, v)]))) s' → Q () s') : wpAny (model X.prog X.w) A (setItem (.ref a) (.ref b) u) Q E s := by
  have e := d.1
  obtain ⟨h1, hz, ys, r, dd⟩ := d.of I
  have yn : atKey ys k = none := by
    rcases NR.at (k := k) r with ⟨x, y⟩ | ⟨v', p, x, y, z⟩
    · exact y
    · rw [hv] at x; cases x
  have ly : ys.length = xs.length := (Paired.length r).symm
  refine wpAny_setItem_heap (knd := nestedKind X.prog X.w) (hsz := by omega) (show A.in1.units + 8 < cLine from by show A.units + 1 + 8 < cLine; omega) ⟨kk.is I.hok rfl, kd⟩ dd fun h' dd' hs => h _ ?_
  rw [storedH_new yn] at dd'
  obtain ⟨q, es, ep, hq, h2, h3, h4, _, h5⟩ := dd'
  refine d_write I (by rw [e]; exact True.intro) hs ⟨q, hq⟩ (NDO_ok ⟨h1, by rw [List.length_append]; simp; omega, _, ?_, q, es, ep, hq, h2, h3, h4, h5⟩)
  have app : ∀ {l : List (NestedKey × Addr × V)} {m : List (NestedKey × Addr × Value)}, Paired NR l m → Paired NR (l ++ [(k, b, v)]) (m ++ [(k, b, u)]) := by
    intro l m q
    induction q with
    | nil => exact .cons ⟨rfl, rfl, rv⟩ .nil
    | cons hq t ih => exact .cons hq ih
  exact app r
end
theorem huN {k : Nat} {A : Around} (r : Room k A) : A.units + 9 < cLine := by have := r.un; omega
def tNNotIn (P : Program) (w : World) (ty td : TE) : TE := fun σ H Q => ty σ H fun y H1 => td σ H1 fun x H2 => ∃ a b xs k, x = .ref a ∧ y = .ref b ∧ ND P w H2 a xs ∧ KeyV H2 k (.ref b) ∧ k.depth ≤ 8 ∧ Q (.bl (!(atN xs k).isSome)) H2
def tNGet (P : Program) (w : World) (td ty : TE) : TE := fun σ H Q => td σ H fun x H1 => ty σ H1 fun y H2 => ∃ a b xs k v, x = .ref a ∧ y = .ref b ∧ ND P w H2 a xs ∧ KeyV H2 k (.ref b) ∧ k.depth ≤ 8 ∧ atN xs k = some v ∧ Q v H2
def rSetN (P : Program) (w : World) : V → V → V → Hp → (Hp → Prop) → Prop := fun o i v H Q => ∃ a b xs k, o = .ref a ∧ i = .ref b ∧ ND P w H a xs ∧ KeyV H k (.ref b) ∧ k.depth ≤ 8 ∧ atN xs k = none ∧ xs.length < sizeLine ∧ Q (upd H a (NDO P w a (xs ++ [(k, b, v)])))
section
variable {X : Cx} {o i : Expr} {td ty : TE} {pos : Pos}
theorem pc_nnotin (hu : X.A.units + 9 < cLine) (hi : PE X i ty) (ho : PE X o td) : PC X .NotIn i o (tNNotIn X.prog X.w ty td) := by
  refine ⟨fun pins s σ H Q I h => ?_⟩
  refine thn (hi.run pins s σ H _ I h) fun iv s1 ⟨y, H1, I1, ry, q1⟩ => thn (ho.run pins s1 σ H1 _ I1 q1) fun u s2 ⟨x, H2, I2, rx, a, b, xs, k, ex, ey, d, kk, kd, q2⟩ => ?_
  subst ex ey
  obtain rfl : u = Value.ref a := rx
  obtain rfl : iv = Value.ref b := ry
  exact nd_in hu I2 d kk kd fun s3 I3 => ⟨.bl _, H2, I3, rfl, q2⟩
theorem pe_nget (hu : X.A.units + 9 < cLine) (ho : PE X o td) (hi : PE X i ty) (hs : NoSl i) : PE X (.Subscript o i pos) (tNGet X.prog X.w td ty) := by
  refine ⟨fun pins s σ H Q I h => ?_⟩
  refine subD_of PySem.F.slot_dict_getitem.lookup hs (thn (ho.run pins s σ H _ I h) fun u s1 ⟨x, H1, I1, rx, q1⟩ => thn (hi.run pins s1 σ H1 _ I1 q1) fun iv s2 ⟨y, H2, I2, ry, a, b, xs, k, v, ex, ey, d, kk, kd, hv, q2⟩ => ?_)
  subst ex ey
  obtain rfl : u = Value.ref a := rx
  obtain rfl : iv = Value.ref b := ry
  obtain ⟨_, _, ys, _, dd⟩ := d.of I2
  exact ⟨dd.typeIs, nd_get hu I2 d kk kd hv fun w' s3 I3 rw' => ⟨v, H2, I3, rw', q2⟩⟩
theorem set_n (hu : X.A.units + 9 < cLine) : PSet X (rSetN X.prog X.w) := by
  intro pins s σ H o i v ov iv u Q I ro ri rv h
  obtain ⟨a, b, xs, k, eo, ei, d, kk, kd, hv, hl, q⟩ := h
  subst eo ei
  cases (show ov = Value.ref a from ro)
  cases (show iv = Value.ref b from ri)
  exact nd_put hu I d kk kd hv hl rv fun s' I' => ⟨_, I', q⟩
theorem kNNI {P : Program} {w : World} (hu : X.A.units + 9 < cLine) (hi : PE X i ty) (ho : PE X o td) (e : X.prog = P := by rfl) (e2 : X.w = w := by rfl) : PC X .NotIn i o (tNNotIn P w ty td) := by
  subst e e2
  exact pc_nnotin hu hi ho
theorem kNG {P : Program} {w : World} (hu : X.A.units + 9 < cLine) (ho : PE X o td) (hi : PE X i ty) (hs : NoSl i) (e : X.prog = P := by rfl) (e2 : X.w = w := by rfl) : PE X (.Subscript o i pos) (tNGet P w td ty) := by
  subst e e2
  exact pe_nget hu ho hi hs
theorem kSN {P : Program} {w : World} (hu : X.A.units + 9 < cLine) (e : X.prog = P := by rfl) (e2 : X.w = w := by rfl) : PSet X (rSetN P w) := by
  subst e e2
  exact set_n hu
theorem kFAug {K : PySem.W.Frag} {e value : Expr} {f : Str} {tpos : Pos} {ta tv : TE} {op : Operator} {rd : V → V → Hp → VK → Prop} (ha : PE X e ta) (hv : PE X value tv) (hop : InOp X op rd) (e' : X.K = K := by rfl) : PS X (.AugAssign (.Attribute e f tpos) op value pos) (sFldAug K ta tv rd f) := e' ▸ ps_fldaug ha hv hop
end
end L2
set_option Elab.async false
set_option linter.all false
set_option maxRecDepth 100000
set_option maxHeartbeats 4000000
/-! Rg: lists, dicts and instances that change, by their addresses, as the world over data: one world for all of them. -/
namespace Dw
open PySem PySem.Spec PyProof.Rows L2
mutual
/-- nothing in it can change, but by name -/
def D.flt : D → Bool
  | .non => true
  | .bl _ => true
  | .int _ => true
  | .str _ => true
  | .opq _ => true
  | .ty _ => true
  | .tup ds => D.flts ds
  | _ => false
def D.flts : List D → Bool
  | [] => true
  | d :: r => d.flt && D.flts r
end
theorem flts_mem : ∀ {ds : List D} {d : D}, D.flts ds = true → d ∈ ds → d.flt = true
  | e :: r, d, h, m => by
    simp only [D.flts, Bool.and_eq_true] at h
    rcases List.mem_cons.mp m with rfl | m
    · exact h.1
    · exact flts_mem h.2 m
theorem flts_of : ∀ {ds : List D}, (∀ d ∈ ds, d.flt = true) → D.flts ds = true
  | [], _ => rfl
  | d :: r, h => by
    simp only [D.flts, Bool.and_eq_true]
    exact ⟨h d (by simp), flts_of fun e he => h e (by simp [he])⟩
mutual
/-- such a thing needs its tuples alone -/
theorem Da.fl {B B' : Addr → Prop} {H H' : Hp} (hk : ∀ t xs, H t = some (.tup xs) → H' t = some (.tup xs) ∧ ¬ B' t) : ∀ {v : V} {d : D}, Da B H v d → d.flt = true → Da B' H' v d
  | _, _, .non, _ => .non
  | _, _, .bl b, _ => .bl b
  | _, _, .int i, _ => .int i
  | _, _, .str h, _ => .str h
  | _, _, .tup e _ h z, f => .tup (hk _ _ e).1 (hk _ _ e).2 (h.fl hk (by simpa [D.flt] using f)) z
  | _, _, .opq a, _ => .opq a
  | _, _, .ty n, _ => .ty n
  | _, _, .lst _ _ _ _, f => by simp [D.flt] at f
  | _, _, .dic _ _ _, f => by simp [D.flt] at f
  | _, _, .dit _ _ _, f => by simp [D.flt] at f
  | _, _, .obj _ _ _, f => by simp [D.flt] at f
theorem DaL.fl {B B' : Addr → Prop} {H H' : Hp} (hk : ∀ t xs, H t = some (.tup xs) → H' t = some (.tup xs) ∧ ¬ B' t) : ∀ {vs : List V} {ds : List D}, DaL B H vs ds → D.flts ds = true → DaL B' H' vs ds
  | _, _, .nil, _ => .nil
  | _, _, .cons h t, f => by
    simp only [D.flts, Bool.and_eq_true] at f
    exact .cons (h.fl hk f.1) (t.fl hk f.2)
end
theorem DaK.fl {B B' : Addr → Prop} {H H' : Hp} (hk : ∀ t xs, H t = some (.tup xs) → H' t = some (.tup xs) ∧ ¬ B' t) : ∀ {vs : List (Key × V)} {ds : List (Key × D)}, DaK B H vs ds → D.flts (ds.map (·.2)) = true → DaK B' H' vs ds
  | _, _, .nil, _ => .nil
  | _, _, .cons h t, f => by
    simp only [List.map_cons, D.flts, Bool.and_eq_true] at f
    exact .cons (h.fl hk f.1) (t.fl hk f.2)
theorem DaT.fl {B B' : Addr → Prop} {H H' : Hp} (hk : ∀ t xs, H t = some (.tup xs) → H' t = some (.tup xs) ∧ ¬ B' t) : ∀ {vs : List (List Key × V)} {ds : List (List Key × D)}, DaT B H vs ds → D.flts (ds.map (·.2)) = true → DaT B' H' vs ds
  | _, _, .nil, _ => .nil
  | _, _, .cons h t, f => by
    simp only [List.map_cons, D.flts, Bool.and_eq_true] at f
    exact .cons (h.fl hk f.1) (t.fl hk f.2)
theorem DaF.fl {B B' : Addr → Prop} {H H' : Hp} (hk : ∀ t xs, H t = some (.tup xs) → H' t = some (.tup xs) ∧ ¬ B' t) : ∀ {vs : List (Str × V)} {ds : List (Str × D)}, DaF B H vs ds → D.flts (ds.map (·.2)) = true → DaF B' H' vs ds
  | _, _, .nil, _ => .nil
  | _, _, .cons h t, f => by
    simp only [List.map_cons, D.flts, Bool.and_eq_true] at f
    exact .cons (h.fl hk f.1) (t.fl hk f.2)
inductive Mo where
  | lst (ds : List D)
  | dic (kvs : List (Key × D))
  | dit (kvs : List (List Key × D))
  | ins (C dx : Addr) (fs : List (Str × D))
  | nst (P : Program) (w : World) (xs : List (NestedKey × Int))
def Mo.flt : Mo → Bool
  | .lst ds => D.flts ds
  | .dic kvs => D.flts (kvs.map (·.2))
  | .dit kvs => D.flts (kvs.map (·.2))
  | .ins _ _ fs => D.flts (fs.map (·.2))
  | .nst _ _ _ => true
def MoR (B : Addr → Prop) (H : Hp) (a : Addr) : Mo → Prop
  | .lst ds => ∃ xs, H a = some (.lst xs) ∧ DaL B H xs ds ∧ ds.length ≤ sizeLine
  | .dic kvs => ∃ xs, H a = some (.dK xs) ∧ DaK B H xs kvs
  | .dit kvs => ∃ xs, H a = some (.dT xs) ∧ DaT B H xs kvs
  | .ins C dx fs => ∃ xs, H a = some (.ins C dx xs) ∧ DaF B H xs fs
  | .nst P w xs => ∃ ys : List (NestedKey × Addr × V), ND P w H a ys ∧ ys.map (fun y => (y.1, y.2.2)) = xs.map fun x => (x.1, V.int x.2)
theorem MoR.fl {B B' : Addr → Prop} {H H' : Hp} {a : Addr} {o : Mo} (hk : ∀ t xs, H t = some (.tup xs) → H' t = some (.tup xs) ∧ ¬ B' t) (ha : H' a = H a) (f : o.flt = true) (m : MoR B H a o) : MoR B' H' a o := by
  cases o with
  | lst ds => obtain ⟨xs, e, l, z⟩ := m; exact ⟨xs, by rw [ha]; exact e, l.fl hk f, z⟩
  | dic kvs => obtain ⟨xs, e, l⟩ := m; exact ⟨xs, by rw [ha]; exact e, l.fl hk f⟩
  | dit kvs => obtain ⟨xs, e, l⟩ := m; exact ⟨xs, by rw [ha]; exact e, l.fl hk f⟩
  | ins C dx fs => obtain ⟨xs, e, l⟩ := m; exact ⟨xs, by rw [ha]; exact e, l.fl hk f⟩
  | nst P w xs => obtain ⟨ys, ⟨e, kk⟩, l⟩ := m; exact ⟨ys, ⟨by rw [ha]; exact e, fun x hx => ⟨(kk x hx).1.keeps fun t xs q => (hk t xs q).1, (kk x hx).2⟩⟩, l⟩
theorem MoR.there {B : Addr → Prop} {H : Hp} {a : Addr} {o : Mo} (m : MoR B H a o) : H a ≠ none ∧ ∀ xs, H a ≠ some (.tup xs) := by
  cases o with
  | lst ds => obtain ⟨xs, e, _⟩ := m; rw [e]; exact ⟨by simp, by simp⟩
  | dic ds => obtain ⟨xs, e, _⟩ := m; rw [e]; exact ⟨by simp, by simp⟩
  | dit ds => obtain ⟨xs, e, _⟩ := m; rw [e]; exact ⟨by simp, by simp⟩
  | ins _ _ ds => obtain ⟨xs, e, _⟩ := m; rw [e]; exact ⟨by simp, by simp⟩
  | nst P w xs => obtain ⟨ys, ⟨e, _⟩, _⟩ := m; rw [e]; exact ⟨by simp, fun xs z => by cases z⟩
abbrev Rg : Type := Addr → Option Mo
def RJ (s : Rg) (H : Hp) : Prop := ∀ a o, s a = some o → o.flt = true ∧ MoR (fun x => s x ≠ none) H a o
theorem RJ.ct {s : Rg} {H : Hp} {a : Addr} {xs : List V} (j : RJ s H) (c : s a ≠ none) : H a ≠ some (.tup xs) := by
  cases e : s a with
  | none => exact absurd e c
  | some o => exact (j a o e).2.there.2 xs
def RW : Wd Rg where
  C s a := s a ≠ none
  J := RJ
  tr := fun s H a j c => by
    cases e : s a with
    | none => exact absurd e c
    | some o => exact (j a o e).2.there.1
  st := fun s H H' j h ht a o e => ⟨(j a o e).1, (j a o e).2.fl (fun t xs q => ⟨ht t xs q, fun c => j.ct c q⟩) (h a (by rw [e]; simp)) (j a o e).1⟩
  ct := fun s H a xs j c => j.ct c
def rup (s : Rg) (a : Addr) (o : Mo) : Rg := fun x => if x = a then some o else s x
@[simp] theorem rup_same {s : Rg} {a : Addr} {o : Mo} : rup s a o a = some o := by unfold rup; rw [if_pos rfl]
theorem rup_ne {s : Rg} {a b : Addr} {o : Mo} (h : b ≠ a) : rup s a o b = s b := by unfold rup; rw [if_neg h]
section
variable {s : Rg} {H : Hp} {R : Addr → Prop}
/-- out of the world into the data -/
theorem RW.out (t : At RW R s H) {B : Addr → Prop} {v : V} {d : D} (h : Da B H v d) (f : d.flt = true) : Da (Bf RW R s) H v d := h.fl (fun _ _ e => ⟨e, t.tup e⟩) f
theorem rg_write {a : Addr} {o0 o : Mo} {u : HO} (j : RW.J s H) (e : s a = some o0) (f : o.flt = true) (m : MoR (fun x => s x ≠ none) (upd H a u) a o) : Fr RW s H (rup s a o) (upd H a u) ∧ RW.J (rup s a o) (upd H a u) := by
  have same : ∀ x, rup s a o x ≠ none ↔ s x ≠ none := fun x => by
    by_cases q : x = a
    · subst q
      rw [rup_same, e]
      simp
    · rw [rup_ne q]
  refine ⟨⟨fun b w q n => ?_, fun x c => (same x).mpr c, fun x c => .inl ((same x).mp c)⟩, fun b p q => ?_⟩
  · rw [upd_ne fun z => n (by rw [z]; show s a ≠ none; rw [e]; simp)]
    exact q
  · by_cases z : b = a
    · subst z
      rw [rup_same] at q
      cases q
      exact ⟨f, m.fl (fun t xs h => ⟨h, fun c => by
        have c := (same t).mp c
        by_cases z : t = b
        · rw [z] at h
          exact m.there.2 xs h
        · rw [upd_ne z] at h
          exact RJ.ct j c h⟩) rfl f⟩
    · rw [rup_ne z] at q
      obtain ⟨q1, q2⟩ := j b p q
      exact ⟨q1, q2.fl (fun t xs h => ⟨by rw [upd_ne fun z => RJ.ct j (by rw [e]; simp) (z ▸ h)]; exact h, fun c => RJ.ct j ((same t).mp c) h⟩) (upd_ne z) q1⟩
theorem rg_new {a : Addr} {o : Mo} {u : HO} (j : RW.J s H) (e : H a = none) (f : o.flt = true) (m : MoR (fun x => s x ≠ none) (upd H a u) a o) : Fr RW s H (rup s a o) (upd H a u) ∧ RW.J (rup s a o) (upd H a u) := by
  have ns : s a = none := by
    cases q : s a with
    | none => rfl
    | some p => exact absurd e (j a p q).2.there.1
  have same : ∀ x, rup s a o x ≠ none ↔ s x ≠ none ∨ x = a := fun x => by
    by_cases q : x = a
    · subst q
      simp
    · rw [rup_ne q]
      simp [q]
  have tn : ∀ t xs, H t = some (.tup xs) → t ≠ a := fun t xs h z => by rw [z, e] at h; cases h
  refine ⟨⟨fun b w q n => ?_, fun x c => (same x).mpr (.inl c), fun x c => ((same x).mp c).imp id fun z => by rw [z]; exact e⟩, fun b p q => ?_⟩
  · rw [upd_ne (ne_of_none q e)]
    exact q
  · by_cases z : b = a
    · subst z
      rw [rup_same] at q
      cases q
      exact ⟨f, m.fl (fun t xs h => ⟨h, fun c => by
        rcases (same t).mp c with c | z
        · by_cases z : t = b
          · rw [z] at h
            exact m.there.2 xs h
          · rw [upd_ne z] at h
            exact RJ.ct j c h
        · rw [z] at h
          exact m.there.2 xs h⟩) rfl f⟩
    · rw [rup_ne z] at q
      obtain ⟨q1, q2⟩ := j b p q
      exact ⟨q1, q2.fl (fun t xs h => ⟨by rw [upd_ne (tn t xs h)]; exact h, fun c => by
        rcases (same t).mp c with c | z
        · exact RJ.ct j c h
        · exact tn t xs h z⟩) (upd_ne z) q1⟩
end
end Dw
set_option Elab.async false
set_option linter.all false
set_option maxRecDepth 100000
set_option maxHeartbeats 4000000
/-! Rh: the words of the registry: lists. -/
namespace Dw
open PySem PySem.Spec PyProof.Rows L2
@[simp] def wIxM : D → D → Rg → (D → Rg → Prop) → Prop := fun d e s k => match d with
  | .opq a => (match s a with
    | some (.lst ds) => (match e with
      | .int i => (match atI ds i with
        | some x => k x s
        | none => False)
      | _ => False)
    | _ => False)
  | d => wIx d e s k
@[simp] def wLenM : List D → Rg → (D → Rg → Prop) → Prop := fun ds s k => match ds with
  | [.opq a] => (match s a with
    | some (.lst xs) => k (.int xs.length) s
    | _ => False)
  | ds => wLen ds s k
/-- a registered list's item set; an own list's -/
@[simp] def wSetM (i : Nat) (wv wk : WE Rg) : WS Rg := fun KK env s => match sg env i with
  | .dat (.opq a) => wv env s (fun v t => wk env t (fun k u => match k with
    | .int z => v.flt = true ∧ (match u a with
      | some (.lst ds) => (match ixN ds.length z with
        | some j => KK.nx env (rup u a (.lst (ds.set j v)))
        | none => False)
      | _ => False)
    | _ => False) KK.xc) KK.xc
  | _ => wSetL i wv wk KK env s
@[simp] def wAppM (wo we : WE Rg) : WS Rg := fun KK env s => wo env s (fun d s1 => match d with
  | .opq a => (∃ ds, s1 a = some (.lst ds)) ∧ we env s1 (fun v u => v.flt = true ∧ (match u a with
    | some (.lst ds) => ds.length < sizeLine ∧ KK.nx env (rup u a (.lst (ds ++ [v])))
    | _ => False)) KK.xc
  | _ => False) KK.xc
theorem flts_at {ds : List D} {i : Int} {d : D} (f : D.flts ds = true) (q : atI ds i = some d) : d.flt = true := by
  unfold atI at q
  cases qi : ixN ds.length i with
  | none => rw [qi] at q; cases q
  | some j =>
    rw [qi] at q
    exact flts_mem f (List.mem_of_getElem? q)
theorem flts_set {ds : List D} {j : Nat} {d : D} (f : D.flts ds = true) (h : d.flt = true) : D.flts (ds.set j d) = true := flts_of fun e he => by
  rcases List.mem_or_eq_of_mem_set he with he | rfl
  · exact flts_mem f he
  · exact h
theorem flts_app {ds es : List D} (f : D.flts ds = true) (h : D.flts es = true) : D.flts (ds ++ es) = true := flts_of fun e he => by
  rcases List.mem_append.mp he with he | he
  · exact flts_mem f he
  · exact flts_mem h he
section
variable {G : Gm Rg} {K : PySem.W.Frag}
/-- into the world -/
theorem RW.into {s : Rg} {H : Hp} {R : Addr → Prop} (t : At RW R s H) {v : V} {d : D} (h : Da (Bf RW R s) H v d) (f : d.flt = true) : Da (fun x => s x ≠ none) H v d := h.fl (fun _ _ e => ⟨e, fun c => RJ.ct t.j c e⟩) f
theorem so_ixM : SimO RW (rIx K) wIxM := fun R s H at_ x y d e a b k hw Q hQ => by
  cases d with
  | opq c =>
    unfold wIxM at hw
    dsimp only at hw
    cases a with
    | da a =>
    cases a
    cases q : s c with
    | none => rw [q] at hw; exact hw.elim
    | some o =>
      rw [q] at hw
      cases o with
      | lst ds =>
        cases e with
        | int i =>
          dsimp only at hw
          cases q2 : atI ds i with
          | none => rw [q2] at hw; exact hw.elim
          | some z =>
            rw [q2] at hw
            obtain ⟨f, xs, e1, l, _⟩ := at_.j c _ q
            obtain ⟨v, hv, dv⟩ := l.atI q2
            exact .inl ⟨c, xs, i, v, rfl, b.intI, .of e1, hv, hQ _ _ H hw .refl at_.j (RW.out at_ dv (flts_at f q2))⟩
        | _ => exact hw.elim
      | _ => exact hw.elim
  | _ => exact so_ix R s H at_ x y _ _ a b k hw Q hQ
theorem sc_lenM : SimC RW (Rd.rLen K) wLenM := fun R s H at_ xs ds a k hw Q hQ => by
  match ds, a, hw with
  | [.opq c], a, hw =>
    obtain ⟨v, rfl, a1⟩ := a.one
    unfold wLenM at hw
    dsimp only at hw
    cases a1 with
    | da a2 =>
      cases a2
      cases q : s c with
      | none => rw [q] at hw; exact hw.elim
      | some o =>
        rw [q] at hw
        cases o with
        | lst ds =>
          obtain ⟨f, ys, e1, l, _⟩ := at_.j c _ q
          exact .inl ⟨c, ys, rfl, .inl (.of e1), hQ _ _ H (by rw [l.len]; exact hw) .refl at_.j (.int _)⟩
        | _ => exact hw.elim
  | [.lst _], a, hw => exact sc_len R s H at_ xs _ a k hw Q hQ
  | [.tup _], a, hw => exact sc_len R s H at_ xs _ a k hw Q hQ
  | [.str _], a, hw => exact sc_len R s H at_ xs _ a k hw Q hQ
theorem ss_setM {i : Nat} {tv tk : TE} {wv wk : WE Rg} (hv : SimE RW G tv wv) (hk : SimG RW G tk wk) : SimS RW G (tAsg tv (gSub (tVar i) tk rSetL)) (wSetM i wv wk) := fun R env σ H s rl KK hw Dn e => by
  cases q : sg env i with
  | dat d =>
    cases d with
    | opq a =>
      unfold wSetM at hw
      rw [q] at hw
      refine hv R env σ H s rl _ KK.xc hw e.xc _ fun d s1 v H1 hw1 f1 j1 a1 => ?_
      have rl1 := rl.step f1 j1
      obtain ⟨u, h1, h2⟩ := rl1.env.dat i _ q
      cases h2
      refine ⟨_, h1, hk R env σ H1 s1 rl1 _ KK.xc hw1 e.xc _ fun d2 s2 v2 H2 hw2 f2 j2 a2 => ?_⟩
      have rl2 := rl1.step f2 j2
      cases d2 with
      | int zi =>
        obtain ⟨fl, hw2⟩ := hw2
        cases qs : s2 a with
        | none => rw [qs] at hw2; exact hw2.elim
        | some o =>
          rw [qs] at hw2
          cases o with
          | lst ds =>
            dsimp only at hw2
            cases qi : ixN ds.length zi with
            | none => rw [qi] at hw2; exact hw2.elim
            | some jj =>
              rw [qi] at hw2
              obtain ⟨f, xs, e1, l, z⟩ := j2 a _ qs
              have into := RW.into rl2.at_ (a1.mv f2.mv) fl
              have keep : ∀ t ys, H2 t = some (.tup ys) → upd H2 a (.lst (xs.set jj v)) t = some (.tup ys) ∧ ¬ (s2 t ≠ none) := fun t ys et => ⟨by rw [upd_ne fun zz => by rw [zz, e1] at et; cases et]; exact et, fun c => RJ.ct j2 c et⟩
              obtain ⟨p2, p3⟩ := rg_write (o := .lst (ds.set jj d)) (u := .lst (xs.set jj v)) j2 qs (flts_set f fl) ⟨_, upd_same, (l.setAt jj into).fl keep (flts_set f fl), by rw [List.length_set]; exact z⟩
              refine ⟨a, xs, zi, jj, rfl, a2.intI, e1, by rw [l.len]; exact qi, ?_⟩
              exact e.nx R env σ _ _ hw2 (rl2.step p2 p3) ((f1.trans f2).trans p2).mv
          | _ => exact hw2.elim
      | _ => exact hw2.elim
    | _ => unfold wSetM at hw; rw [q] at hw; exact ss_setL hv hk R env σ H s rl KK hw Dn e
  | _ => unfold wSetM at hw; rw [q] at hw; exact ss_setL hv hk R env σ H s rl KK hw Dn e
theorem ss_appM {to te : TE} {wo we : WE Rg} (ho : SimE RW G to wo) (he : SimE RW G te we) : SimS RW G (tDrop (tBM K "list" rAppend to (tCons te tNil))) (wAppM wo we) := fun R env σ H s rl KK hw Dn e => by
  refine ho R env σ H s rl _ KK.xc hw e.xc _ fun d s1 v H1 hw1 f1 j1 a1 => ?_
  have rl1 := rl.step f1 j1
  cases d with
  | opq a =>
    cases a1
    obtain ⟨⟨ds, qs⟩, hw1⟩ := hw1
    obtain ⟨_, xs, e1, l, _⟩ := j1 a _ qs
    refine ⟨.inl ⟨rfl, xs, .of e1⟩, he R env σ H1 s1 rl1 _ KK.xc hw1 e.xc _ fun d2 s2 v2 H2 hw2 f2 j2 a2 => ?_⟩
    have rl2 := rl1.step f2 j2
    obtain ⟨fl, hw2⟩ := hw2
    cases q2 : s2 a with
    | none => rw [q2] at hw2; exact hw2.elim
    | some o =>
      rw [q2] at hw2
      cases o with
      | lst ds =>
        obtain ⟨hz, hw2⟩ := hw2
        obtain ⟨f, xs, e1, l, z⟩ := j2 a _ q2
        have into := RW.into rl2.at_ a2 fl
        have keep : ∀ t ys, H2 t = some (.tup ys) → upd H2 a (.lst (xs ++ [v2])) t = some (.tup ys) ∧ ¬ (s2 t ≠ none) := fun t ys et => ⟨by rw [upd_ne fun zz => by rw [zz, e1] at et; cases et]; exact et, fun c => RJ.ct j2 c et⟩
        have ff : D.flts (ds ++ [d2]) = true := flts_app f (by simp [D.flts, fl])
        obtain ⟨p2, p3⟩ := rg_write (o := .lst (ds ++ [d2])) (u := .lst (xs ++ [v2])) j2 q2 ff ⟨_, upd_same, (l.app (.cons into .nil)).fl keep ff, by rw [List.length_append]; simp; omega⟩
        exact ⟨a, xs, v2, rfl, rfl, e1, by rw [l.len]; exact hz, e.nx R env σ _ _ hw2 (rl2.step p2 p3) ((f1.trans f2).trans p2).mv⟩
      | _ => exact hw2.elim
  | _ => exact hw1.elim
end
end Dw
set_option Elab.async false
set_option linter.all false
set_option maxRecDepth 100000
/-! Cu: words cut at an invariant; small lists by index; what the registry holds behind a write. -/
namespace Dw
open PySem PySem.Spec PyProof.Rows L2
theorem cut {S : Type} {A R : WS S} {KK : WEnds S} {env : List Sl} {s : S} (I : List Sl → S → Prop) (h : ∀ r : WEnds S, (∀ e t, I e t → r.nx e t) → r.rt = KK.rt → r.xc = KK.xc → A r env s) (h2 : ∀ e t, I e t → R KK e t) : wSeq A R KK env s := h { KK with nx := R KK } h2 rfl rfl
theorem last {S : Type} {A : WS S} {KK : WEnds S} {env : List Sl} {s : S} (I : List Sl → S → Prop) (h : ∀ r : WEnds S, (∀ e t, I e t → r.nx e t) → r.rt = KK.rt → r.xc = KK.xc → A r env s) (h2 : ∀ e t, I e t → KK.nx e t) : A KK env s := h KK h2 rfl rfl
theorem ite_t {p a b : Prop} [Decidable p] (h : p) (x : a) : if p then a else b := by rw [if_pos h]; exact x
theorem ite_f {p a b : Prop} [Decidable p] (h : ¬ p) (x : b) : if p then a else b := by rw [if_neg h]; exact x
theorem iteB {c : Bool} {p q : Prop} (h1 : c = true → p) (h2 : c = false → q) : if c = true then p else q := by
  cases c with
  | true => exact ite_t rfl (h1 rfl)
  | false => exact ite_f (by decide) (h2 rfl)
theorem iteP {c p q : Prop} [Decidable c] (h1 : c → p) (h2 : ¬ c → q) : if c then p else q := by
  by_cases h : c
  · rw [if_pos h]; exact h1 h
  · rw [if_neg h]; exact h2 h
section
variable {α : Type} {a b c d e : α} {r : List α}
theorem at0 : atI (a :: r) 0 = some a := atI_nat (j := 0) rfl
theorem at1 : atI (a :: b :: r) 1 = some b := atI_nat (j := 1) rfl
theorem at2 : atI (a :: b :: c :: r) 2 = some c := atI_nat (j := 2) rfl
theorem at3 : atI (a :: b :: c :: d :: r) 3 = some d := atI_nat (j := 3) rfl
theorem at4 : atI (a :: b :: c :: d :: e :: r) 4 = some e := atI_nat (j := 4) rfl
end
theorem ix51 : ixN 5 1 = some 1 := rfl
theorem ix52 : ixN 5 2 = some 2 := rfl
theorem ix53 : ixN 5 3 = some 3 := rfl
theorem ix54 : ixN 5 4 = some 4 := rfl
@[simp] theorem flt_int (i : Int) : (D.int i).flt = true := rfl
@[simp] theorem flt_bl (i : Bool) : (D.bl i).flt = true := rfl
@[simp] theorem flt_str (i : Str) : (D.str i).flt = true := rfl
@[simp] theorem flt_non : D.non.flt = true := rfl
@[simp] theorem flt_opq (a : Addr) : (D.opq a).flt = true := rfl
@[simp] theorem flt_tup (ds : List D) : (D.tup ds).flt = D.flts ds := rfl
@[simp] theorem flts_nil : D.flts [] = true := rfl
@[simp] theorem flts_cons (d : D) (r : List D) : D.flts (d :: r) = (d.flt && D.flts r) := rfl
@[simp] theorem rup2 {s : Rg} {a : Addr} {o u : Mo} : rup (rup s a o) a u = rup s a u := by
  funext x
  unfold rup
  split <;> rfl
end Dw
set_option Elab.async false
set_option linter.all false
set_option maxRecDepth 100000
set_option maxHeartbeats 4000000
/-! Bm: o.m(e, ..); fields and methods of instances of the registry. -/
namespace Gl
open PySem PySem.Spec PyProof.Rows L2
def tMtA (C : Addr) (m : Str) (sp : Sp) (E : L2.St → XK) (ta : TE) (t : TA) : TE := fun σ H Q => ta σ H fun x H1 => ∃ a dx fs, x = .ref a ∧ H1 a = some (.ins C dx fs) ∧ fs.lookup m = none ∧ t σ H1 fun vs H2 => sp (x :: vs) H2 Q (E σ)
section
variable {X : Cx} {k j : Nat} {C : Addr} {sp : Sp} {E : L2.St → XK} {m : Str} {pos apos : Pos} {o e : Expr} {es : List Expr} {ta : TE} {t : TA}
theorem pe_mtA {pl : Sem Bool} (M : Cf X.prog X.w X.K X.mg X.base k C m sp) (hr : Room j X.A) (hk : k ≤ j) (hG : X.A.guards = some []) (hx : ∀ σ, PassesAt (L2.CX X.prog X.w) X σ (E σ)) (he : PE X o ta) (ha : PA X (e :: es) t)
    (hst : starEach (e :: es) X.env = (false, eval e X.env) :: starEach es X.env := by rfl) (hpl : (backTo pos (starEach es X.env)).any (·.1) = false := by rfl)
    (ht : eval (.Call (.Attribute o m apos) (e :: es) [] pos) X.env = (do
      let ov ← eval o X.env
      standAt apos.atName
      let (f, first) ← holding [ov] (getMethod ov m pl)
      callWith pos f first (backTo pos (starEach (e :: es) X.env)) (backToKw pos (keywordEach [] X.env))) := by rfl) : PE X (.Call (.Attribute o m apos) (e :: es) [] pos) (tMtA C m sp E ta t) := by
  obtain ⟨f, fd, ps, F, mt, b⟩ := M.ex
  refine ⟨fun pins s σ H Q I h => PySem.W.methodCall_KW (pl := pl) (thn (he.run pins s σ H _ I h) fun u s1 hh => ?_) ht⟩
  obtain ⟨x, H1, I1, rx, a, dx, fs, rfl, ea, l, q⟩ := hh
  obtain rfl : u = Value.ref a := rx
  refine getmeth_ok I1 ea M.cls mt l ?_
  refine PySem.W.callWith_K (first := [.ref a]) (h₀ := X.base) I1.mod.kin mt.kp (thn (ha.run pos pins s1 σ H1 _ I1 q) fun us s2 ⟨vs, H2, I2, r, q2⟩ => ⟨I2.kIn, ?_⟩) hst hpl
  exact run_df (us := .ref a :: us) (vs := .ref a :: vs) F (hr.mono hk) hG b (hx σ) I2 (.cons (show RelV (.ref a) (.ref a) from rfl) r) q2
end
end Gl
namespace Dw
open PySem PySem.Spec PyProof.Rows L2
/-- o.f, o of the registry or plain -/
@[simp] def wFldM (f : Str) (Cl : Addr → Prop) (w : WE Rg) : WE Rg := fun env s k x => w env s (fun d s1 => match d with
  | .opq a => (match s1 a with
    | some (.ins C _ fs) => Cl C ∧ (match fs.lookup f with
      | some e => k e s1
      | none => False)
    | _ => False)
  | .obj C fs => Cl C ∧ (match fs.lookup f with
    | some e => k e s1
    | none => False)
  | _ => False) x
@[simp] def wMtM (C : Addr) (m : Str) (wf : List D → Rg → (D → Rg → Prop) → (Xc → Rg → Prop) → Prop) (we : WE Rg) (wa : WA Rg) : WE Rg := fun env s k x => we env s (fun d s1 => match d with
  | .opq a => (match s1 a with
    | some (.ins C' _ fs) => C' = C ∧ fs.lookup m = none ∧ wa env s1 (fun ds s2 => wf (.opq a :: ds) s2 k fun _ _ => False) x
    | _ => False)
  | _ => False) x
@[simp] def wMtM0 (C : Addr) (m : Str) (wf : List D → Rg → (D → Rg → Prop) → (Xc → Rg → Prop) → Prop) (we : WE Rg) : WE Rg := fun env s k x => we env s (fun d s1 => match d with
  | .opq a => (match s1 a with
    | some (.ins C' _ fs) => C' = C ∧ fs.lookup m = none ∧ wf [.opq a] s1 k fun _ _ => False
    | _ => False)
  | _ => False) x
theorem flts_look {fs : List (Str × D)} {f : Str} {d : D} (h : D.flts (fs.map (·.2)) = true) (q : fs.lookup f = some d) : d.flt = true := by
  induction fs with
  | nil => cases q
  | cons p r ih =>
    simp only [List.map_cons, D.flts, Bool.and_eq_true] at h
    by_cases e : (f == p.1) = true
    · rw [show List.lookup f (p :: r) = some p.2 from by cases p; rw [List.lookup_cons, e]] at q
      cases q
      exact h.1
    · rw [show List.lookup f (p :: r) = r.lookup f from by cases p; rw [List.lookup_cons, Bool.eq_false_iff.mpr e]] at q
      exact ih h.2 q
theorem DaF.none {B : Addr → Prop} {H : Hp} : ∀ {vs : List (Str × V)} {ds : List (Str × D)} {f : Str}, DaF B H vs ds → ds.lookup f = Option.none → vs.lookup f = Option.none
  | _, _, f, .nil, _ => rfl
  | _, _, f, .cons (k := k) h t, e => by
    by_cases q : (f == k) = true
    · rw [List.lookup_cons, q] at e
      cases e
    · rw [List.lookup_cons, Bool.eq_false_iff.mpr q] at e ⊢
      exact t.none e
section
variable {G : Gm Rg} {K : PySem.W.Frag}
theorem sim_fldM {f : Str} {Cl : Addr → Prop} (hC : ∀ C, Cl C → Cls K C ∧ NoAttr K C f) {te : TE} {we : WE Rg} (he : SimE RW G te we) : SimE RW G (tFld K te f) (wFldM f Cl we) := fun R env σ H s rl k x hw ox Q hQ => he R env σ H s rl _ x hw ox _ fun d s1 v H1 hw1 f1 j1 a1 => by
  cases d with
  | obj C fs =>
    obtain ⟨h1, h2⟩ := hw1
    cases q : fs.lookup f with
    | none => rw [q] at h2; exact h2.elim
    | some e =>
      rw [q] at h2
      cases a1 with
      | obj e1 n l =>
        obtain ⟨u, hu, da⟩ := l.look q
        exact ⟨_, C, _, _, u, rfl, e1, (hC C h1).1, (hC C h1).2, hu, hQ _ s1 _ H1 h2 f1 j1 da⟩
  | opq a =>
    cases a1
    dsimp only at hw1
    cases qs : s1 a with
    | none => rw [qs] at hw1; exact hw1.elim
    | some o =>
      rw [qs] at hw1
      cases o with
      | ins C dx fs =>
        obtain ⟨h1, h2⟩ := hw1
        cases q : fs.lookup f with
        | none => rw [q] at h2; exact h2.elim
        | some e =>
          rw [q] at h2
          obtain ⟨fl, xs, e1, l⟩ := j1 a _ qs
          obtain ⟨u, hu, da⟩ := l.look q
          exact ⟨_, C, _, _, u, rfl, e1, (hC C h1).1, (hC C h1).2, hu, hQ _ s1 _ H1 h2 f1 j1 (RW.out (rl.step f1 j1).at_ da (flts_look fl q))⟩
      | _ => exact hw1.elim
  | _ => exact hw1.elim
theorem sim_fldMT {f : Str} {C : Addr} (c : Cls K C) (n : NoAttr K C f) {te : TE} {we : WE Rg} (he : SimE RW G te we) : SimE RW G (tFld K te f) (wFldM f (· = C) we) := sim_fldM (Cl := (· = C)) (fun _ h => h ▸ ⟨c, n⟩) he
theorem sim_mtM {C : Addr} {m : Str} {wf : List D → Rg → (D → Rg → Prop) → (Xc → Rg → Prop) → Prop} {te : TE} {t : TA} {we : WE Rg} {wa : WA Rg} {E : L2.St → XK} (he : SimE RW G te we) (ha : SimA RW G t wa) : SimE RW G (Gl.tMtA C m (spX RW wf) E te t) (wMtM C m wf we wa) :=
  fun R env σ H s rl k x hw ox Q hQ => he R env σ H s rl _ x hw ox _ fun d s1 v H1 hw1 f1 j1 a1 => by
    cases d with
    | opq a =>
      cases a1
      dsimp only at hw1
      cases qs : s1 a with
      | none => rw [qs] at hw1; exact hw1.elim
      | some o =>
        rw [qs] at hw1
        cases o with
        | ins C' dx fs =>
          obtain ⟨rfl, hl, hw1⟩ := hw1
          obtain ⟨fl, xs, e1, l⟩ := j1 a _ qs
          have rl1 := rl.step f1 j1
          refine ⟨a, dx, xs, rfl, e1, l.none hl, ha R env σ H1 s1 rl1 _ x hw1 ox _ fun ds s2 vs H2 hw2 f2 j2 a2 => ?_⟩
          have at2 := (rl1.step f2 j2).at_
          exact ⟨R, .opq a :: ds, s2, k, fun _ _ => False, at2, .cons (.opq a) a2, hw2, fun d s' v H' hk f j da => hQ d s' v H' hk ((f1.trans f2).trans f) j da, fun c s' cls d H' h => h.elim⟩
        | _ => exact hw1.elim
    | _ => exact hw1.elim
theorem sim_mtM0 {C : Addr} {m : Str} {wf : List D → Rg → (D → Rg → Prop) → (Xc → Rg → Prop) → Prop} {te : TE} {we : WE Rg} {E : L2.St → XK} (he : SimE RW G te we) : SimE RW G (Gl.tMt0 C m (spX RW wf) E te) (wMtM0 C m wf we) :=
  fun R env σ H s rl k x hw ox Q hQ => he R env σ H s rl _ x hw ox _ fun d s1 v H1 hw1 f1 j1 a1 => by
    cases d with
    | opq a =>
      cases a1
      dsimp only at hw1
      cases qs : s1 a with
      | none => rw [qs] at hw1; exact hw1.elim
      | some o =>
        rw [qs] at hw1
        cases o with
        | ins C' dx fs =>
          obtain ⟨rfl, hl, hw1⟩ := hw1
          obtain ⟨fl, xs, e1, l⟩ := j1 a _ qs
          have rl1 := rl.step f1 j1
          exact ⟨a, dx, xs, rfl, e1, l.none hl, R, [.opq a], s1, k, fun _ _ => False, rl1.at_, .cons (.opq a) .nil, hw1, fun d s' v H' hk f j da => hQ d s' v H' hk (f1.trans f) j da, fun c s' cls d H' h => h.elim⟩
        | _ => exact hw1.elim
    | _ => exact hw1.elim
end
end Dw
set_option Elab.async false
set_option linter.all false
set_option maxRecDepth 100000
set_option maxHeartbeats 4000000
/-! Nr: dicts with nested tuples for keys, of the registry; fields of its instances set; new things put into it. -/
namespace Dw
open PySem PySem.Spec PyProof.Rows L2
mutual
def D.nk : D → Option NestedKey
  | .int i => some (.num i)
  | .str x => some (.text x)
  | .tup ds => (D.nks ds).map .tup
  | _ => none
def D.nks : List D → Option (List NestedKey)
  | [] => some []
  | d :: r => match d.nk, D.nks r with
    | some k, some ks => some (k :: ks)
    | _, _ => none
end
mutual
theorem Da.nk {B : Addr → Prop} {H : Hp} : ∀ {v : V} {d : D} {k : NestedKey}, Da B H v d → d.nk = some k → KeyV H k v
  | _, _, _, .int i, e => by cases e; exact .int i
  | _, _, _, .str _, e => by cases e; exact .str _
  | _, _, _, .tup (ds := ds) h _ l _, e => by
    simp only [D.nk, Option.map_eq_some_iff] at e
    obtain ⟨ks, e1, rfl⟩ := e
    exact .tup h (l.nks e1)
  | _, _, _, .non, e => by cases e
  | _, _, _, .bl _, e => by cases e
  | _, _, _, .lst _ _ _ _, e => by cases e
  | _, _, _, .dic _ _ _, e => by cases e
  | _, _, _, .dit _ _ _, e => by cases e
  | _, _, _, .obj _ _ _, e => by cases e
  | _, _, _, .opq _, e => by cases e
  | _, _, _, .ty _, e => by cases e
theorem DaL.nks {B : Addr → Prop} {H : Hp} : ∀ {vs : List V} {ds : List D} {ks : List NestedKey}, DaL B H vs ds → D.nks ds = some ks → KeyVs H ks vs
  | _, _, _, .nil, e => by cases e; exact .nil
  | _, _, _, .cons (d := d) (ds := ds) h t, e => by
    unfold D.nks at e
    cases q1 : d.nk with
    | none => rw [q1] at e; cases e
    | some k =>
      cases q2 : D.nks ds with
      | none => rw [q1, q2] at e; cases e
      | some ks =>
        rw [q1, q2] at e
        cases e
        exact .cons (h.nk q1) (t.nks q2)
end
def atNI (xs : List (NestedKey × Int)) (k : NestedKey) : Option Int := (xs.find? fun x => decide (x.1 = k)).map (·.2)
theorem atN_I {k : NestedKey} : ∀ {ys : List (NestedKey × Addr × V)} {xs : List (NestedKey × Int)}, ys.map (fun y => (y.1, y.2.2)) = xs.map (fun x => (x.1, V.int x.2)) → atN ys k = (atNI xs k).map V.int
  | [], [], _ => rfl
  | y :: ys, x :: xs, e => by
    rw [List.map_cons, List.map_cons] at e
    obtain ⟨e1, e2⟩ := List.cons.inj e
    have ih := atN_I (k := k) e2
    obtain ⟨h1, h2⟩ := Prod.mk.inj e1
    by_cases q : x.1 = k
    · simp [atN, atNI, List.find?_cons, q, h1, h2]
    · simpa [atN, atNI, List.find?_cons, q, h1] using ih
  | [], _ :: _, e => by simp at e
  | _ :: _, [], e => by simp at e
@[simp] def wNNotIn (P : Program) (w : World) (wk wd : WE Rg) : WE Rg := fun env s k x => wk env s (fun e s1 => wd env s1 (fun d s2 => match d with
  | .opq a => ∃ xs ds key, s2 a = some (.nst P w xs) ∧ e = .tup ds ∧ e.nk = some key ∧ key.depth ≤ 8 ∧ k (.bl (!(atNI xs key).isSome)) s2
  | _ => False) x) x
@[simp] def wNGet (P : Program) (w : World) (wd wk : WE Rg) : WE Rg := fun env s k x => wd env s (fun d s1 => wk env s1 (fun e s2 => match d with
  | .opq a => ∃ xs ds key n, s2 a = some (.nst P w xs) ∧ e = .tup ds ∧ e.nk = some key ∧ key.depth ≤ 8 ∧ atNI xs key = some n ∧ k (.int n) s2
  | _ => False) x) x
@[simp] def wNPut (P : Program) (w : World) (wv wd wk : WE Rg) : WS Rg := fun KK env s => wv env s (fun v s0 => wd env s0 (fun d s1 => wk env s1 (fun e s2 => match d, v with
  | .opq a, .int n => ∃ xs ds key, s2 a = some (.nst P w xs) ∧ e = .tup ds ∧ e.nk = some key ∧ key.depth ≤ 8 ∧ atNI xs key = none ∧ xs.length < sizeLine ∧ KK.nx env (rup s2 a (.nst P w (xs ++ [(key, n)])))
  | _, _ => False) KK.xc) KK.xc) KK.xc
section
variable {G : Gm Rg} {K : PySem.W.Frag} {P : Program} {w : World}
theorem sim_nnotin {td tk : TE} {wd wk : WE Rg} (hk : SimE RW G tk wk) (hd : SimE RW G td wd) : SimE RW G (tNNotIn P w tk td) (wNNotIn P w wk wd) := fun R env σ H s rl k x hw ox Q hQ =>
  hk R env σ H s rl _ x hw ox _ fun e s1 u H1 hw1 f1 j1 a1 => hd R env σ H1 s1 (rl.step f1 j1) _ x hw1 ox _ fun d s2 v H2 hw2 f2 j2 a2 => by
    cases d with
    | opq a =>
      cases a2
      obtain ⟨xs, ds, key, q, rfl, nk, kd, hw3⟩ := hw2
      have a3 := a1.mv f2.mv
      have kv := a3.nk nk
      cases a3 with
      | @tup b _ _ e n l z =>
        obtain ⟨_, ys, nd, ey⟩ := j2 a _ q
        refine ⟨a, b, ys, key, rfl, rfl, nd, kv, kd, ?_⟩
        rw [atN_I ey, Option.isSome_map]
        exact hQ _ s2 _ H2 hw3 (f1.trans f2) j2 (.bl _)
    | _ => exact hw2.elim
theorem sim_nget {td tk : TE} {wd wk : WE Rg} (hd : SimE RW G td wd) (hk : SimE RW G tk wk) : SimE RW G (tNGet P w td tk) (wNGet P w wd wk) := fun R env σ H s rl k x hw ox Q hQ =>
  hd R env σ H s rl _ x hw ox _ fun d s1 v H1 hw1 f1 j1 a1 => hk R env σ H1 s1 (rl.step f1 j1) _ x hw1 ox _ fun e s2 u H2 hw2 f2 j2 a2 => by
    cases d with
    | opq a =>
      cases a1
      obtain ⟨xs, ds, key, n, q, rfl, nk, kd, hn, hw3⟩ := hw2
      have kv := a2.nk nk
      cases a2 with
      | @tup b _ _ e n2 l z =>
        obtain ⟨_, ys, nd, ey⟩ := j2 a _ q
        refine ⟨a, b, ys, key, .int n, rfl, rfl, nd, kv, kd, ?_, hQ _ s2 _ H2 hw3 (f1.trans f2) j2 (.int _)⟩
        rw [atN_I ey, hn]
        rfl
    | _ => exact hw2.elim
theorem ss_nput {tv td tk : TE} {wv wd wk : WE Rg} (hv : SimE RW G tv wv) (hd : SimE RW G td wd) (hk : SimE RW G tk wk) : SimS RW G (tAsg tv (gSub td tk (rSetN P w))) (wNPut P w wv wd wk) := fun R env σ H s rl KK hw Dn e =>
  hv R env σ H s rl _ KK.xc hw e.xc _ fun v s0 y H0 hw0 f0 j0 a0 => hd R env σ H0 s0 (rl.step f0 j0) _ KK.xc hw0 e.xc _ fun d s1 z H1 hw1 f1 j1 a1 => hk R env σ H1 s1 ((rl.step f0 j0).step f1 j1) _ KK.xc hw1 e.xc _ fun kd0 s2 u H2 hw2 f2 j2 a2 => by
    cases d with
    | opq a =>
      cases v with
      | int n =>
        cases a1
        have hy : y = V.int n := by cases a0; rfl
        obtain ⟨xs, ds, key, q, rfl, nk, kd, hn, hl, hw3⟩ := hw2
        have kv := a2.nk nk
        have rl2 := ((rl.step f0 j0).step f1 j1).step f2 j2
        cases a2 with
        | @tup b _ _ e2 n2 l z =>
          obtain ⟨_, ys, nd, ey⟩ := j2 a _ q
          have ly : ys.length = xs.length := by
            have := congrArg List.length ey
            simpa using this
          have keep : ∀ t zs, H2 t = some (.tup zs) → upd H2 a (NDO P w a (ys ++ [(key, b, y)])) t = some (.tup zs) := fun t zs et => by
            rw [upd_ne fun zz => RJ.ct j2 (by rw [q]; simp) (zz ▸ et)]
            exact et
          obtain ⟨p2, p3⟩ := rg_write (o := .nst P w (xs ++ [(key, n)])) (u := NDO P w a (ys ++ [(key, b, y)])) j2 q rfl ⟨ys ++ [(key, b, y)], ⟨upd_same, fun x hx => by
            rcases List.mem_append.mp hx with hx | hx
            · exact ⟨(nd.2 x hx).1.keeps keep, (nd.2 x hx).2⟩
            · rw [List.mem_singleton.mp hx]
              exact ⟨kv.keeps keep, kd⟩⟩, by rw [List.map_append, List.map_append, ey, hy]; rfl⟩
          exact ⟨a, b, ys, key, rfl, rfl, nd, kv, kd, by rw [atN_I ey, hn]; rfl, by omega, e.nx R env σ _ _ hw3 (rl2.step p2 p3) (((f0.trans f1).trans f2).trans p2).mv⟩
      | _ => exact hw2.elim
    | _ => exact hw2.elim
end
end Dw
set_option Elab.async false
set_option linter.all false
set_option maxRecDepth 100000
set_option maxHeartbeats 4000000
/-! Bk: a book (an instance with a list, a dict of nested tuples, a number) made. -/
namespace L2
open PySem PySem.Spec PyProof.Rows
def tDNewN (P : Program) (w : World) : TE := fun _ H Q => ∀ p, H p = none → Q (.ref p) (upd H p (NDO P w p []))
section
variable {X : Cx} {pos : Pos}
theorem pe_dnewN : PE X (.Dict [] [] pos) (tDNewN X.prog X.w) := ⟨fun pins s σ H Q I h =>
  wpAny_Dict_empty ⟨.ref s.heap.objs.size, _, I.laid (a := s.heap.objs.size) (o := NDO X.prog X.w s.heap.objs.size []) (t' := s.toks) (fun _ _ q => Heap.get?_push_of_some _ q) (Nat.le_refl _)
    (NDO_ok ⟨beq_eq_false_iff_ne.mpr (Ne.symm (Nat.ne_of_lt I.big)), Nat.zero_le _, [], .nil, _, #[], 0, Heap.get?_push_size _ rfl, ⟨rfl, rfl, rfl⟩, rfl, rfl, List.nodup_nil⟩), rfl, h _ (I.hok.fresh (Nat.le_refl _))⟩⟩
end
end L2
namespace Gl
open PySem PySem.Spec PyProof.Rows L2
section
variable {X : Cx} {k j : Nat} {C : Addr} {sp : Sp} {E : L2.St → XK} {x : Str} {p pos : Pos}
/-- C() -/
theorem pe_mkC0 (M : Cm X.prog X.w X.K X.mg X.base k x C sp) (hr : Room j X.A) (hk : k + 1 ≤ j) (hG : X.A.guards = some []) (hg : Gl X x) (hx : ∀ σ, PassesAt (L2.CX X.prog X.w) X σ (E σ)) (hdb : (x == ("__debug__" : Str)) = false := by decide) :
    PE X (.Call (.Name x p) [] [] pos) (tMk C sp E tNil) := by
  obtain ⟨f, fd, ps, m, F, b⟩ := M.ex
  refine ⟨fun pins s σ H Q I h => ?_⟩
  refine wpAny_Call_Name_kw (ld_glob I hg M.mgx (PySem.W.callWith_K0 I.kIn m.kp ?_) hdb)
  exact run_mk m F (hr.mono hk) hG b (hx σ) I .nil h
end
end Gl
namespace Dw
open PySem PySem.Spec PyProof.Rows L2
def bkFs (r p : Addr) (n : Int) : List (Str × D) := [("records", .opq r), ("places", .opq p), ("freshes", .int n)]
def bkVs (r p : Addr) (n : Int) : List (Str × V) := [("records", .ref r), ("places", .ref p), ("freshes", .int n)]
def spBk (P : Program) (w : World) (C : Addr) : Sp := fun vs H Q _ => ∃ (a dx : Addr), vs = [.ref a] ∧ H a = some (.ins C dx []) ∧ ∀ r p H', H r = none → H p = none → r ≠ p → H' a = some (.ins C dx (bkVs r p 0)) → H' r = some (.lst []) → H' p = some (NDO P w p []) →
  (∀ b o, b ≠ a → H b = some o → H' b = some o) → Q .non H'
@[simp] def wNewBk (P : Program) (w : World) (C : Addr) : WE Rg := fun env s k x => ∀ a dx r p, s a = none → s r = none → s p = none → a ≠ r → a ≠ p → r ≠ p → k (.opq a) (rup (rup (rup s r (.lst [])) p (.nst P w [])) a (.ins C dx (bkFs r p 0)))
theorem bkF {B : Addr → Prop} {H : Hp} (r p : Addr) (n : Int) : DaF B H (bkVs r p n) (bkFs r p n) := .cons (.opq r) (.cons (.opq p) (.cons (.int n) .nil))
section
variable {G : Gm Rg} {P : Program} {w : World}
theorem sim_newBk {C : Addr} {E : L2.St → XK} : SimE RW G (Gl.tMk C (spBk P w C) E tNil) (wNewBk P w C) := fun R env σ H s rl k x hw ox Q hQ => by
  have j := rl.at_.j
  refine fun a dx ha hdx hne => ⟨a, dx, rfl, upd_same, fun r p H' hr hp nrp e1 e2 e3 kp => ⟨rfl, ?_⟩⟩
  have sn : ∀ b, H b = none → s b = none := fun b hb => by
    cases q : s b with
    | none => rfl
    | some o => exact absurd hb (j b o q).2.there.1
  have z1 : ∀ b, upd (upd H dx (.own a)) a (.ins C dx []) b = none → b ≠ a ∧ b ≠ dx ∧ H b = none := fun b hb => by
    have n1 : b ≠ a := fun z => by rw [z, upd_same] at hb; cases hb
    rw [upd_ne n1] at hb
    have n2 : b ≠ dx := fun z => by rw [z, upd_same] at hb; cases hb
    rw [upd_ne n2] at hb
    exact ⟨n1, n2, hb⟩
  obtain ⟨ra, _, hr⟩ := z1 r hr
  obtain ⟨pa, _, hp⟩ := z1 p hp
  have keep : ∀ b o, H b = some o → H' b = some o := fun b o e => kp b o (ne_of_none e ha) (by rw [upd_ne (ne_of_none e ha), upd_ne (ne_of_none e hdx)]; exact e)
  have cs : ∀ b, rup (rup (rup s r (.lst [])) p (.nst P w [])) a (.ins C dx (bkFs r p 0)) b ≠ none ↔ s b ≠ none ∨ b = a ∨ b = r ∨ b = p := fun b => by
    by_cases q1 : b = a
    · subst q1; simp
    · rw [rup_ne q1]
      by_cases q2 : b = p
      · subst q2; simp
      · rw [rup_ne q2]
        by_cases q3 : b = r
        · subst q3; simp
        · rw [rup_ne q3]
          simp [q1, q2, q3]
  have tk : ∀ t xs, H t = some (.tup xs) → H' t = some (.tup xs) ∧ ¬ (rup (rup (rup s r (.lst [])) p (.nst P w [])) a (.ins C dx (bkFs r p 0)) t ≠ none) := fun t xs e => ⟨keep t _ e, fun c => by
    rcases (cs t).mp c with c | c | c | c
    · exact RJ.ct j c e
    · exact ne_of_none e ha c
    · exact ne_of_none e hr c
    · exact ne_of_none e hp c⟩
  refine hQ (.opq a) _ (.ref a) H' (hw a dx r p (sn a ha) (sn r hr) (sn p hp) (Ne.symm ra) (Ne.symm pa) nrp) ⟨fun b o e _ => keep b o e, fun b c => (cs b).mpr (.inl c), fun b c => ?_⟩ (fun b o q => ?_) (.opq a)
  · rcases (cs b).mp c with c | rfl | rfl | rfl
    · exact .inl c
    · exact .inr ha
    · exact .inr hr
    · exact .inr hp
  · by_cases q1 : b = a
    · subst q1
      rw [rup_same] at q
      cases q
      exact ⟨rfl, _, e1, bkF r p 0⟩
    · rw [rup_ne q1] at q
      by_cases q2 : b = p
      · subst q2
        rw [rup_same] at q
        cases q
        exact ⟨rfl, [], ⟨e3, fun x h => by cases h⟩, rfl⟩
      · rw [rup_ne q2] at q
        by_cases q3 : b = r
        · subst q3
          rw [rup_same] at q
          cases q
          exact ⟨rfl, [], e2, .nil, Nat.zero_le _⟩
        · rw [rup_ne q3] at q
          obtain ⟨f, m⟩ := j b o q
          refine ⟨f, m.fl tk ?_ f⟩
          cases e : H b with
          | none => exact absurd e m.there.1
          | some u => exact keep b u e
end
def putFD (f : Str) (v : D) : List (Str × D) → List (Str × D)
  | [] => [(f, v)]
  | (g, x) :: r => if g = f then (g, v) :: r else (g, x) :: putFD f v r
theorem DaF.put {B : Addr → Prop} {H : Hp} {f : Str} {y : V} {v : D} (a : Da B H y v) : ∀ {xs : List (Str × V)} {fs : List (Str × D)}, DaF B H xs fs → DaF B H (putF f y xs) (putFD f v fs)
  | _, _, .nil => .cons a .nil
  | _, _, .cons (k := k) h t => by
    unfold putF putFD
    by_cases q : k = f
    · rw [if_pos q, if_pos q]
      exact .cons a t
    · rw [if_neg q, if_neg q]
      exact .cons h (t.put a)
theorem flts_put {f : Str} {v : D} (h : v.flt = true) : ∀ {fs : List (Str × D)}, D.flts (fs.map (·.2)) = true → D.flts ((putFD f v fs).map (·.2)) = true
  | [], _ => by simp [putFD, D.flts, h]
  | (g, x) :: r, q => by
    simp only [List.map_cons, D.flts, Bool.and_eq_true] at q
    unfold putFD
    by_cases e : g = f
    · rw [if_pos e]
      simp [D.flts, h, q.2]
    · rw [if_neg e]
      simp [D.flts, q.1, flts_put h q.2]
@[simp] def wFAugM (f : Str) (Cl : Addr → Prop) (wo wv : WE Rg) (wop : D → D → Rg → (D → Rg → Prop) → Prop) : WS Rg := fun KK env s => wo env s (fun d s1 => match d with
  | .opq a => (match s1 a with
    | some (.ins C _ fs) => Cl C ∧ (match fs.lookup f with
      | some z => wv env s1 (fun e s2 => wop z e s2 fun q s3 => q.flt = true ∧ (match s3 a with
        | some (.ins C' dx' fs') => C' = C ∧ fs'.length < 1000 ∧ KK.nx env (rup s3 a (.ins C' dx' (putFD f q fs')))
        | _ => False)) KK.xc
      | none => False)
    | _ => False)
  | _ => False) KK.xc
section
variable {G : Gm Rg} {K : PySem.W.Frag}
theorem ss_faugM {f : Str} {Cl : Addr → Prop} (hC : ∀ C, Cl C → Cls K C ∧ NoAttr K C f) {to tv : TE} {wo wv : WE Rg} {rd : R2} {wop : D → D → Rg → (D → Rg → Prop) → Prop} (ho : SimE RW G to wo) (hv : SimG RW G tv wv) (hop : SimO RW rd wop) : SimS RW G (sFldAug K to tv rd f) (wFAugM f Cl wo wv wop) :=
  fun R env σ H s rl KK hw Dn e => ho R env σ H s rl _ KK.xc hw e.xc _ fun d s1 v H1 hw1 f1 j1 a1 => by
    have rl1 := rl.step f1 j1
    cases d with
    | opq a =>
      cases a1
      dsimp only at hw1
      cases qs : s1 a with
      | none => rw [qs] at hw1; exact hw1.elim
      | some o =>
        rw [qs] at hw1
        cases o with
        | ins C dx fs =>
          obtain ⟨hc, hw1⟩ := hw1
          cases ql : fs.lookup f with
          | none => rw [ql] at hw1; exact hw1.elim
          | some z =>
            rw [ql] at hw1
            obtain ⟨fl, xs, e1, l⟩ := j1 a _ qs
            obtain ⟨u, hu, da⟩ := l.look ql
            refine ⟨a, C, dx, xs, u, rfl, e1, (hC C hc).1, (hC C hc).2, hu, ?_⟩
            have dz := RW.out rl1.at_ da (flts_look fl ql)
            refine hv R env σ H1 s1 rl1 _ KK.xc hw1 e.xc _ fun e0 s2 y H2 hw2 f2 j2 a2 => ?_
            have rl2 := rl1.step f2 j2
            refine hop R s2 H2 rl2.at_ u y z e0 (.da (dz.mv f2.mv)) a2 _ hw2 _ fun q q' H3 hw3 f3 j3 a3 => ?_
            have rl3 := rl2.step f3 j3
            obtain ⟨qf, hw3⟩ := hw3
            cases q3 : s2 a with
            | none => rw [q3] at hw3; exact hw3.elim
            | some o3 =>
              rw [q3] at hw3
              cases o3 with
              | ins C' dx' fs' =>
                obtain ⟨rfl, hlen, hw3⟩ := hw3
                obtain ⟨fl3, xs3, e3, l3⟩ := j3 a _ q3
                have into := RW.into rl3.at_ a3 qf
                have ff := flts_put (f := f) qf fl3
                have keep : ∀ t ys, H3 t = some (.tup ys) → upd H3 a (.ins C' dx' (putF f q' xs3)) t = some (.tup ys) ∧ ¬ (s2 t ≠ none) := fun t ys et => ⟨by rw [upd_ne fun zz => by rw [zz, e3] at et; cases et]; exact et, fun c => RJ.ct j3 c et⟩
                obtain ⟨p2, p3⟩ := rg_write (o := .ins C' dx' (putFD f q fs')) (u := .ins C' dx' (putF f q' xs3)) j3 q3 ff ⟨_, upd_same, (l3.put into).fl keep ff⟩
                exact ⟨dx', xs3, e3, by rw [l3.len]; exact hlen, e.nx R env σ _ _ hw3 (rl3.step p2 p3) (((f1.trans f2).trans f3).trans p2).mv⟩
              | _ => exact hw3.elim
        | _ => exact hw1.elim
    | _ => exact hw1.elim
theorem ss_faugMT {f : Str} {C : Addr} (c : Cls K C) (n : NoAttr K C f) {to tv : TE} {wo wv : WE Rg} {rd : R2} {wop : D → D → Rg → (D → Rg → Prop) → Prop} (ho : SimE RW G to wo) (hv : SimG RW G tv wv) (hop : SimO RW rd wop) : SimS RW G (sFldAug K to tv rd f) (wFAugM f (· = C) wo wv wop) :=
  ss_faugM (Cl := (· = C)) (fun _ h => h ▸ ⟨c, n⟩) ho hv hop
end
theorem so_raddR : SimO RW rAdd (wI0 fun i j => V.int (i + j)) := so_i0s (fun _ _ => True.intro)
theorem nk_num {d : D} {n : Int} (h : d.nk = some (.num n)) : d = .int n := by
  cases d <;> simp [D.nk] at h
  rw [h]
theorem nk_text {d : D} {x : Str} (h : d.nk = some (.text x)) : d = .str x := by
  cases d <;> simp [D.nk] at h
  rw [h]
theorem nk_tup {d : D} {ks : List NestedKey} (h : d.nk = some (.tup ks)) : ∃ ds, d = .tup ds ∧ D.nks ds = some ks := by
  cases d with
  | tup ds =>
    simp [D.nk] at h
    exact ⟨ds, rfl, h⟩
  | _ => simp [D.nk] at h
theorem nks_nil {ds : List D} (h : D.nks ds = some []) : ds = [] := by
  cases ds with
  | nil => rfl
  | cons d r =>
    unfold D.nks at h
    cases q1 : d.nk with
    | none => rw [q1] at h; cases h
    | some k =>
      cases q2 : D.nks r with
      | none => rw [q1, q2] at h; cases h
      | some ks => rw [q1, q2] at h; cases h
theorem nks_cons {ds : List D} {k : NestedKey} {ks : List NestedKey} (h : D.nks ds = some (k :: ks)) : ∃ d r, ds = d :: r ∧ d.nk = some k ∧ D.nks r = some ks := by
  cases ds with
  | nil => cases h
  | cons d r =>
    unfold D.nks at h
    cases q1 : d.nk with
    | none => rw [q1] at h; cases h
    | some k' =>
      cases q2 : D.nks r with
      | none => rw [q1, q2] at h; cases h
      | some ks' =>
        rw [q1, q2] at h
        cases h
        exact ⟨d, r, rfl, q1, q2⟩
end Dw
set_option Elab.async false
set_option linter.all false
set_option maxRecDepth 100000
set_option maxHeartbeats 4000000
/-! Ri: reversed(list) walked; xs.insert(i, y) of an own list. -/
namespace Dw
open PySem PySem.Spec PyProof.Rows L2
section
variable {S : Type} {W : Wd S} {G : Gm S} {K : PySem.W.Frag}
@[simp] def wiRevL (w : WA S) : WI S := fun env s k x => w env s (fun ds s1 => match ds with
  | [.lst es] => k es.reverse s1
  | _ => False) x
theorem itr_rev {a : Addr} {n : Nat} {ds : List D} (hn : n = ds.length) : Itr W (Itv K a n) ds.reverse (fun R s H => Da (Bf W R s) H (.ref a) (.lst ds)) where
  mv R s H R' s' H' h m := h.mv m
  go i R s H hi h := by
    rw [List.length_reverse] at hi
    cases h with
    | @lst _ xs _ e nb l z =>
      obtain ⟨v, hv, _⟩ := l.get' (i := n - 1 - i) (d := ds[n - 1 - i]'(by omega)) (List.getElem?_eq_getElem _)
      exact ⟨by omega, _, v, .of e, hv⟩
  stop R s H h := by
    show n ≤ ds.reverse.length
    rw [List.length_reverse, hn]
    exact Nat.le_refl _
  yld i R s H x H' hi h at_ y := by
    rw [List.length_reverse] at hi
    cases h with
    | lst e nb l z =>
      obtain ⟨rfl, y⟩ := y
      obtain ⟨d, hd, q⟩ := l.get (y _ (.of e))
      refine ⟨d, ?_, .refl, at_.j, q⟩
      rw [List.getElem?_reverse hi, ← hn]
      exact hd
theorem si_rev {t : TA} {w : WA S} (h : SimA W G t w) : SimI W G (iRev K t) (wiRevL w) := fun R env σ H s rl k x hw ox Q hQ => h R env σ H s rl _ x hw ox _ fun ds s1 vs H1 hw1 f1 j1 a1 => by
  match ds, a1, hw1 with
  | [.lst es], a1, hw1 =>
    cases a1 with
    | cons a t =>
      cases t
      cases a with
      | @lst a xs _ e n l z => exact ⟨a, xs, rfl, .of e, hQ _ s1 _ H1 _ hw1 f1 j1 (itr_rev l.len) (.lst e n l z)⟩
/-- xs.insert(0, y), xs the def's own -/
@[simp] def wIns (i : Nat) (wk : WA S) : WS S := fun KK env s => match sg env i with
  | .own ds => wk env s (fun es s1 => match es with
    | [.int z, d] => z = 0 ∧ ds.length < sizeLine ∧ KK.nx (ss env i (.own (d :: ds))) s1
    | _ => False) KK.xc
  | _ => False
abbrev rIns : V → List V → Hp → VK → Prop := fun x vs H Q => ∃ (l : Addr) (xs : List V) (i : Int) (y : V), x = .ref l ∧ vs = [.int i, y] ∧ H l = some (.lst xs) ∧ xs.length < sizeLine ∧ 0 ≤ i ∧ i < 2 ^ 63 ∧ Q .non (upd H l (.lst (xs.take i.toNat ++ [y] ++ xs.drop i.toNat)))
theorem ss_ins {i : Nat} {ta : TA} {wa : WA S} (h : SimA W G ta wa) : SimS W G (tDrop (tBM K "list" (fun x vs H Q => ∃ (l : Addr) (xs : List V) (i : Int) (y : V), x = .ref l ∧ vs = [.int i, y] ∧ H l = some (.lst xs) ∧ xs.length < sizeLine ∧ 0 ≤ i ∧ i < 2 ^ 63 ∧ Q .non (upd H l (.lst (xs.take i.toNat ++ [y] ++ xs.drop i.toNat)))) (tVar i) ta)) (wIns i wa) := fun R env σ H s rl KK hw Dn e => by
  unfold wIns at hw
  cases q : sg env i with
  | own ds =>
    rw [q] at hw
    obtain ⟨p, xs, e1, e2, l, z, nc, ch⟩ := rl.ownL q
    refine ⟨.ref p, e1, .inl ⟨rfl, xs, .of e2⟩, h R env σ H s rl _ KK.xc hw e.xc _ fun es s' vs H' hk f j a => ?_⟩
    match es, a, hk with
    | [.int zi, d], a, hk =>
      obtain ⟨rfl, hz, hk⟩ := hk
      cases a with
      | @cons v1 _ _ _ a1 t =>
        cases t with
        | @cons v2 _ _ _ a2 t =>
          cases t
          cases a1
          obtain ⟨rl', m⟩ := ch s' H' f j (v2 :: xs) (d :: ds) (.cons a2 (l.mv f.mv)) (by rw [List.length_cons]; omega)
          exact ⟨p, xs, 0, v2, rfl, rfl, f.kp _ _ e2 nc, by rw [l.len]; exact hz, Int.le_refl _, by decide, e.nx R _ σ _ s' hk rl' m⟩
  | _ => rw [q] at hw; exact hw.elim
end
end Dw
set_option Elab.async false
set_option linter.all false
set_option maxRecDepth 100000
set_option maxHeartbeats 8000000
namespace Law
open PySem PySem.Spec PyProof.Rows L2 Gl Dw
local macro_rules | `(tactic| walk_at "sc") => `(tactic| first
  | exact True.intro
  | (show _ ≤ sizeLine; decide +kernel))
local macro_rules | `(tactic| walk_at "sim") => `(tactic| first
  | ((with_reducible apply ss_seq) <;> walk_at "sim")
  | with_reducible exact ss_next
  | ((with_reducible apply ss_raise) <;> walk_at "sim")
  | with_reducible exact ss_raise0
  | ((with_reducible apply ss_try); walk_at "sim"; (intro _; walk_at "sim"); walk_at "sim")
  | ((with_reducible apply loc_if) <;> walk_at "sim")
  | with_reducible exact loc_asgDf
  | with_reducible exact loc_asgMk
  | ((with_reducible apply loc_seq) <;> walk_at "sim")
  | with_reducible exact loc_const
  | with_reducible exact SimHs.nil
  | ((with_reducible apply SimHs.cons); (intro _ _ _ _ _ _; walk_at "sim"); walk_at "sim")
  | with_reducible exact ss_brk
  | with_reducible exact ss_cont
  | with_reducible exact ss_retN
  | ((with_reducible apply ss_ret) <;> walk_at "sim")
  | ((with_reducible apply ss_if) <;> walk_at "sim")
  | ((with_reducible apply ss_asgO); (with_reducible assumption); walk_at "sim")
  | ((with_reducible apply ss_nput) <;> walk_at "sim")
  | ((with_reducible apply ss_setM) <;> walk_at "sim")
  | ((with_reducible apply ss_setL) <;> walk_at "sim")
  | ((with_reducible apply ss_pop) <;> walk_at "sim")
  | ((with_reducible apply ss_popAt) <;> walk_at "sim")
  | ((with_reducible apply ss_asg) <;> walk_at "sim")
  | ((with_reducible apply ss_par) <;> walk_at "sim")
  | ((with_reducible apply ss_par3) <;> walk_at "sim")
  | ((with_reducible apply ss_aug) <;> walk_at "sim")
  | ((with_reducible apply ss_app) <;> walk_at "sim")
  | ((with_reducible apply ss_appM) <;> walk_at "sim")
  | ((with_reducible apply ss_ins) <;> walk_at "sim")
  | ((with_reducible apply si_rev) <;> walk_at "sim")
  | ((with_reducible apply ss_ext) <;> walk_at "sim")
  | ((with_reducible apply ss_drop) <;> walk_at "sim")
  | ((with_reducible apply ss_for) <;> walk_at "sim")
  | ((with_reducible apply ss_while) <;> walk_at "sim")
  | with_reducible exact tg_name
  | ((with_reducible apply tg_tup) <;> walk_at "sim")
  | ((with_reducible apply tgs_cons) <;> walk_at "sim")
  | with_reducible exact tgs_nil
  | with_reducible exact sim_bgetE
  | ((with_reducible apply sim_tupRev) <;> walk_at "sim")
  | with_reducible exact sim_bget
  | ((with_reducible apply ss_bput) <;> walk_at "sim")
  | ((with_reducible apply ss_baug) <;> walk_at "sim")
  | ((with_reducible apply sim_nnotin) <;> walk_at "sim")
  | ((with_reducible apply sim_nget) <;> walk_at "sim")
  | ((with_reducible apply ss_nput) <;> walk_at "sim")
  | ((with_reducible apply ss_faugMT (by assumption) (by assumption)) <;> walk_at "sim")
  | ((with_reducible apply sim_fldMT (by assumption) (by assumption)) <;> walk_at "sim")
  | ((with_reducible apply sim_mtM) <;> walk_at "sim")
  | ((with_reducible apply sim_mtM0) <;> walk_at "sim")
  | with_reducible exact sim_newBk
  | with_reducible exact so_ixB
  | with_reducible exact so_ixM
  | with_reducible exact so_raddR
  | with_reducible exact so_rsubR
  | with_reducible exact sc_lenM
  | with_reducible exact sc_sortX
  | with_reducible exact sc_lenB
  | with_reducible exact so_radd
  | with_reducible exact so_rsub
  | ((with_reducible apply sim_dgetT) <;> walk_at "sim")
  | ((with_reducible apply sim_dinT) <;> walk_at "sim")
  | ((with_reducible apply sim_dnotInT) <;> walk_at "sim")
  | ((with_reducible apply sim_mt0) <;> walk_at "sim")
  | ((with_reducible apply sim_dcE) <;> walk_at "sim")
  | ((with_reducible apply si_enumT) <;> walk_at "sim")
  | with_reducible exact sc_sortI
  | with_reducible exact sim_var
  | with_reducible exact sim_varG
  | with_reducible exact sim_nil
  | with_reducible exact sim_nilB
  | ((with_reducible apply sim_cons) <;> walk_at "sim")
  | ((with_reducible apply sim_consB) <;> walk_at "sim")
  | ((with_reducible apply sim_c); walk_at "sc")
  | ((with_reducible apply sim_op) <;> walk_at "sim")
  | ((with_reducible apply sim_un) <;> walk_at "sim")
  | ((with_reducible apply sim_isG); (with_reducible assumption); walk_at "sim")
  | ((with_reducible apply sim_cb) <;> walk_at "sim")
  | ((with_reducible apply sim_tup) <;> walk_at "sim")
  | ((with_reducible apply sim_lst) <;> walk_at "sim")
  | ((with_reducible apply sim_lstF) <;> walk_at "sim")
  | ((with_reducible apply sim_call) <;> walk_at "sim")
  | ((with_reducible apply sim_callN) <;> walk_at "sim")
  | ((with_reducible apply sim_sl) <;> walk_at "sim")
  | with_reducible exact sp_no
  | ((with_reducible apply sp_part) <;> walk_at "sim")
  | ((with_reducible apply sim_test) <;> walk_at "sim")
  | ((with_reducible apply sim_tB) <;> walk_at "sim")
  | ((with_reducible apply sim_and) <;> walk_at "sim")
  | ((with_reducible apply sim_or) <;> walk_at "sim")
  | ((with_reducible apply sim_not) <;> walk_at "sim")
  | with_reducible exact sim_yes
  | ((with_reducible apply sim_andV) <;> walk_at "sim")
  | ((with_reducible apply sim_orV) <;> walk_at "sim")
  | ((with_reducible apply sim_notV) <;> walk_at "sim")
  | ((with_reducible apply sim_if) <;> walk_at "sim")
  | ((with_reducible apply sim_chain) <;> walk_at "sim")
  | ((with_reducible apply sim_lcF) <;> walk_at "sim")
  | ((with_reducible apply sim_lcE) <;> walk_at "sim")
  | ((with_reducible apply sim_lstRgF) <;> walk_at "sim")
  | ((with_reducible apply sim_lstRg) <;> walk_at "sim")
  | ((with_reducible apply sim_tupRg) <;> walk_at "sim")
  | ((with_reducible apply sim_rg1) <;> walk_at "sim")
  | ((with_reducible apply sim_rg2) <;> walk_at "sim")
  | ((with_reducible apply sim_listF) <;> walk_at "sim")
  | ((with_reducible apply sim_addF) <;> walk_at "sim")
  | ((with_reducible apply sim_join) <;> walk_at "sim")
  | ((with_reducible apply sim_lenSetS) <;> walk_at "sim")
  | ((with_reducible apply sim_fldT); (with_reducible assumption); (with_reducible assumption); walk_at "sim")
  | ((with_reducible apply sim_mk) <;> walk_at "sim")
  | ((with_reducible apply sim_mkN) <;> walk_at "sim")
  | ((with_reducible apply sim_xf); (with_reducible assumption))
  | with_reducible exact so_eqO
  | ((with_reducible apply si_x) <;> walk_at "sim")
  | ((with_reducible apply si_tup) <;> walk_at "sim")
  | ((with_reducible apply si_list) <;> walk_at "sim")
  | ((with_reducible apply si_str) <;> walk_at "sim")
  | ((with_reducible apply si_rng1) <;> walk_at "sim")
  | ((with_reducible apply si_rng2) <;> walk_at "sim")
  | ((with_reducible apply si_enum) <;> walk_at "sim")
  | ((with_reducible apply si_zip) <;> walk_at "sim")
  | with_reducible exact so_addX
  | with_reducible exact so_mulX
  | with_reducible exact so_divX
  | with_reducible exact so_eqX
  | with_reducible exact so_neX
  | with_reducible exact so_inX
  | with_reducible exact so_notInX
  | with_reducible exact so_ltX
  | with_reducible exact so_gtX
  | with_reducible exact so_geX
  | with_reducible exact so_leX
  | ((with_reducible apply so_i0s); (intros; exact True.intro))
  | ((with_reducible apply so_iCs); (intros; exact True.intro))
  | ((with_reducible apply su_is); (intros; exact True.intro))
  | with_reducible exact so_eq
  | with_reducible exact so_ne
  | with_reducible exact so_isN
  | with_reducible exact so_notN
  | with_reducible exact so_isB
  | with_reducible exact so_notB
  | with_reducible exact so_ixL
  | with_reducible exact so_ixT
  | with_reducible exact so_ixS
  | with_reducible exact so_ix
  | with_reducible exact so_in
  | with_reducible exact so_str
  | with_reducible exact so_inS
  | with_reducible exact so_notInS
  | with_reducible exact so_catT
  | with_reducible exact so_catL
  | with_reducible exact so_addS
  | with_reducible exact so_mulS
  | with_reducible exact so_repT
  | with_reducible exact so_eqD
  | with_reducible exact so_neD
  | with_reducible exact so_inD
  | with_reducible exact so_notInD
  | with_reducible exact so_leT
  | with_reducible exact sc_len
  | with_reducible exact sc_int
  | with_reducible exact sc_abs
  | with_reducible exact sc_str
  | with_reducible exact sc_mm
  | with_reducible exact sc_list
  | with_reducible exact sc_tuple
  | with_reducible exact sc_sum
  | with_reducible exact sc_all
  | with_reducible exact sc_any
  | with_reducible exact sc_isi
  | with_reducible exact sc_isiT
  | with_reducible exact sc_repr
  | with_reducible exact sl_x
  | with_reducible exact sl_t
  | with_reducible exact sl_l
  | with_reducible exact sl_s
  | ((with_reducible apply SimE.g); walk_at "sim")
  | (intros; decide)
  | skip)

def top (i : Nat) : Stmt := PySem.Challenge.pw_veilpost_k28_whole_frames_of_mixes.main.body.getD i (.Pass ⟨0, 0, 0, 0⟩)
abbrev FD (K : PySem.W.Frag) (x : Str) (st : Stmt) (f : Addr) (fd : FuncData) : Prop := FunD K x x (defArgs st) (defBody st) (defScope st) [] [] f fd
structure Tx (P : Program) (w : World) (K : PySem.W.Frag) (mg : Str → Option Value) : Prop where
  abs : mg "abs" = none
  all : mg "all" = none
  bool : mg "bool" = none
  dict : mg "dict" = none
  enumerate : mg "enumerate" = none
  int : mg "int" = none
  isinstance : mg "isinstance" = none
  len : mg "len" = none
  list : mg "list" = none
  range : mg "range" = none
  reversed : mg "reversed" = none
  set : mg "set" = none
  sorted : mg "sorted" = none
  str : mg "str" = none
  super : mg "super" = none
  tuple : mg "tuple" = none
  zip : mg "zip" = none
  m_MOST_TEXT : ∃ u, mg "MOST_TEXT" = some u ∧ RelV (.int 40) u
  m_MOST_NUMBER : ∃ u, mg "MOST_NUMBER" = some u ∧ RelV (.int 999999999999) u
  m_MOST_ITEMS : ∃ u, mg "MOST_ITEMS" = some u ∧ RelV (.int 400) u
  m_NAME : ∃ u, mg "NAME" = some u ∧ RelV (.str "name") u
  m_NUMBER : ∃ u, mg "NUMBER" = some u ∧ RelV (.str "number") u
  m_FRESH : ∃ u, mg "FRESH" = some u ∧ RelV (.str "fresh") u
  m_ROW : ∃ u, mg "ROW" = some u ∧ RelV (.str "row") u
  m_MOST_SENDERS : ∃ u, mg "MOST_SENDERS" = some u ∧ RelV (.int 6) u
  m_MOST_HOPS : ∃ u, mg "MOST_HOPS" = some u ∧ RelV (.int 4) u
abbrev WF (S : Type) := List D → S → (D → S → Prop) → (Xc → S → Prop) → Prop
/-- the hand stands at a, its cells at c -/
def HoR (a c : Addr) (s : Rg) : Prop := ∃ (cells : List Int) (p r m n : Int), s a = some (.lst [.opq c, .int p, .int r, .int m, .int n]) ∧ s c = some (.lst (cells.map D.int)) ∧ c ≠ a ∧ 0 ≤ p ∧ 0 ≤ r ∧ ∀ z ∈ cells, 0 ≤ z
def OffR (a : Addr) (s s' : Rg) : Prop := ∀ b, b ≠ a → s' b = s b
theorem OffR.put {a : Addr} {s s' : Rg} {o : Mo} (h : OffR a s s') : OffR a s (rup s' a o) := fun b ne => (rup_ne ne).trans (h b ne)
theorem OffR.refl {a : Addr} {s : Rg} : OffR a s s := fun _ _ => rfl
theorem OffR.trans {a : Addr} {s t u : Rg} (h : OffR a s t) (g : OffR a t u) : OffR a s u := fun b ne => (g b ne).trans (h b ne)
def wfDraw : WF Rg := fun ds s k _ => match ds with
  | [.opq a, .int m] => ∃ c, HoR a c s ∧ 0 < m ∧ m < 1073741824 ∧ ∀ s' i, HoR a c s' → OffR a s s' → 0 ≤ i → i < m → k (.int i) s'
  | _ => False
abbrev s__law_draw : Stmt := top 37
abbrev N__law_draw : List Str := ["hand", "many", "cell", "digit", "number"]
theorem sc__law_draw : FnScope N__law_draw ["hand", "many"] (defScope s__law_draw) := ⟨rfl, rfl, rfl, by decide +kernel, rfl, by decide +kernel, by decide +kernel⟩
section
variable {P : Program} {w : World} {K : PySem.W.Frag} {mg : Str → Option Value} {base : Heap}
theorem ok_law_draw (T : Tx P w K mg) {f : Addr} {fd : FuncData} (F : FD K "_law_draw" s__law_draw f fd) : Fn P w K mg base 1 f fd ["hand", "many"] (spX RW wfDraw) := by
  refine fn_data F sc__law_draw (fun ds s k x h => ?_) fun cv A outer s H G hr gd => ⟨_, (pss_cons (ps_if (PW.pt (pw_and (pt_cmpR (kEq (K := K) hr) (pe_ix (kIx (K := K)) (pv 0) pe_int (fun _ _ => rfl)) pe_int (nomark _)) (pw_and1 (pt_cmpR op_ltX (pe_ix (kIx (K := K)) (pv 0) pe_int (fun _ _ => rfl)) (pe_callB (kLen (K := K)) (by rfl) T.len (by decide +kernel) (pa_cons (pe_ix (kIx (K := K)) (pv 0) pe_int (fun _ _ => rfl)) pa_nil)) (nomark _))))) (pss_cons (ps_set (i := 2) sc__law_draw.nd rfl (Or.inl rfl) (pe_ix (kIx (K := K)) (pe_ix (kIx (K := K)) (pv 0) pe_int (fun _ _ => rfl)) (pe_ix (kIx (K := K)) (pv 0) pe_int (fun _ _ => rfl)) (fun _ _ => rfl)))
    (pss_cons (ps_asg (pe_op (kAdd (K := K)) (pe_ix (kIx (K := K)) (pv 0) pe_int (fun _ _ => rfl)) pe_int) (pg_sub (pv 0) pe_int set_list))
    (pss_cons (ps_asg (pe_op op_mod (pe_callTy Rd.cr_int (by rfl) T.int (by decide +kernel) (pa_cons (pe_op (kAdd (K := K)) (pe_op (kAdd (K := K)) (pe_op (kMul (K := K)) (pe_ix (kIx (K := K)) (pv 0) pe_int (fun _ _ => rfl)) pe_int) (pe_op (kMul (K := K)) (pv 2) pe_int)) pe_int) pa_nil)) pe_int) (pg_sub (pv 0) pe_int set_list))
    (pss_one (ps_if (pt_cmpR op_geX (pv 2) (pe_op op_pow pe_int pe_int) (nomark _)) (pss_one (ps_asg (pv 2) (pg_sub (pv 0) pe_int set_list))) pss_nil))))) pss_nil)
    (pss_cons (ps_if (pt_cmpR op_gtX (pe_ix (kIx (K := K)) (pv 0) pe_int (fun _ _ => rfl)) pe_int (nomark _)) (pss_cons (ps_set (i := 3) sc__law_draw.nd rfl (Or.inl rfl) (pe_op op_mod (pe_callTy Rd.cr_int (by rfl) T.int (by decide +kernel) (pa_cons (pe_ix (kIx (K := K)) (pv 0) pe_int (fun _ _ => rfl)) pa_nil)) (pv 1)))
    (pss_cons (ps_asg (pe_op op_divX (pe_ix (kIx (K := K)) (pv 0) pe_int (fun _ _ => rfl)) (pv 1)) (pg_sub (pv 0) pe_int set_list))
    (pss_one (ps_ret (pv 3))))) pss_nil)
    (pss_cons (ps_asg (pe_op (kAdd (K := K)) (pe_ix (kIx (K := K)) (pv 0) pe_int (fun _ _ => rfl)) pe_int) (pg_sub (pv 0) pe_int set_list))
    (pss_cons (ps_set (i := 4) sc__law_draw.nd rfl (Or.inl rfl) (pe_op op_mod (pe_callTy Rd.cr_int (by rfl) T.int (by decide +kernel) (pa_cons (pe_op (kMul (K := K)) (pe_callTy Rd.cr_int (by rfl) T.int (by decide +kernel) (pa_cons (pe_op (kAdd (K := K)) (pe_ix (kIx (K := K)) (pv 0) pe_int (fun _ _ => rfl)) (pe_op (kMul (K := K)) pe_int (pe_ix (kIx (K := K)) (pv 0) pe_int (fun _ _ => rfl)))) pa_nil)) pe_int) pa_nil)) pe_int))
    (pss_cons (ps_set (i := 4) sc__law_draw.nd rfl (Or.inl rfl) (pe_op op_mod (pe_callTy Rd.cr_int (by rfl) T.int (by decide +kernel) (pa_cons (pe_op (kMul (K := K)) (pv 4) (pe_op (kAdd (K := K)) (pe_op op_divX (pv 4) pe_int) pe_int)) pa_nil)) pe_int))
    (pss_cons (ps_set (i := 4) sc__law_draw.nd rfl (Or.inl rfl) (pe_op op_mod (pe_callTy Rd.cr_int (by rfl) T.int (by decide +kernel) (pa_cons (pe_op (kMul (K := K)) (pv 4) (pe_op (kAdd (K := K)) (pe_op op_divX (pv 4) pe_int) pe_int)) pa_nil)) pe_int))
    (pss_one (ps_ret (pe_op op_mod (pe_callTy Rd.cr_int (by rfl) T.int (by decide +kernel) (pa_cons (pe_op op_divX (pv 4) pe_int) pa_nil)) (pv 1)))))))))), ?_⟩
  · match ds, h with
    | [.opq a, .int m], _ => rfl
  · apply bodyW
    · walk_at "sim"
    intro ds s k x ok h
    match ds, h with
    | [.opq a, .int m], ⟨c, ⟨cells, p, r, mx, n, ha, hc, ne, p0, r0, z0⟩, hm, hm2, hk⟩ =>
      have cp : CPow 10 18 := ⟨by decide, by decide, by decide⟩
      have me : m ≠ 0 := by omega
      have hand : ∀ {s'}, OffR a s s' → s' c = some (.lst (cells.map D.int)) := fun o => (o c ne).trans hc
      refine cut (fun env s' => ∃ p r mx : Int, s' a = some (.lst [.opq c, .int p, .int r, .int mx, .int n]) ∧ OffR a s s' ∧ 0 ≤ p ∧ 0 ≤ r ∧ ∃ v2 v3 v4, env = [.dat (.opq a), .dat (.int m), v2, v3, v4]) (fun K1 h1 _ _ => ?_) fun env s' hI => ?_
      · simp [ha, hc, at0, at1, at2, at3, at4, ix51, ix52, ix53, ix54, cp]
        refine iteP (fun _ => iteP (fun hp => ?_) fun _ => h1 _ _ ⟨p, r, mx, ha, .refl, p0, r0, _, _, _, rfl⟩) fun _ => h1 _ _ ⟨p, r, mx, ha, .refl, p0, r0, _, _, _, rfl⟩
        obtain ⟨j, rfl⟩ := Int.eq_ofNat_of_zero_le p0
        have hj : j < cells.length := by omega
        have az : atI (cells.map D.int) (j : Int) = some (.int cells[j]) := atI_nat (by rw [List.getElem?_map, List.getElem?_eq_getElem hj]; rfl)
        have zz := z0 _ (List.getElem_mem hj)
        rw [az]
        refine ⟨.inl (.inr ⟨by decide, by decide⟩), .inl (.inr ⟨by decide, by decide⟩), iteP (fun _ => ⟨rfl, ?_⟩) fun _ => ?_⟩
        · exact h1 _ _ ⟨_, _, _, rup_same, .put .refl, by omega, zz, _, _, _, rfl⟩
        · exact h1 _ _ ⟨_, _, _, rup_same, .put .refl, by omega, r0, _, _, _, rfl⟩
      obtain ⟨p, r, mx, ha, off, p0, r0, v2, v3, v4, rfl⟩ := hI
      refine cut (fun env s' => ∃ mx : Int, s' a = some (.lst [.opq c, .int p, .int r, .int mx, .int n]) ∧ OffR a s s' ∧ ∃ v2 v3 v4, env = [.dat (.opq a), .dat (.int m), v2, v3, v4]) (fun K1 h1 e1 _ => ?_) fun env s' hI => ?_
      · simp [ha, hc, at0, at1, at2, at3, at4, ix51, ix52, ix53, ix54, cp, e1]
        refine iteP (fun _ => ⟨hm, .inl ⟨hm, hm2⟩, ?_⟩) fun _ => h1 _ _ ⟨mx, ha, off, v2, v3, v4, rfl⟩
        exact hk _ _ ⟨cells, p, r / m, mx, n, rup_same, by rw [rup_ne ne]; exact hand off, ne, p0, Int.ediv_nonneg r0 (by omega), z0⟩ (.put off) (Int.emod_nonneg _ me) (Int.emod_lt_of_pos _ hm)
      obtain ⟨mx, ha, off, v2, v3, v4, rfl⟩ := hI
      simp [ha, hc, at0, at1, at2, at3, at4, ix51, ix52, ix53, ix54, cp]
      have md : ∀ i j : Int, CMul (i % 2147483647) j ∨ CMulW (i % 2147483647) j := fun i j => .inl (.inl ⟨by omega, by omega⟩)
      have lit : ∀ {i j : Int}, -(2 ^ 64) < j ∧ j < 2 ^ 64 → CMul i j ∨ CMulW i j := fun h => .inl (.inr h)
      refine ⟨.inl (.inl ⟨by decide, by decide⟩), lit ⟨by decide, by decide⟩, .inl ⟨by decide, by decide⟩, md _ _, .inl ⟨by decide, by decide⟩, md _ _, .inl ⟨by decide, by decide⟩, hm, ?_⟩
      exact hk _ _ ⟨cells, p, r, mx, n + 1, rup_same, by rw [rup_ne ne]; exact hand off, ne, p0, r0, z0⟩ (.put off) (Int.emod_nonneg _ me) (Int.emod_lt_of_pos _ hm)
end
end Law
set_option Elab.async false
set_option linter.all false
set_option maxRecDepth 100000
set_option maxHeartbeats 8000000
namespace Law
open PySem PySem.Spec PyProof.Rows L2 Gl Dw
local macro_rules | `(tactic| walk_at "hp") => `(tactic| first
  | with_reducible assumption
  | with_reducible exact upd_same
  | ((with_reducible apply Rd.upd_new); (with_reducible assumption); (walk_at "hp"))
  | ((with_reducible apply Rd.upd_off); (with_reducible assumption); (walk_at "hp"))
  | ((with_reducible apply Rd.upd_off'); (with_reducible assumption); (walk_at "hp"))
  | exact upd_same)
local macro_rules | `(tactic| walk_at "sq") => `(tactic| first
  | assumption
  | (apply SqL.of; walk_at "hp")
  | (apply SqT.of; walk_at "hp"))
local macro_rules | `(tactic| walk_at "rd1") => `(tactic| first
  | with_reducible refine Rd.seq ?_
  | with_reducible refine Rd.asg ?_
  | with_reducible refine Rd.gname ?_
  | ((with_reducible apply Rd.var); rfl)
  | with_reducible refine Rd.cst ?_
  | with_reducible refine Rd.op ?_
  | with_reducible refine Rd.i0 ?_
  | ((with_reducible apply Rd.iC); (first | (show _ < _; omega) | exact ⟨by omega, by omega⟩ | exact .inl ⟨by omega, by omega⟩ | exact .inr ⟨by omega, by omega⟩ | exact ⟨by decide, by decide, by decide⟩); skip)
  | ((with_reducible apply Rd.ixl); (walk_at "sq"); (first | rfl | exact Rd.atI0 | assumption))
  | ((with_reducible apply Rd.ixt); (walk_at "sq"); (first | rfl | exact Rd.atI0 | assumption))
  | with_reducible refine Rd.ret ?_
  | with_reducible refine Rd.drop ?_
  | with_reducible refine Rd.next ?_
  | with_reducible refine Rd.ifs ?_
  | with_reducible refine Rd.test ?_
  | with_reducible refine Rd.tb ?_
  | with_reducible refine Rd.tnot ?_
  | with_reducible refine Rd.tor ?_
  | with_reducible refine Rd.tand ?_
  | with_reducible refine Rd.tyes ?_
  | with_reducible refine Rd.exbl ?_
  | with_reducible refine Rd.exint ?_
  | with_reducible refine Rd.eqI ?_
  | with_reducible refine Rd.neI ?_
  | with_reducible refine Rd.eqS ?_
  | with_reducible refine Rd.neS ?_
  | with_reducible refine Rd.cb ?_
  | with_reducible refine Rd.acons ?_
  | with_reducible refine Rd.anil ?_
  | with_reducible refine Rd.un ?_
  | with_reducible refine Rd.u1 ?_
  | ((with_reducible apply Rd.lenL); (walk_at "sq"))
  | ((with_reducible apply Rd.lenT); (walk_at "sq"))
  | with_reducible refine Rd.int1 ?_
  | with_reducible refine Rd.intb ?_
  | with_reducible refine Rd.abs1 ?_
  | with_reducible refine Rd.gsub ?_
  | ((with_reducible apply Rd.setl); (walk_at "hp"); (first | rfl | exact Rd.ixN0))
  | with_reducible refine Rd.bm ?_
  | with_reducible refine Rd.bm0 ?_
  | (apply Rd.tyl; (walk_at "hp"))
  | ((with_reducible apply Rd.appl); (walk_at "hp"))
  | ((with_reducible apply Rd.popat00); walk_at "hp")
  | with_reducible refine Rd.iteT ?_
  | with_reducible refine Rd.iteF ?_
  | with_reducible refine Rd.iteNT ?_
  | with_reducible refine Rd.iteNF ?_
  | with_reducible refine Rd.df ?_
  | (with_reducible (refine Rd.mkN ?_)); intro _ _
  | ((with_reducible apply Rd.mkE); rfl; intro _ _ _ _)
  | with_reducible refine Rd.lst ?_
  | with_reducible refine Rd.tup ?_
  | ((with_reducible (refine And.intro (Rd.szl (by simp)) ?_)); intro _ _)
  | ((with_reducible apply Rd.cat); (walk_at "hp"); (walk_at "hp"); exact Rd.szl2 (by simp); intro _ _)
  | ((with_reducible apply Rd.gtup); (walk_at "sq"); rfl)
  | with_reducible refine Rd.gcons ?_
  | with_reducible refine Rd.gnil ?_
  | with_reducible refine Rd.par ?_
  | with_reducible refine Rd.par2 ?_
  | with_reducible refine Rd.par3 ?_
  | ((with_reducible (refine Dt.dnew ?_)); intro _ _)
  | ((with_reducible (refine Dt.mulS ?_ ?_ ?_ ?_ ?_ ?_)); decide; decide; exact ⟨by decide, by decide⟩; decide +kernel; decide +kernel)
  | ((with_reducible apply Rd.aug); rfl)
  | with_reducible refine Rd.ipi ?_
  | with_reducible refine Rd.sl ?_
  | with_reducible refine Rd.part ?_
  | with_reducible refine Rd.nopart ?_
  | with_reducible refine Rd.andv ?_
  | with_reducible refine Rd.orv ?_
  | with_reducible refine Rd.notv ?_
  | with_reducible refine Rd.ifx ?_
  | with_reducible refine Rd.chain ?_
  | with_reducible refine Dt.isi_tup (by assumption) ?_
  | with_reducible refine Dt.isi_int (by assumption) ?_
  | with_reducible refine Dt.isi_bool (by assumption) ?_
  | with_reducible refine Dt.isi_str (by assumption) ?_
  | with_reducible refine Rd.par33 ?_
  | ((with_reducible apply Rd.fldE); rfl; (walk_at "hp"); (walk_at "hp")))

theorem po_hi {n : Int} : ∀ {σ : L2.St} {H : Hp} (R : Option Int → Hp → Prop), R (some n) H → tPart (tC (.int n)) σ H R := fun R h => ⟨n, rfl, h⟩
theorem po_no : ∀ {σ : L2.St} {H : Hp} (R : Option Int → Hp → Prop), R none H → tNoPart σ H R := fun R h => h
theorem mem_cut {ns : List Int} {lo hi : Option Int} {x : V} (h : x ∈ cutV (ns.map V.int) lo hi) : ∃ z, x = .int z := by
  unfold cutV at h
  obtain ⟨z, _, rfl⟩ := List.mem_map.mp (List.mem_of_mem_drop (List.mem_of_mem_take h))
  exact ⟨z, rfl⟩
theorem len_cut {xs : List V} {n : Nat} : (cutV xs none (some (n : Int))).length ≤ n := by
  unfold cutV
  rw [List.length_take]
  refine Nat.le_trans (Nat.min_le_left _ _) ?_
  show HT.sIx _ _ (some (n : Int)) - 0 ≤ n
  rw [HT.sIx_nat]
  omega
def gf : V → V
  | .int z => .int (if z < 0 then -z else z)
  | v => v
theorem abs_is : ∀ xs : List V, (∀ x ∈ xs, ∃ z, x = V.int z) → ∃ ms : List Int, (xs.filter fun _ => true).map gf = ms.map V.int ∧ ms.length = xs.length ∧ ∀ m ∈ ms, 0 ≤ m
  | [], _ => ⟨[], rfl, rfl, fun m h => nomatch h⟩
  | x :: xs, h => by
    obtain ⟨z, rfl⟩ := h x (by simp)
    obtain ⟨ms, e, l, p⟩ := abs_is xs fun y hy => h y (by simp [hy])
    refine ⟨(if z < 0 then -z else z) :: ms, by rw [List.filter_cons_of_pos rfl, List.map_cons, e]; rfl, by simp [l], fun m hm => ?_⟩
    rcases List.mem_cons.mp hm with rfl | hm
    · split <;> omega
    · exact p m hm
def spHandR (K : PySem.W.Frag) : Sp := fun vs H Q _ => ∃ (a : Addr) (ns : List Int), vs = [.ref a] ∧ SqL K H a (ns.map V.int) ∧ ns.length ≤ 1000 ∧ ∀ (p c : Addr) (H' : Hp) (ms : List Int) (m : Int), H' p = some (.lst [.ref c, .int 0, .int 0, .int m, .int 0]) → H' c = some (.lst (ms.map V.int)) → c ≠ p → (∀ z ∈ ms, 0 ≤ z) → ms.length ≤ 63 → Q (.ref p) H'
abbrev s__law_hand : Stmt := top 36
abbrev N__law_hand : List Str := ["script", "cells", "cell"]
theorem sc__law_hand : FnScope N__law_hand ["script"] (defScope s__law_hand) := ⟨rfl, rfl, rfl, by decide +kernel, rfl, by decide +kernel, by decide +kernel⟩
section
variable {P : Program} {w : World} {K : PySem.W.Frag} {mg : Str → Option Value} {base : Heap}
theorem ok_hand (T : Tx P w K mg) {f : Addr} {fd : FuncData} (F : FD K "_law_hand" s__law_hand f fd) : Fn P w K mg base 1 f fd ["script"] (spHandR K) := by
  refine fn_body F sc__law_hand (fun vs H Q E h => ?_) (fun cv A outer s H vs Q E hr gd h => ?_)
  · obtain ⟨a, ns, rfl, _⟩ := h
    rfl
  · obtain ⟨a, ns, rfl, hS, hl, k⟩ := h
    refine ⟨_, (pss_cons (ps_setLc (i := 1) (y := "cells") (own := [("cell", 2)]) (g := gName 2) (by rfl) sc__law_hand.nd rfl rfl (sw_true rfl rfl rfl (by decide +kernel)) (pi_list (pe_slice sl_list (pv 0) po_none (po_some pe_int))) (blkOk_by (own := [("cell", 2)]) (N := N__law_hand) (sc := defScope s__law_hand) (by decide +kernel)) (fun _ _ _ _ _ => pg_name (i := 2) sc__law_hand.nd rfl (Or.inl rfl)) (fun _ _ _ _ _ => pts_nil) (fun _ _ _ _ _ => (pe_callB Rd.cr_abs (by rfl) T.abs (by decide +kernel) (pa_cons (pe_callTy Rd.cr_int (by rfl) T.int (by decide +kernel) (pa_cons (pv 2) pa_nil)) pa_nil))))
    (pss_one (ps_ret (pe_lst (pa_cons (pv 1) (pa_cons pe_int (pa_cons pe_int (pa_cons (pe_op op_add pe_int (pe_op op_mul pe_int (pe_callB Rd.cr_len (by rfl) T.len (by decide +kernel) (pa_cons (pv 1) pa_nil)))) (pa_cons pe_int pa_nil))))))))), ?_⟩
    refine Rd.seq (Rd.asg (Rd.lcSl (i := 0) (lo := none) (hi := some ((63 : Nat) : Int)) rfl hS (Nat.le_trans len_cut (by decide)) po_no po_hi (fun _ => true) gf ?_ ?_))
    · intro x hx H2 S F hs h1 h2
      obtain ⟨z, rfl⟩ := mem_cut hx
      refine Rd.gname ⟨rfl, ?_⟩
      refine ite_t (b := F H2) (rfl : (true : Bool) = true) ?_
      repeat walk_at "rd1"
      exact h1 rfl
    · intro q hq D hD
      obtain ⟨ms, em, lm, pm⟩ := abs_is (cutV (ns.map V.int) none (some ((63 : Nat) : Int))) fun x hx => mem_cut hx
      have hG : upd (upd H q (.lst (cutV (ns.map V.int) none (some ((63 : Nat) : Int))))) D (.lst ((List.filter (fun _ => true) (cutV (ns.map V.int) none (some ((63 : Nat) : Int)))).map gf)) D = some (.lst (ms.map V.int)) := by rw [upd_same, em]
      revert hG
      generalize upd (upd H q _) D _ = H1
      intro hG
      have lm : ms.length ≤ 63 := by rw [lm]; exact len_cut
      repeat walk_at "rd1"
      rename_i p hp
      exact k p D _ ms _ upd_same (by rw [upd_ne (ne_of_none hG hp)]; exact hG) (ne_of_none hG hp) pm lm
def hand0 (p c : Addr) (ms : List Int) (m : Int) : Rg := fun x => if x = p then some (.lst [.opq c, .int 0, .int 0, .int m, .int 0]) else if x = c then some (.lst (ms.map D.int)) else none
theorem hand_at {H : Hp} {p c : Addr} {ms : List Int} {m : Int} (hp : H p = some (.lst [.ref c, .int 0, .int 0, .int m, .int 0])) (hc : H c = some (.lst (ms.map V.int))) (ne : c ≠ p) (z : ∀ z ∈ ms, 0 ≤ z) (l : ms.length ≤ 63) :
    RW.J (hand0 p c ms m) H ∧ HoR p c (hand0 p c ms m) := by
  have e1 : hand0 p c ms m p = some (.lst [.opq c, .int 0, .int 0, .int m, .int 0]) := by unfold hand0; rw [if_pos rfl]
  have e2 : hand0 p c ms m c = some (.lst (ms.map D.int)) := by unfold hand0; rw [if_neg ne, if_pos rfl]
  refine ⟨fun a o q => ?_, ms, 0, 0, m, 0, e1, e2, ne, Int.le_refl _, Int.le_refl _, z⟩
  by_cases h1 : a = p
  · subst h1
    rw [e1] at q
    cases q
    exact ⟨rfl, _, hp, .cons (.opq _) (.cons (.int _) (.cons (.int _) (.cons (.int _) (.cons (.int _) .nil)))), (show 5 ≤ sizeLine by decide)⟩
  · by_cases h2 : a = c
    · subst h2
      rw [e2] at q
      cases q
      refine ⟨flts_of fun d hd => ?_, _, hc, daL_ints ms, by rw [List.length_map, sizeLine_eq]; omega⟩
      obtain ⟨n, _, rfl⟩ := List.mem_map.mp hd
      rfl
    · unfold hand0 at q
      rw [if_neg h1, if_neg h2] at q
      cases q
theorem hand_startR {K : PySem.W.Frag} {N : List Str} {tr : TS} {a : Addr} {ns : List Int} {H : Hp} {Q : VK} {E : L2.St → XK} (h : SqL K H a (ns.map V.int)) (hl : ns.length ≤ 1000) (hQ : ∀ H', Q (.bl true) H') (hN : 1 ≤ N.length)
    (sim : ∃ wr : WS Rg, (∀ G : Gm Rg, SimS RW G tr wr) ∧ ∀ (p c : Addr) (s : Rg), HoR p c s → wr ⟨fun _ _ => False, fun d _ => d = .bl true, fun _ _ => False, fun _ _ => False, fun _ _ => False⟩ (ss (envOf N.length [.opq a]) 1 (.dat (.opq p))) s) :
    tSeq (tAsg (Gl.tDf (spHandR K) E (tCons (tVar 0) tNil)) (gName 1)) tr ⟨fun _ H' => Q .non H', Q, fun _ _ => False, fun _ _ => False⟩ (L2.start N [.ref a]) H := by
  obtain ⟨wr, sw, hw⟩ := sim
  refine ⟨.ref a, rfl, a, ns, rfl, h, hl, fun p c H' ms m hp hc ne z l => ?_⟩
  obtain ⟨J, ho⟩ := hand_at hp hc ne z l
  have rl := (rel_start (W := RW) (E := E0) (N := N) (R := fun _ => False) (s := hand0 p c ms m) ⟨J, fun _ h => h.elim, fun _ _ h => h.elim⟩ (.cons (.opq a) .nil)).setD 1 (v := .ref p) (d := .opq p) (.opq p)
  refine sw ⟨H', hand0 p c ms m, fun _ => False, E0⟩ _ _ _ _ _ rl _ (hw p c _ ho) _ ⟨?_, ?_, ?_, ?_, ?_⟩
  · intro _ _ _ _ _ hk
    exact hk.elim
  · intro d s' v H' hk _ _ a
    subst hk
    cases a
    exact hQ H'
  · intro _ _ _ _ _ hk
    exact hk.elim
  · intro _ _ _ _ _ hk
    exact hk.elim
  · intro _ _ _ _ _ hk
    exact hk.elim
theorem bodyR {tr : TS} {O : WS Rg → Prop} {wr : WS Rg} (a : ∀ G, SimS RW G tr wr) (b : O wr) : ∃ wr : WS Rg, (∀ G : Gm Rg, SimS RW G tr wr) ∧ O wr := ⟨wr, a, b⟩
end
end Law
set_option Elab.async false
set_option linter.all false
set_option maxRecDepth 100000
set_option maxHeartbeats 8000000
namespace Law
open PySem PySem.Spec PyProof.Rows L2 Gl Dw
local macro_rules | `(tactic| walk_at "sc") => `(tactic| first
  | exact True.intro
  | (show _ ≤ sizeLine; decide +kernel))
local macro_rules | `(tactic| walk_at "sim") => `(tactic| first
  | ((with_reducible apply ss_seq) <;> walk_at "sim")
  | with_reducible exact ss_next
  | ((with_reducible apply ss_raise) <;> walk_at "sim")
  | with_reducible exact ss_raise0
  | ((with_reducible apply ss_try); walk_at "sim"; (intro _; walk_at "sim"); walk_at "sim")
  | ((with_reducible apply loc_if) <;> walk_at "sim")
  | with_reducible exact loc_asgDf
  | with_reducible exact loc_asgMk
  | ((with_reducible apply loc_seq) <;> walk_at "sim")
  | with_reducible exact loc_const
  | with_reducible exact SimHs.nil
  | ((with_reducible apply SimHs.cons); (intro _ _ _ _ _ _; walk_at "sim"); walk_at "sim")
  | with_reducible exact ss_brk
  | with_reducible exact ss_cont
  | with_reducible exact ss_retN
  | ((with_reducible apply ss_ret) <;> walk_at "sim")
  | ((with_reducible apply ss_if) <;> walk_at "sim")
  | ((with_reducible apply ss_asgO); (with_reducible assumption); walk_at "sim")
  | ((with_reducible apply ss_nput) <;> walk_at "sim")
  | ((with_reducible apply ss_setM) <;> walk_at "sim")
  | ((with_reducible apply ss_setL) <;> walk_at "sim")
  | ((with_reducible apply ss_pop) <;> walk_at "sim")
  | ((with_reducible apply ss_popAt) <;> walk_at "sim")
  | ((with_reducible apply ss_asg) <;> walk_at "sim")
  | ((with_reducible apply ss_par) <;> walk_at "sim")
  | ((with_reducible apply ss_par3) <;> walk_at "sim")
  | ((with_reducible apply ss_aug) <;> walk_at "sim")
  | ((with_reducible apply ss_app) <;> walk_at "sim")
  | ((with_reducible apply ss_appM) <;> walk_at "sim")
  | ((with_reducible apply ss_ins) <;> walk_at "sim")
  | ((with_reducible apply si_rev) <;> walk_at "sim")
  | ((with_reducible apply ss_ext) <;> walk_at "sim")
  | ((with_reducible apply ss_drop) <;> walk_at "sim")
  | ((with_reducible apply ss_for) <;> walk_at "sim")
  | ((with_reducible apply ss_while) <;> walk_at "sim")
  | with_reducible exact tg_name
  | ((with_reducible apply tg_tup) <;> walk_at "sim")
  | ((with_reducible apply tgs_cons) <;> walk_at "sim")
  | with_reducible exact tgs_nil
  | with_reducible exact sim_bgetE
  | ((with_reducible apply sim_tupRev) <;> walk_at "sim")
  | with_reducible exact sim_bget
  | ((with_reducible apply ss_bput) <;> walk_at "sim")
  | ((with_reducible apply ss_baug) <;> walk_at "sim")
  | ((with_reducible apply sim_nnotin) <;> walk_at "sim")
  | ((with_reducible apply sim_nget) <;> walk_at "sim")
  | ((with_reducible apply ss_nput) <;> walk_at "sim")
  | ((with_reducible apply ss_faugMT (by assumption) (by assumption)) <;> walk_at "sim")
  | ((with_reducible apply sim_fldMT (by assumption) (by assumption)) <;> walk_at "sim")
  | ((with_reducible apply sim_mtM) <;> walk_at "sim")
  | ((with_reducible apply sim_mtM0) <;> walk_at "sim")
  | with_reducible exact sim_newBk
  | with_reducible exact so_ixB
  | with_reducible exact so_ixM
  | with_reducible exact so_raddR
  | with_reducible exact so_rsubR
  | with_reducible exact sc_lenM
  | with_reducible exact sc_sortX
  | with_reducible exact sc_lenB
  | with_reducible exact so_radd
  | with_reducible exact so_rsub
  | ((with_reducible apply sim_dgetT) <;> walk_at "sim")
  | ((with_reducible apply sim_dinT) <;> walk_at "sim")
  | ((with_reducible apply sim_dnotInT) <;> walk_at "sim")
  | ((with_reducible apply sim_mt0) <;> walk_at "sim")
  | ((with_reducible apply sim_dcE) <;> walk_at "sim")
  | ((with_reducible apply si_enumT) <;> walk_at "sim")
  | with_reducible exact sc_sortI
  | with_reducible exact sim_var
  | with_reducible exact sim_varG
  | with_reducible exact sim_nil
  | with_reducible exact sim_nilB
  | ((with_reducible apply sim_cons) <;> walk_at "sim")
  | ((with_reducible apply sim_consB) <;> walk_at "sim")
  | ((with_reducible apply sim_c); walk_at "sc")
  | ((with_reducible apply sim_op) <;> walk_at "sim")
  | ((with_reducible apply sim_un) <;> walk_at "sim")
  | ((with_reducible apply sim_isG); (with_reducible assumption); walk_at "sim")
  | ((with_reducible apply sim_cb) <;> walk_at "sim")
  | ((with_reducible apply sim_tup) <;> walk_at "sim")
  | ((with_reducible apply sim_lst) <;> walk_at "sim")
  | ((with_reducible apply sim_lstF) <;> walk_at "sim")
  | ((with_reducible apply sim_call) <;> walk_at "sim")
  | ((with_reducible apply sim_callN) <;> walk_at "sim")
  | ((with_reducible apply sim_sl) <;> walk_at "sim")
  | with_reducible exact sp_no
  | ((with_reducible apply sp_part) <;> walk_at "sim")
  | ((with_reducible apply sim_test) <;> walk_at "sim")
  | ((with_reducible apply sim_tB) <;> walk_at "sim")
  | ((with_reducible apply sim_and) <;> walk_at "sim")
  | ((with_reducible apply sim_or) <;> walk_at "sim")
  | ((with_reducible apply sim_not) <;> walk_at "sim")
  | with_reducible exact sim_yes
  | ((with_reducible apply sim_andV) <;> walk_at "sim")
  | ((with_reducible apply sim_orV) <;> walk_at "sim")
  | ((with_reducible apply sim_notV) <;> walk_at "sim")
  | ((with_reducible apply sim_if) <;> walk_at "sim")
  | ((with_reducible apply sim_chain) <;> walk_at "sim")
  | ((with_reducible apply sim_lcF) <;> walk_at "sim")
  | ((with_reducible apply sim_lcE) <;> walk_at "sim")
  | ((with_reducible apply sim_lstRgF) <;> walk_at "sim")
  | ((with_reducible apply sim_lstRg) <;> walk_at "sim")
  | ((with_reducible apply sim_tupRg) <;> walk_at "sim")
  | ((with_reducible apply sim_rg1) <;> walk_at "sim")
  | ((with_reducible apply sim_rg2) <;> walk_at "sim")
  | ((with_reducible apply sim_listF) <;> walk_at "sim")
  | ((with_reducible apply sim_addF) <;> walk_at "sim")
  | ((with_reducible apply sim_join) <;> walk_at "sim")
  | ((with_reducible apply sim_lenSetS) <;> walk_at "sim")
  | ((with_reducible apply sim_fldT); (with_reducible assumption); (with_reducible assumption); walk_at "sim")
  | ((with_reducible apply sim_mk) <;> walk_at "sim")
  | ((with_reducible apply sim_mkN) <;> walk_at "sim")
  | ((with_reducible apply sim_xf); (with_reducible assumption))
  | with_reducible exact so_eqO
  | ((with_reducible apply si_x) <;> walk_at "sim")
  | ((with_reducible apply si_tup) <;> walk_at "sim")
  | ((with_reducible apply si_list) <;> walk_at "sim")
  | ((with_reducible apply si_str) <;> walk_at "sim")
  | ((with_reducible apply si_rng1) <;> walk_at "sim")
  | ((with_reducible apply si_rng2) <;> walk_at "sim")
  | ((with_reducible apply si_enum) <;> walk_at "sim")
  | ((with_reducible apply si_zip) <;> walk_at "sim")
  | with_reducible exact so_addX
  | with_reducible exact so_mulX
  | with_reducible exact so_divX
  | with_reducible exact so_eqX
  | with_reducible exact so_neX
  | with_reducible exact so_inX
  | with_reducible exact so_notInX
  | with_reducible exact so_ltX
  | with_reducible exact so_gtX
  | with_reducible exact so_geX
  | with_reducible exact so_leX
  | ((with_reducible apply so_i0s); (intros; exact True.intro))
  | ((with_reducible apply so_iCs); (intros; exact True.intro))
  | ((with_reducible apply su_is); (intros; exact True.intro))
  | with_reducible exact so_eq
  | with_reducible exact so_ne
  | with_reducible exact so_isN
  | with_reducible exact so_notN
  | with_reducible exact so_isB
  | with_reducible exact so_notB
  | with_reducible exact so_ixL
  | with_reducible exact so_ixT
  | with_reducible exact so_ixS
  | with_reducible exact so_ix
  | with_reducible exact so_in
  | with_reducible exact so_str
  | with_reducible exact so_inS
  | with_reducible exact so_notInS
  | with_reducible exact so_catT
  | with_reducible exact so_catL
  | with_reducible exact so_addS
  | with_reducible exact so_mulS
  | with_reducible exact so_repT
  | with_reducible exact so_eqD
  | with_reducible exact so_neD
  | with_reducible exact so_inD
  | with_reducible exact so_notInD
  | with_reducible exact so_leT
  | with_reducible exact sc_len
  | with_reducible exact sc_int
  | with_reducible exact sc_abs
  | with_reducible exact sc_str
  | with_reducible exact sc_mm
  | with_reducible exact sc_list
  | with_reducible exact sc_tuple
  | with_reducible exact sc_sum
  | with_reducible exact sc_all
  | with_reducible exact sc_any
  | with_reducible exact sc_isi
  | with_reducible exact sc_isiT
  | with_reducible exact sc_repr
  | with_reducible exact sl_x
  | with_reducible exact sl_t
  | with_reducible exact sl_l
  | with_reducible exact sl_s
  | ((with_reducible apply SimE.g); walk_at "sim")
  | (intros; decide)
  | skip)

structure ClB (K : PySem.W.Frag) (C : Addr) : Prop where
  cls : Cls K C
  n1 : NoAttr K C "records"
  n2 : NoAttr K C "places"
  n3 : NoAttr K C "freshes"
/-- the book at b (its list at r, its dict at p) has these terms -/
def BkAt (P : Program) (w : World) (C b r p : Addr) (recs : List D) (n : Int) (s : Rg) : Prop := ∃ (dx : Addr) (xs : List (NestedKey × Int)), s b = some (.ins C dx (bkFs r p n)) ∧ s r = some (.lst recs) ∧ s p = some (.nst P w xs) ∧ b ≠ r ∧ b ≠ p ∧ r ≠ p ∧
  xs.length = recs.length ∧ ∀ (i : Nat) (d : D), recs[i]? = some d → ∃ key, d.nk = some key ∧ xs[i]? = some (key, (i : Int))
theorem lkR {r p : Addr} {n : Int} : List.lookup ("records" : Str) (bkFs r p n) = some (.opq r) := rfl
theorem lkP {r p : Addr} {n : Int} : List.lookup ("places" : Str) (bkFs r p n) = some (.opq p) := rfl
theorem lkF {r p : Addr} {n : Int} : List.lookup ("freshes" : Str) (bkFs r p n) = some (.int n) := rfl
theorem atNI_new {xs : List (NestedKey × Int)} {k : NestedKey} {n : Int} (h : atNI xs k = none) : atNI (xs ++ [(k, n)]) k = some n := by
  unfold atNI at h ⊢
  rw [Option.map_eq_none_iff] at h
  rw [List.find?_append, h]
  simp
def OffB (b r p : Addr) (s s' : Rg) : Prop := ∀ x, x ≠ b → x ≠ r → x ≠ p → s' x = s x
def wfRaw (P : Program) (w : World) (C : Addr) : WF Rg := fun ds s k _ => match ds with
  | [.opq b, .str kd, .tup ps] => ∃ r p recs n key, BkAt P w C b r p recs n s ∧ (D.tup [.str kd, .tup ps]).nk = some key ∧ key.depth ≤ 8 ∧ D.flts ps = true ∧ recs.length < 10000 ∧ (∀ d ∈ recs, d.nk ≠ some key) ∧
    ∀ s', BkAt P w C b r p (recs ++ [.tup [.str kd, .tup ps]]) n s' → OffB b r p s s' → k (.int recs.length) s'
  | _ => False
abbrev s_Book_raw_put : Stmt := inClass (top 22) 7
abbrev N_Book_raw_put : List Str := ["self", "kind", "parts", "entry"]
theorem sc_Book_raw_put : FnScope N_Book_raw_put ["self", "kind", "parts"] (defScope s_Book_raw_put) := ⟨rfl, rfl, rfl, by decide +kernel, rfl, by decide +kernel, by decide +kernel⟩
section
variable {P : Program} {w : World} {K : PySem.W.Frag} {mg : Str → Option Value} {base : Heap} {CB : Addr}
theorem ok_raw_put (T : Tx P w K mg) (cB : ClB K CB) {f : Addr} {fd : FuncData} (F : FunD K "raw_put" "Book.raw_put" (defArgs s_Book_raw_put) (defBody s_Book_raw_put) (defScope s_Book_raw_put) [] [] f fd) : Fn P w K mg base 1 f fd ["self", "kind", "parts"] (spX RW (wfRaw P w CB)) := by
  refine fn_data F sc_Book_raw_put (fun ds s k x h => ?_) fun cv A outer s H G hr gd => ⟨_, (pss_cons (ps_set (i := 3) sc_Book_raw_put.nd rfl (Or.inl rfl) (pe_tup (pa_cons (pv 1) (pa_cons (pv 2) pa_nil))))
    (pss_cons (ps_if (pt_cmp (kNNI (P := P) (w := w) (huN hr) (pv 3) (kFld (K := K) (pv 0) rfl))) (pss_cons (ps_asg (pe_callB (kLen (K := K)) (by rfl) T.len (by decide +kernel) (pa_cons (kFld (K := K) (pv 0) rfl) pa_nil)) (pg_sub (kFld (K := K) (pv 0) rfl) (pv 3) (kSN (P := P) (w := w) (huN hr))))
    (pss_one (ps_expr (pe_bm PySem.F.plainAttrs_list PySem.F.slot_list_append PySem.F.type_list_append mt_append (kFld (K := K) (pv 0) rfl) (pa_cons (pv 3) pa_nil))))) pss_nil)
    (pss_one (ps_ret (kNG (P := P) (w := w) (huN hr) (kFld (K := K) (pv 0) rfl) (pv 3) (fun _ _ => rfl)))))), ?_⟩
  · match ds, h with
    | [.opq a, .str _, .tup _], _ => rfl
  · have c1 := cB.cls
    have c2 := cB.n1
    have c3 := cB.n2
    have c4 := cB.n3
    apply bodyW
    · walk_at "sim"
    intro ds s k x ok h
    match ds, h with
    | [.opq b, .str kd, .tup ps], ⟨r, p, recs, n, key, ⟨dx, xs, hb, hr', hp, br, bp, rp, lx, hx⟩, nk, kdp, fl, lz, new, hk⟩ =>
      have no : atNI xs key = none := by
        unfold atNI
        rw [Option.map_eq_none_iff, List.find?_eq_none]
        intro x hx'
        obtain ⟨i, hi, e⟩ := List.getElem_of_mem hx'
        have hd : recs[i]? = some recs[i] := List.getElem?_eq_getElem (by omega)
        obtain ⟨key', nk', e'⟩ := hx i _ hd
        have : x = (key', (i : Int)) := by
          rw [List.getElem?_eq_getElem hi, e] at e'
          exact Option.some.inj e'
        rw [this]
        intro z
        have z := of_decide_eq_true z
        exact new recs[i] (List.getElem_mem (by omega)) (by rw [nk', ← z])
      simp [hb, hr', hp, lkR, lkP, nk, no, rup_ne br, rup_ne bp, rup_ne rp, rup_ne (Ne.symm br), rup_ne (Ne.symm bp), rup_ne (Ne.symm rp)]
      refine ⟨by decide, kdp, by rw [sizeLine_eq]; omega, fl, by rw [sizeLine_eq]; omega, kdp, _, atNI_new no, hk _ ⟨dx, xs ++ [(key, (recs.length : Int))], ?_, rup_same, ?_, br, bp, rp, by simp [lx], fun i d hd => ?_⟩ fun x h1 h2 h3 => ?_⟩
      · rw [rup_ne br, rup_ne bp]
        exact hb
      · rw [rup_ne (Ne.symm rp), rup_same]
      · rcases Nat.lt_or_ge i recs.length with hi | hi
        · rw [List.getElem?_append_left hi] at hd
          obtain ⟨key', q1, q2⟩ := hx i d hd
          exact ⟨key', q1, by rw [List.getElem?_append_left (by omega)]; exact q2⟩
        · rw [List.getElem?_append_right hi] at hd
          have : i = recs.length := by
            rcases Nat.lt_or_ge recs.length i with h | h
            · rw [List.getElem?_eq_none (by simp; omega)] at hd
              cases hd
            · omega
          subst this
          simp at hd
          subst hd
          exact ⟨key, nk, by rw [List.getElem?_append_right (by omega), lx]; simp⟩
      · rw [rup_ne h2, rup_ne h3]
end
end Law
set_option Elab.async false
set_option linter.all false
set_option maxRecDepth 100000
set_option maxHeartbeats 8000000
namespace Law
open PySem PySem.Spec PyProof.Rows L2 Gl Dw
local macro_rules | `(tactic| walk_at "sc") => `(tactic| first
  | exact True.intro
  | (show _ ≤ sizeLine; decide +kernel))
local macro_rules | `(tactic| walk_at "sim") => `(tactic| first
  | ((with_reducible apply ss_seq) <;> walk_at "sim")
  | with_reducible exact ss_next
  | ((with_reducible apply ss_raise) <;> walk_at "sim")
  | with_reducible exact ss_raise0
  | ((with_reducible apply ss_try); walk_at "sim"; (intro _; walk_at "sim"); walk_at "sim")
  | ((with_reducible apply loc_if) <;> walk_at "sim")
  | with_reducible exact loc_asgDf
  | with_reducible exact loc_asgMk
  | ((with_reducible apply loc_seq) <;> walk_at "sim")
  | with_reducible exact loc_const
  | with_reducible exact SimHs.nil
  | ((with_reducible apply SimHs.cons); (intro _ _ _ _ _ _; walk_at "sim"); walk_at "sim")
  | with_reducible exact ss_brk
  | with_reducible exact ss_cont
  | with_reducible exact ss_retN
  | ((with_reducible apply ss_ret) <;> walk_at "sim")
  | ((with_reducible apply ss_if) <;> walk_at "sim")
  | ((with_reducible apply ss_asgO); (with_reducible assumption); walk_at "sim")
  | ((with_reducible apply ss_nput) <;> walk_at "sim")
  | ((with_reducible apply ss_setM) <;> walk_at "sim")
  | ((with_reducible apply ss_setL) <;> walk_at "sim")
  | ((with_reducible apply ss_pop) <;> walk_at "sim")
  | ((with_reducible apply ss_popAt) <;> walk_at "sim")
  | ((with_reducible apply ss_asg) <;> walk_at "sim")
  | ((with_reducible apply ss_par) <;> walk_at "sim")
  | ((with_reducible apply ss_par3) <;> walk_at "sim")
  | ((with_reducible apply ss_aug) <;> walk_at "sim")
  | ((with_reducible apply ss_app) <;> walk_at "sim")
  | ((with_reducible apply ss_appM) <;> walk_at "sim")
  | ((with_reducible apply ss_ins) <;> walk_at "sim")
  | ((with_reducible apply si_rev) <;> walk_at "sim")
  | ((with_reducible apply ss_ext) <;> walk_at "sim")
  | ((with_reducible apply ss_drop) <;> walk_at "sim")
  | ((with_reducible apply ss_for) <;> walk_at "sim")
  | ((with_reducible apply ss_while) <;> walk_at "sim")
  | with_reducible exact tg_name
  | ((with_reducible apply tg_tup) <;> walk_at "sim")
  | ((with_reducible apply tgs_cons) <;> walk_at "sim")
  | with_reducible exact tgs_nil
  | with_reducible exact sim_bgetE
  | ((with_reducible apply sim_tupRev) <;> walk_at "sim")
  | with_reducible exact sim_bget
  | ((with_reducible apply ss_bput) <;> walk_at "sim")
  | ((with_reducible apply ss_baug) <;> walk_at "sim")
  | ((with_reducible apply sim_nnotin) <;> walk_at "sim")
  | ((with_reducible apply sim_nget) <;> walk_at "sim")
  | ((with_reducible apply ss_nput) <;> walk_at "sim")
  | ((with_reducible apply ss_faugMT (by assumption) (by assumption)) <;> walk_at "sim")
  | ((with_reducible apply sim_fldMT (by assumption) (by assumption)) <;> walk_at "sim")
  | ((with_reducible apply sim_mtM) <;> walk_at "sim")
  | ((with_reducible apply sim_mtM0) <;> walk_at "sim")
  | with_reducible exact sim_newBk
  | with_reducible exact so_ixB
  | with_reducible exact so_ixM
  | with_reducible exact so_raddR
  | with_reducible exact so_rsubR
  | with_reducible exact sc_lenM
  | with_reducible exact sc_sortX
  | with_reducible exact sc_lenB
  | with_reducible exact so_radd
  | with_reducible exact so_rsub
  | ((with_reducible apply sim_dgetT) <;> walk_at "sim")
  | ((with_reducible apply sim_dinT) <;> walk_at "sim")
  | ((with_reducible apply sim_dnotInT) <;> walk_at "sim")
  | ((with_reducible apply sim_mt0) <;> walk_at "sim")
  | ((with_reducible apply sim_dcE) <;> walk_at "sim")
  | ((with_reducible apply si_enumT) <;> walk_at "sim")
  | with_reducible exact sc_sortI
  | with_reducible exact sim_var
  | with_reducible exact sim_varG
  | with_reducible exact sim_nil
  | with_reducible exact sim_nilB
  | ((with_reducible apply sim_cons) <;> walk_at "sim")
  | ((with_reducible apply sim_consB) <;> walk_at "sim")
  | ((with_reducible apply sim_c); walk_at "sc")
  | ((with_reducible apply sim_op) <;> walk_at "sim")
  | ((with_reducible apply sim_un) <;> walk_at "sim")
  | ((with_reducible apply sim_isG); (with_reducible assumption); walk_at "sim")
  | ((with_reducible apply sim_cb) <;> walk_at "sim")
  | ((with_reducible apply sim_tup) <;> walk_at "sim")
  | ((with_reducible apply sim_lst) <;> walk_at "sim")
  | ((with_reducible apply sim_lstF) <;> walk_at "sim")
  | ((with_reducible apply sim_call) <;> walk_at "sim")
  | ((with_reducible apply sim_callN) <;> walk_at "sim")
  | ((with_reducible apply sim_sl) <;> walk_at "sim")
  | with_reducible exact sp_no
  | ((with_reducible apply sp_part) <;> walk_at "sim")
  | ((with_reducible apply sim_test) <;> walk_at "sim")
  | ((with_reducible apply sim_tB) <;> walk_at "sim")
  | ((with_reducible apply sim_and) <;> walk_at "sim")
  | ((with_reducible apply sim_or) <;> walk_at "sim")
  | ((with_reducible apply sim_not) <;> walk_at "sim")
  | with_reducible exact sim_yes
  | ((with_reducible apply sim_andV) <;> walk_at "sim")
  | ((with_reducible apply sim_orV) <;> walk_at "sim")
  | ((with_reducible apply sim_notV) <;> walk_at "sim")
  | ((with_reducible apply sim_if) <;> walk_at "sim")
  | ((with_reducible apply sim_chain) <;> walk_at "sim")
  | ((with_reducible apply sim_lcF) <;> walk_at "sim")
  | ((with_reducible apply sim_lcE) <;> walk_at "sim")
  | ((with_reducible apply sim_lstRgF) <;> walk_at "sim")
  | ((with_reducible apply sim_lstRg) <;> walk_at "sim")
  | ((with_reducible apply sim_tupRg) <;> walk_at "sim")
  | ((with_reducible apply sim_rg1) <;> walk_at "sim")
  | ((with_reducible apply sim_rg2) <;> walk_at "sim")
  | ((with_reducible apply sim_listF) <;> walk_at "sim")
  | ((with_reducible apply sim_addF) <;> walk_at "sim")
  | ((with_reducible apply sim_join) <;> walk_at "sim")
  | ((with_reducible apply sim_lenSetS) <;> walk_at "sim")
  | ((with_reducible apply sim_fldT); (with_reducible assumption); (with_reducible assumption); walk_at "sim")
  | ((with_reducible apply sim_mk) <;> walk_at "sim")
  | ((with_reducible apply sim_mkN) <;> walk_at "sim")
  | ((with_reducible apply sim_xf); (with_reducible assumption))
  | with_reducible exact so_eqO
  | ((with_reducible apply si_x) <;> walk_at "sim")
  | ((with_reducible apply si_tup) <;> walk_at "sim")
  | ((with_reducible apply si_list) <;> walk_at "sim")
  | ((with_reducible apply si_str) <;> walk_at "sim")
  | ((with_reducible apply si_rng1) <;> walk_at "sim")
  | ((with_reducible apply si_rng2) <;> walk_at "sim")
  | ((with_reducible apply si_enum) <;> walk_at "sim")
  | ((with_reducible apply si_zip) <;> walk_at "sim")
  | with_reducible exact so_addX
  | with_reducible exact so_mulX
  | with_reducible exact so_divX
  | with_reducible exact so_eqX
  | with_reducible exact so_neX
  | with_reducible exact so_inX
  | with_reducible exact so_notInX
  | with_reducible exact so_ltX
  | with_reducible exact so_gtX
  | with_reducible exact so_geX
  | with_reducible exact so_leX
  | ((with_reducible apply so_i0s); (intros; exact True.intro))
  | ((with_reducible apply so_iCs); (intros; exact True.intro))
  | ((with_reducible apply su_is); (intros; exact True.intro))
  | with_reducible exact so_eq
  | with_reducible exact so_ne
  | with_reducible exact so_isN
  | with_reducible exact so_notN
  | with_reducible exact so_isB
  | with_reducible exact so_notB
  | with_reducible exact so_ixL
  | with_reducible exact so_ixT
  | with_reducible exact so_ixS
  | with_reducible exact so_ix
  | with_reducible exact so_in
  | with_reducible exact so_str
  | with_reducible exact so_inS
  | with_reducible exact so_notInS
  | with_reducible exact so_catT
  | with_reducible exact so_catL
  | with_reducible exact so_addS
  | with_reducible exact so_mulS
  | with_reducible exact so_repT
  | with_reducible exact so_eqD
  | with_reducible exact so_neD
  | with_reducible exact so_inD
  | with_reducible exact so_notInD
  | with_reducible exact so_leT
  | with_reducible exact sc_len
  | with_reducible exact sc_int
  | with_reducible exact sc_abs
  | with_reducible exact sc_str
  | with_reducible exact sc_mm
  | with_reducible exact sc_list
  | with_reducible exact sc_tuple
  | with_reducible exact sc_sum
  | with_reducible exact sc_all
  | with_reducible exact sc_any
  | with_reducible exact sc_isi
  | with_reducible exact sc_isiT
  | with_reducible exact sc_repr
  | with_reducible exact sl_x
  | with_reducible exact sl_t
  | with_reducible exact sl_l
  | with_reducible exact sl_s
  | ((with_reducible apply SimE.g); walk_at "sim")
  | (intros; decide)
  | skip)

def frD (n : Int) : D := .tup [.str "fresh", .tup [.int n]]
theorem frD_nk (n : Int) : (frD n).nk = some (.tup [.text "fresh", .tup [.num n]]) := rfl
/-- fresh ones have numbers below n -/
def FrB (recs : List D) (n : Int) : Prop := ∀ d ∈ recs, ∀ m, d = frD m → m < n
theorem frD_of {d : D} {n : Int} (h : d.nk = some (.tup [.text "fresh", .tup [.num n]])) : d = frD n := by
  obtain ⟨ds, rfl, g1⟩ := nk_tup h
  obtain ⟨d1, r, rfl, h1, g2⟩ := nks_cons g1
  obtain ⟨d2, r, rfl, h2, g3⟩ := nks_cons g2
  rw [nks_nil g3, nk_text h1]
  obtain ⟨es, rfl, g4⟩ := nk_tup h2
  obtain ⟨d3, r, rfl, h3, g5⟩ := nks_cons g4
  rw [nks_nil g5, nk_num h3]
  rfl
theorem pfF {r p : Addr} {n : Int} {d : D} : putFD "freshes" d (bkFs r p n) = ([("records", .opq r), ("places", .opq p), ("freshes", d)] : List (Str × D)) := rfl
def wfFresh (P : Program) (w : World) (C : Addr) : WF Rg := fun ds s k _ => match ds with
  | [.opq b] => ∃ r p recs n, BkAt P w C b r p recs n s ∧ FrB recs n ∧ recs.length < 10000 ∧ ∀ s', BkAt P w C b r p (recs ++ [frD n]) (n + 1) s' → OffB b r p s s' → k (.int recs.length) s'
  | _ => False
abbrev s_Book_fresh : Stmt := inClass (top 22) 9
abbrev N_Book_fresh : List Str := ["self"]
theorem sc_Book_fresh : FnScope N_Book_fresh ["self"] (defScope s_Book_fresh) := ⟨rfl, rfl, rfl, by decide +kernel, rfl, by decide +kernel, by decide +kernel⟩
section
variable {P : Program} {w : World} {K : PySem.W.Frag} {mg : Str → Option Value} {base : Heap} {CB : Addr}
theorem ok_fresh (T : Tx P w K mg) (cB : ClB K CB) (q_Book_raw_put : Cf P w K mg base 1 CB "raw_put" (spX RW (wfRaw P w CB))) {f : Addr} {fd : FuncData} (F : FunD K "fresh" "Book.fresh" (defArgs s_Book_fresh) (defBody s_Book_fresh) (defScope s_Book_fresh) [] [] f fd) : Fn P w K mg base 2 f fd ["self"] (spX RW (wfFresh P w CB)) := by
  refine fn_data F sc_Book_fresh (fun ds s k x h => ?_) fun cv A outer s H G hr gd => ⟨_, (pss_cons (kFAug (K := K) (pv 0) pe_int in_add)
    (pss_one (ps_ret (pe_mtA q_Book_raw_put hr (by omega) gd (fun σ => Gl.no_pass σ) (pv 0) (pa_cons (C8.pe_gc rfl T.m_FRESH) (pa_cons (pe_tup (pa_cons (pe_op op_sub (kFld (K := K) (pv 0) rfl) pe_int) pa_nil)) pa_nil)))))), ?_⟩
  · match ds, h with
    | [.opq a], _ => rfl
  · have c1 := cB.cls
    have c2 := cB.n1
    have c3 := cB.n2
    have c4 := cB.n3
    apply bodyW
    · walk_at "sim"
    intro ds s k x ok h
    match ds, h with
    | [.opq b], ⟨r, p, recs, n, ⟨dx, xs, hb, hr', hp, br, bp, rp, lx, hx⟩, fb, lz, hk⟩ =>
      simp [hb, hr', hp, lkF]
      rw [pfF]
      refine ⟨(show (3 : Nat) < 1000 by decide), fun a b hm => ?_, ?_⟩
      · simp at hm
        rcases hm with ⟨rfl, _⟩ | ⟨rfl, _⟩ | ⟨rfl, _⟩ <;> decide
      show (1 ≤ sizeLine ∧ wfRaw P w CB [D.opq b, D.str "fresh", D.tup [D.int (n + 1 - 1)]] (rup s b (Mo.ins CB dx (bkFs r p (n + 1)))) k fun x x_1 => False)
      rw [show n + 1 - 1 = n by omega]
      refine ⟨by decide, r, p, recs, n + 1, _, ⟨dx, xs, rup_same, by rw [rup_ne (Ne.symm br)]; exact hr', by rw [rup_ne (Ne.symm bp)]; exact hp, br, bp, rp, lx, hx⟩, frD_nk n, (by simp [NestedKey.depth, NestedKey.depthAll]), rfl, lz, fun d hd z => ?_, fun s' hB off => hk s' hB fun x h1 h2 h3 => by rw [off x h1 h2 h3, rup_ne h1]⟩
      have := fb d hd n (frD_of z)
      omega
end
end Law
set_option Elab.async false
set_option linter.all false
set_option maxRecDepth 100000
set_option maxHeartbeats 8000000
namespace Law
open PySem PySem.Spec PyProof.Rows L2 Gl Dw
local macro_rules | `(tactic| walk_at "sc") => `(tactic| first
  | exact True.intro
  | (show _ ≤ sizeLine; decide +kernel))
local macro_rules | `(tactic| walk_at "sim") => `(tactic| first
  | ((with_reducible apply ss_seq) <;> walk_at "sim")
  | with_reducible exact ss_next
  | ((with_reducible apply ss_raise) <;> walk_at "sim")
  | with_reducible exact ss_raise0
  | ((with_reducible apply ss_try); walk_at "sim"; (intro _; walk_at "sim"); walk_at "sim")
  | ((with_reducible apply loc_if) <;> walk_at "sim")
  | with_reducible exact loc_asgDf
  | with_reducible exact loc_asgMk
  | ((with_reducible apply loc_seq) <;> walk_at "sim")
  | with_reducible exact loc_const
  | with_reducible exact SimHs.nil
  | ((with_reducible apply SimHs.cons); (intro _ _ _ _ _ _; walk_at "sim"); walk_at "sim")
  | with_reducible exact ss_brk
  | with_reducible exact ss_cont
  | with_reducible exact ss_retN
  | ((with_reducible apply ss_ret) <;> walk_at "sim")
  | ((with_reducible apply ss_if) <;> walk_at "sim")
  | ((with_reducible apply ss_asgO); (with_reducible assumption); walk_at "sim")
  | ((with_reducible apply ss_nput) <;> walk_at "sim")
  | ((with_reducible apply ss_setM) <;> walk_at "sim")
  | ((with_reducible apply ss_setL) <;> walk_at "sim")
  | ((with_reducible apply ss_pop) <;> walk_at "sim")
  | ((with_reducible apply ss_popAt) <;> walk_at "sim")
  | ((with_reducible apply ss_asg) <;> walk_at "sim")
  | ((with_reducible apply ss_par) <;> walk_at "sim")
  | ((with_reducible apply ss_par3) <;> walk_at "sim")
  | ((with_reducible apply ss_aug) <;> walk_at "sim")
  | ((with_reducible apply ss_app) <;> walk_at "sim")
  | ((with_reducible apply ss_appM) <;> walk_at "sim")
  | ((with_reducible apply ss_ins) <;> walk_at "sim")
  | ((with_reducible apply si_rev) <;> walk_at "sim")
  | ((with_reducible apply ss_ext) <;> walk_at "sim")
  | ((with_reducible apply ss_drop) <;> walk_at "sim")
  | ((with_reducible apply ss_for) <;> walk_at "sim")
  | ((with_reducible apply ss_while) <;> walk_at "sim")
  | with_reducible exact tg_name
  | ((with_reducible apply tg_tup) <;> walk_at "sim")
  | ((with_reducible apply tgs_cons) <;> walk_at "sim")
  | with_reducible exact tgs_nil
  | with_reducible exact sim_bgetE
  | ((with_reducible apply sim_tupRev) <;> walk_at "sim")
  | with_reducible exact sim_bget
  | ((with_reducible apply ss_bput) <;> walk_at "sim")
  | ((with_reducible apply ss_baug) <;> walk_at "sim")
  | ((with_reducible apply sim_nnotin) <;> walk_at "sim")
  | ((with_reducible apply sim_nget) <;> walk_at "sim")
  | ((with_reducible apply ss_nput) <;> walk_at "sim")
  | ((with_reducible apply ss_faugMT (by assumption) (by assumption)) <;> walk_at "sim")
  | ((with_reducible apply sim_fldMT (by assumption) (by assumption)) <;> walk_at "sim")
  | ((with_reducible apply sim_mtM) <;> walk_at "sim")
  | ((with_reducible apply sim_mtM0) <;> walk_at "sim")
  | with_reducible exact sim_newBk
  | with_reducible exact so_ixB
  | with_reducible exact so_ixM
  | with_reducible exact so_raddR
  | with_reducible exact so_rsubR
  | with_reducible exact sc_lenM
  | with_reducible exact sc_sortX
  | with_reducible exact sc_lenB
  | with_reducible exact so_radd
  | with_reducible exact so_rsub
  | ((with_reducible apply sim_dgetT) <;> walk_at "sim")
  | ((with_reducible apply sim_dinT) <;> walk_at "sim")
  | ((with_reducible apply sim_dnotInT) <;> walk_at "sim")
  | ((with_reducible apply sim_mt0) <;> walk_at "sim")
  | ((with_reducible apply sim_dcE) <;> walk_at "sim")
  | ((with_reducible apply si_enumT) <;> walk_at "sim")
  | with_reducible exact sc_sortI
  | with_reducible exact sim_var
  | with_reducible exact sim_varG
  | with_reducible exact sim_nil
  | with_reducible exact sim_nilB
  | ((with_reducible apply sim_cons) <;> walk_at "sim")
  | ((with_reducible apply sim_consB) <;> walk_at "sim")
  | ((with_reducible apply sim_c); walk_at "sc")
  | ((with_reducible apply sim_op) <;> walk_at "sim")
  | ((with_reducible apply sim_un) <;> walk_at "sim")
  | ((with_reducible apply sim_isG); (with_reducible assumption); walk_at "sim")
  | ((with_reducible apply sim_cb) <;> walk_at "sim")
  | ((with_reducible apply sim_tup) <;> walk_at "sim")
  | ((with_reducible apply sim_lst) <;> walk_at "sim")
  | ((with_reducible apply sim_lstF) <;> walk_at "sim")
  | ((with_reducible apply sim_call) <;> walk_at "sim")
  | ((with_reducible apply sim_callN) <;> walk_at "sim")
  | ((with_reducible apply sim_sl) <;> walk_at "sim")
  | with_reducible exact sp_no
  | ((with_reducible apply sp_part) <;> walk_at "sim")
  | ((with_reducible apply sim_test) <;> walk_at "sim")
  | ((with_reducible apply sim_tB) <;> walk_at "sim")
  | ((with_reducible apply sim_and) <;> walk_at "sim")
  | ((with_reducible apply sim_or) <;> walk_at "sim")
  | ((with_reducible apply sim_not) <;> walk_at "sim")
  | with_reducible exact sim_yes
  | ((with_reducible apply sim_andV) <;> walk_at "sim")
  | ((with_reducible apply sim_orV) <;> walk_at "sim")
  | ((with_reducible apply sim_notV) <;> walk_at "sim")
  | ((with_reducible apply sim_if) <;> walk_at "sim")
  | ((with_reducible apply sim_chain) <;> walk_at "sim")
  | ((with_reducible apply sim_lcF) <;> walk_at "sim")
  | ((with_reducible apply sim_lcE) <;> walk_at "sim")
  | ((with_reducible apply sim_lstRgF) <;> walk_at "sim")
  | ((with_reducible apply sim_lstRg) <;> walk_at "sim")
  | ((with_reducible apply sim_tupRg) <;> walk_at "sim")
  | ((with_reducible apply sim_rg1) <;> walk_at "sim")
  | ((with_reducible apply sim_rg2) <;> walk_at "sim")
  | ((with_reducible apply sim_listF) <;> walk_at "sim")
  | ((with_reducible apply sim_addF) <;> walk_at "sim")
  | ((with_reducible apply sim_join) <;> walk_at "sim")
  | ((with_reducible apply sim_lenSetS) <;> walk_at "sim")
  | ((with_reducible apply sim_fldT); (with_reducible assumption); (with_reducible assumption); walk_at "sim")
  | ((with_reducible apply sim_mk) <;> walk_at "sim")
  | ((with_reducible apply sim_mkN) <;> walk_at "sim")
  | ((with_reducible apply sim_xf); (with_reducible assumption))
  | with_reducible exact so_eqO
  | ((with_reducible apply si_x) <;> walk_at "sim")
  | ((with_reducible apply si_tup) <;> walk_at "sim")
  | ((with_reducible apply si_list) <;> walk_at "sim")
  | ((with_reducible apply si_str) <;> walk_at "sim")
  | ((with_reducible apply si_rng1) <;> walk_at "sim")
  | ((with_reducible apply si_rng2) <;> walk_at "sim")
  | ((with_reducible apply si_enum) <;> walk_at "sim")
  | ((with_reducible apply si_zip) <;> walk_at "sim")
  | with_reducible exact so_addX
  | with_reducible exact so_mulX
  | with_reducible exact so_divX
  | with_reducible exact so_eqX
  | with_reducible exact so_neX
  | with_reducible exact so_inX
  | with_reducible exact so_notInX
  | with_reducible exact so_ltX
  | with_reducible exact so_gtX
  | with_reducible exact so_geX
  | with_reducible exact so_leX
  | ((with_reducible apply so_i0s); (intros; exact True.intro))
  | ((with_reducible apply so_iCs); (intros; exact True.intro))
  | ((with_reducible apply su_is); (intros; exact True.intro))
  | with_reducible exact so_eq
  | with_reducible exact so_ne
  | with_reducible exact so_isN
  | with_reducible exact so_notN
  | with_reducible exact so_isB
  | with_reducible exact so_notB
  | with_reducible exact so_ixL
  | with_reducible exact so_ixT
  | with_reducible exact so_ixS
  | with_reducible exact so_ix
  | with_reducible exact so_in
  | with_reducible exact so_str
  | with_reducible exact so_inS
  | with_reducible exact so_notInS
  | with_reducible exact so_catT
  | with_reducible exact so_catL
  | with_reducible exact so_addS
  | with_reducible exact so_mulS
  | with_reducible exact so_repT
  | with_reducible exact so_eqD
  | with_reducible exact so_neD
  | with_reducible exact so_inD
  | with_reducible exact so_notInD
  | with_reducible exact so_leT
  | with_reducible exact sc_len
  | with_reducible exact sc_int
  | with_reducible exact sc_abs
  | with_reducible exact sc_str
  | with_reducible exact sc_mm
  | with_reducible exact sc_list
  | with_reducible exact sc_tuple
  | with_reducible exact sc_sum
  | with_reducible exact sc_all
  | with_reducible exact sc_any
  | with_reducible exact sc_isi
  | with_reducible exact sc_isiT
  | with_reducible exact sc_repr
  | with_reducible exact sl_x
  | with_reducible exact sl_t
  | with_reducible exact sl_l
  | with_reducible exact sl_s
  | ((with_reducible apply SimE.g); walk_at "sim")
  | (intros; decide)
  | skip)

def isI : D → Bool
  | .int _ => true
  | _ => false
def isIn (lo hi : Int) : D → Bool
  | .int i => decide (lo ≤ i) && decide (i ≤ hi)
  | _ => false
variable {S : Type}
/-- one plain thing judged -/
def wf1 (g : D → Bool) : WF S := fun ds s k _ => match ds with
  | [d] => d.pl = true ∧ k (.bl (g d)) s
  | _ => False
def wfIn : WF S := fun ds s k _ => match ds with
  | [d, .int lo, .int hi] => d.pl = true ∧ k (.bl (isIn lo hi d)) s
  | _ => False
theorem noM {m : Str} {r p : Addr} {n : Int} (h : m ≠ "records" ∧ m ≠ "places" ∧ m ≠ "freshes") : ∀ (a : Str) (b : D), (a, b) ∈ bkFs r p n → ¬ m = a := fun a b hm z => by
  subst z
  simp [bkFs] at hm
  rcases hm with ⟨e, _⟩ | ⟨e, _⟩ | ⟨e, _⟩
  · exact h.1 e
  · exact h.2.1 e
  · exact h.2.2 e
/-- the book at b, asked of a thing -/
def wfIsN (P : Program) (w : World) (C : Addr) : WF Rg := fun ds s k _ => match ds with
  | [.opq b, d] => ∃ r p recs n, BkAt P w C b r p recs n s ∧ d.pl = true ∧ k (.bl (isIn 0 ((recs.length : Int) - 1) d)) s
  | _ => False
def wfChk (P : Program) (w : World) (C : Addr) : WF Rg := fun ds s k _ => match ds with
  | [.opq b, .int t] => ∃ r p recs n, BkAt P w C b r p recs n s ∧ 0 ≤ t ∧ t < (recs.length : Int) ∧ k .non s
  | _ => False
/-- kind or parts of a term -/
def wfOf (P : Program) (w : World) (C : Addr) (g : D → D → D) : WF Rg := fun ds s k _ => match ds with
  | [.opq b, .int t] => ∃ r p recs n x y, BkAt P w C b r p recs n s ∧ 0 ≤ t ∧ t < (recs.length : Int) ∧ atI recs t = some (.tup [x, y]) ∧ k (g x y) s
  | _ => False
abbrev s_is_integer : Stmt := top 2
abbrev N_is_integer : List Str := ["thing"]
theorem sc_is_integer : FnScope N_is_integer ["thing"] (defScope s_is_integer) := ⟨rfl, rfl, rfl, by decide +kernel, rfl, by decide +kernel, by decide +kernel⟩
abbrev s_is_within : Stmt := top 3
abbrev N_is_within : List Str := ["thing", "least", "most"]
theorem sc_is_within : FnScope N_is_within ["thing", "least", "most"] (defScope s_is_within) := ⟨rfl, rfl, rfl, by decide +kernel, rfl, by decide +kernel, by decide +kernel⟩
abbrev s_Book_size : Stmt := inClass (top 22) 2
abbrev N_Book_size : List Str := ["self"]
theorem sc_Book_size : FnScope N_Book_size ["self"] (defScope s_Book_size) := ⟨rfl, rfl, rfl, by decide +kernel, rfl, by decide +kernel, by decide +kernel⟩
abbrev s_Book_is_number : Stmt := inClass (top 22) 3
abbrev N_Book_is_number : List Str := ["self", "thing"]
theorem sc_Book_is_number : FnScope N_Book_is_number ["self", "thing"] (defScope s_Book_is_number) := ⟨rfl, rfl, rfl, by decide +kernel, rfl, by decide +kernel, by decide +kernel⟩
abbrev s_Book_check_term : Stmt := inClass (top 22) 6
abbrev N_Book_check_term : List Str := ["self", "thing"]
theorem sc_Book_check_term : FnScope N_Book_check_term ["self", "thing"] (defScope s_Book_check_term) := ⟨rfl, rfl, rfl, by decide +kernel, rfl, by decide +kernel, by decide +kernel⟩
abbrev s_Book_raw_kind : Stmt := inClass (top 22) 10
abbrev N_Book_raw_kind : List Str := ["self", "term"]
theorem sc_Book_raw_kind : FnScope N_Book_raw_kind ["self", "term"] (defScope s_Book_raw_kind) := ⟨rfl, rfl, rfl, by decide +kernel, rfl, by decide +kernel, by decide +kernel⟩
abbrev s_Book_raw_parts : Stmt := inClass (top 22) 11
abbrev N_Book_raw_parts : List Str := ["self", "term"]
theorem sc_Book_raw_parts : FnScope N_Book_raw_parts ["self", "term"] (defScope s_Book_raw_parts) := ⟨rfl, rfl, rfl, by decide +kernel, rfl, by decide +kernel, by decide +kernel⟩
abbrev s_Book_kind : Stmt := inClass (top 22) 13
abbrev N_Book_kind : List Str := ["self", "term"]
theorem sc_Book_kind : FnScope N_Book_kind ["self", "term"] (defScope s_Book_kind) := ⟨rfl, rfl, rfl, by decide +kernel, rfl, by decide +kernel, by decide +kernel⟩
abbrev s_Book_parts : Stmt := inClass (top 22) 14
abbrev N_Book_parts : List Str := ["self", "term"]
theorem sc_Book_parts : FnScope N_Book_parts ["self", "term"] (defScope s_Book_parts) := ⟨rfl, rfl, rfl, by decide +kernel, rfl, by decide +kernel, by decide +kernel⟩
section
variable {W : Wd S} {P : Program} {w : World} {K : PySem.W.Frag} {mg : Str → Option Value} {base : Heap} {CB : Addr}
theorem ok_is_integer (T : Tx P w K mg) {f : Addr} {fd : FuncData} (F : FD K "is_integer" s_is_integer f fd) : Fn P w K mg base 1 f fd ["thing"] (spX W (wf1 isI)) := by
  refine fn_data F sc_is_integer (fun ds s k x h => ?_) fun cv A outer s H G hr gd => ⟨_, (pss_one (ps_ret (pe_and (pe_callB (kIsi (K := K)) (by rfl) T.isinstance (by decide +kernel) (pa_cons (pv 0) (pa_cons (pe_bltn (v := .ty "int") (by rfl) T.int (by decide +kernel) rfl) pa_nil))) (pe_one (pe_not (pe_callB (kIsi (K := K)) (by rfl) T.isinstance (by decide +kernel) (pa_cons (pv 0) (pa_cons (pe_bltn (v := .ty "bool") (by rfl) T.bool (by decide +kernel) rfl) pa_nil)))))))), ?_⟩
  · match ds, h with
    | [d], _ => rfl
  · apply bodyW
    · walk_at "sim"
    intro ds s k x ok h
    match ds, h with
    | [d], ⟨ht, h⟩ =>
    cases d <;> simp_all [isI, known6]
theorem ok_is_within (T : Tx P w K mg) (f_is_integer : Df P w K mg base 1 "is_integer" (spX W (wf1 isI))) {f : Addr} {fd : FuncData} (F : FD K "is_within" s_is_within f fd) : Fn P w K mg base 2 f fd ["thing", "least", "most"] (spX W wfIn) := by
  refine fn_data F sc_is_within (fun ds s k x h => ?_) fun cv A outer s H G hr gd => ⟨_, (pss_one (ps_ret (pe_and (pe_df f_is_integer hr (by omega) gd rfl (fun σ => Gl.no_pass σ) (pa_cons (pv 0) pa_nil)) (pe_one (pe_chain (kLe (K := K) hr) (kLe (K := K) hr) (pv 1) (pv 0) (pv 2)))))), ?_⟩
  · match ds, h with
    | [d, .int lo, .int hi], _ => rfl
  · apply bodyW
    · walk_at "sim"
    intro ds s k x ok h
    match ds, h with
    | [d, .int lo, .int hi], ⟨ht, h⟩ =>
    cases d <;> simp_all [isIn, isI, wf1]
    split <;> simp_all
abbrev FB (K : PySem.W.Frag) (m q : Str) (st : Stmt) (f : Addr) (fd : FuncData) : Prop := FunD K m q (defArgs st) (defBody st) (defScope st) [] [] f fd
theorem ok_is_number (T : Tx P w K mg) (cB : ClB K CB) (f_is_within : Df P w K mg base 2 "is_within" (spX RW wfIn)) {f : Addr} {fd : FuncData} (F : FB K "is_number" "Book.is_number" s_Book_is_number f fd) : Fn P w K mg base 3 f fd ["self", "thing"] (spX RW (wfIsN P w CB)) := by
  refine fn_data F sc_Book_is_number (fun ds s k x h => ?_) fun cv A outer s H G hr gd => ⟨_, (pss_one (ps_ret (pe_df f_is_within hr (by omega) gd rfl (fun σ => Gl.no_pass σ) (pa_cons (pv 1) (pa_cons pe_int (pa_cons (pe_op op_sub (pe_callB (kLen (K := K)) (by rfl) T.len (by decide +kernel) (pa_cons (kFld (K := K) (pv 0) rfl) pa_nil)) pe_int) pa_nil)))))), ?_⟩
  · match ds, h with
    | [.opq a, _], _ => rfl
  · have c1 := cB.cls
    have c2 := cB.n1
    apply bodyW
    · walk_at "sim"
    intro ds s k x ok h
    match ds, h with
    | [.opq b, d], ⟨r, p, recs, n, ⟨dx, xs, hb, hr', hp, br, bp, rp, lx, hx⟩, pl, hk⟩ =>
      simp [hb, hr', lkR, wfIn, pl]
      exact hk
theorem ok_check_term (T : Tx P w K mg) (cB : ClB K CB) {CN : Addr} (r_NoTerm : E0c K mg "NoTerm" CN) (q_Book_is_number : Cf P w K mg base 3 CB "is_number" (spX RW (wfIsN P w CB))) {f : Addr} {fd : FuncData} (F : FB K "check_term" "Book.check_term" s_Book_check_term f fd) : Fn P w K mg base 4 f fd ["self", "thing"] (spX RW (wfChk P w CB)) := by
  refine fn_data F sc_Book_check_term (fun ds s k x h => ?_) fun cv A outer s H G hr gd => ⟨_, (pss_one (ps_if (pt_not (pt_val (pe_mtA q_Book_is_number hr (by omega) gd (fun σ => Gl.no_pass σ) (pv 0) (pa_cons (pv 1) pa_nil)))) (pss_one (ps_raise rfl (takes_of rfl rfl rfl rfl) (pmk_0 r_NoTerm.exc (r_NoTerm.raises rfl) r_NoTerm.mgx r_NoTerm.keep rfl))) pss_nil)), ?_⟩
  · match ds, h with
    | [.opq a, .int _], _ => rfl
  · apply bodyW
    · walk_at "sim"
    intro ds s k x ok h
    match ds, h with
    | [.opq b, .int t], ⟨r, p, recs, n, ⟨dx, xs, hb, hr', hp, br, bp, rp, lx, hx⟩, t0, t1, hk⟩ =>
      simp [hb, wfIsN]
      refine ⟨noM (by decide), r, p, recs, ⟨n, dx, xs, hb, hr', hp, br, bp, rp, lx, hx⟩, ite_t ?_ hk⟩
      simp only [isIn, Bool.and_eq_true, decide_eq_true_eq]
      omega
theorem ok_raw_kind (T : Tx P w K mg) (cB : ClB K CB) {f : Addr} {fd : FuncData} (F : FB K "raw_kind" "Book.raw_kind" s_Book_raw_kind f fd) : Fn P w K mg base 1 f fd ["self", "term"] (spX RW (wfOf P w CB fun x _ => x)) := by
  refine fn_data F sc_Book_raw_kind (fun ds s k x h => ?_) fun cv A outer s H G hr gd => ⟨_, (pss_one (ps_ret (pe_ix (kIx (K := K)) (pe_ix (kIx (K := K)) (kFld (K := K) (pv 0) rfl) (pv 1) (fun _ _ => rfl)) pe_int (fun _ _ => rfl)))), ?_⟩
  · match ds, h with
    | [.opq a, .int _], _ => rfl
  · have c1 := cB.cls
    have c2 := cB.n1
    apply bodyW
    · walk_at "sim"
    intro ds s k x ok h
    match ds, h with
    | [.opq b, .int t], ⟨r, p, recs, n, x, y, ⟨dx, xs, hb, hr', hp, br, bp, rp, lx, hx⟩, t0, t1, ht, hk⟩ =>
      simp [hb, hr', lkR, ht, at0, at1]
      exact hk
theorem ok_raw_parts (T : Tx P w K mg) (cB : ClB K CB) {f : Addr} {fd : FuncData} (F : FB K "raw_parts" "Book.raw_parts" s_Book_raw_parts f fd) : Fn P w K mg base 1 f fd ["self", "term"] (spX RW (wfOf P w CB fun _ y => y)) := by
  refine fn_data F sc_Book_raw_parts (fun ds s k x h => ?_) fun cv A outer s H G hr gd => ⟨_, (pss_one (ps_ret (pe_ix (kIx (K := K)) (pe_ix (kIx (K := K)) (kFld (K := K) (pv 0) rfl) (pv 1) (fun _ _ => rfl)) pe_int (fun _ _ => rfl)))), ?_⟩
  · match ds, h with
    | [.opq a, .int _], _ => rfl
  · have c1 := cB.cls
    have c2 := cB.n1
    apply bodyW
    · walk_at "sim"
    intro ds s k x ok h
    match ds, h with
    | [.opq b, .int t], ⟨r, p, recs, n, x, y, ⟨dx, xs, hb, hr', hp, br, bp, rp, lx, hx⟩, t0, t1, ht, hk⟩ =>
      simp [hb, hr', lkR, ht, at0, at1]
      exact hk
theorem ok_kind (T : Tx P w K mg) (cB : ClB K CB) (q_Book_check_term : Cf P w K mg base 4 CB "check_term" (spX RW (wfChk P w CB))) (q_Book_raw_kind : Cf P w K mg base 1 CB "raw_kind" (spX RW (wfOf P w CB fun x _ => x))) {f : Addr} {fd : FuncData} (F : FB K "kind" "Book.kind" s_Book_kind f fd) : Fn P w K mg base 5 f fd ["self", "term"] (spX RW (wfOf P w CB fun x _ => x)) := by
  refine fn_data F sc_Book_kind (fun ds s k x h => ?_) fun cv A outer s H G hr gd => ⟨_, (pss_cons (ps_expr (pe_mtA q_Book_check_term hr (by omega) gd (fun σ => Gl.no_pass σ) (pv 0) (pa_cons (pv 1) pa_nil)))
    (pss_one (ps_ret (pe_mtA q_Book_raw_kind hr (by omega) gd (fun σ => Gl.no_pass σ) (pv 0) (pa_cons (pv 1) pa_nil))))), ?_⟩
  · match ds, h with
    | [.opq a, .int _], _ => rfl
  · apply bodyW
    · walk_at "sim"
    intro ds s k x ok h
    match ds, h with
    | [.opq b, .int t], ⟨r, p, recs, n, x, y, ⟨dx, xs, hb, hr', hp, br, bp, rp, lx, hx⟩, t0, t1, ht, hk⟩ =>
      simp [hb, wfChk, wfOf]
      have B : BkAt P w CB b r p recs n s := ⟨dx, xs, hb, hr', hp, br, bp, rp, lx, hx⟩
      exact ⟨noM (by decide), r, p, recs, ⟨n, B⟩, t0, t1, noM (by decide), r, p, recs, ⟨n, B⟩, t0, t1, _, ⟨_, ht⟩, hk⟩
theorem ok_parts (T : Tx P w K mg) (cB : ClB K CB) (q_Book_check_term : Cf P w K mg base 4 CB "check_term" (spX RW (wfChk P w CB))) (q_Book_raw_parts : Cf P w K mg base 1 CB "raw_parts" (spX RW (wfOf P w CB fun _ y => y))) {f : Addr} {fd : FuncData} (F : FB K "parts" "Book.parts" s_Book_parts f fd) : Fn P w K mg base 5 f fd ["self", "term"] (spX RW (wfOf P w CB fun _ y => y)) := by
  refine fn_data F sc_Book_parts (fun ds s k x h => ?_) fun cv A outer s H G hr gd => ⟨_, (pss_cons (ps_expr (pe_mtA q_Book_check_term hr (by omega) gd (fun σ => Gl.no_pass σ) (pv 0) (pa_cons (pv 1) pa_nil)))
    (pss_one (ps_ret (pe_mtA q_Book_raw_parts hr (by omega) gd (fun σ => Gl.no_pass σ) (pv 0) (pa_cons (pv 1) pa_nil))))), ?_⟩
  · match ds, h with
    | [.opq a, .int _], _ => rfl
  · apply bodyW
    · walk_at "sim"
    intro ds s k x ok h
    match ds, h with
    | [.opq b, .int t], ⟨r, p, recs, n, x, y, ⟨dx, xs, hb, hr', hp, br, bp, rp, lx, hx⟩, t0, t1, ht, hk⟩ =>
      simp [hb, wfChk, wfOf]
      have B : BkAt P w CB b r p recs n s := ⟨dx, xs, hb, hr', hp, br, bp, rp, lx, hx⟩
      exact ⟨noM (by decide), r, p, recs, ⟨n, B⟩, t0, t1, noM (by decide), r, p, recs, ⟨n, B⟩, t0, t1, _, _, ht, hk⟩
theorem ok_size (T : Tx P w K mg) (cB : ClB K CB) {f : Addr} {fd : FuncData} (F : FB K "size" "Book.size" s_Book_size f fd) : Fn P w K mg base 1 f fd ["self"] (spX RW fun ds s k _ => match ds with
    | [.opq b] => ∃ r p recs n, BkAt P w CB b r p recs n s ∧ k (.int recs.length) s
    | _ => False) := by
  refine fn_data F sc_Book_size (fun ds s k x h => ?_) fun cv A outer s H G hr gd => ⟨_, (pss_one (ps_ret (pe_callB (kLen (K := K)) (by rfl) T.len (by decide +kernel) (pa_cons (kFld (K := K) (pv 0) rfl) pa_nil)))), ?_⟩
  · match ds, h with
    | [.opq a], _ => rfl
  · have c1 := cB.cls
    have c2 := cB.n1
    apply bodyW
    · walk_at "sim"
    intro ds s k x ok h
    match ds, h with
    | [.opq b], ⟨r, p, recs, n, ⟨dx, xs, hb, hr', hp, br, bp, rp, lx, hx⟩, hk⟩ =>
      simp [hb, hr', lkR]
      exact hk
end
end Law
set_option Elab.async false
set_option linter.all false
set_option maxRecDepth 100000
set_option maxHeartbeats 8000000
namespace Law
open PySem PySem.Spec PyProof.Rows L2 Gl Dw
abbrev s_Book___init__ : Stmt := inClass (top 22) 0
abbrev N_Book___init__ : List Str := ["self"]
theorem sc_Book___init__ : FnScope N_Book___init__ ["self"] (defScope s_Book___init__) := ⟨rfl, rfl, rfl, by decide +kernel, rfl, by decide +kernel, by decide +kernel⟩
section
variable {P : Program} {w : World} {K : PySem.W.Frag} {mg : Str → Option Value} {base : Heap} {CB : Addr}
theorem ok_Book_init (T : Tx P w K mg) (cB : ClB K CB) {f : Addr} {fd : FuncData} (F : FB K "__init__" "Book.__init__" s_Book___init__ f fd) : Fn P w K mg base 1 f fd ["self"] (spBk P w CB) := by
  refine fn_body F sc_Book___init__ (fun vs H Q E h => ?_) (fun cv A outer s H vs Q E hr gd h => ?_)
  · obtain ⟨a, dx, rfl, _⟩ := h
    rfl
  · obtain ⟨a, dx, rfl, ha, hk⟩ := h
    refine ⟨_, (pss_cons (ps_fld (pv 0) (pe_lst pa_nil) rfl)
    (pss_cons (ps_fld (pv 0) pe_dnewN rfl)
    (pss_one (ps_fld (pv 0) pe_int rfl)))), ?_⟩
    simp only [tSeq, sFld, tLst, tNil, tDNewN]
    refine ⟨Nat.zero_le _, fun r hr0 => ?_⟩
    have ra : r ≠ a := fun z => by rw [z, ha] at hr0; cases hr0
    have e1 : upd H r (.lst []) a = some (.ins CB dx []) := by rw [upd_ne (Ne.symm ra)]; exact ha
    refine ⟨.ref a, rfl, a, CB, dx, [], rfl, e1, cB.cls, cB.n1, (show 0 < 1000 by decide), fun p hp => ?_⟩
    have pa : p ≠ a := fun z => by rw [z, upd_same] at hp; cases hp
    rw [upd_ne pa] at hp
    have pr : p ≠ r := fun z => by rw [z, upd_same] at hp; cases hp
    rw [upd_ne pr] at hp
    refine ⟨.ref a, rfl, a, CB, dx, [("records", .ref r)], rfl, by rw [upd_ne (Ne.symm pa), upd_same]; rfl, cB.cls, cB.n2, (show 1 < 1000 by decide), ?_⟩
    refine ⟨.ref a, rfl, a, CB, dx, [("records", .ref r), ("places", .ref p)], rfl, by rw [upd_same]; rfl, cB.cls, cB.n3, (show 2 < 1000 by decide), ?_⟩
    refine hk r p _ hr0 hp (Ne.symm pr) (by rw [upd_same]; rfl) ?_ ?_ fun b o ne e => ?_
    · rw [upd_ne ra, upd_ne ra, upd_ne (Ne.symm pr), upd_ne ra, upd_same]
    · rw [upd_ne pa, upd_ne pa, upd_same]
      rfl
    · rw [upd_ne ne, upd_ne ne, upd_ne (ne_of_none e hp), upd_ne ne, upd_ne (ne_of_none e hr0)]
      exact e
end
end Law
set_option Elab.async false
set_option linter.all false
set_option maxRecDepth 100000
set_option maxHeartbeats 8000000
namespace Law
open PySem PySem.Spec PyProof.Rows L2 Gl Dw
local macro_rules | `(tactic| walk_at "sc") => `(tactic| first
  | exact True.intro
  | (show _ ≤ sizeLine; decide +kernel))
local macro_rules | `(tactic| walk_at "sim") => `(tactic| first
  | ((with_reducible apply ss_seq) <;> walk_at "sim")
  | with_reducible exact ss_next
  | ((with_reducible apply ss_raise) <;> walk_at "sim")
  | with_reducible exact ss_raise0
  | ((with_reducible apply ss_try); walk_at "sim"; (intro _; walk_at "sim"); walk_at "sim")
  | ((with_reducible apply loc_if) <;> walk_at "sim")
  | with_reducible exact loc_asgDf
  | with_reducible exact loc_asgMk
  | ((with_reducible apply loc_seq) <;> walk_at "sim")
  | with_reducible exact loc_const
  | with_reducible exact SimHs.nil
  | ((with_reducible apply SimHs.cons); (intro _ _ _ _ _ _; walk_at "sim"); walk_at "sim")
  | with_reducible exact ss_brk
  | with_reducible exact ss_cont
  | with_reducible exact ss_retN
  | ((with_reducible apply ss_ret) <;> walk_at "sim")
  | ((with_reducible apply ss_if) <;> walk_at "sim")
  | ((with_reducible apply ss_asgO); (with_reducible assumption); walk_at "sim")
  | ((with_reducible apply ss_nput) <;> walk_at "sim")
  | ((with_reducible apply ss_setM) <;> walk_at "sim")
  | ((with_reducible apply ss_setL) <;> walk_at "sim")
  | ((with_reducible apply ss_pop) <;> walk_at "sim")
  | ((with_reducible apply ss_popAt) <;> walk_at "sim")
  | ((with_reducible apply ss_asg) <;> walk_at "sim")
  | ((with_reducible apply ss_par) <;> walk_at "sim")
  | ((with_reducible apply ss_par3) <;> walk_at "sim")
  | ((with_reducible apply ss_aug) <;> walk_at "sim")
  | ((with_reducible apply ss_app) <;> walk_at "sim")
  | ((with_reducible apply ss_appM) <;> walk_at "sim")
  | ((with_reducible apply ss_ins) <;> walk_at "sim")
  | ((with_reducible apply si_rev) <;> walk_at "sim")
  | ((with_reducible apply ss_ext) <;> walk_at "sim")
  | ((with_reducible apply ss_drop) <;> walk_at "sim")
  | ((with_reducible apply ss_for) <;> walk_at "sim")
  | ((with_reducible apply ss_while) <;> walk_at "sim")
  | with_reducible exact tg_name
  | ((with_reducible apply tg_tup) <;> walk_at "sim")
  | ((with_reducible apply tgs_cons) <;> walk_at "sim")
  | with_reducible exact tgs_nil
  | with_reducible exact sim_bgetE
  | ((with_reducible apply sim_tupRev) <;> walk_at "sim")
  | with_reducible exact sim_bget
  | ((with_reducible apply ss_bput) <;> walk_at "sim")
  | ((with_reducible apply ss_baug) <;> walk_at "sim")
  | ((with_reducible apply sim_nnotin) <;> walk_at "sim")
  | ((with_reducible apply sim_nget) <;> walk_at "sim")
  | ((with_reducible apply ss_nput) <;> walk_at "sim")
  | ((with_reducible apply ss_faugMT (by assumption) (by assumption)) <;> walk_at "sim")
  | ((with_reducible apply sim_fldMT (by assumption) (by assumption)) <;> walk_at "sim")
  | ((with_reducible apply sim_mtM) <;> walk_at "sim")
  | ((with_reducible apply sim_mtM0) <;> walk_at "sim")
  | with_reducible exact sim_newBk
  | with_reducible exact so_ixB
  | with_reducible exact so_ixM
  | with_reducible exact so_raddR
  | with_reducible exact so_rsubR
  | with_reducible exact sc_lenM
  | with_reducible exact sc_sortX
  | with_reducible exact sc_lenB
  | with_reducible exact so_radd
  | with_reducible exact so_rsub
  | ((with_reducible apply sim_dgetT) <;> walk_at "sim")
  | ((with_reducible apply sim_dinT) <;> walk_at "sim")
  | ((with_reducible apply sim_dnotInT) <;> walk_at "sim")
  | ((with_reducible apply sim_mt0) <;> walk_at "sim")
  | ((with_reducible apply sim_dcE) <;> walk_at "sim")
  | ((with_reducible apply si_enumT) <;> walk_at "sim")
  | with_reducible exact sc_sortI
  | with_reducible exact sim_var
  | with_reducible exact sim_varG
  | with_reducible exact sim_nil
  | with_reducible exact sim_nilB
  | ((with_reducible apply sim_cons) <;> walk_at "sim")
  | ((with_reducible apply sim_consB) <;> walk_at "sim")
  | ((with_reducible apply sim_c); walk_at "sc")
  | ((with_reducible apply sim_op) <;> walk_at "sim")
  | ((with_reducible apply sim_un) <;> walk_at "sim")
  | ((with_reducible apply sim_isG); (with_reducible assumption); walk_at "sim")
  | ((with_reducible apply sim_cb) <;> walk_at "sim")
  | ((with_reducible apply sim_tup) <;> walk_at "sim")
  | ((with_reducible apply sim_lst) <;> walk_at "sim")
  | ((with_reducible apply sim_lstF) <;> walk_at "sim")
  | ((with_reducible apply sim_call) <;> walk_at "sim")
  | ((with_reducible apply sim_callN) <;> walk_at "sim")
  | ((with_reducible apply sim_sl) <;> walk_at "sim")
  | with_reducible exact sp_no
  | ((with_reducible apply sp_part) <;> walk_at "sim")
  | ((with_reducible apply sim_test) <;> walk_at "sim")
  | ((with_reducible apply sim_tB) <;> walk_at "sim")
  | ((with_reducible apply sim_and) <;> walk_at "sim")
  | ((with_reducible apply sim_or) <;> walk_at "sim")
  | ((with_reducible apply sim_not) <;> walk_at "sim")
  | with_reducible exact sim_yes
  | ((with_reducible apply sim_andV) <;> walk_at "sim")
  | ((with_reducible apply sim_orV) <;> walk_at "sim")
  | ((with_reducible apply sim_notV) <;> walk_at "sim")
  | ((with_reducible apply sim_if) <;> walk_at "sim")
  | ((with_reducible apply sim_chain) <;> walk_at "sim")
  | ((with_reducible apply sim_lcF) <;> walk_at "sim")
  | ((with_reducible apply sim_lcE) <;> walk_at "sim")
  | ((with_reducible apply sim_lstRgF) <;> walk_at "sim")
  | ((with_reducible apply sim_lstRg) <;> walk_at "sim")
  | ((with_reducible apply sim_tupRg) <;> walk_at "sim")
  | ((with_reducible apply sim_rg1) <;> walk_at "sim")
  | ((with_reducible apply sim_rg2) <;> walk_at "sim")
  | ((with_reducible apply sim_listF) <;> walk_at "sim")
  | ((with_reducible apply sim_addF) <;> walk_at "sim")
  | ((with_reducible apply sim_join) <;> walk_at "sim")
  | ((with_reducible apply sim_lenSetS) <;> walk_at "sim")
  | ((with_reducible apply sim_fldT); (with_reducible assumption); (with_reducible assumption); walk_at "sim")
  | ((with_reducible apply sim_mk) <;> walk_at "sim")
  | ((with_reducible apply sim_mkN) <;> walk_at "sim")
  | ((with_reducible apply sim_xf); (with_reducible assumption))
  | with_reducible exact so_eqO
  | ((with_reducible apply si_x) <;> walk_at "sim")
  | ((with_reducible apply si_tup) <;> walk_at "sim")
  | ((with_reducible apply si_list) <;> walk_at "sim")
  | ((with_reducible apply si_str) <;> walk_at "sim")
  | ((with_reducible apply si_rng1) <;> walk_at "sim")
  | ((with_reducible apply si_rng2) <;> walk_at "sim")
  | ((with_reducible apply si_enum) <;> walk_at "sim")
  | ((with_reducible apply si_zip) <;> walk_at "sim")
  | with_reducible exact so_addX
  | with_reducible exact so_mulX
  | with_reducible exact so_divX
  | with_reducible exact so_eqX
  | with_reducible exact so_neX
  | with_reducible exact so_inX
  | with_reducible exact so_notInX
  | with_reducible exact so_ltX
  | with_reducible exact so_gtX
  | with_reducible exact so_geX
  | with_reducible exact so_leX
  | ((with_reducible apply so_i0s); (intros; exact True.intro))
  | ((with_reducible apply so_iCs); (intros; exact True.intro))
  | ((with_reducible apply su_is); (intros; exact True.intro))
  | with_reducible exact so_eq
  | with_reducible exact so_ne
  | with_reducible exact so_isN
  | with_reducible exact so_notN
  | with_reducible exact so_isB
  | with_reducible exact so_notB
  | with_reducible exact so_ixL
  | with_reducible exact so_ixT
  | with_reducible exact so_ixS
  | with_reducible exact so_ix
  | with_reducible exact so_in
  | with_reducible exact so_str
  | with_reducible exact so_inS
  | with_reducible exact so_notInS
  | with_reducible exact so_catT
  | with_reducible exact so_catL
  | with_reducible exact so_addS
  | with_reducible exact so_mulS
  | with_reducible exact so_repT
  | with_reducible exact so_eqD
  | with_reducible exact so_neD
  | with_reducible exact so_inD
  | with_reducible exact so_notInD
  | with_reducible exact so_leT
  | with_reducible exact sc_len
  | with_reducible exact sc_int
  | with_reducible exact sc_abs
  | with_reducible exact sc_str
  | with_reducible exact sc_mm
  | with_reducible exact sc_list
  | with_reducible exact sc_tuple
  | with_reducible exact sc_sum
  | with_reducible exact sc_all
  | with_reducible exact sc_any
  | with_reducible exact sc_isi
  | with_reducible exact sc_isiT
  | with_reducible exact sc_repr
  | with_reducible exact sl_x
  | with_reducible exact sl_t
  | with_reducible exact sl_l
  | with_reducible exact sl_s
  | ((with_reducible apply SimE.g); walk_at "sim")
  | (intros; decide)
  | skip)

def enD (kd : Str) (ps : List Int) : D := .tup [.str kd, .tup (ps.map D.int)]
theorem nks_ints : ∀ ps : List Int, D.nks (ps.map D.int) = some (ps.map NestedKey.num)
  | [] => rfl
  | p :: r => by
    rw [List.map_cons]
    unfold D.nks
    rw [nks_ints r]
    rfl
theorem enD_nk (kd : Str) (ps : List Int) : (enD kd ps).nk = some (.tup [.text kd, .tup (ps.map NestedKey.num)]) := by
  unfold enD
  simp [D.nk, D.nks, nks_ints]
theorem frD_en (n : Int) : frD n = enD "fresh" [n] := rfl
/-- each record's parts stand ahead of it -/
def OkR (i : Nat) (n : Int) (d : D) : Prop := (∃ m, d = frD m ∧ 0 ≤ m ∧ m < n) ∨ ∃ kd ps, d = enD kd ps ∧ kd ≠ "fresh" ∧ ∀ q ∈ ps, 0 ≤ q ∧ q < (i : Int)
def GoodR (recs : List D) (n : Int) : Prop := 0 ≤ n ∧ ∀ i d, recs[i]? = some d → OkR i n d
theorem getE_snoc {recs : List D} {e d : D} {i : Nat} (h : (recs ++ [e])[i]? = some d) : recs[i]? = some d ∨ (i = recs.length ∧ d = e) := by
  rcases Nat.lt_or_ge i recs.length with hi | hi
  · rw [List.getElem?_append_left hi] at h
    exact .inl h
  · rw [List.getElem?_append_right hi] at h
    rcases Nat.lt_or_ge recs.length i with q | q
    · rw [List.getElem?_eq_none (by simp; omega)] at h
      cases h
    · have : i = recs.length := by omega
      subst this
      simp at h
      exact .inr ⟨rfl, h.symm⟩
theorem GoodR.fr {recs : List D} {n : Int} (g : GoodR recs n) : GoodR (recs ++ [frD n]) (n + 1) := by
  refine ⟨by have := g.1; omega, fun i d h => ?_⟩
  rcases getE_snoc h with h | ⟨rfl, rfl⟩
  · rcases g.2 i d h with ⟨m, e, a, b⟩ | q
    · exact .inl ⟨m, e, a, by omega⟩
    · exact .inr q
  · exact .inl ⟨n, rfl, g.1, by omega⟩
theorem GoodR.put {recs : List D} {n : Int} {kd : Str} {ps : List Int} (g : GoodR recs n) (kn : kd ≠ "fresh") (hp : ∀ q ∈ ps, 0 ≤ q ∧ q < (recs.length : Int)) : GoodR (recs ++ [enD kd ps]) n := by
  refine ⟨g.1, fun i d h => ?_⟩
  rcases getE_snoc h with h | ⟨rfl, rfl⟩
  · exact g.2 i d h
  · exact .inr ⟨kd, ps, rfl, kn, hp⟩
theorem GoodR.frB {recs : List D} {n : Int} (g : GoodR recs n) : FrB recs n := fun d hd m e => by
  obtain ⟨i, hi⟩ := List.getElem?_of_mem hd
  rcases g.2 i d hi with ⟨m', e', a, b⟩ | ⟨kd, ps, e', kn, _⟩
  · rw [e] at e'
    simp [frD] at e'
    omega
  · rw [e, frD_en] at e'
    simp [enD] at e'
    exact absurd e'.1.symm kn
theorem GoodR.new {recs : List D} {n : Int} {kd : Str} {ps : List Int} (g : GoodR recs n) (kn : kd ≠ "fresh") (h : ∃ q ∈ ps, (recs.length : Int) ≤ q + 1) : ∀ d ∈ recs, d.nk ≠ some (.tup [.text kd, .tup (ps.map NestedKey.num)]) := fun d hd e => by
  obtain ⟨i, hi⟩ := List.getElem?_of_mem hd
  have il := (List.getElem?_eq_some_iff.mp hi).1
  rcases g.2 i d hi with ⟨m, rfl, _⟩ | ⟨kd', ps', rfl, _, hp⟩
  · rw [frD_nk] at e
    simp at e
    exact kn e.1.symm
  · rw [enD_nk] at e
    simp at e
    have inj : ∀ {a b : List Int}, a.map NestedKey.num = b.map NestedKey.num → a = b := fun {a b} z => by
      have := congrArg (List.map fun k => match k with | NestedKey.num i => i | _ => 0) z
      simpa [List.map_map, Function.comp_def] using this
    have := inj e.2
    subst this
    obtain ⟨q, hq, hl⟩ := h
    have := (hp q hq).2
    omega
theorem OffB.trans {b r p : Addr} {s t u : Rg} (h : OffB b r p s t) (g : OffB b r p t u) : OffB b r p s u := fun x h1 h2 h3 => (g x h1 h2 h3).trans (h x h1 h2 h3)
def onStep (x : List D × Int × List D) (lock : D) : List D × Int × List D :=
  (x.1 ++ [frD x.2.1] ++ [.tup [.str "row", .tup [.int x.1.length, x.2.2.headD .non]]] ++ [.tup [.str "box", .tup [lock, .int ((x.1.length + 1 : Nat) : Int)]]], x.2.1 + 1, .int ((x.1.length + 2 : Nat) : Int) :: x.2.2)
def onRun (recs : List D) (n : Int) (locks : List D) : List D × Int × List D := locks.reverse.foldl onStep (recs ++ [frD n], n + 1, [.int recs.length])
def wfOnion (P : Program) (w : World) (C : Addr) : WF Rg := fun ds s k _ => match ds with
  | [.opq b, .lst locks] => ∃ r p recs n, BkAt P w C b r p recs n s ∧ GoodR recs n ∧ (∀ d ∈ locks, ∃ q : Int, d = .int q ∧ 0 ≤ q ∧ q < (recs.length : Int)) ∧ recs.length + 3 * locks.length + 1 < 10000 ∧
    ∀ s', BkAt P w C b r p (onRun recs n locks).1 (onRun recs n locks).2.1 s' → OffB b r p s s' → k (.lst (onRun recs n locks).2.2) s'
  | _ => False
abbrev s_onion : Stmt := top 31
abbrev N_onion : List Str := ["book", "locks", "layers", "lock", "inner"]
theorem sc_onion : FnScope N_onion ["book", "locks"] (defScope s_onion) := ⟨rfl, rfl, rfl, by decide +kernel, rfl, by decide +kernel, by decide +kernel⟩
section
variable {P : Program} {w : World} {K : PySem.W.Frag} {mg : Str → Option Value} {base : Heap} {CB : Addr}
theorem ok_onion (T : Tx P w K mg) (q_Book_raw_put : Cf P w K mg base 1 CB "raw_put" (spX RW (wfRaw P w CB))) (q_Book_fresh : Cf P w K mg base 2 CB "fresh" (spX RW (wfFresh P w CB))) {f : Addr} {fd : FuncData} (F : FD K "onion" s_onion f fd) : Fn P w K mg base 3 f fd ["book", "locks"] (spX RW (wfOnion P w CB)) := by
  refine fn_data F sc_onion (fun ds s k x h => ?_) fun cv A outer s H G hr gd => ⟨_, (pss_cons (ps_set (i := 2) sc_onion.nd rfl (Or.inl rfl) (pe_lst (pa_cons (pe_mt0 q_Book_fresh hr (by omega) gd (fun σ => Gl.no_pass σ) (pv 0)) pa_nil)))
    (pss_cons (ps_for (passes_of rfl) rfl (pi_reversed rfl T.reversed (pa_cons (pv 1) pa_nil)) (pg_name (i := 3) sc_onion.nd rfl (Or.inl rfl))
      (pss_cons (ps_set (i := 4) sc_onion.nd rfl (Or.inl rfl) (pe_mtA q_Book_raw_put hr (by omega) gd (fun σ => Gl.no_pass σ) (pv 0) (pa_cons pe_str (pa_cons (pe_tup (pa_cons (pe_mt0 q_Book_fresh hr (by omega) gd (fun σ => Gl.no_pass σ) (pv 0)) (pa_cons (pe_ix (kIx (K := K)) (pv 2) pe_int (fun _ _ => rfl)) pa_nil))) pa_nil))))
    (pss_one (ps_expr (pe_bm PySem.F.plainAttrs_list PySem.F.slot_list_insert PySem.F.type_list_insert mt_insert (pv 2) (pa_cons pe_int (pa_cons (pe_mtA q_Book_raw_put hr (by omega) gd (fun σ => Gl.no_pass σ) (pv 0) (pa_cons pe_str (pa_cons (pe_tup (pa_cons (pv 3) (pa_cons (pv 4) pa_nil))) pa_nil))) pa_nil)))))))
    (pss_one (ps_ret (pv 2))))), ?_⟩
  · match ds, h with
    | [.opq a, .lst _], _ => rfl
  · 
    have ow2 : OwnSl 2 := ⟨⟩
    apply bodyW
    · walk_at "sim"
    intro ds s k x ok h
    match ds, h with
    | [.opq b, .lst locks], ⟨r, p, recs, n, hB, g, hl, lz, hk⟩ =>
      have hb := hB
      obtain ⟨dx, xs, hb, _⟩ := hb
      refine cut (fun env s' => BkAt P w CB b r p (recs ++ [frD n]) (n + 1) s' ∧ OffB b r p s s' ∧ env = [.dat (.opq b), .dat (.lst locks), .own [.int recs.length], .no, .no]) (fun K1 h1 _ _ => ?_) fun env s' hI => ?_
      · simp [hb, wfFresh, N_onion]
        refine ⟨noM (by decide), r, p, recs, n, hB, g.frB, by omega, fun s' hB' off => ⟨by decide, h1 _ _ ⟨hB', off, rfl⟩⟩⟩
      obtain ⟨hB1, off1, rfl⟩ := hI
      refine cut (fun env s' => ∃ v3 v4, BkAt P w CB b r p (onRun recs n locks).1 (onRun recs n locks).2.1 s' ∧ OffB b r p s s' ∧ env = [.dat (.opq b), .dat (.lst locks), .own (onRun recs n locks).2.2, v3, v4]) (fun K1 h1 _ _ => ?_) fun env s' hI => ?_
      · refine wFor_ind (fun rest env s' => ∃ (dn : List D) (x : List D × Int × List D) (top : Int) (tl : List D) (v3 v4 : Sl), locks.reverse = dn ++ rest ∧ x = dn.foldl onStep (recs ++ [frD n], n + 1, [.int recs.length]) ∧ BkAt P w CB b r p x.1 x.2.1 s' ∧ OffB b r p s s' ∧ GoodR x.1 x.2.1 ∧ x.1.length = recs.length + 1 + 3 * dn.length ∧ x.2.2 = .int top :: tl ∧ (x.1.length : Int) = top + 1 ∧ tl.length = dn.length ∧ env = [.dat (.opq b), .dat (.lst locks), .own x.2.2, v3, v4])
          ⟨[], _, recs.length, [], .no, .no, rfl, rfl, hB1, off1, g.fr, by simp, rfl, by simp, rfl, rfl⟩ (fun env s' hp => ?_) fun d rest ih env s' hp => ?_
        · obtain ⟨dn, x, top, tl, v3, v4, e0, rfl, hB, off, _, _, _, _, _, rfl⟩ := hp
          rw [List.append_nil] at e0
          unfold onRun at h1
          rw [e0] at h1
          exact h1 _ _ ⟨v3, v4, hB, off, rfl⟩
        · obtain ⟨dn, ⟨R, m, ly⟩, top, tl, v3, v4, e0, ex, hB, off, g1, lR, el, et, lt, rfl⟩ := hp
          dsimp only at hB g1 lR el et
          subst el
          have ld : d ∈ locks := by
            have : d ∈ locks.reverse := by rw [e0]; simp
            simpa using this
          obtain ⟨q, rfl, q0, q1⟩ := hl d ld
          have le : dn.length + (rest.length + 1) = locks.length := by
            have := congrArg List.length e0
            simp at this
            omega
          have hb2 := hB
          obtain ⟨dx2, xs2, hb2, _⟩ := hb2
          refine cut (fun env s2 => BkAt P w CB b r p (R ++ [frD m] ++ [enD "row" [R.length, top]]) (m + 1) s2 ∧ OffB b r p s s2 ∧ env = [.dat (.opq b), .dat (.lst locks), .own (.int top :: tl), .dat (.int q), .dat (.int ((R.length + 1 : Nat) : Int))]) (fun K2 h2 _ _ => ?_) fun env s2 hI => ?_
          · simp [hb2, wfFresh]
            refine ⟨noM (by decide), noM (by decide), r, p, R, m, hB, g1.frB, by omega, fun t1 hB' off' => ⟨by decide, ?_⟩⟩
            refine ⟨r, p, R ++ [frD m], m + 1, _, hB', enD_nk "row" [R.length, top], by simp [NestedKey.depth, NestedKey.depthAll], rfl, by simp; omega, g1.fr.new (by decide) ⟨R.length, by simp, by simp⟩, fun t2 hB'' off'' => h2 _ _ ⟨hB'', (off.trans off').trans off'', ?_⟩⟩
            simp
          obtain ⟨hB3, off3, rfl⟩ := hI
          have g3 : GoodR (R ++ [frD m] ++ [enD "row" [R.length, top]]) (m + 1) := g1.fr.put (by decide) fun z hz => by
            simp at hz
            rcases hz with rfl | rfl <;> simp <;> omega
          have hb3 := hB3
          obtain ⟨dx3, xs3, hb3, _⟩ := hb3
          refine last (fun env s4 => BkAt P w CB b r p (R ++ [frD m] ++ [enD "row" [R.length, top]] ++ [enD "box" [q, ((R.length + 1 : Nat) : Int)]]) (m + 1) s4 ∧ OffB b r p s s4 ∧ env = [.dat (.opq b), .dat (.lst locks), .own (.int ((R.length + 2 : Nat) : Int) :: .int top :: tl), .dat (.int q), .dat (.int ((R.length + 1 : Nat) : Int))]) (fun K2 h2 _ _ => ?_) fun env s4 hI => ?_
          · simp [hb3]
            refine ⟨noM (by decide), by decide, r, p, R ++ [frD m] ++ [enD "row" [R.length, top]], m + 1, _, hB3, enD_nk "box" [q, (R.length : Int) + 1], by simp [NestedKey.depth, NestedKey.depthAll], rfl, by simp; omega, g3.new (by decide) ⟨(R.length : Int) + 1, by simp, by simp; omega⟩, fun t2 hB'' off'' => ⟨by rw [sizeLine_eq]; omega, h2 _ _ ⟨hB'', off3.trans off'', ?_⟩⟩⟩
            simp
          obtain ⟨hB4, off4, rfl⟩ := hI
          refine ih _ _ ⟨dn ++ [.int q], _, ((R.length + 2 : Nat) : Int), .int top :: tl, _, _, by rw [e0]; simp, by rw [List.foldl_append, ← ex], ?_, ?_, ?_, ?_, rfl, ?_, ?_, rfl⟩
          · exact hB4
          · exact off4
          · exact g3.put (ps := [q, ((R.length + 1 : Nat) : Int)]) (by decide) fun z hz => by
              simp at hz
              rcases hz with rfl | rfl <;> simp <;> omega
          · simp [onStep]
            omega
          · simp [onStep]
            omega
          · simp [lt]
      obtain ⟨v3, v4, hB2, off2, rfl⟩ := hI
      exact hk _ hB2 off2
end
end Law
set_option Elab.async false
set_option linter.all false
set_option maxRecDepth 100000
set_option maxHeartbeats 8000000
namespace Law
open PySem PySem.Spec PyProof.Rows L2 Gl Dw
local macro_rules | `(tactic| walk_at "sc") => `(tactic| first
  | exact True.intro
  | (show _ ≤ sizeLine; decide +kernel))
local macro_rules | `(tactic| walk_at "sim") => `(tactic| first
  | ((with_reducible apply ss_seq) <;> walk_at "sim")
  | with_reducible exact ss_next
  | ((with_reducible apply ss_raise) <;> walk_at "sim")
  | with_reducible exact ss_raise0
  | ((with_reducible apply ss_try); walk_at "sim"; (intro _; walk_at "sim"); walk_at "sim")
  | ((with_reducible apply loc_if) <;> walk_at "sim")
  | with_reducible exact loc_asgDf
  | with_reducible exact loc_asgMk
  | ((with_reducible apply loc_seq) <;> walk_at "sim")
  | with_reducible exact loc_const
  | with_reducible exact SimHs.nil
  | ((with_reducible apply SimHs.cons); (intro _ _ _ _ _ _; walk_at "sim"); walk_at "sim")
  | with_reducible exact ss_brk
  | with_reducible exact ss_cont
  | with_reducible exact ss_retN
  | ((with_reducible apply ss_ret) <;> walk_at "sim")
  | ((with_reducible apply ss_if) <;> walk_at "sim")
  | ((with_reducible apply ss_asgO); (with_reducible assumption); walk_at "sim")
  | ((with_reducible apply ss_nput) <;> walk_at "sim")
  | ((with_reducible apply ss_setM) <;> walk_at "sim")
  | ((with_reducible apply ss_setL) <;> walk_at "sim")
  | ((with_reducible apply ss_pop) <;> walk_at "sim")
  | ((with_reducible apply ss_popAt) <;> walk_at "sim")
  | ((with_reducible apply ss_asg) <;> walk_at "sim")
  | ((with_reducible apply ss_par) <;> walk_at "sim")
  | ((with_reducible apply ss_par3) <;> walk_at "sim")
  | ((with_reducible apply ss_aug) <;> walk_at "sim")
  | ((with_reducible apply ss_app) <;> walk_at "sim")
  | ((with_reducible apply ss_appM) <;> walk_at "sim")
  | ((with_reducible apply ss_ins) <;> walk_at "sim")
  | ((with_reducible apply si_rev) <;> walk_at "sim")
  | ((with_reducible apply ss_ext) <;> walk_at "sim")
  | ((with_reducible apply ss_drop) <;> walk_at "sim")
  | ((with_reducible apply ss_for) <;> walk_at "sim")
  | ((with_reducible apply ss_while) <;> walk_at "sim")
  | with_reducible exact tg_name
  | ((with_reducible apply tg_tup) <;> walk_at "sim")
  | ((with_reducible apply tgs_cons) <;> walk_at "sim")
  | with_reducible exact tgs_nil
  | with_reducible exact sim_bgetE
  | ((with_reducible apply sim_tupRev) <;> walk_at "sim")
  | with_reducible exact sim_bget
  | ((with_reducible apply ss_bput) <;> walk_at "sim")
  | ((with_reducible apply ss_baug) <;> walk_at "sim")
  | ((with_reducible apply sim_nnotin) <;> walk_at "sim")
  | ((with_reducible apply sim_nget) <;> walk_at "sim")
  | ((with_reducible apply ss_nput) <;> walk_at "sim")
  | ((with_reducible apply ss_faugMT (by assumption) (by assumption)) <;> walk_at "sim")
  | ((with_reducible apply sim_fldMT (by assumption) (by assumption)) <;> walk_at "sim")
  | ((with_reducible apply sim_mtM) <;> walk_at "sim")
  | ((with_reducible apply sim_mtM0) <;> walk_at "sim")
  | with_reducible exact sim_newBk
  | with_reducible exact so_ixB
  | with_reducible exact so_ixM
  | with_reducible exact so_raddR
  | with_reducible exact so_rsubR
  | with_reducible exact sc_lenM
  | with_reducible exact sc_sortX
  | with_reducible exact sc_lenB
  | with_reducible exact so_radd
  | with_reducible exact so_rsub
  | ((with_reducible apply sim_dgetT) <;> walk_at "sim")
  | ((with_reducible apply sim_dinT) <;> walk_at "sim")
  | ((with_reducible apply sim_dnotInT) <;> walk_at "sim")
  | ((with_reducible apply sim_mt0) <;> walk_at "sim")
  | ((with_reducible apply sim_dcE) <;> walk_at "sim")
  | ((with_reducible apply si_enumT) <;> walk_at "sim")
  | with_reducible exact sc_sortI
  | with_reducible exact sim_var
  | with_reducible exact sim_varG
  | with_reducible exact sim_nil
  | with_reducible exact sim_nilB
  | ((with_reducible apply sim_cons) <;> walk_at "sim")
  | ((with_reducible apply sim_consB) <;> walk_at "sim")
  | ((with_reducible apply sim_c); walk_at "sc")
  | ((with_reducible apply sim_op) <;> walk_at "sim")
  | ((with_reducible apply sim_un) <;> walk_at "sim")
  | ((with_reducible apply sim_isG); (with_reducible assumption); walk_at "sim")
  | ((with_reducible apply sim_cb) <;> walk_at "sim")
  | ((with_reducible apply sim_tup) <;> walk_at "sim")
  | ((with_reducible apply sim_lst) <;> walk_at "sim")
  | ((with_reducible apply sim_lstF) <;> walk_at "sim")
  | ((with_reducible apply sim_call) <;> walk_at "sim")
  | ((with_reducible apply sim_callN) <;> walk_at "sim")
  | ((with_reducible apply sim_sl) <;> walk_at "sim")
  | with_reducible exact sp_no
  | ((with_reducible apply sp_part) <;> walk_at "sim")
  | ((with_reducible apply sim_test) <;> walk_at "sim")
  | ((with_reducible apply sim_tB) <;> walk_at "sim")
  | ((with_reducible apply sim_and) <;> walk_at "sim")
  | ((with_reducible apply sim_or) <;> walk_at "sim")
  | ((with_reducible apply sim_not) <;> walk_at "sim")
  | with_reducible exact sim_yes
  | ((with_reducible apply sim_andV) <;> walk_at "sim")
  | ((with_reducible apply sim_orV) <;> walk_at "sim")
  | ((with_reducible apply sim_notV) <;> walk_at "sim")
  | ((with_reducible apply sim_if) <;> walk_at "sim")
  | ((with_reducible apply sim_chain) <;> walk_at "sim")
  | ((with_reducible apply sim_lcF) <;> walk_at "sim")
  | ((with_reducible apply sim_lcE) <;> walk_at "sim")
  | ((with_reducible apply sim_lstRgF) <;> walk_at "sim")
  | ((with_reducible apply sim_lstRg) <;> walk_at "sim")
  | ((with_reducible apply sim_tupRg) <;> walk_at "sim")
  | ((with_reducible apply sim_rg1) <;> walk_at "sim")
  | ((with_reducible apply sim_rg2) <;> walk_at "sim")
  | ((with_reducible apply sim_listF) <;> walk_at "sim")
  | ((with_reducible apply sim_addF) <;> walk_at "sim")
  | ((with_reducible apply sim_join) <;> walk_at "sim")
  | ((with_reducible apply sim_lenSetS) <;> walk_at "sim")
  | ((with_reducible apply sim_fldT); (with_reducible assumption); (with_reducible assumption); walk_at "sim")
  | ((with_reducible apply sim_mk) <;> walk_at "sim")
  | ((with_reducible apply sim_mkN) <;> walk_at "sim")
  | ((with_reducible apply sim_xf); (with_reducible assumption))
  | with_reducible exact so_eqO
  | ((with_reducible apply si_x) <;> walk_at "sim")
  | ((with_reducible apply si_tup) <;> walk_at "sim")
  | ((with_reducible apply si_list) <;> walk_at "sim")
  | ((with_reducible apply si_str) <;> walk_at "sim")
  | ((with_reducible apply si_rng1) <;> walk_at "sim")
  | ((with_reducible apply si_rng2) <;> walk_at "sim")
  | ((with_reducible apply si_enum) <;> walk_at "sim")
  | ((with_reducible apply si_zip) <;> walk_at "sim")
  | with_reducible exact so_addX
  | with_reducible exact so_mulX
  | with_reducible exact so_divX
  | with_reducible exact so_eqX
  | with_reducible exact so_neX
  | with_reducible exact so_inX
  | with_reducible exact so_notInX
  | with_reducible exact so_ltX
  | with_reducible exact so_gtX
  | with_reducible exact so_geX
  | with_reducible exact so_leX
  | ((with_reducible apply so_i0s); (intros; exact True.intro))
  | ((with_reducible apply so_iCs); (intros; exact True.intro))
  | ((with_reducible apply su_is); (intros; exact True.intro))
  | with_reducible exact so_eq
  | with_reducible exact so_ne
  | with_reducible exact so_isN
  | with_reducible exact so_notN
  | with_reducible exact so_isB
  | with_reducible exact so_notB
  | with_reducible exact so_ixL
  | with_reducible exact so_ixT
  | with_reducible exact so_ixS
  | with_reducible exact so_ix
  | with_reducible exact so_in
  | with_reducible exact so_str
  | with_reducible exact so_inS
  | with_reducible exact so_notInS
  | with_reducible exact so_catT
  | with_reducible exact so_catL
  | with_reducible exact so_addS
  | with_reducible exact so_mulS
  | with_reducible exact so_repT
  | with_reducible exact so_eqD
  | with_reducible exact so_neD
  | with_reducible exact so_inD
  | with_reducible exact so_notInD
  | with_reducible exact so_leT
  | with_reducible exact sc_len
  | with_reducible exact sc_int
  | with_reducible exact sc_abs
  | with_reducible exact sc_str
  | with_reducible exact sc_mm
  | with_reducible exact sc_list
  | with_reducible exact sc_tuple
  | with_reducible exact sc_sum
  | with_reducible exact sc_all
  | with_reducible exact sc_any
  | with_reducible exact sc_isi
  | with_reducible exact sc_isiT
  | with_reducible exact sc_repr
  | with_reducible exact sl_x
  | with_reducible exact sl_t
  | with_reducible exact sl_l
  | with_reducible exact sl_s
  | ((with_reducible apply SimE.g); walk_at "sim")
  | (intros; decide)
  | skip)

def rowStep (row : List D) : D → List D
  | .tup ps => ps.map fun d => match d with
    | .int p => (atI row p).getD .non
    | _ => .non
  | _ => []
def laidR (row : List D) : List D → List (List D)
  | [] => [row]
  | o :: r => row :: laidR (rowStep row o) r
/-- an order of so many -/
def isOrd (many : Nat) (d : D) : Prop := ∃ ps : List Int, d = .tup (ps.map D.int) ∧ ps.length = many ∧ ∀ p ∈ ps, 0 ≤ p ∧ p < (many : Int)
variable {S : Type}
def wfLaid : WF S := fun ds s k _ => match ds with
  | [.tup os] => ∃ many : Nat, 1 ≤ many ∧ many ≤ 6 ∧ os ≠ [] ∧ os.length ≤ 4 ∧ (∀ o ∈ os, isOrd many o) ∧ k (.lst ((laidR (rngD 0 many) os).map D.lst)) s
  | _ => False
abbrev s_laid : Stmt := top 32
abbrev N_laid : List Str := ["orders", "rows", "order", "place"]
theorem sc_laid : FnScope N_laid ["orders"] (defScope s_laid) := ⟨rfl, rfl, rfl, by decide +kernel, rfl, by decide +kernel, by decide +kernel⟩
section
variable {W : Wd S} {P : Program} {w : World} {K : PySem.W.Frag} {mg : Str → Option Value} {base : Heap}
theorem laid_snoc (row : List D) (os : List D) (o : D) : laidR row (os ++ [o]) = laidR row os ++ [rowStep (os.foldl rowStep row) o] := by
  induction os generalizing row with
  | nil => rfl
  | cons a r ih =>
    show row :: laidR (rowStep row a) (r ++ [o]) = _
    rw [ih]
    rfl
theorem laid_last (row : List D) (os : List D) : ∃ a, laidR row os = a ++ [os.foldl rowStep row] ∧ a.length = os.length := by
  induction os generalizing row with
  | nil => exact ⟨[], rfl, rfl⟩
  | cons o r ih =>
    obtain ⟨a, e, l⟩ := ih (rowStep row o)
    exact ⟨row :: a, by show row :: laidR (rowStep row o) r = _; rw [e]; rfl, by simp [l]⟩
theorem at_last {α : Type} {a : List α} {y : α} : atI (a ++ [y]) (-1) = some y := by
  have e : ixN (a ++ [y]).length (-1) = some a.length := by
    unfold ixN
    rw [if_neg (by decide), if_pos (by simp; omega)]
    simp
    omega
  unfold atI
  rw [e]
  simp
theorem row_len {many : Nat} : ∀ {os : List D} {row : List D}, row.length = many → (∀ o ∈ os, isOrd many o) → (os.foldl rowStep row).length = many
  | [], _, h, _ => h
  | o :: r, row, h, ho => by
    obtain ⟨ps, rfl, l, _⟩ := ho o (by simp)
    exact row_len (row := rowStep row (.tup (ps.map D.int))) (by show (List.map _ (ps.map D.int)).length = many; simp [l]) fun q hq => ho q (by simp [hq])
theorem ok_laid (T : Tx P w K mg) {f : Addr} {fd : FuncData} (F : FD K "laid" s_laid f fd) : Fn P w K mg base 1 f fd ["orders"] (spX W wfLaid) := by
  refine fn_data F sc_laid (fun ds s k x h => ?_) fun cv A outer s H G hr gd => ⟨_, (pss_cons (ps_set (i := 1) sc_laid.nd rfl (Or.inr rfl) (pe_lst (pa_cons (pe_listRg rfl (by rfl) T.list (prg_1 (by rfl) T.range (pe_callB (kLen (K := K)) (by rfl) T.len (by decide +kernel) (pa_cons (pe_ix (kIx (K := K)) (pv 0) pe_int (fun _ _ => rfl)) pa_nil)))) pa_nil)))
    (pss_cons (ps_for (passes_of rfl) rfl (kpi (K := K) (pv 0)) (pg_name (i := 2) sc_laid.nd rfl (Or.inl rfl))
      (pss_one (ps_expr (pe_bm PySem.F.plainAttrs_list PySem.F.slot_list_append PySem.F.type_list_append mt_append (pv 1) (pa_cons (pe_lc (own := [("place", 3)]) (g := gName 3) (by rfl) sc_laid.nd (kpi (K := K) (pv 2)) (blkOk_by (own := [("place", 3)]) (N := N_laid) (sc := defScope s_laid) (by decide +kernel)) (fun _ _ _ _ _ => pg_name (i := 3) sc_laid.nd rfl (Or.inl rfl)) (fun _ _ _ _ _ => pts_nil) (fun _ _ _ _ _ => (pe_ix (kIx (K := K)) (pe_ix (kIx (K := K)) (pv 1) (pe_un un_neg pe_int) (fun _ _ => rfl)) (pv 3) (fun _ _ => rfl)))) pa_nil)))))
    (pss_one (ps_ret (pv 1))))), ?_⟩
  · match ds, h with
    | [.tup _], _ => rfl
  · 
    have ow1 : OwnSl 1 := ⟨⟩
    apply bodyW
    · walk_at "sim"
    intro ds s k x ok h
    match ds, h with
    | [.tup os], ⟨many, m1, m6, ne, ol, ho, hk⟩ =>
      match os, ne with
      | o1 :: os', _ =>
        obtain ⟨ps1, e1, l1, _⟩ := ho o1 (by simp)
        simp [at0, e1, l1]
        refine ⟨?_, by decide, ?_⟩
        · exact RgOk.of_le (by omega) (by omega) (by omega) (by omega)
        have hos : D.tup (List.map D.int ps1) :: os' = o1 :: os' := by rw [e1]
        rw [hos]
        refine wFor_ind (fun rest env s' => ∃ (dn : List D) (v2 v3 : Sl), o1 :: os' = dn ++ rest ∧ s' = s ∧ env = [.dat (.tup (o1 :: os')), .own ((laidR (rngD 0 many) dn).map D.lst), v2, v3]) ⟨[], .no, .no, rfl, rfl, rfl⟩ (fun env s' hp => ?_) fun d rest ih env s' hp => ?_
        · obtain ⟨dn, v2, v3, e0, rfl, rfl⟩ := hp
          rw [List.append_nil] at e0
          rw [← e0]
          exact hk
        · obtain ⟨dn, v2, v3, e0, rfl, rfl⟩ := hp
          have hd : ∀ q ∈ dn, isOrd many q := fun q hq => ho q (by rw [e0]; simp [hq])
          obtain ⟨ps, rfl, lp, hp⟩ := ho d (by rw [e0]; simp)
          have rl := row_len (many := many) (row := rngD 0 many) (by rw [rngD_len]) hd
          obtain ⟨a, el, la⟩ := laid_last (rngD 0 many) dn
          have ld : dn.length + (rest.length + 1) ≤ 4 := by
            have := congrArg List.length e0
            simp at this ol
            omega
          simp
          refine ⟨by rw [sizeLine_eq]; omega, ?_⟩
          refine wLc_map (fun d => match d with | .int p => (atI (dn.foldl rowStep (rngD 0 many)) p).getD .non | _ => .non) (fun e he kt hkt => ?_) ?_
          · obtain ⟨q, hq, rfl⟩ := List.mem_map.mp he
            have q1 := hp q hq
            have aq : atI (dn.foldl rowStep (rngD 0 many)) q = some ((dn.foldl rowStep (rngD 0 many))[q.toNat]'(by omega)) := atI_nat' q1.1 (by omega)
            have al : atI (List.map D.lst (laidR (rngD 0 many) dn)) (-1) = some (.lst (dn.foldl rowStep (rngD 0 many))) := by
              rw [el, List.map_append]
              exact at_last
            simp [al, aq] at hkt ⊢
            exact hkt
          · refine ⟨by rw [el, List.length_append, sizeLine_eq]; simp; omega, ih _ _ ⟨dn ++ [.tup (ps.map D.int)], .dat (.tup (ps.map D.int)), v3, by rw [e0]; simp, rfl, ?_⟩⟩
            rw [laid_snoc, List.map_append]
            rfl
end
end Law
set_option Elab.async false
set_option linter.all false
set_option maxRecDepth 100000
set_option maxHeartbeats 8000000
namespace Law
open PySem PySem.Spec PyProof.Rows L2 Gl Dw
local macro_rules | `(tactic| walk_at "sc") => `(tactic| first
  | exact True.intro
  | (show _ ≤ sizeLine; decide +kernel))
local macro_rules | `(tactic| walk_at "sim") => `(tactic| first
  | ((with_reducible apply ss_seq) <;> walk_at "sim")
  | with_reducible exact ss_next
  | ((with_reducible apply ss_raise) <;> walk_at "sim")
  | with_reducible exact ss_raise0
  | ((with_reducible apply ss_try); walk_at "sim"; (intro _; walk_at "sim"); walk_at "sim")
  | ((with_reducible apply loc_if) <;> walk_at "sim")
  | with_reducible exact loc_asgDf
  | with_reducible exact loc_asgMk
  | ((with_reducible apply loc_seq) <;> walk_at "sim")
  | with_reducible exact loc_const
  | with_reducible exact SimHs.nil
  | ((with_reducible apply SimHs.cons); (intro _ _ _ _ _ _; walk_at "sim"); walk_at "sim")
  | with_reducible exact ss_brk
  | with_reducible exact ss_cont
  | with_reducible exact ss_retN
  | ((with_reducible apply ss_ret) <;> walk_at "sim")
  | ((with_reducible apply ss_if) <;> walk_at "sim")
  | ((with_reducible apply ss_asgO); (with_reducible assumption); walk_at "sim")
  | ((with_reducible apply ss_nput) <;> walk_at "sim")
  | ((with_reducible apply ss_setM) <;> walk_at "sim")
  | ((with_reducible apply ss_setL) <;> walk_at "sim")
  | ((with_reducible apply ss_pop) <;> walk_at "sim")
  | ((with_reducible apply ss_popAt) <;> walk_at "sim")
  | ((with_reducible apply ss_asg) <;> walk_at "sim")
  | ((with_reducible apply ss_par) <;> walk_at "sim")
  | ((with_reducible apply ss_par3) <;> walk_at "sim")
  | ((with_reducible apply ss_aug) <;> walk_at "sim")
  | ((with_reducible apply ss_app) <;> walk_at "sim")
  | ((with_reducible apply ss_appM) <;> walk_at "sim")
  | ((with_reducible apply ss_ins) <;> walk_at "sim")
  | ((with_reducible apply si_rev) <;> walk_at "sim")
  | ((with_reducible apply ss_ext) <;> walk_at "sim")
  | ((with_reducible apply ss_drop) <;> walk_at "sim")
  | ((with_reducible apply ss_for) <;> walk_at "sim")
  | ((with_reducible apply ss_while) <;> walk_at "sim")
  | with_reducible exact tg_name
  | ((with_reducible apply tg_tup) <;> walk_at "sim")
  | ((with_reducible apply tgs_cons) <;> walk_at "sim")
  | with_reducible exact tgs_nil
  | with_reducible exact sim_bgetE
  | ((with_reducible apply sim_tupRev) <;> walk_at "sim")
  | with_reducible exact sim_bget
  | ((with_reducible apply ss_bput) <;> walk_at "sim")
  | ((with_reducible apply ss_baug) <;> walk_at "sim")
  | ((with_reducible apply sim_nnotin) <;> walk_at "sim")
  | ((with_reducible apply sim_nget) <;> walk_at "sim")
  | ((with_reducible apply ss_nput) <;> walk_at "sim")
  | ((with_reducible apply ss_faugMT (by assumption) (by assumption)) <;> walk_at "sim")
  | ((with_reducible apply sim_fldMT (by assumption) (by assumption)) <;> walk_at "sim")
  | ((with_reducible apply sim_mtM) <;> walk_at "sim")
  | ((with_reducible apply sim_mtM0) <;> walk_at "sim")
  | with_reducible exact sim_newBk
  | with_reducible exact so_ixB
  | with_reducible exact so_ixM
  | with_reducible exact so_raddR
  | with_reducible exact so_rsubR
  | with_reducible exact sc_lenM
  | with_reducible exact sc_sortX
  | with_reducible exact sc_lenB
  | with_reducible exact so_radd
  | with_reducible exact so_rsub
  | ((with_reducible apply sim_dgetT) <;> walk_at "sim")
  | ((with_reducible apply sim_dinT) <;> walk_at "sim")
  | ((with_reducible apply sim_dnotInT) <;> walk_at "sim")
  | ((with_reducible apply sim_mt0) <;> walk_at "sim")
  | ((with_reducible apply sim_dcE) <;> walk_at "sim")
  | ((with_reducible apply si_enumT) <;> walk_at "sim")
  | with_reducible exact sc_sortI
  | with_reducible exact sim_var
  | with_reducible exact sim_varG
  | with_reducible exact sim_nil
  | with_reducible exact sim_nilB
  | ((with_reducible apply sim_cons) <;> walk_at "sim")
  | ((with_reducible apply sim_consB) <;> walk_at "sim")
  | ((with_reducible apply sim_c); walk_at "sc")
  | ((with_reducible apply sim_op) <;> walk_at "sim")
  | ((with_reducible apply sim_un) <;> walk_at "sim")
  | ((with_reducible apply sim_isG); (with_reducible assumption); walk_at "sim")
  | ((with_reducible apply sim_cb) <;> walk_at "sim")
  | ((with_reducible apply sim_tup) <;> walk_at "sim")
  | ((with_reducible apply sim_lst) <;> walk_at "sim")
  | ((with_reducible apply sim_lstF) <;> walk_at "sim")
  | ((with_reducible apply sim_call) <;> walk_at "sim")
  | ((with_reducible apply sim_callN) <;> walk_at "sim")
  | ((with_reducible apply sim_sl) <;> walk_at "sim")
  | with_reducible exact sp_no
  | ((with_reducible apply sp_part) <;> walk_at "sim")
  | ((with_reducible apply sim_test) <;> walk_at "sim")
  | ((with_reducible apply sim_tB) <;> walk_at "sim")
  | ((with_reducible apply sim_and) <;> walk_at "sim")
  | ((with_reducible apply sim_or) <;> walk_at "sim")
  | ((with_reducible apply sim_not) <;> walk_at "sim")
  | with_reducible exact sim_yes
  | ((with_reducible apply sim_andV) <;> walk_at "sim")
  | ((with_reducible apply sim_orV) <;> walk_at "sim")
  | ((with_reducible apply sim_notV) <;> walk_at "sim")
  | ((with_reducible apply sim_if) <;> walk_at "sim")
  | ((with_reducible apply sim_chain) <;> walk_at "sim")
  | ((with_reducible apply sim_lcF) <;> walk_at "sim")
  | ((with_reducible apply sim_lcE) <;> walk_at "sim")
  | ((with_reducible apply sim_lstRgF) <;> walk_at "sim")
  | ((with_reducible apply sim_lstRg) <;> walk_at "sim")
  | ((with_reducible apply sim_tupRg) <;> walk_at "sim")
  | ((with_reducible apply sim_rg1) <;> walk_at "sim")
  | ((with_reducible apply sim_rg2) <;> walk_at "sim")
  | ((with_reducible apply sim_listF) <;> walk_at "sim")
  | ((with_reducible apply sim_addF) <;> walk_at "sim")
  | ((with_reducible apply sim_join) <;> walk_at "sim")
  | ((with_reducible apply sim_lenSetS) <;> walk_at "sim")
  | ((with_reducible apply sim_fldT); (with_reducible assumption); (with_reducible assumption); walk_at "sim")
  | ((with_reducible apply sim_mk) <;> walk_at "sim")
  | ((with_reducible apply sim_mkN) <;> walk_at "sim")
  | ((with_reducible apply sim_xf); (with_reducible assumption))
  | with_reducible exact so_eqO
  | ((with_reducible apply si_x) <;> walk_at "sim")
  | ((with_reducible apply si_tup) <;> walk_at "sim")
  | ((with_reducible apply si_list) <;> walk_at "sim")
  | ((with_reducible apply si_str) <;> walk_at "sim")
  | ((with_reducible apply si_rng1) <;> walk_at "sim")
  | ((with_reducible apply si_rng2) <;> walk_at "sim")
  | ((with_reducible apply si_enum) <;> walk_at "sim")
  | ((with_reducible apply si_zip) <;> walk_at "sim")
  | with_reducible exact so_addX
  | with_reducible exact so_mulX
  | with_reducible exact so_divX
  | with_reducible exact so_eqX
  | with_reducible exact so_neX
  | with_reducible exact so_inX
  | with_reducible exact so_notInX
  | with_reducible exact so_ltX
  | with_reducible exact so_gtX
  | with_reducible exact so_geX
  | with_reducible exact so_leX
  | ((with_reducible apply so_i0s); (intros; exact True.intro))
  | ((with_reducible apply so_iCs); (intros; exact True.intro))
  | ((with_reducible apply su_is); (intros; exact True.intro))
  | with_reducible exact so_eq
  | with_reducible exact so_ne
  | with_reducible exact so_isN
  | with_reducible exact so_notN
  | with_reducible exact so_isB
  | with_reducible exact so_notB
  | with_reducible exact so_ixL
  | with_reducible exact so_ixT
  | with_reducible exact so_ixS
  | with_reducible exact so_ix
  | with_reducible exact so_in
  | with_reducible exact so_str
  | with_reducible exact so_inS
  | with_reducible exact so_notInS
  | with_reducible exact so_catT
  | with_reducible exact so_catL
  | with_reducible exact so_addS
  | with_reducible exact so_mulS
  | with_reducible exact so_repT
  | with_reducible exact so_eqD
  | with_reducible exact so_neD
  | with_reducible exact so_inD
  | with_reducible exact so_notInD
  | with_reducible exact so_leT
  | with_reducible exact sc_len
  | with_reducible exact sc_int
  | with_reducible exact sc_abs
  | with_reducible exact sc_str
  | with_reducible exact sc_mm
  | with_reducible exact sc_list
  | with_reducible exact sc_tuple
  | with_reducible exact sc_sum
  | with_reducible exact sc_all
  | with_reducible exact sc_any
  | with_reducible exact sc_isi
  | with_reducible exact sc_isiT
  | with_reducible exact sc_repr
  | with_reducible exact sl_x
  | with_reducible exact sl_t
  | with_reducible exact sl_l
  | with_reducible exact sl_s
  | ((with_reducible apply SimE.g); walk_at "sim")
  | (intros; decide)
  | skip)

/-- an order of the numbers below many -/
def isPerm (many : Nat) (d : D) : Prop := ∃ ps : List Int, d = .tup (ps.map D.int) ∧ ps.Perm ((List.range many).map fun (i : Nat) => (i : Int))
variable {S : Type}
def wfIsOrd : WF S := fun ds s k _ => match ds with
  | [d, .int m] => ∃ many : Nat, m = many ∧ many ≤ 6 ∧ isPerm many d ∧ k (.bl true) s
  | _ => False
abbrev s_is_order : Stmt := top 26
abbrev N_is_order : List Str := ["thing", "many", "place"]
theorem sc_is_order : FnScope N_is_order ["thing", "many"] (defScope s_is_order) := ⟨rfl, rfl, rfl, by decide +kernel, rfl, by decide +kernel, by decide +kernel⟩
section
variable {W : Wd S} {P : Program} {w : World} {K : PySem.W.Frag} {mg : Str → Option Value} {base : Heap}
theorem isPerm.ord {many : Nat} {d : D} (h : isPerm many d) : isOrd many d := by
  obtain ⟨ps, rfl, p⟩ := h
  refine ⟨ps, rfl, by rw [p.length_eq]; simp, fun q hq => ?_⟩
  have := p.mem_iff.mp hq
  obtain ⟨i, hi, rfl⟩ := List.mem_map.mp this
  have := List.mem_range.mp hi
  omega
theorem shaped_refl {p : PyData} (h : SeqAt.shaped p = true) : PyData.eqv p p = true := by
  refine SeqAt.eqv_refl p ?_
  unfold SeqAt.shaped at h
  exact (Bool.and_eq_true_iff.mp h).1
theorem ints_D (xs : List Int) : D.ints (xs.map D.int) = some xs := by
  induction xs with
  | nil => rfl
  | cons x r ih =>
    show (D.ints (r.map D.int)).map (x :: ·) = _
    rw [ih]
    rfl
theorem ok_is_order (T : Tx P w K mg) (f_is_within : Df P w K mg base 2 "is_within" (spX W wfIn)) {f : Addr} {fd : FuncData} (F : FD K "is_order" s_is_order f fd) : Fn P w K mg base 3 f fd ["thing", "many"] (spX W wfIsOrd) := by
  refine fn_data F sc_is_order (fun ds s k x h => ?_) fun cv A outer s H G hr gd => ⟨_, (pss_cons (ps_if (PW.pt (pw_or (pt_not (pt_val (pe_callB (kIsi (K := K)) (by rfl) T.isinstance (by decide +kernel) (pa_cons (pv 0) (pa_cons (pe_bltn (v := .ty "tuple") (by rfl) T.tuple (by decide +kernel) rfl) pa_nil))))) (pw_or1 (pt_cmpR (kNe (K := K) hr) (pe_callB (kLen (K := K)) (by rfl) T.len (by decide +kernel) (pa_cons (pv 0) pa_nil)) (pv 1) (nomark _))))) (pss_one (ps_ret pe_bl)) pss_nil)
    (pss_one (ps_ret (pe_and (pe_callB (kAll (K := K) rfl) (by rfl) T.all (by decide +kernel) (pa_cons (pe_lc (own := [("place", 2)]) (g := gName 2) (by rfl) sc_is_order.nd (kpi (K := K) (pv 0)) (blkOk_by (own := [("place", 2)]) (N := N_is_order) (sc := defScope s_is_order) (by decide +kernel)) (fun _ _ _ _ _ => pg_name (i := 2) sc_is_order.nd rfl (Or.inl rfl)) (fun _ _ _ _ _ => pts_nil) (fun _ _ _ _ _ => (pe_df f_is_within hr (by omega) gd rfl (fun σ => Gl.no_pass σ) (pa_cons (pv 2) (pa_cons pe_int (pa_cons (pe_op op_sub (pv 1) pe_int) pa_nil)))))) pa_nil)) (pe_one (pe_cmpR (kEq (K := K) hr) (pe_callB (kSortedX (K := K) rfl) (by rfl) T.sorted (by decide +kernel) (pa_cons (pv 0) pa_nil)) (pe_listRg rfl (by rfl) T.list (prg_1 (by rfl) T.range (pv 1))) (nomark _))))))), ?_⟩
  · match ds, h with
    | [_, .int _], _ => rfl
  · apply bodyW
    · walk_at "sim"
    intro ds s k x ok h
    match ds, h with
    | [d, .int m], h =>
      obtain ⟨many, e, m6, hp, hk⟩ := h
      subst e
      obtain ⟨ps, rfl, pm⟩ := hp
      have po := (isPerm.ord ⟨ps, rfl, pm⟩ : isOrd many (.tup (ps.map D.int)))
      have l1 : ps.length = many := by simpa using pm.length_eq
      simp [wfIn]
      refine ⟨by decide, ite_t (by rw [l1]) ⟨by rw [sizeLine_eq]; omega, ?_⟩⟩
      refine wLc_map (fun _ => .bl true) (fun e he kt hkt => ?_) ?_
      · obtain ⟨q, hq, rfl⟩ := List.mem_map.mp he
        have hq2 := pm.mem_iff.mp hq
        obtain ⟨i, hi, rfl⟩ := List.mem_map.mp hq2
        have := List.mem_range.mp hi
        have e1 : isIn 0 ((many : Int) - 1) (.int (i : Int)) = true := by simp only [isIn, Bool.and_eq_true, decide_eq_true_eq]; omega
        simp only [wCallN, wCons, wNil, wVar, wC, vD, wOp, wI0, wVarG, wfIn]
        simp [wfIn]
        rw [e1]
        exact hkt
      · refine ⟨(List.map D.int ps).map fun _ => true, bls_map (fun _ => true) _, ite_f (by simp) ⟨ps, ints_D ps, fun ms p1 p2 => ⟨RgOk.of_le (by omega) (by omega) (by omega) (by omega), ?_⟩⟩⟩
        have e1 : ms = (List.range many).map fun (i : Nat) => (i : Int) := by
          refine List.Perm.eq_of_pairwise (le := fun a b : Int => a ≤ b) (fun a b _ _ h1 h2 => Int.le_antisymm h1 h2) p2 ?_ (p1.trans pm)
          rw [List.pairwise_map]
          exact List.pairwise_lt_range.imp fun h => by omega
        have e2 : List.map D.int ms = rngD 0 many := by
          rw [e1, List.map_map, rngD_eq]
          refine List.map_congr_left fun i _ => ?_
          simp
        rw [e2]
        have hq : Lq 40 0 many (rngD 0 many) := ⟨by rw [rngD_len]; exact Nat.le_refl _, fun d hd => by
          rw [← e2, e1] at hd
          obtain ⟨q, hq, rfl⟩ := List.mem_map.mp hd
          obtain ⟨i, hi, rfl⟩ := List.mem_map.mp hq
          have := List.mem_range.mp hi
          exact Pq.int ⟨by omega, by omega⟩⟩
        obtain ⟨p, h1, h2⟩ := hq.lst.shaped (by omega)
        simp only [D.py] at h1
        cases e3 : D.pys (rngD 0 many) with
        | none => rw [e3] at h1; cases h1
        | some zs =>
          rw [e3] at h1
          cases h1
          refine ⟨_, ⟨zs, rfl, rfl⟩, _, ⟨zs, rfl, rfl⟩, h2, h2, ?_⟩
          rw [shaped_refl h2]
          exact hk
end
end Law
set_option Elab.async false
set_option linter.all false
set_option maxRecDepth 100000
set_option maxHeartbeats 8000000
namespace Law
open PySem PySem.Spec PyProof.Rows L2 Gl Dw
local macro_rules | `(tactic| walk_at "sc") => `(tactic| first
  | exact True.intro
  | (show _ ≤ sizeLine; decide +kernel))
local macro_rules | `(tactic| walk_at "sim") => `(tactic| first
  | ((with_reducible apply ss_seq) <;> walk_at "sim")
  | with_reducible exact ss_next
  | ((with_reducible apply ss_raise) <;> walk_at "sim")
  | with_reducible exact ss_raise0
  | ((with_reducible apply ss_try); walk_at "sim"; (intro _; walk_at "sim"); walk_at "sim")
  | ((with_reducible apply loc_if) <;> walk_at "sim")
  | with_reducible exact loc_asgDf
  | with_reducible exact loc_asgMk
  | ((with_reducible apply loc_seq) <;> walk_at "sim")
  | with_reducible exact loc_const
  | with_reducible exact SimHs.nil
  | ((with_reducible apply SimHs.cons); (intro _ _ _ _ _ _; walk_at "sim"); walk_at "sim")
  | with_reducible exact ss_brk
  | with_reducible exact ss_cont
  | with_reducible exact ss_retN
  | ((with_reducible apply ss_ret) <;> walk_at "sim")
  | ((with_reducible apply ss_if) <;> walk_at "sim")
  | ((with_reducible apply ss_asgO); (with_reducible assumption); walk_at "sim")
  | ((with_reducible apply ss_nput) <;> walk_at "sim")
  | ((with_reducible apply ss_setM) <;> walk_at "sim")
  | ((with_reducible apply ss_setL) <;> walk_at "sim")
  | ((with_reducible apply ss_pop) <;> walk_at "sim")
  | ((with_reducible apply ss_popAt) <;> walk_at "sim")
  | ((with_reducible apply ss_asg) <;> walk_at "sim")
  | ((with_reducible apply ss_par) <;> walk_at "sim")
  | ((with_reducible apply ss_par3) <;> walk_at "sim")
  | ((with_reducible apply ss_aug) <;> walk_at "sim")
  | ((with_reducible apply ss_app) <;> walk_at "sim")
  | ((with_reducible apply ss_appM) <;> walk_at "sim")
  | ((with_reducible apply ss_ins) <;> walk_at "sim")
  | ((with_reducible apply si_rev) <;> walk_at "sim")
  | ((with_reducible apply ss_ext) <;> walk_at "sim")
  | ((with_reducible apply ss_drop) <;> walk_at "sim")
  | ((with_reducible apply ss_for) <;> walk_at "sim")
  | ((with_reducible apply ss_while) <;> walk_at "sim")
  | with_reducible exact tg_name
  | ((with_reducible apply tg_tup) <;> walk_at "sim")
  | ((with_reducible apply tgs_cons) <;> walk_at "sim")
  | with_reducible exact tgs_nil
  | with_reducible exact sim_bgetE
  | ((with_reducible apply sim_tupRev) <;> walk_at "sim")
  | with_reducible exact sim_bget
  | ((with_reducible apply ss_bput) <;> walk_at "sim")
  | ((with_reducible apply ss_baug) <;> walk_at "sim")
  | ((with_reducible apply sim_nnotin) <;> walk_at "sim")
  | ((with_reducible apply sim_nget) <;> walk_at "sim")
  | ((with_reducible apply ss_nput) <;> walk_at "sim")
  | ((with_reducible apply ss_faugMT (by assumption) (by assumption)) <;> walk_at "sim")
  | ((with_reducible apply sim_fldMT (by assumption) (by assumption)) <;> walk_at "sim")
  | ((with_reducible apply sim_mtM) <;> walk_at "sim")
  | ((with_reducible apply sim_mtM0) <;> walk_at "sim")
  | with_reducible exact sim_newBk
  | with_reducible exact so_ixB
  | with_reducible exact so_ixM
  | with_reducible exact so_raddR
  | with_reducible exact so_rsubR
  | with_reducible exact sc_lenM
  | with_reducible exact sc_sortX
  | with_reducible exact sc_lenB
  | with_reducible exact so_radd
  | with_reducible exact so_rsub
  | ((with_reducible apply sim_dgetT) <;> walk_at "sim")
  | ((with_reducible apply sim_dinT) <;> walk_at "sim")
  | ((with_reducible apply sim_dnotInT) <;> walk_at "sim")
  | ((with_reducible apply sim_mt0) <;> walk_at "sim")
  | ((with_reducible apply sim_dcE) <;> walk_at "sim")
  | ((with_reducible apply si_enumT) <;> walk_at "sim")
  | with_reducible exact sc_sortI
  | with_reducible exact sim_var
  | with_reducible exact sim_varG
  | with_reducible exact sim_nil
  | with_reducible exact sim_nilB
  | ((with_reducible apply sim_cons) <;> walk_at "sim")
  | ((with_reducible apply sim_consB) <;> walk_at "sim")
  | ((with_reducible apply sim_c); walk_at "sc")
  | ((with_reducible apply sim_op) <;> walk_at "sim")
  | ((with_reducible apply sim_un) <;> walk_at "sim")
  | ((with_reducible apply sim_isG); (with_reducible assumption); walk_at "sim")
  | ((with_reducible apply sim_cb) <;> walk_at "sim")
  | ((with_reducible apply sim_tup) <;> walk_at "sim")
  | ((with_reducible apply sim_lst) <;> walk_at "sim")
  | ((with_reducible apply sim_lstF) <;> walk_at "sim")
  | ((with_reducible apply sim_call) <;> walk_at "sim")
  | ((with_reducible apply sim_callN) <;> walk_at "sim")
  | ((with_reducible apply sim_sl) <;> walk_at "sim")
  | with_reducible exact sp_no
  | ((with_reducible apply sp_part) <;> walk_at "sim")
  | ((with_reducible apply sim_test) <;> walk_at "sim")
  | ((with_reducible apply sim_tB) <;> walk_at "sim")
  | ((with_reducible apply sim_and) <;> walk_at "sim")
  | ((with_reducible apply sim_or) <;> walk_at "sim")
  | ((with_reducible apply sim_not) <;> walk_at "sim")
  | with_reducible exact sim_yes
  | ((with_reducible apply sim_andV) <;> walk_at "sim")
  | ((with_reducible apply sim_orV) <;> walk_at "sim")
  | ((with_reducible apply sim_notV) <;> walk_at "sim")
  | ((with_reducible apply sim_if) <;> walk_at "sim")
  | ((with_reducible apply sim_chain) <;> walk_at "sim")
  | ((with_reducible apply sim_lcF) <;> walk_at "sim")
  | ((with_reducible apply sim_lcE) <;> walk_at "sim")
  | ((with_reducible apply sim_lstRgF) <;> walk_at "sim")
  | ((with_reducible apply sim_lstRg) <;> walk_at "sim")
  | ((with_reducible apply sim_tupRg) <;> walk_at "sim")
  | ((with_reducible apply sim_rg1) <;> walk_at "sim")
  | ((with_reducible apply sim_rg2) <;> walk_at "sim")
  | ((with_reducible apply sim_listF) <;> walk_at "sim")
  | ((with_reducible apply sim_addF) <;> walk_at "sim")
  | ((with_reducible apply sim_join) <;> walk_at "sim")
  | ((with_reducible apply sim_lenSetS) <;> walk_at "sim")
  | ((with_reducible apply sim_fldT); (with_reducible assumption); (with_reducible assumption); walk_at "sim")
  | ((with_reducible apply sim_mk) <;> walk_at "sim")
  | ((with_reducible apply sim_mkN) <;> walk_at "sim")
  | ((with_reducible apply sim_xf); (with_reducible assumption))
  | with_reducible exact so_eqO
  | ((with_reducible apply si_x) <;> walk_at "sim")
  | ((with_reducible apply si_tup) <;> walk_at "sim")
  | ((with_reducible apply si_list) <;> walk_at "sim")
  | ((with_reducible apply si_str) <;> walk_at "sim")
  | ((with_reducible apply si_rng1) <;> walk_at "sim")
  | ((with_reducible apply si_rng2) <;> walk_at "sim")
  | ((with_reducible apply si_enum) <;> walk_at "sim")
  | ((with_reducible apply si_zip) <;> walk_at "sim")
  | with_reducible exact so_addX
  | with_reducible exact so_mulX
  | with_reducible exact so_divX
  | with_reducible exact so_eqX
  | with_reducible exact so_neX
  | with_reducible exact so_inX
  | with_reducible exact so_notInX
  | with_reducible exact so_ltX
  | with_reducible exact so_gtX
  | with_reducible exact so_geX
  | with_reducible exact so_leX
  | ((with_reducible apply so_i0s); (intros; exact True.intro))
  | ((with_reducible apply so_iCs); (intros; exact True.intro))
  | ((with_reducible apply su_is); (intros; exact True.intro))
  | with_reducible exact so_eq
  | with_reducible exact so_ne
  | with_reducible exact so_isN
  | with_reducible exact so_notN
  | with_reducible exact so_isB
  | with_reducible exact so_notB
  | with_reducible exact so_ixL
  | with_reducible exact so_ixT
  | with_reducible exact so_ixS
  | with_reducible exact so_ix
  | with_reducible exact so_in
  | with_reducible exact so_str
  | with_reducible exact so_inS
  | with_reducible exact so_notInS
  | with_reducible exact so_catT
  | with_reducible exact so_catL
  | with_reducible exact so_addS
  | with_reducible exact so_mulS
  | with_reducible exact so_repT
  | with_reducible exact so_eqD
  | with_reducible exact so_neD
  | with_reducible exact so_inD
  | with_reducible exact so_notInD
  | with_reducible exact so_leT
  | with_reducible exact sc_len
  | with_reducible exact sc_int
  | with_reducible exact sc_abs
  | with_reducible exact sc_str
  | with_reducible exact sc_mm
  | with_reducible exact sc_list
  | with_reducible exact sc_tuple
  | with_reducible exact sc_sum
  | with_reducible exact sc_all
  | with_reducible exact sc_any
  | with_reducible exact sc_isi
  | with_reducible exact sc_isiT
  | with_reducible exact sc_repr
  | with_reducible exact sl_x
  | with_reducible exact sl_t
  | with_reducible exact sl_l
  | with_reducible exact sl_s
  | ((with_reducible apply SimE.g); walk_at "sim")
  | (intros; decide)
  | skip)

/-- some of the hops, ascending -/
def isLot (hops : Nat) (d : D) : Prop := ∃ ps : List Int, d = .tup (ps.map D.int) ∧ ps.Pairwise (fun a b => a < b) ∧ ∀ p ∈ ps, 0 ≤ p ∧ p < (hops : Int)
/-- a mix: senders, orders, stolen hops -/
structure Mix (many : Nat) (os : List D) (st : D) : Prop where
  m1 : 1 ≤ many
  m2 : many ≤ 6
  h1 : 1 ≤ os.length
  h2 : os.length ≤ 4
  o : ∀ o ∈ os, isPerm many o
  s : isLot os.length st
structure Er (P : Program) (K : PySem.W.Frag) (mg : Str → Option Value) (x : Str) (C : Addr) : Prop where
  bad : Ex.BadC P K C "part"
  mgx : mg x = some (.ref C)
  sup : mg "super" = none
  r1 : PySem.W.subIn K (.ref C) (.type "BaseException") = some true
  r2 : PySem.W.typeIn K (.ref C) = some (.type "type")
theorem Er.raises {P : Program} {K : PySem.W.Frag} {mg : Str → Option Value} {x : Str} {C : Addr} (e : Er P K mg x C) {X : Cx} (h : X.K = K) : Raises X (.ref C) := raises_own (h ▸ e.r1) (h ▸ e.r2)
variable {S : Type}
def wfAreO : WF S := fun ds s k _ => match ds with
  | [.tup os, .int m] => ∃ many : Nat, m = many ∧ many ≤ 6 ∧ 1 ≤ os.length ∧ os.length ≤ 4 ∧ (∀ o ∈ os, isPerm many o) ∧ k (.bl true) s
  | _ => False
def wfIsLot : WF S := fun ds s k _ => match ds with
  | [d, .int m] => ∃ many : Nat, m = many ∧ many ≤ 6 ∧ isLot many d ∧ k (.bl true) s
  | _ => False
def wfCkS : WF S := fun ds s k _ => match ds with
  | [.int m, .tup os] => ∃ many : Nat, m = many ∧ 1 ≤ many ∧ many ≤ 6 ∧ 1 ≤ os.length ∧ os.length ≤ 4 ∧ (∀ o ∈ os, isPerm many o) ∧ k .non s
  | _ => False
def wfCkM : WF S := fun ds s k _ => match ds with
  | [.int m, .tup os, st] => ∃ many : Nat, m = many ∧ Mix many os st ∧ k .non s
  | _ => False
abbrev s_are_orders : Stmt := top 27
abbrev N_are_orders : List Str := ["thing", "many", "order"]
theorem sc_are_orders : FnScope N_are_orders ["thing", "many"] (defScope s_are_orders) := ⟨rfl, rfl, rfl, by decide +kernel, rfl, by decide +kernel, by decide +kernel⟩
abbrev s_is_lot_of : Stmt := top 28
abbrev N_is_lot_of : List Str := ["thing", "many", "one", "other"]
theorem sc_is_lot_of : FnScope N_is_lot_of ["thing", "many"] (defScope s_is_lot_of) := ⟨rfl, rfl, rfl, by decide +kernel, rfl, by decide +kernel, by decide +kernel⟩
abbrev s_check_senders : Stmt := top 29
abbrev N_check_senders : List Str := ["many", "orders"]
theorem sc_check_senders : FnScope N_check_senders ["many", "orders"] (defScope s_check_senders) := ⟨rfl, rfl, rfl, by decide +kernel, rfl, by decide +kernel, by decide +kernel⟩
abbrev s_check_mix : Stmt := top 30
abbrev N_check_mix : List Str := ["many", "orders", "stolen"]
theorem sc_check_mix : FnScope N_check_mix ["many", "orders", "stolen"] (defScope s_check_mix) := ⟨rfl, rfl, rfl, by decide +kernel, rfl, by decide +kernel, by decide +kernel⟩
section
variable {W : Wd S} {P : Program} {w : World} {K : PySem.W.Frag} {mg : Str → Option Value} {base : Heap}
theorem pair_lt : ∀ {ps : List Int}, ps.Pairwise (fun a b => a < b) → ∀ x ∈ pairD (ps.map D.int) (cutD (ps.map D.int) (some 1) none), ∃ a b : Int, x = .tup [.int a, .int b] ∧ a < b
  | [], _, x, h => by simp [Dw.pairD] at h
  | p :: r, hp, x, h => by
    rw [List.map_cons, cut1] at h
    match r, hp, h with
    | [], _, h => simp [Dw.pairD] at h
    | q :: r', hp, h =>
      simp only [List.map_cons, Dw.pairD, List.mem_cons] at h
      rcases h with rfl | h
      · exact ⟨p, q, rfl, (List.pairwise_cons.mp hp).1 q (by simp)⟩
      · refine pair_lt (List.pairwise_cons.mp hp).2 x ?_
        rw [List.map_cons, cut1]
        exact h
theorem asc_len : ∀ {ps : List Int} {lo hi : Int}, lo ≤ hi → ps.Pairwise (fun a b => a < b) → (∀ p ∈ ps, lo ≤ p ∧ p < hi) → (ps.length : Int) ≤ hi - lo
  | [], lo, hi, h0, _, _ => by simp; omega
  | p :: r, lo, hi, h0, pw, h => by
    have h1 := h p (by simp)
    have h2 := asc_len (ps := r) (lo := p + 1) (hi := hi) (by omega) (List.pairwise_cons.mp pw).2 fun q hq => ⟨by have := (List.pairwise_cons.mp pw).1 q hq; omega, (h q (by simp [hq])).2⟩
    rw [List.length_cons]
    omega
theorem ok_are_orders (T : Tx P w K mg) (f_is_order : Df P w K mg base 3 "is_order" (spX W wfIsOrd)) {f : Addr} {fd : FuncData} (F : FD K "are_orders" s_are_orders f fd) : Fn P w K mg base 4 f fd ["thing", "many"] (spX W wfAreO) := by
  refine fn_data F sc_are_orders (fun ds s k x h => ?_) fun cv A outer s H G hr gd => ⟨_, (pss_cons (ps_if (PW.pt (pw_or (pt_not (pt_val (pe_callB (kIsi (K := K)) (by rfl) T.isinstance (by decide +kernel) (pa_cons (pv 0) (pa_cons (pe_bltn (v := .ty "tuple") (by rfl) T.tuple (by decide +kernel) rfl) pa_nil))))) (pw_or1 (pt_not (pt_chain (kLe (K := K) hr) (kLe (K := K) hr) pe_int (pe_callB (kLen (K := K)) (by rfl) T.len (by decide +kernel) (pa_cons (pv 0) pa_nil)) (C8.pe_gc rfl T.m_MOST_HOPS)))))) (pss_one (ps_ret pe_bl)) pss_nil)
    (pss_one (ps_ret (pe_callB (kAll (K := K) rfl) (by rfl) T.all (by decide +kernel) (pa_cons (pe_lc (own := [("order", 2)]) (g := gName 2) (by rfl) sc_are_orders.nd (kpi (K := K) (pv 0)) (blkOk_by (own := [("order", 2)]) (N := N_are_orders) (sc := defScope s_are_orders) (by decide +kernel)) (fun _ _ _ _ _ => pg_name (i := 2) sc_are_orders.nd rfl (Or.inl rfl)) (fun _ _ _ _ _ => pts_nil) (fun _ _ _ _ _ => (pe_df f_is_order hr (by omega) gd rfl (fun σ => Gl.no_pass σ) (pa_cons (pv 2) (pa_cons (pv 1) pa_nil))))) pa_nil))))), ?_⟩
  · match ds, h with
    | [.tup _, .int _], _ => rfl
  · apply bodyW
    · walk_at "sim"
    intro ds s k x ok h
    match ds, h with
    | [.tup os, .int m], h =>
      obtain ⟨many, e, m6, o1, o4, ho, hk⟩ := h
      subst e
      simp
      refine ⟨by decide, ite_t (by omega) (ite_f (by omega) ⟨by rw [sizeLine_eq]; omega, ?_⟩)⟩
      refine wLc_map (fun _ => .bl true) (fun e he kt hkt => ?_) ⟨os.map fun _ => true, bls_map (fun _ => true) _, ?_⟩
      · simp
        exact ⟨many, rfl, m6, ho e he, hkt⟩
      · rw [show (os.map fun _ => true).all id = true by simp]
        exact hk
theorem ok_is_lot_of (T : Tx P w K mg) (f_is_within : Df P w K mg base 2 "is_within" (spX W wfIn)) {f : Addr} {fd : FuncData} (F : FD K "is_lot_of" s_is_lot_of f fd) : Fn P w K mg base 3 f fd ["thing", "many"] (spX W wfIsLot) := by
  refine fn_data F sc_is_lot_of (fun ds s k x h => ?_) fun cv A outer s H G hr gd => ⟨_, (pss_cons (ps_if (PW.pt (pw_or (pt_not (pt_val (pe_callB (kIsi (K := K)) (by rfl) T.isinstance (by decide +kernel) (pa_cons (pv 0) (pa_cons (pe_bltn (v := .ty "tuple") (by rfl) T.tuple (by decide +kernel) rfl) pa_nil))))) (pw_or1 (pt_not (pt_val (pe_callB (kAll (K := K) rfl) (by rfl) T.all (by decide +kernel) (pa_cons (pe_lc (own := [("one", 2)]) (g := gName 2) (by rfl) sc_is_lot_of.nd (kpi (K := K) (pv 0)) (blkOk_by (own := [("one", 2)]) (N := N_is_lot_of) (sc := defScope s_is_lot_of) (by decide +kernel)) (fun _ _ _ _ _ => pg_name (i := 2) sc_is_lot_of.nd rfl (Or.inl rfl)) (fun _ _ _ _ _ => pts_nil) (fun _ _ _ _ _ => (pe_df f_is_within hr (by omega) gd rfl (fun σ => Gl.no_pass σ) (pa_cons (pv 2) (pa_cons pe_int (pa_cons (pe_op op_sub (pv 1) pe_int) pa_nil)))))) pa_nil))))))) (pss_one (ps_ret pe_bl)) pss_nil)
    (pss_one (ps_ret (pe_callB (kAll (K := K) rfl) (by rfl) T.all (by decide +kernel) (pa_cons (pe_lc (own := [("one", 2), ("other", 3)]) (g := gTup K 2 (gCons (gName 2) (gCons (gName 3) gNil))) (by rfl) sc_is_lot_of.nd (RZ.pi_zipA rfl T.zip (pa_cons (pv 0) (pa_cons (pe_slice (kSl (K := K)) (pv 0) (po_some pe_int) po_none) pa_nil))) (blkOk_by (own := [("one", 2), ("other", 3)]) (N := N_is_lot_of) (sc := defScope s_is_lot_of) (by decide +kernel)) (fun _ _ _ _ _ => kTup (K := K) (n := 2) rfl (pgs_cons (pg_name (i := 2) sc_is_lot_of.nd rfl (Or.inl rfl)) (pgs_cons (pg_name (i := 3) sc_is_lot_of.nd rfl (Or.inl rfl)) pgs_nil))) (fun _ _ _ _ _ => pts_nil) (fun _ _ _ _ _ => (pe_cmpR op_ltX (pv 2) (pv 3) (nomark _)))) pa_nil))))), ?_⟩
  · match ds, h with
    | [_, .int _], _ => rfl
  · apply bodyW
    · walk_at "sim"
    intro ds s k x ok h
    match ds, h with
    | [d, .int m], h =>
      obtain ⟨many, e, m6, ⟨ps, rfl, pw, hp⟩, hk⟩ := h
      subst e
      simp
      have l1 : ps.length ≤ 6 := by
        have := asc_len (lo := 0) (hi := (many : Int)) (by omega) pw hp
        omega
      refine ⟨by decide, by rw [sizeLine_eq]; omega, ?_⟩
      refine wLc_map (fun _ => .bl true) (fun e he kt hkt => ?_) ⟨(ps.map D.int).map fun _ => true, bls_map (fun _ => true) _, ite_f (by simp) ⟨?_, ?_⟩⟩
      · obtain ⟨q, hq, rfl⟩ := List.mem_map.mp he
        have q1 := hp q hq
        have e1 : isIn 0 ((many : Int) - 1) (.int q) = true := by simp only [isIn, Bool.and_eq_true, decide_eq_true_eq]; omega
        simp only [wCallN, wCons, wNil, wVar, wC, vD, wOp, wI0, wVarG, wfIn]
        simp [wfIn]
        rw [e1]
        exact hkt
      · rw [pairD_len, List.length_map, sizeLine_eq]
        omega
      · refine wLc_map (fun _ => .bl true) (fun e he kt hkt => ?_) ⟨_, bls_map (fun _ => true) _, ?_⟩
        · obtain ⟨a, b, rfl, ab⟩ := pair_lt pw e he
          simp
          rw [decide_eq_true ab]
          exact hkt
        · have e2 : ∀ l : List D, (l.map fun _ => true).all id = true := fun l => by simp
          rw [e2]
          exact hk
theorem ok_check_senders (T : Tx P w K mg) {CN : Addr} (cBadMix : Er P K mg "BadMix" CN) (f_is_within : Df P w K mg base 2 "is_within" (spX W wfIn)) (f_are_orders : Df P w K mg base 4 "are_orders" (spX W wfAreO)) {f : Addr} {fd : FuncData} (F : FD K "check_senders" s_check_senders f fd) : Fn P w K mg base 5 f fd ["many", "orders"] (spX W wfCkS) := by
  refine fn_data F sc_check_senders (fun ds s k x h => ?_) fun cv A outer s H G hr gd => ⟨_, (pss_cons (ps_if (pt_not (pt_val (pe_df f_is_within hr (by omega) gd rfl (fun σ => Gl.no_pass σ) (pa_cons (pv 0) (pa_cons pe_int (pa_cons (C8.pe_gc rfl T.m_MOST_SENDERS) pa_nil)))))) (pss_one (ps_raise rfl (takes_of rfl rfl rfl rfl) (pmk_mkE cBadMix.bad (cBadMix.raises rfl) cBadMix.mgx cBadMix.sup hr (by omega) pe_str rfl))) pss_nil)
    (pss_one (ps_if (pt_not (pt_val (pe_df f_are_orders hr (by omega) gd rfl (fun σ => Gl.no_pass σ) (pa_cons (pv 1) (pa_cons (pv 0) pa_nil))))) (pss_one (ps_raise rfl (takes_of rfl rfl rfl rfl) (pmk_mkE cBadMix.bad (cBadMix.raises rfl) cBadMix.mgx cBadMix.sup hr (by omega) pe_str rfl))) pss_nil))), ?_⟩
  · match ds, h with
    | [.int _, .tup _], _ => rfl
  · apply bodyW
    · walk_at "sim"
    intro ds s k x ok h
    match ds, h with
    | [.int m, .tup os], h =>
      obtain ⟨many, e, m1, m6, o1, o4, ho, hk⟩ := h
      subst e
      simp
      have e1 : isIn 1 6 (.int (many : Int)) = true := by simp only [isIn, Bool.and_eq_true, decide_eq_true_eq]; omega
      simp [wfIn]
      rw [e1]
      refine ⟨many, rfl, m6, o1, o4, ho, hk⟩
theorem ok_check_mix (T : Tx P w K mg) {CN : Addr} (cBadMix : Er P K mg "BadMix" CN) (f_check_senders : Df P w K mg base 5 "check_senders" (spX W wfCkS)) (f_is_lot_of : Df P w K mg base 3 "is_lot_of" (spX W wfIsLot)) {f : Addr} {fd : FuncData} (F : FD K "check_mix" s_check_mix f fd) : Fn P w K mg base 6 f fd ["many", "orders", "stolen"] (spX W wfCkM) := by
  refine fn_data F sc_check_mix (fun ds s k x h => ?_) fun cv A outer s H G hr gd => ⟨_, (pss_cons (ps_expr (pe_df f_check_senders hr (by omega) gd rfl (fun σ => Gl.no_pass σ) (pa_cons (pv 0) (pa_cons (pv 1) pa_nil))))
    (pss_one (ps_if (pt_not (pt_val (pe_df f_is_lot_of hr (by omega) gd rfl (fun σ => Gl.no_pass σ) (pa_cons (pv 2) (pa_cons (pe_callB (kLen (K := K)) (by rfl) T.len (by decide +kernel) (pa_cons (pv 1) pa_nil)) pa_nil))))) (pss_one (ps_raise rfl (takes_of rfl rfl rfl rfl) (pmk_mkE cBadMix.bad (cBadMix.raises rfl) cBadMix.mgx cBadMix.sup hr (by omega) pe_str rfl))) pss_nil))), ?_⟩
  · match ds, h with
    | [.int _, .tup _, _], _ => rfl
  · apply bodyW
    · walk_at "sim"
    intro ds s k x ok h
    match ds, h with
    | [.int m, .tup os, st], h =>
      obtain ⟨many, e, M, hk⟩ := h
      subst e
      obtain ⟨m1, m2, h1, h2, o, sl⟩ := M
      simp
      exact ⟨many, rfl, m1, m2, h1, h2, o, os.length, rfl, by omega, sl, hk⟩
end
end Law
set_option Elab.async false
set_option linter.all false
set_option maxRecDepth 100000
set_option maxHeartbeats 4000000
/-! Rk: dicts of the registry (keys: ints, texts, or tuples of them): made, read, written, updated, sorted; dict(pairs); comprehensions by what is done. -/
namespace L2
open PySem PySem.Spec PyProof.Rows PySem.W
def tDUpd (td ty : TE) : TE := fun σ H Q => td σ H fun x H1 => ∃ a, x = .ref a ∧ IsD H1 a ∧ ty σ H1 fun y H2 => ∃ b kvs more, y = .ref b ∧ a ≠ b ∧ H2 a = some (.dK kvs) ∧ Rd H2 b (.dK more) ∧ kvs.length + more.length ≤ sizeLine ∧ Q .non (upd H2 a (.dK (mergeK kvs more)))
section
variable {X : Cx}
theorem d_upd {pins : List (Addr × Obj)} {σ : St} {H : Hp} {s : Shared} {a b : Addr} {kvs more : List (Key × V)} {A : Around} {E : Value → Shared → Prop} {Q : Value → Shared → Prop} (I : Inv X pins σ H s) (e : H a = some (.dK kvs)) (e2 : Rd H b (.dK more)) (ne : a ≠ b) (hz : kvs.length + more.length ≤ sizeLine)
    (h : ∀ s', Inv X pins σ (upd H a (.dK (mergeK kvs more))) s' → Q .none s') : wpAny (model X.prog X.w) A (call (.builtin "dict.update") [.ref a, .ref b]) Q E s := by
  obtain ⟨z, hd, vs, rel, dd⟩ := dk_of I.hok e
  obtain ⟨z2, hd2, vs2, rel2, dd2⟩ := dk_rd I.hok e2
  refine call_meetsIn PySem.F.slot_dict_update dd.typeIs PySem.F.entry_dict_update (PySem.F.args_dict_update_2 _ _) (meets_dict_update (mixKind X.prog X.w) a b ne hd2) ⟨vs, vs2, dd, dd2, by rw [← rel.length, ← rel2.length]; exact hz, fun h' dd' _ hs => h _ ?_⟩
  have he : ∃ q, h'.get? a = some q := let ⟨q, _, _, hq, _⟩ := dd'; ⟨q, hq⟩
  exact d_write I (by rw [e]; exact True.intro) hs he (dk_new (Nat.le_trans (length_mergeK more kvs) hz) hd (rel2.merge rel) dd')
variable {o e : Expr} {apos cpos : Pos} {td ty : TE}
theorem pe_dupd (ho : PE X o td) (he : PE X e ty) (m : M1 X o "update" apos e cpos) : PE X (.Call (.Attribute o "update" apos) [e] [] cpos) (tDUpd td ty) := by
  refine ⟨fun pins s σ H Q I h => ?_⟩
  refine wpAny_Call_method m.base m.few m.line PySem.F.plainAttrs_dict PySem.F.slot_dict_update PySem.F.type_dict_update (thn (ho.run pins s σ H _ I h) fun u s1 ⟨x, H1, I1, rx, a, ex, d, q1⟩ => ?_)
  subst ex
  obtain rfl : u = Value.ref a := rx
  obtain ⟨t1, t2, _⟩ := isD_at I1 d
  refine ⟨t1, t2, ?_⟩
  rw [m.trees]
  refine Calls.callWith_builtin rfl (Calls.evalArgs_plain (Calls.spliced_cons (thn (he.run pins s1 σ H1 _ I1 q1) fun iv s2 ⟨y, H2, I2, ry, b, kvs, more, eb, ne, ea, em, hz, q2⟩ => Calls.spliced_nil ?_)))
  subst eb
  obtain rfl : iv = Value.ref b := ry
  exact d_upd I2 ea em ne hz fun s3 I3 => ⟨.non, _, I3, rfl, q2⟩
def rSortedDKI : List V → Hp → VK → Prop := fun xs H Q => ∃ (a : Addr) (kvs : List (Key × V)) (ks : List Int), xs = [.ref a] ∧ Rd H a (.dK kvs) ∧ kvs.map (·.1) = ks.map Sum.inl ∧
    ∀ (ys : List Int) (p : Addr), ys.Perm ks → ys.Pairwise (· ≤ ·) → H p = none → Q (.ref p) (upd H p (.lst (ys.map V.int)))
theorem cr_sortedDKI (hcalm : X.calm = true) : CallR X (.builtin "sorted") rSortedDKI := by
  intro pins s σ H xs us Q I r q
  obtain ⟨a, kvs, ks, ex, hd, hks, q⟩ := q
  subst ex
  obtain ⟨u, eu, rx⟩ := vals1 r
  subst eu
  cases rx
  obtain ⟨z, lo, vs, rel, dd⟩ := dk_rd I.hok hd
  obtain ⟨ep, hat⟩ := dd.dictAt
  have hkeys : vs.map (·.1) = ks.map Sum.inl := rel.keys.symm.trans hks
  have hl : vs.length = ks.length := by
    have e := congrArg List.length hkeys
    rw [List.length_map, List.length_map] at e
    exact e
  have h16 : vs.length ≤ sizeLine := by rw [← rel.length]; exact z
  refine Calls.call_function_entry PyProof.Rows.kind_sorted PyProof.Rows.plain_sorted PyProof.Rows.entry_sorted (PyProof.Rows.args_sorted1 _) ?_
  unfold Builtin.«sorted»
  refine wpAny_bind (m := checkCount "sorted" 1 1 _) (wpAny_pure ?_)
  refine wpAny_bind (PySem.W.kdu_collect (A := X.A.in1) (PySem.W.kdl_dict (knd := mixKind X.prog X.w) (kvs := vs) (ep := ep) lo) (I.ok.hd hcalm) hat h16 fun h' tk acc hk hacc => ?_)
  have hal : acc.toList.length = ks.length := by rw [Array.length_toList, hacc.1, hl]
  have hS : IntsAre acc.toList ks := ints_each hal fun j v e => by
    obtain ⟨k, x, e1, e2⟩ := hacc.2 j v (by rw [← Array.getElem?_toList]; exact e)
    have e3 : (vs.map (·.1))[j]? = some k := by rw [List.getElem?_map, e1]; rfl
    rw [hkeys, List.getElem?_map] at e3
    cases e4 : ks[j]? with
    | none => rw [e4] at e3; cases e3
    | some y =>
      rw [e4] at e3
      have e5 : Sum.inl y = k := Option.some.inj e3
      subst e5
      rcases keyIs_shape (show keyIs (Sum.inl y) v = true from e2) with ⟨i, t, ek, ev⟩ | ⟨z, t, ek, ev⟩
      · cases ek
        exact ⟨y, t, rfl, ev⟩
      · cases ek
  have I1 : Inv X pins σ H { s with heap := h', toks := tk } := I.kept hk
  have hz : acc.toList.length ≤ sizeLine := by rw [hal, ← hl]; exact h16
  refine wpAny_bind (wpAny_newList ?_ hz)
  have hoL : (h'.push (seqObj "list" acc.toList.toArray 0)).get? h'.objs.size = some (seqObj "list" acc.toList.toArray 0) := Heap.get?_push_size _ rfl
  show wpAny _ _ _ _ _ { s with heap := h'.push (seqObj "list" acc.toList.toArray 0), toks := tk }
  refine wpAny_bind (wpAny_holding (wpAny_call_entry PyProof.Rows.slot_list_sort ⟨_, hoL, rfl⟩ PyProof.Rows.entry_list_sort
    (SrtO.list_sort_ord (s := { s with heap := h'.push (seqObj "list" acc.toList.toArray 0), toks := tk }) SrtO.swo_int hoL hz (fun h2 => SrtO.ints_sortable hS h2) fun out h1 h2 => ⟨_, rfl, ?_⟩) (PyProof.Rows.args_list_sort _)))
  obtain ⟨k1, k2, k3⟩ := SrtO.ints_out hS h1 h2
  obtain ⟨e', he'⟩ := PyProof.Rows.sortedHeap_at (vs := acc.toList) (out := out.toArray) hoL
  have hlen : ((out.map SrtO.iv).map V.int).length ≤ sizeLine := by
    rw [List.length_map, k2.length_eq, ← hal]
    exact hz
  refine wpAny_pure ⟨_, rfl, .ref h'.objs.size, upd H h'.objs.size (.lst ((out.map SrtO.iv).map V.int)), I1.laid (t' := tk) (fun b u e => ?_) (Nat.le_refl _)
    (show ObjOk X.prog X.w _ _ _ (.lst ((out.map SrtO.iv).map V.int)) from ⟨hlen, out, e', vals_of_ints k1, he'⟩), rfl, q _ _ k2 k3 (I1.hok.fresh (Nat.le_refl _))⟩
  have hb : b < h'.objs.size := Heap.lt_size e
  rw [PyProof.Rows.sortedHeap_old (Nat.ne_of_lt hb) (by rw [size_push']; exact Nat.lt_succ_of_lt hb)]
  exact Heap.get?_push_of_some _ e
/-- as kSortedX, and of a dict of ints -/
def rSortedY (K : PySem.W.Frag) : List V → Hp → VK → Prop := fun vs H Q => rSortedX K vs H Q ∨ rSortedDKI vs H Q
theorem cr_sortedY (hc : X.calm = true) : CallR X (.builtin "sorted") (rSortedY X.K) := by
  intro pins s σ H vs us Q I r h
  rcases h with h | h
  · exact cr_sortedX hc pins s σ H vs us Q I r h
  · exact cr_sortedDKI hc pins s σ H vs us Q I r h
theorem kSortedY {K : PySem.W.Frag} (hc : X.calm = true) (e : X.K = K := by rfl) : CallR X (.builtin "sorted") (rSortedY K) := e ▸ cr_sortedY hc
/-- len of anything -/
def rLenY (K : PySem.W.Frag) : List V → Hp → VK → Prop := fun vs H Q => Rd.rLen K vs H Q ∨ ∃ a kvs, vs = [V.ref a] ∧ H a = some (.dK kvs) ∧ Q (.int kvs.length) H
theorem kLenY {K : PySem.W.Frag} (e : X.K = K := by rfl) : CallR X (.builtin "len") (rLenY K) := by
  subst e
  intro pins s σ H vs us Q I r h
  rcases h with h | h
  · exact Rd.cr_len pins s σ H vs us Q I r h
  · exact call_lenD pins s σ H vs us Q I r h
/-- dict(pairs) -/
def rDictP (K : PySem.W.Frag) : List V → Hp → VK → Prop := fun xs H Q => ∃ (a : Addr) (ps : List Addr) (kvs : List (Key × V)), xs = [.ref a] ∧ SqL K H a (ps.map V.ref) ∧ Paired (fun p kv => SqT K H p [kV kv.1, kv.2]) ps kvs ∧
    ∀ p, H p = none → Q (.ref p) (upd H p (.dK (mergeK [] kvs)))
theorem kDictP {K : PySem.W.Frag} (hc : X.calm = true) (e : X.K = K := by rfl) : CallR X (.type "dict") (rDictP K) := by
  subst e
  exact call_dictP hc
end
end L2
namespace Dw
open PySem PySem.Spec PyProof.Rows L2
theorem wLc_fold {S : Type} {g : WG} {te : WE S} {vs : List Nat} {env : List Sl} {x : Xc → S → Prop} {ds0 : List D} (I : List D → List D → S → Prop)
    (h : ∀ done d rest ys s, ds0 = done ++ d :: rest → I done ys s → ∀ kt : D → S → Prop, (∀ y s', I (done ++ [d]) (ys ++ [y]) s' → kt y s') → g d (wp env vs) fun e1 => te e1 s kt x)
    {s : S} {k : List D → S → Prop} (i : I [] [] s) (hk : ∀ ys s', I ds0 ys s' → k ys s') : wLc g (fun _ s k _ => k true s) te vs ds0 env s k x := by
  have go : ∀ (rest done ys : List D) (s : S) (k : List D → S → Prop), ds0 = done ++ rest → I done ys s → (∀ zs s', I ds0 (ys ++ zs) s' → k zs s') → wLc g (fun _ s k _ => k true s) te vs rest env s k x := by
    intro rest
    induction rest with
    | nil =>
      intro done ys s k e i hk
      rw [List.append_nil] at e
      subst e
      exact hk [] s (by rw [List.append_nil]; exact i)
    | cons d r ih =>
      intro done ys s k e i hk
      unfold wLc
      rw [show (fun e1 => (fun b s1 => if b = true then te e1 s1 (fun y s2 => wLc g (fun _ s k _ => k true s) te vs r env s2 (fun ys s3 => k (y :: ys) s3) x) x else wLc g (fun _ s k _ => k true s) te vs r env s1 k x) true s) = fun e1 => te e1 s (fun y s2 => wLc g (fun _ s k _ => k true s) te vs r env s2 (fun ys s3 => k (y :: ys) s3) x) x from by funext e1; simp]
      refine h done d r ys s e i _ fun y s' i' => ?_
      exact ih (done ++ [d]) (ys ++ [y]) s' _ (by rw [e]; simp) i' fun zs s2 i2 => hk (y :: zs) s2 (by rw [List.append_assoc] at i2; exact i2)
  exact go ds0 [] [] s k rfl i fun zs s' i' => hk zs s' i'
/-! keys and dicts of keys -/
def D.ky : D → Option Key
  | .int i => some (.inl i)
  | .str x => some (.inr x)
  | _ => none
theorem Da.ky {B : Addr → Prop} {H : Hp} {v : V} {d : D} {k : Key} (a : Da B H v d) (h : d.ky = some k) : v = kV k := by
  cases a <;> simp [D.ky] at h <;> subst h <;> rfl
def valK (kvs : List (Key × D)) (k : Key) : Option D := (kvs.find? fun kv => decide (kv.1 = k)).map (·.2)
def putKD (kvs : List (Key × D)) (k : Key) (v : D) : List (Key × D) :=
  if (kvs.any fun kv => decide (kv.1 = k)) = true then kvs.map (fun kv => if kv.1 = k then (kv.1, v) else kv) else kvs ++ [(k, v)]
def mrgD (kvs more : List (Key × D)) : List (Key × D) := more.foldl (fun acc kv => putKD acc kv.1 kv.2) kvs
section
variable {B : Addr → Prop} {H : Hp}
theorem DaK.len : ∀ {vs : List (Key × V)} {ds : List (Key × D)}, DaK B H vs ds → vs.length = ds.length
  | _, _, .nil => rfl
  | _, _, .cons _ t => by rw [List.length_cons, List.length_cons, t.len]
theorem DaK.keys : ∀ {vs : List (Key × V)} {ds : List (Key × D)}, DaK B H vs ds → vs.map (·.1) = ds.map (·.1)
  | _, _, .nil => rfl
  | _, _, .cons _ t => by rw [List.map_cons, List.map_cons, t.keys]
theorem DaK.val {k : Key} : ∀ {vs : List (Key × V)} {ds : List (Key × D)}, DaK B H vs ds → (valV vs k = none ∧ valK ds k = none) ∨ ∃ v d, valV vs k = some v ∧ valK ds k = some d ∧ Da B H v d
  | _, _, .nil => .inl ⟨rfl, rfl⟩
  | _, _, .cons (k := k') (v := v) (d := d) h t => by
    by_cases e : k' = k
    · exact .inr ⟨v, d, valV_pos e, by simp [valK, List.find?_cons, e], h⟩
    · rw [valV_neg e]
      have : ∀ r : List (Key × D), valK ((k', d) :: r) k = valK r k := fun r => by simp [valK, List.find?_cons, e]
      rw [this]
      exact t.val
theorem DaK.any {k : Key} : ∀ {vs : List (Key × V)} {ds : List (Key × D)}, DaK B H vs ds → (vs.any fun kv => decide (kv.1 = k)) = ds.any fun kv => decide (kv.1 = k)
  | _, _, .nil => rfl
  | _, _, .cons h t => by rw [List.any_cons, List.any_cons, t.any]
theorem DaK.snoc {k : Key} {v : V} {d : D} : ∀ {vs : List (Key × V)} {ds : List (Key × D)}, DaK B H vs ds → Da B H v d → DaK B H (vs ++ [(k, v)]) (ds ++ [(k, d)])
  | _, _, .nil, h => .cons h .nil
  | _, _, .cons a t, h => .cons a (t.snoc h)
theorem DaK.repl {k : Key} {v : V} {d : D} : ∀ {vs : List (Key × V)} {ds : List (Key × D)}, DaK B H vs ds → Da B H v d → DaK B H (vs.map fun kv => if kv.1 = k then (kv.1, v) else kv) (ds.map fun kv => if kv.1 = k then (kv.1, d) else kv)
  | _, _, .nil, h => .nil
  | _, _, .cons (k := k') a t, h => by
    rw [List.map_cons, List.map_cons]
    by_cases e : k' = k
    · rw [if_pos e, if_pos e]
      exact .cons h (t.repl h)
    · rw [if_neg e, if_neg e]
      exact .cons a (t.repl h)
theorem DaK.put {vs : List (Key × V)} {ds : List (Key × D)} {k : Key} {v : V} {d : D} (t : DaK B H vs ds) (h : Da B H v d) : DaK B H (putK vs k v) (putKD ds k d) := by
  unfold putK putKD
  rw [t.any]
  split
  · exact t.repl h
  · exact t.snoc h
theorem DaK.mrg : ∀ {more : List (Key × V)} {ms : List (Key × D)} {vs : List (Key × V)} {ds : List (Key × D)}, DaK B H more ms → DaK B H vs ds → DaK B H (mergeK vs more) (mrgD ds ms)
  | _, _, _, _, .nil, h => h
  | _, _, vs, ds, .cons (k := k) (v := v) (vs := r) (d := d) (ds := q) a t, h => (DaK.mrg t (h.put a) : DaK B H (mergeK (putK vs k v) r) (mrgD (putKD ds k d) q))
theorem putKD_len (kvs : List (Key × D)) (k : Key) (v : D) : (putKD kvs k v).length ≤ kvs.length + 1 := by
  unfold putKD
  split <;> simp
end
theorem flts_putK {kvs : List (Key × D)} {k : Key} {v : D} (f : D.flts (kvs.map (·.2)) = true) (h : v.flt = true) : D.flts ((putKD kvs k v).map (·.2)) = true := flts_of fun e he => by
  obtain ⟨p, hp, rfl⟩ := List.mem_map.mp he
  unfold putKD at hp
  split at hp
  · obtain ⟨q, hq, rfl⟩ := List.mem_map.mp hp
    by_cases e : q.1 = k
    · rw [if_pos e]
      exact h
    · rw [if_neg e]
      exact flts_mem f (List.mem_map.mpr ⟨q, hq, rfl⟩)
  · rcases List.mem_append.mp hp with hp | hp
    · exact flts_mem f (List.mem_map.mpr ⟨p, hp, rfl⟩)
    · rw [List.mem_singleton] at hp
      subst hp
      exact h
theorem flts_mrg : ∀ {more kvs : List (Key × D)}, D.flts (kvs.map (·.2)) = true → D.flts (more.map (·.2)) = true → D.flts ((mrgD kvs more).map (·.2)) = true
  | [], _, f, _ => f
  | p :: r, kvs, f, g => by
    simp only [List.map_cons, D.flts, Bool.and_eq_true] at g
    exact flts_mrg (more := r) (flts_putK f g.1) g.2
/-- the dict d of the world s -/
def dcOf (s : Rg) : D → Option (List (Key × D))
  | .opq a => match s a with
    | some (.dic kvs) => some kvs
    | _ => none
  | .dic kvs => some kvs
  | _ => none
@[simp] def wNewD : WE Rg := fun _ s k _ => ∀ a, s a = none → k (.opq a) (rup s a (.dic []))
@[simp] def wGetM (wd wk : WE Rg) : WE Rg := fun env s k x => wd env s (fun d s1 => wk env s1 (fun e s2 => ∃ kvs key v, dcOf s2 d = some kvs ∧ e.ky = some key ∧ valK kvs key = some v ∧ k v s2) x) x
@[simp] def wInM (wk wd : WE Rg) : WE Rg := fun env s k x => wk env s (fun e s1 => wd env s1 (fun d s2 => ∃ kvs key, dcOf s2 d = some kvs ∧ e.ky = some key ∧ k (.bl (valK kvs key).isSome) s2) x) x
@[simp] def wNotInM (wk wd : WE Rg) : WE Rg := fun env s k x => wk env s (fun e s1 => wd env s1 (fun d s2 => ∃ kvs key, dcOf s2 d = some kvs ∧ e.ky = some key ∧ k (.bl (!(valK kvs key).isSome)) s2) x) x
@[simp] def wPutM (wv wd wk : WE Rg) : WS Rg := fun KK env s => wv env s (fun v s0 => wd env s0 (fun d s1 => wk env s1 (fun e s2 => match d with
  | .opq a => ∃ kvs key, s2 a = some (.dic kvs) ∧ e.ky = some key ∧ v.flt = true ∧ kvs.length < sizeLine ∧ KK.nx env (rup s2 a (.dic (putKD kvs key v)))
  | _ => False) KK.xc) KK.xc) KK.xc
@[simp] def wUpdM (wd we : WE Rg) : WS Rg := fun KK env s => wd env s (fun d s1 => match d with
  | .opq a => (∃ kvs, s1 a = some (.dic kvs)) ∧ we env s1 (fun e s2 => match e with
    | .dic more => ∃ kvs, s2 a = some (.dic kvs) ∧ D.flts (more.map (·.2)) = true ∧ kvs.length + more.length ≤ sizeLine ∧ KK.nx env (rup s2 a (.dic (mrgD kvs more)))
    | _ => False) KK.xc
  | _ => False) KK.xc
def prsD : List D → Option (List (Key × D))
  | [] => some []
  | d :: r => match d with
    | .tup [k, v] => match k.ky, prsD r with
      | some k, some ks => some ((k, v) :: ks)
      | _, _ => none
    | _ => none
@[simp] def wDictP {S : Type} : List D → S → (D → S → Prop) → Prop := fun ds s k => match ds with
  | [.lst ps] => ∃ kvs, prsD ps = some kvs ∧ k (.dic (mrgD [] kvs)) s
  | _ => False
@[simp] def wLenY : List D → Rg → (D → Rg → Prop) → Prop := fun ds s k => match ds with
  | [.opq a] => (match s a with
    | some (.lst xs) => k (.int xs.length) s
    | some (.dic kvs) => k (.int kvs.length) s
    | _ => False)
  | ds => wLen ds s k
@[simp] def wSortY : List D → Rg → (D → Rg → Prop) → Prop := fun ds s k => match ds with
  | [.opq a] => ∃ kvs ns, s a = some (.dic kvs) ∧ kvs.map (·.1) = ns.map Sum.inl ∧ kvs.length ≤ sizeLine ∧ ∀ ms : List Int, ms.Perm ns → ms.Pairwise (· ≤ ·) → k (.lst (ms.map D.int)) s
  | ds => wSortX ds s k
section
variable {G : Gm Rg} {K : PySem.W.Frag}
theorem sim_newD : SimE RW G tDNewK wNewD := fun R env σ H s rl k x hw ox Q hQ => fun p hp => by
  have j := rl.at_.j
  have sn : s p = none := by
    cases q : s p with
    | none => rfl
    | some o => exact absurd hp (j p o q).2.there.1
  obtain ⟨p2, p3⟩ := rg_new (o := .dic []) (u := .dK []) j hp rfl ⟨[], upd_same, .nil⟩
  exact hQ _ _ _ _ (hw p sn) p2 p3 (.opq p)
/-- the dict d stands at a -/
theorem dc_at {R : Addr → Prop} {s : Rg} {H : Hp} {v : V} {d : D} {kvs : List (Key × D)} (t : At RW R s H) (a : Da (Bf RW R s) H v d) (h : dcOf s d = some kvs) : ∃ (q : Addr) (xs : List (Key × V)), v = .ref q ∧ H q = some (.dK xs) ∧ DaK (Bf RW R s) H xs kvs := by
  cases a with
  | dic e n l =>
    cases h
    exact ⟨_, _, rfl, e, l⟩
  | opq c =>
    unfold dcOf at h
    dsimp only at h
    cases q : s c with
    | none => rw [q] at h; cases h
    | some o =>
      rw [q] at h
      cases o with
      | dic ks =>
        cases h
        obtain ⟨f, xs, e1, l⟩ := t.j c _ q
        exact ⟨c, xs, rfl, e1, l.fl (fun _ _ e => ⟨e, t.tup e⟩) f⟩
      | _ => cases h
  | _ => cases h
theorem sim_getM {td ty : TE} {wd wk : WE Rg} (hd : SimE RW G td wd) (hk : SimE RW G ty wk) : SimE RW G (tDGet td ty) (wGetM wd wk) := fun R env σ H s rl k x hw ox Q hQ =>
  hd R env σ H s rl _ x hw ox _ fun d s1 v H1 hw1 f1 j1 a1 => hk R env σ H1 s1 (rl.step f1 j1) _ x hw1 ox _ fun e s2 u H2 hw2 f2 j2 a2 => by
    obtain ⟨kvs, key, z, h1, h2, h3, hw3⟩ := hw2
    have rl2 := (rl.step f1 j1).step f2 j2
    obtain ⟨q, xs, rfl, hq, l⟩ := dc_at rl2.at_ (a1.mv f2.mv) h1
    obtain rfl := a2.ky h2
    rcases l.val (k := key) with ⟨_, h⟩ | ⟨w, z', g1, g2, g3⟩
    · rw [h3] at h; cases h
    · rw [h3] at g2
      cases g2
      exact ⟨q, w, rfl, by rw [← g1]; exact DGet.k hq, hQ _ s2 _ H2 hw3 (f1.trans f2) j2 g3⟩
theorem sim_inM {td ty : TE} {wd wk : WE Rg} (hk : SimE RW G ty wk) (hd : SimE RW G td wd) : SimE RW G (tDIn ty td) (wInM wk wd) := fun R env σ H s rl k x hw ox Q hQ =>
  hk R env σ H s rl _ x hw ox _ fun e s1 u H1 hw1 f1 j1 a1 => hd R env σ H1 s1 (rl.step f1 j1) _ x hw1 ox _ fun d s2 v H2 hw2 f2 j2 a2 => by
    obtain ⟨kvs, key, h1, h2, hw3⟩ := hw2
    have rl2 := (rl.step f1 j1).step f2 j2
    obtain ⟨q, xs, rfl, hq, l⟩ := dc_at rl2.at_ a2 h1
    obtain rfl := (a1.mv f2.mv).ky h2
    refine ⟨q, _, rfl, DGet.k hq, ?_⟩
    have : (valV xs key).isSome = (valK kvs key).isSome := by rcases l.val (k := key) with ⟨h1, h2⟩ | ⟨w, z', h1, h2, h3⟩ <;> rw [h1, h2] <;> rfl
    rw [this]
    exact hQ _ s2 _ H2 hw3 (f1.trans f2) j2 (.bl _)
theorem sim_notInM {td ty : TE} {wd wk : WE Rg} (hk : SimE RW G ty wk) (hd : SimE RW G td wd) : SimE RW G (tDNotIn ty td) (wNotInM wk wd) := fun R env σ H s rl k x hw ox Q hQ =>
  hk R env σ H s rl _ x hw ox _ fun e s1 u H1 hw1 f1 j1 a1 => hd R env σ H1 s1 (rl.step f1 j1) _ x hw1 ox _ fun d s2 v H2 hw2 f2 j2 a2 => by
    obtain ⟨kvs, key, h1, h2, hw3⟩ := hw2
    have rl2 := (rl.step f1 j1).step f2 j2
    obtain ⟨q, xs, rfl, hq, l⟩ := dc_at rl2.at_ a2 h1
    obtain rfl := (a1.mv f2.mv).ky h2
    refine ⟨q, _, rfl, DGet.k hq, ?_⟩
    have : (valV xs key).isSome = (valK kvs key).isSome := by rcases l.val (k := key) with ⟨h1, h2⟩ | ⟨w, z', h1, h2, h3⟩ <;> rw [h1, h2] <;> rfl
    rw [this]
    exact hQ _ s2 _ H2 hw3 (f1.trans f2) j2 (.bl _)
theorem ss_putM {td ty tv : TE} {wd wk wv : WE Rg} (hv : SimE RW G tv wv) (hd : SimE RW G td wd) (hk : SimE RW G ty wk) : SimS RW G (sDPut td ty tv) (wPutM wv wd wk) := fun R env σ H s rl KK hw Dn e =>
  hv R env σ H s rl _ KK.xc hw e.xc _ fun v s0 y H0 hw0 f0 j0 a0 => hd R env σ H0 s0 (rl.step f0 j0) _ KK.xc hw0 e.xc _ fun d s1 z H1 hw1 f1 j1 a1 => hk R env σ H1 s1 ((rl.step f0 j0).step f1 j1) _ KK.xc hw1 e.xc _ fun i s2 u H2 hw2 f2 j2 a2 => by
    have rl2 := ((rl.step f0 j0).step f1 j1).step f2 j2
    cases d with
    | opq a =>
      cases a1
      obtain ⟨kvs, key, h1, h2, fl, hz, hw3⟩ := hw2
      obtain rfl := a2.ky h2
      obtain ⟨f, xs, e1, l⟩ := j2 a _ h1
      have into := RW.into rl2.at_ (a0.mv (f1.trans f2).mv) fl
      have keep : ∀ t ys, H2 t = some (.tup ys) → upd H2 a (.dK (putK xs key y)) t = some (.tup ys) ∧ ¬ (s2 t ≠ none) := fun t ys et => ⟨by rw [upd_ne fun zz => by rw [zz, e1] at et; cases et]; exact et, fun c => RJ.ct j2 c et⟩
      obtain ⟨p2, p3⟩ := rg_write (o := .dic (putKD kvs key v)) (u := .dK (putK xs key y)) j2 h1 (flts_putK f fl) ⟨_, upd_same, (l.put into).fl keep (flts_putK f fl)⟩
      exact ⟨a, _, rfl, DPut.k e1 (by rw [l.len]; exact hz), e.nx R env σ _ _ hw3 (rl2.step p2 p3) (((f0.trans f1).trans f2).trans p2).mv⟩
    | _ => exact hw2.elim
theorem ss_updM {td te : TE} {wd we : WE Rg} (hd : SimE RW G td wd) (he : SimE RW G te we) : SimS RW G (tDrop (tDUpd td te)) (wUpdM wd we) := fun R env σ H s rl KK hw Dn e =>
  hd R env σ H s rl _ KK.xc hw e.xc _ fun d s1 z H1 hw1 f1 j1 a1 => by
    have rl1 := rl.step f1 j1
    cases d with
    | opq a =>
      cases a1
      obtain ⟨⟨kvs, h1⟩, hw1⟩ := hw1
      obtain ⟨_, xs, e1, _⟩ := j1 a _ h1
      refine ⟨a, rfl, .inl ⟨_, .inl e1⟩, he R env σ H1 s1 rl1 _ KK.xc hw1 e.xc _ fun d2 s2 v2 H2 hw2 f2 j2 a2 => ?_⟩
      have rl2 := rl1.step f2 j2
      cases d2 with
      | dic more =>
        obtain ⟨kvs, h2, fl, hz, hw3⟩ := hw2
        obtain ⟨f, xs, e2, l⟩ := j2 a _ h2
        cases a2 with
        | @dic b ys _ eb nb lb =>
          have ne : a ≠ b := fun zz => nb (.inr (by rw [← zz]; show s2 a ≠ none; rw [h2]; simp))
          have into : DaK (fun x => s2 x ≠ none) H2 ys more := lb.fl (fun t xs et => ⟨et, fun c => RJ.ct j2 c et⟩) fl
          have keep : ∀ t zs, H2 t = some (.tup zs) → upd H2 a (.dK (mergeK xs ys)) t = some (.tup zs) ∧ ¬ (s2 t ≠ none) := fun t zs et => ⟨by rw [upd_ne fun zz => by rw [zz, e2] at et; cases et]; exact et, fun c => RJ.ct j2 c et⟩
          obtain ⟨p2, p3⟩ := rg_write (o := .dic (mrgD kvs more)) (u := .dK (mergeK xs ys)) j2 h2 (flts_mrg f fl) ⟨_, upd_same, (into.mrg l).fl keep (flts_mrg f fl)⟩
          exact ⟨b, xs, ys, rfl, ne, e2, .inl eb, by rw [l.len, lb.len]; exact hz, e.nx R env σ _ _ hw3 (rl2.step p2 p3) ((f1.trans f2).trans p2).mv⟩
      | _ => exact hw2.elim
    | _ => exact hw1.elim
theorem prs_da {B : Addr → Prop} {H : Hp} : ∀ {ps : List D} {vs : List V} {kvs : List (Key × D)}, DaL B H vs ps → prsD ps = some kvs → ∃ (as : List Addr) (xs : List (Key × V)), vs = as.map V.ref ∧ Paired (fun p kv => SqT K H p [kV kv.1, kv.2]) as xs ∧ DaK B H xs kvs
  | [], _, _, .nil, h => by cases h; exact ⟨[], [], rfl, .nil, .nil⟩
  | d :: r, _, _, .cons (v := v) a t, h => by
    unfold prsD at h
    match d, a, h with
    | .tup [kd, vd], a, h =>
      dsimp only at h
      cases q1 : kd.ky with
      | none => rw [q1] at h; cases h
      | some key =>
        cases q2 : prsD r with
        | none => rw [q1, q2] at h; cases h
        | some ks =>
          rw [q1, q2] at h
          cases h
          obtain ⟨as, xs, rfl, p, l⟩ := prs_da t q2
          cases a with
          | @tup b _ _ e n l2 z =>
            cases l2 with
            | cons x1 l3 =>
              cases l3 with
              | cons x2 l4 =>
                cases l4
                obtain rfl := x1.ky q1
                exact ⟨b :: as, (key, _) :: xs, rfl, .cons (.of e) p, .cons x2 l⟩
theorem sc_dictP {S : Type} {W : Wd S} : SimC W (rDictP K) wDictP := fun R s H at_ xs ds a k hw Q hQ => by
  match ds, a, hw with
  | [.lst ps], a, ⟨kvs, h1, hw⟩ =>
    obtain ⟨v, rfl, a1⟩ := a.one
    obtain ⟨p, xs, rfl, e, l, z⟩ := a1.lstI
    obtain ⟨as, ys, rfl, pr, dk⟩ := prs_da (K := K) l h1
    refine ⟨p, as, ys, rfl, .of e, pr, fun q hq => ?_⟩
    exact hQ _ _ _ hw (.new_at hq at_) (at_.new_at hq).j (.dic upd_same (at_.fresh hq) ((dk.mrg .nil).mv (Fr.new_at hq at_).mv))
theorem sc_lenY : SimC RW (rLenY K) wLenY := fun R s H at_ xs ds a k hw Q hQ => by
  match ds, a, hw with
  | [.opq c], a, hw =>
    obtain ⟨v, rfl, a1⟩ := a.one
    unfold wLenY at hw
    dsimp only at hw
    cases a1 with
    | da a2 =>
      cases a2
      cases q : s c with
      | none => rw [q] at hw; exact hw.elim
      | some o =>
        rw [q] at hw
        cases o with
        | lst ds =>
          obtain ⟨f, ys, e1, l, _⟩ := at_.j c _ q
          exact .inl (.inl ⟨c, ys, rfl, .inl (.of e1), hQ _ _ H (by rw [l.len]; exact hw) .refl at_.j (.int _)⟩)
        | dic ds =>
          obtain ⟨f, ys, e1, l⟩ := at_.j c _ q
          exact .inr ⟨c, ys, rfl, e1, hQ _ _ H (by rw [l.len]; exact hw) .refl at_.j (.int _)⟩
        | _ => exact hw.elim
  | [.lst _], a, hw => exact .inl (sc_len R s H at_ xs _ a k hw Q hQ)
  | [.tup _], a, hw => exact .inl (sc_len R s H at_ xs _ a k hw Q hQ)
  | [.str _], a, hw => exact .inl (sc_len R s H at_ xs _ a k hw Q hQ)
theorem sc_sortY : SimC RW (rSortedY K) wSortY := fun R s H at_ xs ds a k hw Q hQ => by
  match ds, a, hw with
  | [.opq c], a, ⟨kvs, ns, h1, h2, hz, hk⟩ =>
    obtain ⟨v, rfl, a1⟩ := a.one
    cases a1 with
    | da a2 =>
      cases a2
      obtain ⟨f, ys, e1, l⟩ := at_.j c _ h1
      refine .inr ⟨c, ys, ns, rfl, .inl e1, l.keys.trans h2, fun ms q pm pw hq => hQ _ _ _ (hk ms pm pw) (.new_at hq at_) (at_.new_at hq).j (.lst upd_same (at_.fresh hq) (daL_ints ms) ?_)⟩
      have := congrArg List.length h2
      simp only [List.length_map] at this
      rw [List.length_map, pm.length_eq, ← this]
      exact hz
  | [.lst es], a, hw => exact .inl (sc_sortX R s H at_ xs _ a k hw Q hQ)
  | [.tup es], a, hw => exact .inl (sc_sortX R s H at_ xs _ a k hw Q hQ)
  | [.dit kvs], a, hw => exact .inl (sc_sortX R s H at_ xs _ a k hw Q hQ)
end
end Dw
set_option Elab.async false
set_option linter.all false
set_option maxRecDepth 100000
set_option maxHeartbeats 8000000
namespace Law
open PySem PySem.Spec PyProof.Rows L2 Gl Dw
local macro_rules | `(tactic| walk_at "sc") => `(tactic| first
  | exact True.intro
  | (show _ ≤ sizeLine; decide +kernel))
local macro_rules | `(tactic| walk_at "sim") => `(tactic| first
  | ((with_reducible apply ss_seq) <;> walk_at "sim")
  | with_reducible exact ss_next
  | ((with_reducible apply ss_raise) <;> walk_at "sim")
  | with_reducible exact ss_raise0
  | ((with_reducible apply ss_try); walk_at "sim"; (intro _; walk_at "sim"); walk_at "sim")
  | ((with_reducible apply loc_if) <;> walk_at "sim")
  | with_reducible exact loc_asgDf
  | with_reducible exact loc_asgMk
  | ((with_reducible apply loc_seq) <;> walk_at "sim")
  | with_reducible exact loc_const
  | with_reducible exact SimHs.nil
  | ((with_reducible apply SimHs.cons); (intro _ _ _ _ _ _; walk_at "sim"); walk_at "sim")
  | with_reducible exact ss_brk
  | with_reducible exact ss_cont
  | with_reducible exact ss_retN
  | ((with_reducible apply ss_ret) <;> walk_at "sim")
  | ((with_reducible apply ss_if) <;> walk_at "sim")
  | ((with_reducible apply ss_asgO); (with_reducible assumption); walk_at "sim")
  | ((with_reducible apply ss_nput) <;> walk_at "sim")
  | ((with_reducible apply ss_setM) <;> walk_at "sim")
  | ((with_reducible apply ss_setL) <;> walk_at "sim")
  | ((with_reducible apply ss_pop) <;> walk_at "sim")
  | ((with_reducible apply ss_popAt) <;> walk_at "sim")
  | ((with_reducible apply ss_asg) <;> walk_at "sim")
  | ((with_reducible apply ss_par) <;> walk_at "sim")
  | ((with_reducible apply ss_par3) <;> walk_at "sim")
  | ((with_reducible apply ss_aug) <;> walk_at "sim")
  | ((with_reducible apply ss_app) <;> walk_at "sim")
  | ((with_reducible apply ss_appM) <;> walk_at "sim")
  | ((with_reducible apply ss_ins) <;> walk_at "sim")
  | ((with_reducible apply si_rev) <;> walk_at "sim")
  | ((with_reducible apply ss_ext) <;> walk_at "sim")
  | ((with_reducible apply ss_drop) <;> walk_at "sim")
  | ((with_reducible apply ss_for) <;> walk_at "sim")
  | ((with_reducible apply ss_while) <;> walk_at "sim")
  | with_reducible exact tg_name
  | ((with_reducible apply tg_tup) <;> walk_at "sim")
  | ((with_reducible apply tgs_cons) <;> walk_at "sim")
  | with_reducible exact tgs_nil
  | with_reducible exact sim_bgetE
  | ((with_reducible apply sim_tupRev) <;> walk_at "sim")
  | with_reducible exact sim_bget
  | ((with_reducible apply ss_bput) <;> walk_at "sim")
  | ((with_reducible apply ss_baug) <;> walk_at "sim")
  | ((with_reducible apply sim_nnotin) <;> walk_at "sim")
  | ((with_reducible apply sim_nget) <;> walk_at "sim")
  | ((with_reducible apply ss_nput) <;> walk_at "sim")
  | ((with_reducible apply ss_faugMT (by assumption) (by assumption)) <;> walk_at "sim")
  | ((with_reducible apply sim_fldMT (by assumption) (by assumption)) <;> walk_at "sim")
  | ((with_reducible apply sim_mtM) <;> walk_at "sim")
  | ((with_reducible apply sim_mtM0) <;> walk_at "sim")
  | with_reducible exact sim_newBk
  | with_reducible exact so_ixB
  | with_reducible exact so_ixM
  | with_reducible exact so_raddR
  | with_reducible exact so_rsubR
  | with_reducible exact sc_lenM
  | with_reducible exact sc_sortX
  | with_reducible exact sc_lenB
  | with_reducible exact so_radd
  | with_reducible exact so_rsub
  | with_reducible exact sim_newD
  | ((with_reducible apply sim_getM) <;> walk_at "sim")
  | ((with_reducible apply sim_inM) <;> walk_at "sim")
  | ((with_reducible apply sim_notInM) <;> walk_at "sim")
  | ((with_reducible apply ss_putM) <;> walk_at "sim")
  | ((with_reducible apply ss_updM) <;> walk_at "sim")
  | with_reducible exact sc_dictP
  | with_reducible exact sc_lenY
  | with_reducible exact sc_sortY
  | ((with_reducible apply sim_dgetT) <;> walk_at "sim")
  | ((with_reducible apply sim_dinT) <;> walk_at "sim")
  | ((with_reducible apply sim_dnotInT) <;> walk_at "sim")
  | ((with_reducible apply sim_mt0) <;> walk_at "sim")
  | ((with_reducible apply sim_dcE) <;> walk_at "sim")
  | ((with_reducible apply si_enumT) <;> walk_at "sim")
  | with_reducible exact sc_sortI
  | with_reducible exact sim_var
  | with_reducible exact sim_varG
  | with_reducible exact sim_nil
  | with_reducible exact sim_nilB
  | ((with_reducible apply sim_cons) <;> walk_at "sim")
  | ((with_reducible apply sim_consB) <;> walk_at "sim")
  | ((with_reducible apply sim_c); walk_at "sc")
  | ((with_reducible apply sim_op) <;> walk_at "sim")
  | ((with_reducible apply sim_un) <;> walk_at "sim")
  | ((with_reducible apply sim_isG); (with_reducible assumption); walk_at "sim")
  | ((with_reducible apply sim_cb) <;> walk_at "sim")
  | ((with_reducible apply sim_tup) <;> walk_at "sim")
  | ((with_reducible apply sim_lst) <;> walk_at "sim")
  | ((with_reducible apply sim_lstF) <;> walk_at "sim")
  | ((with_reducible apply sim_call) <;> walk_at "sim")
  | ((with_reducible apply sim_callN) <;> walk_at "sim")
  | ((with_reducible apply sim_sl) <;> walk_at "sim")
  | with_reducible exact sp_no
  | ((with_reducible apply sp_part) <;> walk_at "sim")
  | ((with_reducible apply sim_test) <;> walk_at "sim")
  | ((with_reducible apply sim_tB) <;> walk_at "sim")
  | ((with_reducible apply sim_and) <;> walk_at "sim")
  | ((with_reducible apply sim_or) <;> walk_at "sim")
  | ((with_reducible apply sim_not) <;> walk_at "sim")
  | with_reducible exact sim_yes
  | ((with_reducible apply sim_andV) <;> walk_at "sim")
  | ((with_reducible apply sim_orV) <;> walk_at "sim")
  | ((with_reducible apply sim_notV) <;> walk_at "sim")
  | ((with_reducible apply sim_if) <;> walk_at "sim")
  | ((with_reducible apply sim_chain) <;> walk_at "sim")
  | ((with_reducible apply sim_lcF) <;> walk_at "sim")
  | ((with_reducible apply sim_lcE) <;> walk_at "sim")
  | ((with_reducible apply sim_lstRgF) <;> walk_at "sim")
  | ((with_reducible apply sim_lstRg) <;> walk_at "sim")
  | ((with_reducible apply sim_tupRg) <;> walk_at "sim")
  | ((with_reducible apply sim_rg1) <;> walk_at "sim")
  | ((with_reducible apply sim_rg2) <;> walk_at "sim")
  | ((with_reducible apply sim_listF) <;> walk_at "sim")
  | ((with_reducible apply sim_addF) <;> walk_at "sim")
  | ((with_reducible apply sim_join) <;> walk_at "sim")
  | ((with_reducible apply sim_lenSetS) <;> walk_at "sim")
  | ((with_reducible apply sim_fldT); (with_reducible assumption); (with_reducible assumption); walk_at "sim")
  | ((with_reducible apply sim_mk) <;> walk_at "sim")
  | ((with_reducible apply sim_mkN) <;> walk_at "sim")
  | ((with_reducible apply sim_xf); (with_reducible assumption))
  | with_reducible exact so_eqO
  | ((with_reducible apply si_x) <;> walk_at "sim")
  | ((with_reducible apply si_tup) <;> walk_at "sim")
  | ((with_reducible apply si_list) <;> walk_at "sim")
  | ((with_reducible apply si_str) <;> walk_at "sim")
  | ((with_reducible apply si_rng1) <;> walk_at "sim")
  | ((with_reducible apply si_rng2) <;> walk_at "sim")
  | ((with_reducible apply si_enum) <;> walk_at "sim")
  | ((with_reducible apply si_zip) <;> walk_at "sim")
  | with_reducible exact so_addX
  | with_reducible exact so_mulX
  | with_reducible exact so_divX
  | with_reducible exact so_eqX
  | with_reducible exact so_neX
  | with_reducible exact so_inX
  | with_reducible exact so_notInX
  | with_reducible exact so_ltX
  | with_reducible exact so_gtX
  | with_reducible exact so_geX
  | with_reducible exact so_leX
  | ((with_reducible apply so_i0s); (intros; exact True.intro))
  | ((with_reducible apply so_iCs); (intros; exact True.intro))
  | ((with_reducible apply su_is); (intros; exact True.intro))
  | with_reducible exact so_eq
  | with_reducible exact so_ne
  | with_reducible exact so_isN
  | with_reducible exact so_notN
  | with_reducible exact so_isB
  | with_reducible exact so_notB
  | with_reducible exact so_ixL
  | with_reducible exact so_ixT
  | with_reducible exact so_ixS
  | with_reducible exact so_ix
  | with_reducible exact so_in
  | with_reducible exact so_str
  | with_reducible exact so_inS
  | with_reducible exact so_notInS
  | with_reducible exact so_catT
  | with_reducible exact so_catL
  | with_reducible exact so_addS
  | with_reducible exact so_mulS
  | with_reducible exact so_repT
  | with_reducible exact so_eqD
  | with_reducible exact so_neD
  | with_reducible exact so_inD
  | with_reducible exact so_notInD
  | with_reducible exact so_leT
  | with_reducible exact sc_len
  | with_reducible exact sc_int
  | with_reducible exact sc_abs
  | with_reducible exact sc_str
  | with_reducible exact sc_mm
  | with_reducible exact sc_list
  | with_reducible exact sc_tuple
  | with_reducible exact sc_sum
  | with_reducible exact sc_all
  | with_reducible exact sc_any
  | with_reducible exact sc_isi
  | with_reducible exact sc_isiT
  | with_reducible exact sc_repr
  | with_reducible exact sl_x
  | with_reducible exact sl_t
  | with_reducible exact sl_l
  | with_reducible exact sl_s
  | ((with_reducible apply SimE.g); walk_at "sim")
  | (intros; decide)
  | skip)

/-- what onion adds -/
structure OnR (recs : List D) (n : Int) (L : List D) (X : List D × Int × List D) : Prop where
  len : X.1.length = recs.length + 1 + 3 * L.length
  fr : X.2.1 = n + 1 + L.length
  lay : X.2.2 = ((List.range (L.length + 1)).map fun j => D.int ((recs.length + 3 * j : Nat) : Int)).reverse
  old : ∀ i, i < recs.length → X.1[i]? = recs[i]?
  word : X.1[recs.length]? = some (frD n)
  pad : ∀ j, j < L.length → ∃ m, X.1[recs.length + 3 * j + 1]? = some (frD m)
  row : ∀ j, j < L.length → X.1[recs.length + 3 * j + 2]? = some (enD "row" [((recs.length + 3 * j + 1 : Nat) : Int), ((recs.length + 3 * j : Nat) : Int)])
  box : ∀ (j : Nat) (d : D), L[j]? = some d → X.1[recs.length + 3 * j + 3]? = some (.tup [.str "box", .tup [d, .int ((recs.length + 3 * j + 2 : Nat) : Int)]])
theorem get3 {R : List D} {a b c : D} {i : Nat} : (R ++ [a] ++ [b] ++ [c])[i]? = if i < R.length then R[i]? else if i = R.length then some a else if i = R.length + 1 then some b else if i = R.length + 2 then some c else none := by
  by_cases h : i < R.length
  · rw [if_pos h, List.append_assoc, List.append_assoc, List.getElem?_append_left h]
  · rw [if_neg h, List.append_assoc, List.append_assoc, List.getElem?_append_right (by omega)]
    obtain ⟨j, rfl⟩ : ∃ j, i = R.length + j := ⟨i - R.length, by omega⟩
    rw [Nat.add_sub_cancel_left]
    match j with
    | 0 => simp
    | 1 => simp
    | 2 => simp
    | j + 3 =>
      rw [if_neg (by omega), if_neg (by omega), if_neg (by omega)]
      simp
theorem OnR.step {recs : List D} {n : Int} {L : List D} {X : List D × Int × List D} (o : OnR recs n L X) (d : D) : OnR recs n (L ++ [d]) (onStep X d) := by
  obtain ⟨R, m, ly⟩ := X
  obtain ⟨h1, h2, h3, h4, h5, h6, h7, h8⟩ := o
  dsimp only at h1 h2 h3 h4 h5 h6 h7 h8
  have hd : ly.headD .non = .int ((recs.length + 3 * L.length : Nat) : Int) := by
    rw [h3, List.range_succ, List.map_append, List.reverse_append]
    rfl
  have e : (onStep (R, m, ly) d).1 = R ++ [frD m] ++ [enD "row" [((recs.length + 3 * L.length + 1 : Nat) : Int), ((recs.length + 3 * L.length : Nat) : Int)]] ++ [.tup [.str "box", .tup [d, .int ((recs.length + 3 * L.length + 2 : Nat) : Int)]]] := by
    unfold onStep enD
    dsimp only
    rw [hd, h1]
    simp only [List.map_cons, List.map_nil]
    rw [show recs.length + 1 + 3 * L.length = recs.length + 3 * L.length + 1 by omega]
  have ll : (L ++ [d]).length = L.length + 1 := by simp
  constructor
  · rw [e, ll]
    simp
    omega
  · rw [ll]
    show m + 1 = _
    rw [h2]
    omega
  · rw [ll]
    show D.int ((R.length + 2 : Nat) : Int) :: ly = _
    rw [List.range_succ, List.map_append, List.reverse_append, h1, h3]
    simp
    omega
  · intro i hi
    rw [e, get3, if_pos (by omega)]
    exact h4 i hi
  · rw [e, get3, if_pos (by omega)]
    exact h5
  · intro j hj
    rw [ll] at hj
    rw [e, get3]
    by_cases q : j < L.length
    · rw [if_pos (by omega)]
      exact h6 j q
    · obtain rfl : j = L.length := by omega
      rw [if_neg (by omega), if_pos (by omega)]
      exact ⟨m, rfl⟩
  · intro j hj
    rw [ll] at hj
    rw [e, get3]
    by_cases q : j < L.length
    · rw [if_pos (by omega)]
      exact h7 j q
    · obtain rfl : j = L.length := by omega
      rw [if_neg (by omega), if_neg (by omega), if_pos (by omega)]
  · intro j x hx
    rw [e, get3]
    by_cases q : j < L.length
    · rw [if_pos (by omega)]
      rw [List.getElem?_append_left q] at hx
      exact h8 j x hx
    · have := (List.getElem?_eq_some_iff.mp hx).1
      rw [ll] at this
      obtain rfl : j = L.length := by omega
      rw [List.getElem?_append_right (Nat.le_refl _), Nat.sub_self] at hx
      cases hx
      rw [if_neg (by omega), if_neg (by omega), if_neg (by omega), if_pos (by omega)]
theorem onR (recs : List D) (n : Int) (L : List D) : OnR recs n L (L.foldl onStep (recs ++ [frD n], n + 1, [.int recs.length])) := by
  have go : ∀ (rest done : List D) (X : List D × Int × List D), OnR recs n done X → OnR recs n (done ++ rest) (rest.foldl onStep X) := by
    intro rest
    induction rest with
    | nil => intro done X h; rw [List.append_nil]; exact h
    | cons d r ih =>
      intro done X h
      have := ih (done ++ [d]) (onStep X d) (h.step d)
      rw [List.append_assoc] at this
      exact this
  refine go L [] _ ⟨by simp, by simp, by simp, fun i hi => ?_, ?_, fun j hj => absurd hj (by simp), fun j hj => absurd hj (by simp), fun j d hd => by simp at hd⟩
  · dsimp only
    rw [List.getElem?_append_left hi]
  · dsimp only
    rw [List.getElem?_append_right (Nat.le_refl _)]
    simp
/-- good records stay good -/
theorem GoodR.on {recs : List D} {n : Int} {locks : List D} (g : GoodR recs n) (hl : ∀ d ∈ locks, ∃ q : Int, d = .int q ∧ 0 ≤ q ∧ q < (recs.length : Int)) : GoodR (onRun recs n locks).1 (onRun recs n locks).2.1 := by
  have go : ∀ (rest done : List D) (X : List D × Int × List D), (∀ d ∈ rest, ∃ q : Int, d = .int q ∧ 0 ≤ q ∧ q < (recs.length : Int)) → OnR recs n done X → GoodR X.1 X.2.1 → GoodR (rest.foldl onStep X).1 (rest.foldl onStep X).2.1 := by
    intro rest
    induction rest with
    | nil => intro done X _ _ g; exact g
    | cons d r ih =>
      intro done X hq o g
      refine ih (done ++ [d]) (onStep X d) (fun e he => hq e (by simp [he])) (o.step d) ?_
      obtain ⟨q, rfl, q0, q1⟩ := hq d (by simp)
      obtain ⟨R, m, ly⟩ := X
      have h1 := o.len
      have hd : ly.headD .non = .int ((recs.length + 3 * done.length : Nat) : Int) := by
        have := o.lay
        dsimp only at this
        rw [this, List.range_succ, List.map_append, List.reverse_append]
        rfl
      dsimp only at h1 g
      have g2 := (g.fr.put (kd := "row") (ps := [(R.length : Int), ((recs.length + 3 * done.length : Nat) : Int)]) (by decide) fun z hz => by
        simp at hz
        rcases hz with rfl | rfl <;> simp <;> omega).put (kd := "box") (ps := [q, ((R.length + 1 : Nat) : Int)]) (by decide) fun z hz => by
        simp at hz
        rcases hz with rfl | rfl <;> simp <;> omega
      have e : (onStep (R, m, ly) (.int q)).1 = R ++ [frD m] ++ [enD "row" [(R.length : Int), ((recs.length + 3 * done.length : Nat) : Int)]] ++ [enD "box" [q, ((R.length + 1 : Nat) : Int)]] := by
        unfold onStep enD
        dsimp only
        rw [hd]
        rfl
      rw [e]
      exact g2
  have g1 := g.fr
  exact go locks.reverse [] _ (fun d hd => hl d (by simpa using hd)) (onR recs n []) g1
def frs (k : Nat) : List D := (List.range k).map fun (i : Nat) => frD (i : Int)
def lks (k : Nat) : List D := (List.range k).map fun (i : Nat) => enD "lock" [(i : Int)]
def lkT (H : Nat) : List D := (List.range H).map fun i => D.int ((H + i : Nat) : Int)
/-- the records of a mix with H hops behind so many senders -/
def onsR (H : Nat) : Nat → List D × Int
  | 0 => (frs H ++ lks H, (H : Int))
  | s + 1 => ((onRun (onsR H s).1 (onsR H s).2 (lkT H)).1, (onRun (onsR H s).1 (onsR H s).2 (lkT H)).2.1)
def layT (H s : Nat) : D := .lst ((List.range (H + 1)).map fun j => D.int ((2 * H + s * (3 * H + 1) + 3 * j : Nat) : Int)).reverse
@[simp] theorem frs_len (k : Nat) : (frs k).length = k := by simp [frs]
@[simp] theorem lks_len (k : Nat) : (lks k).length = k := by simp [lks]
@[simp] theorem lkT_len (k : Nat) : (lkT k).length = k := by simp [lkT]
theorem onsR_len (H : Nat) : ∀ s, (onsR H s).1.length = 2 * H + s * (3 * H + 1)
  | 0 => by simp [onsR]; omega
  | s + 1 => by
    have o := onR (onsR H s).1 (onsR H s).2 (lkT H).reverse
    have := o.len
    show (onRun (onsR H s).1 (onsR H s).2 (lkT H)).1.length = _
    unfold onRun
    rw [this, onsR_len H s]
    simp
    rw [Nat.add_mul]
    omega
theorem onsR_lay (H s : Nat) : D.lst (onRun (onsR H s).1 (onsR H s).2 (lkT H)).2.2 = layT H s := by
  have o := (onR (onsR H s).1 (onsR H s).2 (lkT H).reverse).lay
  unfold onRun layT
  rw [o]
  simp [onsR_len]
theorem onsR_good (H : Nat) (g0 : GoodR (frs H ++ lks H) (H : Int)) : ∀ s, GoodR (onsR H s).1 (onsR H s).2
  | 0 => g0
  | s + 1 => by
    refine GoodR.on (onsR_good H g0 s) fun d hd => ?_
    unfold lkT at hd
    obtain ⟨i, hi, rfl⟩ := List.mem_map.mp hd
    have := List.mem_range.mp hi
    exact ⟨_, rfl, by omega, by rw [onsR_len]; omega⟩
/-- what stands where -/
structure Frm (recs : List D) (H m : Nat) : Prop where
  len : recs.length = 2 * H + m * (3 * H + 1)
  key : ∀ h, h < H → ∃ n, recs[h]? = some (frD n)
  lock : ∀ h, h < H → recs[H + h]? = some (enD "lock" [(h : Int)])
  word : ∀ s, s < m → ∃ n, recs[2 * H + s * (3 * H + 1)]? = some (frD n)
  pad : ∀ s j, s < m → j < H → ∃ n, recs[2 * H + s * (3 * H + 1) + 3 * j + 1]? = some (frD n)
  row : ∀ s j, s < m → j < H → recs[2 * H + s * (3 * H + 1) + 3 * j + 2]? = some (enD "row" [((2 * H + s * (3 * H + 1) + 3 * j + 1 : Nat) : Int), ((2 * H + s * (3 * H + 1) + 3 * j : Nat) : Int)])
  box : ∀ s j, s < m → j < H → recs[2 * H + s * (3 * H + 1) + 3 * j + 3]? = some (enD "box" [((H + (H - 1 - j) : Nat) : Int), ((2 * H + s * (3 * H + 1) + 3 * j + 2 : Nat) : Int)])
theorem onsR_frm (H : Nat) : ∀ m, Frm (onsR H m).1 H m
  | 0 => by
    refine ⟨onsR_len H 0, fun h hh => ⟨(h : Int), ?_⟩, fun h hh => ?_, fun s hs => absurd hs (by omega), fun s j hs => absurd hs (by omega), fun s j hs => absurd hs (by omega), fun s j hs => absurd hs (by omega)⟩
    · show (frs H ++ lks H)[h]? = _
      rw [List.getElem?_append_left (by simpa using hh)]
      simp [frs, hh]
    · show (frs H ++ lks H)[H + h]? = _
      rw [List.getElem?_append_right (by simp)]
      simp [lks, hh]
  | m + 1 => by
    have o := onR (onsR H m).1 (onsR H m).2 (lkT H).reverse
    have ih := onsR_frm H m
    have e : (onsR H (m + 1)).1 = ((lkT H).reverse.foldl onStep ((onsR H m).1 ++ [frD (onsR H m).2], (onsR H m).2 + 1, [.int (onsR H m).1.length])).1 := rfl
    have l := onsR_len H m
    have old : ∀ i d, (onsR H m).1[i]? = some d → (onsR H (m + 1)).1[i]? = some d := fun i d hd => by
      have := (List.getElem?_eq_some_iff.mp hd).1
      rw [e, o.old i this]
      exact hd
    have lr : (lkT H).reverse.length = H := by simp
    refine ⟨onsR_len H (m + 1), fun h hh => ?_, fun h hh => old _ _ (ih.lock h hh), fun s hs => ?_, fun s j hs hj => ?_, fun s j hs hj => ?_, fun s j hs hj => ?_⟩
    · obtain ⟨n, hn⟩ := ih.key h hh
      exact ⟨n, old _ _ hn⟩
    · rcases Nat.lt_or_ge s m with q | q
      · obtain ⟨n, hn⟩ := ih.word s q
        exact ⟨n, old _ _ hn⟩
      · obtain rfl : s = m := by omega
        rw [e, ← l]
        exact ⟨_, o.word⟩
    · rcases Nat.lt_or_ge s m with q | q
      · obtain ⟨n, hn⟩ := ih.pad s j q hj
        exact ⟨n, old _ _ hn⟩
      · obtain rfl : s = m := by omega
        rw [e, ← l]
        exact o.pad j (by rw [lr]; exact hj)
    · rcases Nat.lt_or_ge s m with q | q
      · exact old _ _ (ih.row s j q hj)
      · obtain rfl : s = m := by omega
        rw [e, ← l]
        exact o.row j (by rw [lr]; exact hj)
    · rcases Nat.lt_or_ge s m with q | q
      · exact old _ _ (ih.box s j q hj)
      · obtain rfl : s = m := by omega
        rw [e, ← l]
        have : (lkT H).reverse[j]? = some (.int ((H + (H - 1 - j) : Nat) : Int)) := by
          rw [List.getElem?_reverse (by simpa using hj)]
          simp only [lkT_len]
          unfold lkT
          rw [List.getElem?_map, List.getElem?_range (by omega)]
          rfl
        rw [o.box j _ this]
        rfl
end Law
set_option Elab.async false
set_option linter.all false
set_option maxRecDepth 100000
set_option maxHeartbeats 8000000
namespace Law
open PySem PySem.Spec PyProof.Rows L2 Gl Dw
local macro_rules | `(tactic| walk_at "sc") => `(tactic| first
  | exact True.intro
  | (show _ ≤ sizeLine; decide +kernel))
local macro_rules | `(tactic| walk_at "sim") => `(tactic| first
  | ((with_reducible apply ss_seq) <;> walk_at "sim")
  | with_reducible exact ss_next
  | ((with_reducible apply ss_raise) <;> walk_at "sim")
  | with_reducible exact ss_raise0
  | ((with_reducible apply ss_try); walk_at "sim"; (intro _; walk_at "sim"); walk_at "sim")
  | ((with_reducible apply loc_if) <;> walk_at "sim")
  | with_reducible exact loc_asgDf
  | with_reducible exact loc_asgMk
  | ((with_reducible apply loc_seq) <;> walk_at "sim")
  | with_reducible exact loc_const
  | with_reducible exact SimHs.nil
  | ((with_reducible apply SimHs.cons); (intro _ _ _ _ _ _; walk_at "sim"); walk_at "sim")
  | with_reducible exact ss_brk
  | with_reducible exact ss_cont
  | with_reducible exact ss_retN
  | ((with_reducible apply ss_ret) <;> walk_at "sim")
  | ((with_reducible apply ss_if) <;> walk_at "sim")
  | ((with_reducible apply ss_asgO); (with_reducible assumption); walk_at "sim")
  | ((with_reducible apply ss_nput) <;> walk_at "sim")
  | ((with_reducible apply ss_setM) <;> walk_at "sim")
  | ((with_reducible apply ss_setL) <;> walk_at "sim")
  | ((with_reducible apply ss_pop) <;> walk_at "sim")
  | ((with_reducible apply ss_popAt) <;> walk_at "sim")
  | ((with_reducible apply ss_asg) <;> walk_at "sim")
  | ((with_reducible apply ss_par) <;> walk_at "sim")
  | ((with_reducible apply ss_par3) <;> walk_at "sim")
  | ((with_reducible apply ss_aug) <;> walk_at "sim")
  | ((with_reducible apply ss_app) <;> walk_at "sim")
  | ((with_reducible apply ss_appM) <;> walk_at "sim")
  | ((with_reducible apply ss_ins) <;> walk_at "sim")
  | ((with_reducible apply si_rev) <;> walk_at "sim")
  | ((with_reducible apply ss_ext) <;> walk_at "sim")
  | ((with_reducible apply ss_drop) <;> walk_at "sim")
  | ((with_reducible apply ss_for) <;> walk_at "sim")
  | ((with_reducible apply ss_while) <;> walk_at "sim")
  | with_reducible exact tg_name
  | ((with_reducible apply tg_tup) <;> walk_at "sim")
  | ((with_reducible apply tgs_cons) <;> walk_at "sim")
  | with_reducible exact tgs_nil
  | with_reducible exact sim_bgetE
  | ((with_reducible apply sim_tupRev) <;> walk_at "sim")
  | with_reducible exact sim_bget
  | ((with_reducible apply ss_bput) <;> walk_at "sim")
  | ((with_reducible apply ss_baug) <;> walk_at "sim")
  | ((with_reducible apply sim_nnotin) <;> walk_at "sim")
  | ((with_reducible apply sim_nget) <;> walk_at "sim")
  | ((with_reducible apply ss_nput) <;> walk_at "sim")
  | ((with_reducible apply ss_faugMT (by assumption) (by assumption)) <;> walk_at "sim")
  | ((with_reducible apply sim_fldMT (by assumption) (by assumption)) <;> walk_at "sim")
  | ((with_reducible apply sim_mtM) <;> walk_at "sim")
  | ((with_reducible apply sim_mtM0) <;> walk_at "sim")
  | with_reducible exact sim_newBk
  | with_reducible exact so_ixB
  | with_reducible exact so_ixM
  | with_reducible exact so_raddR
  | with_reducible exact so_rsubR
  | with_reducible exact sc_lenM
  | with_reducible exact sc_sortX
  | with_reducible exact sc_lenB
  | with_reducible exact so_radd
  | with_reducible exact so_rsub
  | with_reducible exact sim_newD
  | ((with_reducible apply sim_getM) <;> walk_at "sim")
  | ((with_reducible apply sim_inM) <;> walk_at "sim")
  | ((with_reducible apply sim_notInM) <;> walk_at "sim")
  | ((with_reducible apply ss_putM) <;> walk_at "sim")
  | ((with_reducible apply ss_updM) <;> walk_at "sim")
  | with_reducible exact sc_dictP
  | with_reducible exact sc_lenY
  | with_reducible exact sc_sortY
  | ((with_reducible apply sim_dgetT) <;> walk_at "sim")
  | ((with_reducible apply sim_dinT) <;> walk_at "sim")
  | ((with_reducible apply sim_dnotInT) <;> walk_at "sim")
  | ((with_reducible apply sim_mt0) <;> walk_at "sim")
  | ((with_reducible apply sim_dcE) <;> walk_at "sim")
  | ((with_reducible apply si_enumT) <;> walk_at "sim")
  | with_reducible exact sc_sortI
  | with_reducible exact sim_var
  | with_reducible exact sim_varG
  | with_reducible exact sim_nil
  | with_reducible exact sim_nilB
  | ((with_reducible apply sim_cons) <;> walk_at "sim")
  | ((with_reducible apply sim_consB) <;> walk_at "sim")
  | ((with_reducible apply sim_c); walk_at "sc")
  | ((with_reducible apply sim_op) <;> walk_at "sim")
  | ((with_reducible apply sim_un) <;> walk_at "sim")
  | ((with_reducible apply sim_isG); (with_reducible assumption); walk_at "sim")
  | ((with_reducible apply sim_cb) <;> walk_at "sim")
  | ((with_reducible apply sim_tup) <;> walk_at "sim")
  | ((with_reducible apply sim_lst) <;> walk_at "sim")
  | ((with_reducible apply sim_lstF) <;> walk_at "sim")
  | ((with_reducible apply sim_call) <;> walk_at "sim")
  | ((with_reducible apply sim_callN) <;> walk_at "sim")
  | ((with_reducible apply sim_sl) <;> walk_at "sim")
  | with_reducible exact sp_no
  | ((with_reducible apply sp_part) <;> walk_at "sim")
  | ((with_reducible apply sim_test) <;> walk_at "sim")
  | ((with_reducible apply sim_tB) <;> walk_at "sim")
  | ((with_reducible apply sim_and) <;> walk_at "sim")
  | ((with_reducible apply sim_or) <;> walk_at "sim")
  | ((with_reducible apply sim_not) <;> walk_at "sim")
  | with_reducible exact sim_yes
  | ((with_reducible apply sim_andV) <;> walk_at "sim")
  | ((with_reducible apply sim_orV) <;> walk_at "sim")
  | ((with_reducible apply sim_notV) <;> walk_at "sim")
  | ((with_reducible apply sim_if) <;> walk_at "sim")
  | ((with_reducible apply sim_chain) <;> walk_at "sim")
  | ((with_reducible apply sim_lcF) <;> walk_at "sim")
  | ((with_reducible apply sim_lcE) <;> walk_at "sim")
  | ((with_reducible apply sim_lstRgF) <;> walk_at "sim")
  | ((with_reducible apply sim_lstRg) <;> walk_at "sim")
  | ((with_reducible apply sim_tupRg) <;> walk_at "sim")
  | ((with_reducible apply sim_rg1) <;> walk_at "sim")
  | ((with_reducible apply sim_rg2) <;> walk_at "sim")
  | ((with_reducible apply sim_listF) <;> walk_at "sim")
  | ((with_reducible apply sim_addF) <;> walk_at "sim")
  | ((with_reducible apply sim_join) <;> walk_at "sim")
  | ((with_reducible apply sim_lenSetS) <;> walk_at "sim")
  | ((with_reducible apply sim_fldT); (with_reducible assumption); (with_reducible assumption); walk_at "sim")
  | ((with_reducible apply sim_mk) <;> walk_at "sim")
  | ((with_reducible apply sim_mkN) <;> walk_at "sim")
  | ((with_reducible apply sim_xf); (with_reducible assumption))
  | with_reducible exact so_eqO
  | ((with_reducible apply si_x) <;> walk_at "sim")
  | ((with_reducible apply si_tup) <;> walk_at "sim")
  | ((with_reducible apply si_list) <;> walk_at "sim")
  | ((with_reducible apply si_str) <;> walk_at "sim")
  | ((with_reducible apply si_rng1) <;> walk_at "sim")
  | ((with_reducible apply si_rng2) <;> walk_at "sim")
  | ((with_reducible apply si_enum) <;> walk_at "sim")
  | ((with_reducible apply si_zip) <;> walk_at "sim")
  | with_reducible exact so_addX
  | with_reducible exact so_mulX
  | with_reducible exact so_divX
  | with_reducible exact so_eqX
  | with_reducible exact so_neX
  | with_reducible exact so_inX
  | with_reducible exact so_notInX
  | with_reducible exact so_ltX
  | with_reducible exact so_gtX
  | with_reducible exact so_geX
  | with_reducible exact so_leX
  | ((with_reducible apply so_i0s); (intros; exact True.intro))
  | ((with_reducible apply so_iCs); (intros; exact True.intro))
  | ((with_reducible apply su_is); (intros; exact True.intro))
  | with_reducible exact so_eq
  | with_reducible exact so_ne
  | with_reducible exact so_isN
  | with_reducible exact so_notN
  | with_reducible exact so_isB
  | with_reducible exact so_notB
  | with_reducible exact so_ixL
  | with_reducible exact so_ixT
  | with_reducible exact so_ixS
  | with_reducible exact so_ix
  | with_reducible exact so_in
  | with_reducible exact so_str
  | with_reducible exact so_inS
  | with_reducible exact so_notInS
  | with_reducible exact so_catT
  | with_reducible exact so_catL
  | with_reducible exact so_addS
  | with_reducible exact so_mulS
  | with_reducible exact so_repT
  | with_reducible exact so_eqD
  | with_reducible exact so_neD
  | with_reducible exact so_inD
  | with_reducible exact so_notInD
  | with_reducible exact so_leT
  | with_reducible exact sc_len
  | with_reducible exact sc_int
  | with_reducible exact sc_abs
  | with_reducible exact sc_str
  | with_reducible exact sc_mm
  | with_reducible exact sc_list
  | with_reducible exact sc_tuple
  | with_reducible exact sc_sum
  | with_reducible exact sc_all
  | with_reducible exact sc_any
  | with_reducible exact sc_isi
  | with_reducible exact sc_isiT
  | with_reducible exact sc_repr
  | with_reducible exact sl_x
  | with_reducible exact sl_t
  | with_reducible exact sl_l
  | with_reducible exact sl_s
  | ((with_reducible apply SimE.g); walk_at "sim")
  | (intros; decide)
  | skip)

def tmT (H h : Nat) : D → D
  | .int s => .int ((2 * H + s.toNat * (3 * H + 1) + 3 * (H - h) : Nat) : Int)
  | _ => .non
def stg (H : Nat) : Nat → List (List D) → List D
  | _, [] => []
  | h, row :: r => row.map (tmT H h) ++ stg H (h + 1) r
def stD : D → List D
  | .tup ds => ds
  | _ => []
def frameD (H m : Nat) (os : List D) (st : D) : List D := lkT H ++ stD st ++ stg H 0 (laidR (rngD 0 m) os)
def kyT (H : Nat) : List D := (List.range H).map fun (i : Nat) => D.int (i : Int)
theorem snoc_len {α : Type} {l : List α} {a : α} : (l ++ [a]).length = l.length + 1 := by simp
theorem kyT_succ (k : Nat) : kyT (k + 1) = kyT k ++ [.int (k : Int)] := by simp [kyT, List.range_succ]
theorem frs_succ (k : Nat) : frs (k + 1) = frs k ++ [frD (k : Int)] := by simp [frs, List.range_succ]
theorem lks_succ (k : Nat) : lks (k + 1) = lks k ++ [enD "lock" [(k : Int)]] := by simp [lks, List.range_succ]
theorem frs_good : ∀ k : Nat, GoodR (frs k) (k : Int)
  | 0 => ⟨Int.le_refl _, fun i d h => by simp [frs] at h⟩
  | k + 1 => by
    rw [frs_succ]
    exact (frs_good k).fr
theorem lks_good (H : Nat) : ∀ k : Nat, k ≤ H → GoodR (frs H ++ lks k) (H : Int)
  | 0, _ => by
    rw [show lks 0 = [] from rfl, List.append_nil]
    exact frs_good H
  | k + 1, h => by
    rw [lks_succ, ← List.append_assoc]
    refine (lks_good H k (by omega)).put (by decide) fun q hq => ?_
    simp at hq
    subst hq
    simp
    omega
theorem kyT_at {H : Nat} {done rest : List D} {d : D} (e : kyT H = done ++ d :: rest) : d = .int (done.length : Int) ∧ done.length < H := by
  have l := congrArg List.length e
  simp [kyT] at l
  have := congrArg (fun z : List D => z[done.length]?) e
  simp [kyT] at this
  rw [List.getElem?_range (by omega)] at this
  simp at this
  exact ⟨this.symm, by omega⟩
theorem lks_new {H k : Nat} : ∀ d ∈ frs H ++ lks k, d.nk ≠ some (.tup [.text "lock", .tup ([(k : Int)].map NestedKey.num)]) := fun d hd e => by
  rcases List.mem_append.mp hd with hd | hd
  · unfold frs at hd
    obtain ⟨i, _, rfl⟩ := List.mem_map.mp hd
    rw [frD_nk] at e
    simp at e
    exact absurd e.1 (by decide)
  · unfold lks at hd
    obtain ⟨i, hi, rfl⟩ := List.mem_map.mp hd
    have := List.mem_range.mp hi
    rw [enD_nk] at e
    simp at e
    omega
theorem kyT_ix {H : Nat} {q : Int} (h0 : 0 ≤ q) (h1 : q < (H : Int)) : atI (kyT H) q = some (.int q) := by
  obtain ⟨j, rfl⟩ := Int.eq_ofNat_of_zero_le h0
  refine atI_nat ?_
  unfold kyT
  rw [List.getElem?_map, List.getElem?_range (by omega)]
  rfl
def isRow (m : Nat) (row : List D) : Prop := ∃ ps : List Int, row = ps.map D.int ∧ ps.Perm ((List.range m).map fun (i : Nat) => (i : Int))
theorem range_get {α : Type} (l : List α) (d : α) : (List.range l.length).map (fun i => l.getD i d) = l := by
  refine List.ext_getElem (by simp) fun i h1 h2 => ?_
  simp [List.getElem?_eq_getElem h2]
theorem row_step {m : Nat} {row : List D} {o : D} (h : isRow m row) (ho : isPerm m o) : isRow m (rowStep row o) := by
  obtain ⟨ps, rfl, pp⟩ := h
  obtain ⟨qs, rfl, pq⟩ := ho
  have pl : ps.length = m := by simpa using pp.length_eq
  have e : rowStep (ps.map D.int) (.tup (qs.map D.int)) = (qs.map fun q => ps.getD q.toNat 0).map D.int := by
    show List.map _ (qs.map D.int) = _
    rw [List.map_map, List.map_map]
    refine List.map_congr_left fun q hq => ?_
    obtain ⟨i, hi, rfl⟩ := List.mem_map.mp (pq.mem_iff.mp hq)
    have := List.mem_range.mp hi
    have e2 : atI (ps.map D.int) (i : Int) = some (D.int (ps.getD i 0)) := by
      refine atI_nat ?_
      rw [List.getElem?_map, List.getElem?_eq_getElem (by omega)]
      simp [List.getD, List.getElem?_eq_getElem (show i < ps.length by omega)]
    simp [e2]
  refine ⟨_, e, ?_⟩
  refine (pq.map fun q => ps.getD q.toNat 0).trans ?_
  rw [List.map_map]
  have e3 : (List.range m).map ((fun q : Int => ps.getD q.toNat 0) ∘ fun (i : Nat) => (i : Int)) = ps := by
    rw [← pl]
    exact range_get ps 0
  rw [e3]
  exact pp
theorem laid_rows (m : Nat) : ∀ (row : List D) (os : List D), isRow m row → (∀ o ∈ os, isPerm m o) → ∀ r ∈ laidR row os, isRow m r
  | row, [], h, _, r, hr => by
    simp [laidR] at hr
    subst hr
    exact h
  | row, o :: os, h, ho, r, hr => by
    simp only [laidR, List.mem_cons] at hr
    rcases hr with rfl | hr
    · exact h
    · exact laid_rows m (rowStep row o) os (row_step h (ho o (by simp))) (fun q hq => ho q (by simp [hq])) r hr
theorem laid_len : ∀ (row : List D) (os : List D), (laidR row os).length = os.length + 1
  | _, [] => rfl
  | row, o :: os => by
    show (laidR (rowStep row o) os).length + 1 = _
    rw [laid_len (rowStep row o) os]
    rfl
def layL (H s : Nat) : List D := ((List.range (H + 1)).map fun j => D.int ((2 * H + s * (3 * H + 1) + 3 * j : Nat) : Int)).reverse
theorem layT_eq (H s : Nat) : layT H s = .lst (layL H s) := rfl
theorem lay_ix {H s h : Nat} (hh : h ≤ H) : atI (layL H s) (h : Int) = some (tmT H h (.int (s : Int))) := by
  refine atI_nat ?_
  unfold layL
  rw [List.getElem?_reverse (by simp; omega), List.getElem?_map]
  simp only [List.length_map, List.length_range]
  rw [List.getElem?_range (by omega)]
  unfold tmT
  simp
theorem rng_ix {m s : Nat} {f : Nat → D} (h : s < m) : atI ((List.range m).map f) (s : Int) = some (f s) := by
  refine atI_nat ?_
  rw [List.getElem?_map, List.getElem?_range h]
  rfl
theorem stg_len {H m : Nat} : ∀ {h : Nat} {rs : List (List D)}, (∀ r ∈ rs, r.length = m) → (stg H h rs).length = rs.length * m
  | _, [], _ => by simp [stg]
  | h, r :: rs, q => by
    rw [stg, List.length_append, List.length_map, q r (by simp), stg_len fun z hz => q z (by simp [hz]), List.length_cons, Nat.add_mul]
    omega
def wfFramed (P : Program) (w : World) (C : Addr) : WF Rg := fun ds s k _ => match ds with
  | [.int m, .tup os, st] => ∃ many : Nat, m = many ∧ Mix many os st ∧ ∀ b r p s', s b = none → s r = none → s p = none → BkAt P w C b r p (onsR os.length many).1 (onsR os.length many).2 s' → OffB b r p s s' → k (.tup [.opq b, .tup (frameD os.length many os st)]) s'
  | _ => False
abbrev s_framed : Stmt := top 33
abbrev N_framed : List Str := ["many", "orders", "stolen", "book", "keys", "order", "locks", "key", "onions", "sender", "terms", "hop", "row"]
theorem sc_framed : FnScope N_framed ["many", "orders", "stolen"] (defScope s_framed) := ⟨rfl, rfl, rfl, by decide +kernel, rfl, by decide +kernel, by decide +kernel⟩
section
variable {P : Program} {w : World} {K : PySem.W.Frag} {mg : Str → Option Value} {base : Heap} {CB : Addr}
theorem ok_framed (T : Tx P w K mg) (kBook : Cm P w K mg base 1 "Book" CB (spBk P w CB)) (q_Book_raw_put : Cf P w K mg base 1 CB "raw_put" (spX RW (wfRaw P w CB))) (q_Book_fresh : Cf P w K mg base 2 CB "fresh" (spX RW (wfFresh P w CB))) (f_onion : Df P w K mg base 3 "onion" (spX RW (wfOnion P w CB))) (f_laid : Df P w K mg base 1 "laid" (spX RW wfLaid)) {f : Addr} {fd : FuncData} (F : FD K "framed" s_framed f fd) : Fn P w K mg base 4 f fd ["many", "orders", "stolen"] (spX RW (wfFramed P w CB)) := by
  refine fn_data F sc_framed (fun ds s k x h => ?_) fun cv A outer s H G hr gd => ⟨_, (pss_cons (ps_set (i := 3) sc_framed.nd rfl (Or.inr rfl) (pe_mkC0 kBook hr (by omega) gd rfl (fun σ => Gl.no_pass σ)))
    (pss_cons (ps_set (i := 4) sc_framed.nd rfl (Or.inr rfl) (pe_lc (own := [("order", 5)]) (g := gName 5) (by rfl) sc_framed.nd (kpi (K := K) (pv 1)) (blkOk_by (own := [("order", 5)]) (N := N_framed) (sc := defScope s_framed) (by decide +kernel)) (fun _ _ _ _ _ => pg_name (i := 5) sc_framed.nd rfl (Or.inl rfl)) (fun _ _ _ _ _ => pts_nil) (fun _ _ _ _ _ => (pe_mt0 q_Book_fresh hr (by omega) gd (fun σ => Gl.no_pass σ) (pv 3)))))
    (pss_cons (ps_set (i := 6) sc_framed.nd rfl (Or.inr rfl) (pe_lc (own := [("key", 7)]) (g := gName 7) (by rfl) sc_framed.nd (kpi (K := K) (pv 4)) (blkOk_by (own := [("key", 7)]) (N := N_framed) (sc := defScope s_framed) (by decide +kernel)) (fun _ _ _ _ _ => pg_name (i := 7) sc_framed.nd rfl (Or.inl rfl)) (fun _ _ _ _ _ => pts_nil) (fun _ _ _ _ _ => (pe_mtA q_Book_raw_put hr (by omega) gd (fun σ => Gl.no_pass σ) (pv 3) (pa_cons pe_str (pa_cons (pe_tup (pa_cons (pv 7) pa_nil)) pa_nil))))))
    (pss_cons (ps_set (i := 8) sc_framed.nd rfl (Or.inr rfl) (pe_lc (own := [("sender", 9)]) (g := gName 9) (by rfl) sc_framed.nd (pi_range1 rfl T.range (pa_cons (pv 0) pa_nil)) (blkOk_by (own := [("sender", 9)]) (N := N_framed) (sc := defScope s_framed) (by decide +kernel)) (fun _ _ _ _ _ => pg_name (i := 9) sc_framed.nd rfl (Or.inl rfl)) (fun _ _ _ _ _ => pts_nil) (fun _ _ _ _ _ => (pe_df f_onion hr (by omega) gd rfl (fun σ => Gl.no_pass σ) (pa_cons (pv 3) (pa_cons (pv 6) pa_nil))))))
    (pss_cons (ps_set (i := 10) sc_framed.nd rfl (Or.inl rfl) (pe_op (kAdd (K := K)) (pv 6) (pe_lc (own := [("hop", 11)]) (g := gName 11) (by rfl) sc_framed.nd (kpi (K := K) (pv 2)) (blkOk_by (own := [("hop", 11)]) (N := N_framed) (sc := defScope s_framed) (by decide +kernel)) (fun _ _ _ _ _ => pg_name (i := 11) sc_framed.nd rfl (Or.inl rfl)) (fun _ _ _ _ _ => pts_nil) (fun _ _ _ _ _ => (pe_ix (kIx (K := K)) (pv 4) (pv 11) (fun _ _ => rfl))))))
    (pss_cons (ps_for (passes_of rfl) rfl (pi_enum rfl T.enumerate (pa_cons (pe_df f_laid hr (by omega) gd rfl (fun σ => Gl.no_pass σ) (pa_cons (pv 1) pa_nil)) pa_nil)) (kTup (K := K) (n := 2) rfl (pgs_cons (pg_name (i := 11) sc_framed.nd rfl (Or.inr rfl)) (pgs_cons (pg_name (i := 12) sc_framed.nd rfl (Or.inl rfl)) pgs_nil)))
      (pss_one (ps_expr (pe_bm PySem.F.plainAttrs_list PySem.F.slot_list_extend PySem.F.type_list_extend mt_extend (pv 10) (pa_cons (pe_lc (own := [("sender", 9)]) (g := gName 9) (by rfl) sc_framed.nd (kpi (K := K) (pv 12)) (blkOk_by (own := [("sender", 9)]) (N := N_framed) (sc := defScope s_framed) (by decide +kernel)) (fun _ _ _ _ _ => pg_name (i := 9) sc_framed.nd rfl (Or.inl rfl)) (fun _ _ _ _ _ => pts_nil) (fun _ _ _ _ _ => (pe_ix (kIx (K := K)) (pe_ix (kIx (K := K)) (pv 8) (pv 9) (fun _ _ => rfl)) (pv 11) (fun _ _ => rfl)))) pa_nil)))))
    (pss_one (ps_ret (pe_tup (pa_cons (pv 3) (pa_cons (pe_callTy (kTuple (K := K)) (by rfl) T.tuple (by decide +kernel) (pa_cons (pv 10) pa_nil)) pa_nil))))))))))), ?_⟩
  · match ds, h with
    | [.int _, .tup _, _], _ => rfl
  · 
    have ow10 : OwnSl 10 := ⟨⟩
    apply bodyW
    · walk_at "sim"
    intro ds s k x ok h
    match ds, h with
    | [.int m, .tup os, st], h =>
      obtain ⟨many, e, M, hk⟩ := h
      subst e
      obtain ⟨m1, m2, h1, h2, o, sl⟩ := M
      have hsl : os.length ≤ 4 := h2
      refine cut (fun env s' => ∃ b r p, s b = none ∧ s r = none ∧ s p = none ∧ BkAt P w CB b r p [] 0 s' ∧ OffB b r p s s' ∧ env = [.dat (.int many), .dat (.tup os), .dat st, .dat (.opq b), .no, .no, .no, .no, .no, .no, .no, .no, .no]) (fun K1 h1 _ _ => ?_) fun env s' hI => ?_
      · simp [N_framed]
        intro a dx r p ha hr0 hp0 n1 n2 n3
        exact h1 _ _ ⟨a, r, p, ha, hr0, hp0, ⟨dx, [], rup_same, by rw [rup_ne (Ne.symm n1), rup_ne n3, rup_same], by rw [rup_ne (Ne.symm n2), rup_same], n1, n2, n3, rfl, fun i d hd => by simp at hd⟩, fun x h1 h2 h3 => by rw [rup_ne h1, rup_ne h3, rup_ne h2], rfl⟩
      obtain ⟨b, r, p, sb, sr, sp, hB, off, rfl⟩ := hI
      refine cut (fun env s' => BkAt P w CB b r p (frs os.length) os.length s' ∧ OffB b r p s s' ∧ env = [.dat (.int many), .dat (.tup os), .dat st, .dat (.opq b), .dat (.lst (kyT os.length)), .no, .no, .no, .no, .no, .no, .no, .no]) (fun K1 h1 _ _ => ?_) fun env s' hI => ?_
      · simp
        refine ⟨by rw [sizeLine_eq]; omega, wLc_fold (fun done ys s2 => BkAt P w CB b r p (frs done.length) done.length s2 ∧ OffB b r p s s2 ∧ ys = kyT done.length) (fun done d rest ys s2 e0 i kt hkt => ?_) ⟨hB, off, rfl⟩ fun ys s2 i => ?_⟩
        · obtain ⟨hB, off, rfl⟩ := i
          have hb := hB
          obtain ⟨dx, xs, hb, _⟩ := hb
          have := congrArg List.length e0
          simp at this
          simp [hb, wfFresh]
          refine ⟨noM (by decide), r, p, _, _, hB, (frs_good _).frB, by simp; omega, fun s3 hB' off' => hkt _ _ ⟨?_, off.trans off', ?_⟩⟩
          · rw [snoc_len, frs_succ]
            exact hB'
          · rw [snoc_len, kyT_succ]
            simp
        · obtain ⟨hB, off, rfl⟩ := i
          exact h1 _ _ ⟨hB, off, rfl⟩
      clear hB off
      obtain ⟨hB, off, rfl⟩ := hI
      refine cut (fun env s' => BkAt P w CB b r p (frs os.length ++ lks os.length) os.length s' ∧ OffB b r p s s' ∧ env = [.dat (.int many), .dat (.tup os), .dat st, .dat (.opq b), .dat (.lst (kyT os.length)), .no, .dat (.lst (lkT os.length)), .no, .no, .no, .no, .no, .no]) (fun K1 h1 _ _ => ?_) fun env s' hI => ?_
      · simp
        refine ⟨by simp [kyT]; rw [sizeLine_eq]; omega, wLc_fold (fun done ys s2 => BkAt P w CB b r p (frs os.length ++ lks done.length) os.length s2 ∧ OffB b r p s s2 ∧ ys = (List.range done.length).map fun (i : Nat) => D.int ((os.length + i : Nat) : Int)) (fun done d rest ys s2 e0 i kt hkt => ?_) ⟨by rw [show frs os.length ++ lks ([] : List D).length = frs os.length by simp [lks]]; exact hB, off, rfl⟩ fun ys s2 i => ?_⟩
        · obtain ⟨hB, off, rfl⟩ := i
          have hb := hB
          obtain ⟨dx, xs, hb, _⟩ := hb
          obtain ⟨rfl, hlt⟩ := kyT_at e0
          simp [hb]
          refine ⟨noM (by decide), by decide, r, p, _, _, _, hB, enD_nk "lock" [(done.length : Int)], by simp [NestedKey.depth, NestedKey.depthAll], rfl, by simp; omega, lks_new, fun s3 hB' off' => hkt _ _ ⟨?_, off.trans off', ?_⟩⟩
          · rw [snoc_len, lks_succ, ← List.append_assoc]
            exact hB'
          · rw [snoc_len]
            simp [List.range_succ]
        · obtain ⟨hB, off, rfl⟩ := i
          refine h1 _ _ ⟨?_, off, ?_⟩
          · rw [show (kyT os.length).length = os.length by simp [kyT]] at hB
            exact hB
          · simp [lkT, kyT]
      clear hB off
      obtain ⟨hB, off, rfl⟩ := hI
      refine cut (fun env s' => BkAt P w CB b r p (onsR os.length many).1 (onsR os.length many).2 s' ∧ OffB b r p s s' ∧ env = [.dat (.int many), .dat (.tup os), .dat st, .dat (.opq b), .dat (.lst (kyT os.length)), .no, .dat (.lst (lkT os.length)), .no, .dat (.lst ((List.range many).map (layT os.length))), .no, .no, .no, .no]) (fun K1 h1 _ _ => ?_) fun env s' hI => ?_
      · simp
        refine ⟨by rw [sizeLine_eq]; omega, by rw [rngD_len, sizeLine_eq]; omega, wLc_fold (fun done ys s2 => BkAt P w CB b r p (onsR os.length done.length).1 (onsR os.length done.length).2 s2 ∧ OffB b r p s s2 ∧ ys = (List.range done.length).map (layT os.length)) (fun done d rest ys s2 e0 i kt hkt => ?_) ⟨hB, off, rfl⟩ fun ys s2 i => ?_⟩
        · obtain ⟨hB, off, rfl⟩ := i
          have ll := congrArg List.length e0
          rw [rngD_len, List.length_append, List.length_cons] at ll
          have rl := onsR_len os.length done.length
          have : done.length * (3 * os.length + 1) ≤ 6 * 13 := Nat.mul_le_mul (by omega) (by omega)
          simp
          refine ⟨r, p, _, _, hB, onsR_good _ (lks_good _ _ (Nat.le_refl _)) _, fun d hd => ?_, by rw [lkT_len]; omega, fun s3 hB' off' => ?_⟩
          · unfold lkT at hd
            obtain ⟨i, hi, rfl⟩ := List.mem_map.mp hd
            have := List.mem_range.mp hi
            exact ⟨_, rfl, by omega, by omega⟩
          · rw [onsR_lay]
            refine hkt _ _ ⟨?_, off.trans off', ?_⟩
            · rw [snoc_len]
              exact hB'
            · rw [snoc_len]
              simp [List.range_succ]
        · obtain ⟨hB, off, rfl⟩ := i
          refine h1 _ _ ⟨?_, off, ?_⟩
          · rw [rngD_len] at hB
            exact hB
          · rw [rngD_len]
      clear hB off
      obtain ⟨hB, off, rfl⟩ := hI
      obtain ⟨ps, rfl, pw, hps⟩ := sl
      have pl : ps.length ≤ 4 := by
        have := asc_len (lo := 0) (hi := (os.length : Int)) (by omega) pw hps
        omega
      refine cut (fun env s2 => s2 = s' ∧ env = [.dat (.int many), .dat (.tup os), .dat (.tup (ps.map D.int)), .dat (.opq b), .dat (.lst (kyT os.length)), .no, .dat (.lst (lkT os.length)), .no, .dat (.lst ((List.range many).map (layT os.length))), .no, .own (lkT os.length ++ ps.map D.int), .no, .no]) (fun K1 h1 _ _ => ?_) fun env s' hI => ?_
      · simp
        refine ⟨by rw [sizeLine_eq]; omega, wLc_map (fun d => d) (fun d hd kt hkt => ?_) ?_⟩
        · obtain ⟨q, hq, rfl⟩ := List.mem_map.mp hd
          have := hps q hq
          simp [kyT_ix this.1 this.2]
          exact hkt
        · rw [List.map_id'] 
          exact ⟨by rw [List.length_map, sizeLine_eq]; omega, h1 _ _ ⟨rfl, rfl⟩⟩
      obtain ⟨rfl, rfl⟩ := hI
      simp
      refine ⟨many, m1, m2, by intro z; subst z; simp at h1, h2, fun o' ho' => (o o' ho').ord, ?_⟩
      have rows := laid_rows many (rngD 0 many) os ⟨(List.range many).map fun (i : Nat) => (i : Int), by rw [rngD_eq, List.map_map]; refine List.map_congr_left fun i _ => by simp, List.Perm.refl _⟩ o
      have rl := laid_len (rngD 0 many) os
      refine wFor_ind (fun rest env t => ∃ (i : Nat) (rs acc : List (List D)) (v9 v11 v12 : Sl) (ac : List D), rest = enumD i (rs.map D.lst) ∧ laidR (rngD 0 many) os = acc ++ rs ∧ acc.length = i ∧ lkT os.length ++ ps.map D.int ++ stg os.length 0 (laidR (rngD 0 many) os) = ac ++ stg os.length i rs ∧ t = s' ∧ env = [.dat (.int many), .dat (.tup os), .dat (.tup (ps.map D.int)), .dat (.opq b), .dat (.lst (kyT os.length)), .no, .dat (.lst (lkT os.length)), .no, .dat (.lst ((List.range many).map (layT os.length))), v9, .own ac, v11, v12]) ⟨0, _, [], .no, .no, .no, _, rfl, rfl, rfl, rfl, rfl, rfl⟩ (fun env t hp => ?_) fun d rest ih env t hp => ?_
      · obtain ⟨i, rs, acc, v9, v11, v12, ac, e0, e1, e2, e3, rfl, rfl⟩ := hp
        match rs, e0 with
        | [], _ =>
          simp [stg] at e3
          simp
          refine ⟨by decide, ?_⟩
          have := hk b r p t sb sr sp hB off
          unfold frameD stD at this
          dsimp only at this
          rw [List.append_assoc, e3] at this
          exact this
      · obtain ⟨i, rs, acc, v9, v11, v12, ac, e0, e1, e2, e3, rfl, rfl⟩ := hp
        match rs, e0 with
        | row :: rs', e0 =>
          simp only [List.map_cons, enumD, List.cons.injEq] at e0
          obtain ⟨rfl, rfl⟩ := e0
          have il : acc.length + (rs'.length + 1) = os.length + 1 := by
            have := congrArg List.length e1
            rw [rl] at this
            simp at this
            omega
          obtain ⟨qs, er, pq⟩ := rows row (by rw [e1]; simp)
          subst e2
          have rlen : row.length = many := by
            rw [er, List.length_map, pq.length_eq]
            simp
          simp
          refine ⟨by rw [sizeLine_eq]; omega, wLc_map (tmT os.length acc.length) (fun d hd kt hkt => ?_) ?_⟩
          · rw [er] at hd
            obtain ⟨q, hq, rfl⟩ := List.mem_map.mp hd
            obtain ⟨s0, hs0, rfl⟩ := List.mem_map.mp (pq.mem_iff.mp hq)
            have := List.mem_range.mp hs0
            simp [rng_ix (f := layT os.length) this, layT_eq, lay_ix (H := os.length) (s := s0) (h := acc.length) (by omega)]
            exact hkt
          · refine ⟨?_, ih _ _ ⟨acc.length + 1, rs', acc ++ [row], v9, _, _, ac ++ row.map (tmT os.length acc.length), rfl, by rw [e1]; simp, by simp, ?_, rfl, rfl⟩⟩
            · have := congrArg List.length e3
              rw [stg, List.length_append, List.length_append (as := ac), List.length_append (as := row.map _), List.length_append, lkT_len, List.length_map, stg_len (m := many)] at this
              · rw [laid_len] at this
                have m3 : (os.length + 1) * many ≤ 5 * 6 := Nat.mul_le_mul (by omega) m2
                rw [sizeLine_eq]
                omega
              · intro r hr
                obtain ⟨zs, rfl, pz⟩ := rows r hr
                rw [List.length_map, pz.length_eq]
                simp
            · rw [e3, stg, List.append_assoc]
end
end Law
set_option Elab.async false
set_option linter.all false
set_option maxRecDepth 100000
set_option maxHeartbeats 4000000
/-! Rl: dicts with keys as lists of pairs: what is in them behind a write, how many; what the registry keeps. -/
namespace Dw
open PySem PySem.Spec PyProof.Rows L2
def hasK (kvs : List (Key × D)) (k : Key) : Bool := (valK kvs k).isSome
theorem valK_nil (k : Key) : valK [] k = none := rfl
theorem valK_cons (p : Key × D) (r : List (Key × D)) (k : Key) : valK (p :: r) k = if p.1 = k then some p.2 else valK r k := by
  by_cases e : p.1 = k <;> simp [valK, List.find?_cons, e]
theorem any_hasK (k : Key) : ∀ kvs : List (Key × D), (kvs.any fun kv => decide (kv.1 = k)) = hasK kvs k
  | [] => rfl
  | p :: r => by
    rw [List.any_cons, any_hasK k r]
    unfold hasK
    rw [valK_cons]
    by_cases e : p.1 = k <;> simp [e]
theorem valK_map {k j : Key} {v : D} : ∀ kvs : List (Key × D), valK (kvs.map fun kv => if kv.1 = k then (kv.1, v) else kv) j = if j = k then (if hasK kvs k then some v else none) else valK kvs j
  | [] => by simp [valK_nil, hasK]
  | p :: r => by
    rw [List.map_cons, valK_cons, valK_map r, valK_cons]
    unfold hasK
    rw [valK_cons]
    by_cases e : p.1 = k
    · by_cases q : j = k
      · simp [e, q]
      · have : ¬ k = j := fun z => q z.symm
        simp [e, q, this]
    · by_cases q : j = k
      · subst q
        simp [e]
      · simp [e, q]
theorem valK_snoc {k j : Key} {v : D} : ∀ kvs : List (Key × D), hasK kvs k = false → valK (kvs ++ [(k, v)]) j = if j = k then some v else valK kvs j
  | [], _ => by
    rw [List.nil_append, valK_cons, valK_nil]
    by_cases q : j = k
    · simp [q]
    · have : ¬ k = j := fun z => q z.symm
      simp [q, this]
  | p :: r, h => by
    unfold hasK at h
    rw [valK_cons] at h
    by_cases e : p.1 = k
    · simp [e] at h
    · rw [if_neg e] at h
      rw [List.cons_append, valK_cons, valK_snoc r h, valK_cons]
      by_cases q : j = k
      · subst q
        simp [e]
      · simp [q]
theorem valK_put (kvs : List (Key × D)) (k j : Key) (v : D) : valK (putKD kvs k v) j = if j = k then some v else valK kvs j := by
  unfold putKD
  rw [any_hasK]
  cases h : hasK kvs k with
  | true => rw [if_pos rfl, valK_map, h]; rfl
  | false => rw [if_neg (by decide), valK_snoc kvs h]
theorem hasK_put (kvs : List (Key × D)) (k j : Key) (v : D) : hasK (putKD kvs k v) j = (decide (j = k) || hasK kvs j) := by
  unfold hasK
  rw [valK_put]
  by_cases q : j = k <;> simp [q]
theorem len_put (kvs : List (Key × D)) (k : Key) (v : D) : (putKD kvs k v).length = kvs.length + if hasK kvs k then 0 else 1 := by
  unfold putKD
  rw [any_hasK]
  cases h : hasK kvs k <;> simp
theorem hasK_mrg : ∀ (more kvs : List (Key × D)) (j : Key), hasK (mrgD kvs more) j = (hasK kvs j || more.any fun p => decide (p.1 = j))
  | [], kvs, j => by simp [mrgD]
  | p :: r, kvs, j => by
    show hasK (mrgD (putKD kvs p.1 p.2) r) j = _
    rw [hasK_mrg r, hasK_put, List.any_cons]
    by_cases q : j = p.1
    · subst q
      simp
    · have : ¬ p.1 = j := fun z => q z.symm
      simp [q, this]
/-- how many of the ints below n are not there -/
def missK (kvs : List (Key × D)) : Nat → Nat
  | 0 => 0
  | n + 1 => missK kvs n + if hasK kvs (.inl (n : Int)) then 0 else 1
theorem miss_put (kvs : List (Key × D)) (t : Nat) (v : D) : ∀ n, missK (putKD kvs (.inl (t : Int)) v) n + (if t < n ∧ hasK kvs (.inl (t : Int)) = false then 1 else 0) = missK kvs n
  | 0 => by simp [missK]
  | n + 1 => by
    have ih := miss_put kvs t v n
    unfold missK
    rw [hasK_put]
    by_cases e : n = t
    · subst e
      cases h : hasK kvs (.inl (n : Int)) with
      | true => simp [h] at ih ⊢; omega
      | false => simp [h] at ih ⊢; omega
    · have e1 : decide ((Sum.inl (n : Int) : Key) = .inl (t : Int)) = false := by
        refine decide_eq_false fun z => e ?_
        have := Sum.inl.inj z
        omega
      rw [e1, Bool.false_or]
      have e2 : (t < n + 1 ∧ hasK kvs (.inl (t : Int)) = false) ↔ (t < n ∧ hasK kvs (.inl (t : Int)) = false) := ⟨fun ⟨a, b⟩ => ⟨by omega, b⟩, fun ⟨a, b⟩ => ⟨by omega, b⟩⟩
      simp only [e2]
      omega
/-- ints below n put in: what is there and what is missing -/
theorem len_miss {n : Nat} : ∀ {more kvs : List (Key × D)}, (∀ p ∈ more, ∃ t : Nat, p.1 = .inl (t : Int) ∧ t < n) → (mrgD kvs more).length + missK (mrgD kvs more) n = kvs.length + missK kvs n ∧ kvs.length ≤ (mrgD kvs more).length ∧
    ((mrgD kvs more).length = kvs.length → ∀ p ∈ more, hasK kvs p.1 = true)
  | [], kvs, _ => ⟨rfl, Nat.le_refl _, fun _ _ h => nomatch h⟩
  | p :: r, kvs, h => by
    obtain ⟨t, e, ht⟩ := h p (by simp)
    obtain ⟨a, b, c⟩ := len_miss (more := r) (kvs := putKD kvs p.1 p.2) fun q hq => h q (by simp [hq])
    have l := len_put kvs p.1 p.2
    have m := miss_put kvs t p.2 n
    rw [← e] at m
    show (mrgD (putKD kvs p.1 p.2) r).length + missK (mrgD (putKD kvs p.1 p.2) r) n = _ ∧ _ ≤ (mrgD (putKD kvs p.1 p.2) r).length ∧ ((mrgD (putKD kvs p.1 p.2) r).length = _ → _)
    cases hh : hasK kvs p.1 with
    | true =>
      simp [hh] at l m
      refine ⟨by omega, by omega, fun z q hq => ?_⟩
      rcases List.mem_cons.mp hq with rfl | hq
      · exact hh
      · have := c (by omega) q hq
        rw [hasK_put] at this
        simp at this
        rcases this with z | z
        · rw [z]; exact hh
        · exact z
    | false =>
      simp [hh, ht] at l m
      exact ⟨by omega, by omega, fun z => by omega⟩
/-- a while with a measure, whatever its turns lead to -/
theorem wWh_fuel {S : Type} {c : WT S} {b : WS S} {K : WEnds S} (P : Nat → List Sl → S → Prop) {n : Nat} {env : List Sl} {s : S} (h0 : P n env s)
    (hc : ∀ n j env s, (∀ m env s, m < n → P m env s → wWhN c b j K env s) → P n env s → wWhN c b (j + 1) K env s) : ∃ j, wWhN c b j K env s := by
  have go : ∀ f n env s, n < f → P n env s → wWhN c b f K env s := by
    intro f
    induction f with
    | zero => exact fun n env s h => absurd h (Nat.not_lt_zero _)
    | succ f ih => exact fun n env s h p => hc n f env s (fun m env s hm p => ih m env s (by omega) p) p
  exact ⟨n + 1, go (n + 1) n env s (Nat.lt_succ_self _) h0⟩
/-- all that stood stands -/
def Kp (s s' : Rg) : Prop := ∀ x, s x ≠ none → s' x = s x
theorem Kp.refl {s : Rg} : Kp s s := fun _ _ => rfl
theorem Kp.trans {s t u : Rg} (h : Kp s t) (g : Kp t u) : Kp s u := fun x n => (g x (by rw [h x n]; exact n)).trans (h x n)
theorem Kp.new {s : Rg} {a : Addr} {o : Mo} (h : s a = none) : Kp s (rup s a o) := fun x n => rup_ne fun z => n (by rw [z]; exact h)
theorem Kp.off {s t : Rg} {a : Addr} {o : Mo} (k : Kp s t) (ha : s a = none) : Kp s (rup t a o) := fun x n => (rup_ne fun z => n (by rw [z]; exact ha)).trans (k x n)
/-- all but what stands at a -/
def Kb (a : Addr) (s s' : Rg) : Prop := ∀ x, x ≠ a → s x ≠ none → s' x = s x
theorem Kb.refl {a : Addr} {s : Rg} : Kb a s s := fun _ _ _ => rfl
theorem Kb.trans {a : Addr} {s t u : Rg} (h : Kb a s t) (g : Kb a t u) : Kb a s u := fun x e n => (g x e (by rw [h x e n]; exact n)).trans (h x e n)
theorem Kb.put {a : Addr} {s : Rg} {o : Mo} : Kb a s (rup s a o) := fun x e n => rup_ne e
theorem Kp.kb {a : Addr} {s t : Rg} (h : Kp s t) : Kb a s t := fun x _ n => h x n
theorem Kp.at {s t : Rg} {a : Addr} {o : Mo} (h : Kp s t) (e : s a = some o) : t a = some o := (h a (by rw [e]; simp)).trans e
theorem Kb.at {s t : Rg} {a b : Addr} {o : Mo} (h : Kb b s t) (ne : a ≠ b) (e : s a = some o) : t a = some o := (h a ne (by rw [e]; simp)).trans e
end Dw
set_option Elab.async false
set_option linter.all false
set_option maxRecDepth 100000
set_option maxHeartbeats 4000000
/-! Rm: xs.extend(ys), ys a list or a tuple. -/
namespace L2
open PySem PySem.Spec PyProof.Rows PySem.W
theorem extend_tup (l b : Addr) (its its2 : List Value) (n : Nat) (o2 : Obj) (n2 : Nat) (hz : its.length + its2.length ≤ sizeLine) :
    Meets (Builtin.«list.extend» ⟨[.ref l, .ref b], []⟩) (fun _ R s => s.heap.get? l = some { cls := .type "list", data := .seq its.toArray n } ∧ s.heap.get? b = some o2 ∧ o2.cls = .type "tuple" ∧ o2.data = .seq its2.toArray n2 ∧
      R (.ok (.ret Value.none)) { s with heap := s.heap.update l (Obj.mapSeq fun x => x ++ its2.toArray) }) :=
  .of_wp fun prog w A R s ⟨hl, ho, hc, hd, h⟩ => by
    unfold Builtin.«list.extend»
    refine wpAny_bind ?_
    show wpAny _ _ (pure (Value.ref l, Value.ref b)) _ _ s
    refine wpAny_pure ?_
    show wpAny _ _ (Builtin.List.listExtendWith (.ref l) (.ref b) .none) _ _ s
    unfold Builtin.List.listExtendWith
    refine wpAny_bind (wpAny_typeOf (T := "tuple") ⟨o2, ho, hc⟩ ?_)
    have ht : (Value.type "tuple" == Value.type "tuple") = true := by rfl
    rw [if_pos (by rw [ht]; simp)]
    refine wpAny_bind (listItems_at ho hd ?_)
    refine wpAny_bind (listItems_at (xs := its.toArray) (n := n) hl rfl ?_)
    have hsz : its.toArray.size + its2.toArray.size ≤ sizeLine := by rw [List.size_toArray, List.size_toArray]; exact hz
    rw [if_neg (by rw [notLongL hsz, Bool.and_false]; exact Bool.false_ne_true)]
    refine wpAny_bind (listUpdate_at (xs := its.toArray) (n := n) hl rfl ?_ (by rw [List.size_toArray]; omega) (by rw [Array.size_append]; omega))
    exact wpAny_pure ⟨.none, rfl, h⟩
def rExtX (K : PySem.W.Frag) : V → List V → Hp → VK → Prop := fun x vs H Q => ∃ l b xs zs, x = .ref l ∧ vs = [.ref b] ∧ H l = some (.lst xs) ∧ (H b = some (.lst zs) ∨ SqT K H b zs) ∧ xs.length + zs.length ≤ sizeLine ∧ Q .non (upd H l (.lst (xs ++ zs)))
section
variable {X : Cx}
theorem mt_extX : MtM X "list.extend" (rExtX X.K) := by
  intro pins s σ H x vs v us Q I rx rv h
  obtain ⟨l, b, xs, zs, rfl, rfl, hH, hB, hz, q⟩ := h
  rcases hB with hB | hB
  · exact mt_extend pins s σ H _ _ v us Q I rx rv ⟨l, b, xs, zs, rfl, rfl, hH, hB, hz, q⟩
  cases rx
  obtain ⟨u, rfl, ru⟩ := rv.one
  cases ru
  obtain ⟨z, its, n, r, hl, e⟩ := I.lstM hH
  obtain ⟨its2, r2, ⟨o2, e2, c2, n2, d2⟩, z2⟩ := I.tuple hB
  have l2 := r2.length
  refine call_meets F.slot_list_extend ⟨_, e, rfl⟩ F.entry_list_extend (F.args_list_extend_2 _ _) (extend_tup l b its its2 n o2 n2 (by omega)) ⟨e, e2, c2, d2, ?_⟩
  refine ⟨.non, _, I.lset (its' := its ++ its2) hH e (by simp) (r.append r2) ?_, rfl, q⟩
  rw [List.length_append]
  omega
theorem kExtX {K : PySem.W.Frag} (e : X.K = K := by rfl) : MtM X "list.extend" (rExtX K) := e ▸ mt_extX
end
end L2
namespace Dw
open PySem PySem.Spec PyProof.Rows L2
section
variable {S : Type} {W : Wd S} {G : Gm S} {K : PySem.W.Frag}
@[simp] def wExtX (i : Nat) (w : WE S) : WS S := fun K env s => match sg env i with
  | .own ds => w env s (fun d t => match d with
    | .lst es => ds.length + es.length ≤ sizeLine ∧ K.nx (ss env i (.own (ds ++ es))) t
    | .tup es => ds.length + es.length ≤ sizeLine ∧ K.nx (ss env i (.own (ds ++ es))) t
    | _ => False) K.xc
  | _ => False
theorem ss_extX {K' : PySem.W.Frag} {i : Nat} {te : TE} {w : WE S} (h : SimG W G te w) : SimS W G (tDrop (tBM K "list" (rExtX K') (tVar i) (tCons te tNil))) (wExtX i w) := fun R env σ H s rl KK hw Dn e => by
  unfold wExtX at hw
  cases q : sg env i with
  | own ds =>
    rw [q] at hw
    obtain ⟨p, xs, e1, e2, l, z, nc, ch⟩ := rl.ownL q
    refine ⟨.ref p, e1, .inl ⟨rfl, xs, .of e2⟩, h R env σ H s rl _ KK.xc hw e.xc _ fun d s' v H' hk f j a => ?_⟩
    cases d with
    | lst es =>
      obtain ⟨b, ys, rfl, e3, l3, z3⟩ := a.lstI
      obtain ⟨rl', m⟩ := ch s' H' f j (xs ++ ys) (ds ++ es) ((l.mv f.mv).app l3) (by rw [List.length_append]; exact hk.1)
      exact ⟨p, b, xs, ys, rfl, rfl, f.kp _ _ e2 nc, .inl e3, by rw [l.len, l3.len]; exact hk.1, e.nx R _ σ _ s' hk.2 rl' m⟩
    | tup es =>
      obtain ⟨b, ys, rfl, e3, l3, _, z3⟩ := a.tupI
      obtain ⟨rl', m⟩ := ch s' H' f j (xs ++ ys) (ds ++ es) ((l.mv f.mv).app l3) (by rw [List.length_append]; exact hk.1)
      exact ⟨p, b, xs, ys, rfl, rfl, f.kp _ _ e2 nc, .inr (.of e3), by rw [l.len, l3.len]; exact hk.1, e.nx R _ σ _ s' hk.2 rl' m⟩
    | _ => exact hk.elim
  | _ => rw [q] at hw; exact hw.elim
end
end Dw
set_option Elab.async false
set_option linter.all false
set_option maxRecDepth 100000
set_option maxHeartbeats 8000000
namespace Law
open PySem PySem.Spec PyProof.Rows L2 Gl Dw
local macro_rules | `(tactic| walk_at "sc") => `(tactic| first
  | exact True.intro
  | (show _ ≤ sizeLine; decide +kernel))
local macro_rules | `(tactic| walk_at "sim") => `(tactic| first
  | ((with_reducible apply ss_seq) <;> walk_at "sim")
  | with_reducible exact ss_next
  | ((with_reducible apply ss_raise) <;> walk_at "sim")
  | with_reducible exact ss_raise0
  | ((with_reducible apply ss_try); walk_at "sim"; (intro _; walk_at "sim"); walk_at "sim")
  | ((with_reducible apply loc_if) <;> walk_at "sim")
  | with_reducible exact loc_asgDf
  | with_reducible exact loc_asgMk
  | ((with_reducible apply loc_seq) <;> walk_at "sim")
  | with_reducible exact loc_const
  | with_reducible exact SimHs.nil
  | ((with_reducible apply SimHs.cons); (intro _ _ _ _ _ _; walk_at "sim"); walk_at "sim")
  | with_reducible exact ss_brk
  | with_reducible exact ss_cont
  | with_reducible exact ss_retN
  | ((with_reducible apply ss_ret) <;> walk_at "sim")
  | ((with_reducible apply ss_if) <;> walk_at "sim")
  | ((with_reducible apply ss_asgO); (with_reducible assumption); walk_at "sim")
  | ((with_reducible apply ss_nput) <;> walk_at "sim")
  | ((with_reducible apply ss_setM) <;> walk_at "sim")
  | ((with_reducible apply ss_setL) <;> walk_at "sim")
  | ((with_reducible apply ss_pop) <;> walk_at "sim")
  | ((with_reducible apply ss_popAt) <;> walk_at "sim")
  | ((with_reducible apply ss_asg) <;> walk_at "sim")
  | ((with_reducible apply ss_par) <;> walk_at "sim")
  | ((with_reducible apply ss_par3) <;> walk_at "sim")
  | ((with_reducible apply ss_aug) <;> walk_at "sim")
  | ((with_reducible apply ss_app) <;> walk_at "sim")
  | ((with_reducible apply ss_appM) <;> walk_at "sim")
  | ((with_reducible apply ss_ins) <;> walk_at "sim")
  | ((with_reducible apply si_rev) <;> walk_at "sim")
  | ((with_reducible apply ss_ext) <;> walk_at "sim")
  | ((with_reducible apply ss_extX) <;> walk_at "sim")
  | ((with_reducible apply ss_drop) <;> walk_at "sim")
  | ((with_reducible apply ss_for) <;> walk_at "sim")
  | ((with_reducible apply ss_while) <;> walk_at "sim")
  | with_reducible exact tg_name
  | ((with_reducible apply tg_tup) <;> walk_at "sim")
  | ((with_reducible apply tgs_cons) <;> walk_at "sim")
  | with_reducible exact tgs_nil
  | with_reducible exact sim_bgetE
  | ((with_reducible apply sim_tupRev) <;> walk_at "sim")
  | with_reducible exact sim_bget
  | ((with_reducible apply ss_bput) <;> walk_at "sim")
  | ((with_reducible apply ss_baug) <;> walk_at "sim")
  | ((with_reducible apply sim_nnotin) <;> walk_at "sim")
  | ((with_reducible apply sim_nget) <;> walk_at "sim")
  | ((with_reducible apply ss_nput) <;> walk_at "sim")
  | ((with_reducible apply ss_faugMT (by assumption) (by assumption)) <;> walk_at "sim")
  | ((with_reducible apply sim_fldMT (by assumption) (by assumption)) <;> walk_at "sim")
  | ((with_reducible apply sim_mtM) <;> walk_at "sim")
  | ((with_reducible apply sim_mtM0) <;> walk_at "sim")
  | with_reducible exact sim_newBk
  | with_reducible exact so_ixB
  | with_reducible exact so_ixM
  | with_reducible exact so_raddR
  | with_reducible exact so_rsubR
  | with_reducible exact sc_lenM
  | with_reducible exact sc_sortX
  | with_reducible exact sc_lenB
  | with_reducible exact so_radd
  | with_reducible exact so_rsub
  | with_reducible exact sim_newD
  | ((with_reducible apply sim_getM) <;> walk_at "sim")
  | ((with_reducible apply sim_inM) <;> walk_at "sim")
  | ((with_reducible apply sim_notInM) <;> walk_at "sim")
  | ((with_reducible apply ss_putM) <;> walk_at "sim")
  | ((with_reducible apply ss_updM) <;> walk_at "sim")
  | with_reducible exact sc_dictP
  | with_reducible exact sc_lenY
  | with_reducible exact sc_sortY
  | ((with_reducible apply sim_dgetT) <;> walk_at "sim")
  | ((with_reducible apply sim_dinT) <;> walk_at "sim")
  | ((with_reducible apply sim_dnotInT) <;> walk_at "sim")
  | ((with_reducible apply sim_mt0) <;> walk_at "sim")
  | ((with_reducible apply sim_dcE) <;> walk_at "sim")
  | ((with_reducible apply si_enumT) <;> walk_at "sim")
  | with_reducible exact sc_sortI
  | with_reducible exact sim_var
  | with_reducible exact sim_varG
  | with_reducible exact sim_nil
  | with_reducible exact sim_nilB
  | ((with_reducible apply sim_cons) <;> walk_at "sim")
  | ((with_reducible apply sim_consB) <;> walk_at "sim")
  | ((with_reducible apply sim_c); walk_at "sc")
  | ((with_reducible apply sim_op) <;> walk_at "sim")
  | ((with_reducible apply sim_un) <;> walk_at "sim")
  | ((with_reducible apply sim_isG); (with_reducible assumption); walk_at "sim")
  | ((with_reducible apply sim_cb) <;> walk_at "sim")
  | ((with_reducible apply sim_tup) <;> walk_at "sim")
  | ((with_reducible apply sim_lst) <;> walk_at "sim")
  | ((with_reducible apply sim_lstF) <;> walk_at "sim")
  | ((with_reducible apply sim_call) <;> walk_at "sim")
  | ((with_reducible apply sim_callN) <;> walk_at "sim")
  | ((with_reducible apply sim_sl) <;> walk_at "sim")
  | with_reducible exact sp_no
  | ((with_reducible apply sp_part) <;> walk_at "sim")
  | ((with_reducible apply sim_test) <;> walk_at "sim")
  | ((with_reducible apply sim_tB) <;> walk_at "sim")
  | ((with_reducible apply sim_and) <;> walk_at "sim")
  | ((with_reducible apply sim_or) <;> walk_at "sim")
  | ((with_reducible apply sim_not) <;> walk_at "sim")
  | with_reducible exact sim_yes
  | ((with_reducible apply sim_andV) <;> walk_at "sim")
  | ((with_reducible apply sim_orV) <;> walk_at "sim")
  | ((with_reducible apply sim_notV) <;> walk_at "sim")
  | ((with_reducible apply sim_if) <;> walk_at "sim")
  | ((with_reducible apply sim_chain) <;> walk_at "sim")
  | ((with_reducible apply sim_lcF) <;> walk_at "sim")
  | ((with_reducible apply sim_lcE) <;> walk_at "sim")
  | ((with_reducible apply sim_lstRgF) <;> walk_at "sim")
  | ((with_reducible apply sim_lstRg) <;> walk_at "sim")
  | ((with_reducible apply sim_tupRg) <;> walk_at "sim")
  | ((with_reducible apply sim_rg1) <;> walk_at "sim")
  | ((with_reducible apply sim_rg2) <;> walk_at "sim")
  | ((with_reducible apply sim_listF) <;> walk_at "sim")
  | ((with_reducible apply sim_addF) <;> walk_at "sim")
  | ((with_reducible apply sim_join) <;> walk_at "sim")
  | ((with_reducible apply sim_lenSetS) <;> walk_at "sim")
  | ((with_reducible apply sim_fldT); (with_reducible assumption); (with_reducible assumption); walk_at "sim")
  | ((with_reducible apply sim_mk) <;> walk_at "sim")
  | ((with_reducible apply sim_mkN) <;> walk_at "sim")
  | ((with_reducible apply sim_xf); (with_reducible assumption))
  | with_reducible exact so_eqO
  | ((with_reducible apply si_x) <;> walk_at "sim")
  | ((with_reducible apply si_tup) <;> walk_at "sim")
  | ((with_reducible apply si_list) <;> walk_at "sim")
  | ((with_reducible apply si_str) <;> walk_at "sim")
  | ((with_reducible apply si_rng1) <;> walk_at "sim")
  | ((with_reducible apply si_rng2) <;> walk_at "sim")
  | ((with_reducible apply si_enum) <;> walk_at "sim")
  | ((with_reducible apply si_zip) <;> walk_at "sim")
  | with_reducible exact so_addX
  | with_reducible exact so_mulX
  | with_reducible exact so_divX
  | with_reducible exact so_eqX
  | with_reducible exact so_neX
  | with_reducible exact so_inX
  | with_reducible exact so_notInX
  | with_reducible exact so_ltX
  | with_reducible exact so_gtX
  | with_reducible exact so_geX
  | with_reducible exact so_leX
  | ((with_reducible apply so_i0s); (intros; exact True.intro))
  | ((with_reducible apply so_iCs); (intros; exact True.intro))
  | ((with_reducible apply su_is); (intros; exact True.intro))
  | with_reducible exact so_eq
  | with_reducible exact so_ne
  | with_reducible exact so_isN
  | with_reducible exact so_notN
  | with_reducible exact so_isB
  | with_reducible exact so_notB
  | with_reducible exact so_ixL
  | with_reducible exact so_ixT
  | with_reducible exact so_ixS
  | with_reducible exact so_ix
  | with_reducible exact so_in
  | with_reducible exact so_str
  | with_reducible exact so_inS
  | with_reducible exact so_notInS
  | with_reducible exact so_catT
  | with_reducible exact so_catL
  | with_reducible exact so_addS
  | with_reducible exact so_mulS
  | with_reducible exact so_repT
  | with_reducible exact so_eqD
  | with_reducible exact so_neD
  | with_reducible exact so_inD
  | with_reducible exact so_notInD
  | with_reducible exact so_leT
  | with_reducible exact sc_len
  | with_reducible exact sc_int
  | with_reducible exact sc_abs
  | with_reducible exact sc_str
  | with_reducible exact sc_mm
  | with_reducible exact sc_list
  | with_reducible exact sc_tuple
  | with_reducible exact sc_sum
  | with_reducible exact sc_all
  | with_reducible exact sc_any
  | with_reducible exact sc_isi
  | with_reducible exact sc_isiT
  | with_reducible exact sc_repr
  | with_reducible exact sl_x
  | with_reducible exact sl_t
  | with_reducible exact sl_l
  | with_reducible exact sl_s
  | ((with_reducible apply SimE.g); walk_at "sim")
  | (intros; decide)
  | skip)

theorem BkAt.kp {P : Program} {w : World} {C b r p : Addr} {recs : List D} {n : Int} {s s' : Rg} (h : BkAt P w C b r p recs n s) (k : Kp s s') : BkAt P w C b r p recs n s' := by
  obtain ⟨dx, xs, hb, hr', hp, rest⟩ := h
  exact ⟨dx, xs, k.at hb, k.at hr', k.at hp, rest⟩
def inP (kd : Str) (ps : List D) : List D := if kd = "name" ∨ kd = "number" ∨ kd = "fresh" then [] else ps
/-- records with parts that stand there, at most two -/
def WOk (recs : List D) : Prop := ∀ (i : Nat) (d : D), recs[i]? = some d → ∃ (kd : Str) (ds : List D) (qs : List Int), d = .tup [.str kd, .tup ds] ∧ inP kd ds = qs.map D.int ∧ qs.length ≤ 2 ∧ ∀ q ∈ qs, 0 ≤ q ∧ q < (recs.length : Int)
/-- closed under parts -/
def ClW (recs : List D) (ms ws : List Int) : Prop := ∀ t ∈ ms, ∀ (kd : Str) (ds : List D), atI recs t = some (.tup [.str kd, .tup ds]) → ∀ q : Int, D.int q ∈ inP kd ds → q ∈ ms ∨ q ∈ ws
theorem miss_nil : ∀ n, missK [] n = n
  | 0 => rfl
  | n + 1 => by unfold missK; rw [miss_nil n]; rfl
theorem any_keys {q : Int} : ∀ {kvs : List (Key × D)} {ns : List Int}, kvs.map (·.1) = ns.map Sum.inl → (kvs.any fun kv => decide (kv.1 = .inl q)) = decide (q ∈ ns)
  | [], [], _ => rfl
  | p :: r, n :: ns, e => by
    rw [List.map_cons, List.map_cons] at e
    obtain ⟨e1, e2⟩ := List.cons.inj e
    rw [List.any_cons, any_keys e2, e1]
    by_cases h : n = q
    · subst h
      simp
    · have h' : ¬ q = n := fun z => h z.symm
      have h'' : ¬ (Sum.inl n : Key) = .inl q := fun z => h (Sum.inl.inj z)
      simp [h', h'']
  | [], _ :: _, e => by simp at e
  | _ :: _, [], e => by simp at e
theorem nil_or_snoc {α : Type} (l : List α) : l = [] ∨ ∃ r q, l = r ++ [q] := by
  rcases List.eq_nil_or_concat l with h | ⟨r, q, h⟩
  · exact .inl h
  · exact .inr ⟨r, q, by rw [h, List.concat_eq_append]⟩
def wfInner (P : Program) (w : World) (C : Addr) : WF Rg := fun ds s k _ => match ds with
  | [.opq b, .int t] => ∃ r p recs n kd ps, BkAt P w C b r p recs n s ∧ 0 ≤ t ∧ t < (recs.length : Int) ∧ atI recs t = some (.tup [.str kd, .tup ps]) ∧ k (.tup (inP kd ps)) s
  | _ => False
def isSeq (d : D) (ts : List Int) : Prop := d = .tup (ts.map D.int) ∨ d = .lst (ts.map D.int)
def wfRawW (P : Program) (w : World) (C : Addr) : WF Rg := fun ds s k _ => match ds with
  | [.opq b, d] => ∃ r p recs n ts, BkAt P w C b r p recs n s ∧ WOk recs ∧ recs.length ≤ 10000 ∧ isSeq d ts ∧ (∀ t ∈ ts, 0 ≤ t ∧ t < (recs.length : Int)) ∧ ts.length ≤ 10000 ∧
    ∀ ms s', Kp s s' → (∀ t ∈ ms, 0 ≤ t ∧ t < (recs.length : Int)) → (∀ t ∈ ts, t ∈ ms) → ms.length ≤ 10000 → ClW recs ms [] → k (.lst (ms.map D.int)) s'
  | _ => False
abbrev s_Book_inner : Stmt := inClass (top 22) 12
abbrev N_Book_inner : List Str := ["self", "term", "kind", "parts"]
theorem sc_Book_inner : FnScope N_Book_inner ["self", "term"] (defScope s_Book_inner) := ⟨rfl, rfl, rfl, by decide +kernel, rfl, by decide +kernel, by decide +kernel⟩
abbrev s_Book_raw_within : Stmt := inClass (top 22) 15
abbrev N_Book_raw_within : List Str := ["self", "terms", "found", "waiting", "term"]
theorem sc_Book_raw_within : FnScope N_Book_raw_within ["self", "terms"] (defScope s_Book_raw_within) := ⟨rfl, rfl, rfl, by decide +kernel, rfl, by decide +kernel, by decide +kernel⟩
abbrev s_Book_within : Stmt := inClass (top 22) 16
abbrev N_Book_within : List Str := ["self", "terms", "term"]
theorem sc_Book_within : FnScope N_Book_within ["self", "terms"] (defScope s_Book_within) := ⟨rfl, rfl, rfl, by decide +kernel, rfl, by decide +kernel, by decide +kernel⟩
abbrev s_mix_frame : Stmt := top 34
abbrev N_mix_frame : List Str := ["many", "orders", "stolen"]
theorem sc_mix_frame : FnScope N_mix_frame ["many", "orders", "stolen"] (defScope s_mix_frame) := ⟨rfl, rfl, rfl, by decide +kernel, rfl, by decide +kernel, by decide +kernel⟩
section
variable {P : Program} {w : World} {K : PySem.W.Frag} {mg : Str → Option Value} {base : Heap} {CB : Addr}
theorem ok_inner (T : Tx P w K mg) (cB : ClB K CB) {f : Addr} {fd : FuncData} (F : FB K "inner" "Book.inner" s_Book_inner f fd) : Fn P w K mg base 1 f fd ["self", "term"] (spX RW (wfInner P w CB)) := by
  refine fn_data F sc_Book_inner (fun ds s k x h => ?_) fun cv A outer s H G hr gd => ⟨_, (pss_cons (ps_asg (pe_ix (kIx (K := K)) (kFld (K := K) (pv 0) rfl) (pv 1) (fun _ _ => rfl)) (kTup (K := K) (n := 2) rfl (pgs_cons (pg_name (i := 2) sc_Book_inner.nd rfl (Or.inl rfl)) (pgs_cons (pg_name (i := 3) sc_Book_inner.nd rfl (Or.inl rfl)) pgs_nil))))
    (pss_one (ps_ret (pe_ifExp (pt_cmpR (kIn (K := K) hr) (pv 2) (pe_tup (pa_cons (C8.pe_gc rfl T.m_NAME) (pa_cons (C8.pe_gc rfl T.m_NUMBER) (pa_cons (C8.pe_gc rfl T.m_FRESH) pa_nil)))) rfl) (pe_tup pa_nil) (pv 3))))), ?_⟩
  · match ds, h with
    | [.opq a, .int _], _ => rfl
  · have c1 := cB.cls
    have c2 := cB.n1
    apply bodyW
    · walk_at "sim"
    intro ds s k x ok h
    match ds, h with
    | [.opq b, .int t], ⟨r, p, recs, n, kd, ps, ⟨dx, xs, hb, hr', hp, br, bp, rp, lx, hx⟩, t0, t1, ht, hk⟩ =>
      simp [hb, hr', lkR, ht, at0, at1]
      have e1 : flatIn (.str kd) [D.str "name", D.str "number", D.str "fresh"] = true := flatIn_strs kd ["name", "number", "fresh"]
      have e2 : inD (.str kd) [D.str "name", D.str "number", D.str "fresh"] = decide (kd ∈ (["name", "number", "fresh"] : List Str)) := inD_strs kd ["name", "number", "fresh"]
      refine ⟨by decide, e1, ?_⟩
      rw [e2]
      unfold inP at hk
      by_cases q : kd = "name" ∨ kd = "number" ∨ kd = "fresh"
      · rw [if_pos q] at hk
        refine ite_t (by simpa using q) hk
      · rw [if_neg q] at hk
        refine ite_f (by simpa using q) hk
theorem ok_raw_within (T : Tx P w K mg) (q_Book_inner : Cf P w K mg base 1 CB "inner" (spX RW (wfInner P w CB))) {f : Addr} {fd : FuncData} (F : FB K "raw_within" "Book.raw_within" s_Book_raw_within f fd) : Fn P w K mg base 2 f fd ["self", "terms"] (spX RW (wfRawW P w CB)) := by
  refine fn_data F sc_Book_raw_within (fun ds s k x h => ?_) fun cv A outer s H G hr gd => ⟨_, (pss_cons (ps_set (i := 2) sc_Book_raw_within.nd rfl (Or.inl rfl) pe_dnewK)
    (pss_cons (ps_set (i := 3) sc_Book_raw_within.nd rfl (Or.inl rfl) (pe_callTy (kList (K := K)) (by rfl) T.list (by decide +kernel) (pa_cons (pv 1) pa_nil)))
    (pss_cons (ps_while (passes_of rfl) (pt_cmpR op_gtX (pe_callB (kLen (K := K)) (by rfl) T.len (by decide +kernel) (pa_cons (pv 3) pa_nil)) pe_int (nomark _)) (pss_cons (ps_set (i := 4) sc_Book_raw_within.nd rfl (Or.inl rfl) (pe_bm0 PySem.F.plainAttrs_list PySem.F.slot_list_pop PySem.F.type_list_pop mt_pop (pv 3)))
    (pss_one (ps_if (pt_cmp (pc_dnotin (huB hr) (pv 4) (pv 2))) (pss_cons (ps_dput (huB hr) (pv 2) (pv 4) pe_bl (by rfl))
    (pss_one (ps_expr (pe_bm PySem.F.plainAttrs_list PySem.F.slot_list_extend PySem.F.type_list_extend (kExtX (K := K)) (pv 3) (pa_cons (pe_mtA q_Book_inner hr (by omega) gd (fun σ => Gl.no_pass σ) (pv 0) (pa_cons (pv 4) pa_nil)) pa_nil))))) pss_nil))))
    (pss_one (ps_ret (pe_callB (kSortedY (K := K) rfl) (by rfl) T.sorted (by decide +kernel) (pa_cons (pv 2) pa_nil))))))), ?_⟩
  · match ds, h with
    | [.opq a, _], _ => rfl
  · have ow : OwnSl 3 := ⟨⟩
    apply bodyW
    · walk_at "sim"
    intro ds s k x ok h
    match ds, h with
    | [.opq b, d], ⟨r, p, recs, n, ts, hB, wo, rz, sq, tb, tz, hk⟩ =>
      refine cut (fun env t => ∃ a, s a = none ∧ t = rup s a (.dic []) ∧ env = [.dat (.opq b), .dat d, .dat (.opq a), .no, .no]) (fun K1 h1 _ _ => ?_) fun env t hI => ?_
      · simp [N_Book_raw_within]
        exact fun a ha => h1 _ _ ⟨a, ha, rfl, rfl⟩
      obtain ⟨a, ha, rfl, rfl⟩ := hI
      refine cut (fun env t => t = rup s a (.dic []) ∧ env = [.dat (.opq b), .dat d, .dat (.opq a), .own (ts.map D.int), .no]) (fun K1 h1 _ _ => ?_) fun env t hI => ?_
      · rcases sq with rfl | rfl
        · exact h1 _ _ ⟨rfl, rfl⟩
        · exact h1 _ _ ⟨rfl, rfl⟩
      obtain ⟨rfl, rfl⟩ := hI
      refine cut (fun env t => ∃ kvs ns v4, env = [.dat (.opq b), .dat d, .dat (.opq a), .own [], v4] ∧ t a = some (.dic kvs) ∧ kvs.map (·.1) = ns.map Sum.inl ∧ kvs.length ≤ 10000 ∧ (∀ t ∈ ns, 0 ≤ t ∧ t < (recs.length : Int)) ∧ (∀ t ∈ ts, t ∈ ns) ∧ ClW recs ns [] ∧ Kp s t) (fun K1 h1 _ _ => ?_) fun env t hI => ?_
      · refine wWh_ind (fun m env t => ∃ (kvs : List (Key × D)) (ns ws : List Int) (v4 : Sl), env = [.dat (.opq b), .dat d, .dat (.opq a), .own (ws.map D.int), v4] ∧ t a = some (.dic kvs) ∧ kvs.map (·.1) = ns.map Sum.inl ∧ kvs.length + missK kvs recs.length = recs.length ∧ 3 * missK kvs recs.length + ws.length = m ∧ m ≤ 40000 ∧
          (∀ t ∈ ns, 0 ≤ t ∧ t < (recs.length : Int)) ∧ (∀ t ∈ ws, 0 ≤ t ∧ t < (recs.length : Int)) ∧ (∀ t ∈ ts, t ∈ ns ∨ t ∈ ws) ∧ ClW recs ns ws ∧ Kp s t) (n := 3 * recs.length + ts.length)
          ⟨[], [], ts, .no, rfl, rup_same, rfl, by simp [miss_nil], by simp [miss_nil], by omega, fun t h => (nomatch h), tb, fun t h => .inr h, fun t h => (nomatch h), Kp.new ha⟩ ?_
        intro m ih env t hp
        obtain ⟨kvs, ns, ws, v4, rfl, ea, ek, e1, e2, e3, b1, b2, b3, cl, kp⟩ := hp
        rcases nil_or_snoc ws with rfl | ⟨ws', q, rfl⟩
        · refine ⟨1, ?_⟩
          show wTest _ _ _ _ _
          simp
          exact h1 _ _ ⟨kvs, ns, v4, rfl, ea, ek, by omega, b1, fun t h => (b3 t h).resolve_right (by simp), cl, kp⟩
        · have q1 := b2 q (by simp)
          rw [List.length_append, List.length_singleton] at e2
          have hB' := hB.kp kp
          have dc : dcOf t (.opq a) = some kvs := by unfold dcOf; dsimp only; rw [ea]
          have nsk : hasK kvs (.inl q) = decide (q ∈ ns) := by rw [← any_hasK]; exact any_keys ek
          by_cases hq : q ∈ ns
          · obtain ⟨j, hj⟩ := ih (m - 1) [.dat (.opq b), .dat d, .dat (.opq a), .own (ws'.map D.int), .dat (.int q)] t (by omega) ⟨kvs, ns, ws', _, rfl, ea, ek, e1, by omega, by omega, b1, fun t h => b2 t (by simp [h]), fun t h => (b3 t h).elim .inl fun h => (List.mem_append.mp h).elim .inr fun h => .inl (by rw [List.mem_singleton.mp h]; exact hq), fun t h kd ds e z hz => (cl t h kd ds e z hz).elim .inl fun h => (List.mem_append.mp h).elim .inr fun h => .inl (by rw [List.mem_singleton.mp h]; exact hq), kp⟩
            refine ⟨j + 1, ?_⟩
            show wTest _ _ _ _ _
            have hs : (valK kvs (Sum.inl q)).isSome = true := by have := nsk; unfold hasK at this; rw [this]; simpa using hq
            simp
            refine ⟨kvs, dc, ?_⟩
            simp [D.ky]
            exact ite_f (fun z => by rw [z] at hs; cases hs) hj
          · have hs : (valK kvs (Sum.inl q)).isSome = false := by have := nsk; unfold hasK at this; rw [this]; simpa using hq
            have kp' : Kp s (rup t a (.dic (putKD kvs (.inl q) (.bl true)))) := kp.off ha
            have hB2 := hB.kp kp'
            obtain ⟨i, rfl⟩ := Int.eq_ofNat_of_zero_le q1.1
            have il : i < recs.length := by omega
            obtain ⟨kd, ds, qs, ed, ei, ql, qb⟩ := wo i _ (List.getElem?_eq_getElem il)
            have ad : atI recs (i : Int) = some (.tup [.str kd, .tup ds]) := by rw [← ed]; exact atI_nat (List.getElem?_eq_getElem il)
            have nh : hasK kvs (.inl (i : Int)) = false := hs
            have ms := miss_put kvs i (.bl true) recs.length
            rw [nh] at ms
            simp only [il, true_and, if_true] at ms
            have lp := len_put kvs (.inl (i : Int)) (.bl true)
            rw [nh] at lp
            simp only [Bool.false_eq_true, if_false] at lp
            have ek' : (putKD kvs (.inl (i : Int)) (.bl true)).map (·.1) = (ns ++ [(i : Int)]).map Sum.inl := by
              unfold putKD
              rw [any_hasK, nh, if_neg (by decide), List.map_append, List.map_append, ek]
              rfl
            have cl' : ClW recs (ns ++ [(i : Int)]) (ws' ++ qs) := fun t h kd' ds' e z hz => by
              rcases List.mem_append.mp h with h | h
              · rcases cl t h kd' ds' e z hz with h | h
                · exact .inl (by simp [h])
                · rcases List.mem_append.mp h with h | h
                  · exact .inr (by simp [h])
                  · exact .inl (by simp [List.mem_singleton.mp h])
              · rw [List.mem_singleton.mp h, ad] at e
                cases e
                rw [ei] at hz
                obtain ⟨z', hz', e⟩ := List.mem_map.mp hz
                cases e
                exact .inr (by simp [hz'])
            obtain ⟨j, hj⟩ := ih (3 * missK (putKD kvs (.inl (i : Int)) (.bl true)) recs.length + (ws' ++ qs).length) [.dat (.opq b), .dat d, .dat (.opq a), .own ((ws' ++ qs).map D.int), .dat (.int (i : Int))] (rup t a (.dic (putKD kvs (.inl (i : Int)) (.bl true)))) (by rw [List.length_append]; omega)
              ⟨_, ns ++ [(i : Int)], ws' ++ qs, _, rfl, rup_same, ek', by omega, rfl, by rw [List.length_append]; omega, fun t h => (List.mem_append.mp h).elim (b1 t) fun h => by rw [List.mem_singleton.mp h]; omega, fun t h => (List.mem_append.mp h).elim (fun h => b2 t (by simp [h])) (qb t), fun t h => (b3 t h).elim (fun h => .inl (by simp [h])) fun h => (List.mem_append.mp h).elim (fun h => .inr (by simp [h])) fun h => .inl (by simp [List.mem_singleton.mp h]), cl', kp'⟩
            · refine ⟨j + 1, ?_⟩
              show wTest _ _ _ _ _
              have hb := hB2
              obtain ⟨dx, xs, hb, _⟩ := hb
              simp
              refine ⟨kvs, dc, ?_⟩
              simp [D.ky]
              refine ite_t (by cases z : valK kvs (Sum.inl (i : Int)) with
                | none => rfl
                | some y => rw [z] at hs; cases hs) ⟨kvs, ea, by rw [sizeLine_eq]; omega, ?_⟩
              rw [hb]
              refine ⟨rfl, noM (by decide), r, p, recs, n, kd, ds, hB2, by omega, by omega, ad, ?_⟩
              rw [ei]
              refine ⟨by rw [sizeLine_eq, List.length_map]; omega, ?_⟩
              rw [← List.map_append]
              exact hj
      obtain ⟨kvs, ns, v4, rfl, ea, ek, kl, b1, b3, cl, kp⟩ := hI
      simp [ea]
      refine ⟨ns, ek, by rw [sizeLine_eq]; omega, fun ms p1 p2 => hk ms t kp (fun t h => b1 t (p1.mem_iff.mp h)) (fun t h => p1.mem_iff.mpr (b3 t h)) ?_ fun t h kd ds e z hz => .inl (p1.mem_iff.mpr ((cl t (p1.mem_iff.mp h) kd ds e z hz).resolve_right (by simp)))⟩
      have := congrArg List.length ek
      simp at this
      rw [p1.length_eq]
      omega
theorem ok_within (T : Tx P w K mg) {CN : Addr} (r_NoTerms : E0c K mg "NoTerms" CN) (q_Book_is_number : Cf P w K mg base 3 CB "is_number" (spX RW (wfIsN P w CB))) (q_Book_raw_within : Cf P w K mg base 2 CB "raw_within" (spX RW (wfRawW P w CB))) {f : Addr} {fd : FuncData} (F : FB K "within" "Book.within" s_Book_within f fd) : Fn P w K mg base 4 f fd ["self", "terms"] (spX RW (wfRawW P w CB)) := by
  refine fn_data F sc_Book_within (fun ds s k x h => ?_) fun cv A outer s H G hr gd => ⟨_, (pss_cons (ps_if (PW.pt (pw_or (pt_not (pt_val (pe_callB (kIsiT (K := K)) (by rfl) T.isinstance (by decide +kernel) (pa_cons (pv 1) (pa_cons (pe_tup (pa_cons (pe_bltn (v := .ty "list") (by rfl) T.list (by decide +kernel) rfl) (pa_cons (pe_bltn (v := .ty "tuple") (by rfl) T.tuple (by decide +kernel) rfl) pa_nil))) pa_nil))))) (pw_or1 (pt_not (pt_val (pe_callB (kAll (K := K) rfl) (by rfl) T.all (by decide +kernel) (pa_cons (pe_lc (own := [("term", 2)]) (g := gName 2) (by rfl) sc_Book_within.nd (kpi (K := K) (pv 1)) (blkOk_by (own := [("term", 2)]) (N := N_Book_within) (sc := defScope s_Book_within) (by decide +kernel)) (fun _ _ _ _ _ => pg_name (i := 2) sc_Book_within.nd rfl (Or.inl rfl)) (fun _ _ _ _ _ => pts_nil) (fun _ _ _ _ _ => (pe_mtA q_Book_is_number hr (by omega) gd (fun σ => Gl.no_pass σ) (pv 0) (pa_cons (pv 2) pa_nil)))) pa_nil))))))) (pss_one (ps_raise rfl (takes_of rfl rfl rfl rfl) (pmk_0 r_NoTerms.exc (r_NoTerms.raises rfl) r_NoTerms.mgx r_NoTerms.keep rfl))) pss_nil)
    (pss_one (ps_ret (pe_mtA q_Book_raw_within hr (by omega) gd (fun σ => Gl.no_pass σ) (pv 0) (pa_cons (pv 1) pa_nil))))), ?_⟩
  · match ds, h with
    | [.opq a, _], _ => rfl
  · apply bodyW
    · walk_at "sim"
    intro ds s k x ok h
    match ds, h with
    | [.opq b, d], ⟨r, p, recs, n, ts, hB, wo, rz, sq, tb, tz, hk⟩ =>
      have go : ∀ env k', (∀ kt : D → Rg → Prop, ∀ q ∈ ts, kt (.bl true) s → wMtM CB "is_number" (wfIsN P w CB) (wVar 0) (wCons (wVar 2) wNil) [.dat (.opq b), .dat d, .dat (.int q)] s kt x) → k' (ts.map fun _ => .bl true) s → env = [Sl.dat (.opq b), .dat d, .no] → wLc (wName 2) (fun _ s k _ => k true s) (wMtM CB "is_number" (wfIsN P w CB) (wVar 0) (wCons (wVar 2) wNil)) [2] (ts.map D.int) env s k' x := fun env k' h1 h2 e => by
        subst e
        refine wLc_map (fun _ => .bl true) (fun e he kt hkt => ?_) (by rw [List.map_map]; exact h2)
        obtain ⟨q, hq, rfl⟩ := List.mem_map.mp he
        exact h1 kt q hq hkt
      have hb := hB
      obtain ⟨dx, xs, hb, _⟩ := hb
      have one : ∀ kt : D → Rg → Prop, ∀ q ∈ ts, kt (.bl true) s → wMtM CB "is_number" (wfIsN P w CB) (wVar 0) (wCons (wVar 2) wNil) [.dat (.opq b), .dat d, .dat (.int q)] s kt x := fun kt q hq hkt => by
        have := tb q hq
        simp [hb, wfIsN]
        refine ⟨noM (by decide), r, p, recs, ⟨n, hB⟩, ?_⟩
        have e1 : isIn 0 ((recs.length : Int) - 1) (.int q) = true := by simp only [isIn, Bool.and_eq_true, decide_eq_true_eq]; omega
        rw [e1]
        exact hkt
      have fin : wfRawW P w CB [D.opq b, d] s k fun x x_1 => False := ⟨r, p, recs, n, ts, hB, wo, rz, sq, tb, tz, hk⟩
      have sz : (ts.map D.int).length ≤ sizeLine := by rw [List.length_map, sizeLine_eq]; omega
      rcases sq with rfl | rfl
      · simp [D.isTs, known6]
        refine ⟨by decide, by rw [sizeLine_eq]; omega, go _ _ one ⟨ts.map fun _ => true, by rw [bls_map], ite_f (by simp) ?_⟩ rfl⟩
        rw [hb]
        exact ⟨rfl, noM (by decide), fin⟩
      · simp [D.isTs, known6]
        refine ⟨by decide, by rw [sizeLine_eq]; omega, go _ _ one ⟨ts.map fun _ => true, by rw [bls_map], ite_f (by simp) ?_⟩ rfl⟩
        rw [hb]
        exact ⟨rfl, noM (by decide), fin⟩
theorem ok_mix_frame (T : Tx P w K mg) (f_check_mix : Df P w K mg base 6 "check_mix" (spX RW wfCkM)) (f_framed : Df P w K mg base 4 "framed" (spX RW (wfFramed P w CB))) {f : Addr} {fd : FuncData} (F : FD K "mix_frame" s_mix_frame f fd) : Fn P w K mg base 7 f fd ["many", "orders", "stolen"] (spX RW (wfFramed P w CB)) := by
  refine fn_data F sc_mix_frame (fun ds s k x h => ?_) fun cv A outer s H G hr gd => ⟨_, (pss_cons (ps_expr (pe_df f_check_mix hr (by omega) gd rfl (fun σ => Gl.no_pass σ) (pa_cons (pv 0) (pa_cons (pv 1) (pa_cons (pv 2) pa_nil)))))
    (pss_one (ps_ret (pe_df f_framed hr (by omega) gd rfl (fun σ => Gl.no_pass σ) (pa_cons (pv 0) (pa_cons (pv 1) (pa_cons (pv 2) pa_nil))))))), ?_⟩
  · match ds, h with
    | [.int _, .tup _, _], _ => rfl
  · apply bodyW
    · walk_at "sim"
    intro ds s k x ok h
    match ds, h with
    | [.int m, .tup os, st], h =>
      have h' := h
      obtain ⟨many, e, M, hk⟩ := h
      subst e
      simp [wfCkM]
      exact ⟨many, rfl, M, h'⟩
end
end Law
set_option Elab.async false
set_option linter.all false
set_option maxRecDepth 100000
set_option maxHeartbeats 8000000
namespace Law
open PySem PySem.Spec PyProof.Rows L2 Gl Dw
local macro_rules | `(tactic| walk_at "sc") => `(tactic| first
  | exact True.intro
  | (show _ ≤ sizeLine; decide +kernel))
local macro_rules | `(tactic| walk_at "sim") => `(tactic| first
  | ((with_reducible apply ss_seq) <;> walk_at "sim")
  | with_reducible exact ss_next
  | ((with_reducible apply ss_raise) <;> walk_at "sim")
  | with_reducible exact ss_raise0
  | ((with_reducible apply ss_try); walk_at "sim"; (intro _; walk_at "sim"); walk_at "sim")
  | ((with_reducible apply loc_if) <;> walk_at "sim")
  | with_reducible exact loc_asgDf
  | with_reducible exact loc_asgMk
  | ((with_reducible apply loc_seq) <;> walk_at "sim")
  | with_reducible exact loc_const
  | with_reducible exact SimHs.nil
  | ((with_reducible apply SimHs.cons); (intro _ _ _ _ _ _; walk_at "sim"); walk_at "sim")
  | with_reducible exact ss_brk
  | with_reducible exact ss_cont
  | with_reducible exact ss_retN
  | ((with_reducible apply ss_ret) <;> walk_at "sim")
  | ((with_reducible apply ss_if) <;> walk_at "sim")
  | ((with_reducible apply ss_asgO); (with_reducible assumption); walk_at "sim")
  | ((with_reducible apply ss_nput) <;> walk_at "sim")
  | ((with_reducible apply ss_setM) <;> walk_at "sim")
  | ((with_reducible apply ss_setL) <;> walk_at "sim")
  | ((with_reducible apply ss_pop) <;> walk_at "sim")
  | ((with_reducible apply ss_popAt) <;> walk_at "sim")
  | ((with_reducible apply ss_asg) <;> walk_at "sim")
  | ((with_reducible apply ss_par) <;> walk_at "sim")
  | ((with_reducible apply ss_par3) <;> walk_at "sim")
  | ((with_reducible apply ss_aug) <;> walk_at "sim")
  | ((with_reducible apply ss_app) <;> walk_at "sim")
  | ((with_reducible apply ss_appM) <;> walk_at "sim")
  | ((with_reducible apply ss_ins) <;> walk_at "sim")
  | ((with_reducible apply si_rev) <;> walk_at "sim")
  | ((with_reducible apply ss_ext) <;> walk_at "sim")
  | ((with_reducible apply ss_extX) <;> walk_at "sim")
  | ((with_reducible apply ss_drop) <;> walk_at "sim")
  | ((with_reducible apply ss_for) <;> walk_at "sim")
  | ((with_reducible apply ss_while) <;> walk_at "sim")
  | with_reducible exact tg_name
  | ((with_reducible apply tg_tup) <;> walk_at "sim")
  | ((with_reducible apply tgs_cons) <;> walk_at "sim")
  | with_reducible exact tgs_nil
  | with_reducible exact sim_bgetE
  | ((with_reducible apply sim_tupRev) <;> walk_at "sim")
  | with_reducible exact sim_bget
  | ((with_reducible apply ss_bput) <;> walk_at "sim")
  | ((with_reducible apply ss_baug) <;> walk_at "sim")
  | ((with_reducible apply sim_nnotin) <;> walk_at "sim")
  | ((with_reducible apply sim_nget) <;> walk_at "sim")
  | ((with_reducible apply ss_nput) <;> walk_at "sim")
  | ((with_reducible apply ss_faugMT (by assumption) (by assumption)) <;> walk_at "sim")
  | ((with_reducible apply sim_fldMT (by assumption) (by assumption)) <;> walk_at "sim")
  | ((with_reducible apply sim_mtM) <;> walk_at "sim")
  | ((with_reducible apply sim_mtM0) <;> walk_at "sim")
  | with_reducible exact sim_newBk
  | with_reducible exact so_ixB
  | with_reducible exact so_ixM
  | with_reducible exact so_raddR
  | with_reducible exact so_rsubR
  | with_reducible exact sc_lenM
  | with_reducible exact sc_sortX
  | with_reducible exact sc_lenB
  | with_reducible exact so_radd
  | with_reducible exact so_rsub
  | with_reducible exact sim_newD
  | ((with_reducible apply sim_getM) <;> walk_at "sim")
  | ((with_reducible apply sim_inM) <;> walk_at "sim")
  | ((with_reducible apply sim_notInM) <;> walk_at "sim")
  | ((with_reducible apply ss_putM) <;> walk_at "sim")
  | ((with_reducible apply ss_updM) <;> walk_at "sim")
  | with_reducible exact sc_dictP
  | with_reducible exact sc_lenY
  | with_reducible exact sc_sortY
  | ((with_reducible apply sim_dgetT) <;> walk_at "sim")
  | ((with_reducible apply sim_dinT) <;> walk_at "sim")
  | ((with_reducible apply sim_dnotInT) <;> walk_at "sim")
  | ((with_reducible apply sim_mt0) <;> walk_at "sim")
  | ((with_reducible apply sim_dcE) <;> walk_at "sim")
  | ((with_reducible apply si_enumT) <;> walk_at "sim")
  | with_reducible exact sc_sortI
  | with_reducible exact sim_var
  | with_reducible exact sim_varG
  | with_reducible exact sim_nil
  | with_reducible exact sim_nilB
  | ((with_reducible apply sim_cons) <;> walk_at "sim")
  | ((with_reducible apply sim_consB) <;> walk_at "sim")
  | ((with_reducible apply sim_c); walk_at "sc")
  | ((with_reducible apply sim_op) <;> walk_at "sim")
  | ((with_reducible apply sim_un) <;> walk_at "sim")
  | ((with_reducible apply sim_isG); (with_reducible assumption); walk_at "sim")
  | ((with_reducible apply sim_cb) <;> walk_at "sim")
  | ((with_reducible apply sim_tup) <;> walk_at "sim")
  | ((with_reducible apply sim_lst) <;> walk_at "sim")
  | ((with_reducible apply sim_lstF) <;> walk_at "sim")
  | ((with_reducible apply sim_call) <;> walk_at "sim")
  | ((with_reducible apply sim_callN) <;> walk_at "sim")
  | ((with_reducible apply sim_sl) <;> walk_at "sim")
  | with_reducible exact sp_no
  | ((with_reducible apply sp_part) <;> walk_at "sim")
  | ((with_reducible apply sim_test) <;> walk_at "sim")
  | ((with_reducible apply sim_tB) <;> walk_at "sim")
  | ((with_reducible apply sim_and) <;> walk_at "sim")
  | ((with_reducible apply sim_or) <;> walk_at "sim")
  | ((with_reducible apply sim_not) <;> walk_at "sim")
  | with_reducible exact sim_yes
  | ((with_reducible apply sim_andV) <;> walk_at "sim")
  | ((with_reducible apply sim_orV) <;> walk_at "sim")
  | ((with_reducible apply sim_notV) <;> walk_at "sim")
  | ((with_reducible apply sim_if) <;> walk_at "sim")
  | ((with_reducible apply sim_chain) <;> walk_at "sim")
  | ((with_reducible apply sim_lcF) <;> walk_at "sim")
  | ((with_reducible apply sim_lcE) <;> walk_at "sim")
  | ((with_reducible apply sim_lstRgF) <;> walk_at "sim")
  | ((with_reducible apply sim_lstRg) <;> walk_at "sim")
  | ((with_reducible apply sim_tupRg) <;> walk_at "sim")
  | ((with_reducible apply sim_rg1) <;> walk_at "sim")
  | ((with_reducible apply sim_rg2) <;> walk_at "sim")
  | ((with_reducible apply sim_listF) <;> walk_at "sim")
  | ((with_reducible apply sim_addF) <;> walk_at "sim")
  | ((with_reducible apply sim_join) <;> walk_at "sim")
  | ((with_reducible apply sim_lenSetS) <;> walk_at "sim")
  | ((with_reducible apply sim_fldT); (with_reducible assumption); (with_reducible assumption); walk_at "sim")
  | ((with_reducible apply sim_mk) <;> walk_at "sim")
  | ((with_reducible apply sim_mkN) <;> walk_at "sim")
  | ((with_reducible apply sim_xf); (with_reducible assumption))
  | with_reducible exact so_eqO
  | ((with_reducible apply si_x) <;> walk_at "sim")
  | ((with_reducible apply si_tup) <;> walk_at "sim")
  | ((with_reducible apply si_list) <;> walk_at "sim")
  | ((with_reducible apply si_str) <;> walk_at "sim")
  | ((with_reducible apply si_rng1) <;> walk_at "sim")
  | ((with_reducible apply si_rng2) <;> walk_at "sim")
  | ((with_reducible apply si_enum) <;> walk_at "sim")
  | ((with_reducible apply si_zip) <;> walk_at "sim")
  | with_reducible exact so_addX
  | with_reducible exact so_mulX
  | with_reducible exact so_divX
  | with_reducible exact so_eqX
  | with_reducible exact so_neX
  | with_reducible exact so_inX
  | with_reducible exact so_notInX
  | with_reducible exact so_ltX
  | with_reducible exact so_gtX
  | with_reducible exact so_geX
  | with_reducible exact so_leX
  | ((with_reducible apply so_i0s); (intros; exact True.intro))
  | ((with_reducible apply so_iCs); (intros; exact True.intro))
  | ((with_reducible apply su_is); (intros; exact True.intro))
  | with_reducible exact so_eq
  | with_reducible exact so_ne
  | with_reducible exact so_isN
  | with_reducible exact so_notN
  | with_reducible exact so_isB
  | with_reducible exact so_notB
  | with_reducible exact so_ixL
  | with_reducible exact so_ixT
  | with_reducible exact so_ixS
  | with_reducible exact so_ix
  | with_reducible exact so_in
  | with_reducible exact so_str
  | with_reducible exact so_inS
  | with_reducible exact so_notInS
  | with_reducible exact so_catT
  | with_reducible exact so_catL
  | with_reducible exact so_addS
  | with_reducible exact so_mulS
  | with_reducible exact so_repT
  | with_reducible exact so_eqD
  | with_reducible exact so_neD
  | with_reducible exact so_inD
  | with_reducible exact so_notInD
  | with_reducible exact so_leT
  | with_reducible exact sc_len
  | with_reducible exact sc_int
  | with_reducible exact sc_abs
  | with_reducible exact sc_str
  | with_reducible exact sc_mm
  | with_reducible exact sc_list
  | with_reducible exact sc_tuple
  | with_reducible exact sc_sum
  | with_reducible exact sc_all
  | with_reducible exact sc_any
  | with_reducible exact sc_isi
  | with_reducible exact sc_isiT
  | with_reducible exact sc_repr
  | with_reducible exact sl_x
  | with_reducible exact sl_t
  | with_reducible exact sl_l
  | with_reducible exact sl_s
  | ((with_reducible apply SimE.g); walk_at "sim")
  | (intros; decide)
  | skip)

/-- where a sender's terms begin -/
def Bs (H s : Nat) : Nat := 2 * H + s * (3 * H + 1)
def FrM (H m : Nat) (ps : List Int) (t : Nat) : Prop := (∃ h, h < H ∧ t = H + h) ∨ (∃ h : Nat, h < H ∧ (h : Int) ∈ ps ∧ t = h) ∨ ∃ s j, s < m ∧ j ≤ H ∧ t = Bs H s + 3 * j
def InU (H m : Nat) (ps : List Int) (t : Nat) : Prop := FrM H m ps t ∨ ∃ s j, s < m ∧ j < H ∧ ((H - 1 - j : Nat) : Int) ∈ ps ∧ (t = Bs H s + 3 * j + 1 ∨ t = Bs H s + 3 * j + 2)
theorem bs_uniq {H s s' r r' : Nat} (h : r ≤ 3 * H) (h' : r' ≤ 3 * H) (e : Bs H s + r = Bs H s' + r') : s = s' ∧ r = r' := by
  unfold Bs at e
  rcases Nat.lt_trichotomy s s' with q | q | q
  · have := Nat.mul_le_mul_right (3 * H + 1) (show s + 1 ≤ s' from q)
    rw [Nat.add_mul] at this
    omega
  · subst q
    exact ⟨rfl, by omega⟩
  · have := Nat.mul_le_mul_right (3 * H + 1) (show s' + 1 ≤ s from q)
    rw [Nat.add_mul] at this
    omega
theorem bs_ge {H s : Nat} : 2 * H ≤ Bs H s := Nat.le_add_right _ _
theorem bs_lt {H s m : Nat} {recs : List D} (F : Frm recs H m) (h : s < m) : Bs H s + 3 * H < recs.length := by
  have := Nat.mul_le_mul_right (3 * H + 1) (show s + 1 ≤ m from h)
  rw [Nat.add_mul] at this
  rw [F.len]
  unfold Bs
  omega
theorem term_cases {recs : List D} {H m t : Nat} (F : Frm recs H m) (ht : t < recs.length) : (∃ n, recs[t]? = some (frD n)) ∨ (∃ h, h < H ∧ t = H + h) ∨ (∃ s j, s < m ∧ j < H ∧ t = Bs H s + 3 * j + 2) ∨ ∃ s j, s < m ∧ j < H ∧ t = Bs H s + 3 * j + 3 := by
  by_cases h1 : t < H
  · exact .inl (F.key t h1)
  by_cases h2 : t < 2 * H
  · exact .inr (.inl ⟨t - H, by omega, by omega⟩)
  rw [F.len] at ht
  have e := Nat.div_add_mod (t - 2 * H) (3 * H + 1)
  have hm := Nat.mod_lt (t - 2 * H) (show 0 < 3 * H + 1 by omega)
  have hs : (t - 2 * H) / (3 * H + 1) < m := Nat.div_lt_of_lt_mul (by have := Nat.mul_comm (3 * H + 1) m; omega)
  generalize (t - 2 * H) / (3 * H + 1) = s at e hs
  generalize (t - 2 * H) % (3 * H + 1) = r at e hm
  have et : t = Bs H s + r := by
    unfold Bs
    rw [Nat.mul_comm] at e
    omega
  by_cases h3 : r = 0
  · subst h3
    obtain ⟨n, hn⟩ := F.word s hs
    exact .inl ⟨n, by rw [et]; exact hn⟩
  obtain ⟨j, hj⟩ : ∃ j, r = 3 * j + 1 ∨ r = 3 * j + 2 ∨ r = 3 * j + 3 := ⟨(r - 1) / 3, by omega⟩
  rcases hj with rfl | rfl | rfl
  · obtain ⟨n, hn⟩ := F.pad s j hs (by omega)
    exact .inl ⟨n, by rw [et]; exact hn⟩
  · exact .inr (.inr (.inl ⟨s, j, hs, by omega, et⟩))
  · exact .inr (.inr (.inr ⟨s, j, hs, by omega, et⟩))
/-- what is read of a term -/
structure RdOf (H m : Nat) (ps : List Int) (N t : Nat) (qs : List Int) : Prop where
  b : ∀ q ∈ qs, ∃ u : Nat, q = u ∧ u < N ∧ (InU H m ps t → InU H m ps u)
  row : ∀ s j, s < m → j < H → t = Bs H s + 3 * j + 2 → ((Bs H s + 3 * j + 1 : Nat) : Int) ∈ qs
  box : ∀ s j, s < m → j < H → t = Bs H s + 3 * j + 3 → ((H - 1 - j : Nat) : Int) ∈ ps → ((Bs H s + 3 * j + 2 : Nat) : Int) ∈ qs
  len : qs.length ≤ 2
theorem RdOf.nil {H m N t : Nat} {ps : List Int} {recs : List D} (F : Frm recs H m) (h : (∃ n, recs[t]? = some (frD n)) ∨ t < 2 * H) : RdOf H m ps N t [] := by
  refine ⟨fun q hq => (nomatch hq), fun s j hs hj e => ?_, fun s j hs hj e => ?_, Nat.zero_le _⟩
  · have g := @bs_ge H s
    rcases h with ⟨n, h⟩ | h
    · have := F.row s j hs hj
      rw [show 2 * H + s * (3 * H + 1) + 3 * j + 2 = t from e.symm, h] at this
      simp [frD, enD] at this
    · omega
  · have g := @bs_ge H s
    rcases h with ⟨n, h⟩ | h
    · have := F.box s j hs hj
      rw [show 2 * H + s * (3 * H + 1) + 3 * j + 3 = t from e.symm, h] at this
      simp [frD, enD] at this
    · omega
theorem RdOf.rows {H m s j : Nat} {ps : List Int} {recs : List D} (F : Frm recs H m) (hs : s < m) (hj : j < H) : RdOf H m ps recs.length (Bs H s + 3 * j + 2) [((Bs H s + 3 * j + 1 : Nat) : Int), ((Bs H s + 3 * j : Nat) : Int)] := by
  have l := bs_lt F hs
  refine ⟨fun q hq => ?_, fun s' j' hs' hj' e => ?_, fun s' j' hs' hj' e => ?_, Nat.le_refl _⟩
  · have st : InU H m ps (Bs H s + 3 * j + 2) → ((H - 1 - j : Nat) : Int) ∈ ps := fun u => by
      have g := @bs_ge H s
      rcases u with (⟨h, h1, h2⟩ | ⟨h, h1, _, h2⟩ | ⟨s', j', h1, h2, h3⟩) | ⟨s', j', h1, h2, h3, h4⟩
      · omega
      · omega
      · have := (bs_uniq (H := H) (s := s) (s' := s') (r := 3 * j + 2) (r' := 3 * j') (by omega) (by omega) h3).2
        omega
      · rcases h4 with h4 | h4
        · have := (bs_uniq (H := H) (s := s) (s' := s') (r := 3 * j + 2) (r' := 3 * j' + 1) (by omega) (by omega) h4).2
          omega
        · have := (bs_uniq (H := H) (s := s) (s' := s') (r := 3 * j + 2) (r' := 3 * j' + 2) (by omega) (by omega) h4).2
          rw [show j = j' by omega]
          exact h3
    simp at hq
    rcases hq with rfl | rfl
    · exact ⟨Bs H s + 3 * j + 1, by omega, by omega, fun u => .inr ⟨s, j, hs, hj, st u, .inl rfl⟩⟩
    · exact ⟨Bs H s + 3 * j, by omega, by omega, fun u => .inl (.inr (.inr ⟨s, j, hs, by omega, rfl⟩))⟩
  · have := bs_uniq (H := H) (s := s) (s' := s') (r := 3 * j + 2) (r' := 3 * j' + 2) (by omega) (by omega) e
    obtain ⟨rfl, h⟩ := this
    rw [show j' = j by omega]
    simp
  · have := (bs_uniq (H := H) (s := s) (s' := s') (r := 3 * j + 2) (r' := 3 * j' + 3) (by omega) (by omega) e).2
    omega
theorem RdOf.boxes {H m s j : Nat} {ps qs : List Int} {recs : List D} (F : Frm recs H m) (hs : s < m) (hj : j < H) (e : qs = if ((H - 1 - j : Nat) : Int) ∈ ps then [((Bs H s + 3 * j + 2 : Nat) : Int)] else []) : RdOf H m ps recs.length (Bs H s + 3 * j + 3) qs := by
  have l := bs_lt F hs
  refine ⟨fun q hq => ?_, fun s' j' hs' hj' e => ?_, fun s' j' hs' hj' e2 hp => ?_, ?_⟩
  · rw [e] at hq
    by_cases h : ((H - 1 - j : Nat) : Int) ∈ ps
    · rw [if_pos h] at hq
      rw [List.mem_singleton] at hq
      exact ⟨Bs H s + 3 * j + 2, hq, by omega, fun u => .inr ⟨s, j, hs, hj, h, .inr rfl⟩⟩
    · rw [if_neg h] at hq
      cases hq
  · have := (bs_uniq (H := H) (s := s) (s' := s') (r := 3 * j + 3) (r' := 3 * j' + 2) (by omega) (by omega) e).2
    omega
  · have := bs_uniq (H := H) (s := s) (s' := s') (r := 3 * j + 3) (r' := 3 * j' + 3) (by omega) (by omega) e2
    obtain ⟨rfl, h⟩ := this
    obtain rfl : j' = j := by omega
    rw [e, if_pos hp]
    simp
  · rw [e]
    split <;> simp
theorem inP_fr (n : Int) : inP "fresh" [.int n] = [] := by
  unfold inP
  rw [if_pos (.inr (.inr rfl))]
theorem inP_no {kd : Str} {ps : List D} (h : ¬ (kd = "name" ∨ kd = "number" ∨ kd = "fresh")) : inP kd ps = ps := by
  unfold inP
  rw [if_neg h]
theorem Frm.wok {recs : List D} {H m : Nat} (F : Frm recs H m) : WOk recs := fun i d hd => by
  have il := (List.getElem?_eq_some_iff.mp hd).1
  rcases term_cases F il with ⟨n, h⟩ | ⟨h, hh, rfl⟩ | ⟨s, j, hs, hj, rfl⟩ | ⟨s, j, hs, hj, rfl⟩
  · rw [h] at hd
    cases hd
    exact ⟨_, _, [], rfl, inP_fr n, by simp, fun q hq => (nomatch hq)⟩
  · rw [F.lock h hh] at hd
    cases hd
    refine ⟨"lock", _, [(h : Int)], rfl, inP_no (by decide), by simp, fun q hq => ?_⟩
    simp at hq
    omega
  · have := F.row s j hs hj
    rw [show 2 * H + s * (3 * H + 1) + 3 * j + 2 = Bs H s + 3 * j + 2 from rfl, hd] at this
    cases this
    have l := bs_lt F hs
    unfold Bs at l
    refine ⟨"row", _, _, rfl, inP_no (by decide), by simp, fun q hq => ?_⟩
    rw [List.mem_cons, List.mem_singleton] at hq
    rcases hq with rfl | rfl <;> omega
  · have := F.box s j hs hj
    rw [show 2 * H + s * (3 * H + 1) + 3 * j + 3 = Bs H s + 3 * j + 3 from rfl, hd] at this
    cases this
    have l := bs_lt F hs
    unfold Bs at l
    refine ⟨"box", _, _, rfl, inP_no (by decide), by simp, fun q hq => ?_⟩
    rw [List.mem_cons, List.mem_singleton] at hq
    rcases hq with rfl | rfl <;> omega
/-- the frame's terms, as told -/
theorem frame_mem {H m : Nat} {os : List D} {ps : List Int} (hl : os.length = H) (ho : ∀ o ∈ os, isPerm m o) (hp : ∀ p ∈ ps, 0 ≤ p ∧ p < (H : Int)) : ∃ ts : List Int, frameD H m os (.tup (ps.map D.int)) = ts.map D.int ∧ (∀ q ∈ ts, ∃ t : Nat, q = t ∧ FrM H m ps t) ∧ (∀ t : Nat, FrM H m ps t → (t : Int) ∈ ts) ∧ ts.length = H + ps.length + (H + 1) * m := by
  have rows := laid_rows m (rngD 0 m) os ⟨(List.range m).map fun (i : Nat) => (i : Int), by rw [rngD_eq, List.map_map]; refine List.map_congr_left fun i _ => by simp, List.Perm.refl _⟩ ho
  have rl := laid_len (rngD 0 m) os
  have go : ∀ (rs : List (List D)) (h : Nat), (∀ r ∈ rs, isRow m r) → rs.length + h = H + 1 → ∃ ts : List Int, stg H h rs = ts.map D.int ∧ (∀ q ∈ ts, ∃ t : Nat, q = t ∧ ∃ s j, s < m ∧ j ≤ H ∧ t = Bs H s + 3 * j) ∧ (∀ s j, s < m → j + h ≤ H → ((Bs H s + 3 * j : Nat) : Int) ∈ ts) ∧ ts.length = rs.length * m := by
    intro rs
    induction rs with
    | nil => exact fun h _ e => ⟨[], rfl, fun q hq => (nomatch hq), fun s j hs hj => by simp at e; omega, by simp⟩
    | cons r rs ih =>
      intro h hr e
      rw [List.length_cons] at e
      obtain ⟨ts, e1, e2, e3, e4⟩ := ih (h + 1) (fun z hz => hr z (by simp [hz])) (by omega)
      obtain ⟨zs, rfl, pz⟩ := hr r (by simp)
      have em : ∀ z ∈ zs, tmT H h (.int z) = .int ((Bs H z.toNat + 3 * (H - h) : Nat) : Int) := fun z _ => rfl
      refine ⟨zs.map (fun z => ((Bs H z.toNat + 3 * (H - h) : Nat) : Int)) ++ ts, ?_, fun q hq => ?_, fun s j hs hj => ?_, ?_⟩
      · rw [stg, e1, List.map_append, List.map_map, List.map_map]
        rfl
      · rcases List.mem_append.mp hq with hq | hq
        · obtain ⟨z, hz, rfl⟩ := List.mem_map.mp hq
          obtain ⟨i, hi, rfl⟩ := List.mem_map.mp (pz.mem_iff.mp hz)
          exact ⟨_, rfl, i, H - h, List.mem_range.mp hi, by omega, rfl⟩
        · exact e2 q hq
      · by_cases q : j + (h + 1) ≤ H
        · exact List.mem_append.mpr (.inr (e3 s j hs q))
        · refine List.mem_append.mpr (.inl (List.mem_map.mpr ⟨(s : Int), pz.mem_iff.mpr (List.mem_map.mpr ⟨s, List.mem_range.mpr hs, rfl⟩), ?_⟩))
          rw [show j = H - h by omega]
          rfl
      · rw [List.length_append, List.length_map, pz.length_eq, e4, List.length_cons, Nat.add_mul]
        simp
        omega
  obtain ⟨ts, e1, e2, e3, e4⟩ := go (laidR (rngD 0 m) os) 0 rows (by rw [rl, hl])
  refine ⟨(List.range H).map (fun (i : Nat) => ((H + i : Nat) : Int)) ++ ps ++ ts, ?_, fun q hq => ?_, fun t ht => ?_, ?_⟩
  · unfold frameD lkT stD
    rw [e1, List.map_append, List.map_append, List.map_map]
    rfl
  · rcases List.mem_append.mp hq with hq | hq
    · rcases List.mem_append.mp hq with hq | hq
      · obtain ⟨i, hi, rfl⟩ := List.mem_map.mp hq
        exact ⟨_, rfl, .inl ⟨i, List.mem_range.mp hi, rfl⟩⟩
      · have := hp q hq
        obtain ⟨i, rfl⟩ := Int.eq_ofNat_of_zero_le this.1
        exact ⟨i, rfl, .inr (.inl ⟨i, by omega, hq, rfl⟩)⟩
    · obtain ⟨t, e, s, j, a, b, c⟩ := e2 q hq
      exact ⟨t, e, .inr (.inr ⟨s, j, a, b, c⟩)⟩
  · rcases ht with ⟨h, hh, rfl⟩ | ⟨h, hh, hm, rfl⟩ | ⟨s, j, hs, hj, rfl⟩
    · exact List.mem_append.mpr (.inl (List.mem_append.mpr (.inl (List.mem_map.mpr ⟨h, List.mem_range.mpr hh, rfl⟩))))
    · exact List.mem_append.mpr (.inl (List.mem_append.mpr (.inr hm)))
    · exact List.mem_append.mpr (.inr (e3 s j hs hj))
  · rw [List.length_append, List.length_append, e4, rl, hl]
    simp
end Law
set_option Elab.async false
set_option linter.all false
set_option maxRecDepth 100000
set_option maxHeartbeats 8000000
namespace Law
open PySem PySem.Spec PyProof.Rows L2 Gl Dw
local macro_rules | `(tactic| walk_at "sc") => `(tactic| first
  | exact True.intro
  | (show _ ≤ sizeLine; decide +kernel))
local macro_rules | `(tactic| walk_at "sim") => `(tactic| first
  | ((with_reducible apply ss_seq) <;> walk_at "sim")
  | with_reducible exact ss_next
  | ((with_reducible apply ss_raise) <;> walk_at "sim")
  | with_reducible exact ss_raise0
  | ((with_reducible apply ss_try); walk_at "sim"; (intro _; walk_at "sim"); walk_at "sim")
  | ((with_reducible apply loc_if) <;> walk_at "sim")
  | with_reducible exact loc_asgDf
  | with_reducible exact loc_asgMk
  | ((with_reducible apply loc_seq) <;> walk_at "sim")
  | with_reducible exact loc_const
  | with_reducible exact SimHs.nil
  | ((with_reducible apply SimHs.cons); (intro _ _ _ _ _ _; walk_at "sim"); walk_at "sim")
  | with_reducible exact ss_brk
  | with_reducible exact ss_cont
  | with_reducible exact ss_retN
  | ((with_reducible apply ss_ret) <;> walk_at "sim")
  | ((with_reducible apply ss_if) <;> walk_at "sim")
  | ((with_reducible apply ss_asgO); (with_reducible assumption); walk_at "sim")
  | ((with_reducible apply ss_nput) <;> walk_at "sim")
  | ((with_reducible apply ss_setM) <;> walk_at "sim")
  | ((with_reducible apply ss_setL) <;> walk_at "sim")
  | ((with_reducible apply ss_pop) <;> walk_at "sim")
  | ((with_reducible apply ss_popAt) <;> walk_at "sim")
  | ((with_reducible apply ss_asg) <;> walk_at "sim")
  | ((with_reducible apply ss_par) <;> walk_at "sim")
  | ((with_reducible apply ss_par3) <;> walk_at "sim")
  | ((with_reducible apply ss_aug) <;> walk_at "sim")
  | ((with_reducible apply ss_app) <;> walk_at "sim")
  | ((with_reducible apply ss_appM) <;> walk_at "sim")
  | ((with_reducible apply ss_ins) <;> walk_at "sim")
  | ((with_reducible apply si_rev) <;> walk_at "sim")
  | ((with_reducible apply ss_ext) <;> walk_at "sim")
  | ((with_reducible apply ss_extX) <;> walk_at "sim")
  | ((with_reducible apply ss_drop) <;> walk_at "sim")
  | ((with_reducible apply ss_for) <;> walk_at "sim")
  | ((with_reducible apply ss_while) <;> walk_at "sim")
  | with_reducible exact tg_name
  | ((with_reducible apply tg_tup) <;> walk_at "sim")
  | ((with_reducible apply tgs_cons) <;> walk_at "sim")
  | with_reducible exact tgs_nil
  | with_reducible exact sim_bgetE
  | ((with_reducible apply sim_tupRev) <;> walk_at "sim")
  | with_reducible exact sim_bget
  | ((with_reducible apply ss_bput) <;> walk_at "sim")
  | ((with_reducible apply ss_baug) <;> walk_at "sim")
  | ((with_reducible apply sim_nnotin) <;> walk_at "sim")
  | ((with_reducible apply sim_nget) <;> walk_at "sim")
  | ((with_reducible apply ss_nput) <;> walk_at "sim")
  | ((with_reducible apply ss_faugMT (by assumption) (by assumption)) <;> walk_at "sim")
  | ((with_reducible apply sim_fldMT (by assumption) (by assumption)) <;> walk_at "sim")
  | ((with_reducible apply sim_mtM) <;> walk_at "sim")
  | ((with_reducible apply sim_mtM0) <;> walk_at "sim")
  | with_reducible exact sim_newBk
  | with_reducible exact so_ixB
  | with_reducible exact so_ixM
  | with_reducible exact so_raddR
  | with_reducible exact so_rsubR
  | with_reducible exact sc_lenM
  | with_reducible exact sc_sortX
  | with_reducible exact sc_lenB
  | with_reducible exact so_radd
  | with_reducible exact so_rsub
  | with_reducible exact sim_newD
  | ((with_reducible apply sim_getM) <;> walk_at "sim")
  | ((with_reducible apply sim_inM) <;> walk_at "sim")
  | ((with_reducible apply sim_notInM) <;> walk_at "sim")
  | ((with_reducible apply ss_putM) <;> walk_at "sim")
  | ((with_reducible apply ss_updM) <;> walk_at "sim")
  | with_reducible exact sc_dictP
  | with_reducible exact sc_lenY
  | with_reducible exact sc_sortY
  | ((with_reducible apply sim_dgetT) <;> walk_at "sim")
  | ((with_reducible apply sim_dinT) <;> walk_at "sim")
  | ((with_reducible apply sim_dnotInT) <;> walk_at "sim")
  | ((with_reducible apply sim_mt0) <;> walk_at "sim")
  | ((with_reducible apply sim_dcE) <;> walk_at "sim")
  | ((with_reducible apply si_enumT) <;> walk_at "sim")
  | with_reducible exact sc_sortI
  | with_reducible exact sim_var
  | with_reducible exact sim_varG
  | with_reducible exact sim_nil
  | with_reducible exact sim_nilB
  | ((with_reducible apply sim_cons) <;> walk_at "sim")
  | ((with_reducible apply sim_consB) <;> walk_at "sim")
  | ((with_reducible apply sim_c); walk_at "sc")
  | ((with_reducible apply sim_op) <;> walk_at "sim")
  | ((with_reducible apply sim_un) <;> walk_at "sim")
  | ((with_reducible apply sim_isG); (with_reducible assumption); walk_at "sim")
  | ((with_reducible apply sim_cb) <;> walk_at "sim")
  | ((with_reducible apply sim_tup) <;> walk_at "sim")
  | ((with_reducible apply sim_lst) <;> walk_at "sim")
  | ((with_reducible apply sim_lstF) <;> walk_at "sim")
  | ((with_reducible apply sim_call) <;> walk_at "sim")
  | ((with_reducible apply sim_callN) <;> walk_at "sim")
  | ((with_reducible apply sim_sl) <;> walk_at "sim")
  | with_reducible exact sp_no
  | ((with_reducible apply sp_part) <;> walk_at "sim")
  | ((with_reducible apply sim_test) <;> walk_at "sim")
  | ((with_reducible apply sim_tB) <;> walk_at "sim")
  | ((with_reducible apply sim_and) <;> walk_at "sim")
  | ((with_reducible apply sim_or) <;> walk_at "sim")
  | ((with_reducible apply sim_not) <;> walk_at "sim")
  | with_reducible exact sim_yes
  | ((with_reducible apply sim_andV) <;> walk_at "sim")
  | ((with_reducible apply sim_orV) <;> walk_at "sim")
  | ((with_reducible apply sim_notV) <;> walk_at "sim")
  | ((with_reducible apply sim_if) <;> walk_at "sim")
  | ((with_reducible apply sim_chain) <;> walk_at "sim")
  | ((with_reducible apply sim_lcF) <;> walk_at "sim")
  | ((with_reducible apply sim_lcE) <;> walk_at "sim")
  | ((with_reducible apply sim_lstRgF) <;> walk_at "sim")
  | ((with_reducible apply sim_lstRg) <;> walk_at "sim")
  | ((with_reducible apply sim_tupRg) <;> walk_at "sim")
  | ((with_reducible apply sim_rg1) <;> walk_at "sim")
  | ((with_reducible apply sim_rg2) <;> walk_at "sim")
  | ((with_reducible apply sim_listF) <;> walk_at "sim")
  | ((with_reducible apply sim_addF) <;> walk_at "sim")
  | ((with_reducible apply sim_join) <;> walk_at "sim")
  | ((with_reducible apply sim_lenSetS) <;> walk_at "sim")
  | ((with_reducible apply sim_fldT); (with_reducible assumption); (with_reducible assumption); walk_at "sim")
  | ((with_reducible apply sim_mk) <;> walk_at "sim")
  | ((with_reducible apply sim_mkN) <;> walk_at "sim")
  | ((with_reducible apply sim_xf); (with_reducible assumption))
  | with_reducible exact so_eqO
  | ((with_reducible apply si_x) <;> walk_at "sim")
  | ((with_reducible apply si_tup) <;> walk_at "sim")
  | ((with_reducible apply si_list) <;> walk_at "sim")
  | ((with_reducible apply si_str) <;> walk_at "sim")
  | ((with_reducible apply si_rng1) <;> walk_at "sim")
  | ((with_reducible apply si_rng2) <;> walk_at "sim")
  | ((with_reducible apply si_enum) <;> walk_at "sim")
  | ((with_reducible apply si_zip) <;> walk_at "sim")
  | with_reducible exact so_addX
  | with_reducible exact so_mulX
  | with_reducible exact so_divX
  | with_reducible exact so_eqX
  | with_reducible exact so_neX
  | with_reducible exact so_inX
  | with_reducible exact so_notInX
  | with_reducible exact so_ltX
  | with_reducible exact so_gtX
  | with_reducible exact so_geX
  | with_reducible exact so_leX
  | ((with_reducible apply so_i0s); (intros; exact True.intro))
  | ((with_reducible apply so_iCs); (intros; exact True.intro))
  | ((with_reducible apply su_is); (intros; exact True.intro))
  | with_reducible exact so_eq
  | with_reducible exact so_ne
  | with_reducible exact so_isN
  | with_reducible exact so_notN
  | with_reducible exact so_isB
  | with_reducible exact so_notB
  | with_reducible exact so_ixL
  | with_reducible exact so_ixT
  | with_reducible exact so_ixS
  | with_reducible exact so_ix
  | with_reducible exact so_in
  | with_reducible exact so_str
  | with_reducible exact so_inS
  | with_reducible exact so_notInS
  | with_reducible exact so_catT
  | with_reducible exact so_catL
  | with_reducible exact so_addS
  | with_reducible exact so_mulS
  | with_reducible exact so_repT
  | with_reducible exact so_eqD
  | with_reducible exact so_neD
  | with_reducible exact so_inD
  | with_reducible exact so_notInD
  | with_reducible exact so_leT
  | with_reducible exact sc_len
  | with_reducible exact sc_int
  | with_reducible exact sc_abs
  | with_reducible exact sc_str
  | with_reducible exact sc_mm
  | with_reducible exact sc_list
  | with_reducible exact sc_tuple
  | with_reducible exact sc_sum
  | with_reducible exact sc_all
  | with_reducible exact sc_any
  | with_reducible exact sc_isi
  | with_reducible exact sc_isiT
  | with_reducible exact sc_repr
  | with_reducible exact sl_x
  | with_reducible exact sl_t
  | with_reducible exact sl_l
  | with_reducible exact sl_s
  | ((with_reducible apply SimE.g); walk_at "sim")
  | (intros; decide)
  | skip)

/-- what cannot be made: all told False -/
def CsOk (N : Nat) (cs : List (Key × D)) : Prop := cs.length + missK cs N = N ∧ ∀ k v, valK cs k = some v → v = .bl false
theorem CsOk.nil {N : Nat} : CsOk N [] := ⟨by simp [miss_nil], fun k v h => by simp [valK_nil] at h⟩
theorem CsOk.put {N t : Nat} {cs : List (Key × D)} (h : CsOk N cs) (ht : t < N) (n : valK cs (.inl (t : Int)) = none) : CsOk N (putKD cs (.inl (t : Int)) (.bl false)) := by
  obtain ⟨h1, h2⟩ := h
  have nh : hasK cs (.inl (t : Int)) = false := by unfold hasK; rw [n]; rfl
  refine ⟨?_, fun k v e => ?_⟩
  · have a := len_put cs (.inl (t : Int)) (.bl false)
    have b := miss_put cs t (.bl false) N
    rw [nh] at a b
    simp [ht] at a b
    omega
  · rw [valK_put] at e
    by_cases q : k = .inl (t : Int)
    · rw [if_pos q] at e
      cases e
      rfl
    · rw [if_neg q] at e
      exact h2 k v e
def wfMade (P : Program) (w : World) (C : Addr) : WF Rg := fun ds s k _ => match ds with
  | [.opq b, .opq hd, .opq cb, .int t] => ∃ r p recs n kvs cs, BkAt P w C b r p recs n s ∧ recs.length ≤ 10000 ∧ s hd = some (.dic kvs) ∧ s cb = some (.dic cs) ∧ hd ≠ cb ∧ CsOk recs.length cs ∧ 0 ≤ t ∧ t < (recs.length : Int) ∧ (hasK kvs (.inl t) = false → ∃ z, atI recs t = some (frD z)) ∧
    ∀ s' cs', s' cb = some (.dic cs') → CsOk recs.length cs' → Kb cb s s' → k (.bl (hasK kvs (.inl t))) s'
  | _ => False
abbrev s__law_made : Stmt := top 41
abbrev N__law_made : List Str := ["book", "had", "can_be", "term", "kind", "part"]
theorem sc__law_made : FnScope N__law_made ["book", "had", "can_be", "term"] (defScope s__law_made) := ⟨rfl, rfl, rfl, by decide +kernel, rfl, by decide +kernel, by decide +kernel⟩
abbrev s__law_reads : Stmt := top 40
abbrev N__law_reads : List Str := ["book", "had", "can_be", "term", "kind", "parts"]
theorem sc__law_reads : FnScope N__law_reads ["book", "had", "can_be", "term"] (defScope s__law_reads) := ⟨rfl, rfl, rfl, by decide +kernel, rfl, by decide +kernel, by decide +kernel⟩
section
variable {P : Program} {w : World} {K : PySem.W.Frag} {mg : Str → Option Value} {base : Heap} {CB : Addr}
theorem ok_made (T : Tx P w K mg) (q_Book_kind : Cf P w K mg base 5 CB "kind" (spX RW (wfOf P w CB fun x _ => x))) (q_Book_parts : Cf P w K mg base 5 CB "parts" (spX RW (wfOf P w CB fun _ y => y))) (f__law_made : Df P w K mg base 5 "_law_made" (spX RW fun _ _ _ _ => False)) {f : Addr} {fd : FuncData} (F : FD K "_law_made" s__law_made f fd) : Fn P w K mg base 6 f fd ["book", "had", "can_be", "term"] (spX RW (wfMade P w CB)) := by
  refine fn_data F sc__law_made (fun ds s k x h => ?_) fun cv A outer s H G hr gd => ⟨_, (pss_cons (ps_if (pt_cmp (pc_din (huB hr) (pv 3) (pv 1))) (pss_one (ps_ret pe_bl)) pss_nil)
    (pss_cons (ps_if (pt_cmp (pc_dnotin (huB hr) (pv 3) (pv 2))) (pss_cons (ps_set (i := 4) sc__law_made.nd rfl (Or.inl rfl) (pe_mtA q_Book_kind hr (by omega) gd (fun σ => Gl.no_pass σ) (pv 0) (pa_cons (pv 3) pa_nil)))
    (pss_one (ps_if (pt_cmpR (kIn (K := K) hr) (pv 4) (pe_tup (pa_cons pe_str (pa_cons pe_str (pa_cons pe_str pa_nil)))) rfl) (pss_one (ps_dput (huB hr) (pv 2) (pv 3) (pe_cmpR (kNe (K := K) hr) (pv 4) pe_str (nomark _)) (by rfl))) (pss_one (ps_dput (huB hr) (pv 2) (pv 3) (pe_callB (kAll (K := K) rfl) (by rfl) T.all (by decide +kernel) (pa_cons (pe_lc (own := [("part", 5)]) (g := gName 5) (by rfl) sc__law_made.nd (kpi (K := K) (pe_mtA q_Book_parts hr (by omega) gd (fun σ => Gl.no_pass σ) (pv 0) (pa_cons (pv 3) pa_nil))) (blkOk_by (own := [("part", 5)]) (N := N__law_made) (sc := defScope s__law_made) (by decide +kernel)) (fun _ _ _ _ _ => pg_name (i := 5) sc__law_made.nd rfl (Or.inl rfl)) (fun _ _ _ _ _ => pts_nil) (fun _ _ _ _ _ => (pe_df f__law_made hr (by omega) gd rfl (fun σ => Gl.no_pass σ) (pa_cons (pv 0) (pa_cons (pv 1) (pa_cons (pv 2) (pa_cons (pv 5) pa_nil))))))) pa_nil)) (by rfl)))))) pss_nil)
    (pss_one (ps_ret (pe_dget (huB hr) (pv 2) (pv 3) (fun _ _ => rfl)))))), ?_⟩
  · match ds, h with
    | [.opq _, .opq _, .opq _, .int _], _ => rfl
  · apply bodyW
    · walk_at "sim"
    intro ds s k x ok h
    match ds, h with
    | [.opq b, .opq hd, .opq cb, .int t], ⟨r, p, recs, n, kvs, cs, hB, rz, e1, e2, ne, co, t0, t1, fr, hk⟩ =>
      have hb := hB
      obtain ⟨dx, xs, hb, hr', hp, br, bp, rp, lx, hx⟩ := hb
      have d1 : dcOf s (.opq hd) = some kvs := by unfold dcOf; dsimp only; rw [e1]
      have d2 : dcOf s (.opq cb) = some cs := by unfold dcOf; dsimp only; rw [e2]
      obtain ⟨i, rfl⟩ := Int.eq_ofNat_of_zero_le t0
      simp [N__law_made]
      refine ⟨kvs, d1, ?_⟩
      simp [D.ky]
      cases hh : hasK kvs (.inl (i : Int)) with
      | true =>
        have := hk s cs e2 co .refl
        rw [hh] at this
        unfold hasK at hh
        refine ite_t hh this
      | false =>
        have hk := fun s' cs' h1 h2 h3 => hk s' cs' h1 h2 h3
        obtain ⟨z, hz⟩ := fr hh
        rw [hh] at hk
        unfold hasK at hh
        refine ite_f (by rw [hh]; decide) ?_
        refine ⟨cs, d2, ?_⟩
        have il : i < recs.length := by omega
        cases hv : valK cs (.inl (i : Int)) with
        | some v =>
          refine ite_f (by simp) ⟨cs, d2, v, hv, ?_⟩
          rw [co.2 _ _ hv]
          exact hk s cs e2 co .refl
        | none =>
          refine ite_t rfl ?_
          rw [hb]
          refine ⟨rfl, noM (by decide), r, p, recs, n, _, _, hB, by omega, by omega, hz, ?_⟩
          refine ⟨by decide, flatIn_strs "fresh" ["name", "number", "fresh"], ite_t ((inD_strs "fresh" ["name", "number", "fresh"]).trans (by decide)) ?_⟩
          simp
          have l1 := co.1
          refine ⟨cs, e2, by rw [sizeLine_eq]; omega, putKD cs (.inl (i : Int)) (.bl false), by unfold dcOf; dsimp only; rw [rup_same], .bl false, by rw [valK_put, if_pos rfl], ?_⟩
          exact hk _ _ rup_same (co.put il hv) .put
theorem hbk {P : Program} {w : World} {C b r p : Addr} {recs : List D} {n : Int} {s : Rg} (h : BkAt P w C b r p recs n s) : ∃ dx, s b = some (.ins C dx (bkFs r p n)) := by
  obtain ⟨dx, xs, h, _⟩ := h
  exact ⟨dx, h⟩
def wfReads (P : Program) (w : World) (C : Addr) : WF Rg := fun ds s k _ => match ds with
  | [.opq b, .opq hd, .opq cb, .int t] => ∃ r p recs n kvs cs H m ps, BkAt P w C b r p recs n s ∧ Frm recs H m ∧ recs.length ≤ 10000 ∧ s hd = some (.dic kvs) ∧ s cb = some (.dic cs) ∧ hd ≠ cb ∧ CsOk recs.length cs ∧ 0 ≤ t ∧ t < (recs.length : Int) ∧
    (∀ h : Nat, h < H → hasK kvs (.inl (h : Int)) = decide ((h : Int) ∈ ps)) ∧
    ∀ s' cs' qs, s' cb = some (.dic cs') → CsOk recs.length cs' → Kb cb s s' → RdOf H m ps recs.length t.toNat qs → k (.tup (qs.map D.int)) s'
  | _ => False
theorem ok_reads (T : Tx P w K mg) (q_Book_kind : Cf P w K mg base 5 CB "kind" (spX RW (wfOf P w CB fun x _ => x))) (q_Book_parts : Cf P w K mg base 5 CB "parts" (spX RW (wfOf P w CB fun _ y => y))) (f__law_made : Df P w K mg base 6 "_law_made" (spX RW (wfMade P w CB))) {f : Addr} {fd : FuncData} (F : FD K "_law_reads" s__law_reads f fd) : Fn P w K mg base 7 f fd ["book", "had", "can_be", "term"] (spX RW (wfReads P w CB)) := by
  refine fn_data F sc__law_reads (fun ds s k x h => ?_) fun cv A outer s H G hr gd => ⟨_, (pss_cons (ps_par (i := 4) (j := 5) (by rfl) sc__law_reads.nd rfl rfl (by decide) rfl rfl (pa_cons (pe_mtA q_Book_kind hr (by omega) gd (fun σ => Gl.no_pass σ) (pv 0) (pa_cons (pv 3) pa_nil)) (pa_cons (pe_mtA q_Book_parts hr (by omega) gd (fun σ => Gl.no_pass σ) (pv 0) (pa_cons (pv 3) pa_nil)) pa_nil)) (by rfl))
    (pss_cons (ps_if (pt_cmpR (kEq (K := K) hr) (pv 4) pe_str (nomark _)) (pss_one (ps_ret (pv 5))) pss_nil)
    (pss_cons (ps_if (pt_cmpR (kEq (K := K) hr) (pv 4) pe_str (nomark _)) (pss_one (ps_ret (pe_slice (kSl (K := K)) (pv 5) (po_some pe_int) po_none))) pss_nil)
    (pss_cons (ps_if (PW.pt (pw_and (pt_cmpR (kEq (K := K) hr) (pv 4) pe_str (nomark _)) (pw_and1 (pt_val (pe_df f__law_made hr (by omega) gd rfl (fun σ => Gl.no_pass σ) (pa_cons (pv 0) (pa_cons (pv 1) (pa_cons (pv 2) (pa_cons (pe_ix (kIx (K := K)) (pv 5) pe_int (fun _ _ => rfl)) pa_nil))))))))) (pss_one (ps_ret (pe_slice (kSl (K := K)) (pv 5) (po_some pe_int) po_none))) pss_nil)
    (pss_cons (ps_if (PW.pt (pw_and (pt_cmpR (kEq (K := K) hr) (pv 4) pe_str (nomark _)) (pw_and (pt_cmpR (kEq (K := K) hr) (pe_mtA q_Book_kind hr (by omega) gd (fun σ => Gl.no_pass σ) (pv 0) (pa_cons (pe_ix (kIx (K := K)) (pv 5) pe_int (fun _ _ => rfl)) pa_nil)) pe_str (nomark _)) (pw_and1 (pt_val (pe_df f__law_made hr (by omega) gd rfl (fun σ => Gl.no_pass σ) (pa_cons (pv 0) (pa_cons (pv 1) (pa_cons (pv 2) (pa_cons (pe_ix (kIx (K := K)) (pe_mtA q_Book_parts hr (by omega) gd (fun σ => Gl.no_pass σ) (pv 0) (pa_cons (pe_ix (kIx (K := K)) (pv 5) pe_int (fun _ _ => rfl)) pa_nil)) pe_int (fun _ _ => rfl)) pa_nil)))))))))) (pss_one (ps_ret (pe_slice (kSl (K := K)) (pv 5) (po_some pe_int) po_none))) pss_nil)
    (pss_one (ps_ret (pe_tup pa_nil)))))))), ?_⟩
  · match ds, h with
    | [.opq _, .opq _, .opq _, .int _], _ => rfl
  · apply bodyW
    · walk_at "sim"
    intro ds s k x ok h
    match ds, h with
    | [.opq b, .opq hd, .opq cb, .int t], ⟨r, p, recs, n, kvs, cs, H, m, ps, hB, FF, rz, e1, e2, ne, co, t0, t1, key, hk⟩ =>
      obtain ⟨dx, hb⟩ := hbk hB
      obtain ⟨i, rfl⟩ := Int.eq_ofNat_of_zero_le t0
      have il : i < recs.length := by omega
      have rd : ∀ kd ps, recs[i]? = some (D.tup [.str kd, .tup ps]) → atI recs (i : Int) = some (.tup [.str kd, .tup ps]) := fun kd ps e => atI_nat e
      refine cut (fun env t => ∃ kd ps, t = s ∧ recs[i]? = some (D.tup [.str kd, .tup ps]) ∧ env = [.dat (.opq b), .dat (.opq hd), .dat (.opq cb), .dat (.int (i : Int)), .dat (.str kd), .dat (.tup ps)]) (fun K1 h1 _ _ => ?_) fun env t hI => ?_
      · have : ∃ kd ps, recs[i]? = some (D.tup [.str kd, .tup ps]) := by
          obtain ⟨kd, ds, _, e, _⟩ := FF.wok i _ (List.getElem?_eq_getElem il)
          exact ⟨kd, ds, by rw [← e]; exact List.getElem?_eq_getElem il⟩
        obtain ⟨kd, ps, e⟩ := this
        simp [N__law_reads, hb]
        refine ⟨noM (by decide), r, p, recs, n, _, _, hB, by omega, by omega, rd _ _ e, ?_⟩
        dsimp only
        rw [hb]
        exact ⟨rfl, noM (by decide), r, p, recs, n, _, _, hB, by omega, by omega, rd _ _ e, h1 _ _ ⟨kd, ps, rfl, e, rfl⟩⟩
      obtain ⟨kd, qs, rfl, e, rfl⟩ := hI
      rcases term_cases FF il with ⟨z, h⟩ | ⟨h, hh, rfl⟩ | ⟨s', j, hs, hj, rfl⟩ | ⟨s', j, hs, hj, rfl⟩
      · rw [e] at h
        cases h
        simp
        exact ite_f (by decide) (ite_f (by decide) (ite_f (by decide) (ite_f (by decide) (hk t cs [] e2 co .refl (RdOf.nil FF (.inl ⟨z, e⟩))))))
      · rw [FF.lock h hh] at e
        cases e
        simp
        exact ite_f (by decide) (ite_f (by decide) (ite_f (by decide) (ite_f (by decide) (hk t cs [] e2 co .refl (RdOf.nil FF (.inr (show H + h < 2 * H by omega)))))))
      · have := FF.row s' j hs hj
        rw [show 2 * H + s' * (3 * H + 1) + 3 * j + 2 = Bs H s' + 3 * j + 2 from rfl, e] at this
        cases this
        simp
        have := hk t cs _ e2 co .refl (RdOf.rows FF hs hj)
        unfold Bs at this
        simpa using this
      · have := FF.box s' j hs hj
        rw [show 2 * H + s' * (3 * H + 1) + 3 * j + 3 = Bs H s' + 3 * j + 3 from rfl, e] at this
        cases this
        simp
        refine ite_f (by decide) (ite_f (by decide) (ite_f (by decide) ?_))
        rw [hb]
        have lk := FF.lock (H - 1 - j) (by omega)
        have ll : H + (H - 1 - j) < recs.length := (List.getElem?_eq_some_iff.mp lk).1
        have la : atI recs ((H : Int) + ((H - 1 - j : Nat) : Int)) = some (enD "lock" [((H - 1 - j : Nat) : Int)]) := by
          have := atI_nat lk
          simpa using this
        refine ⟨rfl, noM (by decide), r, p, recs, n, _, _, hB, by omega, by omega, la, ?_⟩
        simp
        rw [hb]
        refine ⟨rfl, noM (by decide), r, p, recs, n, _, _, hB, by omega, by omega, la, ?_⟩
        simp [atI_0]
        obtain ⟨z, hz⟩ := FF.key (H - 1 - j) (by omega)
        refine ⟨r, p, recs, n, kvs, cs, hB, rz, e1, e2, ne, co, by omega, by omega, fun _ => ⟨z, atI_nat hz⟩, fun s2 cs' h1 h2 h3 => ?_⟩
        rw [key (H - 1 - j) (by omega)]
        by_cases q : ((H - 1 - j : Nat) : Int) ∈ ps
        · have := hk s2 cs' [((Bs H s' + 3 * j + 2 : Nat) : Int)] h1 h2 h3 (RdOf.boxes FF hs hj (by rw [if_pos q]))
          unfold Bs at this
          simp [q, cut1] at this ⊢
          exact this
        · have := hk s2 cs' [] h1 h2 h3 (RdOf.boxes FF hs hj (by rw [if_neg q]))
          simp [q] at this ⊢
          exact this
end
end Law
set_option Elab.async false
set_option linter.all false
set_option maxRecDepth 100000
set_option maxHeartbeats 8000000
namespace Law
open PySem PySem.Spec PyProof.Rows L2 Gl Dw
local macro_rules | `(tactic| walk_at "sc") => `(tactic| first
  | exact True.intro
  | (show _ ≤ sizeLine; decide +kernel))
local macro_rules | `(tactic| walk_at "sim") => `(tactic| first
  | ((with_reducible apply ss_seq) <;> walk_at "sim")
  | with_reducible exact ss_next
  | ((with_reducible apply ss_raise) <;> walk_at "sim")
  | with_reducible exact ss_raise0
  | ((with_reducible apply ss_try); walk_at "sim"; (intro _; walk_at "sim"); walk_at "sim")
  | ((with_reducible apply loc_if) <;> walk_at "sim")
  | with_reducible exact loc_asgDf
  | with_reducible exact loc_asgMk
  | ((with_reducible apply loc_seq) <;> walk_at "sim")
  | with_reducible exact loc_const
  | with_reducible exact SimHs.nil
  | ((with_reducible apply SimHs.cons); (intro _ _ _ _ _ _; walk_at "sim"); walk_at "sim")
  | with_reducible exact ss_brk
  | with_reducible exact ss_cont
  | with_reducible exact ss_retN
  | ((with_reducible apply ss_ret) <;> walk_at "sim")
  | ((with_reducible apply ss_if) <;> walk_at "sim")
  | ((with_reducible apply ss_asgO); (with_reducible assumption); walk_at "sim")
  | ((with_reducible apply ss_nput) <;> walk_at "sim")
  | ((with_reducible apply ss_setM) <;> walk_at "sim")
  | ((with_reducible apply ss_setL) <;> walk_at "sim")
  | ((with_reducible apply ss_pop) <;> walk_at "sim")
  | ((with_reducible apply ss_popAt) <;> walk_at "sim")
  | ((with_reducible apply ss_asg) <;> walk_at "sim")
  | ((with_reducible apply ss_par) <;> walk_at "sim")
  | ((with_reducible apply ss_par3) <;> walk_at "sim")
  | ((with_reducible apply ss_aug) <;> walk_at "sim")
  | ((with_reducible apply ss_app) <;> walk_at "sim")
  | ((with_reducible apply ss_appM) <;> walk_at "sim")
  | ((with_reducible apply ss_ins) <;> walk_at "sim")
  | ((with_reducible apply si_rev) <;> walk_at "sim")
  | ((with_reducible apply ss_ext) <;> walk_at "sim")
  | ((with_reducible apply ss_extX) <;> walk_at "sim")
  | ((with_reducible apply ss_updM) <;> walk_at "sim")
  | ((with_reducible apply ss_drop) <;> walk_at "sim")
  | ((with_reducible apply ss_for) <;> walk_at "sim")
  | ((with_reducible apply ss_while) <;> walk_at "sim")
  | with_reducible exact tg_name
  | ((with_reducible apply tg_tup) <;> walk_at "sim")
  | ((with_reducible apply tgs_cons) <;> walk_at "sim")
  | with_reducible exact tgs_nil
  | with_reducible exact sim_bgetE
  | ((with_reducible apply sim_tupRev) <;> walk_at "sim")
  | with_reducible exact sim_bget
  | ((with_reducible apply ss_bput) <;> walk_at "sim")
  | ((with_reducible apply ss_baug) <;> walk_at "sim")
  | ((with_reducible apply sim_nnotin) <;> walk_at "sim")
  | ((with_reducible apply sim_nget) <;> walk_at "sim")
  | ((with_reducible apply ss_nput) <;> walk_at "sim")
  | ((with_reducible apply ss_faugMT (by assumption) (by assumption)) <;> walk_at "sim")
  | ((with_reducible apply sim_fldMT (by assumption) (by assumption)) <;> walk_at "sim")
  | ((with_reducible apply sim_mtM) <;> walk_at "sim")
  | ((with_reducible apply sim_mtM0) <;> walk_at "sim")
  | with_reducible exact sim_newBk
  | with_reducible exact so_ixB
  | with_reducible exact so_ixM
  | with_reducible exact so_raddR
  | with_reducible exact so_rsubR
  | with_reducible exact sc_lenM
  | with_reducible exact sc_sortX
  | with_reducible exact sc_lenB
  | with_reducible exact so_radd
  | with_reducible exact so_rsub
  | with_reducible exact sim_newD
  | ((with_reducible apply sim_getM) <;> walk_at "sim")
  | ((with_reducible apply sim_inM) <;> walk_at "sim")
  | ((with_reducible apply sim_notInM) <;> walk_at "sim")
  | ((with_reducible apply ss_putM) <;> walk_at "sim")
  | with_reducible exact sc_dictP
  | with_reducible exact sc_lenY
  | with_reducible exact sc_sortY
  | ((with_reducible apply sim_dgetT) <;> walk_at "sim")
  | ((with_reducible apply sim_dinT) <;> walk_at "sim")
  | ((with_reducible apply sim_dnotInT) <;> walk_at "sim")
  | ((with_reducible apply sim_mt0) <;> walk_at "sim")
  | ((with_reducible apply sim_dcE) <;> walk_at "sim")
  | ((with_reducible apply si_enumT) <;> walk_at "sim")
  | with_reducible exact sc_sortI
  | with_reducible exact sim_var
  | with_reducible exact sim_varG
  | with_reducible exact sim_nil
  | with_reducible exact sim_nilB
  | ((with_reducible apply sim_cons) <;> walk_at "sim")
  | ((with_reducible apply sim_consB) <;> walk_at "sim")
  | ((with_reducible apply sim_c); walk_at "sc")
  | ((with_reducible apply sim_op) <;> walk_at "sim")
  | ((with_reducible apply sim_un) <;> walk_at "sim")
  | ((with_reducible apply sim_isG); (with_reducible assumption); walk_at "sim")
  | ((with_reducible apply sim_cb) <;> walk_at "sim")
  | ((with_reducible apply sim_tup) <;> walk_at "sim")
  | ((with_reducible apply sim_lst) <;> walk_at "sim")
  | ((with_reducible apply sim_lstF) <;> walk_at "sim")
  | ((with_reducible apply sim_call) <;> walk_at "sim")
  | ((with_reducible apply sim_callN) <;> walk_at "sim")
  | ((with_reducible apply sim_sl) <;> walk_at "sim")
  | with_reducible exact sp_no
  | ((with_reducible apply sp_part) <;> walk_at "sim")
  | ((with_reducible apply sim_test) <;> walk_at "sim")
  | ((with_reducible apply sim_tB) <;> walk_at "sim")
  | ((with_reducible apply sim_and) <;> walk_at "sim")
  | ((with_reducible apply sim_or) <;> walk_at "sim")
  | ((with_reducible apply sim_not) <;> walk_at "sim")
  | with_reducible exact sim_yes
  | ((with_reducible apply sim_andV) <;> walk_at "sim")
  | ((with_reducible apply sim_orV) <;> walk_at "sim")
  | ((with_reducible apply sim_notV) <;> walk_at "sim")
  | ((with_reducible apply sim_if) <;> walk_at "sim")
  | ((with_reducible apply sim_chain) <;> walk_at "sim")
  | ((with_reducible apply sim_lcF) <;> walk_at "sim")
  | ((with_reducible apply sim_lcE) <;> walk_at "sim")
  | ((with_reducible apply sim_lstRgF) <;> walk_at "sim")
  | ((with_reducible apply sim_lstRg) <;> walk_at "sim")
  | ((with_reducible apply sim_tupRg) <;> walk_at "sim")
  | ((with_reducible apply sim_rg1) <;> walk_at "sim")
  | ((with_reducible apply sim_rg2) <;> walk_at "sim")
  | ((with_reducible apply sim_listF) <;> walk_at "sim")
  | ((with_reducible apply sim_addF) <;> walk_at "sim")
  | ((with_reducible apply sim_join) <;> walk_at "sim")
  | ((with_reducible apply sim_lenSetS) <;> walk_at "sim")
  | ((with_reducible apply sim_fldT); (with_reducible assumption); (with_reducible assumption); walk_at "sim")
  | ((with_reducible apply sim_mk) <;> walk_at "sim")
  | ((with_reducible apply sim_mkN) <;> walk_at "sim")
  | ((with_reducible apply sim_xf); (with_reducible assumption))
  | with_reducible exact so_eqO
  | ((with_reducible apply si_x) <;> walk_at "sim")
  | ((with_reducible apply si_tup) <;> walk_at "sim")
  | ((with_reducible apply si_list) <;> walk_at "sim")
  | ((with_reducible apply si_str) <;> walk_at "sim")
  | ((with_reducible apply si_rng1) <;> walk_at "sim")
  | ((with_reducible apply si_rng2) <;> walk_at "sim")
  | ((with_reducible apply si_enum) <;> walk_at "sim")
  | ((with_reducible apply si_zip) <;> walk_at "sim")
  | with_reducible exact so_addX
  | with_reducible exact so_mulX
  | with_reducible exact so_divX
  | with_reducible exact so_eqX
  | with_reducible exact so_neX
  | with_reducible exact so_inX
  | with_reducible exact so_notInX
  | with_reducible exact so_ltX
  | with_reducible exact so_gtX
  | with_reducible exact so_geX
  | with_reducible exact so_leX
  | ((with_reducible apply so_i0s); (intros; exact True.intro))
  | ((with_reducible apply so_iCs); (intros; exact True.intro))
  | ((with_reducible apply su_is); (intros; exact True.intro))
  | with_reducible exact so_eq
  | with_reducible exact so_ne
  | with_reducible exact so_isN
  | with_reducible exact so_notN
  | with_reducible exact so_isB
  | with_reducible exact so_notB
  | with_reducible exact so_ixL
  | with_reducible exact so_ixT
  | with_reducible exact so_ixS
  | with_reducible exact so_ix
  | with_reducible exact so_in
  | with_reducible exact so_str
  | with_reducible exact so_inS
  | with_reducible exact so_notInS
  | with_reducible exact so_catT
  | with_reducible exact so_catL
  | with_reducible exact so_addS
  | with_reducible exact so_mulS
  | with_reducible exact so_repT
  | with_reducible exact so_eqD
  | with_reducible exact so_neD
  | with_reducible exact so_inD
  | with_reducible exact so_notInD
  | with_reducible exact so_leT
  | with_reducible exact sc_len
  | with_reducible exact sc_int
  | with_reducible exact sc_abs
  | with_reducible exact sc_str
  | with_reducible exact sc_mm
  | with_reducible exact sc_list
  | with_reducible exact sc_tuple
  | with_reducible exact sc_sum
  | with_reducible exact sc_all
  | with_reducible exact sc_any
  | with_reducible exact sc_isi
  | with_reducible exact sc_isiT
  | with_reducible exact sc_repr
  | with_reducible exact sl_x
  | with_reducible exact sl_t
  | with_reducible exact sl_l
  | with_reducible exact sl_s
  | ((with_reducible apply SimE.g); walk_at "sim")
  | (intros; decide)
  | skip)

structure HadOk (H m : Nat) (ps : List Int) (N : Nat) (kvs : List (Key × D)) : Prop where
  a : ∀ t : Nat, FrM H m ps t → hasK kvs (.inl (t : Int)) = true
  b : ∀ t : Nat, hasK kvs (.inl (t : Int)) = true → InU H m ps t
  c : kvs.length + missK kvs N = N
/-- what is there is read -/
def Cls1 (H m : Nat) (ps : List Int) (kvs : List (Key × D)) (t : Int) : Prop := hasK kvs (.inl t) = true → (∀ s j, s < m → j < H → t = ((Bs H s + 3 * j + 2 : Nat) : Int) → hasK kvs (.inl ((Bs H s + 3 * j + 1 : Nat) : Int)) = true) ∧
  ∀ s j, s < m → j < H → t = ((Bs H s + 3 * j + 3 : Nat) : Int) → ((H - 1 - j : Nat) : Int) ∈ ps → hasK kvs (.inl ((Bs H s + 3 * j + 2 : Nat) : Int)) = true
def prQ (qs : List Int) : List (Key × D) := qs.map fun q => (.inl q, .bl true)
theorem prs_ints : ∀ qs : List Int, prsD (qs.map fun q => D.tup [.int q, .bl true]) = some (prQ qs)
  | [] => rfl
  | q :: r => by
    rw [List.map_cons]
    unfold prsD
    dsimp only [D.ky]
    rw [prs_ints r]
    rfl
theorem prQ_flt (qs : List Int) : D.flts ((prQ qs).map (·.2)) = true := flts_of fun d hd => by
  unfold prQ at hd
  rw [List.map_map] at hd
  obtain ⟨q, _, rfl⟩ := List.mem_map.mp hd
  rfl
theorem any_prQ (qs : List Int) (t : Int) : ((prQ qs).any fun p => decide (p.1 = .inl t)) = decide (t ∈ qs) := by
  have : (prQ qs).map (·.1) = qs.map Sum.inl := by unfold prQ; rw [List.map_map]; rfl
  exact any_keys this
/-- dict([(q, True) for q in qs]) -/
def prM (qs : List Int) : List (Key × D) := mrgD [] (prQ qs)
theorem mrg_mem : ∀ {more kvs : List (Key × D)} {p : Key × D}, p ∈ mrgD kvs more → (∃ q ∈ kvs, q.1 = p.1) ∨ ∃ q ∈ more, q.1 = p.1
  | [], _, p, h => .inl ⟨p, h, rfl⟩
  | r :: more, kvs, p, h => by
    rcases mrg_mem (more := more) (kvs := putKD kvs r.1 r.2) h with ⟨q, hq, e⟩ | ⟨q, hq, e⟩
    · unfold putKD at hq
      split at hq
      · obtain ⟨z, hz, rfl⟩ := List.mem_map.mp hq
        refine .inl ⟨z, hz, ?_⟩
        split at e <;> exact e
      · rcases List.mem_append.mp hq with hq | hq
        · exact .inl ⟨q, hq, e⟩
        · rw [List.mem_singleton] at hq
          subst hq
          exact .inr ⟨r, by simp, e⟩
    · exact .inr ⟨q, by simp [hq], e⟩
theorem prM_mem {qs : List Int} {p : Key × D} (h : p ∈ prM qs) : ∃ q ∈ qs, p.1 = .inl q := by
  rcases mrg_mem h with ⟨q, hq, _⟩ | ⟨q, hq, e⟩
  · cases hq
  · obtain ⟨z, hz, rfl⟩ := List.mem_map.mp hq
    exact ⟨z, hz, e.symm⟩
theorem prM_flt (qs : List Int) : D.flts ((prM qs).map (·.2)) = true := flts_mrg rfl (prQ_flt qs)
theorem prM_size (qs : List Int) : (prM qs).length ≤ qs.length := by
  have go : ∀ (more kvs : List (Key × D)), (mrgD kvs more).length ≤ kvs.length + more.length := by
    intro more
    induction more with
    | nil => exact fun kvs => Nat.le_refl _
    | cons p r ih =>
      intro kvs
      have := ih (putKD kvs p.1 p.2)
      have := putKD_len kvs p.1 p.2
      show (mrgD (putKD kvs p.1 p.2) r).length ≤ _
      rw [List.length_cons]
      omega
  have := go (prQ qs) []
  unfold prM
  simp [prQ] at this ⊢
  exact this
theorem has_prM (qs : List Int) (t : Int) : hasK (prM qs) (.inl t) = decide (t ∈ qs) := by
  unfold prM
  rw [hasK_mrg, any_prQ]
  simp [hasK, valK_nil]
theorem has_mrg (kvs : List (Key × D)) (qs : List Int) (t : Int) : hasK (mrgD kvs (prM qs)) (.inl t) = (hasK kvs (.inl t) || decide (t ∈ qs)) := by rw [hasK_mrg, any_hasK, has_prM]
theorem prM_len {N : Nat} {qs : List Int} {kvs : List (Key × D)} (h : ∀ q ∈ qs, ∃ u : Nat, q = u ∧ u < N) : (mrgD kvs (prM qs)).length + missK (mrgD kvs (prM qs)) N = kvs.length + missK kvs N ∧ kvs.length ≤ (mrgD kvs (prM qs)).length ∧
    ((mrgD kvs (prM qs)).length = kvs.length → ∀ q ∈ qs, hasK kvs (.inl q) = true) := by
  obtain ⟨a, b, c⟩ := len_miss (n := N) (more := prM qs) (kvs := kvs) fun p hp => by
    obtain ⟨q, hq, e0⟩ := prM_mem hp
    obtain ⟨u, e, l⟩ := h q hq
    exact ⟨u, by rw [e0, e], l⟩
  refine ⟨a, b, fun z q hq => ?_⟩
  have := any_hasK (.inl q) (prM qs)
  rw [has_prM] at this
  simp [hq] at this
  obtain ⟨b', hb⟩ := this
  exact c z _ hb
theorem HadOk.key {H m N : Nat} {ps : List Int} {kvs : List (Key × D)} (h : HadOk H m ps N kvs) (k : Nat) (hk : k < H) : hasK kvs (.inl (k : Int)) = decide ((k : Int) ∈ ps) := by
  by_cases q : (k : Int) ∈ ps
  · rw [h.a k (.inr (.inl ⟨k, hk, q, rfl⟩))]
    simp [q]
  · cases e : hasK kvs (.inl (k : Int)) with
    | false => simp [q]
    | true =>
      rcases h.b k e with (⟨i, h1, h2⟩ | ⟨i, h1, h3, h2⟩ | ⟨s, j, h1, h2, h3⟩) | ⟨s, j, h1, h2, h3, h4⟩
      · omega
      · subst h2
        exact absurd h3 q
      · have := @bs_ge H s
        omega
      · have := @bs_ge H s
        omega
/-- a term's reading put in -/
theorem HadOk.upd {H m N t : Nat} {ps qs : List Int} {kvs : List (Key × D)} (h : HadOk H m ps N kvs) (ht : hasK kvs (.inl (t : Int)) = true) (r : RdOf H m ps N t qs) : HadOk H m ps N (mrgD kvs (prM qs)) := by
  obtain ⟨a, b, c⟩ := prM_len (N := N) (qs := qs) (kvs := kvs) fun q hq => by
    obtain ⟨u, e, l, _⟩ := r.b q hq
    exact ⟨u, e, l⟩
  refine ⟨fun u hu => by rw [has_mrg, h.a u hu]; rfl, fun u hu => ?_, by rw [a]; exact h.c⟩
  rw [has_mrg, Bool.or_eq_true] at hu
  rcases hu with hu | hu
  · exact h.b u hu
  · obtain ⟨v, e, _, i⟩ := r.b _ (of_decide_eq_true hu)
    rw [show u = v by omega]
    exact i (h.b t ht)
def wfOpened (P : Program) (w : World) (C : Addr) : WF Rg := fun ds s k _ => match ds with
  | [.opq b, .tup fr] => ∃ (r p : Addr) (recs : List D) (n : Int) (H m : Nat) (ps ts : List Int), BkAt P w C b r p recs n s ∧ Frm recs H m ∧ recs.length ≤ 10000 ∧ fr = ts.map D.int ∧ ts.length ≤ 1000 ∧ (∀ q ∈ ts, ∃ t : Nat, q = t ∧ FrM H m ps t) ∧ (∀ t : Nat, FrM H m ps t → (t : Int) ∈ ts) ∧
    ∀ s' hd kvs, s hd = none → Kp s s' → s' hd = some (.dic kvs) → HadOk H m ps recs.length kvs → (∀ s j, s < m → j < H → ((H - 1 - j : Nat) : Int) ∈ ps → hasK kvs (.inl ((Bs H s + 3 * j + 1 : Nat) : Int)) = true) → k (.opq hd) s'
  | _ => False
abbrev s__law_opened : Stmt := top 39
abbrev N__law_opened : List Str := ["book", "bag", "inside", "had", "can_be", "term", "many", "one"]
theorem sc__law_opened : FnScope N__law_opened ["book", "bag"] (defScope s__law_opened) := ⟨rfl, rfl, rfl, by decide +kernel, rfl, by decide +kernel, by decide +kernel⟩
section
variable {P : Program} {w : World} {K : PySem.W.Frag} {mg : Str → Option Value} {base : Heap} {CB : Addr}
theorem ok_opened (T : Tx P w K mg) (q_Book_within : Cf P w K mg base 4 CB "within" (spX RW (wfRawW P w CB))) (f__law_reads : Df P w K mg base 7 "_law_reads" (spX RW (wfReads P w CB))) {f : Addr} {fd : FuncData} (F : FD K "_law_opened" s__law_opened f fd) : Fn P w K mg base 8 f fd ["book", "bag"] (spX RW (wfOpened P w CB)) := by
  refine fn_data F sc__law_opened (fun ds s k x h => ?_) fun cv A outer s H G hr gd => ⟨_, (pss_cons (ps_par3 (i := 2) (j := 3) (l := 4) (by rfl) sc__law_opened.nd rfl rfl rfl (by decide) (by decide) (by decide) rfl rfl rfl (pa_cons (pe_mtA q_Book_within hr (by omega) gd (fun σ => Gl.no_pass σ) (pv 0) (pa_cons (pv 1) pa_nil)) (pa_cons pe_dnewK (pa_cons pe_dnewK pa_nil))) (by rfl))
    (pss_cons (ps_expr (pe_dupd (pv 3) (pe_callTy (kDictP (K := K) rfl) (by rfl) T.dict (by decide +kernel) (pa_cons (pe_lc (own := [("term", 5)]) (g := gName 5) (by rfl) sc__law_opened.nd (kpi (K := K) (pv 1)) (blkOk_by (own := [("term", 5)]) (N := N__law_opened) (sc := defScope s__law_opened) (by decide +kernel)) (fun _ _ _ _ _ => pg_name (i := 5) sc__law_opened.nd rfl (Or.inl rfl)) (fun _ _ _ _ _ => pts_nil) (fun _ _ _ _ _ => (pe_tup (pa_cons (pv 5) (pa_cons pe_bl pa_nil))))) pa_nil)) ⟨rfl, rfl, rfl, rfl⟩))
    (pss_cons (ps_set (i := 6) sc__law_opened.nd rfl (Or.inl rfl) (pe_un un_neg pe_int))
    (pss_cons (ps_while (passes_of rfl) (pt_cmpR (kNe (K := K) hr) (pv 6) (pe_callB (kLenY (K := K)) (by rfl) T.len (by decide +kernel) (pa_cons (pv 3) pa_nil)) (nomark _)) (pss_cons (ps_par (i := 6) (j := 4) (by rfl) sc__law_opened.nd rfl rfl (by decide) rfl rfl (pa_cons (pe_callB (kLenY (K := K)) (by rfl) T.len (by decide +kernel) (pa_cons (pv 3) pa_nil)) (pa_cons pe_dnewK pa_nil)) (by rfl))
    (pss_one (ps_for (passes_of rfl) rfl (kpi (K := K) (pv 2)) (pg_name (i := 5) sc__law_opened.nd rfl (Or.inl rfl))
      (pss_one (ps_if (pt_cmp (pc_din (huB hr) (pv 5) (pv 3))) (pss_one (ps_expr (pe_dupd (pv 3) (pe_callTy (kDictP (K := K) rfl) (by rfl) T.dict (by decide +kernel) (pa_cons (pe_lc (own := [("one", 7)]) (g := gName 7) (by rfl) sc__law_opened.nd (kpi (K := K) (pe_df f__law_reads hr (by omega) gd rfl (fun σ => Gl.no_pass σ) (pa_cons (pv 0) (pa_cons (pv 3) (pa_cons (pv 4) (pa_cons (pv 5) pa_nil)))))) (blkOk_by (own := [("one", 7)]) (N := N__law_opened) (sc := defScope s__law_opened) (by decide +kernel)) (fun _ _ _ _ _ => pg_name (i := 7) sc__law_opened.nd rfl (Or.inl rfl)) (fun _ _ _ _ _ => pts_nil) (fun _ _ _ _ _ => (pe_tup (pa_cons (pv 7) (pa_cons pe_bl pa_nil))))) pa_nil)) ⟨rfl, rfl, rfl, rfl⟩))) pss_nil))))))
    (pss_one (ps_ret (pv 3))))))), ?_⟩
  · match ds, h with
    | [.opq _, .tup _], _ => rfl
  · apply bodyW
    · walk_at "sim"
    intro ds s k x ok h
    match ds, h with
    | [.opq b, .tup fr], ⟨r, p, recs, n0, H, m, ps, ts, hB, FF, rz, efr, tl, f1, f2, hk⟩ =>
      subst efr
      have fb : ∀ t : Nat, FrM H m ps t → t < recs.length := fun t ht => by
        rcases ht with ⟨h, h1, rfl⟩ | ⟨h, h1, _, rfl⟩ | ⟨s, j, h1, h2, rfl⟩
        · have := FF.len; omega
        · have := FF.len; omega
        · have := bs_lt FF h1; omega
      have tb : ∀ q ∈ ts, 0 ≤ q ∧ q < (recs.length : Int) := fun q hq => by
        obtain ⟨t, rfl, ht⟩ := f1 q hq
        have := fb t ht
        omega
      refine cut (fun env t => ∃ (ms : List Int) (hd cb : Addr), s hd = none ∧ s cb = none ∧ hd ≠ cb ∧ Kp s t ∧ t hd = some (.dic []) ∧ (∀ z ∈ ms, 0 ≤ z ∧ z < (recs.length : Int)) ∧ (∀ z ∈ ts, z ∈ ms) ∧ ms.length ≤ 10000 ∧ ClW recs ms [] ∧ env = [.dat (.opq b), .dat (.tup (ts.map D.int)), .dat (.lst (ms.map D.int)), .dat (.opq hd), .dat (.opq cb), .no, .no, .no]) (fun K1 h1 _ _ => ?_) fun env t hI => ?_
      · obtain ⟨dx, hb⟩ := hbk hB
        simp [N__law_opened, hb]
        refine ⟨noM (by decide), r, p, recs, n0, ts, hB, FF.wok, rz, .inl rfl, tb, by omega, fun ms s2 kp b1 b2 b3 b4 hd h1' cb h2' => ?_⟩
        have ne : hd ≠ cb := fun z => by subst z; rw [rup_same] at h2'; cases h2'
        have n1 : s hd = none := by
          cases e : s hd with
          | none => rfl
          | some o => rw [kp.at e] at h1'; cases h1'
        have kp1 : Kp s (rup s2 hd (.dic [])) := kp.off n1
        have n2 : s cb = none := by
          cases e : s cb with
          | none => rfl
          | some o => rw [kp1.at e] at h2'; cases h2'
        exact h1 _ _ ⟨ms, hd, cb, n1, n2, ne, kp1.off n2, by rw [rup_ne ne, rup_same], b1, b2, b3, b4, rfl⟩
      obtain ⟨ms, hd, cb, n1, n2, ne, kp, e1, mb, tm, ml, cl, rfl⟩ := hI
      have had0 : HadOk H m ps recs.length (mrgD [] (prM ts)) := by
        obtain ⟨a, b, c⟩ := prM_len (N := recs.length) (qs := ts) (kvs := []) fun q hq => by
          obtain ⟨u, e, l⟩ := f1 q hq
          exact ⟨u, e, fb u l⟩
        refine ⟨fun u hu => by rw [has_mrg]; simp [f2 u hu], fun u hu => ?_, by rw [a]; simp [miss_nil]⟩
        rw [has_mrg] at hu
        simp [hasK, valK_nil] at hu
        obtain ⟨v, e, l⟩ := f1 _ hu
        rw [show u = v by omega]
        exact .inl l
      refine cut (fun env t => Kp s t ∧ t hd = some (.dic (mrgD [] (prM ts))) ∧ env = [.dat (.opq b), .dat (.tup (ts.map D.int)), .dat (.lst (ms.map D.int)), .dat (.opq hd), .dat (.opq cb), .no, .no, .no]) (fun K1 h1 _ _ => ?_) fun env t hI => ?_
      · simp [e1]
        refine ⟨by rw [sizeLine_eq]; omega, wLc_map (fun d => .tup [d, .bl true]) (fun d hd kt hkt => ?_) ?_⟩
        · obtain ⟨q, hq, rfl⟩ := List.mem_map.mp hd
          simp
          exact ⟨by decide, hkt⟩
        · rw [List.map_map]
          exact ⟨_, prs_ints ts, [], e1, prM_flt ts, by have := prM_size ts; unfold prM at this; rw [sizeLine_eq]; simp; omega, h1 _ _ ⟨kp.off n1, rup_same, rfl⟩⟩
      clear e1 kp
      obtain ⟨kp, e1, rfl⟩ := hI
      refine cut (fun env t2 => t2 = t ∧ env = [.dat (.opq b), .dat (.tup (ts.map D.int)), .dat (.lst (ms.map D.int)), .dat (.opq hd), .dat (.opq cb), .no, .dat (.int (-1)), .no]) (fun K1 h1 _ _ => ?_) fun env t2 hI => ?_
      · exact h1 _ _ ⟨rfl, rfl⟩
      obtain ⟨rfl, rfl⟩ := hI
      refine cut (fun env t => ∃ kvs cb v5 v6 v7, Kp s t ∧ t hd = some (.dic kvs) ∧ HadOk H m ps recs.length kvs ∧ (∀ z ∈ ms, Cls1 H m ps kvs z) ∧ env = [.dat (.opq b), .dat (.tup (ts.map D.int)), .dat (.lst (ms.map D.int)), .dat (.opq hd), cb, v5, v6, v7]) (fun K1 h1 _ _ => ?_) fun env t hI => ?_
      · refine wWh_fuel (fun n env t => ∃ (kvs : List (Key × D)) (cb v5 v7 : Sl) (mn : Int), Kp s t ∧ t hd = some (.dic kvs) ∧ HadOk H m ps recs.length kvs ∧ (mn = kvs.length → ∀ z ∈ ms, Cls1 H m ps kvs z) ∧ 2 * missK kvs recs.length + (if mn = kvs.length then 0 else 1) = n ∧ env = [.dat (.opq b), .dat (.tup (ts.map D.int)), .dat (.lst (ms.map D.int)), .dat (.opq hd), cb, v5, .dat (.int mn), v7])
          ⟨_, _, _, _, _, kp, e1, had0, fun z => by omega, rfl, rfl⟩ ?_
        intro n jf env t ih hp
        obtain ⟨kvs, cbs, v5, v7, mn, kp, e1, ho, hc, en, rfl⟩ := hp
        show wTest _ _ _ _ _
        by_cases q : mn = kvs.length
        · simp [e1, q]
          exact h1 _ _ ⟨kvs, cbs, v5, _, v7, kp, e1, ho, hc q, rfl⟩
        · simp [e1]
          refine ite_f q ?_
          rw [if_neg q] at en
          intro cb hcb
          have ne2 : hd ≠ cb := fun z => by rw [← z, e1] at hcb; cases hcb
          have scb : s cb = none := by
            cases e : s cb with
            | none => rfl
            | some o => rw [kp.at e] at hcb; cases hcb
          refine wFor_ind (fun rest env t2 => ∃ (done rst : List Int) (kv2 cs : List (Key × D)) (v5 v7 : Sl), rest = rst.map D.int ∧ ms = done ++ rst ∧ Kp s t2 ∧ t2 hd = some (.dic kv2) ∧ t2 cb = some (.dic cs) ∧ CsOk recs.length cs ∧ HadOk H m ps recs.length kv2 ∧ kvs.length ≤ kv2.length ∧ (kv2.length = kvs.length → ∀ z ∈ done, Cls1 H m ps kv2 z) ∧
            env = [.dat (.opq b), .dat (.tup (ts.map D.int)), .dat (.lst (ms.map D.int)), .dat (.opq hd), .dat (.opq cb), v5, .dat (.int (kvs.length : Int)), v7]) ⟨[], ms, kvs, [], v5, v7, rfl, rfl, kp.off scb, by rw [rup_ne ne2]; exact e1, rup_same, .nil, ho, Nat.le_refl _, fun _ z hz => (nomatch hz), rfl⟩ (fun env t2 hp => ?_) fun d rest ih2 env t2 hp => ?_
          · obtain ⟨done, rst, kv2, cs, w5, w7, e0, em, kp2, e2, e3, co, ho2, le, cl2, rfl⟩ := hp
            have : rst = [] := by simpa using e0.symm
            subst this
            rw [List.append_nil] at em
            subst em
            refine ih (2 * missK kv2 recs.length + (if (kvs.length : Int) = (kv2.length : Int) then 0 else 1)) _ _ ?_ ⟨kv2, _, _, _, _, kp2, e2, ho2, fun z => cl2 (by omega), rfl, rfl⟩
            have a := ho.c
            have b := ho2.c
            split <;> omega
          · obtain ⟨done, rst, kv2, cs, w5, w7, e0, em, kp2, e2, e3, co, ho2, le, cl2, rfl⟩ := hp
            match rst, e0 with
            | z :: rst', e0 =>
              rw [List.map_cons] at e0
              obtain ⟨rfl, rfl⟩ := List.cons.inj e0
              have zb := mb z (by rw [em]; simp)
              have dc : dcOf t2 (.opq hd) = some kv2 := by unfold dcOf; dsimp only; rw [e2]
              simp
              refine ⟨kv2, dc, ?_⟩
              simp [D.ky]
              refine iteB (fun hz => ?_) fun hz => ?_
              · obtain ⟨i, rfl⟩ := Int.eq_ofNat_of_zero_le zb.1
                have il : i < recs.length := by omega
                refine ⟨⟨kv2, e2⟩, r, p, recs, n0, kv2, cs, H, m, ps, hB.kp kp2, FF, rz, e2, e3, ne2, co, zb.1, zb.2, ho2.key, fun s3 cs3 qs h1 h2 h3 rd => ?_⟩
                have rd : RdOf H m ps recs.length i qs := rd
                have kp3 : Kp s s3 := fun x nx => (h3 x (fun z => nx (by rw [z]; exact scb)) (by rw [kp2 x nx]; exact nx)).trans (kp2 x nx)
                have e4 : s3 hd = some (.dic kv2) := h3.at ne2 e2
                have ql := rd.len
                dsimp only
                refine ⟨by rw [sizeLine_eq, List.length_map]; omega, wLc_map (fun d => .tup [d, .bl true]) (fun d hd kt hkt => ?_) ?_⟩
                · obtain ⟨q, hq, rfl⟩ := List.mem_map.mp hd
                  simp
                  exact ⟨by decide, hkt⟩
                · rw [List.map_map]
                  have c := ho2.c
                  have ho3 := ho2.upd hz rd
                  obtain ⟨l1, l2, l3⟩ := prM_len (N := recs.length) (qs := qs) (kvs := kv2) fun q hq => by
                    obtain ⟨u, e, l, _⟩ := rd.b q hq
                    exact ⟨u, e, l⟩
                  refine ⟨_, prs_ints qs, kv2, e4, prM_flt qs, by have := prM_size qs; unfold prM at this; rw [sizeLine_eq]; omega, ?_⟩
                  refine ih2 _ _ ⟨done ++ [(i : Int)], rst', mrgD kv2 (prM qs), cs3, _, _, rfl, by rw [em]; simp, kp3.off n1, rup_same, by rw [rup_ne (Ne.symm ne2)]; exact h1, h2, ho3, by omega, fun z1 z2 hz2 hh => ?_, rfl⟩
                  have same : (mrgD kv2 (prM qs)).length = kv2.length := by omega
                  have allq := l3 same
                  have hs : ∀ t : Int, hasK (mrgD kv2 (prM qs)) (.inl t) = hasK kv2 (.inl t) := fun t => by
                    rw [has_mrg]
                    by_cases q : t ∈ qs
                    · rw [allq t q]; rfl
                    · simp [q]
                  rw [hs] at hh
                  simp only [hs]
                  rcases List.mem_append.mp hz2 with hz2 | hz2
                  · exact cl2 (by omega) z2 hz2 hh
                  · rw [List.mem_singleton] at hz2
                    subst hz2
                    exact ⟨fun s j hs hj e => allq _ (rd.row s j hs hj (by omega)), fun s j hs hj e hp => allq _ (rd.box s j hs hj (by omega) hp)⟩
              · refine ih2 _ _ ⟨done ++ [z], rst', kv2, cs, _, _, rfl, by rw [em]; simp, kp2, e2, e3, co, ho2, le, fun z1 z2 hz2 => ?_, rfl⟩
                rcases List.mem_append.mp hz2 with hz2 | hz2
                · exact cl2 z1 z2 hz2
                · rw [List.mem_singleton] at hz2
                  subst hz2
                  intro hh
                  unfold hasK at hh
                  rw [hz] at hh
                  cases hh
      obtain ⟨kvs, cbs, v5, v6, v7, kp, e1, ho, hc, rfl⟩ := hI
      refine hk t hd kvs n1 kp e1 ho fun s' j hs hj hp => ?_
      have m1 : ((Bs H s' + 3 * j + 3 : Nat) : Int) ∈ ms := tm _ (f2 _ (.inr (.inr ⟨s', j + 1, hs, by omega, by omega⟩)))
      have h1 : hasK kvs (.inl ((Bs H s' + 3 * j + 3 : Nat) : Int)) = true := ho.a _ (.inr (.inr ⟨s', j + 1, hs, by omega, by omega⟩))
      have h2 := (hc _ m1 h1).2 s' j hs hj rfl hp
      have m2 : ((Bs H s' + 3 * j + 2 : Nat) : Int) ∈ ms := by
        have := cl _ m1 "box" _ (atI_nat (FF.box s' j hs hj)) ((Bs H s' + 3 * j + 2 : Nat) : Int) (by
          rw [inP_no (by decide)]
          simp [Bs])
        exact this.resolve_right (by simp)
      exact (hc _ m2 h2).1 s' j hs hj rfl
end
end Law
set_option Elab.async false
set_option linter.all false
set_option maxRecDepth 100000
set_option maxHeartbeats 4000000
/-! Rn: lists made into the registry by a rule's name; pop of such as a value. -/
namespace L2
open PySem PySem.Spec PyProof.Rows PySem.W
def rListR (K : PySem.W.Frag) : List V → Hp → VK → Prop := Rd.rListOf K
section
variable {X : Cx}
theorem kListR {K : PySem.W.Frag} (e : X.K = K := by rfl) : CallR X (.type "list") (rListR K) := by
  subst e
  exact Rd.cr_list
/-- [..] as a list of the registry -/
def tLstR (t : TA) : TE := tLst t
end
end L2
namespace Dw
open PySem PySem.Spec PyProof.Rows L2
@[simp] def wListR (wa : WA Rg) : WE Rg := fun env s k x => wa env s (fun ds s1 => match ds with
  | [.lst es] => D.flts es = true ∧ ∀ a, s1 a = none → k (.opq a) (rup s1 a (.lst es))
  | [.tup es] => D.flts es = true ∧ ∀ a, s1 a = none → k (.opq a) (rup s1 a (.lst es))
  | _ => False) x
@[simp] def wLstR (wa : WA Rg) : WE Rg := fun env s k x => wa env s (fun ds s1 => ds.length ≤ sizeLine ∧ D.flts ds = true ∧ ∀ a, s1 a = none → k (.opq a) (rup s1 a (.lst ds))) x
/-- xs.pop(i), xs of the registry -/
@[simp] def wPopAtM (wo wi : WE Rg) : WE Rg := fun env s k x => wo env s (fun d s1 => match d with
  | .opq a => (∃ ds, s1 a = some (.lst ds)) ∧ wi env s1 (fun i s2 => match i with
    | .int z => ∃ ds j y, s2 a = some (.lst ds) ∧ -(2 ^ 63) ≤ z ∧ z < 2 ^ 63 ∧ seqIndex? z ds.length = some j ∧ ds[j]? = some y ∧ k y (rup s2 a (.lst (ds.eraseIdx j)))
    | _ => False) x
  | _ => False) x
section
variable {S : Type} {W : Wd S} {G : Gm S}
/-- x, y = e, [..]: y the def's own -/
@[simp] def wParEF (i j : Nat) (wa : WE S) (wb : WI S) : WS S := fun K env s => wa env s (fun d s1 => wb env s1 (fun ds s2 => K.nx (ss (ss env i (.dat d)) j (.own ds)) s2) K.xc) K.xc
theorem ss_parEF {i j : Nat} {ta tb : TE} {wa : WE S} {wb : WI S} (o : OwnSl j) (ha : SimE W G ta wa) (hb : SimF W G tb wb) : SimS W G (tPar i j (tCons ta (tCons tb tNil))) (wParEF i j wa wb) := fun R env σ H s rl K hw Dn e =>
  ha R env σ H s rl _ K.xc hw e.xc _ fun d s1 v H1 hw1 f1 j1 a1 => hb R env σ H1 s1 (rl.step f1 j1) _ K.xc hw1 e.xc _ fun ds s2 p xs H2 hk f2 j2 hp hp' nb l z => by
    have relA := (rl.step f1 j1).setD i a1
    by_cases hj : j < env.length
    · obtain ⟨rl', m⟩ := relA.setO f2 j2 j hp (by rw [hp']; simp) nb (.lst hp' l z) rfl (by rw [ss_len]; exact hj)
      exact ⟨_, _, rfl, e.nx _ _ _ H2 s2 hk rl' (f1.mv.trans m)⟩
    · refine ⟨_, _, rfl, e.nx R _ _ H2 s2 hk ?_ (f1.trans f2).mv⟩
      rw [ss_out _ _ _ (by rw [ss_len]; exact Nat.le_of_not_lt hj), List.set_eq_of_length_le (by rw [List.length_set, rl.env.len]; exact Nat.le_of_not_lt hj)]
      exact relA.step f2 j2
end
section
variable {S : Type} {W : Wd S} {G : Gm S} {K : PySem.W.Frag}
theorem ss_asgTEF {i j : Nat} {ta tb : TE} {wa : WE S} {wb : WI S} (o : OwnSl j) (ha : SimE W G ta wa) (hb : SimF W G tb wb) : SimS W G (tAsg (tTup (tCons ta (tCons tb tNil))) (gTup K 2 (gCons (gName i) (gCons (gName j) gNil)))) (wParEF i j wa wb) := fun R env σ H s rl KK hw Dn e =>
  ha R env σ H s rl _ KK.xc hw e.xc _ fun d s1 v H1 hw1 f1 j1 a1 => hb R env σ H1 s1 (rl.step f1 j1) _ KK.xc hw1 e.xc _ fun ds s2 p xs H2 hk f2 j2 hp hp' nb l z => by
    have relA := (rl.step f1 j1).setD i a1
    refine ⟨(show 2 ≤ sizeLine by decide), fun q hq => ⟨q, _, rfl, .of upd_same, rfl, _, _, rfl, _, _, rfl, rfl, ?_⟩⟩
    by_cases hj : j < env.length
    · obtain ⟨rl', m⟩ := relA.setO f2 j2 j hp (by rw [hp']; simp) nb (.lst hp' l z) rfl (by rw [ss_len]; exact hj)
      have f3 := Fr.new_at (o := .tup [v, .ref p]) hq rl'.at_
      exact e.nx _ _ _ _ s2 hk (rl'.step f3 (rl'.at_.new_at hq).j) ((f1.mv.trans m).trans f3.mv)
    · have r2 := relA.step f2 j2
      have f3 := Fr.new_at (o := .tup [v, .ref p]) hq r2.at_
      refine e.nx R _ _ _ s2 hk ?_ ((f1.trans f2).trans f3).mv
      rw [ss_out _ _ _ (by rw [ss_len]; exact Nat.le_of_not_lt hj), List.set_eq_of_length_le (by rw [List.length_set, rl.env.len]; exact Nat.le_of_not_lt hj)]
      exact r2.step f3 (r2.at_.new_at hq).j
end
theorem wLc_mapA {S α : Type} {g : WG} {te : WE S} {vs : List Nat} {env : List Sl} {s : S} {x : Xc → S → Prop} (f e : α → D) : ∀ {l : List α} {k : List D → S → Prop}, (∀ a ∈ l, ∀ kt : D → S → Prop, kt (f a) s → g (e a) (wp env vs) fun e1 => te e1 s kt x) → k (l.map f) s → wLc g (fun _ s k _ => k true s) te vs (l.map e) env s k x
  | [], _, _, hk => hk
  | a :: r, k, h, hk => by
    rw [List.map_cons]
    unfold wLc
    rw [show (fun e1 => (fun b s1 => if b = true then te e1 s1 (fun y s2 => wLc g (fun _ s k _ => k true s) te vs (r.map e) env s2 (fun ys s3 => k (y :: ys) s3) x) x else wLc g (fun _ s k _ => k true s) te vs (r.map e) env s1 k x) true s) = fun e1 => te e1 s (fun y s2 => wLc g (fun _ s k _ => k true s) te vs (r.map e) env s2 (fun ys s3 => k (y :: ys) s3) x) x from by funext e1; simp]
    exact h a (by simp) _ (wLc_mapA f e (fun b hb => h b (by simp [hb])) hk)
/-- tuple(xs), list(xs) of anything: a tuple of a registered list -/
@[simp] def wTupM : List D → Rg → (D → Rg → Prop) → Prop := fun ds s k => match ds with
  | [.opq a] => (match s a with
    | some (.lst xs) => k (.tup xs) s
    | _ => False)
  | ds => wTupOf ds s k
section
variable {G : Gm Rg} {K : PySem.W.Frag}
theorem sc_tupM : SimC RW (Rd.rTupOf K) wTupM := fun R s H at_ xs ds a k hw Q hQ => by
  match ds, a, hw with
  | [.opq c], a, hw =>
    obtain ⟨v, rfl, a1⟩ := a.one
    unfold wTupM at hw
    dsimp only at hw
    cases a1 with
    | da a2 =>
      cases a2
      cases q : s c with
      | none => rw [q] at hw; exact hw.elim
      | some o =>
        rw [q] at hw
        cases o with
        | lst ds =>
          obtain ⟨f, ys, e1, l, z⟩ := at_.j c _ q
          have l' : DaL (Bf RW R s) H ys ds := l.fl (fun _ _ e => ⟨e, at_.tup e⟩) f
          exact ⟨c, ys, rfl, .inl ⟨.of e1, fun p hp => hQ _ _ _ hw (.new_at hp at_) (at_.new_at hp).j (.tup upd_same (at_.fresh hp) (l'.mv (Fr.new_at hp at_).mv) z)⟩⟩
        | _ => exact hw.elim
  | [.lst _], a, hw => exact sc_tuple R s H at_ xs _ a k hw Q hQ
  | [.tup _], a, hw => exact sc_tuple R s H at_ xs _ a k hw Q hQ
/-- a new list of the registry -/
theorem rg_lst {s : Rg} {H : Hp} {R : Addr → Prop} {ds : List D} {vs : List V} {k : D → Rg → Prop} {Q : VK} (t : At RW R s H) (l : DaL (Bf RW R s) H vs ds) (z : ds.length ≤ sizeLine) (f : D.flts ds = true) (hk : ∀ a, s a = none → k (.opq a) (rup s a (.lst ds)))
    (hQ : ∀ d s' v H', k d s' → Fr RW s H s' H' → RW.J s' H' → Da (Bf RW R s') H' v d → Q v H') : ∀ p, H p = none → Q (.ref p) (upd H p (.lst vs)) := fun p hp => by
  have j := t.j
  have sn : s p = none := by
    cases q : s p with
    | none => rfl
    | some o => exact absurd hp (j p o q).2.there.1
  have into : DaL (fun x => s x ≠ none) H vs ds := l.fl (fun _ _ e => ⟨e, fun c => RJ.ct j c e⟩) f
  have tn : ∀ t ys, H t = some (.tup ys) → upd H p (.lst vs) t = some (.tup ys) ∧ ¬ (s t ≠ none) := fun t ys et => ⟨by rw [upd_ne fun zz => by rw [zz, hp] at et; cases et]; exact et, fun c => RJ.ct j c et⟩
  obtain ⟨p2, p3⟩ := rg_new (o := .lst ds) (u := .lst vs) j hp f ⟨vs, upd_same, into.fl tn f, z⟩
  exact hQ _ _ _ _ (hk p sn) p2 p3 (.opq p)
theorem sim_listR {ta : TA} {wa : WA Rg} (ha : SimB RW G ta wa) : SimE RW G (tCB (rListR K) ta) (wListR wa) := fun R env σ H s rl k x hw ox Q hQ => ha R env σ H s rl _ x hw ox _ fun ds s1 vs H1 hw1 f1 j1 a1 => by
  have at1 := (rl.step f1 j1).at_
  match ds, a1, hw1 with
  | [.lst es], a1, ⟨f, hk⟩ =>
    obtain ⟨v, rfl, a⟩ := a1.one
    obtain ⟨p, xs, rfl, e, l, z⟩ := a.lstI
    exact ⟨p, xs, rfl, .inl (.of e), rg_lst at1 l z f hk fun d s' v H' hk f j a => hQ d s' v H' hk (f1.trans f) j a⟩
  | [.tup es], a1, ⟨f, hk⟩ =>
    obtain ⟨v, rfl, a⟩ := a1.one
    obtain ⟨p, xs, rfl, e, l, _, z⟩ := a.tupI
    exact ⟨p, xs, rfl, .inr (.of e), rg_lst at1 l z f hk fun d s' v H' hk f j a => hQ d s' v H' hk (f1.trans f) j a⟩
theorem sim_popAtM {to ti : TE} {wo wi : WE Rg} (ho : SimE RW G to wo) (hi : SimE RW G ti wi) : SimE RW G (tBM K "list" rPopAt to (tCons ti tNil)) (wPopAtM wo wi) := fun R env σ H s rl k x hw ox Q hQ => ho R env σ H s rl _ x hw ox _ fun d s1 v H1 hw1 f1 j1 a1 => by
  have rl1 := rl.step f1 j1
  cases d with
  | opq a =>
    cases a1
    obtain ⟨⟨ds, qs⟩, hw1⟩ := hw1
    obtain ⟨_, xs, e1, l, _⟩ := j1 a _ qs
    refine ⟨.inl ⟨rfl, xs, .of e1⟩, hi R env σ H1 s1 rl1 _ x hw1 ox _ fun i s2 u H2 hw2 f2 j2 a2 => ?_⟩
    have rl2 := rl1.step f2 j2
    cases i with
    | int z =>
      cases a2
      obtain ⟨ds, jj, y, q2, z1, z2, hs, hy, hk⟩ := hw2
      obtain ⟨f, xs, e2, l, lz⟩ := j2 a _ q2
      obtain ⟨v, hv, dv⟩ := l.get' hy
      have fe : D.flts (ds.eraseIdx jj) = true := flts_of fun d hd => flts_mem f (List.mem_of_mem_eraseIdx hd)
      have keep : ∀ t ys, H2 t = some (.tup ys) → upd H2 a (.lst (xs.eraseIdx jj)) t = some (.tup ys) ∧ ¬ (s2 t ≠ none) := fun t ys et => ⟨by rw [upd_ne fun zz => by rw [zz, e2] at et; cases et]; exact et, fun c => RJ.ct j2 c et⟩
      have lz2 : (ds.eraseIdx jj).length ≤ sizeLine := Nat.le_trans (List.length_eraseIdx_le ds jj) lz
      obtain ⟨p2, p3⟩ := rg_write (o := .lst (ds.eraseIdx jj)) (u := .lst (xs.eraseIdx jj)) j2 q2 fe ⟨_, upd_same, (l.erase jj).fl keep fe, lz2⟩
      refine ⟨a, xs, z, jj, v, rfl, rfl, e2, z1, z2, by rw [l.len]; exact hs, hv, ?_⟩
      exact hQ y _ v _ hk ((f1.trans f2).trans p2) p3 (RW.out (rl2.step p2 p3).at_ (dv.fl keep (flts_mem f (List.mem_of_getElem? hy))) (flts_mem f (List.mem_of_getElem? hy)))
    | _ => exact hw2.elim
  | _ => exact hw1.elim
end
end Dw
set_option Elab.async false
set_option linter.all false
set_option maxRecDepth 100000
set_option maxHeartbeats 8000000
namespace Law
open PySem PySem.Spec PyProof.Rows L2 Gl Dw
local macro_rules | `(tactic| walk_at "sc") => `(tactic| first
  | exact True.intro
  | (show _ ≤ sizeLine; decide +kernel))
local macro_rules | `(tactic| walk_at "sim") => `(tactic| first
  | ((with_reducible apply ss_seq) <;> walk_at "sim")
  | with_reducible exact ss_next
  | ((with_reducible apply ss_raise) <;> walk_at "sim")
  | with_reducible exact ss_raise0
  | ((with_reducible apply ss_try); walk_at "sim"; (intro _; walk_at "sim"); walk_at "sim")
  | ((with_reducible apply loc_if) <;> walk_at "sim")
  | with_reducible exact loc_asgDf
  | with_reducible exact loc_asgMk
  | ((with_reducible apply loc_seq) <;> walk_at "sim")
  | with_reducible exact loc_const
  | with_reducible exact SimHs.nil
  | ((with_reducible apply SimHs.cons); (intro _ _ _ _ _ _; walk_at "sim"); walk_at "sim")
  | with_reducible exact ss_brk
  | with_reducible exact ss_cont
  | with_reducible exact ss_retN
  | ((with_reducible apply ss_ret) <;> walk_at "sim")
  | ((with_reducible apply ss_if) <;> walk_at "sim")
  | ((with_reducible apply ss_asgO); (with_reducible assumption); walk_at "sim")
  | ((with_reducible apply ss_nput) <;> walk_at "sim")
  | ((with_reducible apply ss_setM) <;> walk_at "sim")
  | ((with_reducible apply ss_setL) <;> walk_at "sim")
  | ((with_reducible apply ss_pop) <;> walk_at "sim")
  | ((with_reducible apply ss_popAt) <;> walk_at "sim")
  | ((with_reducible apply ss_asgTEF); (with_reducible assumption); walk_at "sim"; walk_at "sim")
  | ((with_reducible apply ss_asg) <;> walk_at "sim")
  | ((with_reducible apply ss_parEF); (with_reducible assumption); walk_at "sim"; walk_at "sim")
  | ((with_reducible apply ss_par) <;> walk_at "sim")
  | ((with_reducible apply ss_par3) <;> walk_at "sim")
  | ((with_reducible apply ss_aug) <;> walk_at "sim")
  | ((with_reducible apply ss_app) <;> walk_at "sim")
  | ((with_reducible apply ss_appM) <;> walk_at "sim")
  | ((with_reducible apply ss_ins) <;> walk_at "sim")
  | ((with_reducible apply si_rev) <;> walk_at "sim")
  | ((with_reducible apply ss_ext) <;> walk_at "sim")
  | ((with_reducible apply ss_extX) <;> walk_at "sim")
  | ((with_reducible apply ss_updM) <;> walk_at "sim")
  | ((with_reducible apply ss_drop) <;> walk_at "sim")
  | ((with_reducible apply ss_for) <;> walk_at "sim")
  | ((with_reducible apply ss_while) <;> walk_at "sim")
  | with_reducible exact tg_name
  | ((with_reducible apply tg_tup) <;> walk_at "sim")
  | ((with_reducible apply tgs_cons) <;> walk_at "sim")
  | with_reducible exact tgs_nil
  | with_reducible exact sim_bgetE
  | ((with_reducible apply sim_tupRev) <;> walk_at "sim")
  | with_reducible exact sim_bget
  | ((with_reducible apply ss_bput) <;> walk_at "sim")
  | ((with_reducible apply ss_baug) <;> walk_at "sim")
  | ((with_reducible apply sim_nnotin) <;> walk_at "sim")
  | ((with_reducible apply sim_nget) <;> walk_at "sim")
  | ((with_reducible apply ss_nput) <;> walk_at "sim")
  | ((with_reducible apply ss_faugMT (by assumption) (by assumption)) <;> walk_at "sim")
  | ((with_reducible apply sim_fldMT (by assumption) (by assumption)) <;> walk_at "sim")
  | ((with_reducible apply sim_mtM) <;> walk_at "sim")
  | ((with_reducible apply sim_mtM0) <;> walk_at "sim")
  | with_reducible exact sim_newBk
  | with_reducible exact so_ixB
  | with_reducible exact so_ixM
  | with_reducible exact so_raddR
  | with_reducible exact so_rsubR
  | with_reducible exact sc_lenM
  | with_reducible exact sc_sortX
  | with_reducible exact sc_lenB
  | with_reducible exact so_radd
  | with_reducible exact so_rsub
  | with_reducible exact sim_newD
  | ((with_reducible apply sim_listR) <;> walk_at "sim")
  | ((with_reducible apply sim_lstR) <;> walk_at "sim")
  | ((with_reducible apply sim_popAtM) <;> walk_at "sim")
  | with_reducible exact sc_tupM
  | ((with_reducible apply sim_getM) <;> walk_at "sim")
  | ((with_reducible apply sim_inM) <;> walk_at "sim")
  | ((with_reducible apply sim_notInM) <;> walk_at "sim")
  | ((with_reducible apply ss_putM) <;> walk_at "sim")
  | with_reducible exact sc_dictP
  | with_reducible exact sc_lenY
  | with_reducible exact sc_sortY
  | ((with_reducible apply sim_dgetT) <;> walk_at "sim")
  | ((with_reducible apply sim_dinT) <;> walk_at "sim")
  | ((with_reducible apply sim_dnotInT) <;> walk_at "sim")
  | ((with_reducible apply sim_mt0) <;> walk_at "sim")
  | ((with_reducible apply sim_dcE) <;> walk_at "sim")
  | ((with_reducible apply si_enumT) <;> walk_at "sim")
  | with_reducible exact sc_sortI
  | with_reducible exact sim_var
  | with_reducible exact sim_varG
  | with_reducible exact sim_nil
  | with_reducible exact sim_nilB
  | ((with_reducible apply sim_cons) <;> walk_at "sim")
  | ((with_reducible apply sim_consB) <;> walk_at "sim")
  | ((with_reducible apply sim_c); walk_at "sc")
  | ((with_reducible apply sim_op) <;> walk_at "sim")
  | ((with_reducible apply sim_un) <;> walk_at "sim")
  | ((with_reducible apply sim_isG); (with_reducible assumption); walk_at "sim")
  | ((with_reducible apply sim_cb) <;> walk_at "sim")
  | ((with_reducible apply sim_tup) <;> walk_at "sim")
  | ((with_reducible apply sim_lst) <;> walk_at "sim")
  | ((with_reducible apply sim_lstF) <;> walk_at "sim")
  | ((with_reducible apply sim_call) <;> walk_at "sim")
  | ((with_reducible apply sim_callN) <;> walk_at "sim")
  | ((with_reducible apply sim_sl) <;> walk_at "sim")
  | with_reducible exact sp_no
  | ((with_reducible apply sp_part) <;> walk_at "sim")
  | ((with_reducible apply sim_test) <;> walk_at "sim")
  | ((with_reducible apply sim_tB) <;> walk_at "sim")
  | ((with_reducible apply sim_and) <;> walk_at "sim")
  | ((with_reducible apply sim_or) <;> walk_at "sim")
  | ((with_reducible apply sim_not) <;> walk_at "sim")
  | with_reducible exact sim_yes
  | ((with_reducible apply sim_andV) <;> walk_at "sim")
  | ((with_reducible apply sim_orV) <;> walk_at "sim")
  | ((with_reducible apply sim_notV) <;> walk_at "sim")
  | ((with_reducible apply sim_if) <;> walk_at "sim")
  | ((with_reducible apply sim_chain) <;> walk_at "sim")
  | ((with_reducible apply sim_lcF) <;> walk_at "sim")
  | ((with_reducible apply sim_lcE) <;> walk_at "sim")
  | ((with_reducible apply sim_lstRgF) <;> walk_at "sim")
  | ((with_reducible apply sim_lstRg) <;> walk_at "sim")
  | ((with_reducible apply sim_tupRg) <;> walk_at "sim")
  | ((with_reducible apply sim_rg1) <;> walk_at "sim")
  | ((with_reducible apply sim_rg2) <;> walk_at "sim")
  | ((with_reducible apply sim_listF) <;> walk_at "sim")
  | ((with_reducible apply sim_addF) <;> walk_at "sim")
  | ((with_reducible apply sim_join) <;> walk_at "sim")
  | ((with_reducible apply sim_lenSetS) <;> walk_at "sim")
  | ((with_reducible apply sim_fldT); (with_reducible assumption); (with_reducible assumption); walk_at "sim")
  | ((with_reducible apply sim_mk) <;> walk_at "sim")
  | ((with_reducible apply sim_mkN) <;> walk_at "sim")
  | ((with_reducible apply sim_xf); (with_reducible assumption))
  | with_reducible exact so_eqO
  | ((with_reducible apply si_x) <;> walk_at "sim")
  | ((with_reducible apply si_tup) <;> walk_at "sim")
  | ((with_reducible apply si_list) <;> walk_at "sim")
  | ((with_reducible apply si_str) <;> walk_at "sim")
  | ((with_reducible apply si_rng1) <;> walk_at "sim")
  | ((with_reducible apply si_rng2) <;> walk_at "sim")
  | ((with_reducible apply si_enum) <;> walk_at "sim")
  | ((with_reducible apply si_zip) <;> walk_at "sim")
  | with_reducible exact so_addX
  | with_reducible exact so_mulX
  | with_reducible exact so_divX
  | with_reducible exact so_eqX
  | with_reducible exact so_neX
  | with_reducible exact so_inX
  | with_reducible exact so_notInX
  | with_reducible exact so_ltX
  | with_reducible exact so_gtX
  | with_reducible exact so_geX
  | with_reducible exact so_leX
  | ((with_reducible apply so_i0s); (intros; exact True.intro))
  | ((with_reducible apply so_iCs); (intros; exact True.intro))
  | ((with_reducible apply su_is); (intros; exact True.intro))
  | with_reducible exact so_eq
  | with_reducible exact so_ne
  | with_reducible exact so_isN
  | with_reducible exact so_notN
  | with_reducible exact so_isB
  | with_reducible exact so_notB
  | with_reducible exact so_ixL
  | with_reducible exact so_ixT
  | with_reducible exact so_ixS
  | with_reducible exact so_ix
  | with_reducible exact so_in
  | with_reducible exact so_str
  | with_reducible exact so_inS
  | with_reducible exact so_notInS
  | with_reducible exact so_catT
  | with_reducible exact so_catL
  | with_reducible exact so_addS
  | with_reducible exact so_mulS
  | with_reducible exact so_repT
  | with_reducible exact so_eqD
  | with_reducible exact so_neD
  | with_reducible exact so_inD
  | with_reducible exact so_notInD
  | with_reducible exact so_leT
  | with_reducible exact sc_len
  | with_reducible exact sc_int
  | with_reducible exact sc_abs
  | with_reducible exact sc_str
  | with_reducible exact sc_mm
  | with_reducible exact sc_list
  | with_reducible exact sc_tuple
  | with_reducible exact sc_sum
  | with_reducible exact sc_all
  | with_reducible exact sc_any
  | with_reducible exact sc_isi
  | with_reducible exact sc_isiT
  | with_reducible exact sc_repr
  | with_reducible exact sl_x
  | with_reducible exact sl_t
  | with_reducible exact sl_l
  | with_reducible exact sl_s
  | ((with_reducible apply SimE.g); walk_at "sim")
  | (intros; decide)
  | skip)

/-- things in some order -/
def wfMixed : WF Rg := fun ds s k _ => match ds with
  | [.opq a, .lst ts] => ∃ c, HoR a c s ∧ ts.length ≤ 1000 ∧ D.flts ts = true ∧ ∀ s' us, HoR a c s' → Kb a s s' → us.Perm ts → k (.lst us) s'
  | _ => False
def wfMix : WF Rg := fun ds s k _ => match ds with
  | [.opq a] => ∃ c, HoR a c s ∧ ∀ s' many os st, HoR a c s' → Kb a s s' → Mix many os st → k (.tup [.int (many : Int), .tup os, st]) s'
  | _ => False
abbrev s__law_mixed : Stmt := top 38
abbrev N__law_mixed : List Str := ["hand", "things", "left", "found"]
theorem sc__law_mixed : FnScope N__law_mixed ["hand", "things"] (defScope s__law_mixed) := ⟨rfl, rfl, rfl, by decide +kernel, rfl, by decide +kernel, by decide +kernel⟩
abbrev s__law_mix : Stmt := top 42
abbrev N__law_mix : List Str := ["hand", "many", "hops", "orders", "hop"]
theorem sc__law_mix : FnScope N__law_mix ["hand"] (defScope s__law_mix) := ⟨rfl, rfl, rfl, by decide +kernel, rfl, by decide +kernel, by decide +kernel⟩
section
variable {P : Program} {w : World} {K : PySem.W.Frag} {mg : Str → Option Value} {base : Heap} {CB : Addr}
theorem HoR.kp {a c : Addr} {s t : Rg} (h : HoR a c s) (k : Kp s t) : HoR a c t := by
  obtain ⟨cells, p, r, m, n, h1, h2, h3⟩ := h
  exact ⟨cells, p, r, m, n, k.at h1, k.at h2, h3⟩
theorem HoR.off {a c l : Addr} {s : Rg} {o : Mo} (h : HoR a c s) (n1 : a ≠ l) (n2 : c ≠ l) : HoR a c (rup s l o) := by
  obtain ⟨cells, p, r, m, n, h1, h2, h3⟩ := h
  exact ⟨cells, p, r, m, n, by rw [rup_ne n1]; exact h1, by rw [rup_ne n2]; exact h2, h3⟩
theorem seq_nat {j n : Nat} (h : j < n) : seqIndex? (j : Int) n = some j := by
  unfold seqIndex?
  simp
  omega
theorem perm_erase {α : Type} : ∀ {l : List α} {j : Nat} {d : α}, l[j]? = some d → (d :: l.eraseIdx j).Perm l
  | a :: r, 0, d, h => by
    cases h
    exact .refl _
  | a :: r, j + 1, d, h => by
    have ih := perm_erase (l := r) (j := j) (d := d) (by simpa using h)
    rw [List.eraseIdx_cons_succ]
    exact (List.Perm.swap a d _).trans (ih.cons a)
  | [], _, _, h => by simp at h
theorem ok_mixed (T : Tx P w K mg) (f__law_draw : Df P w K mg base 1 "_law_draw" (spX RW wfDraw)) {f : Addr} {fd : FuncData} (F : FD K "_law_mixed" s__law_mixed f fd) : Fn P w K mg base 2 f fd ["hand", "things"] (spX RW wfMixed) := by
  refine fn_data F sc__law_mixed (fun ds s k x h => ?_) fun cv A outer s H G hr gd => ⟨_, (pss_cons (ps_par (i := 2) (j := 3) (by rfl) sc__law_mixed.nd rfl rfl (by decide) rfl rfl (pa_cons (pe_callTy (kListR (K := K)) (by rfl) T.list (by decide +kernel) (pa_cons (pv 1) pa_nil)) (pa_cons (pe_lst pa_nil) pa_nil)) (by rfl))
    (pss_cons (ps_while (passes_of rfl) (pt_cmpR op_gtX (pe_callB (kLen (K := K)) (by rfl) T.len (by decide +kernel) (pa_cons (pv 2) pa_nil)) pe_int (nomark _)) (pss_one (ps_expr (pe_bm PySem.F.plainAttrs_list PySem.F.slot_list_append PySem.F.type_list_append mt_append (pv 3) (pa_cons (pe_bm PySem.F.plainAttrs_list PySem.F.slot_list_pop PySem.F.type_list_pop mt_popAt (pv 2) (pa_cons (pe_df f__law_draw hr (by omega) gd rfl (fun σ => Gl.no_pass σ) (pa_cons (pv 0) (pa_cons (pe_callB (kLen (K := K)) (by rfl) T.len (by decide +kernel) (pa_cons (pv 2) pa_nil)) pa_nil))) pa_nil)) pa_nil)))))
    (pss_one (ps_ret (pv 3))))), ?_⟩
  · match ds, h with
    | [.opq _, .lst _], _ => rfl
  · 
    have ow : OwnSl 3 := ⟨⟩
    apply bodyW
    · walk_at "sim"
    intro ds s k x ok h
    match ds, h with
    | [.opq a, .lst ts], ⟨c, ho, tl, fl, hk⟩ =>
      have sa : s a ≠ none := by obtain ⟨_, _, _, _, _, ha, _⟩ := ho; rw [ha]; simp
      refine cut (fun env t => ∃ l, l ≠ a ∧ HoR a c t ∧ Kb a s t ∧ t l = some (.lst ts) ∧ s l = none ∧ env = [.dat (.opq a), .dat (.lst ts), .dat (.opq l), .own []]) (fun K1 h1 _ _ => ?_) fun env t hI => ?_
      · simp [N__law_mixed]
        refine ⟨fl, fun l hl => ?_⟩
        have la : l ≠ a := fun z => sa (by rw [← z]; exact hl)
        exact h1 _ _ ⟨l, la, ho.kp (Kp.new hl), (Kp.new hl).kb, rup_same, hl, rfl⟩
      obtain ⟨l, la, ho1, kb1, e1, sl, rfl⟩ := hI
      refine cut (fun env t2 => ∃ us, HoR a c t2 ∧ Kb a s t2 ∧ us.Perm ts ∧ env = [.dat (.opq a), .dat (.lst ts), .dat (.opq l), .own us]) (fun K1 h1 _ _ => ?_) fun env t hI => ?_
      · refine wWh_fuel (fun n env t2 => ∃ ls us, HoR a c t2 ∧ Kb a s t2 ∧ t2 l = some (.lst ls) ∧ (us ++ ls).Perm ts ∧ n = ls.length ∧ env = [.dat (.opq a), .dat (.lst ts), .dat (.opq l), .own us]) ⟨ts, [], ho1, kb1, e1, .refl _, rfl, rfl⟩ ?_
        intro n jf env t2 ih hp
        obtain ⟨ls, us, ho2, kb2, e2, pm, rfl, rfl⟩ := hp
        have pl := pm.length_eq
        rw [List.length_append] at pl
        show wTest _ _ _ _ _
        simp [e2]
        refine iteP (fun hl => ?_) fun hl => ?_
        · refine ⟨c, ho2, by omega, by omega, fun s3 i ho3 off3 i0 i1 => ?_⟩
          obtain ⟨j, rfl⟩ := Int.eq_ofNat_of_zero_le i0
          have jl : j < ls.length := by omega
          have e3 : s3 l = some (.lst ls) := (off3 l la).trans e2
          refine ⟨ls, e3, by omega, by omega, j, seq_nat jl, ls[j], List.getElem?_eq_getElem jl, by rw [sizeLine_eq]; omega, ?_⟩
          refine ih (ls.eraseIdx j).length _ _ (by rw [List.length_eraseIdx_of_lt jl]; omega) ⟨ls.eraseIdx j, us ++ [ls[j]], ?_, ?_, rup_same, ?_, rfl, rfl⟩
          · exact ho3.off (Ne.symm la) fun z => by rw [← z] at sl; obtain ⟨_, _, _, _, _, _, hc, _⟩ := ho; rw [hc] at sl; cases sl
          · have kb3 : Kb a s s3 := kb2.trans fun x hx _ => off3 x hx
            exact fun x hx n => (rup_ne fun z => n (by rw [z]; exact sl)).trans (kb3 x hx n)
          · refine .trans ?_ pm
            rw [List.append_assoc]
            exact (perm_erase (List.getElem?_eq_getElem jl)).append_left us
        · have : ls = [] := List.length_eq_zero_iff.mp (by omega)
          subst this
          rw [List.append_nil] at pm
          exact h1 _ _ ⟨us, ho2, kb2, pm, rfl⟩
      obtain ⟨us, ho2, kb2, pm, rfl⟩ := hI
      exact hk _ _ ho2 kb2 pm
theorem sub_lot_go {lo n : Nat} : ∀ {ys : List D} {l : List Int}, Sub (fun d y => y = d) (l.map D.int) ys → l.Pairwise (fun a b => a < b) → ∃ ps : List Int, ys = ps.map D.int ∧ ps.Sublist l
  | _, [], .nil, _ => ⟨[], rfl, .slnil⟩
  | _, z :: l, .skip h, pw => by
    obtain ⟨ps, e, s⟩ := sub_lot_go (lo := lo) (n := n) h (List.pairwise_cons.mp pw).2
    exact ⟨ps, e, s.cons z⟩
  | _, z :: l, .take e h, pw => by
    subst e
    obtain ⟨ps, rfl, s⟩ := sub_lot_go (lo := lo) (n := n) h (List.pairwise_cons.mp pw).2
    exact ⟨z :: ps, rfl, s.cons₂ z⟩
theorem sub_lot {n : Nat} {ys : List D} (h : Sub (fun d y => y = d) (((List.range n).map fun (i : Nat) => (i : Int)).map D.int) ys) : isLot n (.tup ys) := by
  have pw : ((List.range n).map fun (i : Nat) => (i : Int)).Pairwise (fun a b => a < b) := by
    rw [List.pairwise_map]
    exact List.pairwise_lt_range.imp fun h => by omega
  obtain ⟨ps, rfl, s⟩ := sub_lot_go (lo := 0) (n := n) h pw
  refine ⟨ps, rfl, pw.sublist s, fun p hp => ?_⟩
  obtain ⟨j, hj, rfl⟩ := List.mem_map.mp (s.subset hp)
  have := List.mem_range.mp hj
  omega
theorem ok_mix (T : Tx P w K mg) (f__law_draw : Df P w K mg base 1 "_law_draw" (spX RW wfDraw)) (f__law_mixed : Df P w K mg base 2 "_law_mixed" (spX RW wfMixed)) {f : Addr} {fd : FuncData} (F : FD K "_law_mix" s__law_mix f fd) : Fn P w K mg base 3 f fd ["hand"] (spX RW wfMix) := by
  refine fn_data F sc__law_mix (fun ds s k x h => ?_) fun cv A outer s H G hr gd => ⟨_, (pss_cons (ps_asg (pe_tup (pa_cons (pe_op (kAdd (K := K)) pe_int (pe_df f__law_draw hr (by omega) gd rfl (fun σ => Gl.no_pass σ) (pa_cons (pv 0) (pa_cons pe_int pa_nil)))) (pa_cons (pe_op (kAdd (K := K)) pe_int (pe_df f__law_draw hr (by omega) gd rfl (fun σ => Gl.no_pass σ) (pa_cons (pv 0) (pa_cons pe_int pa_nil)))) pa_nil))) (kTup (K := K) (n := 2) rfl (pgs_cons (pg_name (i := 1) sc__law_mix.nd rfl (Or.inr rfl)) (pgs_cons (pg_name (i := 2) sc__law_mix.nd rfl (Or.inl rfl)) pgs_nil))))
    (pss_cons (ps_set (i := 3) sc__law_mix.nd rfl (Or.inl rfl) (pe_callTy (kTuple (K := K)) (by rfl) T.tuple (by decide +kernel) (pa_cons (pe_lc (own := [("hop", 4)]) (g := gName 4) (by rfl) sc__law_mix.nd (pi_range1 rfl T.range (pa_cons (pv 2) pa_nil)) (blkOk_by (own := [("hop", 4)]) (N := N__law_mix) (sc := defScope s__law_mix) (by decide +kernel)) (fun _ _ _ _ _ => pg_name (i := 4) sc__law_mix.nd rfl (Or.inl rfl)) (fun _ _ _ _ _ => pts_nil) (fun _ _ _ _ _ => (pe_callTy (kTuple (K := K)) (by rfl) T.tuple (by decide +kernel) (pa_cons (pe_df f__law_mixed hr (by omega) gd rfl (fun σ => Gl.no_pass σ) (pa_cons (pv 0) (pa_cons (pe_listRg rfl (by rfl) T.list (prg_1 (by rfl) T.range (pv 1))) pa_nil))) pa_nil)))) pa_nil)))
    (pss_cons (ps_if (pt_cmpR (kEq (K := K) hr) (pe_df f__law_draw hr (by omega) gd rfl (fun σ => Gl.no_pass σ) (pa_cons (pv 0) (pa_cons pe_int pa_nil))) pe_int (nomark _)) (pss_one (ps_ret (pe_tup (pa_cons (pv 1) (pa_cons (pv 3) (pa_cons (pe_tupRg rfl (by rfl) T.tuple (prg_1 (by rfl) T.range (pv 2))) pa_nil)))))) pss_nil)
    (pss_one (ps_ret (pe_tup (pa_cons (pv 1) (pa_cons (pv 3) (pa_cons (pe_callTy (kTuple (K := K)) (by rfl) T.tuple (by decide +kernel) (pa_cons (pe_lc (own := [("hop", 4)]) (g := gName 4) (by rfl) sc__law_mix.nd (pi_range1 rfl T.range (pa_cons (pv 2) pa_nil)) (blkOk_by (own := [("hop", 4)]) (N := N__law_mix) (sc := defScope s__law_mix) (by decide +kernel)) (fun _ _ _ _ _ => pg_name (i := 4) sc__law_mix.nd rfl (Or.inl rfl)) (fun _ _ _ _ _ => (pts_one (pt_cmpR op_gtX (pe_df f__law_draw hr (by omega) gd rfl (fun σ => Gl.no_pass σ) (pa_cons (pv 0) (pa_cons pe_int pa_nil))) pe_int (nomark _)))) (fun _ _ _ _ _ => (pv 4))) pa_nil)) pa_nil))))))))), ?_⟩
  · match ds, h with
    | [.opq _], _ => rfl
  · apply bodyW
    · walk_at "sim"
    intro ds s k x ok h
    match ds, h with
    | [.opq a], ⟨c, ho, hk⟩ =>
      refine cut (fun env t => ∃ many hops : Nat, 1 ≤ many ∧ many ≤ 6 ∧ 1 ≤ hops ∧ hops ≤ 4 ∧ HoR a c t ∧ Kb a s t ∧ env = [.dat (.opq a), .dat (.int (many : Int)), .dat (.int (hops : Int)), .no, .no]) (fun K1 h1 _ _ => ?_) fun env t hI => ?_
      · simp [N__law_mix]
        refine ⟨c, ho, by decide, by decide, fun s1 i ho1 off1 i0 i1 => ?_⟩
        refine ⟨c, ho1, by decide, by decide, fun s2 j ho2 off2 j0 j1 => ⟨by decide, ?_⟩⟩
        obtain ⟨i, rfl⟩ := Int.eq_ofNat_of_zero_le i0
        obtain ⟨j, rfl⟩ := Int.eq_ofNat_of_zero_le j0
        exact h1 _ _ ⟨1 + i, 1 + j, by omega, by omega, by omega, by omega, ho2, fun x hx _ => (off2 x hx).trans (off1 x hx), by simp⟩
      obtain ⟨many, hops, m1, m2, h1, h2, ho2, kb2, rfl⟩ := hI
      refine cut (fun env t => ∃ os, os.length = hops ∧ (∀ o ∈ os, isPerm many o) ∧ HoR a c t ∧ Kb a s t ∧ env = [.dat (.opq a), .dat (.int (many : Int)), .dat (.int (hops : Int)), .dat (.tup os), .no]) (fun K1 h1 _ _ => ?_) fun env t hI => ?_
      · simp
        refine ⟨by rw [sizeLine_eq]; omega, by rw [rngD_len, sizeLine_eq]; omega, wLc_fold (fun done ys s2 => HoR a c s2 ∧ Kb a s s2 ∧ ys.length = done.length ∧ ∀ o ∈ ys, isPerm many o) (fun done d rest ys s2 e0 i kt hkt => ?_) ⟨ho2, kb2, rfl, fun o h => (nomatch h)⟩ fun ys s2 i => ?_⟩
        · obtain ⟨ho3, kb3, yl, yo⟩ := i
          simp
          refine ⟨.of_le (by omega) (by omega) (by omega) (by omega), c, ho3, by rw [rngD_len]; omega, flts_of fun d hd => ?_, fun s3 us ho4 kb4 pm => ?_⟩
          · rw [rngD_eq] at hd
            obtain ⟨i, _, rfl⟩ := List.mem_map.mp hd
            rfl
          · refine hkt _ _ ⟨ho4, kb3.trans kb4, by simp [yl], fun o ho => ?_⟩
            rcases List.mem_append.mp ho with ho | ho
            · exact yo o ho
            · rw [List.mem_singleton] at ho
              subst ho
              rw [rngD_map] at pm
              obtain ⟨qs, p1, p2⟩ := perm_lift (fun y => D.int y) pm _ rfl
              refine ⟨qs, by rw [p2], ?_⟩
              simpa using p1
        · obtain ⟨ho3, kb3, yl, yo⟩ := i
          exact h1 _ _ ⟨ys, by rw [yl, rngD_len], yo, ho3, kb3, rfl⟩
      obtain ⟨os, ol, oo, ho3, kb3, rfl⟩ := hI
      have fin : ∀ s2 st, HoR a c s2 → Kb a s s2 → isLot hops st → k (.tup [.int (many : Int), .tup os, st]) s2 := fun s2 st h3 h4 h5 => hk s2 many os st h3 h4 ⟨m1, m2, by omega, by omega, oo, by rw [ol]; exact h5⟩
      simp
      refine ⟨c, ho3, by decide, by decide, fun s1 i ho4 off4 i0 i1 => ?_⟩
      have kb4 : Kb a s s1 := kb3.trans fun x hx _ => off4 x hx
      refine iteB (fun _ => ⟨.of_le (by omega) (by omega) (by omega) (by omega), by decide, fin s1 _ ho4 kb4 ⟨(List.range hops).map fun (i : Nat) => (i : Int), by rw [rngD_map]; simp, ?_, fun p hp => ?_⟩⟩) fun _ => ⟨by rw [sizeLine_eq]; omega, by rw [rngD_len, sizeLine_eq]; omega, ?_⟩
      · rw [List.pairwise_map]
        exact List.pairwise_lt_range.imp fun h => by omega
      · obtain ⟨j, hj, rfl⟩ := List.mem_map.mp hp
        have := List.mem_range.mp hj
        omega
      · refine wLc_st (fun s2 => HoR a c s2 ∧ Kb a s s2) (fun d y => y = d) (fun d hd s2 i kt kf h1 h2 => ?_) ⟨ho4, kb4⟩ fun s2 ys i sb => ⟨by decide, fin s2 _ i.1 i.2 ?_⟩
        · obtain ⟨ho5, kb5⟩ := i
          simp
          refine ⟨c, ho5, by decide, by decide, fun s3 z ho6 off6 z0 z1 => ?_⟩
          have i3 : HoR a c s3 ∧ Kb a s s3 := ⟨ho6, kb5.trans fun x hx _ => off6 x hx⟩
          dsimp only
          exact iteP (fun _ => h1 s3 d i3 rfl) fun _ => h2 s3 i3
        · exact sub_lot (by rw [rngD_map] at sb; simpa using sb)
end
end Law
set_option Elab.async false
set_option linter.all false
set_option maxRecDepth 100000
set_option maxHeartbeats 8000000
namespace Law
open PySem PySem.Spec PyProof.Rows L2 Gl Dw
local macro_rules | `(tactic| walk_at "sc") => `(tactic| first
  | exact True.intro
  | (show _ ≤ sizeLine; decide +kernel))
local macro_rules | `(tactic| walk_at "sim") => `(tactic| first
  | ((with_reducible apply ss_seq) <;> walk_at "sim")
  | with_reducible exact ss_next
  | ((with_reducible apply ss_raise) <;> walk_at "sim")
  | with_reducible exact ss_raise0
  | ((with_reducible apply ss_try); walk_at "sim"; (intro _; walk_at "sim"); walk_at "sim")
  | ((with_reducible apply loc_if) <;> walk_at "sim")
  | with_reducible exact loc_asgDf
  | with_reducible exact loc_asgMk
  | ((with_reducible apply loc_seq) <;> walk_at "sim")
  | with_reducible exact loc_const
  | with_reducible exact SimHs.nil
  | ((with_reducible apply SimHs.cons); (intro _ _ _ _ _ _; walk_at "sim"); walk_at "sim")
  | with_reducible exact ss_brk
  | with_reducible exact ss_cont
  | with_reducible exact ss_retN
  | ((with_reducible apply ss_ret) <;> walk_at "sim")
  | ((with_reducible apply ss_if) <;> walk_at "sim")
  | ((with_reducible apply ss_asgO); (with_reducible assumption); walk_at "sim")
  | ((with_reducible apply ss_nput) <;> walk_at "sim")
  | ((with_reducible apply ss_setM) <;> walk_at "sim")
  | ((with_reducible apply ss_setL) <;> walk_at "sim")
  | ((with_reducible apply ss_pop) <;> walk_at "sim")
  | ((with_reducible apply ss_popAt) <;> walk_at "sim")
  | ((with_reducible apply ss_asgTEF); (with_reducible assumption); walk_at "sim"; walk_at "sim")
  | ((with_reducible apply ss_asg) <;> walk_at "sim")
  | ((with_reducible apply ss_parEF); (with_reducible assumption); walk_at "sim"; walk_at "sim")
  | ((with_reducible apply ss_par) <;> walk_at "sim")
  | ((with_reducible apply ss_par3) <;> walk_at "sim")
  | ((with_reducible apply ss_aug) <;> walk_at "sim")
  | ((with_reducible apply ss_app) <;> walk_at "sim")
  | ((with_reducible apply ss_appM) <;> walk_at "sim")
  | ((with_reducible apply ss_ins) <;> walk_at "sim")
  | ((with_reducible apply si_rev) <;> walk_at "sim")
  | ((with_reducible apply ss_ext) <;> walk_at "sim")
  | ((with_reducible apply ss_extX) <;> walk_at "sim")
  | ((with_reducible apply ss_updM) <;> walk_at "sim")
  | ((with_reducible apply ss_drop) <;> walk_at "sim")
  | ((with_reducible apply ss_for) <;> walk_at "sim")
  | ((with_reducible apply ss_while) <;> walk_at "sim")
  | with_reducible exact tg_name
  | ((with_reducible apply tg_tup) <;> walk_at "sim")
  | ((with_reducible apply tgs_cons) <;> walk_at "sim")
  | with_reducible exact tgs_nil
  | with_reducible exact sim_bgetE
  | ((with_reducible apply sim_tupRev) <;> walk_at "sim")
  | with_reducible exact sim_bget
  | ((with_reducible apply ss_bput) <;> walk_at "sim")
  | ((with_reducible apply ss_baug) <;> walk_at "sim")
  | ((with_reducible apply sim_nnotin) <;> walk_at "sim")
  | ((with_reducible apply sim_nget) <;> walk_at "sim")
  | ((with_reducible apply ss_nput) <;> walk_at "sim")
  | ((with_reducible apply ss_faugMT (by assumption) (by assumption)) <;> walk_at "sim")
  | ((with_reducible apply sim_fldMT (by assumption) (by assumption)) <;> walk_at "sim")
  | ((with_reducible apply sim_mtM) <;> walk_at "sim")
  | ((with_reducible apply sim_mtM0) <;> walk_at "sim")
  | with_reducible exact sim_newBk
  | with_reducible exact so_ixB
  | with_reducible exact so_ixM
  | with_reducible exact so_raddR
  | with_reducible exact so_rsubR
  | with_reducible exact sc_lenM
  | with_reducible exact sc_sortX
  | with_reducible exact sc_lenB
  | with_reducible exact so_radd
  | with_reducible exact so_rsub
  | with_reducible exact sim_newD
  | ((with_reducible apply sim_listR) <;> walk_at "sim")
  | ((with_reducible apply sim_lstR) <;> walk_at "sim")
  | ((with_reducible apply sim_popAtM) <;> walk_at "sim")
  | with_reducible exact sc_tupM
  | ((with_reducible apply sim_getM) <;> walk_at "sim")
  | ((with_reducible apply sim_inM) <;> walk_at "sim")
  | ((with_reducible apply sim_notInM) <;> walk_at "sim")
  | ((with_reducible apply ss_putM) <;> walk_at "sim")
  | with_reducible exact sc_dictP
  | with_reducible exact sc_lenY
  | with_reducible exact sc_sortY
  | ((with_reducible apply sim_dgetT) <;> walk_at "sim")
  | ((with_reducible apply sim_dinT) <;> walk_at "sim")
  | ((with_reducible apply sim_dnotInT) <;> walk_at "sim")
  | ((with_reducible apply sim_mt0) <;> walk_at "sim")
  | ((with_reducible apply sim_dcE) <;> walk_at "sim")
  | ((with_reducible apply si_enumT) <;> walk_at "sim")
  | with_reducible exact sc_sortI
  | with_reducible exact sim_var
  | with_reducible exact sim_varG
  | with_reducible exact sim_nil
  | with_reducible exact sim_nilB
  | ((with_reducible apply sim_cons) <;> walk_at "sim")
  | ((with_reducible apply sim_consB) <;> walk_at "sim")
  | ((with_reducible apply sim_c); walk_at "sc")
  | ((with_reducible apply sim_op) <;> walk_at "sim")
  | ((with_reducible apply sim_un) <;> walk_at "sim")
  | ((with_reducible apply sim_isG); (with_reducible assumption); walk_at "sim")
  | ((with_reducible apply sim_cb) <;> walk_at "sim")
  | ((with_reducible apply sim_tup) <;> walk_at "sim")
  | ((with_reducible apply sim_lst) <;> walk_at "sim")
  | ((with_reducible apply sim_lstF) <;> walk_at "sim")
  | ((with_reducible apply sim_call) <;> walk_at "sim")
  | ((with_reducible apply sim_callN) <;> walk_at "sim")
  | ((with_reducible apply sim_sl) <;> walk_at "sim")
  | with_reducible exact sp_no
  | ((with_reducible apply sp_part) <;> walk_at "sim")
  | ((with_reducible apply sim_test) <;> walk_at "sim")
  | ((with_reducible apply sim_tB) <;> walk_at "sim")
  | ((with_reducible apply sim_and) <;> walk_at "sim")
  | ((with_reducible apply sim_or) <;> walk_at "sim")
  | ((with_reducible apply sim_not) <;> walk_at "sim")
  | with_reducible exact sim_yes
  | ((with_reducible apply sim_andV) <;> walk_at "sim")
  | ((with_reducible apply sim_orV) <;> walk_at "sim")
  | ((with_reducible apply sim_notV) <;> walk_at "sim")
  | ((with_reducible apply sim_if) <;> walk_at "sim")
  | ((with_reducible apply sim_chain) <;> walk_at "sim")
  | ((with_reducible apply sim_lcF) <;> walk_at "sim")
  | ((with_reducible apply sim_lcE) <;> walk_at "sim")
  | ((with_reducible apply sim_lstRgF) <;> walk_at "sim")
  | ((with_reducible apply sim_lstRg) <;> walk_at "sim")
  | ((with_reducible apply sim_tupRg) <;> walk_at "sim")
  | ((with_reducible apply sim_rg1) <;> walk_at "sim")
  | ((with_reducible apply sim_rg2) <;> walk_at "sim")
  | ((with_reducible apply sim_listF) <;> walk_at "sim")
  | ((with_reducible apply sim_addF) <;> walk_at "sim")
  | ((with_reducible apply sim_join) <;> walk_at "sim")
  | ((with_reducible apply sim_lenSetS) <;> walk_at "sim")
  | ((with_reducible apply sim_fldT); (with_reducible assumption); (with_reducible assumption); walk_at "sim")
  | ((with_reducible apply sim_mk) <;> walk_at "sim")
  | ((with_reducible apply sim_mkN) <;> walk_at "sim")
  | ((with_reducible apply sim_xf); (with_reducible assumption))
  | with_reducible exact so_eqO
  | ((with_reducible apply si_x) <;> walk_at "sim")
  | ((with_reducible apply si_tup) <;> walk_at "sim")
  | ((with_reducible apply si_list) <;> walk_at "sim")
  | ((with_reducible apply si_str) <;> walk_at "sim")
  | ((with_reducible apply si_rng1) <;> walk_at "sim")
  | ((with_reducible apply si_rng2) <;> walk_at "sim")
  | ((with_reducible apply si_enum) <;> walk_at "sim")
  | ((with_reducible apply si_zip) <;> walk_at "sim")
  | with_reducible exact so_addX
  | with_reducible exact so_mulX
  | with_reducible exact so_divX
  | with_reducible exact so_eqX
  | with_reducible exact so_neX
  | with_reducible exact so_inX
  | with_reducible exact so_notInX
  | with_reducible exact so_ltX
  | with_reducible exact so_gtX
  | with_reducible exact so_geX
  | with_reducible exact so_leX
  | ((with_reducible apply so_i0s); (intros; exact True.intro))
  | ((with_reducible apply so_iCs); (intros; exact True.intro))
  | ((with_reducible apply su_is); (intros; exact True.intro))
  | with_reducible exact so_eq
  | with_reducible exact so_ne
  | with_reducible exact so_isN
  | with_reducible exact so_notN
  | with_reducible exact so_isB
  | with_reducible exact so_notB
  | with_reducible exact so_ixL
  | with_reducible exact so_ixT
  | with_reducible exact so_ixS
  | with_reducible exact so_ix
  | with_reducible exact so_in
  | with_reducible exact so_str
  | with_reducible exact so_inS
  | with_reducible exact so_notInS
  | with_reducible exact so_catT
  | with_reducible exact so_catL
  | with_reducible exact so_addS
  | with_reducible exact so_mulS
  | with_reducible exact so_repT
  | with_reducible exact so_eqD
  | with_reducible exact so_neD
  | with_reducible exact so_inD
  | with_reducible exact so_notInD
  | with_reducible exact so_leT
  | with_reducible exact sc_len
  | with_reducible exact sc_int
  | with_reducible exact sc_abs
  | with_reducible exact sc_str
  | with_reducible exact sc_mm
  | with_reducible exact sc_list
  | with_reducible exact sc_tuple
  | with_reducible exact sc_sum
  | with_reducible exact sc_all
  | with_reducible exact sc_any
  | with_reducible exact sc_isi
  | with_reducible exact sc_isiT
  | with_reducible exact sc_repr
  | with_reducible exact sl_x
  | with_reducible exact sl_t
  | with_reducible exact sl_l
  | with_reducible exact sl_s
  | ((with_reducible apply SimE.g); walk_at "sim")
  | (intros; decide)
  | skip)

def wfBoxR (P : Program) (w : World) (C : Addr) : WF Rg := fun ds s k _ => match ds with
  | [.opq b, .int t, .int lock, .int key] => ∃ (r p : Addr) (recs : List D) (n : Int) (H m s' j : Nat), BkAt P w C b r p recs n s ∧ Frm recs H m ∧ s' < m ∧ j < H ∧ t = ((Bs H s' + 3 * j + 3 : Nat) : Int) ∧ lock = ((H + (H - 1 - j) : Nat) : Int) ∧ key = ((H - 1 - j : Nat) : Int) ∧
    k (.tup [.int ((Bs H s' + 3 * j + 1 : Nat) : Int), .int ((Bs H s' + 3 * j : Nat) : Int)]) s
  | _ => False
abbrev s__law_box_right : Stmt := top 43
abbrev N__law_box_right : List Str := ["book", "term", "lock", "key", "row"]
theorem sc__law_box_right : FnScope N__law_box_right ["book", "term", "lock", "key"] (defScope s__law_box_right) := ⟨rfl, rfl, rfl, by decide +kernel, rfl, by decide +kernel, by decide +kernel⟩
local macro_rules | `(tactic| walk_at "mtb") => `(tactic| first
  | refine ⟨noM (by decide), ?_⟩
  | refine ⟨rfl, noM (by decide), ?_⟩)
section
variable {P : Program} {w : World} {K : PySem.W.Frag} {mg : Str → Option Value} {base : Heap} {CB : Addr}
/-- what the kind and the parts of a term are -/
theorem kind_of {b r p : Addr} {recs : List D} {n : Int} {s : Rg} {k : D → Rg → Prop} {i : Nat} {kd : Str} {ps : List D} {x : Xc → Rg → Prop} (hB : BkAt P w CB b r p recs n s) (h : recs[i]? = some (.tup [.str kd, .tup ps])) (hk : k (.str kd) s) : wfOf P w CB (fun x _ => x) [.opq b, .int (i : Int)] s k x :=
  ⟨r, p, recs, n, _, _, hB, by omega, by have := (List.getElem?_eq_some_iff.mp h).1; omega, atI_nat h, hk⟩
theorem parts_of {b r p : Addr} {recs : List D} {n : Int} {s : Rg} {k : D → Rg → Prop} {i : Nat} {kd : Str} {ps : List D} {x : Xc → Rg → Prop} (hB : BkAt P w CB b r p recs n s) (h : recs[i]? = some (.tup [.str kd, .tup ps])) (hk : k (.tup ps) s) : wfOf P w CB (fun _ y => y) [.opq b, .int (i : Int)] s k x :=
  ⟨r, p, recs, n, _, _, hB, by omega, by have := (List.getElem?_eq_some_iff.mp h).1; omega, atI_nat h, hk⟩
theorem ok_box_right (T : Tx P w K mg) (q_Book_kind : Cf P w K mg base 5 CB "kind" (spX RW (wfOf P w CB fun x _ => x))) (q_Book_parts : Cf P w K mg base 5 CB "parts" (spX RW (wfOf P w CB fun _ y => y))) {f : Addr} {fd : FuncData} (F : FD K "_law_box_right" s__law_box_right f fd) : Fn P w K mg base 6 f fd ["book", "term", "lock", "key"] (spX RW (wfBoxR P w CB)) := by
  refine fn_data F sc__law_box_right (fun ds s k x h => ?_) fun cv A outer s H G hr gd => ⟨_, (pss_cons (ps_if (PW.pt (pw_or (pt_cmpR (kNe (K := K) hr) (pe_mtA q_Book_kind hr (by omega) gd (fun σ => Gl.no_pass σ) (pv 0) (pa_cons (pv 1) pa_nil)) pe_str (nomark _)) (pw_or (pt_cmpR (kNe (K := K) hr) (pe_ix (kIx (K := K)) (pe_mtA q_Book_parts hr (by omega) gd (fun σ => Gl.no_pass σ) (pv 0) (pa_cons (pv 1) pa_nil)) pe_int (fun _ _ => rfl)) (pv 2) (nomark _)) (pw_or1 (pt_cmpR (kNe (K := K) hr) (pe_mtA q_Book_parts hr (by omega) gd (fun σ => Gl.no_pass σ) (pv 0) (pa_cons (pv 2) pa_nil)) (pe_tup (pa_cons (pv 3) pa_nil)) (nomark _)))))) (pss_one (ps_ret pe_non)) pss_nil)
    (pss_cons (ps_set (i := 4) sc__law_box_right.nd rfl (Or.inl rfl) (pe_ix (kIx (K := K)) (pe_mtA q_Book_parts hr (by omega) gd (fun σ => Gl.no_pass σ) (pv 0) (pa_cons (pv 1) pa_nil)) pe_int (fun _ _ => rfl)))
    (pss_cons (ps_if (PW.pt (pw_or (pt_cmpR (kNe (K := K) hr) (pe_mtA q_Book_kind hr (by omega) gd (fun σ => Gl.no_pass σ) (pv 0) (pa_cons (pv 4) pa_nil)) pe_str (nomark _)) (pw_or (pt_cmpR (kNe (K := K) hr) (pe_callB (kLen (K := K)) (by rfl) T.len (by decide +kernel) (pa_cons (pe_mtA q_Book_parts hr (by omega) gd (fun σ => Gl.no_pass σ) (pv 0) (pa_cons (pv 4) pa_nil)) pa_nil)) pe_int (nomark _)) (pw_or1 (pt_cmpR (kNe (K := K) hr) (pe_mtA q_Book_kind hr (by omega) gd (fun σ => Gl.no_pass σ) (pv 0) (pa_cons (pe_ix (kIx (K := K)) (pe_mtA q_Book_parts hr (by omega) gd (fun σ => Gl.no_pass σ) (pv 0) (pa_cons (pv 4) pa_nil)) pe_int (fun _ _ => rfl)) pa_nil)) pe_str (nomark _)))))) (pss_one (ps_ret pe_non)) pss_nil)
    (pss_one (ps_ret (pe_mtA q_Book_parts hr (by omega) gd (fun σ => Gl.no_pass σ) (pv 0) (pa_cons (pv 4) pa_nil))))))), ?_⟩
  · match ds, h with
    | [.opq _, .int _, .int _, .int _], _ => rfl
  · apply bodyW
    · walk_at "sim"
    intro ds s k x ok h
    match ds, h with
    | [.opq b, .int t, .int lock, .int key], ⟨r, p, recs, n, H, m, s', j, hB, FF, hs, hj, et, el, ek, hk⟩ =>
      subst et el ek
      obtain ⟨dx, hb⟩ := hbk hB
      have e1 : recs[Bs H s' + 3 * j + 3]? = some (enD "box" [((H + (H - 1 - j) : Nat) : Int), ((Bs H s' + 3 * j + 2 : Nat) : Int)]) := FF.box s' j hs hj
      have e2 := FF.lock (H - 1 - j) (by omega)
      have e3 : recs[Bs H s' + 3 * j + 2]? = some (enD "row" [((Bs H s' + 3 * j + 1 : Nat) : Int), ((Bs H s' + 3 * j : Nat) : Int)]) := FF.row s' j hs hj
      obtain ⟨z, e4⟩ : ∃ n, recs[Bs H s' + 3 * j + 1]? = some (frD n) := FF.pad s' j hs hj
      generalize Bs H s' + 3 * j + 3 = t3 at *
      generalize Bs H s' + 3 * j + 2 = t2 at *
      generalize Bs H s' + 3 * j + 1 = t1 at *
      generalize Bs H s' + 3 * j = t0 at *
      generalize H + (H - 1 - j) = lk at *
      generalize H - 1 - j = ky at *
      refine cut (fun env t => t = s ∧ env = [.dat (.opq b), .dat (.int (t3 : Int)), .dat (.int (lk : Int)), .dat (.int (ky : Int)), .no]) (fun K1 h1 _ _ => ?_) fun env t hI => ?_
      · simp [N__law_box_right, hb]
        walk_at "mtb"
        refine kind_of hB e1 ?_
        simp [hb]
        walk_at "mtb"
        refine parts_of hB e1 ?_
        simp [hb]
        walk_at "mtb"
        refine parts_of hB e2 ?_
        refine ⟨by decide, .tuple [.int (ky : Int)], rfl, rfl, rfl, ?_⟩
        rw [show (PyData.eqv (.tuple [.int (ky : Int)]) (.tuple [.int (ky : Int)])) = true from shaped_refl rfl]
        exact h1 _ _ ⟨rfl, rfl⟩
      obtain ⟨rfl, rfl⟩ := hI
      simp [hb]
      walk_at "mtb"
      refine parts_of hB e1 ?_
      simp [hb]
      walk_at "mtb"
      refine kind_of hB e3 ?_
      simp [hb]
      walk_at "mtb"
      refine parts_of hB e3 ?_
      simp [hb]
      walk_at "mtb"
      walk_at "mtb"
      refine parts_of hB e3 ?_
      simp [hb]
      refine kind_of hB e4 ?_
      simp [hb]
      walk_at "mtb"
      exact parts_of hB e3 hk
end
end Law
set_option Elab.async false
set_option linter.all false
set_option maxRecDepth 100000
set_option maxHeartbeats 8000000
namespace Law
open PySem PySem.Spec PyProof.Rows L2 Gl Dw
local macro_rules | `(tactic| walk_at "sc") => `(tactic| first
  | exact True.intro
  | (show _ ≤ sizeLine; decide +kernel))
local macro_rules | `(tactic| walk_at "sim") => `(tactic| first
  | ((with_reducible apply ss_seq) <;> walk_at "sim")
  | with_reducible exact ss_next
  | ((with_reducible apply ss_raise) <;> walk_at "sim")
  | with_reducible exact ss_raise0
  | ((with_reducible apply ss_try); walk_at "sim"; (intro _; walk_at "sim"); walk_at "sim")
  | ((with_reducible apply loc_if) <;> walk_at "sim")
  | with_reducible exact loc_asgDf
  | with_reducible exact loc_asgMk
  | ((with_reducible apply loc_seq) <;> walk_at "sim")
  | with_reducible exact loc_const
  | with_reducible exact SimHs.nil
  | ((with_reducible apply SimHs.cons); (intro _ _ _ _ _ _; walk_at "sim"); walk_at "sim")
  | with_reducible exact ss_brk
  | with_reducible exact ss_cont
  | with_reducible exact ss_retN
  | ((with_reducible apply ss_ret) <;> walk_at "sim")
  | ((with_reducible apply ss_if) <;> walk_at "sim")
  | ((with_reducible apply ss_asgO); (with_reducible assumption); walk_at "sim")
  | ((with_reducible apply ss_nput) <;> walk_at "sim")
  | ((with_reducible apply ss_setM) <;> walk_at "sim")
  | ((with_reducible apply ss_setL) <;> walk_at "sim")
  | ((with_reducible apply ss_pop) <;> walk_at "sim")
  | ((with_reducible apply ss_popAt) <;> walk_at "sim")
  | ((with_reducible apply ss_asgTEF); (with_reducible assumption); walk_at "sim"; walk_at "sim")
  | ((with_reducible apply ss_asg) <;> walk_at "sim")
  | ((with_reducible apply ss_parEF); (with_reducible assumption); walk_at "sim"; walk_at "sim")
  | ((with_reducible apply ss_par) <;> walk_at "sim")
  | ((with_reducible apply ss_par3) <;> walk_at "sim")
  | ((with_reducible apply ss_aug) <;> walk_at "sim")
  | ((with_reducible apply ss_app) <;> walk_at "sim")
  | ((with_reducible apply ss_appM) <;> walk_at "sim")
  | ((with_reducible apply ss_ins) <;> walk_at "sim")
  | ((with_reducible apply si_rev) <;> walk_at "sim")
  | ((with_reducible apply ss_ext) <;> walk_at "sim")
  | ((with_reducible apply ss_extX) <;> walk_at "sim")
  | ((with_reducible apply ss_updM) <;> walk_at "sim")
  | ((with_reducible apply ss_drop) <;> walk_at "sim")
  | ((with_reducible apply ss_for) <;> walk_at "sim")
  | ((with_reducible apply ss_while) <;> walk_at "sim")
  | with_reducible exact tg_name
  | ((with_reducible apply tg_tup) <;> walk_at "sim")
  | ((with_reducible apply tgs_cons) <;> walk_at "sim")
  | with_reducible exact tgs_nil
  | with_reducible exact sim_bgetE
  | ((with_reducible apply sim_tupRev) <;> walk_at "sim")
  | with_reducible exact sim_bget
  | ((with_reducible apply ss_bput) <;> walk_at "sim")
  | ((with_reducible apply ss_baug) <;> walk_at "sim")
  | ((with_reducible apply sim_nnotin) <;> walk_at "sim")
  | ((with_reducible apply sim_nget) <;> walk_at "sim")
  | ((with_reducible apply ss_nput) <;> walk_at "sim")
  | ((with_reducible apply ss_faugMT (by assumption) (by assumption)) <;> walk_at "sim")
  | ((with_reducible apply sim_fldMT (by assumption) (by assumption)) <;> walk_at "sim")
  | ((with_reducible apply sim_mtM) <;> walk_at "sim")
  | ((with_reducible apply sim_mtM0) <;> walk_at "sim")
  | with_reducible exact sim_newBk
  | with_reducible exact so_ixB
  | with_reducible exact so_ixM
  | with_reducible exact so_raddR
  | with_reducible exact so_rsubR
  | with_reducible exact sc_lenM
  | with_reducible exact sc_sortX
  | with_reducible exact sc_lenB
  | with_reducible exact so_radd
  | with_reducible exact so_rsub
  | with_reducible exact sim_newD
  | ((with_reducible apply sim_listR) <;> walk_at "sim")
  | ((with_reducible apply sim_lstR) <;> walk_at "sim")
  | ((with_reducible apply sim_popAtM) <;> walk_at "sim")
  | with_reducible exact sc_tupM
  | ((with_reducible apply sim_getM) <;> walk_at "sim")
  | ((with_reducible apply sim_inM) <;> walk_at "sim")
  | ((with_reducible apply sim_notInM) <;> walk_at "sim")
  | ((with_reducible apply ss_putM) <;> walk_at "sim")
  | with_reducible exact sc_dictP
  | with_reducible exact sc_lenY
  | with_reducible exact sc_sortY
  | ((with_reducible apply sim_dgetT) <;> walk_at "sim")
  | ((with_reducible apply sim_dinT) <;> walk_at "sim")
  | ((with_reducible apply sim_dnotInT) <;> walk_at "sim")
  | ((with_reducible apply sim_mt0) <;> walk_at "sim")
  | ((with_reducible apply sim_dcE) <;> walk_at "sim")
  | ((with_reducible apply si_enumT) <;> walk_at "sim")
  | with_reducible exact sc_sortI
  | with_reducible exact sim_var
  | with_reducible exact sim_varG
  | with_reducible exact sim_nil
  | with_reducible exact sim_nilB
  | ((with_reducible apply sim_cons) <;> walk_at "sim")
  | ((with_reducible apply sim_consB) <;> walk_at "sim")
  | ((with_reducible apply sim_c); walk_at "sc")
  | ((with_reducible apply sim_op) <;> walk_at "sim")
  | ((with_reducible apply sim_un) <;> walk_at "sim")
  | ((with_reducible apply sim_isG); (with_reducible assumption); walk_at "sim")
  | ((with_reducible apply sim_cb) <;> walk_at "sim")
  | ((with_reducible apply sim_tup) <;> walk_at "sim")
  | ((with_reducible apply sim_lst) <;> walk_at "sim")
  | ((with_reducible apply sim_lstF) <;> walk_at "sim")
  | ((with_reducible apply sim_call) <;> walk_at "sim")
  | ((with_reducible apply sim_callN) <;> walk_at "sim")
  | ((with_reducible apply sim_sl) <;> walk_at "sim")
  | with_reducible exact sp_no
  | ((with_reducible apply sp_part) <;> walk_at "sim")
  | ((with_reducible apply sim_test) <;> walk_at "sim")
  | ((with_reducible apply sim_tB) <;> walk_at "sim")
  | ((with_reducible apply sim_and) <;> walk_at "sim")
  | ((with_reducible apply sim_or) <;> walk_at "sim")
  | ((with_reducible apply sim_not) <;> walk_at "sim")
  | with_reducible exact sim_yes
  | ((with_reducible apply sim_andV) <;> walk_at "sim")
  | ((with_reducible apply sim_orV) <;> walk_at "sim")
  | ((with_reducible apply sim_notV) <;> walk_at "sim")
  | ((with_reducible apply sim_if) <;> walk_at "sim")
  | ((with_reducible apply sim_chain) <;> walk_at "sim")
  | ((with_reducible apply sim_lcF) <;> walk_at "sim")
  | ((with_reducible apply sim_lcE) <;> walk_at "sim")
  | ((with_reducible apply sim_lstRgF) <;> walk_at "sim")
  | ((with_reducible apply sim_lstRg) <;> walk_at "sim")
  | ((with_reducible apply sim_tupRg) <;> walk_at "sim")
  | ((with_reducible apply sim_rg1) <;> walk_at "sim")
  | ((with_reducible apply sim_rg2) <;> walk_at "sim")
  | ((with_reducible apply sim_listF) <;> walk_at "sim")
  | ((with_reducible apply sim_addF) <;> walk_at "sim")
  | ((with_reducible apply sim_join) <;> walk_at "sim")
  | ((with_reducible apply sim_lenSetS) <;> walk_at "sim")
  | ((with_reducible apply sim_fldT); (with_reducible assumption); (with_reducible assumption); walk_at "sim")
  | ((with_reducible apply sim_mk) <;> walk_at "sim")
  | ((with_reducible apply sim_mkN) <;> walk_at "sim")
  | ((with_reducible apply sim_xf); (with_reducible assumption))
  | with_reducible exact so_eqO
  | ((with_reducible apply si_x) <;> walk_at "sim")
  | ((with_reducible apply si_tup) <;> walk_at "sim")
  | ((with_reducible apply si_list) <;> walk_at "sim")
  | ((with_reducible apply si_str) <;> walk_at "sim")
  | ((with_reducible apply si_rng1) <;> walk_at "sim")
  | ((with_reducible apply si_rng2) <;> walk_at "sim")
  | ((with_reducible apply si_enum) <;> walk_at "sim")
  | ((with_reducible apply si_zip) <;> walk_at "sim")
  | with_reducible exact so_addX
  | with_reducible exact so_mulX
  | with_reducible exact so_divX
  | with_reducible exact so_eqX
  | with_reducible exact so_neX
  | with_reducible exact so_inX
  | with_reducible exact so_notInX
  | with_reducible exact so_ltX
  | with_reducible exact so_gtX
  | with_reducible exact so_geX
  | with_reducible exact so_leX
  | ((with_reducible apply so_i0s); (intros; exact True.intro))
  | ((with_reducible apply so_iCs); (intros; exact True.intro))
  | ((with_reducible apply su_is); (intros; exact True.intro))
  | with_reducible exact so_eq
  | with_reducible exact so_ne
  | with_reducible exact so_isN
  | with_reducible exact so_notN
  | with_reducible exact so_isB
  | with_reducible exact so_notB
  | with_reducible exact so_ixL
  | with_reducible exact so_ixT
  | with_reducible exact so_ixS
  | with_reducible exact so_ix
  | with_reducible exact so_in
  | with_reducible exact so_str
  | with_reducible exact so_inS
  | with_reducible exact so_notInS
  | with_reducible exact so_catT
  | with_reducible exact so_catL
  | with_reducible exact so_addS
  | with_reducible exact so_mulS
  | with_reducible exact so_repT
  | with_reducible exact so_eqD
  | with_reducible exact so_neD
  | with_reducible exact so_inD
  | with_reducible exact so_notInD
  | with_reducible exact so_leT
  | with_reducible exact sc_len
  | with_reducible exact sc_int
  | with_reducible exact sc_abs
  | with_reducible exact sc_str
  | with_reducible exact sc_mm
  | with_reducible exact sc_list
  | with_reducible exact sc_tuple
  | with_reducible exact sc_sum
  | with_reducible exact sc_all
  | with_reducible exact sc_any
  | with_reducible exact sc_isi
  | with_reducible exact sc_isiT
  | with_reducible exact sc_repr
  | with_reducible exact sl_x
  | with_reducible exact sl_t
  | with_reducible exact sl_l
  | with_reducible exact sl_s
  | ((with_reducible apply SimE.g); walk_at "sim")
  | (intros; decide)
  | skip)

theorem cut_nat {ds : List D} {i j : Nat} (h1 : i ≤ j) (h2 : j ≤ ds.length) : Dw.cutD ds (some (i : Int)) (some (j : Int)) = (ds.drop i).take (j - i) := by
  unfold Dw.cutD
  rw [HT.sIx_nat, HT.sIx_nat]
  rw [Nat.min_eq_left (by omega), Nat.min_eq_left (by omega)]
theorem cut_nat0 {ds : List D} {j : Nat} (h2 : j ≤ ds.length) : Dw.cutD ds none (some (j : Int)) = ds.take j := by
  unfold Dw.cutD
  rw [HT.sIx_nat]
  show (ds.drop 0).take (min j ds.length - 0) = _
  rw [Nat.min_eq_left (by omega)]
  rfl
/-- the rows by their numbers -/
def rowAt (m : Nat) (os : List D) (h : Nat) : List D := (laidR (rngD 0 m) os).getD h []
def stT (H m : Nat) (os : List D) (h : Nat) : List D := (rowAt m os h).map (tmT H h)
def padT (H h : Nat) : D → D
  | .int s => .int ((Bs H s.toNat + 3 * (H - 1 - h) + 1 : Nat) : Int)
  | _ => .non
def padR (H m : Nat) (os : List D) (h : Nat) : D := .lst ((rowAt m os h).map (padT H h))
theorem row0 (m : Nat) : isRow m (rngD 0 m) := ⟨(List.range m).map fun (i : Nat) => (i : Int), by rw [rngD_eq, List.map_map]; refine List.map_congr_left fun i _ => by simp, List.Perm.refl _⟩
theorem rowAt_is {m h : Nat} {os : List D} (ho : ∀ o ∈ os, isPerm m o) (hh : h ≤ os.length) : isRow m (rowAt m os h) := by
  have l := laid_len (rngD 0 m) os
  have hl : h < (laidR (rngD 0 m) os).length := by omega
  unfold rowAt
  rw [List.getD_eq_getElem?_getD, List.getElem?_eq_getElem hl]
  exact laid_rows m _ os (row0 m) ho _ (List.getElem_mem hl)
theorem laid_next : ∀ (row : List D) (os : List D) (h : Nat) (o : D), os[h]? = some o → (laidR row os).getD (h + 1) [] = rowStep ((laidR row os).getD h []) o
  | row, o' :: os, 0, o, e => by
    have e : o' = o := Option.some.inj e
    subst e
    show (laidR (rowStep row o') os).getD 0 [] = rowStep row o'
    cases os <;> rfl
  | row, o' :: os, h + 1, o, e => by
    have := laid_next (rowStep row o') os h o (by simpa using e)
    exact this
  | _, [], _, _, e => by simp at e
theorem rowAt_next {m h : Nat} {os : List D} {o : D} (e : os[h]? = some o) : rowAt m os (h + 1) = rowStep (rowAt m os h) o := laid_next _ _ _ _ e
theorem isRow.len {m : Nat} {row : List D} (h : isRow m row) : row.length = m := by
  obtain ⟨ps, rfl, p⟩ := h
  rw [List.length_map, p.length_eq]
  simp
theorem isRow.mem {m : Nat} {row : List D} (h : isRow m row) {d : D} (hd : d ∈ row) : ∃ s : Nat, s < m ∧ d = .int (s : Int) := by
  obtain ⟨ps, rfl, p⟩ := h
  obtain ⟨q, hq, rfl⟩ := List.mem_map.mp hd
  obtain ⟨i, hi, rfl⟩ := List.mem_map.mp (p.mem_iff.mp hq)
  exact ⟨i, List.mem_range.mp hi, rfl⟩
/-- the stages stand one behind another -/
theorem stg_cut {H m : Nat} : ∀ (rs : List (List D)) (h i : Nat), (∀ r ∈ rs, r.length = m) → i < rs.length → ((stg H h rs).drop (i * m)).take m = (rs.getD i []).map (tmT H (h + i))
  | r :: rs, h, 0, hr, hi => by
    rw [stg, Nat.zero_mul, List.drop_zero, List.take_append_of_le_length (by rw [List.length_map, hr r (by simp)]; exact Nat.le_refl _), List.take_of_length_le (by rw [List.length_map, hr r (by simp)]; exact Nat.le_refl _)]
    rfl
  | r :: rs, h, i + 1, hr, hi => by
    have ih := stg_cut (H := H) rs (h + 1) i (fun z hz => hr z (by simp [hz])) (by simpa using hi)
    rw [stg, Nat.add_mul, Nat.one_mul, Nat.add_comm (i * m) m, List.drop_append, List.length_map, hr r (by simp), Nat.add_sub_cancel_left, List.drop_of_length_le (by rw [List.length_map, hr r (by simp)]; omega), List.nil_append, ih]
    rw [show h + 1 + i = h + (i + 1) by omega]
    rfl
  | [], _, _, _, hi => by simp at hi
theorem frame_len {m : Nat} {os : List D} {ps : List Int} (ho : ∀ o ∈ os, isPerm m o) : (frameD os.length m os (.tup (ps.map D.int))).length = os.length + ps.length + (os.length + 1) * m := by
  unfold frameD stD
  rw [List.length_append, List.length_append, lkT_len, List.length_map, stg_len (m := m) fun r hr => (laid_rows m _ os (row0 m) ho r hr).len, laid_len]
theorem frame_locks {m : Nat} {os : List D} {ps : List Int} : (frameD os.length m os (.tup (ps.map D.int))).take os.length = lkT os.length := by
  unfold frameD stD
  rw [List.append_assoc, List.take_append_of_le_length (by simp), List.take_of_length_le (by simp)]
theorem frame_keys {m : Nat} {os : List D} {ps : List Int} : ((frameD os.length m os (.tup (ps.map D.int))).drop os.length).take ps.length = ps.map D.int := by
  unfold frameD stD
  rw [List.append_assoc, List.drop_append, lkT_len, Nat.sub_self, List.drop_of_length_le (by simp), List.nil_append, List.drop_zero, List.take_append_of_le_length (by simp), List.take_of_length_le (by simp)]
theorem frame_stage {m h : Nat} {os : List D} {ps : List Int} (ho : ∀ o ∈ os, isPerm m o) (hh : h ≤ os.length) : ((frameD os.length m os (.tup (ps.map D.int))).drop (os.length + ps.length + h * m)).take m = stT os.length m os h := by
  unfold frameD stD
  rw [List.drop_append, List.length_append, lkT_len, List.length_map, Nat.add_sub_cancel_left, List.drop_of_length_le (by rw [List.length_append, lkT_len, List.length_map]; omega), List.nil_append,
    stg_cut (laidR (rngD 0 m) os) 0 h (fun r hr => (laid_rows m _ os (row0 m) ho r hr).len) (by rw [laid_len]; omega)]
  rw [Nat.zero_add]
  rfl
end Law
set_option Elab.async false
set_option linter.all false
set_option maxRecDepth 100000
set_option maxHeartbeats 8000000
namespace Law
open PySem PySem.Spec PyProof.Rows L2 Gl Dw
local macro_rules | `(tactic| walk_at "sc") => `(tactic| first
  | exact True.intro
  | (show _ ≤ sizeLine; decide +kernel))
local macro_rules | `(tactic| walk_at "sim") => `(tactic| first
  | ((with_reducible apply ss_seq) <;> walk_at "sim")
  | with_reducible exact ss_next
  | ((with_reducible apply ss_raise) <;> walk_at "sim")
  | with_reducible exact ss_raise0
  | ((with_reducible apply ss_try); walk_at "sim"; (intro _; walk_at "sim"); walk_at "sim")
  | ((with_reducible apply loc_if) <;> walk_at "sim")
  | with_reducible exact loc_asgDf
  | with_reducible exact loc_asgMk
  | ((with_reducible apply loc_seq) <;> walk_at "sim")
  | with_reducible exact loc_const
  | with_reducible exact SimHs.nil
  | ((with_reducible apply SimHs.cons); (intro _ _ _ _ _ _; walk_at "sim"); walk_at "sim")
  | with_reducible exact ss_brk
  | with_reducible exact ss_cont
  | with_reducible exact ss_retN
  | ((with_reducible apply ss_ret) <;> walk_at "sim")
  | ((with_reducible apply ss_if) <;> walk_at "sim")
  | ((with_reducible apply ss_asgO); (with_reducible assumption); walk_at "sim")
  | ((with_reducible apply ss_nput) <;> walk_at "sim")
  | ((with_reducible apply ss_setM) <;> walk_at "sim")
  | ((with_reducible apply ss_setL) <;> walk_at "sim")
  | ((with_reducible apply ss_pop) <;> walk_at "sim")
  | ((with_reducible apply ss_popAt) <;> walk_at "sim")
  | ((with_reducible apply ss_asgTEF); (with_reducible assumption); walk_at "sim"; walk_at "sim")
  | ((with_reducible apply ss_asg) <;> walk_at "sim")
  | ((with_reducible apply ss_parEF); (with_reducible assumption); walk_at "sim"; walk_at "sim")
  | ((with_reducible apply ss_par) <;> walk_at "sim")
  | ((with_reducible apply ss_par3) <;> walk_at "sim")
  | ((with_reducible apply ss_aug) <;> walk_at "sim")
  | ((with_reducible apply ss_app) <;> walk_at "sim")
  | ((with_reducible apply ss_appM) <;> walk_at "sim")
  | ((with_reducible apply ss_ins) <;> walk_at "sim")
  | ((with_reducible apply si_rev) <;> walk_at "sim")
  | ((with_reducible apply ss_ext) <;> walk_at "sim")
  | ((with_reducible apply ss_extX) <;> walk_at "sim")
  | ((with_reducible apply ss_updM) <;> walk_at "sim")
  | ((with_reducible apply ss_drop) <;> walk_at "sim")
  | ((with_reducible apply ss_for) <;> walk_at "sim")
  | ((with_reducible apply ss_while) <;> walk_at "sim")
  | with_reducible exact tg_name
  | ((with_reducible apply tg_tup) <;> walk_at "sim")
  | ((with_reducible apply tgs_cons) <;> walk_at "sim")
  | with_reducible exact tgs_nil
  | with_reducible exact sim_bgetE
  | ((with_reducible apply sim_tupRev) <;> walk_at "sim")
  | with_reducible exact sim_bget
  | ((with_reducible apply ss_bput) <;> walk_at "sim")
  | ((with_reducible apply ss_baug) <;> walk_at "sim")
  | ((with_reducible apply sim_nnotin) <;> walk_at "sim")
  | ((with_reducible apply sim_nget) <;> walk_at "sim")
  | ((with_reducible apply ss_nput) <;> walk_at "sim")
  | ((with_reducible apply ss_faugMT (by assumption) (by assumption)) <;> walk_at "sim")
  | ((with_reducible apply sim_fldMT (by assumption) (by assumption)) <;> walk_at "sim")
  | ((with_reducible apply sim_mtM) <;> walk_at "sim")
  | ((with_reducible apply sim_mtM0) <;> walk_at "sim")
  | with_reducible exact sim_newBk
  | with_reducible exact so_ixB
  | with_reducible exact so_ixM
  | with_reducible exact so_raddR
  | with_reducible exact so_rsubR
  | with_reducible exact sc_lenM
  | with_reducible exact sc_sortX
  | with_reducible exact sc_lenB
  | with_reducible exact so_radd
  | with_reducible exact so_rsub
  | with_reducible exact sim_newD
  | ((with_reducible apply sim_listR) <;> walk_at "sim")
  | ((with_reducible apply sim_lstR) <;> walk_at "sim")
  | ((with_reducible apply sim_popAtM) <;> walk_at "sim")
  | with_reducible exact sc_tupM
  | ((with_reducible apply sim_getM) <;> walk_at "sim")
  | ((with_reducible apply sim_inM) <;> walk_at "sim")
  | ((with_reducible apply sim_notInM) <;> walk_at "sim")
  | ((with_reducible apply ss_putM) <;> walk_at "sim")
  | with_reducible exact sc_dictP
  | with_reducible exact sc_lenY
  | with_reducible exact sc_sortY
  | ((with_reducible apply sim_dgetT) <;> walk_at "sim")
  | ((with_reducible apply sim_dinT) <;> walk_at "sim")
  | ((with_reducible apply sim_dnotInT) <;> walk_at "sim")
  | ((with_reducible apply sim_mt0) <;> walk_at "sim")
  | ((with_reducible apply sim_dcE) <;> walk_at "sim")
  | ((with_reducible apply si_enumT) <;> walk_at "sim")
  | with_reducible exact sc_sortI
  | with_reducible exact sim_var
  | with_reducible exact sim_varG
  | with_reducible exact sim_nil
  | with_reducible exact sim_nilB
  | ((with_reducible apply sim_cons) <;> walk_at "sim")
  | ((with_reducible apply sim_consB) <;> walk_at "sim")
  | ((with_reducible apply sim_c); walk_at "sc")
  | ((with_reducible apply sim_op) <;> walk_at "sim")
  | ((with_reducible apply sim_un) <;> walk_at "sim")
  | ((with_reducible apply sim_isG); (with_reducible assumption); walk_at "sim")
  | ((with_reducible apply sim_cb) <;> walk_at "sim")
  | ((with_reducible apply sim_tup) <;> walk_at "sim")
  | ((with_reducible apply sim_lst) <;> walk_at "sim")
  | ((with_reducible apply sim_lstF) <;> walk_at "sim")
  | ((with_reducible apply sim_call) <;> walk_at "sim")
  | ((with_reducible apply sim_callN) <;> walk_at "sim")
  | ((with_reducible apply sim_sl) <;> walk_at "sim")
  | with_reducible exact sp_no
  | ((with_reducible apply sp_part) <;> walk_at "sim")
  | ((with_reducible apply sim_test) <;> walk_at "sim")
  | ((with_reducible apply sim_tB) <;> walk_at "sim")
  | ((with_reducible apply sim_and) <;> walk_at "sim")
  | ((with_reducible apply sim_or) <;> walk_at "sim")
  | ((with_reducible apply sim_not) <;> walk_at "sim")
  | with_reducible exact sim_yes
  | ((with_reducible apply sim_andV) <;> walk_at "sim")
  | ((with_reducible apply sim_orV) <;> walk_at "sim")
  | ((with_reducible apply sim_notV) <;> walk_at "sim")
  | ((with_reducible apply sim_if) <;> walk_at "sim")
  | ((with_reducible apply sim_chain) <;> walk_at "sim")
  | ((with_reducible apply sim_lcF) <;> walk_at "sim")
  | ((with_reducible apply sim_lcE) <;> walk_at "sim")
  | ((with_reducible apply sim_lstRgF) <;> walk_at "sim")
  | ((with_reducible apply sim_lstRg) <;> walk_at "sim")
  | ((with_reducible apply sim_tupRg) <;> walk_at "sim")
  | ((with_reducible apply sim_rg1) <;> walk_at "sim")
  | ((with_reducible apply sim_rg2) <;> walk_at "sim")
  | ((with_reducible apply sim_listF) <;> walk_at "sim")
  | ((with_reducible apply sim_addF) <;> walk_at "sim")
  | ((with_reducible apply sim_join) <;> walk_at "sim")
  | ((with_reducible apply sim_lenSetS) <;> walk_at "sim")
  | ((with_reducible apply sim_fldT); (with_reducible assumption); (with_reducible assumption); walk_at "sim")
  | ((with_reducible apply sim_mk) <;> walk_at "sim")
  | ((with_reducible apply sim_mkN) <;> walk_at "sim")
  | ((with_reducible apply sim_xf); (with_reducible assumption))
  | with_reducible exact so_eqO
  | ((with_reducible apply si_x) <;> walk_at "sim")
  | ((with_reducible apply si_tup) <;> walk_at "sim")
  | ((with_reducible apply si_list) <;> walk_at "sim")
  | ((with_reducible apply si_str) <;> walk_at "sim")
  | ((with_reducible apply si_rng1) <;> walk_at "sim")
  | ((with_reducible apply si_rng2) <;> walk_at "sim")
  | ((with_reducible apply si_enum) <;> walk_at "sim")
  | ((with_reducible apply si_zip) <;> walk_at "sim")
  | with_reducible exact so_addX
  | with_reducible exact so_mulX
  | with_reducible exact so_divX
  | with_reducible exact so_eqX
  | with_reducible exact so_neX
  | with_reducible exact so_inX
  | with_reducible exact so_notInX
  | with_reducible exact so_ltX
  | with_reducible exact so_gtX
  | with_reducible exact so_geX
  | with_reducible exact so_leX
  | ((with_reducible apply so_i0s); (intros; exact True.intro))
  | ((with_reducible apply so_iCs); (intros; exact True.intro))
  | ((with_reducible apply su_is); (intros; exact True.intro))
  | with_reducible exact so_eq
  | with_reducible exact so_ne
  | with_reducible exact so_isN
  | with_reducible exact so_notN
  | with_reducible exact so_isB
  | with_reducible exact so_notB
  | with_reducible exact so_ixL
  | with_reducible exact so_ixT
  | with_reducible exact so_ixS
  | with_reducible exact so_ix
  | with_reducible exact so_in
  | with_reducible exact so_str
  | with_reducible exact so_inS
  | with_reducible exact so_notInS
  | with_reducible exact so_catT
  | with_reducible exact so_catL
  | with_reducible exact so_addS
  | with_reducible exact so_mulS
  | with_reducible exact so_repT
  | with_reducible exact so_eqD
  | with_reducible exact so_neD
  | with_reducible exact so_inD
  | with_reducible exact so_notInD
  | with_reducible exact so_leT
  | with_reducible exact sc_len
  | with_reducible exact sc_int
  | with_reducible exact sc_abs
  | with_reducible exact sc_str
  | with_reducible exact sc_mm
  | with_reducible exact sc_list
  | with_reducible exact sc_tuple
  | with_reducible exact sc_sum
  | with_reducible exact sc_all
  | with_reducible exact sc_any
  | with_reducible exact sc_isi
  | with_reducible exact sc_isiT
  | with_reducible exact sc_repr
  | with_reducible exact sl_x
  | with_reducible exact sl_t
  | with_reducible exact sl_l
  | with_reducible exact sl_s
  | ((with_reducible apply SimE.g); walk_at "sim")
  | (intros; decide)
  | skip)

def wfFrR (P : Program) (w : World) (C : Addr) : WF Rg := fun ds s k _ => match ds with
  | [.opq b, .tup fr, .int mm, .tup os, st] => ∃ (r p : Addr) (recs : List D) (n : Int) (m : Nat), BkAt P w C b r p recs n s ∧ Frm recs os.length m ∧ recs.length ≤ 10000 ∧ mm = m ∧ Mix m os st ∧ fr = frameD os.length m os st ∧
    k (.tup [.lst (kyT os.length), .lst ((List.range os.length).map (padR os.length m os)), .lst (stT os.length m os os.length)]) s
  | _ => False
theorem ints_eqv {ps : List Int} (h : ∀ q ∈ ps, -(10 ^ 31) ≤ q ∧ q ≤ 10 ^ 31) : ∃ zs, D.pys (ps.map D.int) = some zs ∧ SeqAt.shaped (.tuple zs) = true ∧ SeqAt.shaped (.list zs) = true ∧ PyData.eqv (.tuple zs) (.tuple zs) = true ∧ PyData.eqv (.list zs) (.list zs) = true := by
  have q : Lq 40 0 ps.length (ps.map D.int) := ⟨by simp, fun d hd => by
    obtain ⟨z, hz, rfl⟩ := List.mem_map.mp hd
    exact Pq.int (h z hz)⟩
  obtain ⟨p1, a1, b1⟩ := q.tup.shaped (by omega)
  obtain ⟨p2, a2, b2⟩ := q.lst.shaped (by omega)
  simp only [D.py] at a1 a2
  cases e : D.pys (ps.map D.int) with
  | none => rw [e] at a1; cases a1
  | some zs =>
    rw [e] at a1 a2
    cases a1
    cases a2
    exact ⟨zs, rfl, b1, b2, shaped_refl b1, shaped_refl b2⟩
theorem cm_pys (A : List Nat) (p n : Nat → Int) : D.pys (A.map fun s => D.tup [.int (p s), .int (n s)]) = some (A.map fun s => PyData.tuple [.int (p s), .int (n s)]) := by
  induction A with
  | nil => rfl
  | cons a r ih =>
    rw [List.map_cons, List.map_cons]
    simp only [D.pys, ih]
    rfl
theorem cm_shaped {A : List Nat} {p n : Nat → Int} (h : ∀ s ∈ A, (-(10 ^ 31) ≤ p s ∧ p s ≤ 10 ^ 31) ∧ -(10 ^ 31) ≤ n s ∧ n s ≤ 10 ^ 31) : SeqAt.shaped (PyData.list (A.map fun s => PyData.tuple [.int (p s), .int (n s)])) = true := by
  have q : Lq _ 1 A.length (A.map fun s => D.tup [.int (p s), .int (n s)]) := ⟨by simp, fun d hd => by
    obtain ⟨s, hs, rfl⟩ := List.mem_map.mp hd
    exact (Lq.cons (Pq.int (h s hs).1) (Lq.one (Pq.int (h s hs).2))).tup⟩
  obtain ⟨z, a, b⟩ := q.lst.shaped (by omega)
  simp only [D.py, cm_pys] at a
  cases a
  exact b
theorem isRow.nat {m : Nat} {row : List D} (h : isRow m row) : ∃ A : List Nat, row = A.map (fun (s : Nat) => D.int (s : Int)) ∧ A.length = m ∧ ∀ s ∈ A, s < m := by
  obtain ⟨ps, rfl, pm⟩ := h
  have hp : ∀ q ∈ ps, 0 ≤ q ∧ q < (m : Int) := fun q hq => by
    obtain ⟨i, hi, rfl⟩ := List.mem_map.mp (pm.mem_iff.mp hq)
    have := List.mem_range.mp hi
    omega
  refine ⟨ps.map Int.toNat, ?_, by rw [List.length_map, pm.length_eq]; simp, fun s hs => ?_⟩
  · rw [List.map_map]
    refine List.map_congr_left fun q hq => ?_
    have := hp q hq
    simp
    omega
  · obtain ⟨q, hq, rfl⟩ := List.mem_map.mp hs
    have := hp q hq
    omega
theorem row_nat {m : Nat} {row : List D} {A : List Nat} {qs : List Int} (e : row = A.map (fun (s : Nat) => D.int (s : Int))) (l : A.length = m) (pq : qs.Perm ((List.range m).map fun (i : Nat) => (i : Int))) : rowStep row (.tup (qs.map D.int)) = qs.map fun q => D.int ((A.getD q.toNat 0 : Nat) : Int) := by
  subst e
  show List.map _ (qs.map D.int) = _
  rw [List.map_map]
  refine List.map_congr_left fun q hq => ?_
  obtain ⟨i, hi, rfl⟩ := List.mem_map.mp (pq.mem_iff.mp hq)
  have := List.mem_range.mp hi
  have e2 : atI (A.map (fun (s : Nat) => D.int (s : Int))) (i : Int) = some (D.int ((A.getD i 0 : Nat) : Int)) := by
    refine atI_nat ?_
    rw [List.getElem?_map, List.getElem?_eq_getElem (by omega)]
    simp [List.getD, List.getElem?_eq_getElem (show i < A.length by omega)]
  simp only [Function.comp_def, e2]
  simp
local macro_rules | `(tactic| walk_at "mtb") => `(tactic| first
  | refine ⟨noM (by decide), ?_⟩
  | refine ⟨rfl, noM (by decide), ?_⟩)
abbrev s__law_frame_right : Stmt := top 44
abbrev N__law_frame_right : List Str := ["book", "frame", "many", "orders", "stolen", "hops", "locks", "keys", "lock", "hop", "begin", "pads", "stages", "order", "come_of", "term", "at", "pair", "word"]
theorem sc__law_frame_right : FnScope N__law_frame_right ["book", "frame", "many", "orders", "stolen"] (defScope s__law_frame_right) := ⟨rfl, rfl, rfl, by decide +kernel, rfl, by decide +kernel, by decide +kernel⟩
section
variable {P : Program} {w : World} {K : PySem.W.Frag} {mg : Str → Option Value} {base : Heap} {CB : Addr}
theorem ok_frame_right (T : Tx P w K mg) (q_Book_kind : Cf P w K mg base 5 CB "kind" (spX RW (wfOf P w CB fun x _ => x))) (q_Book_parts : Cf P w K mg base 5 CB "parts" (spX RW (wfOf P w CB fun _ y => y))) (f__law_box_right : Df P w K mg base 6 "_law_box_right" (spX RW (wfBoxR P w CB))) {f : Addr} {fd : FuncData} (F : FD K "_law_frame_right" s__law_frame_right f fd) : Fn P w K mg base 7 f fd ["book", "frame", "many", "orders", "stolen"] (spX RW (wfFrR P w CB)) := by
  refine fn_data F sc__law_frame_right (fun ds s k x h => ?_) fun cv A outer s H G hr gd => ⟨_, (pss_cons (ps_set (i := 5) sc__law_frame_right.nd rfl (Or.inl rfl) (pe_callB (kLen (K := K)) (by rfl) T.len (by decide +kernel) (pa_cons (pv 3) pa_nil)))
    (pss_cons (ps_if (pt_cmpR (kNe (K := K) hr) (pe_callB (kLen (K := K)) (by rfl) T.len (by decide +kernel) (pa_cons (pv 1) pa_nil)) (pe_op (kAdd (K := K)) (pe_op (kAdd (K := K)) (pv 5) (pe_callB (kLen (K := K)) (by rfl) T.len (by decide +kernel) (pa_cons (pv 4) pa_nil))) (pe_op (kMul (K := K)) (pe_op (kAdd (K := K)) (pv 5) pe_int) (pv 2))) (nomark _)) (pss_one (ps_ret pe_non)) pss_nil)
    (pss_cons (ps_asg (pe_tup (pa_cons (pe_slice (kSl (K := K)) (pv 1) po_none (po_some (pv 5))) (pa_cons (pe_slice (kSl (K := K)) (pv 1) (po_some (pv 5)) (po_some (pe_op (kAdd (K := K)) (pv 5) (pe_callB (kLen (K := K)) (by rfl) T.len (by decide +kernel) (pa_cons (pv 4) pa_nil))))) pa_nil))) (kTup (K := K) (n := 2) rfl (pgs_cons (pg_name (i := 6) sc__law_frame_right.nd rfl (Or.inr rfl)) (pgs_cons (pg_name (i := 7) sc__law_frame_right.nd rfl (Or.inl rfl)) pgs_nil))))
    (pss_cons (ps_if (pt_not (pt_val (pe_callB (kAll (K := K) rfl) (by rfl) T.all (by decide +kernel) (pa_cons (pe_lc (own := [("lock", 8)]) (g := gName 8) (by rfl) sc__law_frame_right.nd (kpi (K := K) (pv 6)) (blkOk_by (own := [("lock", 8)]) (N := N__law_frame_right) (sc := defScope s__law_frame_right) (by decide +kernel)) (fun _ _ _ _ _ => pg_name (i := 8) sc__law_frame_right.nd rfl (Or.inl rfl)) (fun _ _ _ _ _ => pts_nil) (fun _ _ _ _ _ => (pe_and (pe_cmpR (kEq (K := K) hr) (pe_mtA q_Book_kind hr (by omega) gd (fun σ => Gl.no_pass σ) (pv 0) (pa_cons (pv 8) pa_nil)) pe_str (nomark _)) (pe_one (pe_cmpR (kEq (K := K) hr) (pe_mtA q_Book_kind hr (by omega) gd (fun σ => Gl.no_pass σ) (pv 0) (pa_cons (pe_ix (kIx (K := K)) (pe_mtA q_Book_parts hr (by omega) gd (fun σ => Gl.no_pass σ) (pv 0) (pa_cons (pv 8) pa_nil)) pe_int (fun _ _ => rfl)) pa_nil)) pe_str (nomark _)))))) pa_nil)))) (pss_one (ps_ret pe_non)) pss_nil)
    (pss_cons (ps_if (pt_cmpR (kNe (K := K) hr) (pv 7) (pe_callTy (kTuple (K := K)) (by rfl) T.tuple (by decide +kernel) (pa_cons (pe_lc (own := [("hop", 9)]) (g := gName 9) (by rfl) sc__law_frame_right.nd (kpi (K := K) (pv 4)) (blkOk_by (own := [("hop", 9)]) (N := N__law_frame_right) (sc := defScope s__law_frame_right) (by decide +kernel)) (fun _ _ _ _ _ => pg_name (i := 9) sc__law_frame_right.nd rfl (Or.inl rfl)) (fun _ _ _ _ _ => pts_nil) (fun _ _ _ _ _ => (pe_ix (kIx (K := K)) (pe_mtA q_Book_parts hr (by omega) gd (fun σ => Gl.no_pass σ) (pv 0) (pa_cons (pe_ix (kIx (K := K)) (pv 6) (pv 9) (fun _ _ => rfl)) pa_nil)) pe_int (fun _ _ => rfl)))) pa_nil)) (nomark _)) (pss_one (ps_ret pe_non)) pss_nil)
    (pss_cons (ps_asg (pe_tup (pa_cons (pe_op (kAdd (K := K)) (pv 5) (pe_callB (kLen (K := K)) (by rfl) T.len (by decide +kernel) (pa_cons (pv 4) pa_nil))) (pa_cons (pe_lst pa_nil) pa_nil))) (kTup (K := K) (n := 2) rfl (pgs_cons (pg_name (i := 10) sc__law_frame_right.nd rfl (Or.inr rfl)) (pgs_cons (pg_name (i := 11) sc__law_frame_right.nd rfl (Or.inl rfl)) pgs_nil))))
    (pss_cons (ps_setLc (i := 12) (y := "stages") (own := [("hop", 9)]) (g := gName 9) (by rfl) sc__law_frame_right.nd rfl rfl (sw_true rfl rfl rfl (by decide +kernel)) (pi_range1 rfl T.range (pa_cons (pe_op (kAdd (K := K)) (pv 5) pe_int) pa_nil)) (blkOk_by (own := [("hop", 9)]) (N := N__law_frame_right) (sc := defScope s__law_frame_right) (by decide +kernel)) (fun _ _ _ _ _ => pg_name (i := 9) sc__law_frame_right.nd rfl (Or.inl rfl)) (fun _ _ _ _ _ => pts_nil) (fun _ _ _ _ _ => (pe_slice (kSl (K := K)) (pv 1) (po_some (pe_op (kAdd (K := K)) (pv 10) (pe_op (kMul (K := K)) (pv 9) (pv 2)))) (po_some (pe_op (kAdd (K := K)) (pv 10) (pe_op (kMul (K := K)) (pe_op (kAdd (K := K)) (pv 9) pe_int) (pv 2)))))))
    (pss_cons (ps_for (passes_of rfl) rfl (pi_enumT (K := K) rfl T.enumerate (pa_cons (pv 3) pa_nil)) (kTup (K := K) (n := 2) rfl (pgs_cons (pg_name (i := 9) sc__law_frame_right.nd rfl (Or.inr rfl)) (pgs_cons (pg_name (i := 13) sc__law_frame_right.nd rfl (Or.inl rfl)) pgs_nil)))
      (pss_cons (ps_set (i := 14) sc__law_frame_right.nd rfl (Or.inr rfl) (pe_lc (own := [("term", 15)]) (g := gName 15) (by rfl) sc__law_frame_right.nd (kpi (K := K) (pe_ix (kIx (K := K)) (pv 12) (pv 9) (fun _ _ => rfl))) (blkOk_by (own := [("term", 15)]) (N := N__law_frame_right) (sc := defScope s__law_frame_right) (by decide +kernel)) (fun _ _ _ _ _ => pg_name (i := 15) sc__law_frame_right.nd rfl (Or.inl rfl)) (fun _ _ _ _ _ => pts_nil) (fun _ _ _ _ _ => (pe_df f__law_box_right hr (by omega) gd rfl (fun σ => Gl.no_pass σ) (pa_cons (pv 0) (pa_cons (pv 15) (pa_cons (pe_ix (kIx (K := K)) (pv 6) (pv 9) (fun _ _ => rfl)) (pa_cons (pe_ix (kIx (K := K)) (pe_mtA q_Book_parts hr (by omega) gd (fun σ => Gl.no_pass σ) (pv 0) (pa_cons (pe_ix (kIx (K := K)) (pv 6) (pv 9) (fun _ _ => rfl)) pa_nil)) pe_int (fun _ _ => rfl)) pa_nil))))))))
    (pss_cons (ps_if (PW.pt (pw_or (pt_cmpR (kIn (K := K) hr) pe_non (pv 14) rfl) (pw_or1 (pt_cmpR (kNe (K := K) hr) (pe_lc (own := [("at", 16)]) (g := gName 16) (by rfl) sc__law_frame_right.nd (kpi (K := K) (pv 13)) (blkOk_by (own := [("at", 16)]) (N := N__law_frame_right) (sc := defScope s__law_frame_right) (by decide +kernel)) (fun _ _ _ _ _ => pg_name (i := 16) sc__law_frame_right.nd rfl (Or.inl rfl)) (fun _ _ _ _ _ => pts_nil) (fun _ _ _ _ _ => (pe_ix (kIx (K := K)) (pe_ix (kIx (K := K)) (pv 14) (pv 16) (fun _ _ => rfl)) pe_int (fun _ _ => rfl)))) (pe_callTy (kList (K := K)) (by rfl) T.list (by decide +kernel) (pa_cons (pe_ix (kIx (K := K)) (pv 12) (pe_op (kAdd (K := K)) (pv 9) pe_int) (fun _ _ => rfl)) pa_nil)) (nomark _))))) (pss_one (ps_ret pe_non)) pss_nil)
    (pss_one (ps_expr (pe_bm PySem.F.plainAttrs_list PySem.F.slot_list_append PySem.F.type_list_append mt_append (pv 11) (pa_cons (pe_lc (own := [("pair", 17)]) (g := gName 17) (by rfl) sc__law_frame_right.nd (kpi (K := K) (pv 14)) (blkOk_by (own := [("pair", 17)]) (N := N__law_frame_right) (sc := defScope s__law_frame_right) (by decide +kernel)) (fun _ _ _ _ _ => pg_name (i := 17) sc__law_frame_right.nd rfl (Or.inl rfl)) (fun _ _ _ _ _ => pts_nil) (fun _ _ _ _ _ => (pe_ix (kIx (K := K)) (pv 17) pe_int (fun _ _ => rfl)))) pa_nil)))))))
    (pss_cons (ps_if (pt_not (pt_val (pe_callB (kAll (K := K) rfl) (by rfl) T.all (by decide +kernel) (pa_cons (pe_lc (own := [("word", 18)]) (g := gName 18) (by rfl) sc__law_frame_right.nd (kpi (K := K) (pe_ix (kIx (K := K)) (pv 12) (pe_un un_neg pe_int) (fun _ _ => rfl))) (blkOk_by (own := [("word", 18)]) (N := N__law_frame_right) (sc := defScope s__law_frame_right) (by decide +kernel)) (fun _ _ _ _ _ => pg_name (i := 18) sc__law_frame_right.nd rfl (Or.inl rfl)) (fun _ _ _ _ _ => pts_nil) (fun _ _ _ _ _ => (pe_cmpR (kEq (K := K) hr) (pe_mtA q_Book_kind hr (by omega) gd (fun σ => Gl.no_pass σ) (pv 0) (pa_cons (pv 18) pa_nil)) pe_str (nomark _)))) pa_nil)))) (pss_one (ps_ret pe_non)) pss_nil)
    (pss_one (ps_ret (pe_tup (pa_cons (pe_lc (own := [("lock", 8)]) (g := gName 8) (by rfl) sc__law_frame_right.nd (kpi (K := K) (pv 6)) (blkOk_by (own := [("lock", 8)]) (N := N__law_frame_right) (sc := defScope s__law_frame_right) (by decide +kernel)) (fun _ _ _ _ _ => pg_name (i := 8) sc__law_frame_right.nd rfl (Or.inl rfl)) (fun _ _ _ _ _ => pts_nil) (fun _ _ _ _ _ => (pe_ix (kIx (K := K)) (pe_mtA q_Book_parts hr (by omega) gd (fun σ => Gl.no_pass σ) (pv 0) (pa_cons (pv 8) pa_nil)) pe_int (fun _ _ => rfl)))) (pa_cons (pv 11) (pa_cons (pe_callTy (kList (K := K)) (by rfl) T.list (by decide +kernel) (pa_cons (pe_ix (kIx (K := K)) (pv 12) (pe_un un_neg pe_int) (fun _ _ => rfl)) pa_nil)) pa_nil))))))))))))))), ?_⟩
  · match ds, h with
    | [.opq _, .tup _, .int _, .tup _, _], _ => rfl
  · 
    have ow11 : OwnSl 11 := ⟨⟩
    apply bodyW
    · walk_at "sim"
    intro ds s k x ok h
    match ds, h with
    | [.opq b, .tup fr, .int mm, .tup os, st], ⟨r, p, recs, n, m, hB, FF, rz, emm, M, efr, hk⟩ =>
      subst emm
      obtain ⟨m1, m2, o1, o2, oo, ps, rfl, pw, hps⟩ := M
      have hb := hB
      obtain ⟨dx, hb⟩ := hbk hb
      have fl := frame_len (ps := ps) oo
      rw [← efr] at fl
      have pl : ps.length ≤ 4 := by
        have := asc_len (lo := 0) (hi := (os.length : Int)) (by omega) pw hps
        omega
      have mb : (os.length + 1) * m ≤ 5 * 6 := Nat.mul_le_mul (by omega) m2
      generalize eH : os.length = H at *
      let e0 : List Sl := [.dat (.opq b), .dat (.tup fr), .dat (.int (m : Int)), .dat (.tup os), .dat (.tup (ps.map D.int))]
      refine cut (fun env t => t = s ∧ env = e0 ++ [.dat (.int (H : Int)), .no, .no, .no, .no, .no, .no, .no, .no, .no, .no, .no, .no, .no]) (fun K1 h1 _ _ => ?_) fun env t hI => ?_
      · simp [N__law_frame_right, eH]
        exact h1 _ _ ⟨rfl, rfl⟩
      obtain ⟨rfl, rfl⟩ := hI
      refine cut (fun env t2 => t2 = t ∧ env = e0 ++ [.dat (.int (H : Int)), .no, .no, .no, .no, .no, .no, .no, .no, .no, .no, .no, .no, .no]) (fun K1 h1 _ _ => ?_) fun env t2 hI => ?_
      · simp [e0]
        refine ⟨.inl (.inl ⟨by omega, by omega⟩), ite_t ?_ (h1 _ _ ⟨rfl, rfl⟩)⟩
        have := congrArg (fun z : Nat => (z : Int)) fl
        simp at this
        exact this
      obtain ⟨rfl, rfl⟩ := hI
      refine cut (fun env t => t = t2 ∧ env = e0 ++ [.dat (.int (H : Int)), .dat (.tup (lkT H)), .dat (.tup (ps.map D.int)), .no, .no, .no, .no, .no, .no, .no, .no, .no, .no, .no]) (fun K1 h1 _ _ => ?_) fun env t hI => ?_
      · simp [e0]
        have c1 : Dw.cutD fr none (some (H : Int)) = lkT H := by
          rw [cut_nat0 (by omega), efr, ← eH]
          exact frame_locks
        have c2 : Dw.cutD fr (some (H : Int)) (some ((H : Int) + (ps.length : Int))) = ps.map D.int := by
          rw [show ((H : Int) + (ps.length : Int)) = ((H + ps.length : Nat) : Int) by simp, cut_nat (by omega) (by omega), Nat.add_sub_cancel_left, efr, ← eH]
          exact frame_keys
        rw [c1, c2]
        exact ⟨by decide, h1 _ _ ⟨rfl, rfl⟩⟩
      obtain ⟨rfl, rfl⟩ := hI
      refine cut (fun env t2 => t2 = t ∧ env = e0 ++ [.dat (.int (H : Int)), .dat (.tup (lkT H)), .dat (.tup (ps.map D.int)), .no, .no, .no, .no, .no, .no, .no, .no, .no, .no, .no]) (fun K1 h1 _ _ => ?_) fun env t2 hI => ?_
      · simp [e0]
        refine ⟨by rw [sizeLine_eq]; omega, wLc_map (fun _ => .bl true) (fun d hd kt hkt => ?_) ⟨_, bls_map (fun _ => true) _, ite_f (by simp) (h1 _ _ ⟨rfl, rfl⟩)⟩⟩
        unfold lkT at hd
        obtain ⟨i, hi, rfl⟩ := List.mem_map.mp hd
        have il := List.mem_range.mp hi
        obtain ⟨z, hz⟩ := FF.key i il
        have lk := FF.lock i il
        generalize H + i = l at *
        simp [hb]
        walk_at "mtb"
        refine kind_of hB lk ?_
        simp [hb]
        walk_at "mtb"
        walk_at "mtb"
        refine parts_of hB lk ?_
        simp [hb]
        refine kind_of hB hz ?_
        simp
        exact hkt
      obtain ⟨rfl, rfl⟩ := hI
      refine cut (fun env t => t = t2 ∧ env = e0 ++ [.dat (.int (H : Int)), .dat (.tup (lkT H)), .dat (.tup (ps.map D.int)), .no, .no, .no, .no, .no, .no, .no, .no, .no, .no, .no]) (fun K1 h1 _ _ => ?_) fun env t hI => ?_
      · simp [e0]
        refine ⟨by rw [sizeLine_eq]; omega, wLc_map (fun d => d) (fun d hd kt hkt => ?_) ?_⟩
        · obtain ⟨q, hq, rfl⟩ := List.mem_map.mp hd
          have qb := hps q hq
          obtain ⟨i, rfl⟩ := Int.eq_ofNat_of_zero_le qb.1
          have il : i < H := by omega
          have lk := FF.lock i il
          have la : atI (lkT H) (i : Int) = some (.int ((H + i : Nat) : Int)) := rng_ix (f := fun i => D.int ((H + i : Nat) : Int)) il
          simp only [wOp, wMtM, wVar, wVarG, wCons, wNil, wC, wp]
          simp [hb]
          walk_at "mtb"
          rw [la]
          refine parts_of hB lk ?_
          simp
          exact hkt
        · rw [List.map_id']
          obtain ⟨zs, z1, z2, z3, z4, z5⟩ := ints_eqv (ps := ps) fun q hq => by have := hps q hq; omega
          refine ⟨_, ⟨zs, z1, rfl⟩, _, ⟨zs, z1, rfl⟩, z2, z2, ?_⟩
          rw [z4]
          exact h1 _ _ ⟨rfl, rfl⟩
      obtain ⟨rfl, rfl⟩ := hI
      refine cut (fun env t2 => t2 = t ∧ env = e0 ++ [.dat (.int (H : Int)), .dat (.tup (lkT H)), .dat (.tup (ps.map D.int)), .no, .no, .dat (.int ((H + ps.length : Nat) : Int)), .own [], .no, .no, .no, .no, .no, .no, .no]) (fun K1 h1 _ _ => ?_) fun env t2 hI => ?_
      · simp [e0]
        exact h1 _ _ ⟨rfl, by simp [e0]⟩
      obtain ⟨rfl, rfl⟩ := hI
      refine cut (fun env t => t = t2 ∧ env = e0 ++ [.dat (.int (H : Int)), .dat (.tup (lkT H)), .dat (.tup (ps.map D.int)), .no, .no, .dat (.int ((H + ps.length : Nat) : Int)), .own [], .dat (.lst ((List.range (H + 1)).map fun h => .tup (stT H m os h))), .no, .no, .no, .no, .no, .no]) (fun K1 h1 _ _ => ?_) fun env t hI => ?_
      · simp [e0]
        refine ⟨by rw [sizeLine_eq]; omega, by omega, by rw [rngD_len, sizeLine_eq]; omega, wLc_map (fun d => match d with
          | .int h => .tup (stT H m os h.toNat)
          | _ => .non) (fun d hd kt hkt => ?_) ?_⟩
        · rw [rngD_eq] at hd
          obtain ⟨i, hi, rfl⟩ := List.mem_map.mp hd
          have il := List.mem_range.mp hi
          simp at hkt
          simp
          refine ⟨.inl (.inl ⟨by omega, by omega⟩), .inl (.inl ⟨by omega, by omega⟩), ?_⟩
          have lm : (i + 1) * m ≤ (H + 1) * m := Nat.mul_le_mul_right m (by omega)
          have la : (i + 1) * m = i * m + m := by rw [Nat.add_mul, Nat.one_mul]
          have e : Dw.cutD fr (some ((H : Int) + (ps.length : Int) + (i : Int) * (m : Int))) (some ((H : Int) + (ps.length : Int) + ((i : Int) + 1) * (m : Int))) = stT H m os i := by
            rw [show ((H : Int) + (ps.length : Int) + (i : Int) * (m : Int)) = ((H + ps.length + i * m : Nat) : Int) by simp, show ((H : Int) + (ps.length : Int) + ((i : Int) + 1) * (m : Int)) = ((H + ps.length + (i + 1) * m : Nat) : Int) by simp]
            rw [cut_nat (by omega) (by omega), show H + ps.length + (i + 1) * m - (H + ps.length + i * m) = m by omega, efr, ← eH]
            exact frame_stage oo (by omega)
          rw [e]
          exact hkt
        · have : (rngD 0 (H + 1)).map (fun d => match d with
            | .int h => D.tup (stT H m os h.toNat)
            | _ => .non) = (List.range (H + 1)).map fun h => D.tup (stT H m os h) := by
            rw [rngD_eq, List.map_map]
            refine List.map_congr_left fun i _ => ?_
            simp
          rw [this]
          exact h1 _ _ ⟨rfl, by simp [e0]⟩
      obtain ⟨rfl, rfl⟩ := hI
      refine cut (fun env t2 => ∃ v9 v13 v14 v15 v16 v17 v18, t2 = t ∧ env = e0 ++ [.dat (.int (H : Int)), .dat (.tup (lkT H)), .dat (.tup (ps.map D.int)), .no, v9, .dat (.int ((H + ps.length : Nat) : Int)), .own ((List.range H).map (padR H m os)), .dat (.lst ((List.range (H + 1)).map fun h => .tup (stT H m os h))), v13, v14, v15, v16, v17, v18]) (fun K1 h1 _ _ => ?_) fun env t2 hI => ?_
      · simp [e0]
        refine wFor_ind (fun rest env t2 => ∃ (dn rs : List D) (v9 v13 v14 v15 v16 v17 v18 : Sl), os = dn ++ rs ∧ rest = enumD dn.length rs ∧ t2 = t ∧ env = e0 ++ [.dat (.int (H : Int)), .dat (.tup (lkT H)), .dat (.tup (ps.map D.int)), .no, v9, .dat (.int ((H + ps.length : Nat) : Int)), .own ((List.range dn.length).map (padR H m os)), .dat (.lst ((List.range (H + 1)).map fun h => .tup (stT H m os h))), v13, v14, v15, v16, v17, v18]) (by exact ⟨[], os, .no, .no, .no, .no, .no, .no, .no, rfl, rfl, rfl, by simp [e0]⟩) (fun env t2 hp => ?_) fun d rest ih env t2 hp => ?_
        · obtain ⟨dn, rs, v9, v13, v14, v15, v16, v17, v18, eo, er, rfl, rfl⟩ := hp
          match rs, er with
          | [], _ =>
            rw [List.append_nil] at eo
            rw [← eo, eH]
            exact h1 _ _ ⟨v9, v13, v14, v15, v16, v17, v18, rfl, rfl⟩
        · obtain ⟨dn, rs, v9, v13, v14, v15, v16, v17, v18, eo, er, rfl, rfl⟩ := hp
          match rs, er with
          | o :: rs', er =>
            simp only [enumD, List.cons.injEq] at er
            obtain ⟨rfl, rfl⟩ := er
            have eo' : os[dn.length]? = some o := by rw [eo]; simp
            have il : dn.length < H := by
              have := (List.getElem?_eq_some_iff.mp eo').1
              omega
            obtain ⟨A, eA, Al, Am⟩ := isRow.nat (rowAt_is (m := m) (h := dn.length) oo (by omega))
            have en := rowAt_next (m := m) eo'
            obtain ⟨qs, rfl, pq⟩ := oo o (by rw [eo]; simp)
            have eN := row_nat eA Al pq
            rw [← en] at eN
            generalize ei : dn.length = i at *
            have sI : stT H m os i = A.map fun s => D.int ((Bs H s + 3 * (H - 1 - i) + 3 : Nat) : Int) := by
              unfold stT
              rw [eA, List.map_map]
              refine List.map_congr_left fun s _ => ?_
              show D.int ((2 * H + s * (3 * H + 1) + 3 * (H - i) : Nat) : Int) = _
              rw [show 3 * (H - i) = 3 * (H - 1 - i) + 3 by omega]
              rfl
            have sN : stT H m os (i + 1) = (qs.map fun q => ((Bs H (A.getD q.toNat 0) + 3 * (H - 1 - i) : Nat) : Int)).map D.int := by
              unfold stT
              rw [eN, List.map_map, List.map_map]
              refine List.map_congr_left fun q _ => ?_
              show D.int ((2 * H + A.getD q.toNat 0 * (3 * H + 1) + 3 * (H - (i + 1)) : Nat) : Int) = _
              rw [show 3 * (H - (i + 1)) = 3 * (H - 1 - i) by omega]
              rfl
            have pR : padR H m os i = .lst (A.map fun s => D.int ((Bs H s + 3 * (H - 1 - i) + 1 : Nat) : Int)) := by
              unfold padR
              rw [eA, List.map_map]
              rfl
            have aI : atI ((List.range (H + 1)).map fun h => D.tup (stT H m os h)) (i : Int) = some (.tup (stT H m os i)) := rng_ix (f := fun h => D.tup (stT H m os h)) (by omega)
            have aN : atI ((List.range (H + 1)).map fun h => D.tup (stT H m os h)) ((i : Int) + 1) = some (.tup (stT H m os (i + 1))) := rng_ix (s := i + 1) (f := fun h => D.tup (stT H m os h)) (by omega)
            have aL : atI (lkT H) (i : Int) = some (.int ((H + i : Nat) : Int)) := rng_ix (f := fun i => D.int ((H + i : Nat) : Int)) il
            obtain ⟨z, hz⟩ := FF.key i il
            have lk := FF.lock i il
            let cm : Nat → D := fun s => .tup [.int ((Bs H s + 3 * (H - 1 - i) + 1 : Nat) : Int), .int ((Bs H s + 3 * (H - 1 - i) : Nat) : Int)]
            have bsz : ∀ s ∈ A, Bs H s + 3 * H ≤ 10000 := fun s hs => by
              have := bs_lt FF (Am s hs)
              omega
            refine ⟨rfl, ?_⟩
            simp only [wGCons, wGNil, wName]
            refine cut (fun env t3 => t3 = t2 ∧ env = e0 ++ [.dat (.int (H : Int)), .dat (.tup (lkT H)), .dat (.tup (ps.map D.int)), .no, .dat (.int (i : Int)), .dat (.int ((H + ps.length : Nat) : Int)), .own ((List.range i).map (padR H m os)), .dat (.lst ((List.range (H + 1)).map fun h => .tup (stT H m os h))), .dat (.tup (qs.map D.int)), .dat (.lst (A.map cm)), v15, v16, v17, v18]) (fun K1 h1 _ _ => ?_) fun env t3 hI => ?_
            · simp [e0, aI]
              refine ⟨by unfold stT; rw [eA, sizeLine_eq]; simp; omega, ?_⟩
              rw [sI]
              refine wLc_mapA cm _ (fun s hs kt hkt => ?_) (h1 _ _ ⟨rfl, by simp [e0]⟩)
              simp [aL, hb]
              walk_at "mtb"
              refine parts_of hB (i := H + i) lk ?_
              simp
              refine ⟨r, p, recs, n, H, m, s, H - 1 - i, hB, FF, Am s hs, by omega, by simp, by omega, by omega, hkt⟩
            obtain ⟨rfl, rfl⟩ := hI
            refine cut (fun env t2 => t2 = t3 ∧ env = e0 ++ [.dat (.int (H : Int)), .dat (.tup (lkT H)), .dat (.tup (ps.map D.int)), .no, .dat (.int (i : Int)), .dat (.int ((H + ps.length : Nat) : Int)), .own ((List.range i).map (padR H m os)), .dat (.lst ((List.range (H + 1)).map fun h => .tup (stT H m os h))), .dat (.tup (qs.map D.int)), .dat (.lst (A.map cm)), v15, v16, v17, v18]) (fun K1 h1 _ _ => ?_) fun env t2 hI => ?_
            · simp [e0]
              have nf : flatIn D.non (A.map cm) = false := by
                match A, Al with
                | a :: A', _ => rfl
                | [], z => simp at z; omega
              refine ite_f (by rw [nf]; decide) ⟨_, cm_pys _ _ _, rfl, cm_shaped fun s hs => by have := bsz s hs; omega, ite_f (fun z => ?_) ⟨by rw [sizeLine_eq]; have := pq.length_eq; simp at this; omega, ?_⟩⟩
              · obtain ⟨y, hy, e⟩ := z
                obtain ⟨s, _, rfl⟩ := List.mem_map.mp hy
                exact absurd e (by simp [PyData.eqv])
              · refine wLc_mapA (fun q => D.int ((Bs H (A.getD q.toNat 0) + 3 * (H - 1 - i) : Nat) : Int)) D.int (fun q hq kt hkt => ?_) ?_
                · obtain ⟨j, hj, rfl⟩ := List.mem_map.mp (pq.mem_iff.mp hq)
                  have := List.mem_range.mp hj
                  have ac : atI (A.map cm) (j : Int) = some (cm (A.getD j 0)) := by
                    refine atI_nat ?_
                    rw [List.getElem?_map, List.getElem?_eq_getElem (by omega)]
                    simp [List.getD, List.getElem?_eq_getElem (show j < A.length by omega)]
                  simp [ac]
                  simp [cm]
                  simpa using hkt
                · obtain ⟨zs, z1, z2, z3, z4, z5⟩ := ints_eqv (ps := qs.map fun q => ((Bs H (A.getD q.toNat 0) + 3 * (H - 1 - i) : Nat) : Int)) fun z hz => by
                    obtain ⟨q, hq, rfl⟩ := List.mem_map.mp hz
                    obtain ⟨j, hj, rfl⟩ := List.mem_map.mp (pq.mem_iff.mp hq)
                    have := List.mem_range.mp hj
                    have hm : A.getD j 0 ∈ A := by
                      rw [List.getD_eq_getElem?_getD, List.getElem?_eq_getElem (by omega)]
                      exact List.getElem_mem _
                    have := bsz _ hm
                    simp only [Int.toNat_natCast]
                    omega
                  have eL : (qs.map fun q => D.int ((Bs H (A.getD q.toNat 0) + 3 * (H - 1 - i) : Nat) : Int)) = (qs.map fun q => ((Bs H (A.getD q.toNat 0) + 3 * (H - 1 - i) : Nat) : Int)).map D.int := by rw [List.map_map]; rfl
                  rw [aN, sN, eL]
                  refine ⟨_, ⟨zs, z1, rfl⟩, _, ⟨zs, z1, rfl⟩, z3, z3, ?_⟩
                  rw [z5]
                  exact h1 _ _ ⟨rfl, by simp [e0]⟩
            obtain ⟨rfl, rfl⟩ := hI
            simp [e0]
            refine ⟨by rw [sizeLine_eq]; omega, ?_⟩
            refine wLc_mapA (fun s => D.int ((Bs H s + 3 * (H - 1 - i) + 1 : Nat) : Int)) cm (fun s hs kt hkt => ?_) ?_
            · simp [cm]
              simpa using hkt
            · refine ⟨by rw [sizeLine_eq]; omega, ?_⟩
              refine ih _ _ ⟨dn ++ [D.tup (qs.map D.int)], rs', .dat (.int (i : Int)), .dat (.tup (qs.map D.int)), .dat (.lst (A.map cm)), v15, v16, v17, v18, by rw [eo]; simp, by rw [snoc_len, ei], rfl, ?_⟩
              have eR : (List.range (i + 1)).map (padR H m os) = (List.range i).map (padR H m os) ++ [D.lst (A.map fun s => D.int ((Bs H s + 3 * (H - 1 - i) + 1 : Nat) : Int))] := by rw [List.range_succ, List.map_append, List.map_cons, List.map_nil, pR]
              rw [snoc_len, ei, eR]
              simp [e0]
      obtain ⟨v9, v13, v14, v15, v16, v17, v18, rfl, rfl⟩ := hI
      have lz : atI ((List.range (H + 1)).map fun h => D.tup (stT H m os h)) (-1) = some (.tup (stT H m os H)) := by
        rw [List.range_succ, List.map_append]
        exact at_last
      obtain ⟨A, eA, Al, Am⟩ := isRow.nat (rowAt_is (m := m) (h := H) oo (by omega))
      have sH : stT H m os H = A.map fun s => D.int ((Bs H s : Nat) : Int) := by
        unfold stT
        rw [eA, List.map_map]
        refine List.map_congr_left fun s _ => ?_
        show D.int ((2 * H + s * (3 * H + 1) + 3 * (H - H) : Nat) : Int) = _
        rw [Nat.sub_self]
        rfl
      simp [e0, lz]
      refine ⟨by unfold stT; rw [eA, sizeLine_eq]; simp; omega, ?_⟩
      rw [sH] at hk ⊢
      refine wLc_mapA (fun _ => .bl true) _ (fun s hs kt hkt => ?_) ⟨_, bls_map (fun _ => true) _, ite_f (by simp) ⟨by rw [sizeLine_eq]; omega, ?_⟩⟩
      · obtain ⟨z, hz⟩ := FF.word s (Am s hs)
        simp [hb]
        walk_at "mtb"
        refine kind_of hB (i := Bs H s) hz ?_
        simp
        exact hkt
      · unfold lkT
        refine wLc_mapA (fun (i : Nat) => D.int (i : Int)) _ (fun i hi kt hkt => ?_) ?_
        · have il := List.mem_range.mp hi
          simp [hb]
          walk_at "mtb"
          refine parts_of hB (i := H + i) (FF.lock i il) ?_
          simp
          exact hkt
        · exact ⟨by decide, hk⟩
end
end Law
set_option Elab.async false
set_option linter.all false
set_option maxRecDepth 100000
set_option maxHeartbeats 8000000
namespace Law
open PySem PySem.Spec PyProof.Rows L2 Gl Dw
def toN : D → Nat
  | .int i => i.toNat
  | _ => 0
def rowN (m : Nat) (os : List D) (h : Nat) : List Nat := (rowAt m os h).map toN
theorem rowN_eq {m h : Nat} {os : List D} (ho : ∀ o ∈ os, isPerm m o) (hh : h ≤ os.length) : rowAt m os h = (rowN m os h).map (fun (s : Nat) => D.int (s : Int)) ∧ (rowN m os h).length = m ∧ (∀ s ∈ rowN m os h, s < m) ∧ (rowN m os h).Nodup ∧ ∀ s, s < m → s ∈ rowN m os h := by
  obtain ⟨ps, e, pm⟩ := rowAt_is (m := m) (h := h) ho hh
  have hp : ∀ q ∈ ps, 0 ≤ q ∧ q < (m : Int) := fun q hq => by
    obtain ⟨i, hi, rfl⟩ := List.mem_map.mp (pm.mem_iff.mp hq)
    have := List.mem_range.mp hi
    omega
  have e2 : rowN m os h = ps.map Int.toNat := by
    unfold rowN
    rw [e, List.map_map]
    rfl
  have pN : (rowN m os h).Perm (List.range m) := by
    rw [e2]
    refine (pm.map Int.toNat).trans ?_
    rw [List.map_map]
    have : (Int.toNat ∘ fun (i : Nat) => (i : Int)) = id := by funext i; simp
    rw [this, List.map_id]
  refine ⟨?_, by rw [pN.length_eq]; simp, fun s hs => List.mem_range.mp (pN.mem_iff.mp hs), pN.nodup_iff.mpr List.nodup_range, fun s hs => pN.mem_iff.mpr (List.mem_range.mpr hs)⟩
  rw [e, e2, List.map_map]
  refine List.map_congr_left fun q hq => ?_
  have := hp q hq
  simp
  omega
def kyI (H : Nat) : List Int := (List.range H).map fun (i : Nat) => (i : Int)
def wdI (H m : Nat) (os : List D) : List Int := (rowN m os H).map fun s => ((Bs H s : Nat) : Int)
def pdI (H m : Nat) (os : List D) (h : Nat) : List Int := (rowN m os h).map fun s => ((Bs H s + 3 * (H - 1 - h) + 1 : Nat) : Int)
theorem kyT_I (H : Nat) : kyT H = (kyI H).map D.int := by unfold kyT kyI; rw [List.map_map]; rfl
theorem stT_I {m : Nat} {os : List D} (ho : ∀ o ∈ os, isPerm m o) : stT os.length m os os.length = (wdI os.length m os).map D.int := by
  unfold stT wdI
  rw [(rowN_eq ho (Nat.le_refl _)).1, List.map_map, List.map_map]
  refine List.map_congr_left fun s _ => ?_
  show D.int ((2 * os.length + s * (3 * os.length + 1) + 3 * (os.length - os.length) : Nat) : Int) = _
  rw [Nat.sub_self]
  rfl
theorem padR_I {m h : Nat} {os : List D} (ho : ∀ o ∈ os, isPerm m o) (hh : h ≤ os.length) : padR os.length m os h = .lst ((pdI os.length m os h).map D.int) := by
  unfold padR pdI
  rw [(rowN_eq ho hh).1, List.map_map, List.map_map]
  rfl
def everyI (H m : Nat) (os : List D) (L : List Nat) : List Int := kyI H ++ wdI H m os ++ L.flatMap (pdI H m os)
theorem nodup_map {α β : Type} {f : α → β} {l : List α} (h : l.Nodup) (hf : ∀ a b, f a = f b → a = b) : (l.map f).Nodup := by
  unfold List.Nodup at *
  rw [List.pairwise_map]
  exact h.imp fun n e => n (hf _ _ e)
theorem every_nodup {m : Nat} {os : List D} (ho : ∀ o ∈ os, isPerm m o) : ∀ L : List Nat, L.Nodup → (∀ h ∈ L, h < os.length) → (everyI os.length m os L).Nodup := fun L hL hb => by
  have pd : ∀ h, h < os.length → (pdI os.length m os h).Nodup := fun h hh => nodup_map (rowN_eq ho (by omega)).2.2.2.1 fun a b e => (bs_uniq (H := os.length) (r := 3 * (os.length - 1 - h) + 1) (r' := 3 * (os.length - 1 - h) + 1) (by omega) (by omega) (by omega)).1
  have fm : ∀ L : List Nat, L.Nodup → (∀ h ∈ L, h < os.length) → (L.flatMap (pdI os.length m os)).Nodup := by
    intro L
    induction L with
    | nil => intro _ _; simp
    | cons h r ih =>
      intro hn hb
      rw [List.flatMap_cons, List.nodup_append]
      refine ⟨pd h (hb h (by simp)), ih (List.nodup_cons.mp hn).2 fun z hz => hb z (by simp [hz]), fun x hx y hy e => ?_⟩
      obtain ⟨s, _, rfl⟩ := List.mem_map.mp hx
      obtain ⟨h', hm, hy⟩ := List.mem_flatMap.mp hy
      obtain ⟨s', _, rfl⟩ := List.mem_map.mp hy
      have b1 := hb h (by simp)
      have b2 := hb h' (by simp [hm])
      have := (bs_uniq (H := os.length) (s := s) (s' := s') (r := 3 * (os.length - 1 - h) + 1) (r' := 3 * (os.length - 1 - h') + 1) (by omega) (by omega) (by omega)).2
      have : h = h' := by omega
      subst this
      exact (List.nodup_cons.mp hn).1 hm
  unfold everyI
  rw [List.nodup_append, List.nodup_append]
  refine ⟨⟨nodup_map List.nodup_range fun a b e => by omega, nodup_map (rowN_eq ho (Nat.le_refl _)).2.2.2.1 fun a b e => (bs_uniq (H := os.length) (r := 0) (r' := 0) (by omega) (by omega) (by omega)).1, fun x hx y hy e => ?_⟩, fm L hL hb, fun x hx y hy e => ?_⟩
  · obtain ⟨i, hi, rfl⟩ := List.mem_map.mp hx
    obtain ⟨s, _, rfl⟩ := List.mem_map.mp hy
    have := List.mem_range.mp hi
    have := @bs_ge os.length s
    omega
  · obtain ⟨h', hm, hy⟩ := List.mem_flatMap.mp hy
    obtain ⟨s', _, rfl⟩ := List.mem_map.mp hy
    have b2 := hb h' hm
    rcases List.mem_append.mp hx with hx | hx
    · obtain ⟨i, hi, rfl⟩ := List.mem_map.mp hx
      have := List.mem_range.mp hi
      have := @bs_ge os.length s'
      omega
    · obtain ⟨s, _, rfl⟩ := List.mem_map.mp hx
      have := (bs_uniq (H := os.length) (s := s) (s' := s') (r := 0) (r' := 3 * (os.length - 1 - h') + 1) (by omega) (by omega) (by omega)).2
      omega
theorem every_len {m : Nat} {os : List D} (ho : ∀ o ∈ os, isPerm m o) : ∀ L : List Nat, (∀ h ∈ L, h < os.length) → (everyI os.length m os L).length = os.length + m + L.length * m := fun L hb => by
  have fm : ∀ L : List Nat, (∀ h ∈ L, h < os.length) → (L.flatMap (pdI os.length m os)).length = L.length * m := by
    intro L
    induction L with
    | nil => intro _; simp
    | cons h r ih =>
      intro hb
      rw [List.flatMap_cons, List.length_append, ih fun z hz => hb z (by simp [hz]), List.length_cons, Nat.add_mul]
      unfold pdI
      have := hb h (by simp)
      rw [List.length_map, (rowN_eq ho (by omega)).2.1]
      omega
  unfold everyI
  rw [List.length_append, List.length_append, fm L hb]
  unfold kyI wdI
  rw [List.length_map, List.length_map, (rowN_eq ho (Nat.le_refl _)).2.1]
  simp
theorem met_ints {E : List Int} (h : E.Nodup) : ((Sk.met (E.map fun i => (Sum.inl i : Key)) E.length).length) = E.length := by
  have := (Sk.met_nodup (E.map fun i => (Sum.inl i : Key)) []).mpr ⟨nodup_map h fun a b e => Sum.inl.inj e, fun k _ => by simp⟩
  unfold Sk.met
  rw [List.take_of_length_le (by simp)]
  simpa using this
theorem keys_ints : ∀ E : List Int, D.keys (E.map D.int) = some (E.map fun i => (Sum.inl i : Key))
  | [] => rfl
  | i :: r => by
    rw [List.map_cons]
    simp [D.keys, keys_ints r]
/-- had at the end: just the stolen hops' keys and pads, and all words -/
theorem had_pad {H m N : Nat} {ps : List Int} {kvs : List (Key × D)} (h : HadOk H m ps N kvs) (hp : ∀ s j, s < m → j < H → ((H - 1 - j : Nat) : Int) ∈ ps → hasK kvs (.inl ((Bs H s + 3 * j + 1 : Nat) : Int)) = true) {s k : Nat} (hs : s < m) (hk : k < H) :
    hasK kvs (.inl ((Bs H s + 3 * (H - 1 - k) + 1 : Nat) : Int)) = decide ((k : Int) ∈ ps) := by
  by_cases q : (k : Int) ∈ ps
  · rw [hp s (H - 1 - k) hs (by omega) (by rw [show H - 1 - (H - 1 - k) = k by omega]; exact q)]
    simp [q]
  · cases e : hasK kvs (.inl ((Bs H s + 3 * (H - 1 - k) + 1 : Nat) : Int)) with
    | false => simp [q]
    | true =>
      have g := @bs_ge H s
      rcases h.b _ e with (⟨i, h1, h2⟩ | ⟨i, h1, h3, h2⟩ | ⟨s', j, h1, h2, h3⟩) | ⟨s', j, h1, h2, h3, h4⟩
      · omega
      · omega
      · have := (bs_uniq (H := H) (s := s) (s' := s') (r := 3 * (H - 1 - k) + 1) (r' := 3 * j) (by omega) (by omega) (by omega)).2
        omega
      · rcases h4 with h4 | h4
        · have := (bs_uniq (H := H) (s := s) (s' := s') (r := 3 * (H - 1 - k) + 1) (r' := 3 * j + 1) (by omega) (by omega) (by omega)).2
          rw [show H - 1 - j = k by omega] at h3
          exact absurd h3 q
        · have := (bs_uniq (H := H) (s := s) (s' := s') (r := 3 * (H - 1 - k) + 1) (r' := 3 * j + 2) (by omega) (by omega) (by omega)).2
          omega
end Law
set_option Elab.async false
set_option linter.all false
set_option maxRecDepth 100000
set_option maxHeartbeats 8000000
namespace Law
open PySem PySem.Spec PyProof.Rows L2 Gl Dw
local macro_rules | `(tactic| walk_at "sc") => `(tactic| first
  | exact True.intro
  | (show _ ≤ sizeLine; decide +kernel))
local macro_rules | `(tactic| walk_at "sim") => `(tactic| first
  | ((with_reducible apply ss_seq) <;> walk_at "sim")
  | with_reducible exact ss_next
  | ((with_reducible apply ss_raise) <;> walk_at "sim")
  | with_reducible exact ss_raise0
  | ((with_reducible apply ss_try); walk_at "sim"; (intro _; walk_at "sim"); walk_at "sim")
  | ((with_reducible apply loc_if) <;> walk_at "sim")
  | with_reducible exact loc_asgDf
  | with_reducible exact loc_asgMk
  | ((with_reducible apply loc_seq) <;> walk_at "sim")
  | with_reducible exact loc_const
  | with_reducible exact SimHs.nil
  | ((with_reducible apply SimHs.cons); (intro _ _ _ _ _ _; walk_at "sim"); walk_at "sim")
  | with_reducible exact ss_brk
  | with_reducible exact ss_cont
  | with_reducible exact ss_retN
  | ((with_reducible apply ss_ret) <;> walk_at "sim")
  | ((with_reducible apply ss_if) <;> walk_at "sim")
  | ((with_reducible apply ss_asgO); (with_reducible assumption); walk_at "sim")
  | ((with_reducible apply ss_nput) <;> walk_at "sim")
  | ((with_reducible apply ss_setM) <;> walk_at "sim")
  | ((with_reducible apply ss_setL) <;> walk_at "sim")
  | ((with_reducible apply ss_pop) <;> walk_at "sim")
  | ((with_reducible apply ss_popAt) <;> walk_at "sim")
  | ((with_reducible apply ss_asgTEF); (with_reducible assumption); walk_at "sim"; walk_at "sim")
  | ((with_reducible apply ss_asg) <;> walk_at "sim")
  | ((with_reducible apply ss_parEF); (with_reducible assumption); walk_at "sim"; walk_at "sim")
  | ((with_reducible apply ss_par) <;> walk_at "sim")
  | ((with_reducible apply ss_par3) <;> walk_at "sim")
  | ((with_reducible apply ss_aug) <;> walk_at "sim")
  | ((with_reducible apply ss_app) <;> walk_at "sim")
  | ((with_reducible apply ss_appM) <;> walk_at "sim")
  | ((with_reducible apply ss_ins) <;> walk_at "sim")
  | ((with_reducible apply si_rev) <;> walk_at "sim")
  | ((with_reducible apply ss_ext) <;> walk_at "sim")
  | ((with_reducible apply ss_extX) <;> walk_at "sim")
  | ((with_reducible apply ss_updM) <;> walk_at "sim")
  | ((with_reducible apply ss_drop) <;> walk_at "sim")
  | ((with_reducible apply ss_for) <;> walk_at "sim")
  | ((with_reducible apply ss_while) <;> walk_at "sim")
  | with_reducible exact tg_name
  | ((with_reducible apply tg_tup) <;> walk_at "sim")
  | ((with_reducible apply tgs_cons) <;> walk_at "sim")
  | with_reducible exact tgs_nil
  | with_reducible exact sim_bgetE
  | ((with_reducible apply sim_tupRev) <;> walk_at "sim")
  | with_reducible exact sim_bget
  | ((with_reducible apply ss_bput) <;> walk_at "sim")
  | ((with_reducible apply ss_baug) <;> walk_at "sim")
  | ((with_reducible apply sim_nnotin) <;> walk_at "sim")
  | ((with_reducible apply sim_nget) <;> walk_at "sim")
  | ((with_reducible apply ss_nput) <;> walk_at "sim")
  | ((with_reducible apply ss_faugMT (by assumption) (by assumption)) <;> walk_at "sim")
  | ((with_reducible apply sim_fldMT (by assumption) (by assumption)) <;> walk_at "sim")
  | ((with_reducible apply sim_mtM) <;> walk_at "sim")
  | ((with_reducible apply sim_mtM0) <;> walk_at "sim")
  | with_reducible exact sim_newBk
  | with_reducible exact so_ixB
  | with_reducible exact so_ixM
  | with_reducible exact so_raddR
  | with_reducible exact so_rsubR
  | with_reducible exact sc_lenM
  | with_reducible exact sc_sortX
  | with_reducible exact sc_lenB
  | with_reducible exact so_radd
  | with_reducible exact so_rsub
  | with_reducible exact sim_newD
  | ((with_reducible apply sim_listR) <;> walk_at "sim")
  | ((with_reducible apply sim_lstR) <;> walk_at "sim")
  | ((with_reducible apply sim_popAtM) <;> walk_at "sim")
  | with_reducible exact sc_tupM
  | ((with_reducible apply sim_getM) <;> walk_at "sim")
  | ((with_reducible apply sim_inM) <;> walk_at "sim")
  | ((with_reducible apply sim_notInM) <;> walk_at "sim")
  | ((with_reducible apply ss_putM) <;> walk_at "sim")
  | with_reducible exact sc_dictP
  | with_reducible exact sc_lenY
  | with_reducible exact sc_sortY
  | ((with_reducible apply sim_dgetT) <;> walk_at "sim")
  | ((with_reducible apply sim_dinT) <;> walk_at "sim")
  | ((with_reducible apply sim_dnotInT) <;> walk_at "sim")
  | ((with_reducible apply sim_mt0) <;> walk_at "sim")
  | ((with_reducible apply sim_dcE) <;> walk_at "sim")
  | ((with_reducible apply si_enumT) <;> walk_at "sim")
  | with_reducible exact sc_sortI
  | with_reducible exact sim_var
  | with_reducible exact sim_varG
  | with_reducible exact sim_nil
  | with_reducible exact sim_nilB
  | ((with_reducible apply sim_cons) <;> walk_at "sim")
  | ((with_reducible apply sim_consB) <;> walk_at "sim")
  | ((with_reducible apply sim_c); walk_at "sc")
  | ((with_reducible apply sim_op) <;> walk_at "sim")
  | ((with_reducible apply sim_un) <;> walk_at "sim")
  | ((with_reducible apply sim_isG); (with_reducible assumption); walk_at "sim")
  | ((with_reducible apply sim_cb) <;> walk_at "sim")
  | ((with_reducible apply sim_tup) <;> walk_at "sim")
  | ((with_reducible apply sim_lst) <;> walk_at "sim")
  | ((with_reducible apply sim_lstF) <;> walk_at "sim")
  | ((with_reducible apply sim_call) <;> walk_at "sim")
  | ((with_reducible apply sim_callN) <;> walk_at "sim")
  | ((with_reducible apply sim_sl) <;> walk_at "sim")
  | with_reducible exact sp_no
  | ((with_reducible apply sp_part) <;> walk_at "sim")
  | ((with_reducible apply sim_test) <;> walk_at "sim")
  | ((with_reducible apply sim_tB) <;> walk_at "sim")
  | ((with_reducible apply sim_and) <;> walk_at "sim")
  | ((with_reducible apply sim_or) <;> walk_at "sim")
  | ((with_reducible apply sim_not) <;> walk_at "sim")
  | with_reducible exact sim_yes
  | ((with_reducible apply sim_andV) <;> walk_at "sim")
  | ((with_reducible apply sim_orV) <;> walk_at "sim")
  | ((with_reducible apply sim_notV) <;> walk_at "sim")
  | ((with_reducible apply sim_if) <;> walk_at "sim")
  | ((with_reducible apply sim_chain) <;> walk_at "sim")
  | ((with_reducible apply sim_lcF) <;> walk_at "sim")
  | ((with_reducible apply sim_lcE) <;> walk_at "sim")
  | ((with_reducible apply sim_lstRgF) <;> walk_at "sim")
  | ((with_reducible apply sim_lstRg) <;> walk_at "sim")
  | ((with_reducible apply sim_tupRg) <;> walk_at "sim")
  | ((with_reducible apply sim_rg1) <;> walk_at "sim")
  | ((with_reducible apply sim_rg2) <;> walk_at "sim")
  | ((with_reducible apply sim_listF) <;> walk_at "sim")
  | ((with_reducible apply sim_addF) <;> walk_at "sim")
  | ((with_reducible apply sim_join) <;> walk_at "sim")
  | ((with_reducible apply sim_lenSetS) <;> walk_at "sim")
  | ((with_reducible apply sim_fldT); (with_reducible assumption); (with_reducible assumption); walk_at "sim")
  | ((with_reducible apply sim_mk) <;> walk_at "sim")
  | ((with_reducible apply sim_mkN) <;> walk_at "sim")
  | ((with_reducible apply sim_xf); (with_reducible assumption))
  | with_reducible exact so_eqO
  | ((with_reducible apply si_x) <;> walk_at "sim")
  | ((with_reducible apply si_tup) <;> walk_at "sim")
  | ((with_reducible apply si_list) <;> walk_at "sim")
  | ((with_reducible apply si_str) <;> walk_at "sim")
  | ((with_reducible apply si_rng1) <;> walk_at "sim")
  | ((with_reducible apply si_rng2) <;> walk_at "sim")
  | ((with_reducible apply si_enum) <;> walk_at "sim")
  | ((with_reducible apply si_zip) <;> walk_at "sim")
  | with_reducible exact so_addX
  | with_reducible exact so_mulX
  | with_reducible exact so_divX
  | with_reducible exact so_eqX
  | with_reducible exact so_neX
  | with_reducible exact so_inX
  | with_reducible exact so_notInX
  | with_reducible exact so_ltX
  | with_reducible exact so_gtX
  | with_reducible exact so_geX
  | with_reducible exact so_leX
  | ((with_reducible apply so_i0s); (intros; exact True.intro))
  | ((with_reducible apply so_iCs); (intros; exact True.intro))
  | ((with_reducible apply su_is); (intros; exact True.intro))
  | with_reducible exact so_eq
  | with_reducible exact so_ne
  | with_reducible exact so_isN
  | with_reducible exact so_notN
  | with_reducible exact so_isB
  | with_reducible exact so_notB
  | with_reducible exact so_ixL
  | with_reducible exact so_ixT
  | with_reducible exact so_ixS
  | with_reducible exact so_ix
  | with_reducible exact so_in
  | with_reducible exact so_str
  | with_reducible exact so_inS
  | with_reducible exact so_notInS
  | with_reducible exact so_catT
  | with_reducible exact so_catL
  | with_reducible exact so_addS
  | with_reducible exact so_mulS
  | with_reducible exact so_repT
  | with_reducible exact so_eqD
  | with_reducible exact so_neD
  | with_reducible exact so_inD
  | with_reducible exact so_notInD
  | with_reducible exact so_leT
  | with_reducible exact sc_len
  | with_reducible exact sc_int
  | with_reducible exact sc_abs
  | with_reducible exact sc_str
  | with_reducible exact sc_mm
  | with_reducible exact sc_list
  | with_reducible exact sc_tuple
  | with_reducible exact sc_sum
  | with_reducible exact sc_all
  | with_reducible exact sc_any
  | with_reducible exact sc_isi
  | with_reducible exact sc_isiT
  | with_reducible exact sc_repr
  | with_reducible exact sl_x
  | with_reducible exact sl_t
  | with_reducible exact sl_l
  | with_reducible exact sl_s
  | ((with_reducible apply SimE.g); walk_at "sim")
  | (intros; decide)
  | skip)

def spLaw (K : PySem.W.Frag) : Sp := fun vs H Q _ => ∃ (a : Addr) (ns : List Int), vs = [.ref a] ∧ ns.length ≤ 1000 ∧ SqL K H a (ns.map V.int) ∧ ∀ H', Q (.bl true) H'
local macro_rules | `(tactic| walk_at "mtb") => `(tactic| first
  | refine ⟨noM (by decide), ?_⟩
  | refine ⟨rfl, noM (by decide), ?_⟩)
def wfSize (P : Program) (w : World) (C : Addr) : WF Rg := fun ds s k _ => match ds with
  | [.opq b] => ∃ r p recs n, BkAt P w C b r p recs n s ∧ k (.int recs.length) s
  | _ => False
/-- how things stand while the law asks what can be made -/
def LSt (P : Program) (w : World) (C a c b r p hd cb : Addr) (recs : List D) (n : Int) (kvs : List (Key × D)) (t : Rg) : Prop := ∃ cs, BkAt P w C b r p recs n t ∧ t hd = some (.dic kvs) ∧ t cb = some (.dic cs) ∧ CsOk recs.length cs ∧ HoR a c t
theorem LSt.kb {P : Program} {w : World} {C a c b r p hd cb : Addr} {recs : List D} {n : Int} {kvs cs : List (Key × D)} {t u : Rg} (h : LSt P w C a c b r p hd cb recs n kvs t) (ne : hd ≠ cb) (k : Kb cb t u) (e : u cb = some (.dic cs)) (co : CsOk recs.length cs) : LSt P w C a c b r p hd cb recs n kvs u := by
  obtain ⟨cs0, ⟨dx, xs, h1, h2, h3, h4⟩, e1, e2, co0, cells, p', r', m', n', g1, g2, g3⟩ := h
  have off : ∀ {x : Addr} {o : Mo}, t x = some o → (∀ cs, o ≠ .dic cs) → u x = some o := fun {x o} hx hn => k.at (fun z => by rw [z, e2] at hx; cases hx; exact hn _ rfl) hx
  exact ⟨cs, ⟨dx, xs, off h1 (fun _ z => by cases z), off h2 (fun _ z => by cases z), off h3 (fun _ z => by cases z), h4⟩, k.at ne e1, e, co, cells, p', r', m', n', off g1 (fun _ z => by cases z), off g2 (fun _ z => by cases z), g3⟩
abbrev s_law : Stmt := top 45
abbrev N_law : List Str := ["script", "hand", "turn", "many", "orders", "stolen", "book", "frame", "told", "keys", "pads", "words", "every", "some", "had", "can_be", "word", "hop", "key", "pad", "first"]
theorem sc_law : FnScope N_law ["script"] (defScope s_law) := ⟨rfl, rfl, rfl, by decide +kernel, rfl, by decide +kernel, by decide +kernel⟩
section
variable {P : Program} {w : World} {K : PySem.W.Frag} {mg : Str → Option Value} {base : Heap} {CB : Addr}
theorem ok_law (T : Tx P w K mg) (f__law_hand : Df P w K mg base 1 "_law_hand" (spHandR K)) (f__law_mix : Df P w K mg base 3 "_law_mix" (spX RW wfMix)) (f_mix_frame : Df P w K mg base 7 "mix_frame" (spX RW (wfFramed P w CB)))
    (f__law_frame_right : Df P w K mg base 7 "_law_frame_right" (spX RW (wfFrR P w CB))) (f__law_opened : Df P w K mg base 8 "_law_opened" (spX RW (wfOpened P w CB))) (f__law_made : Df P w K mg base 6 "_law_made" (spX RW (wfMade P w CB)))
    (q_Book_parts : Cf P w K mg base 5 CB "parts" (spX RW (wfOf P w CB fun _ y => y))) (q_Book_size : Cf P w K mg base 1 CB "size" (spX RW (wfSize P w CB)))
    {f : Addr} {fd : FuncData} (F : FD K "law" s_law f fd) : Fn P w K mg base 9 f fd ["script"] (spLaw K) := by
  refine fn_body F sc_law (fun vs H Q E h => ?_) (fun cv A outer s H vs Q E hr gd h => ?_)
  · obtain ⟨a, ns, rfl, _⟩ := h
    rfl
  · obtain ⟨a0, ns, rfl, hl, hS, hQ⟩ := h
    refine ⟨_, (pss_cons (ps_set (i := 1) sc_law.nd rfl (Or.inl rfl) (pe_df f__law_hand hr (by omega) gd rfl (fun σ => Gl.no_pass σ) (pa_cons (pv 0) pa_nil)))
    (pss_cons (ps_for (passes_of rfl) rfl (pi_range1 rfl T.range (pa_cons pe_int pa_nil)) (pg_name (i := 2) sc_law.nd rfl (Or.inl rfl))
      (pss_cons (ps_asg (pe_df f__law_mix hr (by omega) gd rfl (fun σ => Gl.no_pass σ) (pa_cons (pv 1) pa_nil)) (kTup (K := K) (n := 3) rfl (pgs_cons (pg_name (i := 3) sc_law.nd rfl (Or.inl rfl)) (pgs_cons (pg_name (i := 4) sc_law.nd rfl (Or.inl rfl)) (pgs_cons (pg_name (i := 5) sc_law.nd rfl (Or.inr rfl)) pgs_nil)))))
    (pss_cons (ps_asg (pe_df f_mix_frame hr (by omega) gd rfl (fun σ => Gl.no_pass σ) (pa_cons (pv 3) (pa_cons (pv 4) (pa_cons (pv 5) pa_nil)))) (kTup (K := K) (n := 2) rfl (pgs_cons (pg_name (i := 6) sc_law.nd rfl (Or.inr rfl)) (pgs_cons (pg_name (i := 7) sc_law.nd rfl (Or.inl rfl)) pgs_nil))))
    (pss_cons (ps_set (i := 8) sc_law.nd rfl (Or.inl rfl) (pe_df f__law_frame_right hr (by omega) gd rfl (fun σ => Gl.no_pass σ) (pa_cons (pv 6) (pa_cons (pv 7) (pa_cons (pv 3) (pa_cons (pv 4) (pa_cons (pv 5) pa_nil)))))))
    (pss_cons (ps_if (pt_cmpR op_isN1 (pv 8) pe_non (nomark _)) (pss_one (ps_ret pe_bl)) pss_nil)
    (pss_cons (ps_asg (pv 8) (kTup (K := K) (n := 3) rfl (pgs_cons (pg_name (i := 9) sc_law.nd rfl (Or.inl rfl)) (pgs_cons (pg_name (i := 10) sc_law.nd rfl (Or.inl rfl)) (pgs_cons (pg_name (i := 11) sc_law.nd rfl (Or.inl rfl)) pgs_nil)))))
    (pss_cons (ps_set (i := 12) sc_law.nd rfl (Or.inl rfl) (pe_op (kAdd (K := K)) (pv 9) (pv 11)))
    (pss_cons (ps_for (passes_of rfl) rfl (kpi (K := K) (pv 10)) (pg_name (i := 13) sc_law.nd rfl (Or.inl rfl))
      (pss_one (ps_set (i := 12) sc_law.nd rfl (Or.inl rfl) (pe_op (kAdd (K := K)) (pv 12) (pv 13)))))
    (pss_cons (ps_if (pt_cmpR (kNe (K := K) hr) (Sk.pe_lenSetK (by rfl) T.len (by rfl) T.set (pv 12)) (pe_callB (kLen (K := K)) (by rfl) T.len (by decide +kernel) (pa_cons (pv 12) pa_nil)) (nomark _)) (pss_one (ps_ret pe_bl)) pss_nil)
    (pss_cons (ps_asg (pe_tup (pa_cons (pe_df f__law_opened hr (by omega) gd rfl (fun σ => Gl.no_pass σ) (pa_cons (pv 6) (pa_cons (pv 7) pa_nil))) (pa_cons pe_dnewK pa_nil))) (kTup (K := K) (n := 2) rfl (pgs_cons (pg_name (i := 14) sc_law.nd rfl (Or.inr rfl)) (pgs_cons (pg_name (i := 15) sc_law.nd rfl (Or.inr rfl)) pgs_nil))))
    (pss_cons (ps_if (pt_not (pt_val (pe_callB (kAll (K := K) rfl) (by rfl) T.all (by decide +kernel) (pa_cons (pe_lc (own := [("word", 16)]) (g := gName 16) (by rfl) sc_law.nd (kpi (K := K) (pv 11)) (blkOk_by (own := [("word", 16)]) (N := N_law) (sc := defScope s_law) (by decide +kernel)) (fun _ _ _ _ _ => pg_name (i := 16) sc_law.nd rfl (Or.inl rfl)) (fun _ _ _ _ _ => pts_nil) (fun _ _ _ _ _ => (pe_df f__law_made hr (by omega) gd rfl (fun σ => Gl.no_pass σ) (pa_cons (pv 6) (pa_cons (pv 14) (pa_cons (pv 15) (pa_cons (pv 16) pa_nil))))))) pa_nil)))) (pss_one (ps_ret pe_bl)) pss_nil)
    (pss_cons (ps_for (passes_of rfl) rfl (pi_enum rfl T.enumerate (pa_cons (pv 9) pa_nil)) (kTup (K := K) (n := 2) rfl (pgs_cons (pg_name (i := 17) sc_law.nd rfl (Or.inr rfl)) (pgs_cons (pg_name (i := 18) sc_law.nd rfl (Or.inl rfl)) pgs_nil)))
      (pss_cons (ps_if (pt_cmpR (kNe (K := K) hr) (pe_df f__law_made hr (by omega) gd rfl (fun σ => Gl.no_pass σ) (pa_cons (pv 6) (pa_cons (pv 14) (pa_cons (pv 15) (pa_cons (pv 18) pa_nil))))) (pe_cmpR (kIn (K := K) hr) (pv 17) (pv 5) rfl) (nomark _)) (pss_one (ps_ret pe_bl)) pss_nil)
    (pss_one (ps_if (pt_not (pt_val (pe_callB (kAll (K := K) rfl) (by rfl) T.all (by decide +kernel) (pa_cons (pe_lc (own := [("pad", 19)]) (g := gName 19) (by rfl) sc_law.nd (kpi (K := K) (pe_ix (kIx (K := K)) (pv 10) (pv 17) (fun _ _ => rfl))) (blkOk_by (own := [("pad", 19)]) (N := N_law) (sc := defScope s_law) (by decide +kernel)) (fun _ _ _ _ _ => pg_name (i := 19) sc_law.nd rfl (Or.inl rfl)) (fun _ _ _ _ _ => pts_nil) (fun _ _ _ _ _ => (pe_cmpR (kEq (K := K) hr) (pe_df f__law_made hr (by omega) gd rfl (fun σ => Gl.no_pass σ) (pa_cons (pv 6) (pa_cons (pv 14) (pa_cons (pv 15) (pa_cons (pv 19) pa_nil))))) (pe_cmpR (kIn (K := K) hr) (pv 17) (pv 5) rfl) (nomark _)))) pa_nil)))) (pss_one (ps_ret pe_bl)) pss_nil))))
    (pss_one (ps_if (pt_cmpR (kNe (K := K) hr) (pe_callB (kLen (K := K)) (by rfl) T.len (by decide +kernel) (pa_cons (pe_ix (kIx (K := K)) (pe_df f_mix_frame hr (by omega) gd rfl (fun σ => Gl.no_pass σ) (pa_cons (pv 3) (pa_cons (pv 4) (pa_cons (pv 5) pa_nil)))) pe_int (fun _ _ => rfl)) pa_nil)) (pe_callB (kLen (K := K)) (by rfl) T.len (by decide +kernel) (pa_cons (pv 7) pa_nil)) (nomark _)) (pss_one (ps_ret pe_bl)) pss_nil))))))))))))))
    (pss_cons (ps_asg (pe_df f_mix_frame hr (by omega) gd rfl (fun σ => Gl.no_pass σ) (pa_cons pe_int (pa_cons (pe_tup (pa_cons (pe_tup (pa_cons pe_int (pa_cons pe_int pa_nil))) pa_nil)) (pa_cons (pe_tup pa_nil) pa_nil)))) (kTup (K := K) (n := 2) rfl (pgs_cons (pg_name (i := 6) sc_law.nd rfl (Or.inr rfl)) (pgs_cons (pg_name (i := 7) sc_law.nd rfl (Or.inl rfl)) pgs_nil))))
    (pss_cons (ps_set (i := 20) sc_law.nd rfl (Or.inl rfl) (pe_ix (kIx (K := K)) (pe_mtA q_Book_parts hr (by omega) gd (fun σ => Gl.no_pass σ) (pv 6) (pa_cons (pe_ix (kIx (K := K)) (pe_mtA q_Book_parts hr (by omega) gd (fun σ => Gl.no_pass σ) (pv 6) (pa_cons (pe_ix (kIx (K := K)) (pv 7) pe_int (fun _ _ => rfl)) pa_nil)) pe_int (fun _ _ => rfl)) pa_nil)) pe_int (fun _ _ => rfl)))
    (pss_one (ps_ret (pe_and (pe_cmpR (kEq (K := K) hr) (pv 20) (pe_ix (kIx (K := K)) (pv 7) pe_int (fun _ _ => rfl)) (nomark _)) (pe_one (pe_cmpR op_geX (pe_mt0 q_Book_size hr (by omega) gd (fun σ => Gl.no_pass σ) (pv 6)) (pe_callB (kLen (K := K)) (by rfl) T.len (by decide +kernel) (pa_cons (pv 7) pa_nil)) (nomark _)))))))))), ?_⟩
    refine hand_startR hS (Nat.le_trans hl (by decide)) hQ (by decide) ?_
    apply bodyR
    · intro G
      walk_at "sim"
    intro a c s ho
    refine cut (fun env s => ∃ (v2 v3 v4 v5 v6 v7 v8 v9 v10 v11 v12 v13 v14 v15 v16 v17 v18 v19 v20 : Sl), HoR a c s ∧ env = [.dat (.opq a0), .dat (.opq a), v2, v3, v4, v5, v6, v7, v8, v9, v10, v11, v12, v13, v14, v15, v16, v17, v18, v19, v20]) (fun K1 h1 hrt _ => ?_) fun env s hI => ?_
    · simp [N_law]
      refine ⟨by rw [sizeLine_eq]; decide, ?_⟩
      refine wFor_ind (fun rest env s => ∃ (v2 v3 v4 v5 v6 v7 v8 v9 v10 v11 v12 v13 v14 v15 v16 v17 v18 v19 v20 : Sl), HoR a c s ∧ env = [.dat (.opq a0), .dat (.opq a), v2, v3, v4, v5, v6, v7, v8, v9, v10, v11, v12, v13, v14, v15, v16, v17, v18, v19, v20]) ⟨.no, .no, .no, .no, .no, .no, .no, .no, .no, .no, .no, .no, .no, .no, .no, .no, .no, .no, .no, ho, rfl⟩ (fun env s hp => h1 env s hp) fun d rest ih env s hp => ?_
      clear h1 ho
      obtain ⟨v2, v3, v4, v5, v6, v7, v8, v9, v10, v11, v12, v13, v14, v15, v16, v17, v18, v19, v20, ho, rfl⟩ := hp
      simp only [wName]
      -- the mix
      refine cut (fun env s => ∃ (m : Nat) (os : List D) (ps : List Int), Mix m os (.tup (ps.map D.int)) ∧ ps.length ≤ 4 ∧ (∀ p ∈ ps, 0 ≤ p ∧ p < (os.length : Int)) ∧ HoR a c s ∧ env = [.dat (.opq a0), .dat (.opq a), .dat d, .dat (.int (m : Int)), .dat (.tup os), .dat (.tup (ps.map D.int)), v6, v7, v8, v9, v10, v11, v12, v13, v14, v15, v16, v17, v18, v19, v20]) (fun K2 h2 _ _ => ?_) fun env s hI => ?_
      · simp
        refine ⟨c, ho, fun s' many os st ho' kb M => ?_⟩
        obtain ⟨ps, rfl, pw, hp⟩ := M.s
        have pl : ps.length ≤ 4 := by
          have := asc_len (lo := 0) (hi := (os.length : Int)) (by omega) pw hp
          have := M.h2
          omega
        simp
        exact h2 _ _ ⟨many, os, ps, M, pl, hp, ho', rfl⟩
      clear ho
      obtain ⟨m, os, ps, M, pl, hps, ho, rfl⟩ := hI
      obtain ⟨ts, ets, f1, f2, tl⟩ := frame_mem (H := os.length) (m := m) (os := os) (ps := ps) rfl M.o hps
      have mb : (os.length + 1) * m ≤ 5 * 6 := Nat.mul_le_mul (by have := M.h2; omega) M.m2
      have FF := onsR_frm os.length m
      have rl : (onsR os.length m).1.length ≤ 10000 := by
        have := FF.len
        have : m * (3 * os.length + 1) ≤ 6 * 13 := Nat.mul_le_mul M.m2 (by have := M.h2; omega)
        have := M.h2
        omega
      refine cut (fun env s => ∃ b r p, BkAt P w CB b r p (onsR os.length m).1 (onsR os.length m).2 s ∧ HoR a c s ∧ env = [.dat (.opq a0), .dat (.opq a), .dat d, .dat (.int (m : Int)), .dat (.tup os), .dat (.tup (ps.map D.int)), .dat (.opq b), .dat (.tup (ts.map D.int)), v8, v9, v10, v11, v12, v13, v14, v15, v16, v17, v18, v19, v20]) (fun K2 h2 _ _ => ?_) fun env s hI => ?_
      · simp
        refine ⟨m, rfl, M, fun b r p s' n1 n2 n3 hB off => ?_⟩
        rw [ets]
        simp
        refine h2 _ _ ⟨b, r, p, hB, ho.kp fun x hx => off x (fun z => hx (by rw [z]; exact n1)) (fun z => hx (by rw [z]; exact n2)) (fun z => hx (by rw [z]; exact n3)), rfl⟩
      clear ho
      obtain ⟨b, r, p, hB, ho, rfl⟩ := hI
      generalize eH : os.length = H at *
      refine cut (fun env t => t = s ∧ env = [.dat (.opq a0), .dat (.opq a), .dat d, .dat (.int (m : Int)), .dat (.tup os), .dat (.tup (ps.map D.int)), .dat (.opq b), .dat (.tup (ts.map D.int)), .dat (.tup [.lst (kyT H), .lst ((List.range H).map (padR H m os)), .lst (stT H m os H)]), v9, v10, v11, v12, v13, v14, v15, v16, v17, v18, v19, v20]) (fun K2 h2 _ _ => ?_) fun env t hI => ?_
      · simp
        exact ⟨r, p, _, _, m, hB, by rw [eH]; exact FF, rl, rfl, M, by rw [eH]; exact ets.symm, by rw [eH]; exact h2 _ _ ⟨rfl, rfl⟩⟩
      obtain ⟨rfl, rfl⟩ := hI
      refine cut (fun env s => s = t ∧ env = [.dat (.opq a0), .dat (.opq a), .dat d, .dat (.int (m : Int)), .dat (.tup os), .dat (.tup (ps.map D.int)), .dat (.opq b), .dat (.tup (ts.map D.int)), .dat (.tup [.lst (kyT H), .lst ((List.range H).map (padR H m os)), .lst (stT H m os H)]), v9, v10, v11, v12, v13, v14, v15, v16, v17, v18, v19, v20]) (fun K2 h2 _ _ => h2 _ _ ⟨rfl, rfl⟩) fun env s hI => ?_
      obtain ⟨rfl, rfl⟩ := hI
      refine cut (fun env t => t = s ∧ env = [.dat (.opq a0), .dat (.opq a), .dat d, .dat (.int (m : Int)), .dat (.tup os), .dat (.tup (ps.map D.int)), .dat (.opq b), .dat (.tup (ts.map D.int)), .dat (.tup [.lst (kyT H), .lst ((List.range H).map (padR H m os)), .lst (stT H m os H)]), .dat (.lst (kyT H)), .dat (.lst ((List.range H).map (padR H m os))), .dat (.lst (stT H m os H)), v12, v13, v14, v15, v16, v17, v18, v19, v20]) (fun K2 h2 _ _ => by simp; exact h2 _ _ ⟨rfl, rfl⟩) fun env t hI => ?_
      obtain ⟨rfl, rfl⟩ := hI
      have st := stT_I (m := m) (os := os) M.o
      rw [eH] at st
      refine cut (fun env s => s = t ∧ env = [.dat (.opq a0), .dat (.opq a), .dat d, .dat (.int (m : Int)), .dat (.tup os), .dat (.tup (ps.map D.int)), .dat (.opq b), .dat (.tup (ts.map D.int)), .dat (.tup [.lst (kyT H), .lst ((List.range H).map (padR H m os)), .lst (stT H m os H)]), .dat (.lst (kyT H)), .dat (.lst ((List.range H).map (padR H m os))), .dat (.lst (stT H m os H)), .dat (.lst ((everyI H m os []).map D.int)), v13, v14, v15, v16, v17, v18, v19, v20]) (fun K2 h2 _ _ => ?_) fun env s hI => ?_
      · simp
        refine ⟨by rw [kyT_I, st]; simp [kyI, wdI]; rw [← eH, (rowN_eq M.o (Nat.le_refl _)).2.1, sizeLine_eq]; have := M.m2; have := M.h2; omega, h2 _ _ ⟨rfl, ?_⟩⟩
        rw [st, kyT_I]
        simp [everyI]
      obtain ⟨rfl, rfl⟩ := hI
      refine cut (fun env t => ∃ v13, t = s ∧ env = [.dat (.opq a0), .dat (.opq a), .dat d, .dat (.int (m : Int)), .dat (.tup os), .dat (.tup (ps.map D.int)), .dat (.opq b), .dat (.tup (ts.map D.int)), .dat (.tup [.lst (kyT H), .lst ((List.range H).map (padR H m os)), .lst (stT H m os H)]), .dat (.lst (kyT H)), .dat (.lst ((List.range H).map (padR H m os))), .dat (.lst (stT H m os H)), .dat (.lst ((everyI H m os (List.range H)).map D.int)), v13, v14, v15, v16, v17, v18, v19, v20]) (fun K2 h2 _ _ => ?_) fun env t hI => ?_
      · simp
        refine wFor_ind (fun rest env t2 => ∃ (dn rs : List Nat) (v13 : Sl), List.range H = dn ++ rs ∧ rest = rs.map (padR H m os) ∧ t2 = s ∧ env = [.dat (.opq a0), .dat (.opq a), .dat d, .dat (.int (m : Int)), .dat (.tup os), .dat (.tup (ps.map D.int)), .dat (.opq b), .dat (.tup (ts.map D.int)), .dat (.tup [.lst (kyT H), .lst ((List.range H).map (padR H m os)), .lst (stT H m os H)]), .dat (.lst (kyT H)), .dat (.lst ((List.range H).map (padR H m os))), .dat (.lst (stT H m os H)), .dat (.lst ((everyI H m os dn).map D.int)), v13, v14, v15, v16, v17, v18, v19, v20]) (by exact ⟨[], List.range H, v13, rfl, rfl, rfl, rfl⟩) (fun env t2 hp => ?_) fun q rest ih2 env t2 hp => ?_
        · obtain ⟨dn, rs, v13, e1, e2, rfl, rfl⟩ := hp
          match rs, e2 with
          | [], _ =>
            rw [List.append_nil] at e1
            rw [← e1]
            exact h2 _ _ ⟨v13, rfl, rfl⟩
        · obtain ⟨dn, rs, v13, e1, e2, rfl, rfl⟩ := hp
          match rs, e2 with
          | h :: rs', e2 =>
            rw [List.map_cons] at e2
            obtain ⟨rfl, rfl⟩ := List.cons.inj e2
            have hb : ∀ z ∈ dn ++ h :: rs', z < H := fun z hz => by rw [← e1] at hz; exact List.mem_range.mp hz
            have hh := hb h (by simp)
            have pr := padR_I (m := m) (h := h) M.o (by omega)
            rw [eH] at pr
            have l1 := every_len (m := m) M.o (dn ++ [h]) (fun z hz => by rw [eH]; exact hb z (by simp at hz ⊢; rcases hz with hz | hz <;> simp [hz]))
            have ll := congrArg List.length e1
            simp at ll
            have lm : (dn ++ [h]).length * m ≤ 4 * 6 := Nat.mul_le_mul (by simp; have := M.h2; omega) M.m2
            have ee : everyI H m os (dn ++ [h]) = everyI H m os dn ++ pdI H m os h := by simp [everyI]
            rw [eH, ee] at l1
            simp [pr]
            refine ⟨by rw [List.length_append] at l1; rw [sizeLine_eq]; have := M.m2; have := M.h2; omega, ih2 _ _ ⟨dn ++ [h], rs', .dat (.lst ((pdI H m os h).map D.int)), by rw [e1]; simp, rfl, rfl, ?_⟩⟩
            rw [ee, List.map_append]
      obtain ⟨v13, rfl, rfl⟩ := hI
      have nd := every_nodup (m := m) M.o (List.range H) List.nodup_range fun h hh => by rw [eH]; exact List.mem_range.mp hh
      have l1 := every_len (m := m) M.o (List.range H) fun h hh => by rw [eH]; exact List.mem_range.mp hh
      rw [eH] at nd l1
      refine cut (fun env s => s = t ∧ env = [.dat (.opq a0), .dat (.opq a), .dat d, .dat (.int (m : Int)), .dat (.tup os), .dat (.tup (ps.map D.int)), .dat (.opq b), .dat (.tup (ts.map D.int)), .dat (.tup [.lst (kyT H), .lst ((List.range H).map (padR H m os)), .lst (stT H m os H)]), .dat (.lst (kyT H)), .dat (.lst ((List.range H).map (padR H m os))), .dat (.lst (stT H m os H)), .dat (.lst ((everyI H m os (List.range H)).map D.int)), v13, v14, v15, v16, v17, v18, v19, v20]) (fun K2 h2 _ _ => ?_) fun env s hI => ?_
      · simp
        refine ⟨_, keys_ints _, ?_, ?_⟩
        · simp at l1 ⊢
          have : H * m ≤ 4 * 6 := Nat.mul_le_mul (by have := M.h2; omega) M.m2
          have := M.m2
          have := M.h2
          omega
        · simp
          rw [met_ints nd]
          simp
          exact h2 _ _ ⟨rfl, rfl⟩
      obtain ⟨rfl, rfl⟩ := hI
      have hBk : BkAt P w CB b r p (onsR H m).1 (onsR H m).2 s := hB
      refine cut (fun env t => ∃ hd cb kvs, HadOk H m ps (onsR H m).1.length kvs ∧ (∀ s j, s < m → j < H → ((H - 1 - j : Nat) : Int) ∈ ps → hasK kvs (.inl ((Bs H s + 3 * j + 1 : Nat) : Int)) = true) ∧ hd ≠ cb ∧ LSt P w CB a c b r p hd cb (onsR H m).1 (onsR H m).2 kvs t ∧ env = [.dat (.opq a0), .dat (.opq a), .dat d, .dat (.int (m : Int)), .dat (.tup os), .dat (.tup (ps.map D.int)), .dat (.opq b), .dat (.tup (ts.map D.int)), .dat (.tup [.lst (kyT H), .lst ((List.range H).map (padR H m os)), .lst (stT H m os H)]), .dat (.lst (kyT H)), .dat (.lst ((List.range H).map (padR H m os))), .dat (.lst (stT H m os H)), .dat (.lst ((everyI H m os (List.range H)).map D.int)), v13, .dat (.opq hd), .dat (.opq cb), v16, v17, v18, v19, v20]) (fun K2 h2 _ _ => ?_) fun env t hI => ?_
      · simp
        refine ⟨r, p, _, _, H, m, ps, ts, hBk, FF, rl, rfl, by rw [tl]; have := M.h2; omega, f1, f2, fun s' hd kvs n1 kp e1 ho2 hpd cb hcb => ⟨by decide, ?_⟩⟩
        have ne : hd ≠ cb := fun z => by rw [z, hcb] at e1; cases e1
        refine h2 _ _ ⟨hd, cb, kvs, ho2, hpd, ne, ⟨[], (hBk.kp kp).kp (Kp.new hcb), by rw [rup_ne ne]; exact e1, rup_same, .nil, (ho.kp kp).kp (Kp.new hcb)⟩, rfl⟩
      obtain ⟨hd, cb, kvs, hok, hpd, ne, ls, rfl⟩ := hI
      have rn := rowN_eq (m := m) (h := H) M.o (by omega)
      refine cut (fun env t => LSt P w CB a c b r p hd cb (onsR H m).1 (onsR H m).2 kvs t ∧ env = [.dat (.opq a0), .dat (.opq a), .dat d, .dat (.int (m : Int)), .dat (.tup os), .dat (.tup (ps.map D.int)), .dat (.opq b), .dat (.tup (ts.map D.int)), .dat (.tup [.lst (kyT H), .lst ((List.range H).map (padR H m os)), .lst (stT H m os H)]), .dat (.lst (kyT H)), .dat (.lst ((List.range H).map (padR H m os))), .dat (.lst (stT H m os H)), .dat (.lst ((everyI H m os (List.range H)).map D.int)), v13, .dat (.opq hd), .dat (.opq cb), v16, v17, v18, v19, v20]) (fun K2 h2 _ _ => ?_) fun env t hI => ?_
      · simp
        rw [st]
        refine ⟨by unfold wdI; rw [List.length_map, List.length_map, rn.2.1, sizeLine_eq]; have := M.m2; omega, wLc_fold (fun done ys t => LSt P w CB a c b r p hd cb (onsR H m).1 (onsR H m).2 kvs t ∧ ys = done.map fun _ => .bl true) (fun done q rest ys t1 e0 i kt hkt => ?_) ⟨ls, rfl⟩ fun ys t1 i => ?_⟩
        · obtain ⟨ls, rfl⟩ := i
          have qm : q ∈ (wdI H m os).map D.int := by rw [e0]; simp
          obtain ⟨z, hz, rfl⟩ := List.mem_map.mp qm
          obtain ⟨s0, hs0, rfl⟩ := List.mem_map.mp hz
          have sm := rn.2.2.1 s0 hs0
          have bl := bs_lt FF sm
          have ls' := ls
          obtain ⟨cs, g1, g2, g3, g4, g5⟩ := ls'
          simp
          refine ⟨r, p, _, _, kvs, cs, g1, rl, g2, g3, ne, g4, by omega, by omega, fun _ => ?_, fun u cs' h1 h3 h4 => ?_⟩
          · obtain ⟨z, hz⟩ := FF.word s0 sm
            exact ⟨z, atI_nat hz⟩
          · rw [hok.a (Bs H s0) (.inr (.inr ⟨s0, 0, sm, by omega, rfl⟩))]
            exact hkt _ _ ⟨ls.kb ne h4 h1 h3, by simp⟩
        · obtain ⟨ls, rfl⟩ := i
          exact ⟨_, bls_map (fun _ => true) _, ite_f (by simp) (h2 _ _ ⟨ls, by rw [st]⟩)⟩
      clear ls
      obtain ⟨ls, rfl⟩ := hI
      refine cut (fun env t => ∃ v17 v18 v19, LSt P w CB a c b r p hd cb (onsR H m).1 (onsR H m).2 kvs t ∧ env = [.dat (.opq a0), .dat (.opq a), .dat d, .dat (.int (m : Int)), .dat (.tup os), .dat (.tup (ps.map D.int)), .dat (.opq b), .dat (.tup (ts.map D.int)), .dat (.tup [.lst (kyT H), .lst ((List.range H).map (padR H m os)), .lst (stT H m os H)]), .dat (.lst (kyT H)), .dat (.lst ((List.range H).map (padR H m os))), .dat (.lst (stT H m os H)), .dat (.lst ((everyI H m os (List.range H)).map D.int)), v13, .dat (.opq hd), .dat (.opq cb), v16, v17, v18, v19, v20]) (fun K2 h2 _ _ => ?_) fun env t hI => ?_
      · simp
        refine wFor_ind (fun rest env t => ∃ (dn rs : List Nat) (v17 v18 v19 : Sl), List.range H = dn ++ rs ∧ rest = enumD dn.length (rs.map fun (i : Nat) => D.int (i : Int)) ∧ LSt P w CB a c b r p hd cb (onsR H m).1 (onsR H m).2 kvs t ∧ env = [.dat (.opq a0), .dat (.opq a), .dat d, .dat (.int (m : Int)), .dat (.tup os), .dat (.tup (ps.map D.int)), .dat (.opq b), .dat (.tup (ts.map D.int)), .dat (.tup [.lst (kyT H), .lst ((List.range H).map (padR H m os)), .lst (stT H m os H)]), .dat (.lst (kyT H)), .dat (.lst ((List.range H).map (padR H m os))), .dat (.lst (stT H m os H)), .dat (.lst ((everyI H m os (List.range H)).map D.int)), v13, .dat (.opq hd), .dat (.opq cb), v16, v17, v18, v19, v20]) (by exact ⟨[], List.range H, v17, v18, v19, rfl, rfl, ls, rfl⟩) (fun env t hp => ?_) fun q rest ih2 env t hp => ?_
        · obtain ⟨dn, rs, v17, v18, v19, e1, e2, ls, rfl⟩ := hp
          match rs, e2 with
          | [], _ => exact h2 _ _ ⟨v17, v18, v19, ls, rfl⟩
        · clear ls
          obtain ⟨dn, rs, v17, v18, v19, e1, e2, ls, rfl⟩ := hp
          match rs, e2 with
          | k0 :: rs', e2 =>
            simp only [List.map_cons, enumD, List.cons.injEq] at e2
            obtain ⟨rfl, rfl⟩ := e2
            have kl : dn.length < H := by
              have := congrArg List.length e1
              simp at this
              omega
            have kk : k0 = dn.length := by
              have := congrArg (fun z : List Nat => z[dn.length]?) e1
              simp at this
              rw [List.getElem?_range kl] at this
              exact (Option.some.inj this).symm
            subst kk
            generalize ek : dn.length = k at *
            refine ⟨rfl, ?_⟩
            simp only [wGCons, wGNil, wName]
            refine cut (fun env t => LSt P w CB a c b r p hd cb (onsR H m).1 (onsR H m).2 kvs t ∧ env = [.dat (.opq a0), .dat (.opq a), .dat d, .dat (.int (m : Int)), .dat (.tup os), .dat (.tup (ps.map D.int)), .dat (.opq b), .dat (.tup (ts.map D.int)), .dat (.tup [.lst (kyT H), .lst ((List.range H).map (padR H m os)), .lst (stT H m os H)]), .dat (.lst (kyT H)), .dat (.lst ((List.range H).map (padR H m os))), .dat (.lst (stT H m os H)), .dat (.lst ((everyI H m os (List.range H)).map D.int)), v13, .dat (.opq hd), .dat (.opq cb), v16, .dat (.int (k : Int)), .dat (.int (k : Int)), v19, v20]) (fun K3 h3 _ _ => ?_) fun env t hI => ?_
            · have ls' := ls
              obtain ⟨cs, g1, g2, g3, g4, g5⟩ := ls'
              simp
              refine ⟨r, p, _, _, kvs, cs, g1, rl, g2, g3, ne, g4, by omega, by have := FF.len; omega, fun _ => ?_, fun u cs' h1 h3' h4 => ?_⟩
              · obtain ⟨z, hz⟩ := FF.key k kl
                exact ⟨z, atI_nat hz⟩
              · rw [hok.key k kl]
                refine ⟨flatIn_ints _ _, ?_⟩
                rw [inD_ints]
                simp
                exact h3 _ _ ⟨ls.kb ne h4 h1 h3', rfl⟩
            clear ls
            obtain ⟨ls, rfl⟩ := hI
            have pr := padR_I (m := m) (h := k) M.o (by omega)
            rw [eH] at pr
            have rk := rowN_eq (m := m) (h := k) M.o (by omega)
            have ap : atI ((List.range H).map (padR H m os)) (k : Int) = some (padR H m os k) := rng_ix kl
            refine last (fun env t => ∃ v19, LSt P w CB a c b r p hd cb (onsR H m).1 (onsR H m).2 kvs t ∧ env = [.dat (.opq a0), .dat (.opq a), .dat d, .dat (.int (m : Int)), .dat (.tup os), .dat (.tup (ps.map D.int)), .dat (.opq b), .dat (.tup (ts.map D.int)), .dat (.tup [.lst (kyT H), .lst ((List.range H).map (padR H m os)), .lst (stT H m os H)]), .dat (.lst (kyT H)), .dat (.lst ((List.range H).map (padR H m os))), .dat (.lst (stT H m os H)), .dat (.lst ((everyI H m os (List.range H)).map D.int)), v13, .dat (.opq hd), .dat (.opq cb), v16, .dat (.int (k : Int)), .dat (.int (k : Int)), v19, v20]) (fun K3 h3 _ _ => ?_) fun env t hI => ?_
            · simp [ap, pr]
              refine ⟨by unfold pdI; rw [List.length_map, rk.2.1, sizeLine_eq]; have := M.m2; omega, wLc_fold (fun done ys t => LSt P w CB a c b r p hd cb (onsR H m).1 (onsR H m).2 kvs t ∧ ys = done.map fun _ => .bl true) (fun done q rest ys t1 e0 i kt hkt => ?_) ⟨ls, rfl⟩ fun ys t1 i => ?_⟩
              · obtain ⟨ls, rfl⟩ := i
                have qm : q ∈ (pdI H m os k).map D.int := by rw [e0]; simp
                obtain ⟨z, hz, rfl⟩ := List.mem_map.mp qm
                obtain ⟨s0, hs0, rfl⟩ := List.mem_map.mp hz
                have sm := rk.2.2.1 s0 hs0
                have bl := bs_lt FF sm
                have hpd' := had_pad hok hpd sm kl
                have ls' := ls
                obtain ⟨cs, g1, g2, g3, g4, g5⟩ := ls'
                simp only [wOp, wCallN, wCons, wNil, wVar, wVarG, wp, wName]
                simp
                refine ⟨r, p, _, _, kvs, cs, g1, rl, g2, g3, ne, g4, by omega, by omega, fun _ => ?_, fun u cs' h1 h3' h4 => ?_⟩
                · obtain ⟨z, hz⟩ := FF.pad s0 (H - 1 - k) sm (by omega)
                  exact ⟨z, by have := atI_nat hz; simpa [Bs] using this⟩
                · have hpd2 : hasK kvs (.inl ((Bs H s0 : Int) + 3 * ((H - 1 - k : Nat) : Int) + 1)) = decide ((k : Int) ∈ ps) := by rw [← hpd']; simp
                  rw [hpd2]
                  refine ⟨flatIn_ints _ _, ?_⟩
                  rw [inD_ints]
                  simp
                  exact hkt _ _ ⟨ls.kb ne h4 h1 h3', by simp⟩
              · obtain ⟨ls, rfl⟩ := i
                exact ⟨_, bls_map (fun _ => true) _, ite_f (by simp) (h3 _ _ ⟨_, ls, rfl⟩)⟩
            clear ls
            obtain ⟨v19, ls, rfl⟩ := hI
            exact ih2 _ _ ⟨dn ++ [k], rs', _, _, v19, by rw [e1]; simp, by rw [snoc_len, ek], ls, rfl⟩
      clear ls
      obtain ⟨v17, v18, v19, ls, rfl⟩ := hI
      obtain ⟨cs, g1, g2, g3, g4, g5⟩ := ls
      simp
      refine ⟨m, rfl, M, fun b' r' p' s' n1 n2 n3 hB' off => ?_⟩
      simp
      rw [eH, ets]
      simp
      refine ih _ _ ⟨_, _, _, _, _, _, _, _, _, _, _, _, _, _, _, _, _, _, _, g5.kp fun x hx => off x (fun z => hx (by rw [z]; exact n1)) (fun z => hx (by rw [z]; exact n2)) (fun z => hx (by rw [z]; exact n3)), rfl⟩
    obtain ⟨v2, v3, v4, v5, v6, v7, v8, v9, v10, v11, v12, v13, v14, v15, v16, v17, v18, v19, v20, ho, rfl⟩ := hI
    have M2 : Mix 2 [.tup [.int 1, .int 0]] (.tup []) := ⟨by decide, by decide, by decide, by decide, fun o ho => by
      rw [List.mem_singleton] at ho
      subst ho
      exact ⟨[1, 0], rfl, List.Perm.swap _ _ _⟩, [], rfl, .nil, fun p h => (nomatch h)⟩
    have FF := onsR_frm 1 2
    refine cut (fun env s => ∃ b r p, BkAt P w CB b r p (onsR 1 2).1 (onsR 1 2).2 s ∧ env = [.dat (.opq a0), .dat (.opq a), v2, v3, v4, v5, .dat (.opq b), .dat (.tup [.int 1, .int 5, .int 9, .int 6, .int 2]), v8, v9, v10, v11, v12, v13, v14, v15, v16, v17, v18, v19, v20]) (fun K2 h2 _ _ => ?_) fun env s hI => ?_
    · simp
      refine ⟨by decide, by decide, 2, rfl, M2, fun b r p s' n1 n2 n3 hB off => ?_⟩
      have ef : frameD [D.tup [D.int 1, D.int 0]].length 2 [.tup [.int 1, .int 0]] (.tup []) = [.int 1, .int 5, .int 9, .int 6, .int 2] := by rfl
      rw [ef]
      exact ⟨rfl, h2 _ _ ⟨b, r, p, hB, rfl⟩⟩
    obtain ⟨b, r, p, hB, rfl⟩ := hI
    obtain ⟨dx, hb⟩ := hbk hB
    have e1 : (onsR 1 2).1[5]? = some (enD "box" [1, 4]) := FF.box 0 0 (by decide) (by decide)
    have e2 : (onsR 1 2).1[4]? = some (enD "row" [3, 2]) := FF.row 0 0 (by decide) (by decide)
    have l10 : (onsR 1 2).1.length = 10 := FF.len
    simp [hb]
    walk_at "mtb"
    refine parts_of hB (i := 5) e1 ?_
    simp
    refine parts_of hB (i := 4) e2 ?_
    simp [at4]
    rw [hb]
    walk_at "mtb"
    refine ⟨r, p, _, _, hB, ?_⟩
    rw [l10]
    show (5 : Int) ≤ ((10 : Nat) : Int)
    decide
end
end Law
set_option Elab.async false
set_option linter.all false
set_option maxRecDepth 100000
set_option maxHeartbeats 0
namespace Law
open PySem PySem.Spec PyProof.Rows L2 Gl Dw
abbrev PP : Program := PySem.Challenge.pw_veilpost_k28_whole_frames_of_mixes
def frees : List Str := ["abs", "all", "bool", "dict", "enumerate", "int", "isinstance", "len", "list", "range", "reversed", "set", "sorted", "str", "super", "tuple", "zip"]
def dd (x : Str) (s : Stmt) : He.DefD := ⟨(x, none), x, x, defArgs s, defBody s, defScope s, [], []⟩
def fns : List He.DefD := [dd "_law_draw" s__law_draw, dd "_law_hand" s__law_hand, dd "is_integer" s_is_integer, dd "is_within" s_is_within, ⟨("Book", some "raw_put"), "raw_put", "Book.raw_put", defArgs s_Book_raw_put, defBody s_Book_raw_put, defScope s_Book_raw_put, [], []⟩, ⟨("Book", some "fresh"), "fresh", "Book.fresh", defArgs s_Book_fresh, defBody s_Book_fresh, defScope s_Book_fresh, [], []⟩, ⟨("Book", some "is_number"), "is_number", "Book.is_number", defArgs s_Book_is_number, defBody s_Book_is_number, defScope s_Book_is_number, [], []⟩, ⟨("Book", some "check_term"), "check_term", "Book.check_term", defArgs s_Book_check_term, defBody s_Book_check_term, defScope s_Book_check_term, [], []⟩, ⟨("Book", some "raw_kind"), "raw_kind", "Book.raw_kind", defArgs s_Book_raw_kind, defBody s_Book_raw_kind, defScope s_Book_raw_kind, [], []⟩, ⟨("Book", some "raw_parts"), "raw_parts", "Book.raw_parts", defArgs s_Book_raw_parts, defBody s_Book_raw_parts, defScope s_Book_raw_parts, [], []⟩, ⟨("Book", some "kind"), "kind", "Book.kind", defArgs s_Book_kind, defBody s_Book_kind, defScope s_Book_kind, [], []⟩, ⟨("Book", some "parts"), "parts", "Book.parts", defArgs s_Book_parts, defBody s_Book_parts, defScope s_Book_parts, [], []⟩, ⟨("Book", some "size"), "size", "Book.size", defArgs s_Book_size, defBody s_Book_size, defScope s_Book_size, [], []⟩, ⟨("Book", some "inner"), "inner", "Book.inner", defArgs s_Book_inner, defBody s_Book_inner, defScope s_Book_inner, [], []⟩, ⟨("Book", some "raw_within"), "raw_within", "Book.raw_within", defArgs s_Book_raw_within, defBody s_Book_raw_within, defScope s_Book_raw_within, [], []⟩, ⟨("Book", some "within"), "within", "Book.within", defArgs s_Book_within, defBody s_Book_within, defScope s_Book_within, [], []⟩, ⟨("Book", some "__init__"), "__init__", "Book.__init__", defArgs s_Book___init__, defBody s_Book___init__, defScope s_Book___init__, [], []⟩, dd "onion" s_onion, dd "laid" s_laid, dd "is_order" s_is_order, dd "are_orders" s_are_orders, dd "is_lot_of" s_is_lot_of, dd "check_senders" s_check_senders, dd "check_mix" s_check_mix, dd "framed" s_framed, dd "mix_frame" s_mix_frame, dd "_law_made" s__law_made, dd "_law_reads" s__law_reads, dd "_law_opened" s__law_opened, dd "_law_mixed" s__law_mixed, dd "_law_mix" s__law_mix, dd "_law_box_right" s__law_box_right, dd "_law_frame_right" s__law_frame_right, dd "law" s_law]
def fas : List He.Fa := [.glo "_law_draw", .glo "_law_hand", .glo "is_integer", .glo "is_within", .glo "onion", .glo "laid", .glo "is_order", .glo "are_orders", .glo "is_lot_of", .glo "check_senders", .glo "check_mix", .glo "framed", .glo "mix_frame", .glo "_law_made", .glo "_law_reads", .glo "_law_opened", .glo "_law_mixed", .glo "_law_mix", .glo "_law_box_right", .glo "_law_frame_right", .glo "law", .int "MOST_TEXT" 40, .int "MOST_NUMBER" 999999999999, .int "MOST_ITEMS" 400, .str "NAME" "name", .str "NUMBER" "number", .str "FRESH" "fresh", .str "ROW" "row", .int "MOST_SENDERS" 6, .int "MOST_HOPS" 4, .glo "BadMix", .glo "NoTerm", .glo "NoTerms", .glo "Book", .cls "Book", .noat "Book" "records", .noat "Book" "places", .noat "Book" "freshes"]
theorem bot {S : Type} {W : Wd S} {P : Program} {w : World} {K : PySem.W.Frag} {mg : Str → Option Value} {base : Heap} {n : Nat} {f : Addr} {fd : FuncData} {ps : List Str} {wf : List D → S → (D → S → Prop) → (Xc → S → Prop) → Prop} (h : ∀ ds s k x, ¬ wf ds s k x) : Fn P w K mg base n f fd ps (spX W wf) :=
  ⟨fun vs H Q E z => (let ⟨_, _, _, _, _, _, _, q, _⟩ := z; (h _ _ _ _ q).elim), fun _ _ _ _ _ _ _ _ _ _ _ _ _ _ z => (let ⟨_, _, _, _, _, _, _, q, _⟩ := z; (h _ _ _ _ q).elim)⟩
def e0B (K : PySem.W.Frag) (C : Addr) : Bool := PySem.W.excIn K C He.veBase "ValueError.__new__" && PySem.W.keepIn K (.ref C)
def exs (K : PySem.W.Frag) : List Bool := [Ex.badB PP.main.file K (He.ga K "BadMix") "part", excB K (He.ga K "BadMix"), rsB K (He.ga K "BadMix"), e0B K (He.ga K "NoTerm"), excB K (He.ga K "NoTerm"), rsB K (He.ga K "NoTerm"), e0B K (He.ga K "NoTerms"), excB K (He.ga K "NoTerms"), rsB K (He.ga K "NoTerms"), incB K (He.ga K "Book"), mkB K (He.ga K "Book"), metB K (He.ga K "Book") "raw_put", metB K (He.ga K "Book") "fresh", metB K (He.ga K "Book") "is_number", metB K (He.ga K "Book") "check_term", metB K (He.ga K "Book") "raw_kind", metB K (He.ga K "Book") "raw_parts", metB K (He.ga K "Book") "kind", metB K (He.ga K "Book") "parts", metB K (He.ga K "Book") "size", metB K (He.ga K "Book") "inner", metB K (He.ga K "Book") "raw_within", metB K (He.ga K "Book") "within"]
def exK (K : PySem.W.Frag) : Bool := frees.all (fun x => (He.Fa.free x).ok K) && (exs K).all id
def obM (K : PySem.W.Frag) : List Ex.FnM := (["BadMix"] : List Str).map fun m => Ex.obsM K m
def vaM : List Ex.FnM := [Ex.valM "BadMix.__init__" (inClass (top 10) 0)]
def KK (g : Addr → Option Obj) : PySem.W.Frag := He.frG g (cStatics :: sysModules :: He.asD g 5)
abbrev AlM : Type := He.AlD × Bool × List Ex.FnM
def obK (K : PySem.W.Frag) : AlM := (He.obsD fas fns K, exK K, obM K)
def vaK : AlM := (He.valD fns, true, vaM)
def hk : PySem.W.Hook where
  α := AlM
  obs := fun s => obK (KK s.heap.get?)
  val := fun _ => vaK
  says := fun _ h => ∃ K : PySem.W.Frag, K.In h ∧ obK K = vaK
  of := fun _ _ e => ⟨_, He.frG_in, e⟩
  keeps := fun _ _ _ ⟨K, hK, c⟩ k => ⟨K, PySem.W.Frag.In.keeps hK k, c⟩
theorem facts {w : World} {K : PySem.W.Frag} {h : Heap} {mg : Str → Option Value} {f : Addr} (X : K.In h) (G : h.Ns mainGlobals mg) (hfa : mg ("law" : Str) = some (.ref f)) (c : obK K = vaK) :
    ∃ fd : FuncData, (∀ (s : Shared) (v : Value), BindsTo s fd ⟨[v], []⟩ [("script", v)]) ∧ ∀ base : Heap, K.In base → base.Ns mainGlobals mg → Fn PP w K mg base 9 f fd ["script"] (spLaw K) := by
  have c0 : He.SaysD fas fns K := congrArg (fun z : AlM => z.1) c
  have c2 : exK K = true := congrArg (fun z : AlM => z.2.1) c
  have c3 : obM K = vaM := congrArg (fun z : AlM => z.2.2) c
  obtain ⟨e1, e2⟩ := Ex.ba c2
  have ext : ∀ (i : Nat) {b : Bool}, (exs K)[i]? = some b → b = true := fun i b hb => List.all_eq_true.mp e2 b (List.mem_of_getElem? hb)
  have fr : ∀ (i : Nat) {x : Str}, frees[i]? = some x → mg x = none := fun i x hx => He.free_ok X G (List.all_eq_true.mp e1 x (List.mem_of_getElem? hx))
  have int : ∀ {x : Str} {i : Int}, (He.Fa.int x i).ok K = true → ∃ u, mg x = some u ∧ RelV (.int i) u := fun h => by obtain ⟨t, q⟩ := He.int_ok X G h; exact ⟨_, q, t, rfl⟩
  have str : ∀ {x z : Str}, (He.Fa.str x z).ok K = true → ∃ u, mg x = some u ∧ RelV (.str z) u := fun h => by obtain ⟨t, q⟩ := He.str_ok X G h; exact ⟨_, q, t, rfl⟩
  have T : Tx PP w K mg := ⟨fr 0 rfl, fr 1 rfl, fr 2 rfl, fr 3 rfl, fr 4 rfl, fr 5 rfl, fr 6 rfl, fr 7 rfl, fr 8 rfl, fr 9 rfl, fr 10 rfl, fr 11 rfl, fr 12 rfl, fr 13 rfl, fr 14 rfl, fr 15 rfl, fr 16 rfl, int (c0.fact 21 (f := .int "MOST_TEXT" 40) rfl), int (c0.fact 22 (f := .int "MOST_NUMBER" 999999999999) rfl), int (c0.fact 23 (f := .int "MOST_ITEMS" 400) rfl), str (c0.fact 24 (f := .str "NAME" "name") rfl), str (c0.fact 25 (f := .str "NUMBER" "number") rfl), str (c0.fact 26 (f := .str "FRESH" "fresh") rfl), str (c0.fact 27 (f := .str "ROW" "row") rfl), int (c0.fact 28 (f := .int "MOST_SENDERS" 6) rfl), int (c0.fact 29 (f := .int "MOST_HOPS" 4) rfl)⟩
  have g_BadMix : mg "BadMix" = some (.ref (He.ga K "BadMix")) := He.glo_ok X G (c0.fact 30 (f := .glo "BadMix") rfl)
  have v_BadMix : ∃ u, mg "BadMix" = some u ∧ RelV (.ref (He.ga K "BadMix")) u := ⟨_, g_BadMix, rfl⟩
  have g_NoTerm : mg "NoTerm" = some (.ref (He.ga K "NoTerm")) := He.glo_ok X G (c0.fact 31 (f := .glo "NoTerm") rfl)
  have v_NoTerm : ∃ u, mg "NoTerm" = some u ∧ RelV (.ref (He.ga K "NoTerm")) u := ⟨_, g_NoTerm, rfl⟩
  have g_NoTerms : mg "NoTerms" = some (.ref (He.ga K "NoTerms")) := He.glo_ok X G (c0.fact 32 (f := .glo "NoTerms") rfl)
  have v_NoTerms : ∃ u, mg "NoTerms" = some u ∧ RelV (.ref (He.ga K "NoTerms")) u := ⟨_, g_NoTerms, rfl⟩
  have g_Book : mg "Book" = some (.ref (He.ga K "Book")) := He.glo_ok X G (c0.fact 33 (f := .glo "Book") rfl)
  have v_Book : ∃ u, mg "Book" = some u ∧ RelV (.ref (He.ga K "Book")) u := ⟨_, g_Book, rfl⟩
  have bad_BadMix : Ex.BadC PP K (He.ga K "BadMix") "part" := Ex.badC_of (st := inClass (top 10) 0) (q := "BadMix.__init__") (ext 0 rfl) (List.cons.inj (show Ex.obsM K _ :: _ = _ from c3)).1 rfl rfl rfl (by kernel_rfl) rfl rfl rfl rfl (fun env => ⟨_, rfl⟩) (fun kV doc pm ct cdv an cc s x v => .of_eq rfl)
  obtain ⟨xf_BadMix, exc_BadMix⟩ := excB_ok (ext 1 rfl)
  obtain ⟨r1_BadMix, r2_BadMix⟩ := rsB_ok (ext 2 rfl)
  have r_NoTerm : E0c K mg "NoTerm" (He.ga K "NoTerm") := ⟨g_NoTerm, (Ex.ba (ext 3 rfl)).1, (Ex.ba (ext 3 rfl)).2, (rsB_ok (ext 5 rfl)).1, (rsB_ok (ext 5 rfl)).2⟩
  obtain ⟨xf_NoTerm, exc_NoTerm⟩ := excB_ok (ext 4 rfl)
  have r_NoTerms : E0c K mg "NoTerms" (He.ga K "NoTerms") := ⟨g_NoTerms, (Ex.ba (ext 6 rfl)).1, (Ex.ba (ext 6 rfl)).2, (rsB_ok (ext 8 rfl)).1, (rsB_ok (ext 8 rfl)).2⟩
  obtain ⟨xf_NoTerms, exc_NoTerms⟩ := excB_ok (ext 7 rfl)
  have cls_Book : Cls K (He.ga K "Book") := He.cls_ok (c0.fact 34 (f := .cls "Book") rfl)
  have no_Book_records : NoAttr K (He.ga K "Book") "records" := He.eqO_ok (c0.fact 35 (f := .noat "Book" "records") rfl)
  have no_Book_places : NoAttr K (He.ga K "Book") "places" := He.eqO_ok (c0.fact 36 (f := .noat "Book" "places") rfl)
  have no_Book_freshes : NoAttr K (He.ga K "Book") "freshes" := He.eqO_ok (c0.fact 37 (f := .noat "Book" "freshes") rfl)
  obtain ⟨inc_Book, sub_Book⟩ := incB_ok (ext 9 rfl) cls_Book
  have mk_Book := mkB_ok (ext 10 rfl)
  have me_Book_raw_put := metB_ok (ext 11 rfl)
  have me_Book_fresh := metB_ok (ext 12 rfl)
  have me_Book_is_number := metB_ok (ext 13 rfl)
  have me_Book_check_term := metB_ok (ext 14 rfl)
  have me_Book_raw_kind := metB_ok (ext 15 rfl)
  have me_Book_raw_parts := metB_ok (ext 16 rfl)
  have me_Book_kind := metB_ok (ext 17 rfl)
  have me_Book_parts := metB_ok (ext 18 rfl)
  have me_Book_size := metB_ok (ext 19 rfl)
  have me_Book_inner := metB_ok (ext 20 rfl)
  have me_Book_raw_within := metB_ok (ext 21 rfl)
  have me_Book_within := metB_ok (ext 22 rfl)
  obtain ⟨fd__law_draw, F__law_draw⟩ := c0.def_ 0 (d := dd "_law_draw" s__law_draw) rfl
  have F__law_draw : FD K "_law_draw" s__law_draw (He.ga K "_law_draw") fd__law_draw := F__law_draw
  have m__law_draw := He.glo_ok X G (c0.fact 0 (f := .glo "_law_draw") rfl)
  have b__law_draw := FunD.bindsA (ps := ["hand", "many"]) F__law_draw fun _ _ _ _ _ _ us hl => match us, hl with | [_, _], _ => rfl
  obtain ⟨fd__law_hand, F__law_hand⟩ := c0.def_ 1 (d := dd "_law_hand" s__law_hand) rfl
  have F__law_hand : FD K "_law_hand" s__law_hand (He.ga K "_law_hand") fd__law_hand := F__law_hand
  have m__law_hand := He.glo_ok X G (c0.fact 1 (f := .glo "_law_hand") rfl)
  have b__law_hand := FunD.bindsA (ps := ["script"]) F__law_hand fun _ _ _ _ _ _ us hl => match us, hl with | [_], _ => rfl
  obtain ⟨fd_is_integer, F_is_integer⟩ := c0.def_ 2 (d := dd "is_integer" s_is_integer) rfl
  have F_is_integer : FD K "is_integer" s_is_integer (He.ga K "is_integer") fd_is_integer := F_is_integer
  have m_is_integer := He.glo_ok X G (c0.fact 2 (f := .glo "is_integer") rfl)
  have b_is_integer := FunD.bindsA (ps := ["thing"]) F_is_integer fun _ _ _ _ _ _ us hl => match us, hl with | [_], _ => rfl
  obtain ⟨fd_is_within, F_is_within⟩ := c0.def_ 3 (d := dd "is_within" s_is_within) rfl
  have F_is_within : FD K "is_within" s_is_within (He.ga K "is_within") fd_is_within := F_is_within
  have m_is_within := He.glo_ok X G (c0.fact 3 (f := .glo "is_within") rfl)
  have b_is_within := FunD.bindsA (ps := ["thing", "least", "most"]) F_is_within fun _ _ _ _ _ _ us hl => match us, hl with | [_, _, _], _ => rfl
  obtain ⟨fd_Book_raw_put, F_Book_raw_put⟩ := c0.def_ 4 (d := ⟨("Book", some "raw_put"), "raw_put", "Book.raw_put", defArgs s_Book_raw_put, defBody s_Book_raw_put, defScope s_Book_raw_put, [], []⟩) rfl
  have F_Book_raw_put : FunD K "raw_put" "Book.raw_put" (defArgs s_Book_raw_put) (defBody s_Book_raw_put) (defScope s_Book_raw_put) [] [] (He.ma K (He.ga K "Book") "raw_put") fd_Book_raw_put := F_Book_raw_put
  have b_Book_raw_put := FunD.bindsA (ps := ["self", "kind", "parts"]) F_Book_raw_put fun _ _ _ _ _ _ us hl => match us, hl with | [_, _, _], _ => rfl
  obtain ⟨fd_Book_fresh, F_Book_fresh⟩ := c0.def_ 5 (d := ⟨("Book", some "fresh"), "fresh", "Book.fresh", defArgs s_Book_fresh, defBody s_Book_fresh, defScope s_Book_fresh, [], []⟩) rfl
  have F_Book_fresh : FunD K "fresh" "Book.fresh" (defArgs s_Book_fresh) (defBody s_Book_fresh) (defScope s_Book_fresh) [] [] (He.ma K (He.ga K "Book") "fresh") fd_Book_fresh := F_Book_fresh
  have b_Book_fresh := FunD.bindsA (ps := ["self"]) F_Book_fresh fun _ _ _ _ _ _ us hl => match us, hl with | [_], _ => rfl
  obtain ⟨fd_Book_is_number, F_Book_is_number⟩ := c0.def_ 6 (d := ⟨("Book", some "is_number"), "is_number", "Book.is_number", defArgs s_Book_is_number, defBody s_Book_is_number, defScope s_Book_is_number, [], []⟩) rfl
  have F_Book_is_number : FunD K "is_number" "Book.is_number" (defArgs s_Book_is_number) (defBody s_Book_is_number) (defScope s_Book_is_number) [] [] (He.ma K (He.ga K "Book") "is_number") fd_Book_is_number := F_Book_is_number
  have b_Book_is_number := FunD.bindsA (ps := ["self", "thing"]) F_Book_is_number fun _ _ _ _ _ _ us hl => match us, hl with | [_, _], _ => rfl
  obtain ⟨fd_Book_check_term, F_Book_check_term⟩ := c0.def_ 7 (d := ⟨("Book", some "check_term"), "check_term", "Book.check_term", defArgs s_Book_check_term, defBody s_Book_check_term, defScope s_Book_check_term, [], []⟩) rfl
  have F_Book_check_term : FunD K "check_term" "Book.check_term" (defArgs s_Book_check_term) (defBody s_Book_check_term) (defScope s_Book_check_term) [] [] (He.ma K (He.ga K "Book") "check_term") fd_Book_check_term := F_Book_check_term
  have b_Book_check_term := FunD.bindsA (ps := ["self", "thing"]) F_Book_check_term fun _ _ _ _ _ _ us hl => match us, hl with | [_, _], _ => rfl
  obtain ⟨fd_Book_raw_kind, F_Book_raw_kind⟩ := c0.def_ 8 (d := ⟨("Book", some "raw_kind"), "raw_kind", "Book.raw_kind", defArgs s_Book_raw_kind, defBody s_Book_raw_kind, defScope s_Book_raw_kind, [], []⟩) rfl
  have F_Book_raw_kind : FunD K "raw_kind" "Book.raw_kind" (defArgs s_Book_raw_kind) (defBody s_Book_raw_kind) (defScope s_Book_raw_kind) [] [] (He.ma K (He.ga K "Book") "raw_kind") fd_Book_raw_kind := F_Book_raw_kind
  have b_Book_raw_kind := FunD.bindsA (ps := ["self", "term"]) F_Book_raw_kind fun _ _ _ _ _ _ us hl => match us, hl with | [_, _], _ => rfl
  obtain ⟨fd_Book_raw_parts, F_Book_raw_parts⟩ := c0.def_ 9 (d := ⟨("Book", some "raw_parts"), "raw_parts", "Book.raw_parts", defArgs s_Book_raw_parts, defBody s_Book_raw_parts, defScope s_Book_raw_parts, [], []⟩) rfl
  have F_Book_raw_parts : FunD K "raw_parts" "Book.raw_parts" (defArgs s_Book_raw_parts) (defBody s_Book_raw_parts) (defScope s_Book_raw_parts) [] [] (He.ma K (He.ga K "Book") "raw_parts") fd_Book_raw_parts := F_Book_raw_parts
  have b_Book_raw_parts := FunD.bindsA (ps := ["self", "term"]) F_Book_raw_parts fun _ _ _ _ _ _ us hl => match us, hl with | [_, _], _ => rfl
  obtain ⟨fd_Book_kind, F_Book_kind⟩ := c0.def_ 10 (d := ⟨("Book", some "kind"), "kind", "Book.kind", defArgs s_Book_kind, defBody s_Book_kind, defScope s_Book_kind, [], []⟩) rfl
  have F_Book_kind : FunD K "kind" "Book.kind" (defArgs s_Book_kind) (defBody s_Book_kind) (defScope s_Book_kind) [] [] (He.ma K (He.ga K "Book") "kind") fd_Book_kind := F_Book_kind
  have b_Book_kind := FunD.bindsA (ps := ["self", "term"]) F_Book_kind fun _ _ _ _ _ _ us hl => match us, hl with | [_, _], _ => rfl
  obtain ⟨fd_Book_parts, F_Book_parts⟩ := c0.def_ 11 (d := ⟨("Book", some "parts"), "parts", "Book.parts", defArgs s_Book_parts, defBody s_Book_parts, defScope s_Book_parts, [], []⟩) rfl
  have F_Book_parts : FunD K "parts" "Book.parts" (defArgs s_Book_parts) (defBody s_Book_parts) (defScope s_Book_parts) [] [] (He.ma K (He.ga K "Book") "parts") fd_Book_parts := F_Book_parts
  have b_Book_parts := FunD.bindsA (ps := ["self", "term"]) F_Book_parts fun _ _ _ _ _ _ us hl => match us, hl with | [_, _], _ => rfl
  obtain ⟨fd_Book_size, F_Book_size⟩ := c0.def_ 12 (d := ⟨("Book", some "size"), "size", "Book.size", defArgs s_Book_size, defBody s_Book_size, defScope s_Book_size, [], []⟩) rfl
  have F_Book_size : FunD K "size" "Book.size" (defArgs s_Book_size) (defBody s_Book_size) (defScope s_Book_size) [] [] (He.ma K (He.ga K "Book") "size") fd_Book_size := F_Book_size
  have b_Book_size := FunD.bindsA (ps := ["self"]) F_Book_size fun _ _ _ _ _ _ us hl => match us, hl with | [_], _ => rfl
  obtain ⟨fd_Book_inner, F_Book_inner⟩ := c0.def_ 13 (d := ⟨("Book", some "inner"), "inner", "Book.inner", defArgs s_Book_inner, defBody s_Book_inner, defScope s_Book_inner, [], []⟩) rfl
  have F_Book_inner : FunD K "inner" "Book.inner" (defArgs s_Book_inner) (defBody s_Book_inner) (defScope s_Book_inner) [] [] (He.ma K (He.ga K "Book") "inner") fd_Book_inner := F_Book_inner
  have b_Book_inner := FunD.bindsA (ps := ["self", "term"]) F_Book_inner fun _ _ _ _ _ _ us hl => match us, hl with | [_, _], _ => rfl
  obtain ⟨fd_Book_raw_within, F_Book_raw_within⟩ := c0.def_ 14 (d := ⟨("Book", some "raw_within"), "raw_within", "Book.raw_within", defArgs s_Book_raw_within, defBody s_Book_raw_within, defScope s_Book_raw_within, [], []⟩) rfl
  have F_Book_raw_within : FunD K "raw_within" "Book.raw_within" (defArgs s_Book_raw_within) (defBody s_Book_raw_within) (defScope s_Book_raw_within) [] [] (He.ma K (He.ga K "Book") "raw_within") fd_Book_raw_within := F_Book_raw_within
  have b_Book_raw_within := FunD.bindsA (ps := ["self", "terms"]) F_Book_raw_within fun _ _ _ _ _ _ us hl => match us, hl with | [_, _], _ => rfl
  obtain ⟨fd_Book_within, F_Book_within⟩ := c0.def_ 15 (d := ⟨("Book", some "within"), "within", "Book.within", defArgs s_Book_within, defBody s_Book_within, defScope s_Book_within, [], []⟩) rfl
  have F_Book_within : FunD K "within" "Book.within" (defArgs s_Book_within) (defBody s_Book_within) (defScope s_Book_within) [] [] (He.ma K (He.ga K "Book") "within") fd_Book_within := F_Book_within
  have b_Book_within := FunD.bindsA (ps := ["self", "terms"]) F_Book_within fun _ _ _ _ _ _ us hl => match us, hl with | [_, _], _ => rfl
  obtain ⟨fd_Book___init__, F_Book___init__⟩ := c0.def_ 16 (d := ⟨("Book", some "__init__"), "__init__", "Book.__init__", defArgs s_Book___init__, defBody s_Book___init__, defScope s_Book___init__, [], []⟩) rfl
  have F_Book___init__ : FunD K "__init__" "Book.__init__" (defArgs s_Book___init__) (defBody s_Book___init__) (defScope s_Book___init__) [] [] (He.ma K (He.ga K "Book") "__init__") fd_Book___init__ := F_Book___init__
  have b_Book___init__ := FunD.bindsA (ps := ["self"]) F_Book___init__ fun _ _ _ _ _ _ us hl => match us, hl with | [_], _ => rfl
  obtain ⟨fd_onion, F_onion⟩ := c0.def_ 17 (d := dd "onion" s_onion) rfl
  have F_onion : FD K "onion" s_onion (He.ga K "onion") fd_onion := F_onion
  have m_onion := He.glo_ok X G (c0.fact 4 (f := .glo "onion") rfl)
  have b_onion := FunD.bindsA (ps := ["book", "locks"]) F_onion fun _ _ _ _ _ _ us hl => match us, hl with | [_, _], _ => rfl
  obtain ⟨fd_laid, F_laid⟩ := c0.def_ 18 (d := dd "laid" s_laid) rfl
  have F_laid : FD K "laid" s_laid (He.ga K "laid") fd_laid := F_laid
  have m_laid := He.glo_ok X G (c0.fact 5 (f := .glo "laid") rfl)
  have b_laid := FunD.bindsA (ps := ["orders"]) F_laid fun _ _ _ _ _ _ us hl => match us, hl with | [_], _ => rfl
  obtain ⟨fd_is_order, F_is_order⟩ := c0.def_ 19 (d := dd "is_order" s_is_order) rfl
  have F_is_order : FD K "is_order" s_is_order (He.ga K "is_order") fd_is_order := F_is_order
  have m_is_order := He.glo_ok X G (c0.fact 6 (f := .glo "is_order") rfl)
  have b_is_order := FunD.bindsA (ps := ["thing", "many"]) F_is_order fun _ _ _ _ _ _ us hl => match us, hl with | [_, _], _ => rfl
  obtain ⟨fd_are_orders, F_are_orders⟩ := c0.def_ 20 (d := dd "are_orders" s_are_orders) rfl
  have F_are_orders : FD K "are_orders" s_are_orders (He.ga K "are_orders") fd_are_orders := F_are_orders
  have m_are_orders := He.glo_ok X G (c0.fact 7 (f := .glo "are_orders") rfl)
  have b_are_orders := FunD.bindsA (ps := ["thing", "many"]) F_are_orders fun _ _ _ _ _ _ us hl => match us, hl with | [_, _], _ => rfl
  obtain ⟨fd_is_lot_of, F_is_lot_of⟩ := c0.def_ 21 (d := dd "is_lot_of" s_is_lot_of) rfl
  have F_is_lot_of : FD K "is_lot_of" s_is_lot_of (He.ga K "is_lot_of") fd_is_lot_of := F_is_lot_of
  have m_is_lot_of := He.glo_ok X G (c0.fact 8 (f := .glo "is_lot_of") rfl)
  have b_is_lot_of := FunD.bindsA (ps := ["thing", "many"]) F_is_lot_of fun _ _ _ _ _ _ us hl => match us, hl with | [_, _], _ => rfl
  obtain ⟨fd_check_senders, F_check_senders⟩ := c0.def_ 22 (d := dd "check_senders" s_check_senders) rfl
  have F_check_senders : FD K "check_senders" s_check_senders (He.ga K "check_senders") fd_check_senders := F_check_senders
  have m_check_senders := He.glo_ok X G (c0.fact 9 (f := .glo "check_senders") rfl)
  have b_check_senders := FunD.bindsA (ps := ["many", "orders"]) F_check_senders fun _ _ _ _ _ _ us hl => match us, hl with | [_, _], _ => rfl
  obtain ⟨fd_check_mix, F_check_mix⟩ := c0.def_ 23 (d := dd "check_mix" s_check_mix) rfl
  have F_check_mix : FD K "check_mix" s_check_mix (He.ga K "check_mix") fd_check_mix := F_check_mix
  have m_check_mix := He.glo_ok X G (c0.fact 10 (f := .glo "check_mix") rfl)
  have b_check_mix := FunD.bindsA (ps := ["many", "orders", "stolen"]) F_check_mix fun _ _ _ _ _ _ us hl => match us, hl with | [_, _, _], _ => rfl
  obtain ⟨fd_framed, F_framed⟩ := c0.def_ 24 (d := dd "framed" s_framed) rfl
  have F_framed : FD K "framed" s_framed (He.ga K "framed") fd_framed := F_framed
  have m_framed := He.glo_ok X G (c0.fact 11 (f := .glo "framed") rfl)
  have b_framed := FunD.bindsA (ps := ["many", "orders", "stolen"]) F_framed fun _ _ _ _ _ _ us hl => match us, hl with | [_, _, _], _ => rfl
  obtain ⟨fd_mix_frame, F_mix_frame⟩ := c0.def_ 25 (d := dd "mix_frame" s_mix_frame) rfl
  have F_mix_frame : FD K "mix_frame" s_mix_frame (He.ga K "mix_frame") fd_mix_frame := F_mix_frame
  have m_mix_frame := He.glo_ok X G (c0.fact 12 (f := .glo "mix_frame") rfl)
  have b_mix_frame := FunD.bindsA (ps := ["many", "orders", "stolen"]) F_mix_frame fun _ _ _ _ _ _ us hl => match us, hl with | [_, _, _], _ => rfl
  obtain ⟨fd__law_made, F__law_made⟩ := c0.def_ 26 (d := dd "_law_made" s__law_made) rfl
  have F__law_made : FD K "_law_made" s__law_made (He.ga K "_law_made") fd__law_made := F__law_made
  have m__law_made := He.glo_ok X G (c0.fact 13 (f := .glo "_law_made") rfl)
  have b__law_made := FunD.bindsA (ps := ["book", "had", "can_be", "term"]) F__law_made fun _ _ _ _ _ _ us hl => match us, hl with | [_, _, _, _], _ => rfl
  obtain ⟨fd__law_reads, F__law_reads⟩ := c0.def_ 27 (d := dd "_law_reads" s__law_reads) rfl
  have F__law_reads : FD K "_law_reads" s__law_reads (He.ga K "_law_reads") fd__law_reads := F__law_reads
  have m__law_reads := He.glo_ok X G (c0.fact 14 (f := .glo "_law_reads") rfl)
  have b__law_reads := FunD.bindsA (ps := ["book", "had", "can_be", "term"]) F__law_reads fun _ _ _ _ _ _ us hl => match us, hl with | [_, _, _, _], _ => rfl
  obtain ⟨fd__law_opened, F__law_opened⟩ := c0.def_ 28 (d := dd "_law_opened" s__law_opened) rfl
  have F__law_opened : FD K "_law_opened" s__law_opened (He.ga K "_law_opened") fd__law_opened := F__law_opened
  have m__law_opened := He.glo_ok X G (c0.fact 15 (f := .glo "_law_opened") rfl)
  have b__law_opened := FunD.bindsA (ps := ["book", "bag"]) F__law_opened fun _ _ _ _ _ _ us hl => match us, hl with | [_, _], _ => rfl
  obtain ⟨fd__law_mixed, F__law_mixed⟩ := c0.def_ 29 (d := dd "_law_mixed" s__law_mixed) rfl
  have F__law_mixed : FD K "_law_mixed" s__law_mixed (He.ga K "_law_mixed") fd__law_mixed := F__law_mixed
  have m__law_mixed := He.glo_ok X G (c0.fact 16 (f := .glo "_law_mixed") rfl)
  have b__law_mixed := FunD.bindsA (ps := ["hand", "things"]) F__law_mixed fun _ _ _ _ _ _ us hl => match us, hl with | [_, _], _ => rfl
  obtain ⟨fd__law_mix, F__law_mix⟩ := c0.def_ 30 (d := dd "_law_mix" s__law_mix) rfl
  have F__law_mix : FD K "_law_mix" s__law_mix (He.ga K "_law_mix") fd__law_mix := F__law_mix
  have m__law_mix := He.glo_ok X G (c0.fact 17 (f := .glo "_law_mix") rfl)
  have b__law_mix := FunD.bindsA (ps := ["hand"]) F__law_mix fun _ _ _ _ _ _ us hl => match us, hl with | [_], _ => rfl
  obtain ⟨fd__law_box_right, F__law_box_right⟩ := c0.def_ 31 (d := dd "_law_box_right" s__law_box_right) rfl
  have F__law_box_right : FD K "_law_box_right" s__law_box_right (He.ga K "_law_box_right") fd__law_box_right := F__law_box_right
  have m__law_box_right := He.glo_ok X G (c0.fact 18 (f := .glo "_law_box_right") rfl)
  have b__law_box_right := FunD.bindsA (ps := ["book", "term", "lock", "key"]) F__law_box_right fun _ _ _ _ _ _ us hl => match us, hl with | [_, _, _, _], _ => rfl
  obtain ⟨fd__law_frame_right, F__law_frame_right⟩ := c0.def_ 32 (d := dd "_law_frame_right" s__law_frame_right) rfl
  have F__law_frame_right : FD K "_law_frame_right" s__law_frame_right (He.ga K "_law_frame_right") fd__law_frame_right := F__law_frame_right
  have m__law_frame_right := He.glo_ok X G (c0.fact 19 (f := .glo "_law_frame_right") rfl)
  have b__law_frame_right := FunD.bindsA (ps := ["book", "frame", "many", "orders", "stolen"]) F__law_frame_right fun _ _ _ _ _ _ us hl => match us, hl with | [_, _, _, _, _], _ => rfl
  obtain ⟨fd_law, F_law⟩ := c0.def_ 33 (d := dd "law" s_law) rfl
  have F_law : FD K "law" s_law (He.ga K "law") fd_law := F_law
  have m_law := He.glo_ok X G (c0.fact 20 (f := .glo "law") rfl)
  have b_law := FunD.bindsA (ps := ["script"]) F_law fun _ _ _ _ _ _ us hl => match us, hl with | [_], _ => rfl
  have e := hfa.symm.trans m_law
  cases e
  refine ⟨fd_law, fun s v => b_law s [v] rfl, fun base _ _ => ?_⟩
  have cB : ClB K (He.ga K "Book") := ⟨cls_Book, no_Book_records, no_Book_places, no_Book_freshes⟩
  have cBadMix : Er PP K mg "BadMix" (He.ga K "BadMix") := ⟨bad_BadMix, g_BadMix, T.super, r1_BadMix, r2_BadMix⟩
  have f__law_draw := df_of F__law_draw m__law_draw (ok_law_draw (w := w) (base := base) T  F__law_draw) b__law_draw
  have f__law_hand := df_of F__law_hand m__law_hand (ok_hand (w := w) (base := base) T  F__law_hand) b__law_hand
  have f_is_integer := df_of F_is_integer m_is_integer (ok_is_integer (W := RW) (w := w) (base := base) T  F_is_integer) b_is_integer
  have f_is_within := df_of F_is_within m_is_within (ok_is_within (W := RW) (w := w) (base := base) T f_is_integer F_is_within) b_is_within
  have q_Book_raw_put : Cf PP w K mg base 1 (He.ga K "Book") "raw_put" _ := ⟨⟨_, _, _, (ok_raw_put (w := w) (base := base) T cB F_Book_raw_put), ⟨me_Book_raw_put.1, me_Book_raw_put.2, F_Book_raw_put.kp⟩, binds_of b_Book_raw_put⟩, cls_Book⟩
  have q_Book_fresh : Cf PP w K mg base 2 (He.ga K "Book") "fresh" _ := ⟨⟨_, _, _, (ok_fresh (w := w) (base := base) T cB q_Book_raw_put F_Book_fresh), ⟨me_Book_fresh.1, me_Book_fresh.2, F_Book_fresh.kp⟩, binds_of b_Book_fresh⟩, cls_Book⟩
  have q_Book_is_number : Cf PP w K mg base 3 (He.ga K "Book") "is_number" _ := ⟨⟨_, _, _, (ok_is_number (w := w) (base := base) T cB f_is_within F_Book_is_number), ⟨me_Book_is_number.1, me_Book_is_number.2, F_Book_is_number.kp⟩, binds_of b_Book_is_number⟩, cls_Book⟩
  have q_Book_check_term : Cf PP w K mg base 4 (He.ga K "Book") "check_term" _ := ⟨⟨_, _, _, (ok_check_term (w := w) (base := base) T cB r_NoTerm q_Book_is_number F_Book_check_term), ⟨me_Book_check_term.1, me_Book_check_term.2, F_Book_check_term.kp⟩, binds_of b_Book_check_term⟩, cls_Book⟩
  have q_Book_raw_kind : Cf PP w K mg base 1 (He.ga K "Book") "raw_kind" _ := ⟨⟨_, _, _, (ok_raw_kind (w := w) (base := base) T cB F_Book_raw_kind), ⟨me_Book_raw_kind.1, me_Book_raw_kind.2, F_Book_raw_kind.kp⟩, binds_of b_Book_raw_kind⟩, cls_Book⟩
  have q_Book_raw_parts : Cf PP w K mg base 1 (He.ga K "Book") "raw_parts" _ := ⟨⟨_, _, _, (ok_raw_parts (w := w) (base := base) T cB F_Book_raw_parts), ⟨me_Book_raw_parts.1, me_Book_raw_parts.2, F_Book_raw_parts.kp⟩, binds_of b_Book_raw_parts⟩, cls_Book⟩
  have q_Book_kind : Cf PP w K mg base 5 (He.ga K "Book") "kind" _ := ⟨⟨_, _, _, (ok_kind (w := w) (base := base) T cB q_Book_check_term q_Book_raw_kind F_Book_kind), ⟨me_Book_kind.1, me_Book_kind.2, F_Book_kind.kp⟩, binds_of b_Book_kind⟩, cls_Book⟩
  have q_Book_parts : Cf PP w K mg base 5 (He.ga K "Book") "parts" _ := ⟨⟨_, _, _, (ok_parts (w := w) (base := base) T cB q_Book_check_term q_Book_raw_parts F_Book_parts), ⟨me_Book_parts.1, me_Book_parts.2, F_Book_parts.kp⟩, binds_of b_Book_parts⟩, cls_Book⟩
  have q_Book_size : Cf PP w K mg base 1 (He.ga K "Book") "size" _ := ⟨⟨_, _, _, (ok_size (w := w) (base := base) T cB F_Book_size), ⟨me_Book_size.1, me_Book_size.2, F_Book_size.kp⟩, binds_of b_Book_size⟩, cls_Book⟩
  have q_Book_inner : Cf PP w K mg base 1 (He.ga K "Book") "inner" _ := ⟨⟨_, _, _, (ok_inner (w := w) (base := base) T cB F_Book_inner), ⟨me_Book_inner.1, me_Book_inner.2, F_Book_inner.kp⟩, binds_of b_Book_inner⟩, cls_Book⟩
  have q_Book_raw_within : Cf PP w K mg base 2 (He.ga K "Book") "raw_within" _ := ⟨⟨_, _, _, (ok_raw_within (w := w) (base := base) T q_Book_inner F_Book_raw_within), ⟨me_Book_raw_within.1, me_Book_raw_within.2, F_Book_raw_within.kp⟩, binds_of b_Book_raw_within⟩, cls_Book⟩
  have q_Book_within : Cf PP w K mg base 4 (He.ga K "Book") "within" _ := ⟨⟨_, _, _, (ok_within (w := w) (base := base) T r_NoTerms q_Book_is_number q_Book_raw_within F_Book_within), ⟨me_Book_within.1, me_Book_within.2, F_Book_within.kp⟩, binds_of b_Book_within⟩, cls_Book⟩
  have kBook := Cm.mk (P := PP) ⟨_, _, _, mk_Book, (ok_Book_init (w := w) (base := base) T cB F_Book___init__), binds_of b_Book___init__⟩ g_Book
  have f_onion := df_of F_onion m_onion (ok_onion (w := w) (base := base) T q_Book_raw_put q_Book_fresh F_onion) b_onion
  have f_laid := df_of F_laid m_laid (ok_laid (W := RW) (w := w) (base := base) T  F_laid) b_laid
  have f_is_order := df_of F_is_order m_is_order (ok_is_order (W := RW) (w := w) (base := base) T f_is_within F_is_order) b_is_order
  have f_are_orders := df_of F_are_orders m_are_orders (ok_are_orders (W := RW) (w := w) (base := base) T f_is_order F_are_orders) b_are_orders
  have f_is_lot_of := df_of F_is_lot_of m_is_lot_of (ok_is_lot_of (W := RW) (w := w) (base := base) T f_is_within F_is_lot_of) b_is_lot_of
  have f_check_senders := df_of F_check_senders m_check_senders (ok_check_senders (W := RW) (w := w) (base := base) T cBadMix f_is_within f_are_orders F_check_senders) b_check_senders
  have f_check_mix := df_of F_check_mix m_check_mix (ok_check_mix (W := RW) (w := w) (base := base) T cBadMix f_check_senders f_is_lot_of F_check_mix) b_check_mix
  have f_framed := df_of F_framed m_framed (ok_framed (w := w) (base := base) T kBook q_Book_raw_put q_Book_fresh f_onion f_laid F_framed) b_framed
  have f_mix_frame := df_of F_mix_frame m_mix_frame (ok_mix_frame (w := w) (base := base) T f_check_mix f_framed F_mix_frame) b_mix_frame
  have f__law_made : Df PP w K mg base 5 "_law_made" (spX RW fun _ _ _ _ => False) := df_of F__law_made m__law_made (bot fun ds s k x h => h) b__law_made
  have f__law_made := df_of F__law_made m__law_made (ok_made (w := w) (base := base) T q_Book_kind q_Book_parts f__law_made F__law_made) b__law_made
  have f__law_reads := df_of F__law_reads m__law_reads (ok_reads (w := w) (base := base) T q_Book_kind q_Book_parts f__law_made F__law_reads) b__law_reads
  have f__law_opened := df_of F__law_opened m__law_opened (ok_opened (w := w) (base := base) T q_Book_within f__law_reads F__law_opened) b__law_opened
  have f__law_mixed := df_of F__law_mixed m__law_mixed (ok_mixed (w := w) (base := base) T f__law_draw F__law_mixed) b__law_mixed
  have f__law_mix := df_of F__law_mix m__law_mix (ok_mix (w := w) (base := base) T f__law_draw f__law_mixed F__law_mix) b__law_mix
  have f__law_box_right := df_of F__law_box_right m__law_box_right (ok_box_right (w := w) (base := base) T q_Book_kind q_Book_parts F__law_box_right) b__law_box_right
  have f__law_frame_right := df_of F__law_frame_right m__law_frame_right (ok_frame_right (w := w) (base := base) T q_Book_kind q_Book_parts f__law_box_right F__law_frame_right) b__law_frame_right
  exact (ok_law (w := w) (base := base) T f__law_hand f__law_mix f_mix_frame f__law_frame_right f__law_opened f__law_made q_Book_parts q_Book_size F_law)
end Law
set_option Elab.async false
set_option linter.all false
set_option maxRecDepth 100000
set_option maxHeartbeats 0
open PySem PySem.W PySem.Calls PyProof.Rows
theorem PySem.Challenge.cw_veilpost_k28_whole_frames_of_mixes_holds : PySem.Challenge.rw_veilpost_k28_whole_frames_of_mixes.Holds := by
  w_on; o_law; o_head Law.hk; (case hw => w_witness2)
  refine Gl.law_end (l := PySem.Challenge.rw_veilpost_k28_whole_frames_of_mixes) (n := 63) (k := 9) (x := "script") rfl (by decide) (by kernel_rfl) ⟨rfl, by decide, by decide⟩ ?F
  intro w mg fa h Y G hmg
  obtain ⟨K, KX, c⟩ := Y
  obtain ⟨fd, hb, hF⟩ := Law.facts (w := w) KX G hmg c
  exact ⟨K, fd, Law.spLaw K, KX, hb, fun H a ns hl _ hS => ⟨a, ns, rfl, Nat.le_trans hl (by decide), hS, fun _ => rfl⟩, hF⟩
