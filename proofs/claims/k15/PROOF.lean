import PyProof.Rows.All
import Wide.All
import OpenK.AllK
import Wide.FinOn
import KE.KStateDown
import Lean
import HandS.ForMost
import HandS.ForExc
import HandS.More
import HandS.RaiseMore
import HandS.Defaults
import HandS.Style
import HandS.IsInst
import HandS.WideBits
import HandS.Flow
import HandS.DeepEq
import HandS.Deep
import HandS.OwnEq
import HandS.Conv
import HandS.Steps
import HandS.Walk
import HandS.Codes
import HandS.TupAny
import HandS.FStr
import HandS.TupLe
import HandS.Head0
import HandS.Head1
import HandS.Head2
import HandS.HeadEnd
import HandS.HeadHook1
import HandS.HeadHook2
import PyProof.ReprBulk
import PyProof.Rows.ReprShort
import KE.GoesMore
import KE.GoesEnum
import KE.KDictZip
import KE.SortData
import KE.KExcInit
import HandS.ExcInit
import HandS.ExcOwn
import HandS.ExcField
import HandS.ExcIs
import HandS.WordsExc
import HandS.TryMany
import HandS.TryOnly
import KE.KExcIs
import PyProof.FString4
import PyProof.CallFns
import HandS.JoinGen
import HandS.DictComp
import HandS.Sort
import PyProof.ListRange
import KE.DataFind
import PyProof.TupleOps
import KE.KUnpackStar
import HandS.MakeKw
import HandS.MakeKwOnly
import KE.KIntText
import HandS.Flt
import PyProof.InstNe
import PySem.Challenge.RW_doorcount_k15_equal_and_shown
set_option Elab.async false
set_option linter.all false
set_option maxRecDepth 100000
set_option maxHeartbeats 4000000
namespace Dc
open PySem PySem.Spec PyProof.Rows L2

/-! ## a def's promise, called where nothing is being shown (no repr runs around) -/
structure Ok (P : Program) (w : World) (K : PySem.W.Frag) (mg : Str → Option Value) (base : Heap) (CX : CXT) (k : Nat) (f : Addr) (fd : FuncData) (ps : List Str) (sp : Sp) : Prop where
  len : ∀ {vs H Q E}, sp vs H Q E → vs.length = ps.length
  run : ∀ {A : Around} {outer : List Env} {s : Shared} {H : Hp} {args : Args} {us : List Value} {vs : List V} {Q : VK} {E : XK},
    Room k A → A.guards = some [] → Env0 P w K mg base A outer s H → BindsTo s fd args (ps.zip us) → Vals vs us → sp vs H Q E →
      codeAny (model P w) A (.call (.ref f) args) (CR CX outer P w H s Q E) s
section
variable {P : Program} {w : World} {K : PySem.W.Frag} {mg : Str → Option Value} {base : Heap} {CX : CXT} {k j : Nat} {f : Addr} {fd : FuncData} {ps : List Str} {sp sp' : Sp}
theorem Ok.of (F : FnOk P w K mg base CX k f fd ps sp) : Ok P w K mg base CX k f fd ps sp :=
  ⟨fun h => F.len _ _ _ _ h, fun hr _ e hb hv h => F.run _ _ _ _ _ _ _ _ _ hr e hb hv h⟩
theorem Ok.up (F : Ok P w K mg base CX j f fd ps sp) (h : j ≤ k) : Ok P w K mg base CX k f fd ps sp :=
  ⟨F.len, fun hr g e hb hv q => F.run (hr.mono h) g e hb hv q⟩
theorem Ok.imp (F : Ok P w K mg base CX k f fd ps sp) (h : ∀ {vs H Q E}, sp' vs H Q E → sp vs H Q E) : Ok P w K mg base CX k f fd ps sp' :=
  ⟨fun q => F.len (h q), fun hr g e hb hv q => F.run hr g e hb hv (h q)⟩
/-- THE RULE for a def -/
theorem okD {x qual : Str} {params : Arguments} {body : List Stmt} {scope : Scope} {dvs : List V} {kws : List (Str × V)} {N : List Str}
    (F : FunD K x qual params body scope dvs kws f fd) (S : FnScope N ps scope) (len : ∀ {vs H Q E}, sp vs H Q E → vs.length = ps.length)
    (hbody : ∀ (cdv : Value) (A : Around) (outer : List Env) (s : Shared) (H : Hp) (vs : List V) (Q : VK) (E : XK),
      Room k (A.deeper (envOfC qual scope s.heap.objs.size f cdv)) → A.guards = some [] → sp vs H Q E →
      ∃ t, PSs (cxOf CX P w K mg base N qual scope f cdv A outer s H E) body t ∧
        t { nx := fun _ H' => Q .non H', rt := Q } (start N vs) H) :
    Ok P w K mg base CX (k + 1) f fd ps sp := by
  obtain ⟨oc, od, dV, kV, doc, pm, an, cdv, ct, osl, rfl, lk, hcd, _, _⟩ := F.ex
  refine ⟨len, fun {A outer s H args us vs Q E} hr hg e0 hb r hsp => ?_⟩
  have hl := len hsp
  have KX : K.In s.heap := e0.mod.kin.keeps (fun b o e => (e0.bs b o e).1)
  have lim : s.heap.NoLimit := e0.mod.nolimit.keeps (fun b o e => (e0.bs b o e).1)
  have hkind : ∀ y ∈ ps.zip us, scope.names.lookup y.1 = some .local ∨
      (scope.names.lookup y.1 = some .cell ∧ ((cellsFrom (s.heap.objs.size + 1) scope.names []).lookup y.1).isSome = true) := by
    rintro ⟨n, v⟩ hy
    rcases S.par n (List.of_mem_zip hy).1 with q | q
    · exact .inl q
    · exact .inr ⟨q, PySem.W.cellsFrom_some _ _ _ (.inl q)⟩
  refine codeAny_call_function hr.depth (KX _ _ lk) rfl S.co S.gen rfl (PySem.W.codeRec_of KX hcd) (hb _ _ _ _ ?_)
  refine wpAny_newFunctionEnv_cells S.kind hkind (fun env he s1 x => ?_)
  subst he
  refine ⟨lim.keeps x.toInCall.keep, codeAny_func ?_⟩
  obtain ⟨t, ht, hq⟩ := hbody cdv A outer s H vs Q E (hr.deeper _) hg hsp
  have I := inv_start (CX := CX) (E := E) S hr.hd e0 hl r x
  refine wpAny_mono (ht.run [] s1 (start N vs) H _ I hq) ?_ (fun e s' hs => hs)
  intro fl s' hs
  cases fl with
  | ret u =>
    obtain ⟨v, σ', H', J, rv, q⟩ := hs
    exact ⟨v, H', J.os, J.bare, J.base, J.hok, rv, q⟩
  | next =>
    obtain ⟨σ', H', J, q⟩ := hs
    exact ⟨V.non, H', J.os, J.bare, J.base, J.hok, rfl, q⟩
  | brk =>
    obtain ⟨_, _, _, q⟩ := hs
    cases q
  | cont =>
    obtain ⟨_, _, _, q⟩ := hs
    cases q
end

/-! ## calls -/
section
variable {X : Cx} {CX : CXT} {k n : Nat} {f C : Addr} {fd : FuncData} {ps ks : List Str} {sp : Sp} {E : XK} {x m : Str} {p pos apos : Pos} {e o : Expr} {es : List Expr} {kws : List Keyword} {ta : TE} {t tk : TA}
  {pins : List (Addr × Obj)} {σ : L2.St} {H : Hp} {s : Shared} {Q : VK} {us ws : List Value} {vs zs : List V} {g : List Value → List Value → List Value} {gV : List V → List V → List V}

theorem run_any (F : Ok X.prog X.w X.K X.mg X.base CX k f fd ps sp) (hr : Room k X.A) (hgd : X.A.guards = some []) (hx : Passes CX X E) (I : Inv X pins σ H s)
    {kw : List (Str × Value)} {bs : List Value} {vs : List V} (hb : BindsTo s fd ⟨us, kw⟩ (ps.zip bs)) (r : Vals vs bs) (h : sp vs H Q E) :
    wpAny (model X.prog X.w) X.A (call (.ref f) us kw) (EP X pins σ Q) X.xe s := by
  refine wpAny_call (codeAny_mono (F.run hr hgd I.env0 hb r h) ?_)
  intro r s' hq
  cases r with
  | error e => exact hx pins σ H s e s' I hq
  | ok fl =>
    cases fl with
    | ret u => exact I.after hq
    | next => cases hq
    | brk => cases hq
    | cont => cases hq
theorem run_pos (F : Ok X.prog X.w X.K X.mg X.base CX k f fd ps sp) (hr : Room k X.A) (hgd : X.A.guards = some []) (hb : Binds X.K fd ps []) (hx : Passes CX X E)
    (I : Inv X pins σ H s) (r : Vals vs us) (h : sp vs H Q E) : wpAny (model X.prog X.w) X.A (call (.ref f) us) (EP X pins σ Q) X.xe s := by
  have hl : (us ++ []).length = ps.length := by
    rw [List.append_nil, ← r.length]
    exact F.len h
  have b := hb s us I.kIn hl
  rw [List.append_nil] at b
  exact run_any F hr hgd hx I b r h
/-- f(e, ..) -/
def tF (sp : Sp) (E : XK) (t : TA) : TE := fun σ H Q => t σ H fun vs H1 => sp vs H1 Q E
theorem g_call (F : Ok X.prog X.w X.K X.mg X.base CX k f fd ps sp) (hr : Room k X.A) (hgd : X.A.guards = some []) (hm : X.mg x = some (.ref f)) (hk : PySem.W.keepIn X.K (.ref f) = true) (hb : Binds X.K fd ps []) (hx : Passes CX X E)
    (ha : PA X (e :: es) t) (hg : Gl X x := by rfl) (hdb : (x == ("__debug__" : Str)) = false := by decide)
    (he : starEach (e :: es) X.env = (false, eval e X.env) :: starEach es X.env := by rfl)
    (hpl : (backTo pos (starEach es X.env)).any (·.1) = false := by rfl) : PE X (.Call (.Name x p) (e :: es) [] pos) (tF sp E t) := by
  constructor
  intro pins s σ H Q I h
  refine wpAny_Call_Name_kw (ld_glob I hg hm ?_ hdb)
  refine PySem.W.callWith_K (h₀ := X.base) I.ok.mod.kin hk (thn (ha.run pos pins s σ H _ I h) ?_) he hpl
  rintro us s1 ⟨vs, H1, I1, r, q⟩
  exact ⟨I1.kIn, run_pos F hr hgd hb hx I1 r q⟩
theorem g_call0 (F : Ok X.prog X.w X.K X.mg X.base CX k f fd ps sp) (hr : Room k X.A) (hgd : X.A.guards = some []) (hm : X.mg x = some (.ref f)) (hk : PySem.W.keepIn X.K (.ref f) = true) (hb : Binds X.K fd ps []) (hx : Passes CX X E)
    (hg : Gl X x := by rfl) (hdb : (x == ("__debug__" : Str)) = false := by decide) : PE X (.Call (.Name x p) [] [] pos) (tF sp E tNil) := by
  constructor
  intro pins s σ H Q I h
  refine wpAny_Call_Name_kw (ld_glob I hg hm ?_ hdb)
  exact PySem.W.callWith_K0 I.kIn hk (run_pos (us := []) F hr hgd hb hx I .nil h)
/-- o.m(e, ..) -/
def tM (C : Addr) (m : Str) (sp : Sp) (E : XK) (ta : TE) (t : TA) : TE := fun σ H Q => ta σ H fun x H1 => ∃ a dx fs, x = .ref a ∧ H1 a = some (.ins C dx fs) ∧ fs.lookup m = none ∧ t σ H1 fun vs H2 => sp (x :: vs) H2 Q E
theorem g_meth {pl : Sem Bool} (ho : PE X o ta) (c : Cls X.K C) (hm : Meth X.K C m f) (F : Ok X.prog X.w X.K X.mg X.base CX k f fd ps sp) (hr : Room k X.A) (hgd : X.A.guards = some []) (hb : Binds X.K fd ps []) (hx : Passes CX X E) (ha : PA X (e :: es) t)
    (hst : starEach (e :: es) X.env = (false, eval e X.env) :: starEach es X.env := by rfl)
    (hpl : (backTo pos (starEach es X.env)).any (·.1) = false := by rfl)
    (ht : eval (.Call (.Attribute o m apos) (e :: es) [] pos) X.env = (do
        let ov ← eval o X.env
        standAt apos.atName
        let (f, first) ← holding [ov] (getMethod ov m pl)
        callWith pos f first (backTo pos (starEach (e :: es) X.env)) (backToKw pos (keywordEach [] X.env))) := by rfl) :
    PE X (.Call (.Attribute o m apos) (e :: es) [] pos) (tM C m sp E ta t) := by
  constructor
  intro pins s σ H Q I h
  refine PySem.W.methodCall_KW (pl := pl) (thn (ho.run pins s σ H _ I h) ?_) ht
  rintro u s1 ⟨x, H1, I1, rx, a, dx, fs, rfl, ea, l, q⟩
  obtain rfl : u = Value.ref a := rx
  refine getmeth_ok I1 ea c hm l ?_
  refine PySem.W.callWith_K (first := [.ref a]) (h₀ := X.base) I.ok.mod.kin hm.kp (thn (ha.run pos pins s1 σ H1 _ I1 q) ?_) hst hpl
  rintro us s2 ⟨vs, H2, I2, r, q2⟩
  exact ⟨I2.kIn, run_pos (us := .ref a :: us) (vs := .ref a :: vs) F hr hgd hb hx I2 (.cons rfl r) q2⟩
theorem g_meth0 {pl : Sem Bool} (ho : PE X o ta) (c : Cls X.K C) (hm : Meth X.K C m f) (F : Ok X.prog X.w X.K X.mg X.base CX k f fd ps sp) (hr : Room k X.A) (hgd : X.A.guards = some []) (hb : Binds X.K fd ps []) (hx : Passes CX X E)
    (ht : eval (.Call (.Attribute o m apos) [] [] pos) X.env = (do
        let ov ← eval o X.env
        standAt apos.atName
        let (f, first) ← holding [ov] (getMethod ov m pl)
        callWith pos f first (backTo pos (starEach [] X.env)) (backToKw pos (keywordEach [] X.env))) := by rfl) :
    PE X (.Call (.Attribute o m apos) [] [] pos) (tM C m sp E ta tNil) := by
  constructor
  intro pins s σ H Q I h
  refine PySem.W.methodCall_KW (pl := pl) (thn (ho.run pins s σ H _ I h) ?_) ht
  rintro u s1 ⟨x, H1, I1, rx, a, dx, fs, rfl, ea, l, q⟩
  obtain rfl : u = Value.ref a := rx
  refine getmeth_ok I1 ea c hm l ?_
  exact PySem.W.callWith_K0 (first := [.ref a]) I1.kIn hm.kp (run_pos (us := [.ref a]) (vs := [.ref a]) F hr hgd hb hx I1 (.cons rfl .nil) q)
/-- C(e, ..) -/
def tMk (C : Addr) (sp : Sp) (E : XK) (t : TA) : TE := fun σ H Q => t σ H fun vs H1 => ∀ x dx, H1 x = none → H1 dx = none → dx ≠ x →
  sp (.ref x :: vs) (upd (upd H1 dx (.own x)) x (.ins C dx [])) (fun v H2 => v = .non ∧ Q (.ref x) H2) E
theorem make_guards {A : Around} {us : List Value} {kw : List (Str × Value)} : (A.under (.builtin "type.__call__" ⟨.ref C :: us, kw⟩)).guards = A.guards := by
  simp [Around.under, Code.guards, Code.isGuard, guardIds, pushGuards]
theorem run_mk (M : Mk X.K C f) (F : Ok X.prog X.w X.K X.mg X.base CX k f fd ps sp) (hr : Room (k + 1) X.A) (hgd : X.A.guards = some []) (hx : Passes CX X E) (hb : Binds X.K fd ps []) (I : Inv X pins σ H s) (r : Vals vs us)
    (h : ∀ x dx, H x = none → H dx = none → dx ≠ x → sp (.ref x :: vs) (upd (upd H dx (.own x)) x (.ins C dx [])) (fun v H2 => v = .non ∧ Q (.ref x) H2) E) :
    wpAny (model X.prog X.w) X.A (call (.ref C) us) (EP X pins σ Q) X.xe s := by
  have hq := h (s.heap.objs.size + 1) s.heap.objs.size (I.hok.fresh (Nat.le_succ _)) (I.hok.fresh (Nat.le_refl _)) (Nat.ne_of_lt (Nat.lt_succ_self _))
  have I2 := Inv.made (C := C) I
  have r2 : Vals (V.ref (s.heap.objs.size + 1) :: vs) (Value.ref (s.heap.objs.size + 1) :: us) := .cons rfl r
  have hl : (Value.ref (s.heap.objs.size + 1) :: us ++ []).length = ps.length := by
    rw [List.append_nil, ← r2.length]
    exact F.len hq
  have b := hb _ (Value.ref (s.heap.objs.size + 1) :: us) I2.kIn hl
  rw [List.append_nil] at b
  refine wpAny_call (make_map (f := f) I.kIn M.makes M.init (beq_iff_eq.mp M.fn) (codeAny_mono (F.run (hr.make C us []) (make_guards.trans hgd) (I2.env0.make C us []) b r2 hq) ?_))
  intro r s' hq'
  cases r with
  | error e => exact hx pins σ _ _ e s' I2 hq'
  | ok fl =>
    cases fl with
    | ret u =>
      obtain ⟨v, H', I3, rv, ev, q3⟩ := I2.after hq'
      subst ev
      exact ⟨rv, V.ref (s.heap.objs.size + 1), H', I3, rfl, q3⟩
    | next => cases hq'
    | brk => cases hq'
    | cont => cases hq'
theorem g_make (M : Mk X.K C f) (F : Ok X.prog X.w X.K X.mg X.base CX k f fd ps sp) (hr : Room (k + 1) X.A) (hgd : X.A.guards = some []) (hm : X.mg x = some (.ref C)) (hb : Binds X.K fd ps []) (hx : Passes CX X E)
    (ha : PA X (e :: es) t) (hg : Gl X x := by rfl) (hdb : (x == ("__debug__" : Str)) = false := by decide)
    (he : starEach (e :: es) X.env = (false, eval e X.env) :: starEach es X.env := by rfl)
    (hpl : (backTo pos (starEach es X.env)).any (·.1) = false := by rfl) : PE X (.Call (.Name x p) (e :: es) [] pos) (tMk C sp E t) := by
  constructor
  intro pins s σ H Q I h
  refine wpAny_Call_Name_kw (ld_glob I hg hm ?_ hdb)
  refine PySem.W.callWith_K (h₀ := X.base) I.ok.mod.kin M.kp (thn (ha.run pos pins s σ H _ I h) ?_) he hpl
  rintro us s1 ⟨vs, H1, I1, r, q⟩
  exact ⟨I1.kIn, run_mk M F hr hgd hx hb I1 r q⟩
end

/-! ## repr of data -/
section
variable {X : Cx}
/-- the text of a datum is short enough -/
def rRepr (K : PySem.W.Frag) : List V → Hp → VK → Prop := fun xs H Q => ∃ a d, xs = [.ref a] ∧ Dp K H (.ref a) d ∧ d.showable = true ∧ d.hasDict = false ∧ d.depth ≤ 50 ∧ d.shown.length ≤ sizeLine ∧ Q (.str d.shown) H
theorem call_reprD (hgd : X.A.guards = some []) (hu : X.A.units + 64 < cLine) : CallR X (.builtin "repr") (rRepr X.K) := by
  intro pins s σ H xs us Q I r h
  obtain ⟨a, d, rfl, hd, h1, h2, h3, h4, q⟩ := h
  obtain ⟨u, rfl, ru⟩ := vals1 r
  obtain ⟨as, hr⟩ := Dp.reads I d _ _ hd ru
  cases ru
  refine repr_of_reads' hr h1 (PyData.noDict_hsm h2) hgd (by omega) (fun _ _ e => e) ?_ h4
  intro h' u tk hk
  exact ⟨.str d.shown, H, I.kept hk, ⟨u, rfl⟩, q⟩
end
end Dc

namespace Dc
open PySem PySem.Spec PyProof.Rows L2
/-! ## the law's end -/
section
variable {P : Program} {w : World} {K : PySem.W.Frag} {mg mb : Str → Option Value} {CX : CXT} {k : Nat} {fa a : Addr} {fd : FuncData} {x : Str} {sp : Sp} {s₁ : Shared} {vs : List Value} {ns : List Int}
abbrev LawPost (s₁ : Shared) (r : Result) (s' : Shared) : Prop :=
  r = .ok (.ret (.bool true)) ∧ OldK s₁.heap s'.heap ∧ s'.os = s₁.os ∧ AllBare s'.gens
/-- what is known of the state in which the law is called -/
structure LawAt (K : PySem.W.Frag) (mg mb : Str → Option Value) (a : Addr) (vs : List Value) (s₁ : Shared) : Prop where
  kin : K.In s₁.heap
  ns : s₁.heap.Ns mainGlobals mg
  bl : s₁.heap.Ns builtinsNs mb
  blb : ∀ x : Str, x ≠ "__name__" → mb x = bootBuiltins x
  lim : s₁.heap.NoLimit
  gens : s₁.gens = #[]
  list : s₁.heap.get? a = some { cls := .type "list", data := .seq vs.toArray }
theorem law_core (L : LawAt K mg mb a vs s₁) (hr : Room k callerA)
    (F : ∀ base : Heap, K.In base → base.Ns mainGlobals mg → Ok P w K mg base CX k fa fd [x] sp)
    (hbind : ∀ (s : Shared) (u : Value), BindsTo s fd ⟨[u], []⟩ [(x, u)])
    (hCX : ∀ H e s', CX [] H s₁ (fun _ _ _ => False) e s' → False)
    {H : Hp} (hO : Only H) (hsp : sp [.ref a] H (fun v _ => v = .bl true) fun _ _ _ => False)
    (hok : HOk P w H s₁.heap) (hA : ∀ b, H b ≠ none → b = a) (hK : H a ≠ none → K.lookup a = none) :
    codeAny (model P w) callerA (.call (.ref fa) ⟨[.ref a], []⟩) (LawPost s₁) s₁ := by
  have only : ∀ {b u}, H b = some u → b = a := fun {b u} q => hA b (by rw [q]; exact Option.some_ne_none _)
  have noA : ∀ {b : Addr} {o : Obj} {es : Array DictEntry} {ep : Nat}, s₁.heap.get? b = some o → o.data = .dict es ep → H b = none := by
    intro b o es ep e d
    cases q : H b with
    | none => rfl
    | some u =>
      cases only q
      rw [L.list] at e
      cases e
      cases d
  have nsK : ∀ {b : Addr} {m : Str → Option Value}, s₁.heap.Ns b m → (hidT s₁.heap H).Ns b m := by
    rintro b m ⟨o, es, ep, e, d, r⟩
    exact ⟨o, es, ep, hidT_get e (noA e d), d, r⟩
  have hKb : K.In (hidT s₁.heap H) := by
    intro b o e
    refine hidT_get (L.kin b o e) ?_
    cases q : H b with
    | none => rfl
    | some u =>
      cases only q
      rw [hK (by rw [q]; exact Option.some_ne_none _)] at e
      cases e
  have hl : (hidT s₁.heap H).NoLimit := by
    obtain ⟨mc, h1, h2⟩ := L.lim
    exact ⟨mc, nsK h1, h2⟩
  have e0 : Env0 P w K mg (hidT s₁.heap H) callerA [] s₁ H :=
    ⟨rfl, ⟨hKb, nsK L.ns, ⟨mb, nsK L.bl, L.blb⟩, hl⟩, fun b o e => of_hidT e, Nat.le_of_eq (hidT_size _ _), trivial,
      fun b hb => absurd (show b ∈ ([] : List Addr) from hb) List.not_mem_nil, hok, .of_eq L.gens⟩
  have C := (F _ hKb (nsK L.ns)).run (us := [.ref a]) (vs := [.ref a]) hr rfl e0 (hbind s₁ (.ref a)) (.cons rfl .nil) hsp
  refine codeAny_mono C ?_
  intro r s' h
  cases r with
  | error e => exact (hCX H e s' h).elim
  | ok fl =>
    cases fl with
    | next => cases h
    | brk => cases h
    | cont => cases h
    | ret u =>
      obtain ⟨v, H', os, bare, un, hok', r', q⟩ := h
      cases (show v = .bl true from q)
      obtain rfl : u = Value.bool true := r'
      refine ⟨rfl, OldK.of_keep (fun b o e => ?_), os, bare⟩
      cases q : H b with
      | none => exact un.keep b o e q (fun z => absurd (show b ∈ ([] : List Addr) from z) List.not_mem_nil) List.not_mem_nil
      | some u =>
        rcases hO b with z | ⟨ob, xs, z⟩
        · rw [q] at z
          cases z
        · obtain ⟨e1, _⟩ := hok b _ z
          obtain ⟨e2, _⟩ := hok' b _ (un.frzs b ob _ z)
          rw [e] at e1
          cases e1
          exact e2
theorem law_end (L : LawAt K mg mb a vs s₁) (hi : IntsAre vs ns) (hl : ns.length ≤ sizeLine) (hr : Room k callerA)
    (F : ∀ base : Heap, K.In base → base.Ns mainGlobals mg → Ok P w K mg base CX k fa fd [x] sp)
    (hbind : ∀ (s : Shared) (u : Value), BindsTo s fd ⟨[u], []⟩ [(x, u)])
    (hsp : ∀ H : Hp, Only H → SqL K H a (ns.map V.int) → sp [.ref a] H (fun v _ => v = .bl true) fun _ _ _ => False)
    (hCX : ∀ H e s', CX [] H s₁ (fun _ _ _ => False) e s' → False) :
    codeAny (model P w) callerA (.call (.ref fa) ⟨[.ref a], []⟩) (LawPost s₁) s₁ := by
  have rv := vals_ints hi
  have lenV := hi.length
  cases hk : K.lookup a with
  | some o =>
    have e := L.kin a o hk
    rw [L.list] at e
    cases e
    have only : Only (fun _ => none) := fun _ => .inl rfl
    refine law_core L hr F hbind hCX only (hsp _ only (.inr ⟨_, vs.toArray, _, hk, rfl, rfl, rfl, ?_, ?_⟩)) ?_ ?_ ?_
    · rw [List.size_toArray, lenV]
      exact hl
    · simpa using rv
    · intro b u z
      cases (show (none : Option HO) = some u from z)
    · exact fun b z => absurd rfl z
    · exact fun z => absurd rfl z
  | none =>
    let Hs : Hp := fun b => if b = a then some (.frz { cls := .type "list", data := .seq vs.toArray } (.lst (ns.map V.int))) else none
    have at_ : Hs a = some (.frz { cls := .type "list", data := .seq vs.toArray } (.lst (ns.map V.int))) := if_pos rfl
    have off : ∀ {b}, b ≠ a → Hs b = none := fun h => if_neg h
    have only : Only Hs := by
      intro b
      by_cases hb : b = a
      · exact .inr ⟨_, _, by rw [hb]; exact at_⟩
      · exact .inl (off hb)
    refine law_core L hr F hbind hCX only (hsp _ only (.inl (.inr ⟨_, at_⟩))) ?_ ?_ (fun _ => hk)
    · intro b u z
      by_cases hb : b = a
      · subst hb
        rw [at_] at z
        cases z
        exact ⟨L.list, by rw [List.length_map]; exact hl, vs, _, rv, L.list⟩
      · rw [off hb] at z
        cases z
    · intro b z
      by_cases hb : b = a
      · exact hb
      · exact absurd (off hb) z
end
theorem walkE {l : PySem.W.OpenLaw} {n k : Nat} {q : Program} {loose : List Str} {XP : (Str → Option Value) → Heap → Prop} {YP : World → Heap → Prop} {d : DefRec} {CX : World → CXT} {x : Str}
    (hn : l.most = some n) (hn2 : n ≤ sizeLine) (hdf : d.params.defaults = []) (hr : Room k callerA)
    (F : ∀ (w : World) (mg : Str → Option Value) (fa : Addr) (h : Heap), YP w h → h.Ns mainGlobals mg → mg d.name = some (.ref fa) →
      ∃ (K : PySem.W.Frag) (fd : FuncData) (sp : Sp), K.In h ∧ (∀ (s : Shared) (u : Value), BindsTo s fd ⟨[u], []⟩ [(x, u)]) ∧
        (∀ (H : Hp) (a : Addr) (ns : List Int), ns.length ≤ n → SqL K H a (ns.map V.int) → sp [.ref a] H (fun v _ => v = .bl true) fun _ _ _ => False) ∧
        ∀ base : Heap, K.In base → base.Ns mainGlobals mg → Ok l.prog w K mg base (CX w) k fa fd [x] sp)
    (hCX : ∀ (w : World) (H : Hp) (s : Shared) (e : Value) (s' : Shared), CX w [] H s (fun _ _ _ => False) e s' → False) :
    PySem.W.WalkO q loose XP YP l.row.toRowW d [] (fun f vs => PySem.call f vs) := by
  refine Att.attach_call hn hdf ?_
  intro w s₀ s₁ mg mb fa o pm cd doc a vs ns G Y ho hd hcd hmg hobj hints hlen hg
  obtain ⟨K, fd, sp, KX, hb, hsp, hF⟩ := F w mg fa _ Y G.T.g hmg
  exact law_end ⟨KX, G.T.g, G.T.b, G.T.builtins, G.T.nolimit, hg, hobj⟩ hints (Nat.le_trans hlen hn2) hr hF hb
    (fun H _ hS => hsp H a ns hlen hS) (fun H e s' => hCX w H s₁ e s')
end Dc

namespace Dc
open PySem PySem.Spec PyProof.Rows L2
/-! ## what the top has written, by places in two lists -/
def fdAt (K : PySem.W.Frag) (p : Str × Option Str) : FuncData := match K.lookup (He.fAd K p) with
  | some ⟨_, _, .func fd, _⟩ => fd
  | _ => PySem.W.fnOf "" "" { posonlyargs := [], args := [], vararg := none, kwonlyargs := [], kw_defaults := [], kwarg := none, defaults := [] } [] { kind := .function, names := [], isGenerator := false, isCoroutine := false } .none .none .none .none none .none .none
structure Txt (fa : List He.Fa) (fn : List He.DefD) (K : PySem.W.Frag) (mg : Str → Option Value) : Prop where
  c : He.SaysD fa fn K
  h : ∃ h : Heap, K.In h ∧ h.Ns mainGlobals mg
section
variable {fa : List He.Fa} {fn : List He.DefD} {K : PySem.W.Frag} {mg : Str → Option Value}
variable (T : Txt fa fn K mg)
include T
theorem Txt.glo (i : Nat) {x : Str} (q : fa[i]? = some (.glo x) := by rfl) : mg x = some (.ref (He.ga K x)) := let ⟨_, X, G⟩ := T.h; He.glo_ok X G (T.c.fact i q)
theorem Txt.free (i : Nat) {x : Str} (q : fa[i]? = some (.free x) := by rfl) : mg x = none := let ⟨_, X, G⟩ := T.h; He.free_ok X G (T.c.fact i q)
theorem Txt.int (i : Nat) {x : Str} {n : Int} (q : fa[i]? = some (.int x n) := by rfl) : ∃ t, mg x = some (.int n t) := let ⟨_, X, G⟩ := T.h; He.int_ok X G (T.c.fact i q)
theorem Txt.str (i : Nat) {x y : Str} (q : fa[i]? = some (.str x y) := by rfl) : ∃ t, mg x = some (.str y t) := let ⟨_, X, G⟩ := T.h; He.str_ok X G (T.c.fact i q)
theorem Txt.cls (i : Nat) {x : Str} (h : fa[i]? = some (.cls x) := by rfl) : Cls K (He.ga K x) := He.cls_ok (T.c.fact i h)
theorem Txt.noat (i : Nat) {x f : Str} (h : fa[i]? = some (.noat x f) := by rfl) : NoAttr K (He.ga K x) f := He.noat_ok (T.c.fact i h)
theorem Txt.meth (i : Nat) {x m : Str} (h : fa[i]? = some (.meth x m) := by rfl) : Meth K (He.ga K x) m (He.ma K (He.ga K x) m) := He.meth_ok (T.c.fact i h)
theorem Txt.mkr (i : Nat) {x : Str} (h : fa[i]? = some (.mkr x) := by rfl) : Mk K (He.ga K x) (He.ma K (He.ga K x) "__init__") := He.mkr_ok (T.c.fact i h)
theorem Txt.def_ (i : Nat) {d : He.DefD} (h : fn[i]? = some d := by rfl) : FunD K d.name d.qual d.params d.body d.scope (d.dvs K) (d.kws K) (He.fAd K d.at_) (fdAt K d.at_) := by
  obtain ⟨fd, F⟩ := T.c.def_ i h
  obtain ⟨oc, od, dV, kV, doc, pm, an, cdv, ct, osl, e, lk, r⟩ := F.ex
  have q : fdAt K d.at_ = fd := by
    unfold fdAt
    rw [lk]
  rw [q]
  exact F
end
/-! ## how a def is called: by its name, as a method, as __init__ -/
structure Cal (K : PySem.W.Frag) (mg : Str → Option Value) (x : Str) (f : Addr) (fd : FuncData) (ps : List Str) : Prop where
  m : mg x = some (.ref f)
  k : PySem.W.keepIn K (.ref f) = true
  b : L2.Binds K fd ps []
structure CalM (K : PySem.W.Frag) (C : Addr) (x : Str) (f : Addr) (fd : FuncData) (ps : List Str) : Prop where
  c : Cls K C
  m : Meth K C x f
  b : L2.Binds K fd ps []
structure CalI (K : PySem.W.Frag) (mg : Str → Option Value) (C : Addr) (x : Str) (f : Addr) (fd : FuncData) (ps : List Str) : Prop where
  m : mg x = some (.ref C)
  k : Mk K C f
  b : L2.Binds K fd ps []
section
variable {X : Cx} {CX : CXT} {k n : Nat} {f C : Addr} {fd : FuncData} {ps ks : List Str} {sp : Sp} {E : XK} {x m : Str} {p pos apos : Pos} {e o : Expr} {es : List Expr} {kws : List Keyword} {ta : TE} {t tk : TA}
theorem c_call (F : Ok X.prog X.w X.K X.mg X.base CX k f fd ps sp) (c : Cal X.K X.mg x f fd ps) (hr : Room k X.A) (hgd : X.A.guards = some []) (hx : Passes CX X E)
    (ha : PA X (e :: es) t) (hg : Gl X x := by rfl) (hdb : (x == ("__debug__" : Str)) = false := by decide)
    (he : starEach (e :: es) X.env = (false, eval e X.env) :: starEach es X.env := by rfl)
    (hpl : (backTo pos (starEach es X.env)).any (·.1) = false := by rfl) : PE X (.Call (.Name x p) (e :: es) [] pos) (tF sp E t) :=
  g_call F hr hgd c.m c.k c.b hx ha hg hdb he hpl
theorem c_meth {pl : Sem Bool} (F : Ok X.prog X.w X.K X.mg X.base CX k f fd ps sp) (c : CalM X.K C m f fd ps) (hr : Room k X.A) (hgd : X.A.guards = some []) (hx : Passes CX X E) (ho : PE X o ta) (ha : PA X (e :: es) t)
    (hst : starEach (e :: es) X.env = (false, eval e X.env) :: starEach es X.env := by rfl)
    (hpl : (backTo pos (starEach es X.env)).any (·.1) = false := by rfl)
    (ht : eval (.Call (.Attribute o m apos) (e :: es) [] pos) X.env = (do
        let ov ← eval o X.env
        standAt apos.atName
        let (f, first) ← holding [ov] (getMethod ov m pl)
        callWith pos f first (backTo pos (starEach (e :: es) X.env)) (backToKw pos (keywordEach [] X.env))) := by rfl) :
    PE X (.Call (.Attribute o m apos) (e :: es) [] pos) (tM C m sp E ta t) := g_meth ho c.c c.m F hr hgd c.b hx ha hst hpl ht
theorem c_meth0 {pl : Sem Bool} (F : Ok X.prog X.w X.K X.mg X.base CX k f fd ps sp) (c : CalM X.K C m f fd ps) (hr : Room k X.A) (hgd : X.A.guards = some []) (hx : Passes CX X E) (ho : PE X o ta)
    (ht : eval (.Call (.Attribute o m apos) [] [] pos) X.env = (do
        let ov ← eval o X.env
        standAt apos.atName
        let (f, first) ← holding [ov] (getMethod ov m pl)
        callWith pos f first (backTo pos (starEach [] X.env)) (backToKw pos (keywordEach [] X.env))) := by rfl) :
    PE X (.Call (.Attribute o m apos) [] [] pos) (tM C m sp E ta tNil) := g_meth0 ho c.c c.m F hr hgd c.b hx ht
theorem c_make (F : Ok X.prog X.w X.K X.mg X.base CX k f fd ps sp) (c : CalI X.K X.mg C x f fd ps) (hr : Room (k + 1) X.A) (hgd : X.A.guards = some []) (hx : Passes CX X E)
    (ha : PA X (e :: es) t) (hg : Gl X x := by rfl) (hdb : (x == ("__debug__" : Str)) = false := by decide)
    (he : starEach (e :: es) X.env = (false, eval e X.env) :: starEach es X.env := by rfl)
    (hpl : (backTo pos (starEach es X.env)).any (·.1) = false := by rfl) : PE X (.Call (.Name x p) (e :: es) [] pos) (tMk C sp E t) :=
  g_make c.k F hr hgd c.m c.b hx ha hg hdb he hpl
/-- len(o) by an own __len__ -/
def rLenO (C : Addr) (sp : Sp) (E : XK) : List V → Hp → VK → Prop := fun xs H Q => ∃ a dx fs, xs = [.ref a] ∧ H a = some (.ins C dx fs) ∧
  sp [.ref a] H (fun v H' => ∃ n : Nat, v = .int n ∧ n < 2 ^ 62 ∧ Q (.int n) H') E
theorem call_lenO (F : Ok X.prog X.w X.K X.mg X.base CX k f fd ps sp) (c : CalM X.K C "__len__" f fd ps) (hr : Room (k + 1) X.A) (hgd : X.A.guards = some []) (hx : Passes CX X E) :
    CallR X (.builtin "len") (rLenO C sp E) := by
  intro pins s σ H xs us Q I r h
  obtain ⟨a, dx, fs, rfl, ha, q⟩ := h
  obtain ⟨u, rfl, ru⟩ := vals1 r
  cases ru
  obtain ⟨mA, O, _, _, _, _⟩ := ins_get I.hok ha
  obtain ⟨m, fr⟩ := I.fr
  obtain ⟨od, J, _⟩ := O.look
  have hl : ([.ref a] ++ [] : List Value).length = ps.length := F.len q
  have b := c.b s [.ref a] I.kIn hl
  refine PySem.W.len_K fr I.ok.mod.kin J c.m.at_ c.m.fn (wpAny_call (codeAny_mono (F.run (vs := [.ref a]) (us := [.ref a]) (Room.in1 hr) hgd I.env0.in1 b (.cons rfl .nil) q) ?_))
  intro r s' hq
  cases r with
  | error e => exact hx pins σ H s e s' I hq
  | ok fl =>
    cases fl with
    | next => cases hq
    | brk => cases hq
    | cont => cases hq
    | ret u =>
      obtain ⟨v, H', I', rv, n, rfl, hn, q2⟩ := I.after hq
      obtain ⟨t, rfl⟩ := rv
      exact ⟨⟨by omega, by omega⟩, .int n, H', I'.tok _, ⟨_, rfl⟩, q2⟩
end
end Dc

namespace Dc
open PySem PySem.Spec PyProof.Rows L2
section
variable {CX : CXT} {P : Program} {w : World} {K : PySem.W.Frag} {mg : Str → Option Value} {base : Heap} {N : List Str} {qual : Str} {scope : Scope} {f : Addr} {cd : Value} {A : Around} {outer : List Env} {s : Shared} {H : Hp} {E : XK}
theorem cx_K : (cxOf CX P w K mg base N qual scope f cd A outer s H E).K = K := rfl
theorem cx_nK {X : Cx} : X.nox.K = X.K := rfl
theorem cx_w : (cxOf CX P w K mg base N qual scope f cd A outer s H E).w = w := rfl
theorem cx_nw {X : Cx} : X.nox.w = X.w := rfl
theorem cx_bK {X : Cx} {s : Shared} {H : Hp} {sc : Scope} {ce : Env} {fp : List Addr} : (X.blk s H sc ce fp).K = X.K := rfl
theorem st0 {v : Option V} {r : L2.St} : (v :: r : L2.St)[0]? = some v := rfl
theorem st1 {a v : Option V} {r : L2.St} : (a :: v :: r : L2.St)[1]? = some v := rfl
theorem st2 {a b v : Option V} {r : L2.St} : (a :: b :: v :: r : L2.St)[2]? = some v := rfl
theorem st3 {a b c v : Option V} {r : L2.St} : (a :: b :: c :: v :: r : L2.St)[3]? = some v := rfl
theorem some2 {a b : V} : ((some (some a) : Option (Option V)) = some (some b)) = (a = b) := by
  rw [Option.some.injEq, Option.some.injEq]
end
end Dc
namespace Dc
open PySem PySem.Spec PyProof.Rows L2
/-! readings of built-ins by names -/
def rAddStr : R2 := fun x y H Q => ∃ i j, x = .str i ∧ y = .str j ∧ i.length + j.length ≤ sizeLine ∧ Q (.str (i ++ j)) H
def rLenStr : List V → Hp → VK → Prop := fun xs H Q => ∃ z, xs = [.str z] ∧ z.length ≤ sizeLine ∧ Q (.int z.length) H
def rLenSeq (K : PySem.W.Frag) : List V → Hp → VK → Prop := fun xs H Q => ∃ p ys, xs = [.ref p] ∧ (SqL K H p ys ∨ SqT K H p ys) ∧ Q (.int ys.length) H
def rLenDic : List V → Hp → VK → Prop := fun xs H Q => ∃ a kvs, xs = [V.ref a] ∧ H a = some (.dK kvs) ∧ Q (.int kvs.length) H
def rAbs : List V → Hp → VK → Prop := fun xs H Q => ∃ i, xs = [.int i] ∧ Q (.int (if i < 0 then -i else i)) H
def rMax2 : List V → Hp → VK → Prop := fun xs H Q => ∃ i j, xs = [.int i, .int j] ∧ Q (.int (if j > i then j else i)) H
def rMin2 : List V → Hp → VK → Prop := fun xs H Q => ∃ i j, xs = [.int i, .int j] ∧ Q (.int (if j < i then j else i)) H
def rDivmod : List V → Hp → VK → Prop := fun xs H Q => ∃ i j, xs = [.int i, .int j] ∧ CDiv i j ∧ ∀ p, H p = none → Q (.ref p) (upd H p (.tup [.int (i / j), .int (i % j)]))
def rListOf (K : PySem.W.Frag) : List V → Hp → VK → Prop := fun xs H Q => ∃ p ys, xs = [.ref p] ∧ (SqL K H p ys ∨ SqT K H p ys) ∧ ∀ l, H l = none → Q (.ref l) (upd H l (.lst ys))
def rTupleOf (K : PySem.W.Frag) : List V → Hp → VK → Prop := fun xs H Q => ∃ p ys, xs = [.ref p] ∧ ((SqL K H p ys ∧ ∀ l, H l = none → Q (.ref l) (upd H l (.tup ys))) ∨ (SqT K H p ys ∧ Q (.ref p) H))
def rStrInt : List V → Hp → VK → Prop := fun xs H Q => ∃ i, xs = [.int i] ∧ i.natAbs.log2 < 1920 ∧ Q (.str (toString i)) H
def rReprInt : List V → Hp → VK → Prop := fun xs H Q => ∃ i, xs = [.int i] ∧ i.natAbs.log2 < 1920 ∧ Q (.str (toString i)) H
def rStrStr : List V → Hp → VK → Prop := fun xs H Q => ∃ a, xs = [.str a] ∧ Q (.str a) H
def rIntStr : List V → Hp → VK → Prop := fun xs H Q => ∃ a n, xs = [.str a] ∧ PySem.intText? a = some n ∧ a.length ≤ 640 ∧ Q (.int n) H
abbrev tipAdd : TIp := ipI fun i j => i + j
abbrev tipSub : TIp := ipI fun i j => i - j
def rJoin (K : PySem.W.Frag) : V → List V → Hp → VK → Prop := fun x xs H Q => ∃ a p, ∃ ys : List Str, x = .str a ∧ xs = [.ref p] ∧ (SqL K H p (ys.map V.str) ∨ SqT K H p (ys.map V.str)) ∧ (ys.map (·.length)).sum + ys.length * a.length ≤ 16777216 ∧ Q (.str (Txt.join a ys)) H
def rSplit : V → List V → Hp → VK → Prop := fun x xs H Q => ∃ a b, x = .str a ∧ xs = [.str b] ∧ (b.length == 0) = false ∧ a.length + 2 ≤ sizeLine ∧ rNewStrs (Txt.split a b) H Q
def rTupL (K : PySem.W.Frag) : List V → Hp → VK → Prop := fun xs H Q => ∃ p ys, xs = [.ref p] ∧ SqL K H p ys ∧ ∀ l, H l = none → Q (.ref l) (upd H l (.tup ys))
theorem call_tupL {X : Cx} : CallR X (.type "tuple") (rTupL X.K) := fun pins s σ H xs us Q I r h => by
  obtain ⟨p, ys, e, hs, q⟩ := h
  exact call_tuple_of pins s σ H xs us Q I r ⟨p, ys, e, .inl ⟨hs, q⟩⟩
end Dc

namespace Dc
open PySem PySem.Spec PyProof.Rows L2
/-! ## two heaps: F, what stays for good; H, what stands (F in it) -/
theorem upd_eq {H : Hp} {a b : Addr} {o : HO} : upd H a o b = if b = a then some o else H b := rfl
theorem Same.new {H : Hp} {p : Addr} {o : HO} (h : H p = none) : Same H (upd H p o) := fun b u e => by
  rw [upd_ne (ne_of_none e h)]
  exact e
/-- the addresses in M may change -/
structure Go (M : Addr → Prop) (F H F' H' : Hp) : Prop where
  ff : Same F F'
  fh : Same F' H'
  hh : ∀ b o, ¬ M b → H b = some o → H' b = some o
  oo : ∀ b, F b = none → H b ≠ none → F' b = none
  th : ∀ b, H b ≠ none → H' b ≠ none
section
variable {M M' : Addr → Prop} {F H F1 H1 F2 H2 : Hp} {p q l : Addr} {o u : HO}
theorem Go.refl (s : Same F H) : Go M F H F H := ⟨fun _ _ h => h, s, fun _ _ _ h => h, fun _ h _ => h, fun _ h => h⟩
theorem Go.trans (a : Go M F H F1 H1) (b : Go M F1 H1 F2 H2) : Go M F H F2 H2 :=
  ⟨fun c x h => b.ff c x (a.ff c x h), b.fh, fun c x m h => b.hh c x m (a.hh c x m h), fun c h n => b.oo c (a.oo c h n) (a.th c n), fun c n => b.th c (a.th c n)⟩
theorem Go.wide (g : Go M F H F1 H1) (h : ∀ b, M b → M' b) : Go M' F H F1 H1 := ⟨g.ff, g.fh, fun b x m e => g.hh b x (fun z => m (h b z)) e, g.oo, g.th⟩
/-- a new object, kept -/
theorem Go.new (g : Go M F H F1 H1) (h : H1 q = none) : Go M F H (upd F1 q o) (upd H1 q o) := by
  have f1 : F1 q = none := Same.free g.fh h
  refine ⟨fun b x e => ?_, fun b x e => ?_, fun b x m e => ?_, fun b e n => ?_, fun b n => ?_⟩
  · rw [upd_ne (ne_of_none (g.ff b x e) f1)]
    exact g.ff b x e
  · by_cases hb : b = q
    · rw [hb] at e ⊢
      rw [upd_same] at e ⊢
      exact e
    · rw [upd_ne hb] at e ⊢
      exact g.fh b x e
  · have e1 := g.hh b x m e
    rw [upd_ne (ne_of_none e1 h)]
    exact e1
  · have n1 := g.th b n
    have hb : b ≠ q := fun z => n1 (z ▸ h)
    rw [upd_ne hb]
    exact g.oo b e n
  · have n1 := g.th b n
    have hb : b ≠ q := fun z => n1 (z ▸ h)
    rw [upd_ne hb]
    exact n1
/-- a new object, of no further use (or one that will change) -/
theorem Go.tmp (g : Go M F H F1 H1) (h : H1 q = none) : Go M F H F1 (upd H1 q o) := by
  refine ⟨g.ff, fun b x e => ?_, fun b x m e => ?_, g.oo, fun b n => ?_⟩
  · have e1 := g.fh b x e
    rw [upd_ne (ne_of_none e1 h)]
    exact e1
  · have e1 := g.hh b x m e
    rw [upd_ne (ne_of_none e1 h)]
    exact e1
  · have n1 := g.th b n
    have hb : b ≠ q := fun z => n1 (z ▸ h)
    rw [upd_ne hb]
    exact n1
/-- one that may change does -/
theorem Go.mut (g : Go M F H F1 H1) (m : M p) (f : F1 p = none) : Go M F H F1 (upd H1 p o) := by
  refine ⟨g.ff, fun b x e => ?_, fun b x nm e => ?_, g.oo, fun b n => ?_⟩
  · rw [upd_ne (ne_of_none e f)]
    exact g.fh b x e
  · have hb : b ≠ p := fun z => nm (z ▸ m)
    rw [upd_ne hb]
    exact g.hh b x nm e
  · by_cases hb : b = p
    · rw [hb, upd_same]
      exact Option.some_ne_none _
    · rw [upd_ne hb]
      exact g.th b n
/-- one that is new to H, and not kept, changes -/
theorem Go.loc (g : Go M F H F1 H1) (h : H l = none) (f : F1 l = none) : Go M F H F1 (upd H1 l o) := by
  refine ⟨g.ff, fun b x e => ?_, fun b x nm e => ?_, g.oo, fun b n => ?_⟩
  · rw [upd_ne (ne_of_none e f)]
    exact g.fh b x e
  · rw [upd_ne (ne_of_none e h)]
    exact g.hh b x nm e
  · by_cases hb : b = l
    · rw [hb, upd_same]
      exact Option.some_ne_none _
    · rw [upd_ne hb]
      exact g.th b n
/-- it is kept from now on -/
theorem Go.fin (g : Go M F H F1 H1) (h : H l = none) (f : F1 l = none) (e1 : H1 l = some o) : Go M F H (upd F1 l o) H1 := by
  refine ⟨fun b x e => ?_, fun b x e => ?_, g.hh, fun b e n => ?_, g.th⟩
  · rw [upd_ne (ne_of_none (g.ff b x e) f)]
    exact g.ff b x e
  · by_cases hb : b = l
    · rw [hb] at e ⊢
      rw [upd_same] at e
      rw [← e]
      exact e1
    · rw [upd_ne hb] at e
      exact g.fh b x e
  · have hb : b ≠ l := fun z => n (z ▸ h)
    rw [upd_ne hb]
    exact g.oo b e n
theorem Go.at (g : Go M F H F1 H1) (m : ¬ M b) (e : H b = some o) : H1 b = some o := g.hh b o m e
theorem Go.off (g : Go M F H F1 H1) (f : F b = none) (e : H b = some o) : F1 b = none := g.oo b f (by rw [e]; exact Option.some_ne_none _)
end
theorem Go.of_same {M : Addr → Prop} {F H H' : Hp} (s : Same F H) (k : Same H H') : Go M F H F H' :=
  ⟨fun _ _ h => h, s.trans k, fun _ _ _ h => k _ _ h, fun _ h _ => h, fun b n z => n (Same.free k z)⟩
theorem Go.free {M : Addr → Prop} {F H F1 H1 : Hp} {b : Addr} (g : Go M F H F1 H1) (h : H1 b = none) : H b = none := by
  cases e : H b with
  | none => rfl
  | some o => exact absurd h (g.th b (by rw [e]; exact Option.some_ne_none _))
abbrev M0 : Addr → Prop := fun _ => False
abbrev M1 (p : Addr) : Addr → Prop := fun b => b = p
theorem m0 {b : Addr} : ¬ M0 b := fun h => h
theorem neS {H : Hp} {a b : Addr} {o : HO} (h : H a = some o) (h' : H b = none) : b ≠ a := fun e => (ne_of_none h h') e.symm
/-! ## lists of data -/
theorem paired_mono {α β : Type} {R S : α → β → Prop} (h : ∀ a b, R a b → S a b) : ∀ {l : List α} {m : List β}, Paired R l m → Paired S l m
  | _, _, .nil => .nil
  | _, _, .cons r t => .cons (h _ _ r) (paired_mono h t)
theorem paired_get {α β : Type} {R : α → β → Prop} : ∀ {l : List α} {m : List β} {i : Nat} {b : β}, Paired R l m → m[i]? = some b → ∃ a, l[i]? = some a ∧ R a b
  | _, _, _, _, .nil, h => by cases h
  | _, _, 0, _, .cons r _, h => by
    cases h
    exact ⟨_, rfl, r⟩
  | _, _, i + 1, _, .cons _ t, h => paired_get (i := i) t h
theorem paired_get' {α β : Type} {R : α → β → Prop} : ∀ {l : List α} {m : List β} {i : Nat} {a : α}, Paired R l m → l[i]? = some a → ∃ b, m[i]? = some b ∧ R a b
  | _, _, _, _, .nil, h => by cases h
  | _, _, 0, _, .cons r _, h => by
    cases h
    exact ⟨_, rfl, r⟩
  | _, _, i + 1, _, .cons _ t, h => paired_get' (i := i) t h
theorem paired_snoc {α β : Type} {R : α → β → Prop} {a : α} {b : β} (h : R a b) : ∀ {l : List α} {m : List β}, Paired R l m → Paired R (l ++ [a]) (m ++ [b])
  | _, _, .nil => .cons h .nil
  | _, _, .cons r t => .cons r (paired_snoc h t)
end Dc

namespace Dc
open PySem PySem.Spec PyProof.Rows L2
/-- a for loop over J, from a heap on -/
def ForB (g : TG) (tb : TS) (D : Ends) (σ : L2.St) (J : It) (H1 : Hp) : Prop := ∃ W : Nat → Nat → L2.St → Hp → Prop, (∃ m, W 0 m σ H1) ∧ ∀ i m σ H, W i m σ H →
  (J.stop i H ∧ D.nx σ H) ∨ (J.go i H ∧ ∃ N : L2.St → Hp → Prop, (∀ σ' H', N σ' H' → ∃ m', m' < m ∧ W (i + 1) m' σ' H') ∧
    ∀ x H', J.yld i H x H' → g x σ H' fun σ2 H2 => tb { D with nx := N, ct := N, bk := D.nx } σ2 H2)
theorem tFor_eq {wi : TI} {g : TG} {tb : TS} {D : Ends} {σ : L2.St} {H : Hp} : tFor wi g tb D σ H = wi σ H (ForB g tb D σ) := rfl
/-- a comprehension over J, from a heap on -/
def LcB (g : TG) (tt : TT) (te : TE) (vs : List Nat) (σ : L2.St) (Q : VK) (J : It) (H1 : Hp) : Prop := ∀ L, H1 L = none → ∃ W : Nat → Nat → Hp → Prop, (∃ m, W 0 m (upd H1 L (.lst []))) ∧ ∀ i m H, W i m H →
  (J.stop i H ∧ Q (.ref L) H) ∨ (J.go i H ∧ ∃ Nx : Hp → Prop, (∀ H', Nx H' → ∃ m', m' < m ∧ W (i + 1) m' H') ∧
    ∀ x H', J.yld i H x H' → g x (wipe σ vs) H' fun σ2 H2 => wipe σ2 vs = wipe σ vs ∧ tt σ2 H2 fun b H3 =>
      if b = true then te σ2 H3 fun y H4 => ∃ acc, H4 L = some (.lst acc) ∧ acc.length < sizeLine ∧ Nx (upd H4 L (.lst (acc ++ [y]))) else Nx H3)
theorem tLc_eq {wi : TI} {g : TG} {tt : TT} {te : TE} {vs : List Nat} {σ : L2.St} {H : Hp} {Q : VK} : tLc wi g tt te vs σ H Q = wi σ H (LcB g tt te vs σ Q) := rfl
section
variable {J : It} {n : Nat} {G : Hp → Prop} {Y : Nat → Hp → V → Hp → Prop} {g : TG} {tb : TS} {D : Ends} {σ : L2.St} {F H H1 : Hp} {tt : TT} {te : TE} {vs : List Nat} {Q : VK}
/-- a for loop -/
theorem f_it (w : Walk J n G Y) (Pv : Nat → L2.St → Hp → Prop) (h0 : Pv 0 σ H1) (hG : ∀ i σ H, i ≤ n → Pv i σ H → G H)
    (hs : ∀ i x σ H H' (N : L2.St → Hp → Prop), i < n → Pv i σ H → Y i H x H' → (∀ σ' H', Pv (i + 1) σ' H' → N σ' H') → g x σ H' fun σ2 H2 => tb { D with nx := N, ct := N, bk := D.nx } σ2 H2)
    (hd : ∀ σ H, Pv n σ H → D.nx σ H) : ForB g tb D σ J H1 := for_it w Pv h0 hG (fun i x σ H H' a b c => hs i x σ H H' (Pv (i + 1)) a b c (fun _ _ z => z)) hd
/-- a comprehension -/
theorem l_it (w : Walk J n G Y) (Pv : Addr → Nat → Hp → Prop) (h0 : ∀ L, H1 L = none → Pv L 0 (upd H1 L (.lst []))) (hG : ∀ L i H, i ≤ n → Pv L i H → G H)
    (hs : ∀ L i x H H', i < n → Pv L i H → Y i H x H' → g x (wipe σ vs) H' fun σ2 H2 => wipe σ2 vs = wipe σ vs ∧ tt σ2 H2 fun b H3 =>
      if b = true then te σ2 H3 fun y H4 => ∃ acc, H4 L = some (.lst acc) ∧ acc.length < sizeLine ∧ Pv L (i + 1) (upd H4 L (.lst (acc ++ [y]))) else Pv L (i + 1) H3)
    (hd : ∀ L H', H1 L = none → Pv L n H' → Q (.ref L) H') : LcB g tt te vs σ Q J H1 :=
  fun L hL => lc_it w (Pv L) (h0 L hL) (hG L) (hs L) fun H' p => hd L H' hL p
/-- a comprehension whose list is new, beside what may change (M, told by Z): N, N' are what is wanted behind a turn -/
theorem l_go (w : Walk J n G Y) (S : Same F H) (M : Addr → Prop) (Z : Hp → Prop) (z0 : Z H) (hM : ∀ b, M b → H b ≠ none) (hZ : ∀ H' b o, Z H' → ¬ M b → Z (upd H' b o))
    (I : Nat → Hp → List V → Prop) (i0 : I 0 F []) (hG : ∀ H', Same F H' → G H') (hn : n < 100000)
    (hs : ∀ i x F1 H1 H1' acc (N : VK) (N' : Hp → Prop), i < n → Go M F H F1 H1 → Z H1 → I i F1 acc → Y i H1 x H1' →
      (∀ y F4 H4, Go M F1 H1 F4 H4 → Z H4 → I (i + 1) F4 (acc ++ [y]) → N y H4) → (∀ F3 H3, Go M F1 H1 F3 H3 → Z H3 → I (i + 1) F3 acc → N' H3) →
      g x (wipe σ vs) H1' fun σ2 H2 => wipe σ2 vs = wipe σ vs ∧ tt σ2 H2 fun b H3 => if b = true then te σ2 H3 N else N' H3)
    (hd : ∀ L F' H' acc, Go M F H F' H' → Z H' → H L = none → F' L = none → H' L = some (.lst acc) → I n F' acc → Q (.ref L) H') : LcB g tt te vs σ Q J H := by
  refine l_it w (fun L i H' => H L = none ∧ ∃ F' acc, Go M F H F' H' ∧ Z H' ∧ F' L = none ∧ H' L = some (.lst acc) ∧ acc.length ≤ i ∧ I i F' acc) ?_ ?_ ?_ ?_
  · intro L hL
    refine ⟨hL, F, [], (Go.refl S).tmp hL, hZ _ _ _ z0 (fun m => hM L m hL), Same.free S hL, upd_same, Nat.le_refl _, i0⟩
  · rintro L i H' _ ⟨hL, F', acc, g, _⟩
    exact hG H' (fun b o e => g.fh b o (g.ff b o e))
  · rintro L i x H1 H1' hi ⟨hL, F1, acc, g1, z1, f1, h1, hlen, i1⟩ y
    have nM : ¬ M L := fun m => hM L m hL
    refine hs i x F1 H1 H1' acc _ _ hi g1 z1 i1 y ?_ ?_
    · intro v F4 H4 g4 z4 i4
      have e4 : H4 L = some (.lst acc) := g4.hh _ _ nM h1
      have f4 : F4 L = none := g4.off f1 h1
      refine ⟨acc, e4, Nat.lt_of_le_of_lt hlen (Nat.lt_trans hi (Nat.lt_trans hn (by decide))), hL, F4, acc ++ [v], (g1.trans g4).loc hL f4, hZ _ _ _ z4 nM, f4, upd_same, ?_, i4⟩
      rw [List.length_append, List.length_singleton]
      omega
    · intro F3 H3 g3 z3 i3
      exact ⟨hL, F3, acc, g1.trans g3, z3, g3.off f1 h1, g3.hh _ _ nM h1, Nat.le_succ_of_le hlen, i3⟩
  · rintro L H' hL ⟨_, F', acc, g, z, f, h, _, i⟩
    exact hd L F' H' acc g z hL f h i
end
end Dc

namespace Dc
open PySem PySem.Spec PyProof.Rows L2
abbrev En (Q : VK) : Ends := { nx := fun _ H' => Q .non H', rt := Q }
def st0' (n : Nat) (vs : List V) : L2.St := vs.map some ++ List.replicate (n - vs.length) none
/-- a pot: two numbers -/
def PotAt (H : Hp) (p : Addr) : Prop := ∃ a b : Int, H p = some (.lst [.int a, .int b]) ∧ 0 ≤ a ∧ 0 ≤ b ∧ b < 4294967296
theorem PotAt.some {H : Hp} {p : Addr} (h : PotAt H p) : H p ≠ none := by
  obtain ⟨a, b, e, _⟩ := h
  rw [e]
  exact Option.some_ne_none _
theorem PotAt.ne {H : Hp} {p q : Addr} (h : PotAt H p) (n : H q = none) : p ≠ q := by
  obtain ⟨a, b, e, _⟩ := h
  exact ne_of_none e n
theorem PotAt.go {M : Addr → Prop} {F H F' H' : Hp} {p : Addr} (h : PotAt H p) (g : Go M F H F' H') (m : ¬ M p) : PotAt H' p := by
  obtain ⟨a, b, e, r⟩ := h
  exact ⟨a, b, g.hh _ _ m e, r⟩
theorem PotAt.new {H : Hp} {p q : Addr} {o : HO} (h : PotAt H p) (n : H q = none) : PotAt (upd H q o) p := by
  obtain ⟨a, b, e, r⟩ := h
  exact ⟨a, b, by rw [upd_ne (ne_of_none e n)]; exact e, r⟩
theorem PotAt.upd {H : Hp} {p q : Addr} {o : HO} (h : PotAt H p) (n : p ≠ q) : PotAt (upd H q o) p := by
  obtain ⟨a, b, e, r⟩ := h
  exact ⟨a, b, by rw [upd_ne n]; exact e, r⟩
/-! ### names, ranges, doors: what is drawn -/
def letters26 : Str := "abcdefghijklmnopqrstuvwxyz"
def isLetter (c : Nat) : Bool := decide (97 ≤ c) && decide (c ≤ 122)
/-- a text of one to eight small letters -/
def IsName (x : Str) : Prop := 1 ≤ x.length ∧ x.length ≤ 8 ∧ ∀ c ∈ x.cps.toList, isLetter c = true
structure Door where
  near : Str
  far : Str
  lo : Int
  hi : Int
  deriving DecidableEq
def Door.vs (d : Door) : List V := [.str d.near, .str d.far, .int d.lo, .int d.hi]
def RoomsOk (rs : List Str) : Prop := 1 ≤ rs.length ∧ rs.length ≤ 8 ∧ rs.Nodup ∧ ∀ r ∈ rs, IsName r
def DoorOk (rs : List Str) (d : Door) : Prop := d.near ∈ rs ∧ d.far ∈ rs ∧ d.near ≠ d.far ∧ -99 ≤ d.lo ∧ d.lo ≤ d.hi ∧ d.hi ≤ 99
def DoorsOk (rs : List Str) (ds : List Door) : Prop := ds.length ≤ 12 ∧ ∀ d ∈ ds, DoorOk rs d
def DoorAt (F : Hp) (a : Addr) (d : Door) : Prop := F a = some (.tup d.vs)
def StrsL (F : Hp) (l : Addr) (xs : List Str) : Prop := F l = some (.lst (xs.map V.str))
def DoorsL (F : Hp) (l : Addr) (ds : List Door) : Prop := ∃ as : List Addr, F l = some (.lst (as.map V.ref)) ∧ Paired (DoorAt F) as ds
section
variable {F F' : Hp} {l a : Addr} {xs : List Str} {ds : List Door} {as : List Addr}
theorem StrsL.go (s : Same F F') (h : StrsL F l xs) : StrsL F' l xs := s _ _ h
theorem paired_door (s : Same F F') (h : Paired (DoorAt F) as ds) : Paired (DoorAt F') as ds := paired_mono (fun _ _ e => s _ _ e) h
theorem DoorsL.go (s : Same F F') (h : DoorsL F l ds) : DoorsL F' l ds := by
  obtain ⟨as, e, p⟩ := h
  exact ⟨as, s _ _ e, paired_door s p⟩
end
/-- a list without equal things, all in another one, is no longer than that -/
theorem nodup_le {α : Type} [DecidableEq α] : ∀ {l m : List α}, l.Nodup → (∀ x ∈ l, x ∈ m) → l.length ≤ m.length
  | [], m, _, _ => Nat.zero_le _
  | x :: l, m, h, s => by
    obtain ⟨h1, h2⟩ := List.nodup_cons.mp h
    have hx : x ∈ m := s x (List.mem_cons_self ..)
    have ih := nodup_le (l := l) (m := m.erase x) h2 (fun y hy => (List.mem_erase_of_ne (fun e => h1 (by rw [← e]; exact hy))).mpr (s y (List.mem_cons_of_mem _ hy)))
    rw [List.length_erase_of_mem hx] at ih
    have : 0 < m.length := List.length_pos_of_mem hx
    rw [List.length_cons]
    omega
def one (c : Nat) : Str := ⟨#[c]⟩
theorem one_name {c : Nat} (h : isLetter c = true) : IsName (one c) := ⟨Nat.le_refl 1, (by show 1 ≤ 8; decide), fun d hd => by
  have : d = c := by simpa [one] using hd
  rw [this]
  exact h⟩
theorem letters_cps : letters26.cps.toList = (List.range 26).map (· + 97) := by decide +kernel
theorem letter_at {i : Nat} (h : i < 26) : letters26.cps[i]? = some (i + 97) := by
  have e : letters26.cps[i]? = letters26.cps.toList[i]? := by rw [Array.getElem?_toList]
  rw [e, letters_cps, List.getElem?_map, List.getElem?_range h]
  rfl
theorem isLetter_at {i : Nat} (h : i < 26) : isLetter (i + 97) = true := by
  unfold isLetter
  rw [decide_eq_true (by omega : 97 ≤ i + 97), decide_eq_true (by omega : i + 97 ≤ 122)]
  rfl
theorem joinOne : ∀ cs : List Nat, TL.joinL [] (cs.map fun c => [c]) = cs
  | [] => rfl
  | [c] => rfl
  | c :: d :: r => by
    have ih := joinOne (d :: r)
    show [c] ++ ([] ++ TL.joinL [] ((d :: r).map fun c => [c])) = c :: d :: r
    rw [ih]
    rfl
/-! ### small helps -/
theorem at_i {α : Type} {xs : List α} {z : Int} {j : Nat} {v : α} (e : z = (j : Int)) (h : xs[j]? = some v) : atI xs z = some v := by
  rw [e]
  exact atI_nat h
theorem at_I {α : Type} {xs : List α} {z : Int} {v : α} (h0 : 0 ≤ z) (h : xs[z.toNat]? = some v) : atI xs z = some v := at_i (by omega) h
theorem inV_strs (x : Str) : ∀ ts : List Str, inV (.str x) (ts.map V.str) = decide (x ∈ ts)
  | [] => rfl
  | t :: ts => by
    have ih := inV_strs x ts
    unfold inV at ih ⊢
    rw [List.map_cons, List.any_cons, ih]
    show ((t == x) || decide (x ∈ ts)) = decide (x ∈ t :: ts)
    by_cases e : t = x
    · subst e
      simp
    · have e2 : ¬ x = t := fun z => e z.symm
      simp [e, e2]
theorem all_flat_str : ∀ ts : List Str, (ts.map V.str).all flatV = true
  | [] => rfl
  | t :: ts => by
    rw [List.map_cons, List.all_cons, all_flat_str ts]
    rfl
theorem get_map {α β : Type} {f : α → β} {xs : List α} {i : Nat} {a : α} (h : xs[i]? = some a) : (xs.map f)[i]? = some (f a) := by
  rw [List.getElem?_map, h]
  rfl
theorem PotAt.m {H : Hp} {p : Addr} (h : PotAt H p) : ∀ b, M1 p b → H b ≠ none := fun b e => by
  rw [show b = p from e]
  exact h.some
theorem pot_z {p : Addr} : ∀ (H' : Hp) (b : Addr) (o : HO), PotAt H' p → ¬ M1 p b → PotAt (upd H' b o) p := fun H' b o h n => h.upd (fun e => n e.symm)
theorem SqL.st {K : PySem.W.Frag} {F : Hp} {l : Addr} {xs : List Str} (h : StrsL F l xs) : SqL K F l (xs.map V.str) := SqL.of h
theorem join_ones (cs : List Nat) : Txt.join (Str.ofString "") (cs.map one) = SX.S cs := by
  have e : cs.map one = (cs.map fun c => [c]).map SX.S := by
    rw [List.map_map]
    rfl
  have h := SX.join_S [] (cs.map fun c => [c])
  rw [joinOne] at h
  rw [e]
  exact h
theorem S_name {cs : List Nat} (h1 : 1 ≤ cs.length) (h2 : cs.length ≤ 8) (h : ∀ c ∈ cs, isLetter c = true) : IsName (SX.S cs) := by
  refine ⟨?_, ?_, h⟩
  · rw [SX.S_len]
    exact h1
  · rw [SX.S_len]
    exact h2
theorem one_lens (cs : List Nat) : ((cs.map one).map (·.length)).sum = cs.length := by
  induction cs with
  | nil => rfl
  | cons c r ih =>
    rw [List.map_cons, List.map_cons, List.sum_cons, ih, List.length_cons]
    show 1 + r.length = r.length + 1
    omega
/-- of 26 letters one is free -/
theorem free_letter {ts : List Str} (h : ts.length < 26) : ∃ i, i < 26 ∧ one (i + 97) ∉ ts := by
  apply Classical.byContradiction
  intro no
  have all : ∀ x ∈ (List.range 26).map (fun i => one (i + 97)), x ∈ ts := by
    intro x hx
    obtain ⟨i, hi, rfl⟩ := List.mem_map.mp hx
    apply Classical.byContradiction
    intro hn
    exact no ⟨i, List.mem_range.mp hi, hn⟩
  have nd : ((List.range 26).map (fun i => one (i + 97))).Nodup := by decide +kernel
  have := nodup_le nd all
  rw [List.length_map, List.length_range] at this
  omega
theorem cut_to (xs : List V) (i : Nat) : cutV xs none (some (i : Int)) = xs.take i := by
  unfold cutV
  rw [HT.sIx_none, show HT.sIx xs.length xs.length (some (i : Int)) = min i xs.length from HT.sIx_nat xs.length _ i]
  show List.take (min i xs.length - 0) (xs.drop 0) = xs.take i
  rw [List.drop_zero, Nat.sub_zero]
  by_cases h : i ≤ xs.length
  · rw [Nat.min_eq_left h]
  · rw [Nat.min_eq_right (by omega), List.take_length, List.take_of_length_le (by omega)]
theorem nodup_take {α : Type} {l : List α} (hN : l.Nodup) {i : Nat} (h : i < l.length) : l[i] ∉ l.take i := by
  intro m
  obtain ⟨j, hj, e⟩ := List.mem_iff_getElem.mp m
  rw [List.getElem_take] at e
  have := (List.getElem_inj hN).mp e
  rw [List.length_take] at hj
  omega
end Dc

namespace Dc
open PySem PySem.Spec PyProof.Rows L2
/-! ### data that is shown and compared: n its bulk at most, k its depth at most -/
structure Shw (n k : Nat) (d : PyData) : Prop where
  show_ : d.showable = true
  lay : d.canLay0 = true
  dep : d.depth ≤ k
  short : d.leavesShort 13 = true
  bulk : d.bulk ≤ n
structure ShwA (n k : Nat) (ds : List PyData) : Prop where
  show_ : PyData.showableAll ds = true
  lay : PyData.canLayAll0 ds = true
  dep : PyData.depthAll ds ≤ k
  short : PyData.leavesShortAll 13 ds = true
  bulk : PyData.bulkAll ds ≤ n
section
variable {n m k : Nat} {d : PyData} {ds : List PyData}
theorem Shw.none_ : Shw 0 0 .none := ⟨rfl, rfl, Nat.le_refl _, rfl, Nat.le_refl _⟩
theorem Shw.bool_ (b : Bool) : Shw 0 0 (.bool b) := ⟨rfl, rfl, Nat.le_refl _, rfl, Nat.le_refl _⟩
theorem Shw.int_ {i : Int} (h1 : -999999999999 ≤ i) (h2 : i ≤ 999999999999) : Shw 0 0 (.int i) := by
  have e := PyData.shown_int_le2 h1 h2
  refine ⟨decide_eq_true ?_, rfl, Nat.le_refl _, decide_eq_true e, Nat.le_refl _⟩
  have : i.natAbs < 2 ^ 1920 := Nat.lt_of_lt_of_le (show i.natAbs < 2 ^ 64 by omega) (Nat.pow_le_pow_right (by decide) (by decide))
  by_cases z : i.natAbs = 0
  · rw [z]
    decide
  · exact (Nat.log2_lt z).mpr this
theorem Shw.str_ {x : Str} (h : x.length ≤ n) (hc : ∀ c ∈ x.cps.toList, c < 1114112) : Shw n 0 (.str x) := by
  refine ⟨rfl, ?_, Nat.zero_le _, ?_, h⟩
  · show x.cps.all (· < 0x110000) = true
    rw [← Array.all_toList, List.all_eq_true]
    exact fun c m => decide_eq_true (hc c m)
  · show x.cps.toList.all (fun c => decide (c < 16 ^ 8)) = true
    rw [List.all_eq_true]
    intro c m
    exact decide_eq_true (Nat.lt_trans (hc c m) (by decide))
theorem ShwA.nil : ShwA 0 0 [] := ⟨rfl, rfl, Nat.le_refl _, rfl, Nat.le_refl _⟩
theorem ShwA.cons (h : Shw n k d) (r : ShwA m k ds) : ShwA (n + 1 + m) k (d :: ds) := by
  refine ⟨?_, ?_, ?_, ?_, ?_⟩
  · show (d.showable && PyData.showableAll ds) = true
    rw [h.show_, r.show_]
    rfl
  · show (d.canLay0 && PyData.canLayAll0 ds) = true
    rw [h.lay, r.lay]
    rfl
  · exact Nat.max_le.mpr ⟨h.dep, r.dep⟩
  · show (d.leavesShort 13 && PyData.leavesShortAll 13 ds) = true
    rw [h.short, r.short]
    rfl
  · have := h.bulk
    have := r.bulk
    show d.bulk + 1 + PyData.bulkAll ds ≤ n + 1 + m
    omega
theorem Shw.up {n' k' : Nat} (h : Shw n k d) (a : n ≤ n') (b : k ≤ k') : Shw n' k' d := ⟨h.show_, h.lay, Nat.le_trans h.dep b, h.short, Nat.le_trans h.bulk a⟩
theorem ShwA.up {n' k' : Nat} (h : ShwA n k ds) (a : n ≤ n') (b : k ≤ k') : ShwA n' k' ds := ⟨h.show_, h.lay, Nat.le_trans h.dep b, h.short, Nat.le_trans h.bulk a⟩
theorem ShwA.all : ∀ {ds : List PyData}, (∀ d ∈ ds, Shw n k d) → ShwA ((n + 1) * ds.length) k ds
  | [], _ => ⟨rfl, rfl, Nat.zero_le _, rfl, Nat.zero_le _⟩
  | d :: ds, h => by
    have := (ShwA.all (ds := ds) fun e m => h e (List.mem_cons_of_mem _ m))
    have c := ShwA.cons (h d (List.mem_cons_self ..)) this
    refine c.up ?_ (Nat.le_refl _)
    rw [List.length_cons, Nat.mul_add]
    omega
theorem Shw.list_ (h : ShwA n k ds) : Shw n (k + 1) (.list ds) := ⟨h.show_, h.lay, Nat.succ_le_succ h.dep, h.short, h.bulk⟩
theorem Shw.tuple_ (h : ShwA n k ds) : Shw n (k + 1) (.tuple ds) := ⟨h.show_, h.lay, Nat.succ_le_succ h.dep, h.short, h.bulk⟩
theorem Shw.shaped (h : Shw n k d) (hk : k ≤ 50) : SeqAt.shaped d = true := by
  unfold SeqAt.shaped
  rw [h.lay, decide_eq_true (Nat.le_trans h.dep (by omega))]
  rfl
theorem Shw.refl_ (h : Shw n k d) : PyData.eqv d d = true := SeqAt.eqv_refl d h.lay
theorem Shw.repr_ {K : PySem.W.Frag} {H : Hp} {Q : VK} {a : Addr} (h : Shw n k d) (hk : k ≤ 50) (hn : n ≤ 1000000) (hd : Dp K H (.ref a) d) (q : Q (.str d.shown) H) : rRepr K [.ref a] H Q :=
  ⟨a, d, rfl, hd, h.show_, PyData.hasDict_of_canLay d h.lay, Nat.le_trans h.dep hk, PyData.shown_fits_bulk (B := 13) (by decide) (by decide) h.short (Nat.le_trans h.bulk (by omega)), q⟩
end
/-! ### the data of rooms and doors -/
def doorD (d : Door) : PyData := .tuple [.str d.near, .str d.far, .int d.lo, .int d.hi]
def roomsD (rs : List Str) : PyData := .list (rs.map .str)
def doorsD (ds : List Door) : PyData := .list (ds.map doorD)
section
variable {K : PySem.W.Frag} {H F : Hp} {l : Addr}
theorem dpAll_strs : ∀ rs : List Str, DpAll K H (rs.map V.str) (rs.map .str)
  | [] => .nil
  | r :: rs => .cons (.str r) (dpAll_strs rs)
theorem dp_rooms {rs : List Str} (h : SqL K H l (rs.map V.str)) : Dp K H (.ref l) (roomsD rs) := .lst h (dpAll_strs rs)
theorem dp_door {a : Addr} {d : Door} (h : DoorAt H a d) : Dp K H (.ref a) (doorD d) := .tup (SqT.of h) (.cons (.str _) (.cons (.str _) (.cons (.int _) (.cons (.int _) .nil))))
theorem dpAll_doors : ∀ {as : List Addr} {ds : List Door}, Paired (DoorAt H) as ds → DpAll K H (as.map V.ref) (ds.map doorD)
  | _, _, .nil => .nil
  | _, _, .cons r t => .cons (dp_door r) (dpAll_doors t)
theorem dp_doors {as : List Addr} {ds : List Door} (h : SqL K H l (as.map V.ref)) (p : Paired (DoorAt H) as ds) : Dp K H (.ref l) (doorsD ds) := .lst h (dpAll_doors p)
theorem name_code {x : Str} (h : IsName x) : ∀ c ∈ x.cps.toList, c < 128 := fun c m => by
  have := h.2.2 c m
  unfold isLetter at this
  rw [Bool.and_eq_true, decide_eq_true_eq, decide_eq_true_eq] at this
  omega
theorem shw_name {x : Str} (h : IsName x) : Shw 8 0 (.str x) := Shw.str_ h.2.1 (fun c m => Nat.lt_trans (name_code h c m) (by decide))
theorem shw_rooms {rs : List Str} (h : RoomsOk rs) : Shw 72 1 (roomsD rs) := by
  have a : ShwA ((8 + 1) * (rs.map PyData.str).length) 0 (rs.map .str) := ShwA.all fun d m => by
    obtain ⟨r, hr, rfl⟩ := List.mem_map.mp m
    exact shw_name (h.2.2.2 r hr)
  refine (Shw.list_ a).up ?_ (Nat.le_refl _)
  rw [List.length_map]
  have := h.2.1
  omega
theorem shw_door {rs : List Str} {d : Door} (hr : ∀ r ∈ rs, IsName r) (h : DoorOk rs d) : Shw 20 1 (doorD d) := by
  obtain ⟨h1, h2, _, h3, h4, h5⟩ := h
  refine (Shw.tuple_ (ShwA.cons (shw_name (hr _ h1)) (ShwA.cons (shw_name (hr _ h2)) (ShwA.cons (Shw.int_ ?_ ?_) (ShwA.cons (Shw.int_ ?_ ?_) ShwA.nil))))).up (by decide) (Nat.le_refl _)
  all_goals omega
theorem shw_doors {rs : List Str} {ds : List Door} (hr : ∀ r ∈ rs, IsName r) (h : DoorsOk rs ds) : Shw 252 2 (doorsD ds) := by
  have a : ShwA ((20 + 1) * (ds.map doorD).length) 1 (ds.map doorD) := ShwA.all fun d m => by
    obtain ⟨r, hm, rfl⟩ := List.mem_map.mp m
    exact shw_door hr (h.2 r hm)
  refine (Shw.list_ a).up ?_ (Nat.le_refl _)
  rw [List.length_map]
  have := h.1
  omega
end
end Dc

namespace Dc
open PySem PySem.Spec PyProof.Rows L2
section
variable {J : It} {n : Nat} {G : Hp → Prop} {Y : Nat → Hp → V → Hp → Prop} {g : TG} {σ : L2.St} {H : Hp} {tt : TT} {te : TE} {vs : List Nat} {Q : VK}
/-- a comprehension of plain values (or of things that stood before), nothing else changed: out tells what comes of each turn -/
theorem l_val (w : Walk J n G Y) (out : Nat → Option V) (hG : ∀ H', Same H H' → G H') (hn : n < 100000)
    (hs : ∀ i x H1 H1' (N : VK) (N' : Hp → Prop), i < n → Same H H1 → Y i H1 x H1' → (∀ y H4, out i = some y → Same H1 H4 → N y H4) → (∀ H3, out i = none → Same H1 H3 → N' H3) →
      g x (wipe σ vs) H1' fun σ2 H2 => wipe σ2 vs = wipe σ vs ∧ tt σ2 H2 fun b H3 => if b = true then te σ2 H3 N else N' H3)
    (hd : ∀ L H', H L = none → Same H H' → H' L = some (.lst ((List.range n).filterMap out)) → Q (.ref L) H') : LcB g tt te vs σ Q J H := by
  refine l_go (F := H) w (Same.refl H) M0 (fun _ => True) trivial (fun _ h => h.elim) (fun _ _ _ _ _ => trivial) (fun i Fx acc => Fx = H ∧ acc = (List.range i).filterMap out) ⟨rfl, rfl⟩ hG hn ?_ ?_
  · rintro i x F1 H1 H1' acc N N' hi g1 _ ⟨rfl, rfl⟩ y hN hN'
    refine hs i x H1 H1' N N' hi g1.fh y (fun v H4 e s => hN v F1 H4 (Go.of_same g1.fh s) trivial ⟨rfl, ?_⟩) (fun H3 e s => hN' F1 H3 (Go.of_same g1.fh s) trivial ⟨rfl, ?_⟩)
    · rw [List.range_succ, List.filterMap_append, List.filterMap_cons, e]
      rfl
    · rw [List.range_succ, List.filterMap_append, List.filterMap_cons, e, List.filterMap_nil, List.append_nil]
  · rintro L F' H' acc g1 _ hL _ eL ⟨rfl, rfl⟩
    exact hd L H' hL g1.fh eL
end
/-! ### lists by their places -/
theorem fm_get {α β : Type} (f : α → Option β) : ∀ xs : List α, (List.range xs.length).filterMap (fun i => xs[i]?.bind f) = xs.filterMap f
  | [] => rfl
  | x :: xs => by
    rw [List.length_cons, List.range_succ_eq_map, List.filterMap_cons, List.filterMap_map, List.filterMap_cons]
    have ih := fm_get f xs
    show (match f x with | none => _ | some b => _) = _
    have e : List.filterMap ((fun i => (x :: xs)[i]?.bind f) ∘ Nat.succ) (List.range xs.length) = List.filterMap f xs := ih
    rw [e]
    cases f x with
    | none => rfl
    | some b => rfl
theorem fm_filter {α : Type} (p : α → Bool) : ∀ xs : List α, xs.filterMap (fun x => if p x then some x else none) = xs.filter p
  | [] => rfl
  | x :: xs => by
    rw [List.filterMap_cons, List.filter_cons, fm_filter p xs]
    cases p x with
    | true => rfl
    | false => rfl
theorem fm_map {α β γ : Type} (f : α → Option β) (h : β → γ) (xs : List α) : xs.filterMap (fun x => (f x).map h) = (xs.filterMap f).map h := by
  rw [List.map_filterMap]
theorem _root_.L2.Same.seqT {K : PySem.W.Frag} {H H' : Hp} {a : Addr} {xs : List V} (e : Same H H') (h : SqT K H a xs) : SqT K H' a xs := by
  rcases h with (h | ⟨o, h⟩) | h
  · exact .inl (.inl (e _ _ h))
  · exact .inl (.inr ⟨o, e _ _ h⟩)
  · exact .inr h
section
variable {α : Type} {K : PySem.W.Frag} {a : Addr} {g : TG} {σ : L2.St} {H : Hp} {tt : TT} {te : TE} {tb : TS} {D : Ends} {vs : List Nat} {Q : VK}
/-- a comprehension over a list -/
theorem l_map (c : α → V) (zs : List α) (ha : SqL K H a (zs.map c)) (out : α → Option V) (hn : zs.length < 100000)
    (hs : ∀ z H1 (N : VK) (N' : Hp → Prop), z ∈ zs → Same H H1 → (∀ y H4, out z = some y → Same H1 H4 → N y H4) → (∀ H3, out z = none → Same H1 H3 → N' H3) →
      g (c z) (wipe σ vs) H1 fun σ2 H2 => wipe σ2 vs = wipe σ vs ∧ tt σ2 H2 fun b H3 => if b = true then te σ2 H3 N else N' H3)
    (hd : ∀ L H', H L = none → Same H H' → H' L = some (.lst (zs.filterMap out)) → Q (.ref L) H') : LcB g tt te vs σ Q (Itl K a) H := by
  refine l_val walk_list (fun i => zs[i]?.bind out) (fun H' s => s.seq ha) (by rw [List.length_map]; exact hn) ?_ ?_
  · rintro i x H1 H1' N N' hi s ⟨rfl, e⟩ hN hN'
    rw [List.length_map] at hi
    rw [List.getElem?_map, List.getElem?_eq_getElem hi] at e
    cases Option.some.inj e
    refine hs zs[i] H1' N N' (List.getElem_mem hi) s (fun y H4 e s4 => hN y H4 (by rw [List.getElem?_eq_getElem hi]; exact e) s4) (fun H3 e s3 => hN' H3 (by rw [List.getElem?_eq_getElem hi]; exact e) s3)
  · intro L H' hL s e
    rw [List.length_map, fm_get] at e
    exact hd L H' hL s e
/-- a comprehension over a tuple -/
theorem l_mapT (c : α → V) (zs : List α) (ha : SqT K H a (zs.map c)) (out : α → Option V) (hn : zs.length < 100000)
    (hs : ∀ z H1 (N : VK) (N' : Hp → Prop), z ∈ zs → Same H H1 → (∀ y H4, out z = some y → Same H1 H4 → N y H4) → (∀ H3, out z = none → Same H1 H3 → N' H3) →
      g (c z) (wipe σ vs) H1 fun σ2 H2 => wipe σ2 vs = wipe σ vs ∧ tt σ2 H2 fun b H3 => if b = true then te σ2 H3 N else N' H3)
    (hd : ∀ L H', H L = none → Same H H' → H' L = some (.lst (zs.filterMap out)) → Q (.ref L) H') : LcB g tt te vs σ Q (Itt K a) H := by
  refine l_val walk_tup (fun i => zs[i]?.bind out) (fun H' s => s.seqT ha) (by rw [List.length_map]; exact hn) ?_ ?_
  · rintro i x H1 H1' N N' hi s ⟨rfl, e⟩ hN hN'
    rw [List.length_map] at hi
    rw [List.getElem?_map, List.getElem?_eq_getElem hi] at e
    cases Option.some.inj e
    refine hs zs[i] H1' N N' (List.getElem_mem hi) s (fun y H4 e s4 => hN y H4 (by rw [List.getElem?_eq_getElem hi]; exact e) s4) (fun H3 e s3 => hN' H3 (by rw [List.getElem?_eq_getElem hi]; exact e) s3)
  · intro L H' hL s e
    rw [List.length_map, fm_get] at e
    exact hd L H' hL s e
/-- a comprehension over a range -/
theorem l_rng {lo : Int} {n : Nat} (out : Nat → Option V) (hn : n < 100000)
    (hs : ∀ i H1 (N : VK) (N' : Hp → Prop), i < n → Same H H1 → (∀ y H4, out i = some y → Same H1 H4 → N y H4) → (∀ H3, out i = none → Same H1 H3 → N' H3) →
      g (.int (lo + i)) (wipe σ vs) H1 fun σ2 H2 => wipe σ2 vs = wipe σ vs ∧ tt σ2 H2 fun b H3 => if b = true then te σ2 H3 N else N' H3)
    (hd : ∀ L H', H L = none → Same H H' → H' L = some (.lst ((List.range n).filterMap out)) → Q (.ref L) H') : LcB g tt te vs σ Q (Itr lo n) H := by
  refine l_val walk_range out (fun _ _ => trivial) hn ?_ hd
  rintro i x H1 H1' N N' hi s ⟨rfl, rfl⟩ hN hN'
  exact hs i _ N N' hi s hN hN'
theorem l_rng0 {n : Nat} (out : Nat → Option V) (hn : n < 100000)
    (hs : ∀ i H1 (N : VK) (N' : Hp → Prop), i < n → Same H H1 → (∀ y H4, out i = some y → Same H1 H4 → N y H4) → (∀ H3, out i = none → Same H1 H3 → N' H3) →
      g (.int (i : Nat)) (wipe σ vs) H1 fun σ2 H2 => wipe σ2 vs = wipe σ vs ∧ tt σ2 H2 fun b H3 => if b = true then te σ2 H3 N else N' H3)
    (hd : ∀ L H', H L = none → Same H H' → H' L = some (.lst ((List.range n).filterMap out)) → Q (.ref L) H') : LcB g tt te vs σ Q (Itr 0 n) H := by
  refine l_rng out hn (fun i H1 N N' hi s hN hN' => ?_) hd
  rw [Int.zero_add]
  exact hs i H1 N N' hi s hN hN'
/-- a for over a list -/
theorem f_map (c : α → V) (zs : List α) (Pv : Nat → L2.St → Hp → Prop) (h0 : Pv 0 σ H) (hG : ∀ i σ H, Pv i σ H → SqL K H a (zs.map c))
    (hs : ∀ i z σ H1 (N : L2.St → Hp → Prop), zs[i]? = some z → Pv i σ H1 → (∀ σ' H', Pv (i + 1) σ' H' → N σ' H') → g (c z) σ H1 fun σ2 H2 => tb { D with nx := N, ct := N, bk := D.nx } σ2 H2)
    (hd : ∀ σ H, Pv zs.length σ H → D.nx σ H) : ForB g tb D σ (Itl K a) H := by
  refine f_it walk_list Pv h0 (fun i σ H _ p => hG i σ H p) ?_ (fun σ H p => hd σ H (by rw [List.length_map] at p; exact p))
  rintro i x σ H1 H1' N hi p ⟨rfl, e⟩ hN
  rw [List.length_map] at hi
  rw [List.getElem?_map, List.getElem?_eq_getElem hi] at e
  cases Option.some.inj e
  exact hs i zs[i] σ _ N (List.getElem?_eq_getElem hi) p hN
/-- a for over enumerate(list): T is the pair -/
theorem f_enum (c : α → V) (zs : List α) (Pv : Nat → L2.St → Hp → Prop) (h0 : Pv 0 σ H) (hG : ∀ i σ H, Pv i σ H → SqL K H a (zs.map c))
    (hs : ∀ i z σ H1 T (N : L2.St → Hp → Prop), zs[i]? = some z → Pv i σ H1 → H1 T = none → (∀ σ' H', Pv (i + 1) σ' H' → N σ' H') → g (.ref T) σ (upd H1 T (.tup [.int (i : Nat), c z])) fun σ2 H2 => tb { D with nx := N, ct := N, bk := D.nx } σ2 H2)
    (hd : ∀ σ H, Pv zs.length σ H → D.nx σ H) : ForB g tb D σ (Ite K a) H := by
  refine f_it walk_enum Pv h0 (fun i σ H _ p => hG i σ H p) ?_ (fun σ H p => hd σ H (by rw [List.length_map] at p; exact p))
  rintro i x σ H1 H1' N hi p ⟨T, x1, x2, rfl, hT, rfl, e1, e2⟩ hN
  cases Option.some.inj e1
  rw [List.length_map] at hi
  replace e2 : (zs.map c)[i]? = some x2 := e2
  rw [List.getElem?_map, List.getElem?_eq_getElem hi] at e2
  cases Option.some.inj e2
  exact hs i zs[i] σ H1 T N (List.getElem?_eq_getElem hi) p hT hN
end
/-! ### equal data -/
theorem eqvAll_map {α : Type} [DecidableEq α] (f : α → PyData) (hf : ∀ x y, PyData.eqv (f x) (f y) = decide (x = y)) : ∀ xs ys : List α, PyData.eqvAll (xs.map f) (ys.map f) = decide (xs = ys)
  | [], [] => by rw [List.map_nil, PyData.eqvAll]; rfl
  | [], y :: ys => by rw [List.map_nil, List.map_cons, PyData.eqvAll]; rfl
  | x :: xs, [] => by rw [List.map_nil, List.map_cons, PyData.eqvAll]; rfl
  | x :: xs, y :: ys => by
    rw [List.map_cons, List.map_cons, PyData.eqvAll, hf, eqvAll_map f hf xs ys]
    by_cases h : x = y
    · by_cases h2 : xs = ys
      · rw [decide_eq_true h, decide_eq_true h2, h, h2, decide_eq_true rfl]
        rfl
      · rw [decide_eq_true h, decide_eq_false h2, decide_eq_false (fun e => h2 (List.cons.inj e).2)]
        rfl
    · rw [decide_eq_false h, decide_eq_false (fun e => h (List.cons.inj e).1)]
      rfl
theorem eqv_str (x y : Str) : PyData.eqv (.str x) (.str y) = decide (x = y) := by
  rw [PyData.eqv]
  by_cases h : x = y
  · rw [h, decide_eq_true rfl]
    exact beq_self_eq_true y
  · rw [decide_eq_false h]
    exact beq_eq_false_iff_ne.mpr h
theorem eqv_int (x y : Int) : PyData.eqv (.int x) (.int y) = decide (x = y) := by
  rw [PyData.eqv]
  by_cases h : x = y
  · rw [h, decide_eq_true rfl]
    exact beq_self_eq_true y
  · rw [decide_eq_false h]
    exact beq_eq_false_iff_ne.mpr h
theorem eqv_rooms (xs ys : List Str) : PyData.eqv (roomsD xs) (roomsD ys) = decide (xs = ys) := by
  unfold roomsD
  rw [PyData.eqv]
  exact eqvAll_map _ eqv_str xs ys
def intsD (ns : List Int) : PyData := .list (ns.map .int)
theorem eqv_ints (xs ys : List Int) : PyData.eqv (intsD xs) (intsD ys) = decide (xs = ys) := by
  unfold intsD
  rw [PyData.eqv]
  exact eqvAll_map _ eqv_int xs ys
section
variable {K : PySem.W.Frag} {H F : Hp} {l : Addr}
theorem dpAll_ints : ∀ rs : List Int, DpAll K H (rs.map V.int) (rs.map .int)
  | [] => .nil
  | r :: rs => .cons (.int r) (dpAll_ints rs)
theorem dp_ints {rs : List Int} (h : SqL K H l (rs.map V.int)) : Dp K H (.ref l) (intsD rs) := .lst h (dpAll_ints rs)
theorem shw_ints {ns : List Int} (h : ∀ n ∈ ns, -999999999999 ≤ n ∧ n ≤ 999999999999) : Shw ns.length 1 (intsD ns) := by
  have a : ShwA ((0 + 1) * (ns.map PyData.int).length) 0 (ns.map .int) := ShwA.all fun d m => by
    obtain ⟨r, hr, rfl⟩ := List.mem_map.mp m
    exact Shw.int_ (h r hr).1 (h r hr).2
  refine (Shw.list_ a).up ?_ (Nat.le_refl _)
  rw [List.length_map]
  omega
theorem shw_strs {rs : List Str} (h : ∀ r ∈ rs, IsName r) : Shw (9 * rs.length) 1 (roomsD rs) := by
  have a : ShwA ((8 + 1) * (rs.map PyData.str).length) 0 (rs.map .str) := ShwA.all fun d m => by
    obtain ⟨r, hr, rfl⟩ := List.mem_map.mp m
    exact shw_name (h r hr)
  refine (Shw.list_ a).up ?_ (Nat.le_refl _)
  rw [List.length_map]
  omega
end
theorem all_bl {α : Type} (f : α → Bool) : ∀ xs : List α, (xs.map f).all id = xs.all f
  | [] => rfl
  | x :: xs => by
    rw [List.map_cons, List.all_cons, List.all_cons, all_bl f xs]
    rfl
theorem fm_some {α β : Type} (f : α → β) : ∀ xs : List α, xs.filterMap (fun x => some (f x)) = xs.map f
  | [] => rfl
  | x :: xs => by
    rw [List.filterMap_cons, List.map_cons, fm_some f xs]
/-- all but p, as what stays -/
theorem pot_frame {H : Hp} {p : Addr} : ∃ F : Hp, Same F H ∧ F p = none ∧ ∀ b o, b ≠ p → H b = some o → F b = some o := by
  refine ⟨fun b => if b = p then none else H b, fun b o e => ?_, if_pos rfl, fun b o nb e => ?_⟩
  · by_cases z : b = p
    · have e' : (if b = p then none else H b) = some o := e
      rw [if_pos z] at e'
      cases e'
    · have e' : (if b = p then none else H b) = some o := e
      rw [if_neg z] at e'
      exact e'
  · exact (if_neg nb).trans e
/-! ### a run with a pot -/
structure Run (p : Addr) (F0 H0 F H : Hp) : Prop where
  g : Go (M1 p) F0 H0 F H
  f : F p = none
  t : PotAt H p
section
variable {p q : Addr} {F0 H0 F H F' H' : Hp} {o : HO}
theorem Run.start (h : PotAt H p) : ∃ F, Run p F H F H ∧ ∀ b o, b ≠ p → H b = some o → F b = some o := by
  obtain ⟨F, s, f, k⟩ := pot_frame (H := H) (p := p)
  exact ⟨F, ⟨Go.refl s, f, h⟩, k⟩
theorem Run.re (r : Run p F0 H0 F H) : Run p F H F H := ⟨Go.refl r.g.fh, r.f, r.t⟩
theorem Run.s (r : Run p F0 H0 F H) : Same F H := r.g.fh
theorem Run.ff (r : Run p F0 H0 F H) : Same F0 F := r.g.ff
theorem Run.trans (r : Run p F0 H0 F H) (k : Run p F H F' H') : Run p F0 H0 F' H' := ⟨r.g.trans k.g, k.f, k.t⟩
theorem Run.new (r : Run p F0 H0 F H) (h : H q = none) : Run p F0 H0 (upd F q o) (upd H q o) := by
  have n := r.t.ne h
  refine ⟨r.g.new h, ?_, r.t.upd n⟩
  rw [upd_ne n]
  exact r.f
theorem Run.tmp (r : Run p F0 H0 F H) (h : H q = none) : Run p F0 H0 F (upd H q o) := ⟨r.g.tmp h, r.f, r.t.upd (r.t.ne h)⟩
theorem Run.same (r : Run p F0 H0 F H) (s : Same H H') : Run p F0 H0 F H' := by
  refine ⟨r.g.trans (Go.of_same r.g.fh s), r.f, ?_⟩
  obtain ⟨a, b, e, k⟩ := r.t
  exact ⟨a, b, s _ _ e, k⟩
theorem Run.step (r : Run p F0 H0 F H) (g : Go (M1 p) F H F' H') (t : PotAt H' p) : Run p F0 H0 F' H' := ⟨r.g.trans g, g.oo _ r.f r.t.some, t⟩
theorem Run.step0 (r : Run p F0 H0 F H) (g : Go M0 F H F' H') : Run p F0 H0 F' H' := ⟨r.g.trans (g.wide fun _ h => h.elim), g.oo _ r.f r.t.some, r.t.go g m0⟩
/-- at the end: all but the pot is as it was -/
theorem Run.fin (r : Run p F0 H0 F H) : ∀ b o, b ≠ p → H0 b = some o → H b = some o := fun b o n e => r.g.hh b o n e
theorem new_s (r : Run p F0 H0 F H) (h : H q = none) : Same F (upd F q o) := Same.new (Same.free r.g.fh h)
theorem Run.keep (r : Run p F0 H0 F H) (h : H q = none) : ∃ F', Run p F0 H0 F' (upd H q o) ∧ Same F F' ∧ F' q = some o := ⟨_, r.new h, new_s r h, upd_same⟩
/-- what has come to be is kept -/
theorem Run.hold (r : Run p F0 H0 F H) (s : Same H H') (h : H q = none) (e : H' q = some o) : ∃ F', Run p F0 H0 F' H' ∧ Same F F' ∧ F' q = some o := by
  have f : F q = none := Same.free r.g.fh h
  have k := r.same s
  exact ⟨upd F q o, ⟨k.g.fin (r.g.free h) f e, by rw [upd_ne (r.t.ne h)]; exact r.f, k.t⟩, Same.new f, upd_same⟩
theorem Run.back (r : Run p F0 H0 F H) {b : Addr} (h : H b = none) : H0 b = none := r.g.free h
end
section
variable {J : It} {n : Nat} {G : Hp → Prop} {Y : Nat → Hp → V → Hp → Prop} {g : TG} {σ : L2.St} {p : Addr} {F0 H0 F H : Hp} {tt : TT} {te : TE} {vs : List Nat} {Q : VK}
/-- a comprehension beside a pot; its list is kept -/
theorem l_run (w : Walk J n G Y) (r : Run p F0 H0 F H) (I : Nat → Hp → List V → Prop) (i0 : I 0 F []) (hG : ∀ H', Same F H' → G H') (hn : n < 100000)
    (hs : ∀ i x F1 H1 H1' acc (N : VK) (N' : Hp → Prop), i < n → Same F F1 → Run p F1 H1 F1 H1 → I i F1 acc → Y i H1 x H1' →
      (∀ y F4 H4, Run p F1 H1 F4 H4 → I (i + 1) F4 (acc ++ [y]) → N y H4) → (∀ F3 H3, Run p F1 H1 F3 H3 → I (i + 1) F3 acc → N' H3) →
      g x (wipe σ vs) H1' fun σ2 H2 => wipe σ2 vs = wipe σ vs ∧ tt σ2 H2 fun b H3 => if b = true then te σ2 H3 N else N' H3)
    (hd : ∀ L F1 F2 H' acc, Run p F0 H0 F2 H' → Run p F H F2 H' → Same F F1 → Same F1 F2 → F2 L = some (.lst acc) → H L = none → I n F1 acc → Q (.ref L) H') : LcB g tt te vs σ Q J H := by
  refine l_go w r.g.fh (M1 p) (PotAt · p) r.t r.t.m pot_z I i0 hG hn ?_ ?_
  · intro i x F1 H1 H1' acc N N' hi g1 z1 i1 y hN hN'
    have f1 : F1 p = none := g1.oo _ r.f r.t.some
    exact hs i x F1 H1 H1' acc N N' hi g1.ff ⟨Go.refl g1.fh, f1, z1⟩ i1 y (fun v F4 H4 r4 i4 => hN v F4 H4 r4.g r4.t i4) (fun F3 H3 r3 i3 => hN' F3 H3 r3.g r3.t i3)
  · intro L F1 H' acc g1 z1 hL fL eL i1
    have n : L ≠ p := (r.t.ne hL).symm
    have k : Run p F H (upd F1 L (.lst acc)) H' := ⟨g1.fin hL fL eL, by rw [upd_ne n.symm]; exact g1.oo _ r.f r.t.some, z1⟩
    exact hd L F1 _ H' acc (r.trans k) k g1.ff (Same.new fL) upd_same hL i1
end
theorem all_true {n : Nat} : (List.replicate n true).all id = true := by
  rw [List.all_eq_true]
  intro x h
  exact (List.eq_of_mem_replicate h)
theorem fm_true {α : Type} : ∀ xs : List α, xs.filterMap (fun _ => some (V.bl true)) = (List.replicate xs.length true).map V.bl
  | [] => rfl
  | x :: xs => by
    rw [List.filterMap_cons, fm_true xs]
    rfl
section
variable {M : Addr → Prop} {q : Addr} {F0 H0 F H H' : Hp} {o : HO}
theorem Go.keep (g : Go M F0 H0 F H) (h : H q = none) : ∃ F', Go M F0 H0 F' (upd H q o) ∧ Same F F' ∧ F' q = some o := ⟨_, g.new h, Same.new (Same.free g.fh h), upd_same⟩
theorem Go.hold (g : Go M F0 H0 F H) (s : Same H H') (h : H q = none) (e : H' q = some o) : ∃ F', Go M F0 H0 F' H' ∧ Same F F' ∧ F' q = some o := by
  have f : F q = none := Same.free g.fh h
  have k := g.trans (Go.of_same (M := M) g.fh s)
  exact ⟨upd F q o, k.fin (g.free h) f e, Same.new f, upd_same⟩
end
/-- a tuple of ints -/
def IntsT (F : Hp) (a : Addr) (ns : List Int) : Prop := F a = some (.tup (ns.map V.int))
def IntsL (F : Hp) (a : Addr) (ns : List Int) : Prop := F a = some (.lst (ns.map V.int))
theorem paired_intsT {F F' : Hp} {as : List Addr} {l : List (List Int)} (s : Same F F') (h : Paired (IntsT F) as l) : Paired (IntsT F') as l := paired_mono (fun _ _ e => s _ _ e) h
theorem paired_intsL {F F' : Hp} {as : List Addr} {l : List (List Int)} (s : Same F F') (h : Paired (IntsL F) as l) : Paired (IntsL F') as l := paired_mono (fun _ _ e => s _ _ e) h
theorem paired_strsL {F F' : Hp} {as : List Addr} {l : List (List Str)} (s : Same F F') (h : Paired (StrsL F) as l) : Paired (StrsL F') as l := paired_mono (fun _ _ e => s _ _ e) h
theorem paired_app {α β : Type} {R : α → β → Prop} : ∀ {l l' : List α} {m m' : List β}, Paired R l m → Paired R l' m' → Paired R (l ++ l') (m ++ m')
  | _, _, _, _, .nil, h => h
  | _, _, _, _, .cons r t, h => .cons r (paired_app t h)
/-- t + (k,), t a tuple of ints -/
theorem cat_one {M : Addr → Prop} {K : PySem.W.Frag} {F0 H0 F H : Hp} {a : Addr} {row : List Int} {k : Int} {N : VK} (g : Go M F0 H0 F H) (hR : F a = some (.tup (row.map V.int))) (hl : row.length ≤ 100)
    (hN : ∀ t F' H', Go M F0 H0 F' H' → Same F F' → IntsT F' t (row ++ [k]) → N (.ref t) H') : 1 ≤ sizeLine ∧ ∀ p, H p = none → rCatA K (.ref a) (.ref p) (upd H p (.tup [.int k])) N := by
  refine ⟨by decide, fun p hp => ?_⟩
  obtain ⟨F1, g1, s1, e1⟩ := g.keep (o := .tup [.int k]) hp
  refine ⟨a, p, row.map V.int, [.int k], rfl, rfl, SqT.of (g1.fh _ _ (s1 _ _ hR)), SqT.of (g1.fh _ _ e1), ?_, fun e => ?_, fun _ z => ?_, fun _ _ q hq => ?_⟩
  · rw [List.length_map]
    exact Nat.le_trans (Nat.add_le_add_right hl 1) (by decide)
  · cases row with
    | nil => exact hN p F1 _ g1 s1 e1
    | cons x r => cases e
  · cases z
  · obtain ⟨F2, g2, s2, e2⟩ := g1.keep (o := .tup (row.map V.int ++ [.int k])) hq
    refine hN q F2 _ g2 (s1.trans s2) ?_
    show F2 q = _
    rw [e2, List.map_append]
    rfl
def tupD (ns : List Int) : PyData := .tuple (ns.map .int)
theorem dp_tup {K : PySem.W.Frag} {H : Hp} {a : Addr} {ns : List Int} (h : SqT K H a (ns.map V.int)) : Dp K H (.ref a) (tupD ns) := .tup h (dpAll_ints ns)
theorem shw_tup {ns : List Int} (h : ∀ n ∈ ns, -999999999999 ≤ n ∧ n ≤ 999999999999) : Shw ns.length 1 (tupD ns) := by
  have a : ShwA ((0 + 1) * (ns.map PyData.int).length) 0 (ns.map .int) := ShwA.all fun d m => by
    obtain ⟨r, hr, rfl⟩ := List.mem_map.mp m
    exact Shw.int_ (h r hr).1 (h r hr).2
  refine (Shw.tuple_ a).up ?_ (Nat.le_refl _)
  rw [List.length_map]
  omega
theorem eqv_tups (xs ys : List Int) : PyData.eqv (tupD xs) (tupD ys) = decide (xs = ys) := by
  unfold tupD
  rw [PyData.eqv]
  exact eqvAll_map _ eqv_int xs ys
theorem atI_end {row : List Int} (h : row ≠ []) : atI (row.map V.int) (-1) = some (.int (row.getLast?.getD 0)) := by
  obtain ⟨r, x, rfl⟩ : ∃ r x, row = r ++ [x] := ⟨row.dropLast, row.getLast h, (List.dropLast_concat_getLast h).symm⟩
  rw [List.map_append, List.getLast?_concat]
  exact L2.atI_last _ _
end Dc

namespace Dc
open PySem PySem.Spec PyProof.Rows L2
/-! ### enumerate(tuple) -/
theorem meets_enum1 {v : Value} {o : Obj} {G : Heap → Prop} (B : Begins v o G) :
    Meets (Builtin.«enumerate.__new__» ⟨[.type "enumerate", v], []⟩) (fun _ R s => G s.heap ∧
      R (.ok (.ret (.ref (s.heap.push o).objs.size))) { s with heap := (s.heap.push o).push { cls := .type "enumerate", data := .fields #[.none, .bool false, .ref s.heap.objs.size, rawInt 0, .none, .none] } }) :=
  .of_wp fun prog w A R s hh => by
    obtain ⟨hp, g, d, tk, os⟩ := s
    obtain ⟨h1, h⟩ := hh
    have hsub := sub_enumerate
    have it1 : ∀ {A' : Around} {E : Value → Shared → Prop} {Q : Value → Shared → Prop}, Q (.ref hp.objs.size) ⟨hp.push o, g, d, tk, os⟩ → wpAny (model prog w) A' (pyIter v) Q E ⟨hp, g, d, tk, os⟩ := fun q => B.iter prog w _ _ ⟨hp, g, d, tk, os⟩ _ h1 q
    wp_walk using it1
    refine wpAny_stack_any fun st => wpAny_pure ?_
    split
    · rename_i c _ _ _ _ _
      cases (c == Value.type "enumerate")
      · wp_walk using it1
        exact ⟨_, rfl, h⟩
      · wp_walk using it1
        exact ⟨_, rfl, h⟩
    · wp_walk using it1
      exact ⟨_, rfl, h⟩
theorem enum1 {prog : Program} {w : World} {A : Around} {E : Value → Shared → Prop} {s : Shared} {v : Value} {o : Obj} {G : Heap → Prop} {Q : Value → Shared → Prop} (B : Begins v o G) (h1 : G s.heap)
    (h : ∀ h', IsEnum h' (s.heap.objs.size + 1) s.heap.objs.size 0 .none → h'.get? s.heap.objs.size = some o → (∀ b o, s.heap.get? b = some o → h'.get? b = some o) → Q (.ref (s.heap.objs.size + 1)) { s with heap := h' }) :
    wpAny (model prog w) A (call (.type "enumerate") [v]) Q E s := by
  refine callType_new F.called_enumerate (by decide) (F.typeCall_enumerate_1 _) (F.newCall_enumerate_1 _) (fun obj => F.args_object_init_2 obj _) F.entry_enumerate_new (meets_enum1 B) ⟨h1, ?_⟩
  have hz : (s.heap.push o).objs.size = s.heap.objs.size + 1 := Heap.size_push ..
  show _ ∧ _
  rw [hz]
  have he : IsEnum ((s.heap.push o).push { cls := .type "enumerate", data := .fields #[.none, .bool false, .ref s.heap.objs.size, rawInt 0, .none, .none] }) (s.heap.objs.size + 1) s.heap.objs.size 0 .none := by
    have z := Heap.get?_push_size (s.heap.push o) (o := { cls := .type "enumerate", data := .fields #[.none, .bool false, .ref s.heap.objs.size, rawInt 0, .none, .none] }) rfl
    rw [hz] at z
    exact z
  exact ⟨⟨_, he, rfl⟩, h _ he (Heap.get?_push_of_some _ (Heap.get?_push_size _ B.free)) fun b o x => Heap.get?_push_of_some _ (Heap.get?_push_of_some _ x)⟩
/-- the tuple at a, each item in a new pair -/
def Itn (K : PySem.W.Frag) (a : Addr) : It :=
  ⟨fun i H => ∃ (xs : List V) (x : V), SqT K H a xs ∧ xs[i]? = some x, fun i H v H' => ∃ T x, v = .ref T ∧ H T = none ∧ H' = upd H T (.tup [.int (i : Nat), x]) ∧ ∀ xs, SqT K H a xs → xs[i]? = some x, fun i H => ∃ xs : List V, SqT K H a xs ∧ xs.length ≤ i⟩
theorem walk_enumT {K : PySem.W.Frag} {a : Addr} {xs : List V} : Walk (Itn K a) xs.length (fun H => SqT K H a xs) (YPair (fun i => some (.int (i : Nat))) (fun i => xs[i]?)) := by
  refine ⟨fun i H hi q => ⟨xs, xs[i], q, List.getElem?_eq_getElem hi⟩, fun H q => ⟨xs, q, Nat.le_refl _⟩, fun i H v H' hi q y => ?_⟩
  obtain ⟨T, x, h1, h2, h3, h4⟩ := y
  exact ⟨T, .int (i : Nat), x, h1, h2, h3, rfl, h4 xs q⟩
theorem turn_enumT {P : Program} {w : World} {K : PySem.W.Frag} {elts : List Expr} {kk : Nat} {tpos : Pos} (a e it : Addr) (hae : a ≠ e) (hai : a ≠ it) :
    Turn P w K (.Tuple elts kk tpos) (Itn K a) [e, it] e (fun i h => (∃ old, IsEnum h e it ((i : Nat) : Int) old) ∧ h.IsTupleIter it a i ∧ e ≠ it) where
  mem := by simp
  obj := fun i h st b hb => by
    obtain ⟨⟨old, he⟩, ⟨o, ho, hc, hd⟩, _⟩ := st
    rcases (show b = e ∨ b = it by simpa using hb) with z | z
    · rw [z]
      exact ⟨_, he, fun v q => nomatch q⟩
    · rw [z]
      exact ⟨o, ho, fun v q => by rw [hd] at q; cases q⟩
  keep := fun i h h' st k => let ⟨⟨old, he⟩, hi, hne⟩ := st; ⟨⟨old, k e (by simp) _ he⟩, hi.at fun o q => k it (by simp) o q, hne⟩
  item := by
    intro X hP hw hK hc i pins s σ H E I hf st hg
    subst hP hw hK
    obtain ⟨⟨old, he⟩, hit, hne⟩ := st
    obtain ⟨xs, x, hq, hx⟩ := hg
    obtain ⟨its, rv, p, hz⟩ := I.tuple hq
    obtain ⟨u, hu, ru⟩ := rv.get hx
    have hel : e < s.heap.objs.size := Heap.lt_size he
    have hil : it < s.heap.objs.size := by
      obtain ⟨_, q, _⟩ := hit
      exact Heap.lt_size q
    have ilt : i < its.toArray.size := by
      have := (List.getElem?_eq_some_iff.mp hu).1
      simpa using this
    refine wpAny_pyNext_enum_itemD (Draws.tuple (A := X.A.in1) (I.ok.hd hc) it a hai its.toArray) he ⟨hit, p⟩ ilt hne (by simp [hne, hae.symm]) fun y h1 tk hy ho st1 hT hsz hk => ?_
    have ey : y = u := by
      have z : its.toArray[i]? = some u := by simpa using hu
      exact Option.some.inj (hy.symm.trans z)
    subst ey
    refine ⟨_, rfl, wpAny_letOwnedTupleGo_enum (s := { s with heap := h1, toks := tk + 1 }) ho fun h2 he2 sb => ?_⟩
    have hT2 : h2.get? s.heap.objs.size = some { cls := .type "tuple", data := .seq #[.int i tk, y] } := (sb.2 _ (Nat.ne_of_gt hel)).trans hT
    have new : ObjOk X.prog X.w (upd H s.heap.objs.size (.tup [.int (i : Nat), x])) h2 s.heap.objs.size (.tup [.int (i : Nat), x]) := ⟨by show 2 ≤ sizeLine; decide, [.int i tk, y], .cons ⟨_, rfl⟩ (.cons ru .nil), ⟨_, hT2, rfl, _, rfl⟩⟩
    have I1 : Inv X pins σ (upd H s.heap.objs.size (.tup [.int (i : Nat), x])) { s with heap := h2, toks := tk + 1 } :=
      I.turnedNew (ch := [e, it]) (fun b ob hb q => (sb.2 b (fun z => hb (by simp [z]))).trans (hk b ob (fun z => hb (by simp [z])) (fun z => hb (by simp [z])) q)) hf (Nat.le_refl _) new
    refine ⟨.ref s.heap.objs.size, _, I1, rfl, ⟨_, x, rfl, I.hok.fresh (Nat.le_refl _), rfl, fun ys hy => by rw [I.tuple_inj hy hq]; exact hx⟩, ⟨⟨y, ?_⟩, st1.1.at fun o q => (sb.2 it (Ne.symm hne)).trans q, hne⟩, fun b hb => ?_⟩
    · rw [show ((i + 1 : Nat) : Int) = (i : Int) + 1 by omega]
      exact he2
    · have hb2 : b < s.heap.objs.size := by
        rcases (show b = e ∨ b = it by simpa using hb) with z | z
        · rw [z]
          exact hel
        · rw [z]
          exact hil
      rw [upd_ne (Nat.ne_of_lt hb2)]
      exact (hf b hb).1
  done := by
    intro X hP hw hK hc i pins s σ H E I hf st hg
    subst hP hw hK
    obtain ⟨⟨old, he⟩, hit, hne⟩ := st
    obtain ⟨xs, hq, hx⟩ := hg
    obtain ⟨its, rv, p, hz⟩ := I.tuple hq
    obtain ⟨f0, f1, f2, f3, f4, f5⟩ := hf it (by simp)
    have hl := rv.length
    have hi0 : its.toArray[i]? = none := by simp; omega
    have ty : s.TypeIs (.ref e) "enumerate" := ⟨_, he, rfl⟩
    unfold pyNext
    refine wpAny_bind (wpAny_attempt (wpAny_callSpecial?_slot (name := Str.ofString "__next__") ty F.slot_enumerate_next (wpAny_call_entry F.slot_enumerate_next ty F.entry_enumerate_next ?_ (F.args_enumerate_next_1 _))))
    show wpAny _ _ (field (.ref e) 2 >>= _) _ _ _
    refine wpAny_bind (wpAny_field he rfl (x := .ref it) rfl (wpAny_bind (wpAny_nextOf_tuple_end (A := X.A.in1) (I.ok.hd hc) hit p hi0 fun h1 y eb ⟨o, ho, hco⟩ => ?_)))
    exact wpAny_bind (wpAny_isInstance (T := "StopIteration") (b := true) ⟨o, ho, hco⟩ isSubtype_stop (wpAny_pure ⟨rfl, I.turned (t' := s.toks) (fun b o hb q => eb b o hb q) f0 f1 f3 f4 f5⟩))
  self := fun A i s Q E st h => let ⟨⟨_, he⟩, _⟩ := st; wpAny_pyIter_enum he h
def iEnumT (K : PySem.W.Frag) (ta : TA) : TI := fun σ H R => ta σ H fun vs H1 => ∃ a xs, vs = [.ref a] ∧ SqT K H1 a xs ∧ R (Itn K a) H1
theorem pi_enumT {X : Cx} {e : Expr} {ta : TA} {p pos tpos : Pos} {elts : List Expr} {kk : Nat} (hg : Gl X "enumerate") (hm : X.mg "enumerate" = none) (ha : PA X [e] ta) (hs : starEach [e] X.env = [(false, eval e X.env)] := by rfl) :
    PI X (.Tuple elts kk tpos) (.Call (.Name "enumerate" p) [e] [] pos) (iEnumT X.K ta) := by
  refine ⟨fun pins s σ H R I h => ?_⟩
  refine Call_ (ld_blt I hg hm boot_enumerate (PyProof.Rows.callWith_type1 (thn (ha.run pos pins s σ H _ I h) fun us s1 ⟨vs, H1, I1, r1, q1⟩ => ?_) hs rfl))
  obtain ⟨a, xs, rfl, hq, q⟩ := q1
  obtain ⟨u, rfl, ru⟩ := vals1 r1
  cases (show u = Value.ref a from ru)
  obtain ⟨its, rv, p', hz⟩ := I1.tuple hq
  have alt : a < s1.heap.objs.size := by
    obtain ⟨o, ho, _⟩ := p'
    exact Heap.lt_size ho
  refine enum1 (begins_tuple a its.toArray) p' fun h1 he hit hk => wpAny_pyIter_enum he ?_
  have I2 : Inv X pins σ H1 { s1 with heap := h1 } := I1.kept (t' := s1.toks) hk
  refine ⟨s1.heap.objs.size + 1, [s1.heap.objs.size + 1, s1.heap.objs.size], _, _, H1, rfl, I2, turn_enumT a (s1.heap.objs.size + 1) s1.heap.objs.size (Nat.ne_of_lt (Nat.lt_succ_of_lt alt)) (Nat.ne_of_lt alt), ⟨⟨.none, he⟩, ⟨_, hit, rfl, rfl⟩, Nat.succ_ne_self _⟩, fun b hb => ?_, q⟩
  have hle : s1.heap.objs.size ≤ b := by
    rcases (show b = s1.heap.objs.size + 1 ∨ b = s1.heap.objs.size by simpa using hb) with z | z
    · rw [z]
      exact Nat.le_succ _
    · rw [z]
      exact Nat.le_refl _
  exact I1.fpOk hle (I1.hok.fresh hle)
end Dc

namespace Dc
open PySem PySem.Spec PyProof.Rows L2
/-! ### enumerate(zip(a, b)) -/
/-- a zip's record, whatever it knows of the tuple that it gave last -/
abbrev ZRec (h : Heap) (z ti to : Addr) (f0 : Value) (f : Bool) : Prop := h.get? z = some { cls := .type "zip", dict := none, data := .fields #[f0, .bool f, .bool false, .ref ti, .ref to], slots := #[] }
/-- it has walked k items of each of two lists -/
structure ZAt (h : Heap) (z ti to p q l m : Addr) (k : Nat) : Prop where
  rc : ∃ f0 f, ZRec h z ti to f0 f ∧ ((f0 = .none ∧ f = false) ∨ ∃ T : Addr, f0 = rawInt T)
  ti : IsPair h ti (.ref p) (.ref q)
  to : ∃ c d, IsPair h to c d
  i1 : h.IsListIter p l k
  i2 : h.IsListIter q m k
section
variable {prog : Program} {w : World} {A : Around} {E : Value → Shared → Prop} {s : Shared} {z ti to p q l m T : Addr} {k j : Nat} {f : Bool} {us vs : Array Value} {u v c d : Value}
theorem look_none {T : Addr} {R : Option Obj → Shared → Prop} (no : s.heap.get? T = none) (r : R none s) : wpAny (model prog w) A (loadIfAlive T) R E s := by
  have r' : R (s.heap.get? T) s := by rw [no]; exact r
  exact fun _ _ _ => r'
theorem dead_free {Q : Bool → Shared → Prop} (zr : ZRec s.heap z ti to (rawInt T) f) (no : s.heap.get? T = none) (go : Q true s) : wpAny (model prog w) A (Builtin.SmallTypes.ownedTupleIsFree (.ref z)) Q E s := by
  unfold Builtin.SmallTypes.ownedTupleIsFree
  refine wpAny_bind (wpAny_field zr rfl (x := rawInt T) rfl ?_)
  show wpAny _ _ (loadIfAlive (Int.toNat (T : Int)) >>= _) _ _ _
  rw [Int.toNat_natCast]
  refine wpAny_bind (look_none no ?_)
  simp only [Option.isNone_none, if_true]
  exact wpAny_pure go
/-- one more pair, where the tuple that was given last has gone -/
theorem zip_item_dead {Q : Value → Shared → Prop} (X : ZipApart z ti to p q l m) (zr : ZRec s.heap z ti to (rawInt T) f) (no : s.heap.get? T = none) (pi : IsPair s.heap ti (.ref p) (.ref q)) (po : IsPair s.heap to c d)
    (w1 : s.heap.IsListIter p l k) (w2 : s.heap.IsListIter q m j) (a1 : s.heap.IsList l us) (a2 : s.heap.IsList m vs) (eu : us[k]? = some u) (ev : vs[j]? = some v)
    (go : ∀ h', ZRec h' z ti to (rawInt s.heap.objs.size) false → IsPair h' to u v → h'.IsListIter p l (k + 1) → h'.IsListIter q m (j + 1) → IsPair h' s.heap.objs.size u v → h'.objs.size = s.heap.objs.size + 1 →
      (∀ b o, b ≠ z → b ≠ to → b ≠ p → b ≠ q → s.heap.get? b = some o → h'.get? b = some o) → Q (.ref s.heap.objs.size) { s with heap := h' }) :
    wpAny (model prog w) A (Builtin.«zip.__next__» ⟨[.ref z], []⟩) (fun fin s' => ∃ r, fin = .done (.ret r) ∧ Q r s') E s := by
  show wpAny (model prog w) A (field (.ref z) 2 >>= _) _ E s
  refine wpAny_bind (wpAny_field zr rfl (x := .bool false) rfl ?_)
  show wpAny (model prog w) A (field (.ref z) 3 >>= _) _ E s
  refine wpAny_bind (wpAny_field zr rfl (x := .ref ti) rfl ?_)
  refine wpAny_bind (wpAny_seqItems pi rfl ?_)
  show wpAny (model prog w) A (Builtin.SmallTypes.ownedTupleIsFree (.ref z) >>= _) _ E s
  refine wpAny_bind (dead_free zr no ?_)
  simp only [if_true]
  refine wpAny_bind (wpAny_rule (wpAny_bind (wpAny_field zr rfl (x := .ref to) rfl ?_)))
  refine wpAny_bind (wpAny_setField_rec zr (by simp) fun g1 z1 e1 => ?_)
  replace z1 : ZRec g1 z ti to .ellipsis f := z1
  refine wpAny_bind ?_
  simp only [List.zipIdx_cons, List.zipIdx_nil, List.forIn_cons, List.forIn_nil]
  refine wpAny_bind (wpAny_bind (wpAny_onRaise ?_))
  show wpAny (model prog w) A (Builtin.SmallTypes.nextOf (.ref p) >>= _) _ _ _
  refine wpAny_bind (wpAny_nextOf_list_item (w1.extBut e1.extBut X.i1z) (a1.extBut e1.extBut X.l1z) eu fun g2 x1 e2 => wpAny_pure ?_)
  have o2 : IsPair g2 to c d := e2.extBut _ _ X.TOi1 (e1.extBut _ _ X.TOz po)
  refine wpAny_bind (wpAny_seqItems o2 rfl (wpAny_bind (wpAny_updateSeq_pair o2 fun g3 o3 e3 => ?_)))
  replace o3 : IsPair g3 to u d := o3
  refine wpAny_bind (wpAny_letGo (wpAny_pure (wpAny_bind (wpAny_bind (wpAny_onRaise ?_)))))
  show wpAny (model prog w) A (Builtin.SmallTypes.nextOf (.ref q) >>= _) _ _ _
  have y2 := ((w2.extBut e1.extBut X.i2z).extBut e2.extBut X.i12.symm).extBut e3.extBut X.TOi2.symm
  have y3 := ((a2.extBut e1.extBut X.l2z).extBut e2.extBut X.l2i1).extBut e3.extBut X.l2TO
  refine wpAny_bind (wpAny_nextOf_list_item y2 y3 ev fun g4 x2 e4 => wpAny_pure ?_)
  have o4 : IsPair g4 to u d := e4.extBut _ _ X.TOi2 o3
  refine wpAny_bind (wpAny_seqItems o4 rfl (wpAny_bind (wpAny_updateSeq_pair o4 fun g5 o5 e5 => ?_)))
  replace o5 : IsPair g5 to u v := o5
  refine wpAny_bind (wpAny_letGo (wpAny_pure (wpAny_pure (wpAny_bind (wpAny_seqItems o5 rfl (wpAny_bind (wpAny_newTuple ?_)))))))
  have n5 : g5.objs.size = s.heap.objs.size := by rw [e5.1, e4.1, e3.1, e2.1, e1.1]
  have z5 : ZRec g5 z ti to .ellipsis f := e5.extBut _ _ X.TOz.symm (e4.extBut _ _ X.i2z.symm (e3.extBut _ _ X.TOz.symm (e2.extBut _ _ X.i1z.symm z1)))
  have k5 : ∀ b o, b ≠ z → b ≠ to → b ≠ p → b ≠ q → s.heap.get? b = some o → g5.get? b = some o := fun b o b1 b2 b3 b4 h =>
    e5.extBut _ _ b2 (e4.extBut _ _ b4 (e3.extBut _ _ b2 (e2.extBut _ _ b3 (e1.extBut _ _ b1 h))))
  have x1' : g5.IsListIter p l (k + 1) := ((x1.extBut e3.extBut X.TOi1.symm).extBut e4.extBut X.i12).extBut e5.extBut X.TOi1.symm
  have x2' : g5.IsListIter q m (j + 1) := x2.extBut e5.extBut X.TOi2.symm
  have lz : z < g5.objs.size := Heap.lt_size z5
  show wpAny (model prog w) A (Builtin.SmallTypes.ownedTupleHandOut (.ref z) (.ref g5.objs.size) >>= _) _ _ _
  refine wpAny_bind ?_
  unfold Builtin.SmallTypes.ownedTupleHandOut
  have z6 : ZRec (g5.push { cls := .type "tuple", data := .seq #[u, v] }) z ti to .ellipsis f := Heap.get?_push_of_some _ z5
  refine wpAny_bind (wpAny_setField_rec z6 (by simp) fun g7 z7 e7 => ?_)
  replace z7 : ZRec g7 z ti to (rawInt g5.objs.size) f := z7
  refine wpAny_setField_rec z7 (by simp) fun g8 z8 e8 => ?_
  replace z8 : ZRec g8 z ti to (rawInt g5.objs.size) false := z8
  have up : ∀ b o, b ≠ z → g5.get? b = some o → g8.get? b = some o := fun b o b1 h => e8.extBut _ _ b1 (e7.extBut _ _ b1 (Heap.get?_push_of_some _ h))
  have t8 : IsPair g8 g5.objs.size u v := e8.extBut _ _ (Nat.ne_of_gt lz) (e7.extBut _ _ (Nat.ne_of_gt lz) (Heap.get?_push_size _ rfl))
  have n8 : g8.objs.size = g5.objs.size + 1 := by rw [e8.1, e7.1, Heap.size_push]
  rw [n5] at z8 t8 n8
  refine wpAny_pure ⟨_, rfl, ?_⟩
  show Q (.ref g5.objs.size) _
  rw [n5]
  exact go g8 z8 (up _ _ X.TOz o5) (x1'.at fun o h => up _ o X.i1z h) (x2'.at fun o h => up _ o X.i2z h) t8 n8 fun b o b1 b2 b3 b4 h => up b o b1 (k5 b o b1 b2 b3 b4 h)
theorem zip_end_dead {Q : Fin → Shared → Prop} (hh : A.handled = none) (X : ZipApart z ti to p q l m) (zr : ZRec s.heap z ti to (rawInt T) f) (no : s.heap.get? T = none) (pi : IsPair s.heap ti (.ref p) (.ref q)) (po : IsPair s.heap to c d)
    (w1 : s.heap.IsListIter p l k) (w2 : s.heap.IsListIter q m j) (a1 : s.heap.IsList l us) (a2 : s.heap.IsList m vs) (en : us[k]? = none ∨ vs[j]? = none)
    (go : ∀ h' e, (∀ b o, b ≠ z → b ≠ to → b ≠ p → b ≠ q → s.heap.get? b = some o → h'.get? b = some o) → (∃ o, h'.get? e = some o ∧ o.cls = .type "StopIteration") → E (.ref e) { s with heap := h' }) :
    wpAny (model prog w) A (Builtin.«zip.__next__» ⟨[.ref z], []⟩) Q E s := by
  show wpAny (model prog w) A (field (.ref z) 2 >>= _) _ E s
  refine wpAny_bind (wpAny_field zr rfl (x := .bool false) rfl ?_)
  show wpAny (model prog w) A (field (.ref z) 3 >>= _) _ E s
  refine wpAny_bind (wpAny_field zr rfl (x := .ref ti) rfl ?_)
  refine wpAny_bind (wpAny_seqItems pi rfl ?_)
  show wpAny (model prog w) A (Builtin.SmallTypes.ownedTupleIsFree (.ref z) >>= _) _ E s
  refine wpAny_bind (dead_free zr no ?_)
  simp only [if_true]
  refine wpAny_bind (wpAny_rule (wpAny_bind (wpAny_field zr rfl (x := .ref to) rfl ?_)))
  refine wpAny_bind (wpAny_setField_rec zr (by simp) fun g1 z1 e1 => ?_)
  replace z1 : ZRec g1 z ti to .ellipsis f := z1
  refine wpAny_bind ?_
  simp only [List.zipIdx_cons, List.zipIdx_nil, List.forIn_cons, List.forIn_nil]
  refine wpAny_bind (wpAny_bind (wpAny_onRaise ?_))
  show wpAny (model prog w) A (Builtin.SmallTypes.nextOf (.ref p) >>= _) _ _ _
  cases eu : us[k]? with
  | none =>
    refine wpAny_bind (wpAny_nextOf_list_end hh (w1.extBut e1.extBut X.i1z) (a1.extBut e1.extBut X.l1z) eu fun g2 e e2 he => ?_)
    obtain ⟨oe, ho, hce⟩ := he
    have z2 : ZRec g2 z ti to .ellipsis f := e2 _ _ X.i1z.symm z1
    have nz : e ≠ z := fun x => by subst x; rw [z2] at ho; cases ho; simp at hce
    exact wpAny_setField_rec z2 (by simp) fun g3 _ e3 => go g3 e (fun b o b1 _ b3 _ x => e3.extBut _ _ b1 (e2 _ _ b3 (e1.extBut _ _ b1 x))) ⟨oe, e3.extBut _ _ nz ho, hce⟩
  | some u =>
    have ev : vs[j]? = none := by
      rcases en with h | h
      · rw [eu] at h
        cases h
      · exact h
    refine wpAny_bind (wpAny_nextOf_list_item (w1.extBut e1.extBut X.i1z) (a1.extBut e1.extBut X.l1z) eu fun g2 x1 e2 => wpAny_pure ?_)
    have o2 : IsPair g2 to c d := e2.extBut _ _ X.TOi1 (e1.extBut _ _ X.TOz po)
    refine wpAny_bind (wpAny_seqItems o2 rfl (wpAny_bind (wpAny_updateSeq_pair o2 fun g3 o3 e3 => ?_)))
    refine wpAny_bind (wpAny_letGo (wpAny_pure (wpAny_bind (wpAny_bind (wpAny_onRaise ?_)))))
    show wpAny (model prog w) A (Builtin.SmallTypes.nextOf (.ref q) >>= _) _ _ _
    have y2 := ((w2.extBut e1.extBut X.i2z).extBut e2.extBut X.i12.symm).extBut e3.extBut X.TOi2.symm
    have y3 := ((a2.extBut e1.extBut X.l2z).extBut e2.extBut X.l2i1).extBut e3.extBut X.l2TO
    refine wpAny_bind (wpAny_nextOf_list_end hh y2 y3 ev fun g4 e e4 he => ?_)
    obtain ⟨oe, ho, hce⟩ := he
    have z4 : ZRec g4 z ti to .ellipsis f := e4 _ _ X.i2z.symm (e3.extBut _ _ X.TOz.symm (e2.extBut _ _ X.i1z.symm z1))
    have nz : e ≠ z := fun x => by subst x; rw [z4] at ho; cases ho; simp at hce
    exact wpAny_setField_rec z4 (by simp) fun g5 _ e5 => go g5 e (fun b o b1 b2 b3 b4 x => e5.extBut _ _ b1 (e4 _ _ b4 (e3.extBut _ _ b2 (e2.extBut _ _ b3 (e1.extBut _ _ b1 x))))) ⟨oe, e5.extBut _ _ nz ho, hce⟩
/-- one more pair, in any case -/
theorem zip_item {Q : Value → Shared → Prop} (X : ZipApart z ti to p q l m) (Z : ZAt s.heap z ti to p q l m k) (a1 : s.heap.IsList l us) (a2 : s.heap.IsList m vs) (eu : us[k]? = some u) (ev : vs[k]? = some v)
    (go : ∀ h', ZAt h' z ti to p q l m (k + 1) → IsPair h' s.heap.objs.size u v → h'.objs.size = s.heap.objs.size + 1 → (∀ b o, b ≠ z → b ≠ to → b ≠ p → b ≠ q → s.heap.get? b = some o → h'.get? b = some o) → Q (.ref s.heap.objs.size) { s with heap := h' }) :
    wpAny (model prog w) A (Builtin.«zip.__next__» ⟨[.ref z], []⟩) (fun fin s' => ∃ r, fin = .done (.ret r) ∧ Q r s') E s := by
  obtain ⟨⟨f0, f, zr, hf⟩, pi, ⟨c, d, po⟩, w1, w2⟩ := Z
  have keepTI : ∀ {h' : Heap}, (∀ b o, b ≠ z → b ≠ to → b ≠ p → b ≠ q → s.heap.get? b = some o → h'.get? b = some o) → IsPair h' ti (.ref p) (.ref q) := fun k => k _ _ X.TIz X.TITO X.TIi1 X.TIi2 pi
  rcases hf with ⟨rfl, rfl⟩ | ⟨T, rfl⟩
  · exact zip_next_item X zr pi po w1 w2 a1 a2 eu ev fun h' b1 b2 b3 b4 b5 b6 b7 => go h' ⟨⟨_, _, b1, .inr ⟨_, rfl⟩⟩, keepTI b7, ⟨_, _, b2⟩, b3, b4⟩ b5 b6 b7
  · cases hT : s.heap.get? T with
    | none => exact zip_item_dead X zr hT pi po w1 w2 a1 a2 eu ev fun h' b1 b2 b3 b4 b5 b6 b7 => go h' ⟨⟨_, _, b1, .inr ⟨_, rfl⟩⟩, keepTI b7, ⟨_, _, b2⟩, b3, b4⟩ b5 b6 b7
    | some oT =>
      refine zip_next_item_held X zr hT pi w1 w2 a1 a2 eu ev fun h' b1 b3 b4 b5 b6 b7 => ?_
      have b7' : ∀ b o, b ≠ z → b ≠ to → b ≠ p → b ≠ q → s.heap.get? b = some o → h'.get? b = some o := fun b o c1 _ c3 c4 h => b7 b o c1 c3 c4 h
      exact go h' ⟨⟨_, _, b1, .inr ⟨_, rfl⟩⟩, keepTI b7', ⟨_, _, b7 _ _ X.TOz X.TOi1 X.TOi2 po⟩, b3, b4⟩ b5 b6 b7'
theorem zip_end {Q : Fin → Shared → Prop} (hh : A.handled = none) (X : ZipApart z ti to p q l m) (Z : ZAt s.heap z ti to p q l m k) (a1 : s.heap.IsList l us) (a2 : s.heap.IsList m vs) (en : us[k]? = none ∨ vs[k]? = none)
    (go : ∀ h' e, (∀ b o, b ≠ z → b ≠ to → b ≠ p → b ≠ q → s.heap.get? b = some o → h'.get? b = some o) → (∃ o, h'.get? e = some o ∧ o.cls = .type "StopIteration") → E (.ref e) { s with heap := h' }) :
    wpAny (model prog w) A (Builtin.«zip.__next__» ⟨[.ref z], []⟩) Q E s := by
  obtain ⟨⟨f0, f, zr, hf⟩, pi, ⟨c, d, po⟩, w1, w2⟩ := Z
  rcases hf with ⟨rfl, rfl⟩ | ⟨T, rfl⟩
  · exact zip_next_end hh X zr pi po w1 w2 a1 a2 en go
  · cases hT : s.heap.get? T with
    | none => exact zip_end_dead hh X zr hT pi po w1 w2 a1 a2 en go
    | some oT => exact zip_next_end_held hh X zr hT pi w1 w2 a1 a2 en fun h' e b he => go h' e (fun b' o c1 _ c3 c4 h => b b' o c1 c3 c4 h) he

theorem ZAt.keep {h h' : Heap} (Z : ZAt h z ti to p q l m k) (y : ∀ b, b = z ∨ b = ti ∨ b = to ∨ b = p ∨ b = q → ∀ o, h.get? b = some o → h'.get? b = some o) : ZAt h' z ti to p q l m k := by
  obtain ⟨⟨f0, f, zr, hf⟩, pi, ⟨c, d, po⟩, w1, w2⟩ := Z
  exact ⟨⟨f0, f, y z (.inl rfl) _ zr, hf⟩, y ti (.inr (.inl rfl)) _ pi, ⟨c, d, y to (.inr (.inr (.inl rfl))) _ po⟩, w1.at fun o h => y p (.inr (.inr (.inr (.inl rfl)))) o h, w2.at fun o h => y q (.inr (.inr (.inr (.inr rfl)))) o h⟩
theorem ZAt.ty {h : Heap} (Z : ZAt h z ti to p q l m k) : ∃ o, h.get? z = some o ∧ o.cls = .type "zip" := by
  obtain ⟨⟨f0, f, zr, hf⟩, _⟩ := Z
  exact ⟨_, zr, rfl⟩
theorem nextOf_zip {Q : Value → Shared → Prop} (X : ZipApart z ti to p q l m) (Z : ZAt s.heap z ti to p q l m k) (a1 : s.heap.IsList l us) (a2 : s.heap.IsList m vs) (eu : us[k]? = some u) (ev : vs[k]? = some v)
    (go : ∀ h', ZAt h' z ti to p q l m (k + 1) → IsPair h' s.heap.objs.size u v → h'.objs.size = s.heap.objs.size + 1 → (∀ b o, b ≠ z → b ≠ to → b ≠ p → b ≠ q → s.heap.get? b = some o → h'.get? b = some o) → Q (.ref s.heap.objs.size) { s with heap := h' }) :
    wpAny (model prog w) A (Builtin.SmallTypes.nextOf (.ref z)) Q E s := by
  have ty : s.TypeIs (.ref z) "zip" := Z.ty
  unfold Builtin.SmallTypes.nextOf
  exact wpAny_bind (wpAny_callSpecial?_slot (name := Str.ofString "__next__") ty F.slot_zip_next (wpAny_call_entry F.slot_zip_next ty F.entry_zip_next (zip_item X Z a1 a2 eu ev fun h' b1 b2 b3 b4 => wpAny_pure (go h' b1 b2 b3 b4)) (F.args_zip_next_1 _)))
theorem nextOf_zip_end {Q : Value → Shared → Prop} (hh : A.handled = none) (X : ZipApart z ti to p q l m) (Z : ZAt s.heap z ti to p q l m k) (a1 : s.heap.IsList l us) (a2 : s.heap.IsList m vs) (en : us[k]? = none ∨ vs[k]? = none)
    (go : ∀ h' e, (∀ b o, b ≠ z → b ≠ to → b ≠ p → b ≠ q → s.heap.get? b = some o → h'.get? b = some o) → (∃ o, h'.get? e = some o ∧ o.cls = .type "StopIteration") → E (.ref e) { s with heap := h' }) :
    wpAny (model prog w) A (Builtin.SmallTypes.nextOf (.ref z)) Q E s := by
  have ty : s.TypeIs (.ref z) "zip" := Z.ty
  unfold Builtin.SmallTypes.nextOf
  exact wpAny_bind (wpAny_callSpecial?_slot (name := Str.ofString "__next__") ty F.slot_zip_next (wpAny_call_entry F.slot_zip_next ty F.entry_zip_next (zip_end hh X Z a1 a2 en go) (F.args_zip_next_1 _)))
/-- the counter's record is none of the zip's -/
structure EApart (e z ti to p q l m : Addr) : Prop where
  x : ZipApart z ti to p q l m
  ez : e ≠ z
  eti : e ≠ ti
  eto : e ≠ to
  ep : e ≠ p
  eq : e ≠ q
/-- the counter's next -/
theorem enum_zip_item {e : Addr} {n : Int} {old : Value} {Q : Value → Shared → Prop} (Y : EApart e z ti to p q l m) (er : IsEnum s.heap e z n old) (Z : ZAt s.heap z ti to p q l m k) (a1 : s.heap.IsList l us) (a2 : s.heap.IsList m vs) (eu : us[k]? = some u) (ev : vs[k]? = some v)
    (go : ∀ h', IsEnumOut h' e z (n + 1) (.ref s.heap.objs.size) (s.heap.objs.size + 1) → ZAt h' z ti to p q l m (k + 1) → IsPair h' s.heap.objs.size u v → IsPair h' (s.heap.objs.size + 1) (.int n s.toks) (.ref s.heap.objs.size) →
      (∀ b o, b ≠ e → b ≠ z → b ≠ to → b ≠ p → b ≠ q → s.heap.get? b = some o → h'.get? b = some o) → Q (.ref (s.heap.objs.size + 1)) { s with heap := h', toks := s.toks + 1 }) :
    wpAny (model prog w) A (Builtin.«enumerate.__next__» ⟨[.ref e], []⟩) (fun fin s' => ∃ r, fin = .done (.ret r) ∧ Q r s') E s := by
  obtain ⟨hp, g, dr, tk, os⟩ := s
  show wpAny (model prog w) A (field (.ref e) 2 >>= _) _ E _
  refine wpAny_bind (wpAny_field er rfl (x := .ref z) rfl ?_)
  refine wpAny_bind (nextOf_zip Y.x Z a1 a2 eu ev fun g1 Z1 t1 n1 k1 => ?_)
  replace t1 : IsPair g1 hp.objs.size u v := t1
  replace n1 : g1.objs.size = hp.objs.size + 1 := n1
  have le : e < hp.objs.size := Heap.lt_size er
  have r1 : IsEnum g1 e z n old := k1 e _ Y.ez Y.eto Y.ep Y.eq er
  show wpAny (model prog w) A (field (.ref e) 3 >>= _) _ E ⟨g1, g, dr, tk, os⟩
  refine wpAny_bind (wpAny_field r1 rfl (x := rawInt n) rfl ?_)
  show wpAny (model prog w) A (field (.ref e) 4 >>= _) _ E ⟨g1, g, dr, tk, os⟩
  refine wpAny_bind (wpAny_field r1 rfl (x := .none) rfl ?_)
  show wpAny (model prog w) A (mkInt n >>= _) _ E ⟨g1, g, dr, tk, os⟩
  refine wpAny_bind (wpAny_mkInt ?_)
  show wpAny (model prog w) A (setField (.ref e) 3 (rawInt (n + 1)) >>= _) _ E ⟨g1, g, dr, tk + 1, os⟩
  refine wpAny_bind (wpAny_setField_rec r1 (by simp) fun g2 r2 e2 => ?_)
  replace e2 : Heap.SameBut e g1 g2 := e2
  replace r2 : IsEnum g2 e z (n + 1) old := r2
  show wpAny (model prog w) A (setField (.ref e) 4 .none >>= _) _ E ⟨g2, g, dr, tk + 1, os⟩
  refine wpAny_bind (wpAny_setField_rec r2 (by simp) fun g3 r3 e3 => ?_)
  replace e3 : Heap.SameBut e g2 g3 := e3
  replace r3 : IsEnum g3 e z (n + 1) old := r3
  show wpAny (model prog w) A (newTuple [.int n tk, .ref hp.objs.size] >>= _) _ E ⟨g3, g, dr, tk + 1, os⟩
  refine wpAny_bind (wpAny_newTuple ?_)
  have n3 : g3.objs.size = hp.objs.size + 1 := by rw [e3.1, e2.1, n1]
  have r4 : IsEnum (g3.push { cls := .type "tuple", data := .seq #[.int n tk, .ref hp.objs.size] }) e z (n + 1) old := Heap.get?_push_of_some _ r3
  generalize h4 : g3.push { cls := .type "tuple", data := .seq #[.int n tk, .ref hp.objs.size] } = g4 at r4
  have t4 : IsPair g4 (hp.objs.size + 1) (.int n tk) (.ref hp.objs.size) := by
    rw [← h4, ← n3]
    exact Heap.get?_push_size _ rfl
  have up4 : ∀ b o, b ≠ e → g1.get? b = some o → g4.get? b = some o := fun b o be h => by
    rw [← h4]
    exact Heap.get?_push_of_some _ (e3.extBut b o be (e2.extBut b o be h))
  show wpAny (model prog w) A (Builtin.SmallTypes.ownedTupleIsFree (.ref e) >>= _) _ E ⟨g4, g, dr, tk + 1, os⟩
  rw [n3]
  refine wpAny_bind ?_
  unfold Builtin.SmallTypes.ownedTupleIsFree
  refine wpAny_bind (wpAny_field r4 rfl (x := .none) rfl (wpAny_pure ?_))
  simp only [if_true]
  refine wpAny_bind (wpAny_rule (wpAny_bind (wpAny_field r4 rfl (x := old) rfl ?_)))
  refine wpAny_bind (wpAny_setField_rec r4 (by simp) fun g5 r5 e5 => ?_)
  replace e5 : Heap.SameBut e g4 g5 := e5
  replace r5 : IsEnum g5 e z (n + 1) (.ref hp.objs.size) := r5
  show wpAny (model prog w) A (Builtin.SmallTypes.ownedTupleHandOut (.ref e) (.ref (hp.objs.size + 1)) >>= _) _ E ⟨g5, g, dr, tk + 1, os⟩
  refine wpAny_bind ?_
  unfold Builtin.SmallTypes.ownedTupleHandOut
  refine wpAny_bind (wpAny_setField_rec r5 (by simp) fun g6 r6 e6 => ?_)
  replace e6 : Heap.SameBut e g5 g6 := e6
  replace r6 : IsEnumOut g6 e z (n + 1) (.ref hp.objs.size) (hp.objs.size + 1) := r6
  refine wpAny_setField_rec r6 (by simp) fun g7 r7 e7 => ?_
  replace e7 : Heap.SameBut e g6 g7 := e7
  replace r7 : IsEnumOut g7 e z (n + 1) (.ref hp.objs.size) (hp.objs.size + 1) := r7
  have up7 : ∀ b o, b ≠ e → g4.get? b = some o → g7.get? b = some o := fun b o be h => e7.extBut b o be (e6.extBut b o be (e5.extBut b o be h))
  refine wpAny_bind (wpAny_letGo (wpAny_pure ⟨_, rfl, go g7 r7 (Z1.keep fun b hb o h => ?_) (up7 _ _ (Nat.ne_of_gt le) (up4 _ _ (Nat.ne_of_gt le) t1)) (up7 _ _ (Nat.ne_of_gt (Nat.lt_succ_of_lt le)) t4) fun b o b1 b2 b3 b4 b5 h => up7 b o b1 (up4 b o b1 (k1 b o b2 b3 b4 b5 h))⟩))
  have be : b ≠ e := by
    rcases hb with x | x | x | x | x
    · rw [x]
      exact Y.ez.symm
    · rw [x]
      exact Y.eti.symm
    · rw [x]
      exact Y.eto.symm
    · rw [x]
      exact Y.ep.symm
    · rw [x]
      exact Y.eq.symm
  exact up7 b o be (up4 b o be h)
end
section
variable {X : Cx} {pins : List (Addr × Obj)} {σ : L2.St} {H : Hp} {s : Shared} {h' : Heap}
/-- a turn by which two things are laid -/
theorem inv_two {t' : Nat} {ch : List Addr} {T U : Addr} {a b : HO} (I : Inv X pins σ H s) (kp : ∀ c o, c ∉ ch → s.heap.get? c = some o → h'.get? c = some o) (hf : ∀ c ∈ ch, FpOk X pins H c) (hT : s.heap.objs.size ≤ T) (hU : s.heap.objs.size ≤ U)
    (n1 : ObjOk X.prog X.w (upd (upd H T a) U b) h' T a) (n2 : ObjOk X.prog X.w (upd (upd H T a) U b) h' U b) (ne : U ≠ T) : Inv X pins σ (upd (upd H T a) U b) { s with heap := h', toks := t' } := by
  have fT : H T = none := I.hok.fresh hT
  have fU : H U = none := I.hok.fresh hU
  have off : ∀ c u, H c = some u → c ∉ ch := fun c u e m => by
    have r := (hf c m).1
    rw [r] at e
    cases e
  have up : ∀ c u, H c = some u → (upd (upd H T a) U b) c = some u := fun c u e => by
    rw [upd_ne (ne_of_none e fU), upd_ne (ne_of_none e fT)]
    exact e
  refine I.step (g' := s.gens) (d' := s.drawn) (ch := ch) (fun c m => ⟨(hf c m).2.2.2.1, (hf c m).2.1, (hf c m).2.2.2.2.1, (hf c m).2.2.2.2.2⟩) (fun c o _ _ m e _ => kp c o m e) (fun c o _ _ m e _ => ⟨o.slots, kp c o m e⟩)
    (fun c o _ e n => ?_) (fun c o m e => ⟨o, kp c o m e⟩) (fun c xs e => up c _ e) (fun c o u e => up c _ e) (fun c ps e => ⟨#[], by rw [up c _ e]; simp⟩) (fun m hm => ?_) (fun c u e => ?_) I.bare
  · have lt := Heap.lt_size e
    rw [upd_ne (Nat.ne_of_lt (Nat.lt_of_lt_of_le lt hU)), upd_ne (Nat.ne_of_lt (Nat.lt_of_lt_of_le lt hT))]
    exact n
  · obtain ⟨o, es, ep, ho, r⟩ := hm
    exact ⟨o, es, ep, kp _ o (fun m => (hf _ m).2.1 rfl) ho, r⟩
  · by_cases cU : c = U
    · rw [cU, upd_same] at e
      cases e
      rw [cU]
      exact n2
    · rw [upd_ne cU] at e
      by_cases cT : c = T
      · rw [cT, upd_same] at e
        cases e
        rw [cT]
        exact n1
      · rw [upd_ne cT] at e
        refine (I.hok c u e).stay (fun d v hd r => kp d v ?_ r) (fun d r => up d _ r) fun d xs r => up d _ r
        rcases hd with r | r
        · rw [r]
          exact off c u e
        · exact off d _ r
end
/-- the lists at a and b, each two items in a new pair, this with its number in another -/
def Ityz (K : PySem.W.Frag) (a b : Addr) : It :=
  ⟨fun i H => ∃ (xs ys : List V) (x y : V), SqL K H a xs ∧ SqL K H b ys ∧ xs[i]? = some x ∧ ys[i]? = some y,
    fun i H v H' => ∃ T U x y, v = .ref U ∧ H T = none ∧ H U = none ∧ U ≠ T ∧ H' = upd (upd H T (.tup [x, y])) U (.tup [.int (i : Nat), .ref T]) ∧ (∀ xs, SqL K H a xs → xs[i]? = some x) ∧ ∀ ys, SqL K H b ys → ys[i]? = some y,
    fun i H => ∃ xs ys : List V, SqL K H a xs ∧ SqL K H b ys ∧ (xs.length ≤ i ∨ ys.length ≤ i)⟩
theorem turn_enumZ {P : Program} {w : World} {K : PySem.W.Frag} {elts : List Expr} {kk : Nat} {tpos : Pos} {a b e z ti to p q : Addr} (Y : EApart e z ti to p q a b) :
    Turn P w K (.Tuple elts kk tpos) (Ityz K a b) [e, z, ti, to, p, q] e (fun i h => (∃ old, IsEnum h e z ((i : Nat) : Int) old) ∧ ZAt h z ti to p q a b i) where
  mem := by simp
  obj := fun i h st c hc => by
    obtain ⟨⟨old, er⟩, ⟨⟨f0, f, zr, _⟩, pi, ⟨x, y, po⟩, ⟨o1, e1, _, d1⟩, ⟨o2, e2, _, d2⟩⟩⟩ := st
    rcases (show c = e ∨ c = z ∨ c = ti ∨ c = to ∨ c = p ∨ c = q by simpa using hc) with x | x | x | x | x | x
    · rw [x]
      exact ⟨_, er, fun v r => nomatch r⟩
    · rw [x]
      exact ⟨_, zr, fun v r => nomatch r⟩
    · rw [x]
      exact ⟨_, pi, fun v r => nomatch r⟩
    · rw [x]
      exact ⟨_, po, fun v r => nomatch r⟩
    · rw [x]
      exact ⟨o1, e1, fun v r => by rw [d1] at r; cases r⟩
    · rw [x]
      exact ⟨o2, e2, fun v r => by rw [d2] at r; cases r⟩
  keep := fun i h h' st k => by
    obtain ⟨⟨old, er⟩, Z⟩ := st
    refine ⟨⟨old, k e (by simp) _ er⟩, Z.keep fun c hc o r => k c ?_ o r⟩
    rcases hc with x | x | x | x | x <;> simp [x]
  item := by
    intro X hP hw hK hc i pins s σ H E I hf st hg
    subst hP hw hK
    obtain ⟨⟨old, er⟩, Z⟩ := st
    obtain ⟨xs, ys, x, y, hqx, hqy, hx, hy⟩ := hg
    obtain ⟨its, rv, pl, _⟩ := I.list hqx
    obtain ⟨its2, rv2, pl2, _⟩ := I.list hqy
    obtain ⟨u, hu, ru⟩ := rv.get hx
    obtain ⟨u2, hu2, ru2⟩ := rv2.get hy
    have el : e < s.heap.objs.size := Heap.lt_size er
    have ty : s.TypeIs (.ref e) "enumerate" := ⟨_, er, rfl⟩
    unfold pyNext
    refine wpAny_bind (wpAny_attempt (wpAny_callSpecial?_slot (name := Str.ofString "__next__") ty F.slot_enumerate_next (wpAny_call_entry F.slot_enumerate_next ty F.entry_enumerate_next
      (enum_zip_item Y er Z pl.isList pl2.isList (u := u) (v := u2) (by simpa using hu) (by simpa using hu2) fun h1 ho Z1 hT hU hk => wpAny_pure ?_) (F.args_enumerate_next_1 _))))
    refine ⟨_, rfl, wpAny_letOwnedTupleGo_enum (s := { s with heap := h1, toks := s.toks + 1 }) ho fun h2 he2 sb => ?_⟩
    have hT2 : h2.get? s.heap.objs.size = some { cls := .type "tuple", data := .seq #[u, u2] } := (sb.2 _ (Nat.ne_of_gt el)).trans hT
    have hU2 : h2.get? (s.heap.objs.size + 1) = some { cls := .type "tuple", data := .seq #[.int i s.toks, .ref s.heap.objs.size] } := (sb.2 _ (Nat.ne_of_gt (Nat.lt_succ_of_lt el))).trans hU
    have big : ∀ c ∈ [e, z, ti, to, p, q], c < s.heap.objs.size := fun c hcm => by
      obtain ⟨⟨f0, f, zr, _⟩, pi, ⟨_, _, po⟩, ⟨_, e1, _⟩, ⟨_, e2, _⟩⟩ := Z
      rcases (show c = e ∨ c = z ∨ c = ti ∨ c = to ∨ c = p ∨ c = q by simpa using hcm) with r | r | r | r | r | r
      · rw [r]; exact el
      · rw [r]; exact Heap.lt_size zr
      · rw [r]; exact Heap.lt_size pi
      · rw [r]; exact Heap.lt_size po
      · rw [r]; exact Heap.lt_size e1
      · rw [r]; exact Heap.lt_size e2
    have new1 : ObjOk X.prog X.w (upd (upd H s.heap.objs.size (.tup [x, y])) (s.heap.objs.size + 1) (.tup [.int (i : Nat), .ref s.heap.objs.size])) h2 s.heap.objs.size (.tup [x, y]) := ⟨by show 2 ≤ sizeLine; decide, [u, u2], .cons ru (.cons ru2 .nil), ⟨_, hT2, rfl, _, rfl⟩⟩
    have new2 : ObjOk X.prog X.w (upd (upd H s.heap.objs.size (.tup [x, y])) (s.heap.objs.size + 1) (.tup [.int (i : Nat), .ref s.heap.objs.size])) h2 (s.heap.objs.size + 1) (.tup [.int (i : Nat), .ref s.heap.objs.size]) := ⟨by show 2 ≤ sizeLine; decide, [.int i s.toks, .ref s.heap.objs.size], .cons ⟨_, rfl⟩ (.cons rfl .nil), ⟨_, hU2, rfl, _, rfl⟩⟩
    have kk2 : ∀ c o, c ∉ [e, z, ti, to, p, q] → s.heap.get? c = some o → h2.get? c = some o := fun c o hcm r => by
      have n1 : c ≠ e := fun r' => hcm (by simp [r'])
      exact (sb.2 c n1).trans (hk c o n1 (fun r' => hcm (by simp [r'])) (fun r' => hcm (by simp [r'])) (fun r' => hcm (by simp [r'])) (fun r' => hcm (by simp [r'])) r)
    have I1 := inv_two (t' := s.toks + 1) I kk2 hf (Nat.le_refl _) (Nat.le_succ _) new1 new2 (Nat.succ_ne_self _)
    refine ⟨.ref (s.heap.objs.size + 1), _, I1, rfl, ⟨s.heap.objs.size, s.heap.objs.size + 1, x, y, rfl, I.hok.fresh (Nat.le_refl _), I.hok.fresh (Nat.le_succ _), Nat.succ_ne_self _, rfl, fun l hl => by rw [I.list_inj hl hqx]; exact hx, fun l hl => by rw [I.list_inj hl hqy]; exact hy⟩, ⟨⟨.ref s.heap.objs.size, ?_⟩, ?_⟩, fun c hcm => ?_⟩
    · rw [show ((i + 1 : Nat) : Int) = (i : Int) + 1 by omega]
      exact he2
    · refine Z1.keep fun c hc' o r => (sb.2 c ?_).trans r
      rcases hc' with x | x | x | x | x
      · rw [x]; exact Y.ez.symm
      · rw [x]; exact Y.eti.symm
      · rw [x]; exact Y.eto.symm
      · rw [x]; exact Y.ep.symm
      · rw [x]; exact Y.eq.symm
    · have lt := big c hcm
      rw [upd_ne (Nat.ne_of_lt (Nat.lt_succ_of_lt lt)), upd_ne (Nat.ne_of_lt lt)]
      exact (hf c hcm).1
  done := by
    intro X hP hw hK hc i pins s σ H E I hf st hg
    subst hP hw hK
    obtain ⟨⟨old, er⟩, Z⟩ := st
    obtain ⟨xs, ys, hqx, hqy, hend⟩ := hg
    obtain ⟨its, rv, pl, _⟩ := I.list hqx
    obtain ⟨its2, rv2, pl2, _⟩ := I.list hqy
    have l1 := rv.length
    have l2 := rv2.length
    have en : its.toArray[i]? = none ∨ its2.toArray[i]? = none := by
      rcases hend with r | r
      · exact .inl (by simp; omega)
      · exact .inr (by simp; omega)
    have ty : s.TypeIs (.ref e) "enumerate" := ⟨_, er, rfl⟩
    unfold pyNext
    refine wpAny_bind (wpAny_attempt (wpAny_callSpecial?_slot (name := Str.ofString "__next__") ty F.slot_enumerate_next (wpAny_call_entry F.slot_enumerate_next ty F.entry_enumerate_next ?_ (F.args_enumerate_next_1 _))))
    show wpAny _ _ (field (.ref e) 2 >>= _) _ _ _
    refine wpAny_bind (wpAny_field er rfl (x := .ref z) rfl (wpAny_bind (nextOf_zip_end (A := X.A.in1) (I.ok.hd hc) Y.x Z pl.isList pl2.isList en fun h1 y k1 ⟨o, ho, hco⟩ => ?_)))
    refine wpAny_bind (wpAny_isInstance (T := "StopIteration") (b := true) ⟨o, ho, hco⟩ isSubtype_stop (wpAny_pure ⟨rfl, I.turnedL (t' := s.toks) (ch := [e, z, ti, to, p, q]) (fun c o hb r => k1 c o (fun r' => hb (by simp [r'])) (fun r' => hb (by simp [r'])) (fun r' => hb (by simp [r'])) (fun r' => hb (by simp [r'])) r) hf⟩))
  self := fun A i s Q E st h => let ⟨⟨_, er⟩, _⟩ := st; wpAny_pyIter_enum er h

/-- enumerate(z), z a zip -/
theorem meets_enumZ {z ti to : Addr} : Meets (Builtin.«enumerate.__new__» ⟨[.type "enumerate", .ref z], []⟩) (fun _ R s => (∃ f0 f, ZRec s.heap z ti to f0 f ∧ f0 = .none ∧ f = false) ∧
      R (.ok (.ret (.ref s.heap.objs.size))) { s with heap := s.heap.push { cls := .type "enumerate", data := .fields #[.none, .bool false, .ref z, rawInt 0, .none, .none] } }) :=
  .of_wp fun prog w A R s hh => by
    obtain ⟨hp, g, d, tk, os⟩ := s
    obtain ⟨⟨f0, f, zr, rfl, rfl⟩, h⟩ := hh
    have hsub := sub_enumerate
    have it1 : ∀ {A' : Around} {E : Value → Shared → Prop} {Q : Value → Shared → Prop}, Q (.ref z) ⟨hp, g, d, tk, os⟩ → wpAny (model prog w) A' (pyIter (.ref z)) Q E ⟨hp, g, d, tk, os⟩ := fun q => wpAny_pyIter_zip (s := ⟨hp, g, d, tk, os⟩) zr q
    wp_walk using it1
    refine wpAny_stack_any fun st => wpAny_pure ?_
    split
    · rename_i c _ _ _ _ _
      cases (c == Value.type "enumerate")
      · wp_walk using it1
        exact ⟨_, rfl, h⟩
      · wp_walk using it1
        exact ⟨_, rfl, h⟩
    · wp_walk using it1
      exact ⟨_, rfl, h⟩
theorem enumZ {prog : Program} {w : World} {A : Around} {E : Value → Shared → Prop} {s : Shared} {z ti to : Addr} {Q : Value → Shared → Prop} (zr : ZRec s.heap z ti to .none false)
    (h : ∀ h', IsEnum h' s.heap.objs.size z 0 .none → h'.objs.size = s.heap.objs.size + 1 → (∀ b o, s.heap.get? b = some o → h'.get? b = some o) → Q (.ref s.heap.objs.size) { s with heap := h' }) :
    wpAny (model prog w) A (call (.type "enumerate") [.ref z]) Q E s := by
  refine callType_new F.called_enumerate (by decide) (F.typeCall_enumerate_1 _) (F.newCall_enumerate_1 _) (fun obj => F.args_object_init_2 obj _) F.entry_enumerate_new (meets_enumZ (ti := ti) (to := to)) ⟨⟨_, _, zr, rfl, rfl⟩, ?_⟩
  have he : IsEnum (s.heap.push { cls := .type "enumerate", data := .fields #[.none, .bool false, .ref z, rawInt 0, .none, .none] }) s.heap.objs.size z 0 .none := Heap.get?_push_size _ rfl
  exact ⟨⟨_, he, rfl⟩, h _ he (Heap.size_push ..) fun b o x => Heap.get?_push_of_some _ x⟩
/-- for i, (a, b) in enumerate(zip(x, y)) -/
def iEnumZ (K : PySem.W.Frag) (ta : TA) : TI := fun σ H R => ta σ H fun vs H1 => ∃ a b xs ys, vs = [.ref a, .ref b] ∧ SqL K H1 a xs ∧ SqL K H1 b ys ∧ R (Ityz K a b) H1
theorem walk_enumZ {K : PySem.W.Frag} {a b : Addr} {xs ys : List V} : Walk (Ityz K a b) (min xs.length ys.length) (fun H => SqL K H a xs ∧ SqL K H b ys)
    (fun i H v H' => ∃ T U x y, v = .ref U ∧ H T = none ∧ H U = none ∧ U ≠ T ∧ H' = upd (upd H T (.tup [x, y])) U (.tup [.int (i : Nat), .ref T]) ∧ xs[i]? = some x ∧ ys[i]? = some y) := by
  refine ⟨fun i H hi q => ?_, fun H q => ⟨xs, ys, q.1, q.2, by omega⟩, fun i H v H' hi q y => ?_⟩
  · have h1 : i < xs.length := by omega
    have h2 : i < ys.length := by omega
    exact ⟨xs, ys, xs[i], ys[i], q.1, q.2, List.getElem?_eq_getElem h1, List.getElem?_eq_getElem h2⟩
  · obtain ⟨T, U, x, z, e1, e2, e3, e4, e5, e6, e7⟩ := y
    exact ⟨T, U, x, z, e1, e2, e3, e4, e5, e6 xs q.1, e7 ys q.2⟩
theorem pi_enumZ {X : Cx} {e e2 : Expr} {ta : TA} {p p' pos pos' tpos : Pos} {elts : List Expr} {kk : Nat} (hg : Gl X "enumerate") (hm : X.mg "enumerate" = none) (hg2 : Gl X "zip") (hm2 : X.mg "zip" = none) (ha : PA X [e, e2] ta)
    (hs : starEach [.Call (.Name "zip" p') [e, e2] [] pos'] X.env = [(false, eval (.Call (.Name "zip" p') [e, e2] [] pos') X.env)] := by rfl)
    (hs2 : starEach [e, e2] X.env = (false, eval e X.env) :: starEach [e2] X.env := by rfl) (hpl : (backTo pos' (starEach [e2] X.env)).any (·.1) = false := by rfl) :
    PI X (.Tuple elts kk tpos) (.Call (.Name "enumerate" p) [.Call (.Name "zip" p') [e, e2] [] pos'] [] pos) (iEnumZ X.K ta) := by
  refine ⟨fun pins s σ H R I h => ?_⟩
  refine Call_ (ld_blt I hg hm boot_enumerate (PyProof.Rows.callWith_type1 ?_ hs rfl))
  rw [hs]
  show wpAny _ _ (spliced ((false, eval (.Call (.Name "zip" p') [e, e2] [] pos') X.env) :: [])) _ _ _
  refine Calls.spliced_cons ?_
  refine Call_ (ld_blt I hg2 hm2 PyProof.Rows.boot_zip (PyProof.Rows.callWith_type1 (thn (ha.run pos' pins s σ H _ I h) fun us s1 ⟨vs, H1, I1, r1, q1⟩ => ?_) hs2 hpl))
  obtain ⟨a, b, xs, ys, ex, hqx, hqy, q⟩ := q1
  subst ex
  obtain ⟨u1, u2, rfl, ra, rb⟩ := vals2 r1
  cases (show u1 = Value.ref a from ra)
  cases (show u2 = Value.ref b from rb)
  obtain ⟨its, rv, p1, _⟩ := I1.list hqx
  obtain ⟨its2, rv2, p2, _⟩ := I1.list hqy
  have la : a < s1.heap.objs.size := p1.lt
  have lb : b < s1.heap.objs.size := p2.lt
  refine call_zip_2 p1.isList p2.isList fun h1 hz hTI hTO w1 w2 hsz hk => Calls.spliced_nil ?_
  have ap := PySem.W.ktu_apart s1.heap.objs.size a b la lb
  refine enumZ (s := { s1 with heap := h1 }) hz fun h2 he n2 k2 => wpAny_pyIter_enum (s := { s1 with heap := h2 }) he ?_
  replace n2 : h2.objs.size = h1.objs.size + 1 := n2
  replace k2 : ∀ c o, h1.get? c = some o → h2.get? c = some o := k2
  replace he : IsEnum h2 h1.objs.size (s1.heap.objs.size + 4) 0 .none := he
  have I2 : Inv X pins σ H1 { s1 with heap := h2 } := I1.kept (t' := s1.toks) fun c o r => k2 c o (hk c o r)
  have lt5 : ∀ {c o}, h1.get? c = some o → h1.objs.size ≠ c := fun r => Nat.ne_of_gt (Heap.lt_size r)
  have Y : EApart h1.objs.size (s1.heap.objs.size + 4) (s1.heap.objs.size + 2) (s1.heap.objs.size + 3) s1.heap.objs.size (s1.heap.objs.size + 1) a b := by
    obtain ⟨o1, x1, _⟩ := w1
    obtain ⟨o2, x2, _⟩ := w2
    exact ⟨ap, lt5 hz, lt5 hTI, lt5 hTO, lt5 x1, lt5 x2⟩
  have Z : ZAt h2 (s1.heap.objs.size + 4) (s1.heap.objs.size + 2) (s1.heap.objs.size + 3) s1.heap.objs.size (s1.heap.objs.size + 1) a b 0 :=
    ⟨⟨_, _, k2 _ _ hz, .inl ⟨rfl, rfl⟩⟩, k2 _ _ hTI, ⟨_, _, k2 _ _ hTO⟩, w1.at fun o r => k2 _ o r, w2.at fun o r => k2 _ o r⟩
  refine ⟨h1.objs.size, [h1.objs.size, s1.heap.objs.size + 4, s1.heap.objs.size + 2, s1.heap.objs.size + 3, s1.heap.objs.size, s1.heap.objs.size + 1], _, _, H1, rfl, I2, turn_enumZ Y, ⟨⟨_, he⟩, Z⟩, fun c hcm => ?_, q⟩
  have hle : s1.heap.objs.size ≤ c := by
    rcases (show c = h1.objs.size ∨ c = s1.heap.objs.size + 4 ∨ c = s1.heap.objs.size + 2 ∨ c = s1.heap.objs.size + 3 ∨ c = s1.heap.objs.size ∨ c = s1.heap.objs.size + 1 by simpa using hcm) with r | r | r | r | r | r
    · rw [r]
      exact Nat.le_trans (Nat.le_add_right _ _) (Nat.le_of_lt (Heap.lt_size hz))
    · rw [r]
      exact Nat.le_add_right _ _
    · rw [r]
      exact Nat.le_add_right _ _
    · rw [r]
      exact Nat.le_add_right _ _
    · rw [r]
      exact Nat.le_refl _
    · rw [r]
      exact Nat.le_add_right _ _
  exact I1.fpOk hle (I1.hok.fresh hle)
end Dc

namespace Dc
open PySem PySem.Spec PyProof.Rows L2
/-- the inner loop of a comprehension with two fors -/
def InB (g1 : TG) (tt1 : TT) (te : TE) (vs1 : List Nat) (D : Addr) (Nx : Hp → Prop) (σ2 : L2.St) (J1 : It) (H4 : Hp) : Prop :=
  ∃ W1 : Nat → Nat → Hp → Prop, (∃ m, W1 0 m H4) ∧ ∀ j k H, W1 j k H →
    (J1.stop j H ∧ Nx H) ∨ (J1.go j H ∧ ∃ Nx1 : Hp → Prop, (∀ H', Nx1 H' → ∃ k', k' < k ∧ W1 (j + 1) k' H') ∧
      ∀ x H', J1.yld j H x H' → g1 x (wipe σ2 vs1) H' fun σ3 H5 => wipe σ3 vs1 = wipe σ2 vs1 ∧ tt1 σ3 H5 fun b H6 =>
        if b = true then te σ3 H6 fun y H7 => ∃ acc, H7 D = some (.lst acc) ∧ acc.length < sizeLine ∧ Nx1 (upd H7 D (.lst (acc ++ [y]))) else Nx1 H6)
/-- a comprehension with two fors, over J first -/
def Lc2B (g : TG) (tt : TT) (wi1 : TI) (g1 : TG) (tt1 : TT) (te : TE) (vs vs1 : List Nat) (σ : L2.St) (Q : VK) (J : It) (H1 : Hp) : Prop :=
  ∀ D, H1 D = none → ∃ W : Nat → Nat → Hp → Prop, (∃ m, W 0 m (upd H1 D (.lst []))) ∧ ∀ i m H, W i m H →
    (J.stop i H ∧ Q (.ref D) H) ∨ (J.go i H ∧ ∃ Nx : Hp → Prop, (∀ H', Nx H' → ∃ m', m' < m ∧ W (i + 1) m' H') ∧
      ∀ x H', J.yld i H x H' → g x (wipe σ vs) H' fun σ2 H2 => wipe σ2 vs = wipe σ vs ∧ tt σ2 H2 fun b H3 =>
        if b = true then wi1 σ2 H3 (InB g1 tt1 te vs1 D Nx σ2) else Nx H3)
theorem tLc2_eq {wi wi1 : TI} {g g1 : TG} {tt tt1 : TT} {te : TE} {vs vs1 : List Nat} {σ : L2.St} {H : Hp} {Q : VK} : tLc2 wi g tt wi1 g1 tt1 te vs vs1 σ H Q = wi σ H (Lc2B g tt wi1 g1 tt1 te vs vs1 σ Q) := rfl
section
variable {J : It} {n : Nat} {G : Hp → Prop} {Y : Nat → Hp → V → Hp → Prop} {g g1 : TG} {σ : L2.St} {F H : Hp} {tt tt1 : TT} {te : TE} {wi1 : TI} {vs vs1 : List Nat} {Q : VK}
/-- I: by the turns of both, what stays, and the list as far as it is -/
theorem l2_go (w : Walk J n G Y) (S : Same F H) (M : Addr → Prop) (Z : Hp → Prop) (z0 : Z H) (hM : ∀ b, M b → H b ≠ none) (hZ : ∀ H' b o, Z H' → ¬ M b → Z (upd H' b o))
    (I : Nat → Nat → Hp → List V → Prop) (i0 : I 0 0 F []) (hG : ∀ H', Same F H' → G H') (hl : ∀ i j F acc, I i j F acc → acc.length < 100000)
    (hs : ∀ i x F1 H1 H1' acc (In : L2.St → It → Hp → Prop) (N' : Hp → Prop), i < n → Go M F H F1 H1 → Z H1 → I i 0 F1 acc → Y i H1 x H1' →
      (∀ σ2 lo n1 F4 H4, Go M F1 H1 F4 H4 → Z H4 → I i 0 F4 acc →
        (∀ j F5 H5 acc (N : VK) (N' : Hp → Prop), j < n1 → Go M F H F5 H5 → Same F4 F5 → Z H5 → I i j F5 acc →
          (∀ y F6 H6, Go M F5 H5 F6 H6 → Z H6 → I i (j + 1) F6 (acc ++ [y]) → N y H6) → (∀ F6 H6, Go M F5 H5 F6 H6 → Z H6 → I i (j + 1) F6 acc → N' H6) →
          g1 (.int (lo + (j : Nat))) (wipe σ2 vs1) H5 fun σ3 H6 => wipe σ3 vs1 = wipe σ2 vs1 ∧ tt1 σ3 H6 fun b H7 => if b = true then te σ3 H7 N else N' H7) →
        (∀ F5 acc, I i n1 F5 acc → I (i + 1) 0 F5 acc) → In σ2 (Itr lo n1) H4) →
      (∀ F3 H3, Go M F1 H1 F3 H3 → Z H3 → I (i + 1) 0 F3 acc → N' H3) →
      g x (wipe σ vs) H1' fun σ2 H2 => wipe σ2 vs = wipe σ vs ∧ tt σ2 H2 fun b H3 => if b = true then wi1 σ2 H3 (In σ2) else N' H3)
    (hd : ∀ L F' H' acc, Go M F H F' H' → Z H' → H L = none → F' L = none → H' L = some (.lst acc) → I n 0 F' acc → Q (.ref L) H') : Lc2B g tt wi1 g1 tt1 te vs vs1 σ Q J H := by
  intro D hD
  have nM : ¬ M D := fun m => hM D m hD
  let P (i j : Nat) (H' : Hp) : Prop := ∃ F' acc, Go M F H F' H' ∧ Z H' ∧ F' D = none ∧ H' D = some (.lst acc) ∧ I i j F' acc
  refine ⟨fun i m H' => m = n - i ∧ i ≤ n ∧ P i 0 H', ⟨n, by simp, Nat.zero_le _, F, [], (Go.refl S).tmp hD, hZ _ _ _ z0 nM, Same.free S hD, upd_same, i0⟩, ?_⟩
  rintro i m H1 ⟨rfl, hi, F1, acc, g1', z1, f1, e1, k1⟩
  have gg : G H1 := hG H1 (fun b o e => g1'.fh b o (g1'.ff b o e))
  by_cases hlt : i < n
  · refine .inr ⟨w.goes i H1 hlt gg, P (i + 1) 0, fun H' p' => ⟨n - (i + 1), by omega, rfl, hlt, p'⟩, fun x H1' y => ?_⟩
    refine hs i x F1 H1 H1' acc (fun σ2 => InB g1 tt1 te vs1 D (P (i + 1) 0) σ2) (P (i + 1) 0) hlt g1' z1 k1 (w.yields i H1 x H1' hlt gg y) ?_ ?_
    · intro σ2 lo n1 F4 H4 g4 z4 k4 step last
      have e4 := g4.hh _ _ nM e1
      have f4 : F4 D = none := g4.off f1 e1
      let R (j : Nat) (H' : Hp) : Prop := ∃ F' acc, Go M F H F' H' ∧ Same F4 F' ∧ Z H' ∧ F' D = none ∧ H' D = some (.lst acc) ∧ I i j F' acc
      refine ⟨fun j k H' => k = n1 - j ∧ j ≤ n1 ∧ R j H', ⟨n1, by simp, Nat.zero_le _, F4, acc, g1'.trans g4, Same.refl F4, z4, f4, e4, k4⟩, ?_⟩
      rintro j k H5 ⟨rfl, hj, F5, acc5, g5, g5', z5, f5, e5, k5⟩
      by_cases hjl : j < n1
      · refine .inr ⟨walk_range.goes j H5 hjl trivial, R (j + 1), fun H' p' => ⟨n1 - (j + 1), by omega, rfl, hjl, p'⟩, fun x H5' y => ?_⟩
        obtain ⟨rfl, rfl⟩ := walk_range.yields j H5 x H5' hjl trivial y
        refine step j F5 _ acc5 _ _ hjl g5 g5' z5 k5 ?_ ?_
        · intro y F6 H6 g6 z6 k6
          have e6 : H6 D = some (.lst acc5) := g6.hh _ _ nM e5
          have f6 : F6 D = none := g6.off f5 e5
          exact ⟨acc5, e6, Nat.lt_trans (hl _ _ _ _ k5) (by decide), F6, acc5 ++ [y], (g5.trans g6).loc hD f6, g5'.trans g6.ff, hZ _ _ _ z6 nM, f6, upd_same, k6⟩
        · intro F6 H6 g6 z6 k6
          exact ⟨F6, acc5, g5.trans g6, g5'.trans g6.ff, z6, g6.off f5 e5, g6.hh _ _ nM e5, k6⟩
      · have e : j = n1 := by omega
        subst e
        exact .inl ⟨walk_range.stops H5 trivial, F5, acc5, g5, z5, f5, e5, last _ _ k5⟩
    · intro F3 H3 g3 z3 k3
      exact ⟨F3, acc, g1'.trans g3, z3, g3.off f1 e1, g3.hh _ _ nM e1, k3⟩
  · have e : i = n := by omega
    subst e
    exact .inl ⟨w.stops H1 gg, hd D F1 H1 acc g1' z1 hD f1 e1 k1⟩
end
end Dc

namespace Dc
open PySem PySem.Spec PyProof.Rows L2 PySem.W
/-! ### a list that rises is what sorting gives -/
section
variable {α : Type} {O : KeyOrd} {k : α → O.α}
/-- each lesser than the next -/
def rises (O : KeyOrd) (k : α → O.α) : List α → Bool
  | a :: b :: r => O.blt (k a) (k b) && rises O k (b :: r)
  | _ => true
theorem rises_pw : ∀ {l : List α}, rises O k l = true → l.Pairwise (fun a b => O.blt (k a) (k b) = true)
  | [], _ => .nil
  | [a], _ => .cons (fun _ h => absurd h List.not_mem_nil) .nil
  | a :: b :: r, h => by
    have h' : (O.blt (k a) (k b) && rises O k (b :: r)) = true := h
    rw [Bool.and_eq_true] at h'
    have ih := rises_pw h'.2
    refine .cons (fun c hc => ?_) ih
    rcases List.mem_cons.mp hc with rfl | hc
    · exact h'.1
    · exact O.trans _ _ _ h'.1 ((List.pairwise_cons.mp ih).1 c hc)
theorem rises_sort {l m : List α} (h : rises O k m = true) (p : m.Perm l) : l.mergeSort (sortLe O false k) = m := by
  have pw := rises_pw h
  have T := sortLe_total O false k
  have pw2 : m.Pairwise (fun a b => sortLe O false k a b = true) := pw.imp fun {a b} e => by
    show (!O.blt (k b) (k a)) = true
    cases z : O.blt (k b) (k a) with
    | false => rfl
    | true =>
      have := O.trans _ _ _ e z
      rw [O.irrefl] at this
      cases this
  refine List.Perm.eq_of_pairwise (le := fun a b => sortLe O false k a b = true) ?_ (List.pairwise_mergeSort T.trans (fun a b => by rcases T.total a b with z | z <;> rw [z] <;> simp) l) pw2 ((List.mergeSort_perm _ _).trans p.symm)
  intro a b ha hb e1 e2
  have ha : a ∈ m := p.symm.mem_iff.mp ((List.mergeSort_perm _ _).mem_iff.mp ha)
  have f1 : O.blt (k b) (k a) = false := by
    have z : (!O.blt (k b) (k a)) = true := e1
    simpa using z
  have f2 : O.blt (k a) (k b) = false := by
    have z : (!O.blt (k a) (k b)) = true := e2
    simpa using z
  obtain ⟨i, hi, rfl⟩ := List.mem_iff_getElem.mp ha
  obtain ⟨j, hj, rfl⟩ := List.mem_iff_getElem.mp hb
  rcases Nat.lt_trichotomy i j with c | c | c
  · rw [List.pairwise_iff_getElem.mp pw i j hi hj c] at f2
    cases f2
  · subst c
    rfl
  · rw [List.pairwise_iff_getElem.mp pw j i hj hi c] at f1
    cases f1
end
/-! ### all sets of n places, by how many they have, then by the first places -/
def bitsOf (n m : Nat) : List Int := (List.range n).filterMap fun (k : Nat) => if (m : Int) / 2 ^ k % 2 = 1 then some (k : Int) else none
def rowsL (n : Nat) : List (List Int) := (List.range (2 ^ n)).map fun m => ((bitsOf n m).length : Int) :: bitsOf n m
/-- the sets with one place more -/
def growTo (n : Nat) (row : List Int) : List (List Int) := (List.range n).filterMap fun (k : Nat) => if row = [] ∨ row.getLast?.getD 0 < (k : Int) then some (row ++ [(k : Int)]) else none
def nextL (n : Nat) (lv : List (List Int)) : List (List Int) := lv.flatMap (growTo n)
def levelL (n : Nat) : Nat → List (List Int)
  | 0 => [[]]
  | s + 1 => nextL n (levelL n s)
/-- those of at most m places -/
def setsTo (n m : Nat) : List (List Int) := (List.range (m + 1)).flatMap (levelL n)
def setsIx (n : Nat) : List (List Int) := setsTo n n
theorem setsTo_succ (n m : Nat) : setsTo n (m + 1) = setsTo n m ++ levelL n (m + 1) := by
  unfold setsTo
  rw [List.range_succ, List.flatMap_append, List.flatMap_cons, List.flatMap_nil, List.append_nil]
theorem rows_sorted {n : Nat} (h : n ≤ 8) : (rowsL n).mergeSort (dataLe false intsD) = (setsIx n).map fun r => (r.length : Int) :: r := by
  have key : ∀ n, n < 9 → (rises (listOrd itemOrd) (fun r : List Int => keyToks (intsD r)) ((setsIx n).map fun r => (r.length : Int) :: r) && ((setsIx n).map fun r => (r.length : Int) :: r).isPerm (rowsL n)) = true := by
    decide +kernel
  have := key n (by omega)
  rw [Bool.and_eq_true] at this
  exact rises_sort this.1 (List.isPerm_iff.mp this.2)
/-- no level has more than 70, each place is below n -/
theorem level_ok {n m : Nat} (h : n ≤ 8) (hm : m ≤ 8) : (levelL n m).length ≤ 70 ∧ ∀ r ∈ levelL n m, r.length = m ∧ ∀ i ∈ r, 0 ≤ i ∧ i < (n : Int) := by
  have key : ∀ n, n < 9 → ∀ m, m < 9 → (levelL n m).length ≤ 70 ∧ ∀ r ∈ levelL n m, r.length = m ∧ ∀ i ∈ r, 0 ≤ i ∧ i < (n : Int) := by
    decide +kernel
  exact key n (by omega) m (by omega)
/-! ### sorted(xs), xs a list of lists of ints -/
def rSortLL (K : PySem.W.Frag) : List V → Hp → VK → Prop := fun xs H Q => ∃ (a : Addr) (rows : List (Addr × List Int)), xs = [.ref a] ∧ SqL K H a (rows.map fun r => .ref r.1) ∧ (∀ r ∈ rows, SqL K H r.1 (r.2.map V.int)) ∧
  ∀ p, H p = none → Q (.ref p) (upd H p (.lst ((rows.mergeSort (dataLe false fun r => intsD r.2)).map fun r => .ref r.1)))
theorem ints_alike : ∀ a b : List Int, alikeAll (a.map PyData.int) (b.map PyData.int) = true
  | [], b => by rw [List.map_nil, alikeAll]
  | _ :: _, [] => by rw [List.map_cons, List.map_nil, alikeAll]
  | x :: a, y :: b => by
    rw [List.map_cons, List.map_cons, alikeAll, ints_alike a b, alike]
    rfl
theorem each_of {rows : List (Addr × List Int)} {P : Value → Addr × List Int → Prop} (h : ∀ r ∈ rows, P (.ref r.1) r) : EachIs P (rows.map fun r => Value.ref r.1) rows := by
  induction rows with
  | nil => exact .nil
  | cons r rows ih => exact .cons (h r (List.mem_cons_self ..)) (ih fun q m => h q (List.mem_cons_of_mem _ m))
theorem each_refs : ∀ {out : List Value} {bs : List (Addr × List Int)}, EachIs (fun v b => v = Value.ref b.1) out bs → out = bs.map fun r => Value.ref r.1
  | _, _, .nil => rfl
  | _, _, .cons h t => by
    rw [h, each_refs t]
    rfl
theorem vals_refs : ∀ {rows : List (Addr × List Int)} {vs : List Value}, Vals (rows.map fun r => V.ref r.1) vs → vs = rows.map fun r => Value.ref r.1
  | [], _, h => by
    cases h
    rfl
  | r :: rows, _, h => by
    cases h with
    | cons h1 h2 =>
      rw [vals_refs h2]
      have e : _ = Value.ref r.1 := h1
      rw [e]
      rfl
theorem vals_of : ∀ rows : List (Addr × List Int), Vals (rows.map fun r => V.ref r.1) (rows.map fun r => Value.ref r.1)
  | [] => .nil
  | r :: rows => .cons rfl (vals_of rows)
theorem cr_sortLL {X : Cx} (hu : X.A.units + 64 < cLine) : CallR X (.builtin "sorted") (rSortLL X.K) := by
  intro pins s σ H xs us Q I r h
  obtain ⟨a, rows, rfl, hs, hx, q⟩ := h
  obtain ⟨its, rv, hl, hz⟩ := I.list hs
  obtain ⟨u, rfl, ru⟩ := vals1 r
  obtain rfl : u = Value.ref a := ru
  have ei := vals_refs rv
  subst ei
  rw [List.length_map] at hz
  refine sorted_data (bs := rows) (enc := fun r => intsD r.2) (R := fun v b => v = Value.ref b.1) hl.isList (each_of fun _ _ => rfl) (each_of fun r m => Dp.reads I _ _ _ (dp_ints (hx r m)) rfl) ?_ (.inr fun d m => ?_) hz (fun b m => ?_) (fun out ho eo => ?_)
  · intro d m d' m'
    obtain ⟨r1, _, rfl⟩ := List.mem_map.mp m
    obtain ⟨r2, _, rfl⟩ := List.mem_map.mp m'
    show alike (PyData.list _) (PyData.list _) = true
    rw [alike]
    exact ints_alike _ _
  · obtain ⟨r1, _, rfl⟩ := List.mem_map.mp m
    exact ⟨(fun e => nomatch e), (fun _ e => nomatch e)⟩
  · have e : PyData.depth (intsD b.2) ≤ 1 := by
      have : ∀ l : List Int, PyData.depthAll (l.map PyData.int) ≤ 0 := by
        intro l
        induction l with
        | nil => exact Nat.le_refl _
        | cons x l ih => exact Nat.max_le.mpr ⟨Nat.le_refl _, ih⟩
      exact Nat.succ_le_succ (this b.2)
    show X.A.units + 2 + PyData.depth (intsD b.2) < cLine
    omega
  · have eo' := each_refs eo
    subst eo'
    obtain ⟨n, hn⟩ := sortedAll_at s.heap (rows.map fun r => Value.ref r.1) ((rows.mergeSort (dataLe false fun r => intsD r.2)).map fun r => Value.ref r.1).toArray
    refine ⟨.ref (s.heap.objs.size + 1), upd H (s.heap.objs.size + 1) (.lst ((rows.mergeSort (dataLe false fun r => intsD r.2)).map fun r => .ref r.1)), I.laid (t' := s.toks) (fun _ _ => sortedAll_old) (Nat.le_succ _) ⟨?_, _, n, vals_of _, hn⟩, rfl, q _ (I.hok.fresh (Nat.le_succ _))⟩
    rw [List.length_map, List.length_mergeSort]
    exact hz
theorem sort_rows (rows : List (Addr × List Int)) : (rows.mergeSort (dataLe false fun r => intsD r.2)).map (·.2) = (rows.map (·.2)).mergeSort (dataLe false intsD) := List.map_mergeSort fun _ _ _ _ => rfl
end Dc

namespace Dc
open PySem PySem.Spec PyProof.Rows L2 PySem.W
open PySem.Builtin PySem.Builtin.ObjectAttr
/-! ### an own exception class over any built-in one -/
structure Oxc (K : Frag) (C : Addr) (newId : String) (bmB : List Value) : Prop where
  q : excInitIn K C bmB newId = true
  ov : excOver K C bmB = true
  hd : hasDictIn K C = true
  sa : findIn K (.ref C) "__setattr__" = some (some (.builtin "object.__setattr__"))
  ex : subIn K (.ref C) (.type "BaseException") = some true
  ty : typeIn K (.ref C) = some (.type "type")
  kp : keepIn K (.ref C) = true
def oxcB (K : Frag) (C : Addr) (newId : String) (bmB : List Value) : Bool :=
  excInitIn K C bmB newId && excOver K C bmB && hasDictIn K C && decide (findIn K (.ref C) "__setattr__" = some (some (.builtin "object.__setattr__"))) &&
    decide (subIn K (.ref C) (.type "BaseException") = some true) && decide (typeIn K (.ref C) = some (.type "type")) && keepIn K (.ref C)
theorem oxcB_ok {K : Frag} {C : Addr} {newId : String} {bmB : List Value} (h : oxcB K C newId bmB = true) : Oxc K C newId bmB := by
  unfold oxcB at h
  simp only [Bool.and_eq_true, decide_eq_true_eq] at h
  obtain ⟨⟨⟨⟨⟨⟨h1, h2⟩, h3⟩, h4⟩, h5⟩, h6⟩, h7⟩ := h
  exact ⟨h1, h2, h3, h4, h5, h6, h7⟩
theorem taker_none {K : Frag} {C : Addr} {f : Str} (h : findIn K (.ref C) f = some none) : takerIn K C f = some none := by
  unfold takerIn
  rw [h]
  rfl
section
variable {prog : Program} {w : World} {A : Around} {R : Result → Shared → Prop} {hp : Heap} {g : Array GenState} {d : Drawn} {t : Nat} {os : OsState} {K : Frag} {B newId : String} {bmB : List Value}
/-- self.f = v, the exception without a dict as yet -/
theorem ox_osa0 {f : Str} {tk : Tok} {v : Value} {x C : Addr} {fv : Array Value} (SF : StoreFacts B bmB "object.__setattr__" "object") (T : Oxc K C newId bmB) (X : K.In hp) (hx : hp.get? x = some { cls := .ref C, data := .fields fv })
    (hn : findIn K (.ref C) f = some none)
    (hq : ∀ h' tk' dx, (∀ b o, b ≠ x → hp.get? b = some o → h'.get? b = some o) → hp.objs.size ≤ dx → dx ≠ x → h'.get? x = some { cls := .ref C, dict := some dx, data := .fields fv } →
      h'.Ns1 dx (fun y => if y = f then some v else none) → R (.ok (.ret .none)) ⟨h', g, d, tk', os⟩) :
    codeAny (model prog w) A (.call (.builtin "object.__setattr__") ⟨[.ref x, .str f tk, v], []⟩) R ⟨hp, g, d, t, os⟩ := by
  obtain ⟨cd, hcd, hh⟩ := any_some T.hd
  have hxs : x ≠ hp.objs.size := Nat.ne_of_lt (Heap.lt_size hx)
  refine osa_openX (s := ⟨hp, g, d, t, os⟩) (od := none) SF X ⟨hx, rfl, rfl, trivial⟩ T.ov (taker_none hn) (fun b => ?_)
  show wpAny _ _ (storeInOwnDict (.ref x) (.ref C) (.str f tk) f v b) _ _ _
  have hcls : Looks (model prog w) hp (classData C) cd := looks_clsIn X hcd
  obtain ⟨nm, bs, mro, ns, qn, hd', sn, sb, ab, col, del⟩ := cd
  dsimp only at hh
  subst hh
  unfold storeInOwnDict ownDictForStores
  repeat (first | with_reducible refine PySem.HandSPX.store_in_new ?_ ?_ | with_reducible refine wpAny_loadPart_at hx ?_ | with_reducible refine hcls.at ?_ | wp_step)
  · exact ⟨_, #[], _, (Heap.get?_update_ne _ _ _ _ hxs.symm).trans (Heap.get?_push_at rfl rfl), rfl, (fun e he => absurd he (by simp)), (fun _ => rfl)⟩
  · intro h2 tk2 hn2 hs2
    have hx2 : (hp.push { cls := .type "dict", data := .dict #[] }).get? x = some { cls := .ref C, data := .fields fv } := Heap.get?_push_of_some _ hx
    refine hq h2 tk2 hp.objs.size ?_ (Nat.le_refl _) hxs.symm ((hs2.2 x hxs).trans (Heap.get?_update_self _ hx2 rfl)) hn2
    intro b o hb ho
    rw [hs2.2 b (Nat.ne_of_lt (Heap.lt_size ho)), Heap.get?_update_ne _ _ _ _ hb]
    exact Heap.get?_push_of_some _ ho
/-- .. with its dict -/
theorem ox_osa1 {f : Str} {tk : Tok} {v : Value} {x C dx : Addr} {fv : Array Value} {m0 : Str → Option Value} {nl : List Str} (SF : StoreFacts B bmB "object.__setattr__" "object") (T : Oxc K C newId bmB) (X : K.In hp)
    (hx : hp.get? x = some { cls := .ref C, dict := some dx, data := .fields fv }) (hns : hp.Ns1 dx m0) (hw : Within m0 nl) (hz : nl.length ≤ 1000) (hn : findIn K (.ref C) f = some none)
    (hq : ∀ h' tk', (∀ b o, b ≠ dx → hp.get? b = some o → h'.get? b = some o) → h'.Ns1 dx (fun y => if y = f then some v else m0 y) → R (.ok (.ret .none)) ⟨h', g, d, tk', os⟩) :
    codeAny (model prog w) A (.call (.builtin "object.__setattr__") ⟨[.ref x, .str f tk, v], []⟩) R ⟨hp, g, d, t, os⟩ := by
  obtain ⟨cd, hcd, hh⟩ := any_some T.hd
  obtain ⟨oD, esD, epD, hoD, hdD, _⟩ := hns.count hw
  refine osa_openX (s := ⟨hp, g, d, t, os⟩) (od := some oD) SF X ⟨hx, rfl, rfl, hoD⟩ T.ov (taker_none hn) (fun b => ?_)
  show wpAny _ _ (storeInOwnDict (.ref x) (.ref C) (.str f tk) f v b) _ _ _
  have hcls : Looks (model prog w) hp (classData C) cd := looks_clsIn X hcd
  obtain ⟨nm, bs, mro, ns, qn, hd', sn, sb, ab, col, del⟩ := cd
  dsimp only at hh
  subst hh
  unfold storeInOwnDict ownDictForStores
  repeat (first | with_reducible refine PySem.OEX.store_in_old hns hw hz ?_ | with_reducible refine wpAny_loadPart_at hx ?_ | with_reducible refine hcls.at ?_ | wp_step)
  intro h2 tk2 hn2 hs2
  exact hq h2 tk2 (fun b o hb ho => (hs2.2 b hb).trans ho) hn2
end
section
variable {X : Cx} {pins : List (Addr × Obj)} {σ : L2.St} {H : Hp} {s : Shared} {a C dx : Addr} {f : Str} {y : V} {u : Value} {fs : List (Str × V)} {Q : Unit → Shared → Prop} {E : Value → Shared → Prop} {A : Around} {B newId initId : String} {bmB : List Value}
theorem ox_new (SF : StoreFacts B bmB "object.__setattr__" "object") (T : Oxc X.K C newId bmB) (I : L2.Inv X pins σ H s) (e : H a = some (exo a C none)) (hno : findIn X.K (.ref C) f = some none) (ry : RelV y u)
    (h : ∀ dx s', H dx = none → dx ≠ a → L2.Inv X pins σ (upd (upd H dx (exd dx [(f, y)])) a (exo a C (some dx))) s' → Q () s') : wpAny (model X.prog X.w) A (setAttr (.ref a) f u) Q E s := by
  obtain ⟨t1, ho⟩ := exo_at I.hok e
  obtain ⟨hp, g, d, t, os⟩ := s
  refine set_plain I.kIn (ox := { cls := .ref C, dict := none, data := .fields #[.ref t1, .none, .none, .none, .bool false, .none] }) (od := none) ⟨ho, rfl, rfl, trivial⟩ T.sa (ox_osa0 SF T I.kIn ho hno (fun h2 tk2 dx k dn dne hx hn => ?_))
  have hnd : H dx = none := I.hok.fresh dn
  have fresh : ∀ {b : Addr} {o : Obj}, hp.get? b = some o → b ≠ dx := fun {b o} q => Nat.ne_of_lt (Nat.lt_of_lt_of_le (Heap.lt_size q) dn)
  have off : ∀ {b : Addr}, H b = none → b ≠ a := fun {b} n z => by
    rw [z, e] at n
    cases n
  have stay : ∀ {b : Addr} {o : HO}, H b = some o → b ≠ a → (upd (upd H dx (exd dx [(f, y)])) a (exo a C (some dx))) b = some o := fun {b o} q nb => by
    rw [upd_ne nb, upd_ne (ne_of_none q hnd)]
    exact q
  have U : Un X.fs [] H (upd (upd H dx (exd dx [(f, y)])) a (exo a C (some dx))) hp h2 :=
    ⟨fun b o q n _ _ => k b o (off n) q, fun b o q n _ _ => ⟨o.slots, k b o (off n) q⟩, fun b o q n _ => by rw [upd_ne (off n), upd_ne (fresh q)]; exact n,
      fun b o q _ => by
        by_cases hb : b = a
        · exact ⟨_, by rw [hb]; exact hx⟩
        · exact ⟨o, k b o hb q⟩,
      fun b xs q => stay q (at_ne e q exo_tup), fun b o v q => stay q (at_ne e q exo_frz), fun b ps q => ⟨#[], by rw [stay q (at_ne e q exo_tbl)]; simp⟩⟩
  refine h dx _ hnd dne (I.un (t' := tk2) U fun b o q => ?_)
  by_cases hb : b = a
  · rw [hb, upd_same] at q
    cases q
    rw [hb]
    exact exo_ok hx
  rw [upd_ne hb] at q
  by_cases hd : b = dx
  · rw [hd, upd_same] at q
    cases q
    rw [hd]
    exact exd_ok hn (relO_put (fs := []) ry fun g => True.intro)
  rw [upd_ne hd] at q
  refine (I.hok b o q).stay (fun c v hc z => k c v ?_ z) (fun c hc => stay hc (at_ne e hc exo_own)) (fun c xs hc => stay hc (at_ne e hc exo_tup))
  rcases hc with hc | hc
  · rw [hc]
    exact hb
  · exact at_ne e hc exo_own
theorem ox_old (SF : StoreFacts B bmB "object.__setattr__" "object") (T : Oxc X.K C newId bmB) (I : L2.Inv X pins σ H s) (e : H a = some (exo a C (some dx))) (ed : H dx = some (exd dx fs)) (hl : fs.length ≤ 900) (hno : findIn X.K (.ref C) f = some none) (ry : RelV y u)
    (h : ∀ s', L2.Inv X pins σ (upd H dx (exd dx ((f, y) :: fs))) s' → Q () s') : wpAny (model X.prog X.w) A (setAttr (.ref a) f u) Q E s := by
  obtain ⟨t1, ho⟩ := exo_at I.hok e
  obtain ⟨mA, hns, rel⟩ := exd_at I.hok ed
  have hw := within_of rel
  obtain ⟨hp, g, d, t, os⟩ := s
  obtain ⟨oD, _, _, hoD, _, _⟩ := hns.count hw
  refine set_plain I.kIn (ox := { cls := .ref C, dict := some dx, data := .fields #[.ref t1, .none, .none, .none, .bool false, .none] }) (od := some oD) ⟨ho, rfl, rfl, hoD⟩ T.sa (ox_osa1 SF T I.kIn ho hns hw (by rw [List.length_map]; omega) hno (fun h2 tk2 k hn => ?_))
  have hd : ∃ o, h2.get? dx = some o := by
    obtain ⟨o, _, _, e', _⟩ := hn
    exact ⟨o, e'⟩
  exact h _ (I.write (t' := tk2) (x := dx) (e := dx) (o := exd dx ((f, y) :: fs)) (by rw [ed]; exact True.intro) (.inl rfl) k hd (exd_ok hn (relO_put ry rel)))
theorem ox_init {us : List Value} {Q : Value → Shared → Prop} (F : ExcBaseFacts B newId initId bmB) (T : Oxc X.K C newId bmB) (I : L2.Inv X pins σ H s) (e : H a = some (exo a C none)) (hl : us.length ≤ sizeLine) (h : ∀ s', L2.Inv X pins σ H s' → Q .none s') :
    wpAny (model X.prog X.w) A (call (.builtin initId) (.ref a :: us)) Q E s := by
  obtain ⟨nm, N, qn, bs, bm, hdct, sn, sub, ab, col, dd, k0, k1, k2, k3, k5, hC, hT⟩ := excInit_of I.kIn T.q
  obtain ⟨t1, ho⟩ := exo_at I.hok e
  obtain ⟨hp, g, d, t, os⟩ := s
  refine wpAny_call (PySem.HandSPX.init_base F hT hC ho hl (fun h2 t2 k hx => ?_))
  have J := I.write (t' := t) (x := a) (e := a) (o := exo a C none) (by rw [e]; exact True.intro) (.inl rfl) k ⟨_, hx⟩ (exo_ok hx)
  have eu : upd H a (exo a C none) = H := funext fun b => by
    by_cases hb : b = a
    · rw [hb, upd_same, e]
    · rw [upd_ne hb]
  rw [eu] at J
  exact h _ J
end
/-! ### rules -/
/-- B.__init__(self, ..), B a built-in class or an own one over it -/
def tXI (K : Frag) (newId : String) (bmB : List Value) (ta : TA) : TE := fun σ H Q => ta σ H fun vs H1 => ∃ (a C : Addr) (ws : List V), vs = .ref a :: ws ∧ ws.length ≤ 1000 ∧ Oxc K C newId bmB ∧ H1 a = some (exo a C none) ∧ Q .non H1
/-- self.f = e -/
def sXf (K : Frag) (newId : String) (bmB : List Value) (f : Str) (to te : TE) : TS := fun D σ H => te σ H fun y H1 => to σ H1 fun x H2 => ∃ a C : Addr, x = .ref a ∧ Oxc K C newId bmB ∧ findIn K (.ref C) f = some none ∧
  ((H2 a = some (exo a C none) ∧ ∀ dx, H2 dx = none → dx ≠ a → D.nx σ (upd (upd H2 dx (exd dx [(f, y)])) a (exo a C (some dx)))) ∨
    ∃ (dx : Addr) (fs : List (Str × V)), H2 a = some (exo a C (some dx)) ∧ H2 dx = some (exd dx fs) ∧ fs.length ≤ 900 ∧ D.nx σ (upd H2 dx (exd dx ((f, y) :: fs))))
/-- C(e, ..), its own __init__ keeping sp -/
def tMkX (C : Addr) (sp : Sp) (ta : TA) : L2.St → Hp → XK → Prop := fun σ H Q => ta σ H fun vs H1 => vs.length ≤ 1000 ∧ ∀ a, H1 a = none → sp (.ref a :: vs) (upd H1 a (exo a C none))
  (fun v H2 => v = .non ∧ ∃ (d : Addr) (fs : List (Str × V)), H2 a = some (exo a C (some d)) ∧ H2 d = some (exd d fs) ∧ H1 d = none ∧ Q (.ref C) (some d) (upd (del H2 a) d (.xd fs))) E0
section
variable {X : Cx} {o e : Expr} {es : List Expr} {to te : TE} {ta : TA} {f x : Str} {p p' p1 p2 pos : Pos} {B newId initId : String} {bmB : List Value}
theorem xinit_run {pl : List (Bool × Sem Value)} {pins : List (Addr × Obj)} {σ : L2.St} {H : Hp} {s : Shared} {Q : VK} (F : ExcBaseFacts B newId initId bmB) (ha : PA X (e :: es) ta) (I : L2.Inv X pins σ H s) (h : tXI X.K newId bmB ta σ H Q)
    (he : starEach (e :: es) X.env = (false, eval e X.env) :: starEach es X.env) (hpl : (backTo pos (starEach es X.env)).any (·.1) = false) :
    wpAny (model X.prog X.w) X.A (callWith pos (Value.builtin initId) [] (backTo pos (starEach (e :: es) X.env)) []) (EP X pins σ Q) X.xe s := by
  refine PyProof.Rows.callWith_method1 (thn (ha.run pos pins _ σ H _ I h) fun us s1 ⟨vs, H1, I1, r1, a, C, ws, ev, hl, T, ea, q⟩ => ?_) he hpl
  subst ev
  cases r1 with
  | @cons _ u0 _ ur ra rw' =>
    obtain rfl : u0 = Value.ref a := ra
    refine ox_init F T I1 ea ?_ fun s' J => ⟨.non, H1, J, rfl, q⟩
    rw [← Paired.length rw', sizeLine_eq]
    omega
/-- .. B built in -/
theorem pe_xiB {pl : Sem Bool} {T : String} (F : ExcBaseFacts B newId initId bmB) (hg : Gl X x) (hm : X.mg x = none) (hb : bootBuiltins x = some (.type T)) (ht : typeOf (.type T) = pure (.type "type")) (hst : Manifest.isStub T = false)
    (vV : findCls X.K (.type T) (.type "type") "__init__" = some (.val (.builtin initId))) (hh : handedIn (.builtin initId) = true) (ha : PA X (e :: es) ta) (hn : x ≠ "__name__" := by decide) (hdb : (x == ("__debug__" : Str)) = false := by decide)
    (hc : eval (.Call (.Attribute (.Name x p1) "__init__" p2) (e :: es) [] pos) X.env = (do
      let ov ← eval (.Name x p1) X.env
      standAt p2.atName
      let (f, first) ← holding [ov] (getMethod ov "__init__" pl)
      callWith pos f first (backTo pos (starEach (e :: es) X.env)) (backToKw pos (keywordEach [] X.env))) := by rfl)
    (he : starEach (e :: es) X.env = (false, eval e X.env) :: starEach es X.env := by rfl) (hpl : (backTo pos (starEach es X.env)).any (·.1) = false := by rfl) :
    PE X (.Call (.Attribute (.Name x p1) "__init__" p2) (e :: es) [] pos) (tXI X.K newId bmB ta) := by
  refine ⟨fun pins s σ H Q I h => ?_⟩
  refine methodCall_KW (ld_blt I hg hm hb ?_ hn hdb) hc
  obtain ⟨m, fr⟩ := I.fr
  refine method_type fr I.ok.mod.kin ht hst vV hh ?_
  exact xinit_run (pl := []) F ha (I.tok _) h he hpl
/-- .. B an own class -/
theorem pe_xiO {pl : Sem Bool} {C0 : Addr} (F : ExcBaseFacts B newId initId bmB) (hg : Gl X x) (hm : X.mg x = some (.ref C0)) (hga : specialIn X.K (.ref C0) "__getattribute__" = some (some (.builtin "type.__getattribute__")))
    (hr : readsIn X.K C0 (.type "type") = true) (vV : findCls X.K (.ref C0) (.type "type") "__init__" = some (.val (.builtin initId))) (hh : handedIn (.builtin initId) = true) (ha : PA X (e :: es) ta) (hdb : (x == ("__debug__" : Str)) = false := by decide)
    (hc : eval (.Call (.Attribute (.Name x p1) "__init__" p2) (e :: es) [] pos) X.env = (do
      let ov ← eval (.Name x p1) X.env
      standAt p2.atName
      let (f, first) ← holding [ov] (getMethod ov "__init__" pl)
      callWith pos f first (backTo pos (starEach (e :: es) X.env)) (backToKw pos (keywordEach [] X.env))) := by rfl)
    (he : starEach (e :: es) X.env = (false, eval e X.env) :: starEach es X.env := by rfl) (hpl : (backTo pos (starEach es X.env)).any (·.1) = false := by rfl) :
    PE X (.Call (.Attribute (.Name x p1) "__init__" p2) (e :: es) [] pos) (tXI X.K newId bmB ta) := by
  refine ⟨fun pins s σ H Q I h => ?_⟩
  refine methodCall_KW (ld_glob I hg hm ?_ hdb) hc
  refine method_cls I.kIn hga (cls_value I.kIn hr vV hh ?_)
  exact xinit_run (pl := []) F ha (I.tok _) h he hpl
theorem ps_xf (SF : StoreFacts B bmB "object.__setattr__" "object") (ho : PE X o to) (he : PE X e te) (hs : swapsWith e (some (.Attribute o f p')) pos.line X.env = pure false := by rfl) : PS X (.Assign [.Attribute o f p'] e pos) (sXf X.K newId bmB f to te) := by
  refine ⟨fun pins s σ H D I h => ?_⟩
  refine plainObj_wpAny_Assign_Attribute (thn (he.run pins s σ H _ I h) fun v s1 ⟨y, H1, I1, r1, q1⟩ => thn (ho.run pins s1 σ H1 _ I1 q1) fun u s2 ⟨z, H2, I2, r2, a, C, ex, T, hno, q⟩ => ?_) hs
  subst ex
  obtain rfl : u = Value.ref a := r2
  rcases q with ⟨ea, q⟩ | ⟨dx, fs, ea, ed, hl, q⟩
  · exact ox_new SF T I2 ea hno r1 fun dx s' n ne J => ⟨σ, _, J, q dx n ne⟩
  · exact ox_old SF T I2 ea ed hl hno r1 fun s' J => ⟨σ, _, J, q⟩
end
end Dc

namespace Dc
open PySem PySem.Spec PyProof.Rows L2
/-! ### calls that may let an exception out: W is the wish of what is around, by the slots -/
section
variable {X : Cx} {k n : Nat} {f C : Addr} {fd : FuncData} {ps ks : List Str} {sp : Sp} {W : WX} {x m : Str} {p pos apos : Pos} {e o : Expr} {es : List Expr} {ta : TE} {t tk : TA}
  {pins : List (Addr × Obj)} {σ : L2.St} {H : Hp} {s : Shared} {Q : VK} {us ws : List Value} {vs zs : List V}
theorem runS (F : Ok X.prog X.w X.K X.mg X.base (L2.CX X.prog X.w) k f fd ps sp) (hr : Room k X.A) (hgd : X.A.guards = some []) (hb : Binds X.K fd ps []) (tk : Takes X W)
    (I : Inv X pins σ H s) (r : Vals vs us) (h : sp vs H Q (WE W σ)) : wpAny (model X.prog X.w) X.A (call (.ref f) us) (EP X pins σ Q) X.xe s := by
  have hl : (us ++ []).length = ps.length := by
    rw [List.append_nil, ← r.length]
    exact F.len h
  have b := hb s us I.kIn hl
  rw [List.append_nil] at b
  refine wpAny_call (codeAny_mono (F.run hr hgd I.env0 b r h) ?_)
  intro z s' hq
  cases z with
  | error e => exact passAt tk σ pins H s e s' I hq
  | ok fl =>
    cases fl with
    | ret u => exact I.after hq
    | next => cases hq
    | brk => cases hq
    | cont => cases hq
def tFS (sp : Sp) (W : WX) (t : TA) : TE := fun σ H Q => t σ H fun vs H1 => sp vs H1 Q (WE W σ)
theorem c_callS (F : Ok X.prog X.w X.K X.mg X.base (L2.CX X.prog X.w) k f fd ps sp) (c : Cal X.K X.mg x f fd ps) (hr : Room k X.A) (hgd : X.A.guards = some []) (tk : Takes X W)
    (ha : PA X (e :: es) t) (hg : Gl X x := by rfl) (hdb : (x == ("__debug__" : Str)) = false := by decide) (he : starEach (e :: es) X.env = (false, eval e X.env) :: starEach es X.env := by rfl)
    (hpl : (backTo pos (starEach es X.env)).any (·.1) = false := by rfl) : PE X (.Call (.Name x p) (e :: es) [] pos) (tFS sp W t) := by
  constructor
  intro pins s σ H Q I h
  refine wpAny_Call_Name_kw (ld_glob I hg c.m ?_ hdb)
  refine PySem.W.callWith_K (h₀ := X.base) I.ok.mod.kin c.k (thn (ha.run pos pins s σ H _ I h) ?_) he hpl
  rintro us s1 ⟨vs, H1, I1, r, q⟩
  exact ⟨I1.kIn, runS F hr hgd c.b tk I1 r q⟩
def tMS (C : Addr) (m : Str) (sp : Sp) (W : WX) (ta : TE) (t : TA) : TE := fun σ H Q => ta σ H fun x H1 => ∃ a dx fs, x = .ref a ∧ H1 a = some (.ins C dx fs) ∧ fs.lookup m = none ∧ t σ H1 fun vs H2 => sp (x :: vs) H2 Q (WE W σ)
theorem c_methS {pl : Sem Bool} (F : Ok X.prog X.w X.K X.mg X.base (L2.CX X.prog X.w) k f fd ps sp) (c : CalM X.K C m f fd ps) (hr : Room k X.A) (hgd : X.A.guards = some []) (tk : Takes X W) (ho : PE X o ta) (ha : PA X (e :: es) t)
    (hst : starEach (e :: es) X.env = (false, eval e X.env) :: starEach es X.env := by rfl) (hpl : (backTo pos (starEach es X.env)).any (·.1) = false := by rfl)
    (ht : eval (.Call (.Attribute o m apos) (e :: es) [] pos) X.env = (do
        let ov ← eval o X.env
        standAt apos.atName
        let (f, first) ← holding [ov] (getMethod ov m pl)
        callWith pos f first (backTo pos (starEach (e :: es) X.env)) (backToKw pos (keywordEach [] X.env))) := by rfl) : PE X (.Call (.Attribute o m apos) (e :: es) [] pos) (tMS C m sp W ta t) := by
  constructor
  intro pins s σ H Q I h
  refine PySem.W.methodCall_KW (pl := pl) (thn (ho.run pins s σ H _ I h) ?_) ht
  rintro u s1 ⟨x, H1, I1, rx, a, dx, fs, rfl, ea, l, q⟩
  obtain rfl : u = Value.ref a := rx
  refine getmeth_ok I1 ea c.c c.m l ?_
  refine PySem.W.callWith_K (first := [.ref a]) (h₀ := X.base) I.ok.mod.kin c.m.kp (thn (ha.run pos pins s1 σ H1 _ I1 q) ?_) hst hpl
  rintro us s2 ⟨vs, H2, I2, r, q2⟩
  exact ⟨I2.kIn, runS (us := .ref a :: us) (vs := .ref a :: vs) F hr hgd c.b tk I2 (.cons rfl r) q2⟩
theorem c_meth0S {pl : Sem Bool} (F : Ok X.prog X.w X.K X.mg X.base (L2.CX X.prog X.w) k f fd ps sp) (c : CalM X.K C m f fd ps) (hr : Room k X.A) (hgd : X.A.guards = some []) (tk : Takes X W) (ho : PE X o ta)
    (ht : eval (.Call (.Attribute o m apos) [] [] pos) X.env = (do
        let ov ← eval o X.env
        standAt apos.atName
        let (f, first) ← holding [ov] (getMethod ov m pl)
        callWith pos f first (backTo pos (starEach [] X.env)) (backToKw pos (keywordEach [] X.env))) := by rfl) : PE X (.Call (.Attribute o m apos) [] [] pos) (tMS C m sp W ta tNil) := by
  constructor
  intro pins s σ H Q I h
  refine PySem.W.methodCall_KW (pl := pl) (thn (ho.run pins s σ H _ I h) ?_) ht
  rintro u s1 ⟨x, H1, I1, rx, a, dx, fs, rfl, ea, l, q⟩
  obtain rfl : u = Value.ref a := rx
  refine getmeth_ok I1 ea c.c c.m l ?_
  exact PySem.W.callWith_K0 (first := [.ref a]) I1.kIn c.m.kp (runS (us := [.ref a]) (vs := [.ref a]) F hr hgd c.b tk I1 (.cons rfl .nil) q)
def tMkS (C : Addr) (sp : Sp) (W : WX) (t : TA) : TE := fun σ H Q => t σ H fun vs H1 => ∀ x dx, H1 x = none → H1 dx = none → dx ≠ x →
  sp (.ref x :: vs) (upd (upd H1 dx (.own x)) x (.ins C dx [])) (fun v H2 => v = .non ∧ Q (.ref x) H2) (WE W σ)
theorem run_mkS (M : Mk X.K C f) (F : Ok X.prog X.w X.K X.mg X.base (L2.CX X.prog X.w) k f fd ps sp) (hr : Room (k + 1) X.A) (hgd : X.A.guards = some []) (tk : Takes X W) (hb : Binds X.K fd ps []) (I : Inv X pins σ H s) (r : Vals vs us)
    (h : ∀ x dx, H x = none → H dx = none → dx ≠ x → sp (.ref x :: vs) (upd (upd H dx (.own x)) x (.ins C dx [])) (fun v H2 => v = .non ∧ Q (.ref x) H2) (WE W σ)) :
    wpAny (model X.prog X.w) X.A (call (.ref C) us) (EP X pins σ Q) X.xe s := by
  have hq := h (s.heap.objs.size + 1) s.heap.objs.size (I.hok.fresh (Nat.le_succ _)) (I.hok.fresh (Nat.le_refl _)) (Nat.ne_of_lt (Nat.lt_succ_self _))
  have I2 := Inv.made (C := C) I
  have r2 : Vals (V.ref (s.heap.objs.size + 1) :: vs) (Value.ref (s.heap.objs.size + 1) :: us) := .cons rfl r
  have hl : (Value.ref (s.heap.objs.size + 1) :: us ++ []).length = ps.length := by
    rw [List.append_nil, ← r2.length]
    exact F.len hq
  have b := hb _ (Value.ref (s.heap.objs.size + 1) :: us) I2.kIn hl
  rw [List.append_nil] at b
  refine wpAny_call (make_map (f := f) I.kIn M.makes M.init (beq_iff_eq.mp M.fn) (codeAny_mono (F.run (hr.make C us []) (make_guards.trans hgd) (I2.env0.make C us []) b r2 hq) ?_))
  intro z s' hq'
  cases z with
  | error e => exact passAt tk σ pins _ _ e s' I2 hq'
  | ok fl =>
    cases fl with
    | ret u =>
      obtain ⟨v, H', I3, rv, ev, q3⟩ := I2.after hq'
      subst ev
      exact ⟨rv, V.ref (s.heap.objs.size + 1), H', I3, rfl, q3⟩
    | next => cases hq'
    | brk => cases hq'
    | cont => cases hq'
theorem c_makeS (F : Ok X.prog X.w X.K X.mg X.base (L2.CX X.prog X.w) k f fd ps sp) (c : CalI X.K X.mg C x f fd ps) (hr : Room (k + 1) X.A) (hgd : X.A.guards = some []) (tk : Takes X W)
    (ha : PA X (e :: es) t) (hg : Gl X x := by rfl) (hdb : (x == ("__debug__" : Str)) = false := by decide) (he : starEach (e :: es) X.env = (false, eval e X.env) :: starEach es X.env := by rfl)
    (hpl : (backTo pos (starEach es X.env)).any (·.1) = false := by rfl) : PE X (.Call (.Name x p) (e :: es) [] pos) (tMkS C sp W t) := by
  constructor
  intro pins s σ H Q I h
  refine wpAny_Call_Name_kw (ld_glob I hg c.m ?_ hdb)
  refine PySem.W.callWith_K (h₀ := X.base) I.ok.mod.kin c.k.kp (thn (ha.run pos pins s σ H _ I h) ?_) he hpl
  rintro us s1 ⟨vs, H1, I1, r, q⟩
  exact ⟨I1.kIn, run_mkS c.k F hr hgd tk c.b I1 r q⟩
/-- C(e, ..), an own exception whose __init__ is walked -/
theorem pmk_x {B newId initId : String} {bmB : List Value} {fI : Addr} (FB : ExcBaseFacts B newId initId bmB) (T : Oxc X.K C newId bmB) (iC : PySem.W.findIn X.K (.ref C) "__init__" = some (some (.ref fI))) (tI : PySem.W.typeIn X.K (.ref fI) = some (.type "function"))
    (F1 : Ok X.prog X.w X.K X.mg X.base (L2.CX X.prog X.w) k fI fd ps sp) (hr : Room (k + 1) X.A) (hgd : X.A.guards = some []) (hb : Binds X.K fd ps []) (hm : X.mg x = some (.ref C)) (ha : PA X (e :: es) t) (hg : Gl X x := by rfl)
    (hdb : (x == ("__debug__" : Str)) = false := by decide) (he : starEach (e :: es) X.env = (false, eval e X.env) :: starEach es X.env := by rfl) (hpl : (backTo pos (starEach es X.env)).any (·.1) = false := by rfl) :
    PMk X (.Call (.Name x p) (e :: es) [] pos) (tMkX C sp t) := by
  intro pins s σ H Q I h
  refine wpAny_Call_Name_kw (ld_glob I hg hm ?_ hdb)
  refine PySem.W.callWith_K (h₀ := X.base) I.ok.mod.kin T.kp (thn (ha.run pos pins s σ H _ I h) ?_) he hpl
  rintro us s1 ⟨vs, H1, I1, r1, hz, q1⟩
  refine ⟨I1.kIn, ?_⟩
  show wpAny _ _ (call (.ref C) us) _ _ _
  obtain ⟨nm, N, qn, bs, bm, hdct, sn, sub, ab, col, dd, k0, k1, k2, k3, k5, hC, hT⟩ := PySem.W.excInit_of I1.kIn T.q
  obtain ⟨hp, g, dr, tk, os⟩ := s1
  have hsz : hp.objs.size ≤ hp.objs.size + 1 := Nat.le_succ _
  have hn : H1 (hp.objs.size + 1) = none := I1.hok.fresh hsz
  have hq := q1 (hp.objs.size + 1) hn
  have kk : ∀ b o, hp.get? b = some o → ((hp.push (PySem.W.kdv_tup us)).push (PySem.HandSPX.excO C hp.objs.size)).get? b = some o := fun b o e => Heap.get?_push_of_some _ (Heap.get?_push_of_some _ e)
  have hget : ((hp.push (PySem.W.kdv_tup us)).push (PySem.HandSPX.excO C hp.objs.size)).get? (hp.objs.size + 1) = some (PySem.HandSPX.excO C hp.objs.size) := by heap_get
  have I2 : Inv X pins σ (upd H1 (hp.objs.size + 1) (exo (hp.objs.size + 1) C none)) ⟨(hp.push (PySem.W.kdv_tup us)).push (PySem.HandSPX.excO C hp.objs.size), g, dr, tk, os⟩ :=
    I1.laid (t' := tk) (a := hp.objs.size + 1) (o := exo (hp.objs.size + 1) C none) (h' := (hp.push (PySem.W.kdv_tup us)).push (PySem.HandSPX.excO C hp.objs.size)) kk hsz (exo_ok hget)
  have r2 : Vals (V.ref (hp.objs.size + 1) :: vs) (Value.ref (hp.objs.size + 1) :: us) := .cons rfl r1
  have hl : (Value.ref (hp.objs.size + 1) :: us ++ []).length = ps.length := by
    rw [List.append_nil, ← r2.length]
    exact F1.len hq
  have hus : us.length ≤ sizeLine := by
    rw [← Paired.length r1, sizeLine_eq]
    omega
  have b := hb _ (Value.ref (hp.objs.size + 1) :: us) I2.kIn hl
  rw [List.append_nil] at b
  refine wpAny_call (PySem.HandSPX.call_own FB hT hC (PySem.W.looks_findIn I1.kIn iC) (fun self => PySem.W.bind_fn I1.kIn self tI) hus
    (codeAny_mono (F1.run (hr.make C us []) (make_guards.trans hgd) (I2.env0.make C us []) b r2 hq) ?_))
  intro z s' hq'
  cases z with
  | error er =>
    obtain ⟨_, _, _, _, _, _, _, _, _, _, _, _, ff⟩ := hq'
    exact ff.elim
  | ok fl =>
    cases fl with
    | ret u =>
      obtain ⟨v, H2, os2, bare2, un2, hok2, rv, ev, d, fs, ea, ed, hd1, q2⟩ := hq'
      subst ev
      obtain ⟨h2, g2, d2, t2, os'⟩ := s'
      exact ⟨rv, mk_end (raises_own T.ex T.ty) I1 hsz kk un2 hok2 os2 bare2 ea ed hd1 q2⟩
    | next => cases hq'
    | brk => cases hq'
    | cont => cases hq'
end
end Dc

namespace Dc
open PySem PySem.Spec PyProof.Rows L2
/-! ### try with clauses, each with a name or without -/
/-- a clause: its class, its name's slot, its suite -/
abbrev Cl : Type := Value × Option Nat × (Addr → Value → Option Addr → TS)
/-- the ends of a suite whose name goes behind it -/
def endsOff (i : Nat) (D : Ends) : Ends := { nx := fun σ H => D.nx (σ.set i none) H, rt := D.rt, bk := fun σ H => D.bk (σ.set i none) H, ct := fun σ H => D.ct (σ.set i none) H }
def clRun (D : Ends) (cls : Value) (d : Option Addr) (σ : L2.St) (H : Hp) (a : Addr) : Cl → Prop
  | (_, none, ts) => ts a cls d D σ H
  | (_, some i, ts) => ts a cls d (endsOff i D) (σ.set i (some (.ref a))) H
def wCl (K : PySem.W.Frag) (Wout : WX) (D : Ends) : List Cl → WX
  | [] => Wout
  | c :: r => fun cls d σ H => ∃ b, PySem.W.exmOne K cls c.1 = some b ∧ (b = true → ∀ a, H a = none → clRun D cls d σ H a c) ∧ (b = false → wCl K Wout D r cls d σ H)
inductive ClsOk (X : Cx) : List ExceptHandler → List Cl → Prop
  | nil : ClsOk X [] []
  | bare {x : Str} {c : Value} {ts : Addr → Value → Option Addr → TS} {s1 : Stmt} {ss : List Stmt} {np q : Pos} {hds : List ExceptHandler} {l : List Cl} (hc : Names X x c)
      (hsu : ∀ (a : Addr) (oe : Obj) (cls : Value) (d : Option Addr) (pn : List (Addr × Obj)), Zc cls d oe → (∃ vs, oe.data = .fields vs) → PSs (X.suite a ((a, oe) :: pn)) (s1 :: ss) (ts a cls d)) (r : ClsOk X hds l) :
      ClsOk X (.ExceptHandler (some (.Name x np)) none (s1 :: ss) q :: hds) ((c, none, ts) :: l)
  | named {x n : Str} {i : Nat} {c : Value} {ts : Addr → Value → Option Addr → TS} {s1 : Stmt} {ss : List Stmt} {np q : Pos} {hds : List ExceptHandler} {l : List Cl} (hc : Names X x c) (hi : X.N[i]? = some n) (hln : X.env.kindOf n = some .local)
      (hsu : ∀ (a : Addr) (oe : Obj) (cls : Value) (d : Option Addr) (pn : List (Addr × Obj)), Zc cls d oe → (∃ vs, oe.data = .fields vs) → PSs (X.suite a ((a, oe) :: pn)) (s1 :: ss) (ts a cls d)) (r : ClsOk X hds l) :
      ClsOk X (.ExceptHandler (some (.Name x np)) (some n) (s1 :: ss) q :: hds) ((c, some i, ts) :: l)
section
variable {X : Cx} {body : List Stmt} {h₀ : ExceptHandler} {hds : List ExceptHandler} {l : List Cl} {pos : Pos} {tb : WX → TS} {Wout : WX}
def tTry (K : PySem.W.Frag) (Wout : WX) (l : List Cl) (tb : WX → TS) : TS := fun D σ H => tb (wCl K Wout D l) D σ H
theorem ps_tryC (hs : X.stack = X.env :: X.outer) (hf : X.env.frame = some X.env.locals) (hN : X.N.Nodup) (tk : Takes X Wout)
    (hb : ∀ (W : WX) (pn : List (Addr × Obj)) (xe : Value → Shared → Prop), Takes (X.tr pn xe) W → PassesOwn (model X.prog X.w) X.A X.env xe → PSs (X.tr pn xe) body (tb W))
    (hh : ClsOk X (h₀ :: hds) l) : PS X (.Try body (h₀ :: hds) [] [] pos) (tTry X.K Wout l tb) := by
  refine ⟨fun pins s σ H D I h => ?_⟩
  have ok := I.ok
  have hfr : X.A.frames = some (X.env :: X.outer) := ok.frames.trans (congrArg some hs)
  refine wpAny_Try_except (wpAny_mono ((hb (wCl X.K Wout D l) (X.pn ++ pins) (fun e s1 => wpAny (model X.prog X.w) X.A (noteFrame e X.env) (fun _ s2 => wpAny (model X.prog X.w) X.A (setFlight e none) (fun _ s3 =>
    wpAny (model X.prog X.w) X.A (handleBy e X.env (h₀ :: hds)) (SP X pins D) X.xe s3) X.xe s2) X.xe s1) (fun u s' xx => ?_) PassesOwn.looking).run [] s σ H D (I.toTry _) h) (fun f s1 hsp => ?_) (fun e s1 he => he))
  · obtain ⟨a, B, sI, pins', σA, HA, cls, d, rfl, J0, nb, up, sky, na, os, ag, w⟩ := xx
    have J : Inv X pins σA HA sI := J0.ofTry ok
    have skyA : Sky B (X.env :: X.outer) a (Zc cls d) X.env.locals s'.heap := hs ▸ sky
    show wpAny (model X.prog X.w) X.A (noteFrame (.ref a) X.env) _ _ _
    refine Sky.land Zc.steady hfr hf skyA fun hA flA upA => ?_
    have JA : Inv X pins σA HA { s' with heap := hA } := J.landed nb flA.1 (up.trans upA) os ag
    obtain ⟨oA, vA, heA, hzA, hdA⟩ := flA.there
    have nfr : a ∉ frs (X.env :: X.outer) := fun hm => by
      obtain ⟨_, o', e', hnf⟩ := flA.2.2.1.mem hm
      rw [heA] at e'
      cases e'
      exact hnf _ hdA
    have nL : a ≠ X.env.locals := fun z => nfr (List.mem_filterMap.mpr ⟨X.env, List.mem_cons_self, hf.trans (congrArg some z.symm)⟩)
    have nF : a ∉ X.fs := fun hm => by
      obtain ⟨e, he, q⟩ := List.mem_filterMap.mp hm
      exact nfr (List.mem_filterMap.mpr ⟨e, List.mem_cons_of_mem _ he, q⟩)
    have SA := JA.suite heA hdA na nL nF
    have LT : PySem.W.Looks (model X.prog X.w) hA (typeOf (.ref a)) cls := fun _ _ _ _ k q => wpAny_typeOf_ref (k _ _ heA) (hzA.1 ▸ q)
    have test : ∀ {x : Str} {c : Value} {np : Pos} {Q : Value → Shared → Prop} {E : Value → Shared → Prop}, Names X x c → Q c { s' with heap := hA } → wpAny (model X.prog X.w) (X.A.mark (some (.ref a))) (eval (.Name x np) X.env) Q E { s' with heap := hA } := fun {x c np Q E} hc q => by
      obtain ⟨hg, hdbg, hm | ⟨hm, hv, hnn⟩⟩ := hc
      · exact ld_glob (X := X.suite a ((a, oA) :: (X.pn ++ pins))) SA hg hm q hdbg
      · exact ld_blt (X := X.suite a ((a, oA) :: (X.pn ++ pins))) SA hg hm hv q hnn hdbg
    have go : ∀ {hs' : List ExceptHandler} {l' : List Cl}, ClsOk X hs' l' → wCl X.K Wout D l' cls d σA HA → wpAny (model X.prog X.w) X.A (handleBy (.ref a) X.env hs') (SP X pins D) X.xe { s' with heap := hA } := by
      intro hs' l' hk
      induction hk with
      | nil =>
        intro w
        refine wpAny_handleBy_nil ?_
        obtain ⟨_, _, _, oe, vs, T, oT, ts', he, hz, hd, h1, hr⟩ := id flA
        unfold PySem.passOn
        refine wpAny_bind (wpAny_field he hd h1 ?_)
        rw [if_neg (show ¬ ((Value.ref T == Value.none) = true) from fun z => by simp at z)]
        have fin : wpAny (model X.prog X.w) X.A (setFlight (.ref a) X.env.frame) (fun _ s4 => wpAny (model X.prog X.w) X.A (throw (.ref a) : Sem Flow) (SP X pins D) X.xe s4) X.xe { s' with heap := hA } := by
          rw [hf]
          exact HandSPX.setFlight_upZ flA fun hB hhB upB => wpAny_throw (tk _ _ ⟨a, B, sI, pins, σA, HA, cls, d, rfl, J, nb, (up.trans upA).trans upB, .inr (.inr (hs.symm ▸ hhB)), na, os, ag, w⟩)
        first
          | exact wpAny_bind (wpAny_pure (wpAny_bind fin))
          | exact wpAny_bind fin
      | @bare x c ts s1 ss np q hds2 l2 hc hsu r ih =>
        intro w
        obtain ⟨b, hb1, hyes, hno⟩ := w
        refine wpAny_handleBy_cons (codeAny_handlers_test (test hc ((PySem.W.exm_one (M := model X.prog X.w) JA.kIn LT hb1).here ?_))) (fun q => nomatch q)
        cases b with
        | true =>
          refine codeAny_handlers_suite (HandSPX.lands_againZ flA fun hB flB upB => ?_)
          have JB : Inv X pins σA HA { s' with heap := hB } := J.landed nb flB.1 ((up.trans upA).trans upB) os ag
          obtain ⟨oB, vB, heB, hzB, hdB⟩ := flB.there
          have SB := JB.suite heB hdB na nL nF
          refine wpAny_mono ((hsu a oB cls d (X.pn ++ pins) hzB ⟨_, hdB⟩).run [] _ _ HA D SB (hyes rfl a na)) (fun f s6 hsp => ?_) (fun _ _ z => False.elim z)
          cases f with
          | ret u =>
            obtain ⟨v6, σ6, H6, S6, r6, q6⟩ := hsp
            exact ⟨_, _, _, S6.unsuite ok, r6, q6⟩
          | next =>
            obtain ⟨σ6, H6, S6, q6⟩ := hsp
            exact ⟨_, _, S6.unsuite ok, q6⟩
          | brk =>
            obtain ⟨σ6, H6, S6, q6⟩ := hsp
            exact ⟨_, _, S6.unsuite ok, q6⟩
          | cont =>
            obtain ⟨σ6, H6, S6, q6⟩ := hsp
            exact ⟨_, _, S6.unsuite ok, q6⟩
        | false => exact ih (hno rfl)
      | @named x n i c ts s1 ss np q hds2 l2 hc hi hln hsu r ih =>
        intro w
        obtain ⟨b, hb1, hyes, hno⟩ := w
        refine wpAny_handleBy_cons (codeAny_handlers_test (test hc ((PySem.W.exm_one (M := model X.prog X.w) JA.kIn LT hb1).here ?_))) (fun q => nomatch q)
        cases b with
        | true =>
          refine codeAny_handlers_suite_as (HandSPX.lands_againZ flA fun hB flB upB => ?_)
          have JB : Inv X pins σA HA { s' with heap := hB } := J.landed nb flB.1 ((up.trans upA).trans upB) os ag
          obtain ⟨oB, vB, heB, hzB, hdB⟩ := flB.there
          have SB := JB.suite heB hdB na nL nF
          refine store_ok (X := X.suite a ((a, oB) :: (X.pn ++ pins))) (v := .ref a) SB hN hi (.inl hln) rfl (fun s5 S5 => ?_) (.inr hln)
          refine wpAny_mono ((hsu a oB cls d (X.pn ++ pins) hzB ⟨_, hdB⟩).run [] s5 _ HA (endsOff i D) S5 (hyes rfl a na)) (fun f s6 hsp => ?_) (fun _ _ z => False.elim z)
          have off : ∀ {σ6 : L2.St} {H6 : Hp} {R : Shared → Prop}, Inv (X.suite a ((a, oB) :: (X.pn ++ pins))) [] σ6 H6 s6 → (∀ s7, Inv X pins (σ6.set i none) H6 s7 → R s7) →
              wpAny (model X.prog X.w) X.A (do bindName X.env n .none; unbindBehindTheSuite X.env n q) (fun _ s7 => R s7) X.xe s6 := fun {σ6 H6 R} S6 hq => gone_ok (S6.unsuite ok) hN hi hln hq
          cases f with
          | ret u =>
            obtain ⟨v6, σ6, H6, S6, r6, q6⟩ := hsp
            exact off S6 fun s7 J7 => ⟨_, _, _, J7, r6, q6⟩
          | next =>
            obtain ⟨σ6, H6, S6, q6⟩ := hsp
            exact off S6 fun s7 J7 => ⟨_, _, J7, q6⟩
          | brk =>
            obtain ⟨σ6, H6, S6, q6⟩ := hsp
            exact off S6 fun s7 J7 => ⟨_, _, J7, q6⟩
          | cont =>
            obtain ⟨σ6, H6, S6, q6⟩ := hsp
            exact off S6 fun s7 J7 => ⟨_, _, J7, q6⟩
        | false => exact ih (hno rfl)
    exact go hh w
  · cases f with
    | ret u =>
      obtain ⟨v, σ', H', J', r, q⟩ := hsp
      exact ⟨v, σ', H', J'.ofTry ok, r, q⟩
    | next =>
      obtain ⟨σ', H', J', q⟩ := hsp
      exact wpAny_execs_nil ⟨σ', H', J'.ofTry ok, q⟩
    | brk =>
      obtain ⟨σ', H', J', q⟩ := hsp
      exact ⟨σ', H', J'.ofTry ok, q⟩
    | cont =>
      obtain ⟨σ', H', J', q⟩ := hsp
      exact ⟨σ', H', J'.ofTry ok, q⟩
end
end Dc

namespace Dc
open PySem PySem.Spec PyProof.Rows L2
/-! ### isinstance of a caught exception -/
/-- its dict, if it has one, stands -/
def XdAt (H : Hp) (d : Option Addr) : Prop := ∀ dd, d = some dd → ∃ fs, H dd = some (.xd fs)
def rIsX (K : PySem.W.Frag) (a : Addr) (cls : Value) (d : Option Addr) : List V → Hp → VK → Prop := fun xs H Q => ∃ (c : V) (u : Value) (D : Addr) (b : Bool), xs = [.ref a, c] ∧ cls = .ref D ∧ ExcC K D ∧ XdAt H d ∧ ClsV c u ∧ PySem.W.kitOne K (.ref D) u = some b ∧ Q (.bl b) H
def rIsXT (K : PySem.W.Frag) (a : Addr) (cls : Value) (d : Option Addr) : List V → Hp → VK → Prop := fun xs H Q => ∃ (tp : Addr) (cs : List V) (us : List Value) (D : Addr) (b : Bool), xs = [.ref a, .ref tp] ∧ cls = .ref D ∧ ExcC K D ∧ XdAt H d ∧ H tp = some (.tup cs) ∧ Paired ClsV cs us ∧ PySem.W.kitAny K (.ref D) us = some b ∧ Q (.bl b) H
section
variable {X : Cx} {a : Addr} {oe : Obj} {cls : Value} {d : Option Addr} {pn : List (Addr × Obj)}
theorem inst_x {pins : List (Addr × Obj)} {s : Shared} {σ : L2.St} {H : Hp} {D : Addr} (hz : Zc cls d oe) (hf : ∃ vs, oe.data = .fields vs) (I : Inv (X.suite a ((a, oe) :: pn)) pins σ H s) (ec : cls = .ref D) (hd : XdAt H d) : ∃ od, PySem.W.InstAt s.heap a oe D od := by
  obtain ⟨ha, _⟩ := I.pin (a, oe) (List.mem_append_left _ List.mem_cons_self)
  obtain ⟨vs, hv⟩ := hf
  have nc : PySem.W.notCls oe = true := by
    unfold PySem.W.notCls
    rw [hv]
  cases d with
  | none => exact ⟨none, ha, hz.1.trans ec, nc, by rw [hz.2]; trivial⟩
  | some dd =>
    obtain ⟨fs, e⟩ := hd dd rfl
    obtain ⟨mA, hns, _⟩ := (show ObjOk X.prog X.w H s.heap dd (.xd fs) from I.hok dd _ e)
    obtain ⟨od, ho, _⟩ := lookIn_ns hns
    exact ⟨some od, ha, hz.1.trans ec, nc, by rw [hz.2]; exact ho⟩
theorem kit_x {K : PySem.W.Frag} {D : Addr} {od : Option Obj} (C : ExcC K D) : PySem.W.KitX K (.ref a) (.ref D) (fun h => PySem.W.InstAt h a oe D od) := by
  obtain ⟨cd, hc, _⟩ := PySem.W.any_some C.hd
  exact PySem.W.kitx_exc (by rw [hc]; rfl) C.hg C.hk C.hs C.ha C.hn C.ht C.hm
theorem call_isX (hz : Zc cls d oe) (hf : ∃ vs, oe.data = .fields vs) : CallR (X.suite a ((a, oe) :: pn)) (.builtin "isinstance") (rIsX X.K a cls d) := by
  intro pins s σ H xs us Q I r h
  obtain ⟨c, u, D, b, rfl, ec, C, hd, k, e, q⟩ := h
  obtain ⟨u1, u2, rfl, r1, r2⟩ := vals2 r
  cases (show u1 = Value.ref a from r1)
  have e2 := k.eq r2
  subst e2
  obtain ⟨od, J⟩ := inst_x hz hf I ec hd
  exact PySem.W.kia_one (kit_x C) I.kIn J e (fun z => nomatch z) fun tk => ⟨.bl b, H, I.tok tk, rfl, q⟩
theorem call_isXT (hz : Zc cls d oe) (hf : ∃ vs, oe.data = .fields vs) : CallR (X.suite a ((a, oe) :: pn)) (.builtin "isinstance") (rIsXT X.K a cls d) := by
  intro pins s σ H xs us Q I r h
  obtain ⟨tp, cs, ws, D, b, rfl, ec, C, hd, hT, k, e, q⟩ := h
  obtain ⟨u1, u2, rfl, r1, r2⟩ := vals2 r
  cases (show u1 = Value.ref a from r1)
  cases (show u2 = Value.ref tp from r2)
  obtain ⟨od, J⟩ := inst_x hz hf I ec hd
  obtain ⟨_, its, rv, o, h1, h2, n, h3⟩ := (show ObjOk X.prog X.w H s.heap tp (.tup cs) from I.hok tp _ hT)
  have e3 := ClsV.all k rv
  subst e3
  obtain ⟨oc, od', dt, sl⟩ := o
  simp only at h2 h3
  subst h2 h3
  exact PySem.W.kia_tup (kit_x C) I.kIn J h1 e (fun z => nomatch z) fun tk => ⟨.bl b, H, I.tok tk, rfl, q⟩
end
def excCB (K : PySem.W.Frag) (D : Addr) : Bool :=
  decide (PySem.W.findIn K (.ref D) "__getattribute__" = some (some (.builtin "BaseException.__getattribute__"))) && decide (PySem.W.findIn K (.ref D) "__getattr__" = some none) && decide (PySem.W.subIn K (.ref D) (.type "BaseException") = some true) && PySem.W.hasDictIn K D &&
    decide (PySem.W.findIn K (.ref D) "__class__" = some (some (.builtin "object.__class__"))) && decide (PySem.W.specialIn K (.builtin "object.__class__") "__get__" = some (some (.builtin "getset_descriptor.__get__"))) &&
    decide (PySem.W.takesIn K (.builtin "object.__class__") = some true) && decide (PySem.W.mroIn K D (.type "object") = some true)
theorem excCB_ok {K : PySem.W.Frag} {D : Addr} (h : excCB K D = true) : ExcC K D := by
  unfold excCB at h
  simp only [Bool.and_eq_true, decide_eq_true_eq] at h
  obtain ⟨⟨⟨⟨⟨⟨⟨h1, h2⟩, h3⟩, h4⟩, h5⟩, h6⟩, h7⟩, h8⟩ := h
  exact ⟨h1, h2, h3, h4, h5, h6, h7, h8⟩
end Dc

/-! # any thing that stays: its tree -/
namespace Dc
open PySem PySem.Spec PyProof.Rows L2
inductive U
  | non
  | bl (b : Bool)
  | int (i : Int)
  | str (x : Str)
  | lst (xs : List U)
  | tup (xs : List U)
  | dK (kvs : List (Key × U))
  | ob (c : Str) (fs : List (Str × U))
mutual
inductive URep (K : PySem.W.Frag) (F : Hp) : V → U → Prop
  | non : URep K F .non .non
  | bl (b : Bool) : URep K F (.bl b) (.bl b)
  | int (i : Int) : URep K F (.int i) (.int i)
  | str (x : Str) : URep K F (.str x) (.str x)
  | lst {l : Addr} {vs : List V} {us : List U} : F l = some (.lst vs) → URepA K F vs us → URep K F (.ref l) (.lst us)
  | tup {l : Addr} {vs : List V} {us : List U} : F l = some (.tup vs) → URepA K F vs us → URep K F (.ref l) (.tup us)
  | dK {l : Addr} {kvs : List (Key × V)} {us : List (Key × U)} : F l = some (.dK kvs) → URepK K F kvs us → URep K F (.ref l) (.dK us)
  | ob {l dx : Addr} {c : Str} {fs : List (Str × V)} {us : List (Str × U)} : F l = some (.ins (He.ga K c) dx fs) → URepF K F fs us → URep K F (.ref l) (.ob c us)
inductive URepA (K : PySem.W.Frag) (F : Hp) : List V → List U → Prop
  | nil : URepA K F [] []
  | cons {v : V} {vs : List V} {u : U} {us : List U} : URep K F v u → URepA K F vs us → URepA K F (v :: vs) (u :: us)
inductive URepK (K : PySem.W.Frag) (F : Hp) : List (Key × V) → List (Key × U) → Prop
  | nil : URepK K F [] []
  | cons {k : Key} {v : V} {vs : List (Key × V)} {u : U} {us : List (Key × U)} : URep K F v u → URepK K F vs us → URepK K F ((k, v) :: vs) ((k, u) :: us)
inductive URepF (K : PySem.W.Frag) (F : Hp) : List (Str × V) → List (Str × U) → Prop
  | nil : URepF K F [] []
  | cons {k : Str} {v : V} {vs : List (Str × V)} {u : U} {us : List (Str × U)} : URep K F v u → URepF K F vs us → URepF K F ((k, v) :: vs) ((k, u) :: us)
end
section
variable {K : PySem.W.Frag} {F F' : Hp}
mutual
theorem URep.go (s : Same F F') : ∀ {v : V} {u : U}, URep K F v u → URep K F' v u
  | _, _, .non => .non
  | _, _, .bl b => .bl b
  | _, _, .int i => .int i
  | _, _, .str x => .str x
  | _, _, .lst h a => .lst (s _ _ h) (URepA.go s a)
  | _, _, .tup h a => .tup (s _ _ h) (URepA.go s a)
  | _, _, .dK h a => .dK (s _ _ h) (URepK.go s a)
  | _, _, .ob h a => .ob (s _ _ h) (URepF.go s a)
theorem URepA.go (s : Same F F') : ∀ {vs : List V} {us : List U}, URepA K F vs us → URepA K F' vs us
  | _, _, .nil => .nil
  | _, _, .cons a b => .cons (URep.go s a) (URepA.go s b)
theorem URepK.go (s : Same F F') : ∀ {vs : List (Key × V)} {us : List (Key × U)}, URepK K F vs us → URepK K F' vs us
  | _, _, .nil => .nil
  | _, _, .cons a b => .cons (URep.go s a) (URepK.go s b)
theorem URepF.go (s : Same F F') : ∀ {vs : List (Str × V)} {us : List (Str × U)}, URepF K F vs us → URepF K F' vs us
  | _, _, .nil => .nil
  | _, _, .cons a b => .cons (URep.go s a) (URepF.go s b)
end
end
def keyD : Key → PyData
  | .inl i => .int i
  | .inr x => .str x
mutual
def U.dataE : U → Option PyData
  | .non => some .none
  | .bl b => some (.bool b)
  | .int i => some (.int i)
  | .str x => some (.str x)
  | .lst us => (U.dataEA us).map .list
  | .tup us => (U.dataEA us).map .tuple
  | .dK kvs => (U.dataEK kvs).map .dict
  | .ob _ _ => none
def U.dataEA : List U → Option (List PyData)
  | [] => some []
  | u :: us => (U.dataE u).bind fun d => (U.dataEA us).map fun ds => d :: ds
def U.dataEK : List (Key × U) → Option (List (PyData × PyData))
  | [] => some []
  | (k, u) :: us => (U.dataE u).bind fun d => (U.dataEK us).map fun ds => (keyD k, d) :: ds
end
theorem bind_some {A B : Type} {o : Option A} {f : A → Option B} {b : B} (h : o.bind f = some b) : ∃ a, o = some a ∧ f a = some b := by
  cases o with
  | none => cases h
  | some a => exact ⟨a, rfl, h⟩
theorem map_some {A B : Type} {o : Option A} {f : A → B} {b : B} (h : o.map f = some b) : ∃ a, o = some a ∧ f a = b := by
  cases o with
  | none => cases h
  | some a => exact ⟨a, rfl, Option.some.inj h⟩
end Dc

namespace Dc
open PySem PySem.Spec PyProof.Rows L2
/-! ### repr of any datum: of plain values, lists, tuples, and an empty dict -/
inductive DpE (K : PySem.W.Frag) (H : Hp) : V → PyData → Prop
  | dp {x : V} {d : PyData} : Dp K H x d → d.hasDict = false → DpE K H x d
  | deep {x : V} {u : U} {d : PyData} : URep K H x u → u.dataE = some d → DpE K H x d
theorem DpE.flat {K : PySem.W.Frag} {H : Hp} {x : V} {d : PyData} (h : DpE K H x d) (n : ∀ a, x ≠ .ref a) : Dp K H x d ∧ d.hasDict = false := by
  cases h with
  | dp h e => exact ⟨h, e⟩
  | deep h e =>
    cases h with
    | non => rw [U.dataE] at e; cases e; exact ⟨.non, rfl⟩
    | bl b => rw [U.dataE] at e; cases e; exact ⟨.bl _, rfl⟩
    | int b => rw [U.dataE] at e; cases e; exact ⟨.int _, rfl⟩
    | str b => rw [U.dataE] at e; cases e; exact ⟨.str _, rfl⟩
    | lst _ _ => exact absurd rfl (n _)
    | tup _ _ => exact absurd rfl (n _)
    | dK _ _ => exact absurd rfl (n _)
    | ob _ _ => exact absurd rfl (n _)
/-- it may be shown -/
structure Fit (d : PyData) : Prop where
  s : d.showable = true
  k : d.depth ≤ 50
  l : d.shown.length ≤ sizeLine
section
variable {X : Cx} {pins : List (Addr × Obj)} {σ : L2.St} {H : Hp} {s : Shared}
abbrev HasSys (K : PySem.W.Frag) : Bool := (K.lookup sysModules).isSome
theorem noSys {a : Addr} {o : HO} (hy : HasSys X.K = true) (I : Inv X pins σ H s) (e : H a = some o) : a ≠ sysModules := fun z => by
  obtain ⟨ob, hk⟩ := Option.isSome_iff_exists.mp hy
  have := (I.bs sysModules ob (I.mod.kin sysModules ob hk)).2
  rw [z, this] at e
  cases e
mutual
theorem URep.reads (hy : HasSys X.K = true) (I : Inv X pins σ H s) : ∀ {v : V} {u : U} {d : PyData} {w : Value}, URep X.K H v u → u.dataE = some d → RelV v w → ∃ as, Reads s.heap w d as ∧ sysModules ∉ as
  | _, _, _, _, .non, e, r => by
    rw [U.dataE] at e
    cases e
    cases r
    exact ⟨_, Reads.none, fun m => nomatch m⟩
  | _, _, _, _, .bl b, e, r => by
    rw [U.dataE] at e
    cases e
    cases r
    exact ⟨_, Reads.bool b, fun m => nomatch m⟩
  | _, _, _, _, .int i, e, r => by
    rw [U.dataE] at e
    cases e
    obtain ⟨t, rfl⟩ := r
    exact ⟨_, Reads.int i t, fun m => nomatch m⟩
  | _, _, _, _, .str x, e, r => by
    rw [U.dataE] at e
    cases e
    obtain ⟨t, rfl⟩ := r
    exact ⟨_, Reads.str x t, fun m => nomatch m⟩
  | _, _, _, _, .lst h a, e, r => by
    rw [U.dataE] at e
    obtain ⟨ds, e1, rfl⟩ := map_some e
    cases r
    obtain ⟨its, rv, ⟨o, n, ho, hc, _, hd⟩, _⟩ := I.list (SqL.of h)
    obtain ⟨as, hr, hs⟩ := URepA.reads hy I a e1 rv
    exact ⟨_, Reads.list ho hc hd hr, fun m => (List.mem_cons.mp m).elim (fun z => noSys hy I h z.symm) hs⟩
  | _, _, _, _, .tup h a, e, r => by
    rw [U.dataE] at e
    obtain ⟨ds, e1, rfl⟩ := map_some e
    cases r
    obtain ⟨its, rv, ⟨o, ho, hc, n, hd⟩, _⟩ := I.tuple (SqT.of h)
    obtain ⟨as, hr, hs⟩ := URepA.reads hy I a e1 rv
    exact ⟨_, Reads.tuple ho hc hd hr, hs⟩
  | _, _, _, _, .dK h a, e, r => by
    rw [U.dataE] at e
    obtain ⟨ds, e1, rfl⟩ := map_some e
    cases r
    obtain ⟨_, ns, vs, kv, dd⟩ := (show ObjOk X.prog X.w H s.heap _ (.dK _) from I.hok _ _ h)
    obtain ⟨o, es, n, h1, h2, h3, _, h4, _⟩ := dd
    obtain ⟨bs, r1, r2, hs⟩ := URepK.reads hy I a e1 kv h4
    refine ⟨_, Reads.dict h1 h2.1 h3 r1 r2, fun m => ?_⟩
    rcases List.mem_append.mp m with m | m
    · exact noSys hy I h (List.mem_singleton.mp m).symm
    · exact hs m
  | _, _, _, _, .ob _ _, e, _ => by rw [U.dataE] at e; cases e
theorem URepA.reads (hy : HasSys X.K = true) (I : Inv X pins σ H s) : ∀ {vs : List V} {us : List U} {ds : List PyData} {ws : List Value}, URepA X.K H vs us → U.dataEA us = some ds → Vals vs ws → ∃ as, ReadsAll s.heap ws ds as ∧ sysModules ∉ as
  | _, _, _, _, .nil, e, r => by
    rw [U.dataEA] at e
    cases e
    cases r
    exact ⟨_, ReadsAll.nil, fun m => nomatch m⟩
  | _, _, _, _, .cons a b, e, r => by
    rw [U.dataEA] at e
    obtain ⟨d, e1, e2⟩ := bind_some e
    obtain ⟨ds, e3, rfl⟩ := map_some e2
    cases r with
    | cons r1 r2 =>
      obtain ⟨as, q1, s1⟩ := URep.reads hy I a e1 r1
      obtain ⟨bs, q2, s2⟩ := URepA.reads hy I b e3 r2
      exact ⟨_, ReadsAll.cons q1 q2, fun m => (List.mem_append.mp m).elim s1 s2⟩
theorem URepK.reads (hy : HasSys X.K = true) (I : Inv X pins σ H s) : ∀ {kvs : List (Key × V)} {us : List (Key × U)} {ds : List (PyData × PyData)} {vs : List (Key × Value)} {es : List DictEntry}, URepK X.K H kvs us → U.dataEK us = some ds → KV kvs vs → Pairs (mixKind X.prog X.w) es vs →
    ∃ bs, ReadsAll s.heap (es.map (·.key)) (ds.map (·.1)) [] ∧ ReadsAll s.heap (es.map (·.val)) (ds.map (·.2)) bs ∧ sysModules ∉ bs
  | _, _, _, _, _, .nil, e, kv, hp => by
    rw [U.dataEK] at e
    cases e
    cases kv
    cases hp
    exact ⟨[], .nil, .nil, fun m => nomatch m⟩
  | _, _, _, _, _, .cons (k := k) a b, e, kv, hp => by
    rw [U.dataEK] at e
    obtain ⟨d, e1, e2⟩ := bind_some e
    obtain ⟨ds, e3, rfl⟩ := map_some e2
    cases kv with
    | @cons _ q _ qs hq kv =>
      cases hp with
      | @cons en _ es _ h1 h2 h3 =>
        obtain ⟨k2, v2⟩ := q
        obtain ⟨f1, f2⟩ := hq
        simp only at f1 f2 h1 h2
        subst f1
        obtain ⟨as, q1, s1⟩ := URep.reads hy I a e1 f2
        obtain ⟨bs, i1, i2, s2⟩ := URepK.reads hy I b e3 kv h3
        refine ⟨as ++ bs, ReadsAll.cons (as := []) (bs := []) ?_ i1, ReadsAll.cons (as := as) (bs := bs) ?_ i2, fun m => (List.mem_append.mp m).elim s1 s2⟩
        · show Reads s.heap _ (keyD k) []
          dsimp only
          have h1 : keyIs k en.key = true := h1
          rcases keyIs_shape h1 with ⟨i, t, rfl, ek⟩ | ⟨x, t, rfl, ek⟩
          · rw [ek]; exact .int i t
          · rw [ek]; exact .str x t
        · show Reads s.heap _ d as
          dsimp only
          rw [h2]
          exact q1
end
theorem DpE.reads {a : Addr} {d : PyData} (hy : HasSys X.K = true) (I : Inv X pins σ H s) (h : DpE X.K H (.ref a) d) : ∃ as, Reads s.heap (.ref a) d as ∧ (d.hasDict = true → sysModules ∉ as) := by
  cases h with
  | dp h n =>
    obtain ⟨as, r⟩ := Dp.reads I d _ _ h rfl
    exact ⟨as, r, fun z => by rw [n] at z; cases z⟩
  | deep h e =>
    obtain ⟨as, r, hs⟩ := URep.reads hy I h e (w := .ref a) rfl
    exact ⟨as, r, fun _ => hs⟩
/-- {x!r} -/
def tFmtD (K : PySem.W.Frag) (te : TE) : TE := fun σ H Q => te σ H fun x H1 => ∃ d, DpE K H1 x d ∧ Fit d ∧ Q (.str d.shown) H1
theorem pe_fmtD {e : Expr} {te : TE} {pos : Pos} (hgd : X.A.guards = some []) (hu : X.A.units + 64 < cLine) (hy : HasSys X.K = true) (he : PE X e te) : PE X (.FormattedValue e 114 none pos) (tFmtD X.K te) := by
  refine ⟨fun pins s σ H Q I h => ?_⟩
  refine wpAny_FormattedValue_repr (thn (he.run pins s σ H _ I h) fun v s1 hv => ?_)
  obtain ⟨x, H1, I1, r1, d, hd, ft, q⟩ := hv
  have fin : ∀ (z : Str) (t : Tok) (s2 : Shared), z.length ≤ sizeLine → Inv X pins σ H1 s2 → Q (.str z) H1 → wpAny (model X.prog X.w) X.A (formatField (.str z t) Str.empty) (EP X pins σ Q) X.xe s2 :=
    fun z t s2 hz I2 q => wpAny_formatField_str ⟨.str z, H1, I2, ⟨t, rfl⟩, q⟩ ⟨.str z, H1, I2.tok _, ⟨_, rfl⟩, q⟩ hz
  cases x with
  | ref a =>
    obtain rfl : v = Value.ref a := r1
    obtain ⟨as, r, hs⟩ := hd.reads hy I1
    exact pyReprObj_of_reads r ft.s hs hgd (by have := ft.k; omega) (fun _ _ e => e) (fun h' u tk hk => fin _ _ _ ft.l (I1.kept hk) q) ft.l
  | non =>
    obtain rfl : v = Value.none := r1
    obtain ⟨h, n⟩ := hd.flat (fun a z => nomatch z)
    cases h
    exact pyReprObj_none (fin _ _ _ ft.l (I1.tok _) q)
  | bl b =>
    obtain rfl : v = Value.bool b := r1
    obtain ⟨h, n⟩ := hd.flat (fun a z => nomatch z)
    cases h
    exact pyReprObj_bool (fin _ _ _ ft.l (I1.tok _) q)
  | int i =>
    obtain ⟨t, rfl⟩ := r1
    obtain ⟨h, n⟩ := hd.flat (fun a z => nomatch z)
    cases h
    exact pyReprObj_int (of_decide_eq_true ft.s) (fin _ _ _ ft.l (I1.tok _) q)
  | str z =>
    obtain ⟨t, rfl⟩ := r1
    obtain ⟨h, n⟩ := hd.flat (fun a z => nomatch z)
    cases h
    exact pyReprObj_str (fin _ _ _ ft.l (I1.tok _) q) ft.l
  | ty n =>
    obtain ⟨h, n⟩ := hd.flat (fun a z => nomatch z)
    cases h
  | byt n =>
    obtain ⟨h, n⟩ := hd.flat (fun a z => nomatch z)
    cases h
  | flt n =>
    obtain ⟨h, n⟩ := hd.flat (fun a z => nomatch z)
    cases h
/-- repr(x) -/
def rReprE (K : PySem.W.Frag) : List V → Hp → VK → Prop := fun xs H Q => ∃ x d, xs = [x] ∧ DpE K H x d ∧ Fit d ∧ Q (.str d.shown) H
theorem call_reprE (hgd : X.A.guards = some []) (hu : X.A.units + 64 < cLine) (hy : HasSys X.K = true) : CallR X (.builtin "repr") (rReprE X.K) := by
  intro pins s σ H xs us Q I r h
  obtain ⟨x, d, rfl, hd, ft, q⟩ := h
  obtain ⟨v, rfl, r1⟩ := vals1 r
  have fin : ∀ (z : Str) (t t' : Nat), Q (.str z) H → EP X pins σ Q (.str z t) { s with toks := t' } := fun z t t' q => ⟨.str z, H, I.tok _, ⟨t, rfl⟩, q⟩
  cases x with
  | ref a =>
    obtain rfl : v = Value.ref a := r1
    obtain ⟨as, r, hs⟩ := hd.reads hy I
    exact repr_of_reads' r ft.s hs hgd (by have := ft.k; omega) (fun _ _ e => e) (fun h' u tk hk => ⟨.str _, H, I.kept hk, ⟨u, rfl⟩, q⟩) ft.l
  | non =>
    obtain rfl : v = Value.none := r1
    obtain ⟨h, n⟩ := hd.flat (fun a z => nomatch z)
    cases h
    exact call_repr_gives (typeIs_none s) F.slot_NoneType_repr F.entry_NoneType_repr (F.args_NoneType_repr_1 _) gives_none_repr (fin _ _ _ q) (hx := ft.l)
  | bl b =>
    obtain rfl : v = Value.bool b := r1
    obtain ⟨h, n⟩ := hd.flat (fun a z => nomatch z)
    cases h
    exact call_repr_gives (PySem.typeIs_bool s b) F.slot_bool_repr F.entry_bool_repr (F.args_bool_repr_1 _) (gives_bool_repr b) (fin _ _ _ q) (hx := ft.l)
  | int i =>
    obtain ⟨t, rfl⟩ := r1
    obtain ⟨h, n⟩ := hd.flat (fun a z => nomatch z)
    cases h
    exact PySem.P.repr_of_int (of_decide_eq_true ft.s) (fin _ _ _ q)
  | str z =>
    obtain ⟨t, rfl⟩ := r1
    obtain ⟨h, n⟩ := hd.flat (fun a z => nomatch z)
    cases h
    exact call_repr_gives (typeIs_str s z t) F.slot_str_repr F.entry_str_repr (F.args_str_repr_1 _) (gives_str_repr z t) (fin _ _ _ q) (hx := ft.l)
  | ty n =>
    obtain ⟨h, n⟩ := hd.flat (fun a z => nomatch z)
    cases h
  | byt n =>
    obtain ⟨h, n⟩ := hd.flat (fun a z => nomatch z)
    cases h
  | flt n =>
    obtain ⟨h, n⟩ := hd.flat (fun a z => nomatch z)
    cases h
end
end Dc

namespace Dc
open PySem PySem.Spec PyProof.Rows L2
section
variable {P : Program} {w : World} {K : PySem.W.Frag} {mg : Str → Option Value} {base : Heap} {N : List Str} {qual : Str} {scope : Scope} {f : Addr} {cd : Value} {A : Around} {outer : List Env} {s : Shared} {H : Hp} {E : XK}
/-- what leaves a def, as its promise has it -/
def WO (E : XK) : WX := fun cls d _ H => E cls d H
theorem takes_cx : Takes (cxOf (L2.CX P w) P w K mg base N qual scope f cd A outer s H E) (WO E) := takes_of rfl rfl rfl rfl
theorem own_cx : PassesOwn (model P w) (cxOf (L2.CX P w) P w K mg base N qual scope f cd A outer s H E).A (cxOf (L2.CX P w) P w K mg base N qual scope f cd A outer s H E).env (cxOf (L2.CX P w) P w K mg base N qual scope f cd A outer s H E).xe :=
  passes_of (X := cxOf (L2.CX P w) P w K mg base N qual scope f cd A outer s H E) rfl
end
/-! ### the head's facts with own ones beside -/
abbrev Ex : Type := PySem.W.Frag → Bool
def exAll (ex : List Ex) (K : PySem.W.Frag) : Bool := ex.all fun f => f K
def obsE (n : Nat) (fa : List He.Fa) (fn : List He.DefD) (ex : List Ex) (g : Addr → Option Obj) : He.AlD × Bool := (He.obsD fa fn (He.frG g (He.asD g n ++ [sysModules, cStatics])), exAll ex (He.frG g (He.asD g n ++ [sysModules, cStatics])))
def hookE (n : Nat) (fa : List He.Fa) (fn : List He.DefD) (ex : List Ex) : PySem.W.Hook where
  α := He.AlD × Bool
  obs := fun s => obsE n fa fn ex s.heap.get?
  val := fun _ => (He.valD fn, true)
  says := fun _ h => ∃ K : PySem.W.Frag, K.In h ∧ He.SaysD fa fn K ∧ exAll ex K = true
  of := fun _ _ e => ⟨_, He.frG_in, congrArg Prod.fst e, congrArg Prod.snd e⟩
  keeps := fun _ _ _ ⟨K, hK, c⟩ k => ⟨K, PySem.W.Frag.In.keeps hK k, c⟩
theorem obsE_eq {n : Nat} {fa : List He.Fa} {fn : List He.DefD} {ex : List Ex} {g : Addr → Option Obj} {s : Shared} (h : ∀ a, g a = s.heap.get? a) : obsE n fa fn ex g = (hookE n fa fn ex).obs s := by
  have e : g = s.heap.get? := funext h
  rw [e]
  rfl
structure TxtE (fa : List He.Fa) (fn : List He.DefD) (ex : List Ex) (K : PySem.W.Frag) (mg : Str → Option Value) : Prop extends Txt fa fn K mg where
  x : exAll ex K = true
theorem TxtE.ex {fa : List He.Fa} {fn : List He.DefD} {ex : List Ex} {K : PySem.W.Frag} {mg : Str → Option Value} (T : TxtE fa fn ex K mg) (i : Nat) {f : Ex} (h : ex[i]? = some f := by rfl) : f K = true := List.all_eq_true.mp T.x f (List.mem_of_getElem? h)
end Dc

namespace Dc
open PySem PySem.Spec PyProof.Rows L2
/-! ### raise of own exceptions -/
def tRaiseX (t : L2.St → Hp → XK → Prop) (W : WX) : TS := fun _ σ H => t σ H fun cls d H' => W cls d σ H'
def tMk0 (C : Addr) : L2.St → Hp → XK → Prop := fun _ H Q => Q (.ref C) none H
def tJoin (ts : List TE) : TE := fun σ H Q => tJs ts Str.empty σ H fun out H1 => Q (.str out) H1
/-- an own exception class with an own __init__ -/
structure CalX (K : PySem.W.Frag) (mg : Str → Option Value) (C : Addr) (x : Str) (newId : String) (bmB : List Value) (f : Addr) (fd : FuncData) (ps : List Str) : Prop where
  m : mg x = some (.ref C)
  o : Oxc K C newId bmB
  i : Meth K C "__init__" f
  b : L2.Binds K fd ps []
/-- .. without one -/
structure CalX0 (K : PySem.W.Frag) (mg : Str → Option Value) (C : Addr) (x : Str) (newId : String) (bmB : List Value) : Prop where
  m : mg x = some (.ref C)
  q : PySem.W.excIn K C bmB newId = true
  ex : PySem.W.subIn K (.ref C) (.type "BaseException") = some true
  ty : PySem.W.typeIn K (.ref C) = some (.type "type")
  kp : PySem.W.keepIn K (.ref C) = true
def plainXB (K : PySem.W.Frag) (C : Addr) (newId : String) (bmB : List Value) : Bool := PySem.W.excIn K C bmB newId && decide (PySem.W.subIn K (.ref C) (.type "BaseException") = some true) && decide (PySem.W.typeIn K (.ref C) = some (.type "type")) && PySem.W.keepIn K (.ref C)
theorem calX0 {K : PySem.W.Frag} {mg : Str → Option Value} {C : Addr} {x : Str} {newId : String} {bmB : List Value} (m : mg x = some (.ref C)) (h : plainXB K C newId bmB = true) : CalX0 K mg C x newId bmB := by
  unfold plainXB at h
  simp only [Bool.and_eq_true, decide_eq_true_eq] at h
  exact ⟨m, h.1.1.1, h.1.1.2, h.1.2, h.2⟩
section
variable {X : Cx} {W : WX} {k : Nat} {f C : Addr} {fd : FuncData} {ps : List Str} {sp : Sp} {x : Str} {p pos pos' : Pos} {e : Expr} {es : List Expr} {t : TA} {B newId initId : String} {bmB : List Value}
theorem c_raise (FB : ExcBaseFacts B newId initId bmB) (F : Ok X.prog X.w X.K X.mg X.base (L2.CX X.prog X.w) k f fd ps sp) (c : CalX X.K X.mg C x newId bmB f fd ps) (hr : Room (k + 1) X.A) (hgd : X.A.guards = some []) (tk : Takes X W) (hc : X.calm = true)
    (ha : PA X (e :: es) t) (hg : Gl X x := by rfl) (hdb : (x == ("__debug__" : Str)) = false := by decide) (he : starEach (e :: es) X.env = (false, eval e X.env) :: starEach es X.env := by rfl)
    (hpl : (backTo pos (starEach es X.env)).any (·.1) = false := by rfl) : PS X (.Raise (some (.Call (.Name x p) (e :: es) [] pos)) none pos') (tRaiseX (tMkX C sp t) W) :=
  ps_raise hc tk (pmk_x FB c.o c.i.at_ (beq_iff_eq.mp c.i.fn) F hr hgd c.b c.m ha hg hdb he hpl)
theorem c_raise0 {m : Str} {j : Nat} {p2 : Pos} (FB : ExcBaseFacts B newId initId bmB) (c : CalX0 X.K X.mg C x newId bmB) (tk : Takes X W) (hc : X.calm = true) (hg : Gl X x := by rfl) (hdb : (x == ("__debug__" : Str)) = false := by decide) :
    PS X (.Raise (some (.Call (.Name x p) [.Constant (.str m) j p2] [] pos)) none pos') (tRaiseX (tMk0 C) W) :=
  ps_raise hc tk (pmk_own FB c.q c.m c.kp (raises_own c.ex c.ty) hg hdb)
end
abbrev tailV : List Value := [.type "ValueError", .type "Exception", .type "BaseException", .type "object"]
abbrev tailL : List Value := [.type "LookupError", .type "Exception", .type "BaseException", .type "object"]
abbrev tailA : List Value := [.type "ArithmeticError", .type "Exception", .type "BaseException", .type "object"]
abbrev tailR : List Value := [.type "RuntimeError", .type "Exception", .type "BaseException", .type "object"]
/-- C.__init__ is the built-in one -/
def valIs (id : String) : Option PySem.W.CFound → Bool
  | some (.val (.builtin n)) => n == id
  | _ => false
theorem valIs_ok {id : String} : ∀ {r : Option PySem.W.CFound}, valIs id r = true → r = some (.val (.builtin id))
  | some (.val (.builtin n)), h => by
    have e : n = id := beq_iff_eq.mp h
    rw [e]
  | none, h => nomatch h
  | some (.get _ _ _ _), h => nomatch h
  | some (.val .none), h => nomatch h
  | some (.val .ellipsis), h => nomatch h
  | some (.val .notImplemented), h => nomatch h
  | some (.val (.bool _)), h => nomatch h
  | some (.val (.int _ _)), h => nomatch h
  | some (.val (.float _ _)), h => nomatch h
  | some (.val (.str _ _)), h => nomatch h
  | some (.val (.bytes _ _)), h => nomatch h
  | some (.val (.type _)), h => nomatch h
  | some (.val (.ref _)), h => nomatch h
def xiOB (K : PySem.W.Frag) (C0 : Addr) (initId : String) : Bool := decide (PySem.W.specialIn K (.ref C0) "__getattribute__" = some (some (.builtin "type.__getattribute__"))) && PySem.W.readsIn K C0 (.type "type") && valIs initId (PySem.W.findCls K (.ref C0) (.type "type") "__init__")
theorem xiOB_ok {K : PySem.W.Frag} {C0 : Addr} {initId : String} (h : xiOB K C0 initId = true) : PySem.W.specialIn K (.ref C0) "__getattribute__" = some (some (.builtin "type.__getattribute__")) ∧ PySem.W.readsIn K C0 (.type "type") = true ∧ PySem.W.findCls K (.ref C0) (.type "type") "__init__" = some (.val (.builtin initId)) := by
  unfold xiOB at h
  rw [Bool.and_eq_true, Bool.and_eq_true] at h
  exact ⟨of_decide_eq_true h.1.1, h.1.2, valIs_ok h.2⟩
def xiBB (K : PySem.W.Frag) (T initId : String) : Bool := valIs initId (PySem.W.findCls K (.type T) (.type "type") "__init__")
theorem xiBB_ok {K : PySem.W.Frag} {T initId : String} (h : xiBB K T initId = true) : PySem.W.findCls K (.type T) (.type "type") "__init__" = some (.val (.builtin initId)) := valIs_ok h
theorem ty_LookupError : typeOf (.type "LookupError") = pure (.type "type") := by kernel_rfl
theorem ty_ArithmeticError : typeOf (.type "ArithmeticError") = pure (.type "type") := by kernel_rfl
theorem ty_ValueError : typeOf (.type "ValueError") = pure (.type "type") := by kernel_rfl
end Dc

namespace Dc
open PySem PySem.Spec PyProof.Rows L2
/-- x.upper() -/
def tUp (to : TE) : TE := fun σ H Q => to σ H fun x H1 => ∃ z : Str, x = .str z ∧ z.length ≤ 5592405 ∧ Q (.str (Txt.upper z)) H1
theorem pe_upper {X : Cx} {o : Expr} {to : TE} {apos pos : Pos} (ho : PE X o to) (hbase : attributeBase o "upper" X.env (eval o X.env) = eval o X.env := by rfl) (hline : (apos.endLine == pos.line) = true := by rfl) :
    PE X (.Call (.Attribute o "upper" apos) [] [] pos) (tUp to) := by
  refine ⟨fun pins s σ H Q I h => J1.ev_upper hbase hline (thn (ho.run pins s σ H _ I h) fun v s1 hv => ?_)⟩
  obtain ⟨x, H1, I1, r1, z, rfl, hz, q⟩ := hv
  obtain ⟨t, rfl⟩ := r1
  exact ⟨z, t, rfl, hz, fun t' k => ⟨.str (Txt.upper z), H1, I1.tok k, ⟨t', rfl⟩, q⟩⟩
end Dc

namespace Dc
open PySem PySem.Spec PyProof.Rows L2
/-! what the head looks at, of exceptions -/
def houseErrs : List Str := ["HouseError", "NoPlan", "NoText", "NoCounts", "NoCrowd", "NoWay", "Shut", "NoSet", "Same", "NoMany", "Unlike", "Refused", "NoName", "Taken", "Unguided", "NoRange", "NoBack", "NoDeed", "NoParties", "NoStanding", "NoTolls", "NoRow"]
/-- an own class is it, or under it (built-in ones too) -/
def isSub (c h : Str) : Bool := decide (c = h) || (decide (c ∈ houseErrs) && (decide (h = "HouseError") || decide (h = "ValueError"))) || (decide (c = "NoSuch") && decide (h = "LookupError")) || (decide (c = "Busy") && decide (h = "RuntimeError")) || (decide (c = "TooMany") && decide (h = "ArithmeticError"))
def exmB (cs hs : List Str) (K : PySem.W.Frag) : Bool := cs.all fun c => hs.all fun h => decide (PySem.W.exmOne K (.ref (He.ga K c)) (.ref (He.ga K h)) = some (isSub c h))
def isxB (cs os : List Str) (bs : List String) (K : PySem.W.Frag) : Bool := cs.all fun c => excCB K (He.ga K c) && (os.all fun x => decide (PySem.W.kitOne K (.ref (He.ga K c)) (.ref (He.ga K x)) = some (isSub c x))) && bs.all fun T => decide (PySem.W.kitOne K (.ref (He.ga K c)) (.type T) = some (isSub c (Str.ofString T)))
/-- what the head looks at, of a class whose instances are asked about -/
def insB (K : PySem.W.Frag) (C : Addr) : Bool := decide (PySem.W.findIn K (.ref C) "__class__" = some (some (.builtin "object.__class__"))) &&
  decide (PySem.W.specialIn K (.builtin "object.__class__") "__get__" = some (some (.builtin "getset_descriptor.__get__"))) && decide (PySem.W.takesIn K (.builtin "object.__class__") = some true) && decide (PySem.W.mroIn K C (.type "object") = some true)
end Dc

namespace Dc
open PySem PySem.Spec PyProof.Rows L2
abbrev xcs : List Str := []
abbrev xhs : List Str := []
abbrev xos : List Str := []
abbrev xbs : List String := []
end Dc
namespace Dc
open PySem PySem.Spec PyProof.Rows L2
def top (i : Nat) : Stmt := PySem.Challenge.pw_doorcount_k15_equal_and_shown.main.body.getD i (.Pass ⟨0, 0, 0, 0⟩)
abbrev s__wall : Stmt := top 0
abbrev s_NoSuchU_initU : Stmt := inClass (top 3) 0
abbrev s_NoPlanU_initU : Stmt := inClass (top 4) 0
abbrev s_is_name : Stmt := top 12
abbrev s_is_whole : Stmt := top 13
abbrev s_is_row : Stmt := top 14
abbrev s_want_rooms : Stmt := top 15
abbrev s_want_ends : Stmt := top 16
abbrev s_is_bound : Stmt := top 17
abbrev s_want_range : Stmt := top 18
abbrev s_want_doors : Stmt := top 19
abbrev s_PlanU_initU : Stmt := inClass (top 20) 0
abbrev s_Plan_rooms : Stmt := inClass (top 20) 1
abbrev s_Plan_doors : Stmt := inClass (top 20) 2
abbrev s_Plan_has : Stmt := inClass (top 20) 3
abbrev s_Plan_door : Stmt := inClass (top 20) 4
abbrev s_Plan_beside : Stmt := inClass (top 20) 5
abbrev s_Plan_hanging : Stmt := inClass (top 20) 6
abbrev s_Plan_parts : Stmt := inClass (top 20) 7
abbrev s_Plan_ranged : Stmt := inClass (top 20) 8
abbrev s_PlanU_eqU : Stmt := inClass (top 20) 9
abbrev s_PlanU_lenU : Stmt := inClass (top 20) 10
abbrev s_PlanU_reprU : Stmt := inClass (top 20) 11
abbrev s__law_pot : Stmt := top 22
abbrev s__law_take : Stmt := top 23
abbrev s__law_among : Stmt := top 24
abbrev s__law_name : Stmt := top 25
abbrev s__law_names : Stmt := top 26
abbrev s__law_wide : Stmt := top 27
abbrev s__law_range : Stmt := top 28
abbrev s__law_door : Stmt := top 29
abbrev s__law_doors : Stmt := top 30
abbrev s__law_lists : Stmt := top 31
abbrev s__law_turned : Stmt := top 32
abbrev s__law_wider : Stmt := top 33
abbrev s__law_changed : Stmt := top 34
abbrev s__law_has_right : Stmt := top 35
abbrev s__law_pair_right : Stmt := top 36
abbrev s_law : Stmt := top 37
def d_is_name : He.DefD := ⟨("is_name", none), "is_name", "is_name", defArgs s_is_name, defBody s_is_name, defScope s_is_name, [], []⟩
def d_is_whole : He.DefD := ⟨("is_whole", none), "is_whole", "is_whole", defArgs s_is_whole, defBody s_is_whole, defScope s_is_whole, [], []⟩
def d_is_row : He.DefD := ⟨("is_row", none), "is_row", "is_row", defArgs s_is_row, defBody s_is_row, defScope s_is_row, [], []⟩
def d_want_rooms : He.DefD := ⟨("want_rooms", none), "want_rooms", "want_rooms", defArgs s_want_rooms, defBody s_want_rooms, defScope s_want_rooms, [], []⟩
def d_want_ends : He.DefD := ⟨("want_ends", none), "want_ends", "want_ends", defArgs s_want_ends, defBody s_want_ends, defScope s_want_ends, [], []⟩
def d_is_bound : He.DefD := ⟨("is_bound", none), "is_bound", "is_bound", defArgs s_is_bound, defBody s_is_bound, defScope s_is_bound, [], []⟩
def d_want_range : He.DefD := ⟨("want_range", none), "want_range", "want_range", defArgs s_want_range, defBody s_want_range, defScope s_want_range, [], []⟩
def d_want_doors : He.DefD := ⟨("want_doors", none), "want_doors", "want_doors", defArgs s_want_doors, defBody s_want_doors, defScope s_want_doors, [], []⟩
def d_PlanU_initU : He.DefD := ⟨("Plan", some "__init__"), "__init__", "Plan.__init__", defArgs s_PlanU_initU, defBody s_PlanU_initU, defScope s_PlanU_initU, [], []⟩
def d_Plan_rooms : He.DefD := ⟨("Plan", some "rooms"), "rooms", "Plan.rooms", defArgs s_Plan_rooms, defBody s_Plan_rooms, defScope s_Plan_rooms, [], []⟩
def d_Plan_doors : He.DefD := ⟨("Plan", some "doors"), "doors", "Plan.doors", defArgs s_Plan_doors, defBody s_Plan_doors, defScope s_Plan_doors, [], []⟩
def d_PlanU_lenU : He.DefD := ⟨("Plan", some "__len__"), "__len__", "Plan.__len__", defArgs s_PlanU_lenU, defBody s_PlanU_lenU, defScope s_PlanU_lenU, [], []⟩
def d_Plan_has : He.DefD := ⟨("Plan", some "has"), "has", "Plan.has", defArgs s_Plan_has, defBody s_Plan_has, defScope s_Plan_has, [], []⟩
def d_PlanU_eqU : He.DefD := ⟨("Plan", some "__eq__"), "__eq__", "Plan.__eq__", defArgs s_PlanU_eqU, defBody s_PlanU_eqU, defScope s_PlanU_eqU, [], []⟩
def d_PlanU_reprU : He.DefD := ⟨("Plan", some "__repr__"), "__repr__", "Plan.__repr__", defArgs s_PlanU_reprU, defBody s_PlanU_reprU, defScope s_PlanU_reprU, [], []⟩
def d__law_pot : He.DefD := ⟨("_law_pot", none), "_law_pot", "_law_pot", defArgs s__law_pot, defBody s__law_pot, defScope s__law_pot, [], []⟩
def d__law_take : He.DefD := ⟨("_law_take", none), "_law_take", "_law_take", defArgs s__law_take, defBody s__law_take, defScope s__law_take, [], []⟩
def d__law_name : He.DefD := ⟨("_law_name", none), "_law_name", "_law_name", defArgs s__law_name, defBody s__law_name, defScope s__law_name, [], []⟩
def d__law_names : He.DefD := ⟨("_law_names", none), "_law_names", "_law_names", defArgs s__law_names, defBody s__law_names, defScope s__law_names, [], []⟩
def d__law_wide : He.DefD := ⟨("_law_wide", none), "_law_wide", "_law_wide", defArgs s__law_wide, defBody s__law_wide, defScope s__law_wide, [], []⟩
def d__law_range : He.DefD := ⟨("_law_range", none), "_law_range", "_law_range", defArgs s__law_range, defBody s__law_range, defScope s__law_range, [], []⟩
def d__law_door : He.DefD := ⟨("_law_door", none), "_law_door", "_law_door", defArgs s__law_door, defBody s__law_door, defScope s__law_door, [], []⟩
def d__law_doors : He.DefD := ⟨("_law_doors", none), "_law_doors", "_law_doors", defArgs s__law_doors, defBody s__law_doors, defScope s__law_doors, [], []⟩
def d__law_lists : He.DefD := ⟨("_law_lists", none), "_law_lists", "_law_lists", defArgs s__law_lists, defBody s__law_lists, defScope s__law_lists, [], []⟩
def d__law_turned : He.DefD := ⟨("_law_turned", none), "_law_turned", "_law_turned", defArgs s__law_turned, defBody s__law_turned, defScope s__law_turned, [], []⟩
def d__law_wider : He.DefD := ⟨("_law_wider", none), "_law_wider", "_law_wider", defArgs s__law_wider, defBody s__law_wider, defScope s__law_wider, [], []⟩
def d__law_changed : He.DefD := ⟨("_law_changed", none), "_law_changed", "_law_changed", defArgs s__law_changed, defBody s__law_changed, defScope s__law_changed, [], []⟩
def d__law_has_right : He.DefD := ⟨("_law_has_right", none), "_law_has_right", "_law_has_right", defArgs s__law_has_right, defBody s__law_has_right, defScope s__law_has_right, [], []⟩
def d__law_pair_right : He.DefD := ⟨("_law_pair_right", none), "_law_pair_right", "_law_pair_right", defArgs s__law_pair_right, defBody s__law_pair_right, defScope s__law_pair_right, [], []⟩
def d_law : He.DefD := ⟨("law", none), "law", "law", defArgs s_law, defBody s_law, defScope s_law, [], []⟩
def fn : List He.DefD := [d_is_name, d_is_whole, d_is_row, d_want_rooms, d_want_ends, d_is_bound, d_want_range, d_want_doors, d_PlanU_initU, d_Plan_rooms, d_Plan_doors, d_PlanU_lenU, d_Plan_has, d_PlanU_eqU, d_PlanU_reprU, d__law_pot, d__law_take, d__law_name, d__law_names, d__law_wide, d__law_range, d__law_door, d__law_doors, d__law_lists, d__law_turned, d__law_wider, d__law_changed, d__law_has_right, d__law_pair_right, d_law]
def fa : List He.Fa := [.glo "is_name", .glo "is_whole", .glo "is_row", .glo "want_rooms", .glo "want_ends", .glo "is_bound", .glo "want_range", .glo "want_doors", .glo "_law_pot", .glo "_law_take", .glo "_law_name", .glo "_law_names", .glo "_law_wide", .glo "_law_range", .glo "_law_door", .glo "_law_doors", .glo "_law_lists", .glo "_law_turned", .glo "_law_wider", .glo "_law_changed", .glo "_law_has_right", .glo "_law_pair_right", .glo "law", .glo "HouseError", .glo "NoSuch", .glo "NoPlan", .glo "Plan", .free "str", .free "isinstance", .free "list", .free "range", .free "divmod", .free "len", .free "all", .int "MOST_ROOMS" 8, .free "enumerate", .int "MOST_LETTERS" 8, .str "LETTERS" "abcdefghijklmnopqrstuvwxyz", .int "MOST_DOORS" 12, .int "IN_DOOR" 4, .free "tuple", .free "bool", .free "int", .int "WIDEST" 99, .free "repr", .free "min", .free "max", .free "abs", .cls "Plan", .noat "Plan" "named", .noat "Plan" "gates", .mkr "Plan", .meth "Plan" "rooms", .meth "Plan" "doors", .meth "Plan" "__len__", .meth "Plan" "has", .meth "Plan" "__eq__", .meth "Plan" "__repr__"]
def exs : List Ex := [fun K => HasSys K, fun K => decide (PySem.W.findIn K (.ref (He.ga K "Plan")) "__ne__" = some (some (.builtin "object.__ne__"))) && ["NoneType", "bool", "int", "str", "list", "tuple", "dict"].all fun T => decide (PySem.W.kitCls K (.type T) (.ref (He.ga K "Plan")) = some false), fun K => insB K (He.ga K "Plan"), fun K => exmB xcs xhs K, fun K => isxB xcs xos xbs K]
abbrev Tx := TxtE fa fn exs
end Dc
namespace Dc
open PySem PySem.Spec PyProof.Rows L2
abbrev R : PySem.W.OpenRow := PySem.W.OpenLaw.row PySem.Challenge.rw_doorcount_k15_equal_and_shown
abbrev hk : PySem.W.Hook := hookE 5 fa fn exs
def ob (s : PySem.W.SharedT) : He.AlD × Bool := obsE 5 fa fn exs (HandSHeadRun.getT s)
theorem ob_eq (s : PySem.W.SharedT) : ob s = hk.obs s.abs := obsE_eq (HandSHeadRun.getT_eq s)
def looseNames : List PySem.Str := (["_wall", "HouseError", "NoSuch", "NoPlan", "WIDEST", "MOST_ROOMS", "MOST_DOORS", "MOST_LETTERS", "IN_DOOR", "LETTERS", "is_name", "is_whole", "is_row", "want_rooms", "want_ends", "is_bound", "want_range", "want_doors", "Plan", "_law_pot"] : List PySem.Str) ++ (["_law_take", "_law_among", "_law_name", "_law_names", "_law_wide", "_law_range", "_law_door", "_law_doors", "_law_lists", "_law_turned", "_law_wider", "_law_changed", "_law_has_right", "_law_pair_right"] : List PySem.Str)
theorem run (w : World) : HandSHeadRun.RunEq R (PySem.W.view R.prog [37]) hk ob 20000 looseNames w := by
  intro os
  kernel_rfl
end Dc

/-! # Mirrors: each def as a plain function (of data, not of places in the heap), and what joins the two -/
namespace Dc
open PySem PySem.Spec PyProof.Rows L2
/-- an exception that was raised: its class, its fields -/
structure Exn where
  cls : Str
  fld : List (Str × U)
/-- what a def does, told by what is wanted of it: of its value (Q), of what it raises (E) -/
structure M (α : Type) where
  run : (α → Prop) → (Exn → Prop) → Prop
  mono : ∀ {Q Q' : α → Prop} {E E' : Exn → Prop}, (∀ a, Q a → Q' a) → (∀ e, E e → E' e) → run Q E → run Q' E'
namespace M
variable {α β γ : Type}
def pure (a : α) : M α := ⟨fun Q _ => Q a, fun h _ q => h a q⟩
def bind (m : M α) (f : α → M β) : M β := ⟨fun Q E => m.run (fun a => (f a).run Q E) E, fun h k r => m.mono (fun a q => (f a).mono h k q) k r⟩
/-- raises -/
def thr (e : Exn) : M α := ⟨fun _ E => E e, fun _ k q => k e q⟩
/-- goes on where p -/
def need (p : Prop) (m : M α) : M α := ⟨fun Q E => p ∧ m.run Q E, fun h k ⟨a, b⟩ => ⟨a, m.mono h k b⟩⟩
/-- any that has p -/
def any (p : α → Prop) : M α := ⟨fun Q _ => ∀ a, p a → Q a, fun h _ q a pa => h a (q a pa)⟩
/-- it never raises -/
def nx (m : M α) : M α := ⟨fun Q _ => m.run Q fun _ => False, fun h _ q => m.mono h (fun _ z => z) q⟩
/-- f at a (kept whole for the elaborator) -/
def to (f : β → M α) (a : β) : M α := f a
def bad : M α := ⟨fun _ _ => False, fun _ _ q => q⟩
def ofOpt : Option α → M α
  | some a => pure a
  | none => bad
/-- the first clause that fits, else it goes on -/
def tryC (m : M α) (h : Exn → Option (M α)) : M α := ⟨fun Q E => m.run Q fun e => match h e with | some k => k.run Q E | none => E e,
  fun q k r => m.mono q (fun e z => by
    cases he : h e with
    | some f => rw [he] at z; exact f.mono q k z
    | none => rw [he] at z; exact k e z) r⟩
theorem ext {m n : M α} (h : ∀ Q E, m.run Q E ↔ n.run Q E) : m = n := by
  obtain ⟨r, _⟩ := m
  obtain ⟨s, _⟩ := n
  have e : r = s := funext fun Q => funext fun E => propext (h Q E)
  subst e
  rfl
theorem pure_bind (a : α) (f : α → M β) : (pure a).bind f = f a := rfl
theorem bind_pure (m : M α) : m.bind pure = m := rfl
theorem bind_assoc (m : M α) (f : α → M β) (g : β → M γ) : (m.bind f).bind g = m.bind fun a => (f a).bind g := rfl
theorem need_true {p : Prop} (h : p) (m : M α) : need p m = m := ext fun _ _ => ⟨fun z => z.2, fun z => ⟨h, z⟩⟩
theorem need_bind {p : Prop} (m : M α) (f : α → M β) : (need p m).bind f = need p (m.bind f) := rfl
theorem nx_pure (a : α) : (pure a).nx = pure a := rfl
theorem nx_bind (m : M α) (f : α → M β) : (m.bind f).nx = m.nx.bind fun a => (f a).nx := rfl
theorem thr_bind (e : Exn) (f : α → M β) : (thr e : M α).bind f = thr e := rfl
theorem ite_bind {c : Prop} [Decidable c] (m n : M α) (f : α → M β) : (if c then m else n).bind f = if c then m.bind f else n.bind f := by
  split <;> rfl
end M
/-! ## what stands for what -/
/-- a value of a Lean type, as it stands in a heap in which nothing changes any more; rd: one that is read just now -/
class Fz (α : Type) where
  rep : PySem.W.Frag → Hp → V → α → Prop
  mono : ∀ {K F F' v a}, Same F F' → rep K F v a → rep K F' v a
  rd : PySem.W.Frag → Hp → Hp → V → α → Prop
  rd_of : ∀ {K F H v a}, Same F H → rep K F v a → rd K F H v a
/-- a type of which reading asks nothing else -/
@[reducible] def Fz.mk' {α : Type} (rep : PySem.W.Frag → Hp → V → α → Prop) (mono : ∀ {K F F' v a}, Same F F' → rep K F v a → rep K F' v a) : Fz α := ⟨rep, mono, fun K F _ => rep K F, fun _ h => h⟩
instance : Fz Int := Fz.mk' (fun _ _ v a => v = .int a) fun _ h => h
instance : Fz Bool := Fz.mk' (fun _ _ v a => v = .bl a) fun _ h => h
instance : Fz Str := Fz.mk' (fun _ _ v a => v = .str a) fun _ h => h
instance : Fz Unit := Fz.mk' (fun _ _ v _ => v = .non) fun _ h => h
/-- several of them -/
abbrev Reps {α : Type} [Fz α] (K : PySem.W.Frag) (F : Hp) : List V → List α → Prop := Paired (Fz.rep K F)
theorem Reps.mono {α : Type} [Fz α] {K : PySem.W.Frag} {F F' : Hp} (s : Same F F') {vs : List V} {xs : List α} (h : Reps K F vs xs) : Reps K F' vs xs := paired_mono (fun _ _ r => Fz.mono s r) h
instance {α : Type} [Fz α] : Fz (List α) where
  rep K F v xs := ∃ l vs, v = .ref l ∧ F l = some (.lst vs) ∧ Reps K F vs xs
  mono := fun s ⟨l, vs, e, h, r⟩ => ⟨l, vs, e, s _ _ h, Reps.mono s r⟩
  rd K F H v xs := ∃ l vs, v = .ref l ∧ H l = some (.lst vs) ∧ Reps K F vs xs
  rd_of := fun s ⟨l, vs, e, h, r⟩ => ⟨l, vs, e, s _ _ h, r⟩
/-- a tuple of any length -/
structure Tof (α : Type) where
  l : List α
  deriving DecidableEq
instance {α : Type} [Fz α] : Fz (Tof α) := Fz.mk' (fun K F v xs => ∃ l vs, v = .ref l ∧ F l = some (.tup vs) ∧ Reps K F vs xs.l) fun s ⟨l, vs, e, h, r⟩ => ⟨l, vs, e, s _ _ h, Reps.mono s r⟩
/-- tuples of one to five things -/
structure T1 (α : Type) where
  a : α
  deriving DecidableEq
structure T3 (α β γ : Type) where
  a : α
  b : β
  c : γ
  deriving DecidableEq
structure T4 (α β γ δ : Type) where
  a : α
  b : β
  c : γ
  d : δ
  deriving DecidableEq
structure T5 (α β γ δ ε : Type) where
  a : α
  b : β
  c : γ
  d : δ
  e : ε
  deriving DecidableEq
section
variable {α β γ δ ε : Type} [Fz α] [Fz β] [Fz γ] [Fz δ] [Fz ε]
instance : Fz (T1 α) := Fz.mk' (fun K F v x => ∃ l v1, v = .ref l ∧ F l = some (.tup [v1]) ∧ Fz.rep K F v1 x.a) fun s ⟨l, v1, e, h, r1⟩ => ⟨l, v1, e, s _ _ h, Fz.mono s r1⟩
instance : Fz (α × β) := Fz.mk' (fun K F v x => ∃ l v1 v2, v = .ref l ∧ F l = some (.tup [v1, v2]) ∧ Fz.rep K F v1 x.1 ∧ Fz.rep K F v2 x.2) fun s ⟨l, v1, v2, e, h, r1, r2⟩ => ⟨l, v1, v2, e, s _ _ h, Fz.mono s r1, Fz.mono s r2⟩
instance : Fz (T3 α β γ) := Fz.mk' (fun K F v x => ∃ l v1 v2 v3, v = .ref l ∧ F l = some (.tup [v1, v2, v3]) ∧ Fz.rep K F v1 x.a ∧ Fz.rep K F v2 x.b ∧ Fz.rep K F v3 x.c) fun s ⟨l, v1, v2, v3, e, h, r1, r2, r3⟩ => ⟨l, v1, v2, v3, e, s _ _ h, Fz.mono s r1, Fz.mono s r2, Fz.mono s r3⟩
instance : Fz (T4 α β γ δ) := Fz.mk' (fun K F v x => ∃ l v1 v2 v3 v4, v = .ref l ∧ F l = some (.tup [v1, v2, v3, v4]) ∧ Fz.rep K F v1 x.a ∧ Fz.rep K F v2 x.b ∧ Fz.rep K F v3 x.c ∧ Fz.rep K F v4 x.d) fun s ⟨l, v1, v2, v3, v4, e, h, r1, r2, r3, r4⟩ => ⟨l, v1, v2, v3, v4, e, s _ _ h, Fz.mono s r1, Fz.mono s r2, Fz.mono s r3, Fz.mono s r4⟩
instance : Fz (T5 α β γ δ ε) := Fz.mk' (fun K F v x => ∃ l v1 v2 v3 v4 v5, v = .ref l ∧ F l = some (.tup [v1, v2, v3, v4, v5]) ∧ Fz.rep K F v1 x.a ∧ Fz.rep K F v2 x.b ∧ Fz.rep K F v3 x.c ∧ Fz.rep K F v4 x.d ∧ Fz.rep K F v5 x.e) fun s ⟨l, v1, v2, v3, v4, v5, e, h, r1, r2, r3, r4, r5⟩ => ⟨l, v1, v2, v3, v4, v5, e, s _ _ h, Fz.mono s r1, Fz.mono s r2, Fz.mono s r3, Fz.mono s r4, Fz.mono s r5⟩
end
instance : Fz Door := Fz.mk' (fun _ F v d => ∃ l, v = .ref l ∧ F l = some (.tup d.vs)) fun s ⟨l, e, h⟩ => ⟨l, e, s _ _ h⟩
/-- a thing that is not None -/
class Fn (α : Type) [Fz α] : Prop where
  nn : ∀ {K : PySem.W.Frag} {F : Hp} {v : V} {a : α}, Fz.rep K F v a → v ≠ .non
theorem ref_nn {v : V} {l : Addr} (e : v = .ref l) : v ≠ .non := by rw [e]; exact fun z => nomatch z
instance : Fn Int := ⟨fun h => by cases h; exact fun z => nomatch z⟩
instance : Fn Bool := ⟨fun h => by cases h; exact fun z => nomatch z⟩
instance : Fn Str := ⟨fun h => by cases h; exact fun z => nomatch z⟩
instance {α : Type} [Fz α] : Fn (List α) := ⟨fun h => by obtain ⟨_, _, e, _⟩ := h; exact ref_nn e⟩
instance {α : Type} [Fz α] : Fn (Tof α) := ⟨fun h => by obtain ⟨_, _, e, _⟩ := h; exact ref_nn e⟩
instance {α β : Type} [Fz α] [Fz β] : Fn (α × β) := ⟨fun h => by obtain ⟨_, _, _, e, _⟩ := h; exact ref_nn e⟩
instance : Fn Door := ⟨fun h => by obtain ⟨_, e, _⟩ := h; exact ref_nn e⟩
def optRep {α : Type} [Fz α] (K : PySem.W.Frag) (F : Hp) (v : V) : Option α → Prop
  | none => v = .non
  | some a => Fz.rep K F v a
instance {α : Type} [Fz α] : Fz (Option α) := Fz.mk' optRep fun {K F F' v x} s h => by
  cases x with
  | none => exact h
  | some a => exact Fz.mono s h
/-! ## owned things -/
/-- a thing that may change, with the places that are its own -/
structure Rp (α : Type) where
  rep : PySem.W.Frag → Hp → Hp → V → α → List Addr → Prop
  stay : ∀ {K F H F' H' v a A}, rep K F H v a A → Same F F' → (∀ x ∈ A, H' x = H x) → rep K F' H' v a A
  live : ∀ {K F H v a A}, rep K F H v a A → ∀ x ∈ A, H x ≠ none
/-- what stays for good -/
def oZ (α : Type) [Fz α] : Rp α := ⟨fun K F _ v a A => A = [] ∧ Fz.rep K F v a, fun ⟨e, h⟩ s _ => ⟨e, Fz.mono s h⟩, fun ⟨e, _⟩ x m => by rw [e] at m; cases m⟩
/-- a list of one's own, of things that stay -/
def oL (α : Type) [Fz α] : Rp (List α) where
  rep K F H v xs A := ∃ l vs, v = .ref l ∧ A = [l] ∧ H l = some (.lst vs) ∧ Reps K F vs xs
  stay := fun ⟨l, vs, e, ea, h, r⟩ s k => ⟨l, vs, e, ea, by rw [k l (by rw [ea]; exact List.mem_singleton.mpr rfl)]; exact h, Reps.mono s r⟩
  live := fun ⟨l, vs, e, ea, h, r⟩ x m => by
    rw [ea, List.mem_singleton] at m
    rw [m, h]
    exact Option.some_ne_none _
/-! ## the slots of a def, by what stands in them -/
inductive Sl : Type 1
  | no
  | fz {α : Type} [Fz α] (a : α)
  | ow {α : Type} (R : Rp α) (a : α)
  | mu {α : Type} (R : Rp α) (a : α)
  | pt (p : Addr)
/-- a call: what may change (M), the pot, the heaps at its beginning -/
structure Ctx where
  K : PySem.W.Frag
  M : Addr → Prop
  p : Option Addr
  F : Hp
  H : Hp
  /-- what is not looked at, and stays as it is for now -/
  P : Hp
def SlOk (C : Ctx) (F H : Hp) (o : Option V) (s : Sl) (A : List Addr) : Prop := match s with
  | .no => A = []
  | @Sl.fz _ _ a => ∃ v, o = some v ∧ A = [] ∧ Fz.rep C.K F v a
  | .ow R a => ∃ v, o = some v ∧ R.rep C.K F H v a A ∧ ∀ x ∈ A, C.H x = none
  | .mu R a => ∃ v, o = some v ∧ R.rep C.K F H v a A ∧ ∀ x ∈ A, C.M x ∧ C.H x ≠ none
  | .pt p => o = some (.ref p) ∧ A = [p] ∧ PotAt H p ∧ (C.M p ∨ C.H p = none)
structure Ok' (C : Ctx) (F H : Hp) (σ : L2.St) (δ : List Sl) (A : Nat → List Addr) : Prop where
  go : Go C.M C.F C.H F H
  pot : ∀ p, C.p = some p → PotAt H p ∧ F p = none ∧ C.M p ∧ C.H p ≠ none
  len : σ.length = δ.length
  at_ : ∀ i s, δ[i]? = some s → SlOk C F H (σ[i]?.join) s (A i)
  dis : ∀ i j a, a ∈ A i → a ∈ A j → i = j
  off : ∀ i a, a ∈ A i → F a = none ∧ i < δ.length
  prt : ∀ a o, C.P a = some o → H a = some o ∧ F a = none ∧ ∀ i, a ∉ A i
def Okk (C : Ctx) (F H : Hp) (σ : L2.St) (δ : List Sl) : Prop := ∃ A, Ok' C F H σ δ A
section
variable {C : Ctx} {F H F' H' : Hp} {σ : L2.St} {δ : List Sl} {A : Nat → List Addr} {i : Nat} {s : Sl} {v : V} {o : Option V} {p l : Addr}
theorem SlOk.live {B : List Addr} (h : SlOk C F H o s B) : ∀ x ∈ B, H x ≠ none := by
  intro x m
  cases s with
  | no =>
    rw [show B = [] from h] at m
    cases m
  | fz a =>
    obtain ⟨v, _, e, _⟩ := h
    rw [e] at m
    cases m
  | ow R a =>
    obtain ⟨v, _, r, _⟩ := h
    exact R.live r x m
  | mu R a =>
    obtain ⟨v, _, r, _⟩ := h
    exact R.live r x m
  | pt p =>
    obtain ⟨_, e, t, _⟩ := h
    rw [e, List.mem_singleton] at m
    rw [m]
    exact t.some
theorem SlOk.stay {B : List Addr} (h : SlOk C F H o s B) (sm : Same F F') (k : ∀ x ∈ B, H' x = H x) : SlOk C F' H' o s B := by
  cases s with
  | no => exact h
  | fz a =>
    obtain ⟨v, e, e2, r⟩ := h
    exact ⟨v, e, e2, Fz.mono sm r⟩
  | ow R a =>
    obtain ⟨v, e, r, f⟩ := h
    exact ⟨v, e, R.stay r sm k, f⟩
  | mu R a =>
    obtain ⟨v, e, r, f⟩ := h
    exact ⟨v, e, R.stay r sm k, f⟩
  | pt p =>
    obtain ⟨e2, e, ⟨x, y, t, r⟩, c⟩ := h
    exact ⟨e2, e, ⟨x, y, by rw [k p (by rw [e]; exact List.mem_singleton.mpr rfl)]; exact t, r⟩, c⟩
theorem Ok'.live (ok : Ok' C F H σ δ A) : ∀ i a, a ∈ A i → H a ≠ none := fun i a m =>
  (ok.at_ i (δ[i]'(ok.off i a m).2) (List.getElem?_eq_getElem _)).live a m
/-- a step that changes nothing of what is known -/
theorem Ok'.step (ok : Ok' C F H σ δ A) (g : Go M0 F H F' H') : Ok' C F' H' σ δ A := by
  have same : ∀ x o, H x = some o → H' x = some o := fun x o e => g.hh x o m0 e
  refine ⟨ok.go.trans (g.wide (fun _ z => False.elim z)), fun p e => ?_, ok.len, fun i s e => (ok.at_ i s e).stay g.ff fun x m => ?_, ok.dis, fun i a m => ⟨?_, (ok.off i a m).2⟩, fun a o e => ?_⟩
  · obtain ⟨⟨x, y, t, r⟩, f, m⟩ := ok.pot p e
    exact ⟨⟨x, y, same _ _ t, r⟩, g.oo p f (by rw [t]; exact Option.some_ne_none _), m⟩
  · have n := ok.live i x m
    cases q : H x with
    | none => exact absurd q n
    | some o => exact same x o q
  · exact g.oo a (ok.off i a m).1 (ok.live i a m)
  · obtain ⟨h1, h2, h3⟩ := ok.prt a o e
    exact ⟨same a o h1, g.oo a h2 (by rw [h1]; exact Option.some_ne_none _), h3⟩
theorem Okk.step (ok : Okk C F H σ δ) (g : Go M0 F H F' H') : Okk C F' H' σ δ := let ⟨A, k⟩ := ok; ⟨A, k.step g⟩
theorem Okk.same (ok : Okk C F H σ δ) : Same F H := let ⟨_, k⟩ := ok; k.go.fh
/-- a draw from a pot -/
theorem Ok'.drawn (ok : Ok' C F H σ δ A) (h : δ[i]? = some (.pt p)) (g : Go (M1 p) F H F' H') (t : PotAt H' p) : Ok' C F' H' σ δ A := by
  obtain ⟨hv, ea, tp, cm⟩ := ok.at_ i _ h
  have mp : p ∈ A i := by
    rw [ea]
    exact List.mem_singleton.mpr rfl
  have gg : Go C.M C.F C.H F' H' := by
    refine ⟨fun b o e => g.ff b o (ok.go.ff b o e), g.fh, fun b o m e => ?_, fun b f n => ?_, fun b n => ?_⟩
    · refine g.hh b o (fun z => ?_) (ok.go.hh b o m e)
      rcases cm with c | c
      · exact m (z ▸ c)
      · rw [show b = p from z, c] at e
        cases e
    · exact g.oo b (ok.go.oo b f n) (ok.go.th b n)
    · exact g.th b (ok.go.th b n)
  refine ⟨gg, fun q e => ?_, ok.len, fun j s e => ?_, ok.dis, fun j a m => ⟨g.oo a (ok.off j a m).1 (ok.live j a m), (ok.off j a m).2⟩, fun a o e => ?_⟩
  · obtain ⟨⟨x, y, tq, r⟩, f, m⟩ := ok.pot q e
    have fq := g.oo q f (by rw [tq]; exact Option.some_ne_none _)
    by_cases z : q = p
    · rw [z] at fq m ⊢
      exact ⟨t, fq, m⟩
    · exact ⟨⟨x, y, g.hh _ _ z tq, r⟩, fq, m⟩
  · by_cases z : j = i
    · rw [z] at e ⊢
      rw [h] at e
      cases e
      exact ⟨hv, ea, t, cm⟩
    · refine (ok.at_ j s e).stay g.ff fun x m => ?_
      have nx : x ≠ p := fun w => z (ok.dis j i p (w ▸ m) mp)
      have n := ok.live j x m
      cases q : H x with
      | none => exact absurd q n
      | some o => exact g.hh x o nx q
  · obtain ⟨h1, h2, h3⟩ := ok.prt a o e
    exact ⟨g.hh a o (fun z => h3 i (by rw [show a = p from z]; exact mp)) h1, g.oo a h2 (by rw [h1]; exact Option.some_ne_none _), h3⟩
theorem Okk.drawn (ok : Okk C F H σ δ) (h : δ[i]? = some (.pt p)) (g : Go (M1 p) F H F' H') (t : PotAt H' p) : Okk C F' H' σ δ := let ⟨A, k⟩ := ok; ⟨A, k.drawn h g t⟩
theorem join_set {σ : L2.St} {i j : Nat} {o : Option V} (h : i < σ.length) : ((σ.set i o)[j]?).join = if j = i then o else σ[j]?.join := by
  by_cases z : j = i
  · rw [z, if_pos rfl, List.getElem?_set_self h]
    rfl
  · rw [if_neg z, List.getElem?_set_ne (fun w => z w.symm)]
/-- a slot gets a thing that stays -/
theorem Okk.put {α : Type} [Fz α] {a : α} (ok : Okk C F H σ δ) (r : Fz.rep C.K F v a) (hi : i < δ.length) : Okk C F H (σ.set i (some v)) (δ.set i (.fz a)) := by
  obtain ⟨A, ok⟩ := ok
  refine ⟨fun j => if j = i then [] else A j, ⟨ok.go, ok.pot, by rw [List.length_set, List.length_set, ok.len], fun j s e => ?_, fun j k a ma mb => ?_, fun j a m => ?_, fun a o e => ?_⟩⟩
  · rw [join_set (by rw [ok.len]; exact hi)]
    by_cases z : j = i
    · rw [z, List.getElem?_set_self hi] at e
      cases e
      rw [if_pos z]
      show SlOk C F H (some v) (.fz a) (if j = i then [] else A j)
      rw [if_pos z]
      exact ⟨v, rfl, rfl, r⟩
    · rw [List.getElem?_set_ne (fun w => z w.symm)] at e
      rw [if_neg z]
      show SlOk C F H _ s (if j = i then [] else A j)
      rw [if_neg z]
      exact ok.at_ j s e
  · by_cases z : j = i
    · simp only [if_pos z] at ma
      cases ma
    · by_cases y : k = i
      · simp only [if_pos y] at mb
        cases mb
      · simp only [if_neg z] at ma
        simp only [if_neg y] at mb
        exact ok.dis j k a ma mb
  · by_cases z : j = i
    · simp only [if_pos z] at m
      cases m
    · simp only [if_neg z] at m
      rw [List.length_set]
      exact ok.off j a m
  · obtain ⟨h1, h2, h3⟩ := ok.prt a o e
    refine ⟨h1, h2, fun j m => ?_⟩
    by_cases z : j = i
    · simp only [if_pos z] at m
      cases m
    · simp only [if_neg z] at m
      exact h3 j m
/-- a slot is forgotten -/
theorem Okk.drop (ok : Okk C F H σ δ) (hi : i < δ.length) : Okk C F H σ (δ.set i .no) := by
  obtain ⟨A, ok⟩ := ok
  refine ⟨fun j => if j = i then [] else A j, ⟨ok.go, ok.pot, by rw [List.length_set, ok.len], fun j s e => ?_, fun j k a ma mb => ?_, fun j a m => ?_, fun a o e => ?_⟩⟩
  · by_cases z : j = i
    · rw [z, List.getElem?_set_self hi] at e
      cases e
      show SlOk C F H _ .no (if j = i then [] else A j)
      rw [if_pos z]
      rfl
    · rw [List.getElem?_set_ne (fun w => z w.symm)] at e
      show SlOk C F H _ s (if j = i then [] else A j)
      rw [if_neg z]
      exact ok.at_ j s e
  · by_cases z : j = i
    · simp only [if_pos z] at ma
      cases ma
    · by_cases y : k = i
      · simp only [if_pos y] at mb
        cases mb
      · simp only [if_neg z] at ma
        simp only [if_neg y] at mb
        exact ok.dis j k a ma mb
  · by_cases z : j = i
    · simp only [if_pos z] at m
      cases m
    · simp only [if_neg z] at m
      rw [List.length_set]
      exact ok.off j a m
  · obtain ⟨h1, h2, h3⟩ := ok.prt a o e
    refine ⟨h1, h2, fun j m => ?_⟩
    by_cases z : j = i
    · simp only [if_pos z] at m
      cases m
    · simp only [if_neg z] at m
      exact h3 j m
/-- a slot gets what was just made: it stood ahead of all -/
theorem Okk.store (ok : Okk C F H (o :: σ) (s :: δ)) (hi : i < δ.length) : Okk C F H (σ.set i o) (δ.set i s) := by
  obtain ⟨A, ok⟩ := ok
  have l : σ.length = δ.length := Nat.succ.inj ok.len
  refine ⟨fun j => if j = i then A 0 else A (j + 1), ⟨ok.go, ok.pot, by rw [List.length_set, List.length_set, l], fun j t e => ?_, fun j k a ma mb => ?_, fun j a m => ?_, fun a o e => ?_⟩⟩
  · rw [join_set (by rw [l]; exact hi)]
    by_cases z : j = i
    · rw [z, List.getElem?_set_self hi] at e
      cases e
      rw [if_pos z]
      show SlOk C F H o s (if j = i then A 0 else A (j + 1))
      rw [if_pos z]
      exact ok.at_ 0 s rfl
    · rw [List.getElem?_set_ne (fun w => z w.symm)] at e
      rw [if_neg z]
      show SlOk C F H _ t (if j = i then A 0 else A (j + 1))
      rw [if_neg z]
      exact ok.at_ (j + 1) t e
  · by_cases z : j = i
    · simp only [if_pos z] at ma
      by_cases y : k = i
      · rw [z, y]
      · simp only [if_neg y] at mb
        exact absurd (ok.dis 0 (k + 1) a ma mb) (by omega)
    · simp only [if_neg z] at ma
      by_cases y : k = i
      · simp only [if_pos y] at mb
        exact absurd (ok.dis (j + 1) 0 a ma mb) (by omega)
      · simp only [if_neg y] at mb
        have := ok.dis (j + 1) (k + 1) a ma mb
        omega
  · by_cases z : j = i
    · simp only [if_pos z] at m
      rw [List.length_set, z]
      exact ⟨(ok.off 0 a m).1, hi⟩
    · simp only [if_neg z] at m
      rw [List.length_set]
      obtain ⟨a1, a2⟩ := ok.off (j + 1) a m
      rw [List.length_cons] at a2
      exact ⟨a1, by omega⟩
  · obtain ⟨h1, h2, h3⟩ := ok.prt a o e
    refine ⟨h1, h2, fun j m => ?_⟩
    by_cases z : j = i
    · simp only [if_pos z] at m
      exact h3 0 m
    · simp only [if_neg z] at m
      exact h3 (j + 1) m
/-- what was just made is not looked at any more -/
theorem Okk.pop (ok : Okk C F H (o :: σ) (s :: δ)) : Okk C F H σ δ := by
  obtain ⟨A, ok⟩ := ok
  refine ⟨fun j => A (j + 1), ⟨ok.go, ok.pot, Nat.succ.inj ok.len, fun j t e => ok.at_ (j + 1) t e, fun j k a ma mb => Nat.succ.inj (ok.dis (j + 1) (k + 1) a ma mb), fun j a m => ?_, fun a o e => ⟨(ok.prt a o e).1, (ok.prt a o e).2.1, fun j m => (ok.prt a o e).2.2 (j + 1) m⟩⟩⟩
  obtain ⟨a1, a2⟩ := ok.off (j + 1) a m
  rw [List.length_cons] at a2
  exact ⟨a1, by omega⟩
/-- a thing of one's own is made: its places are new -/
theorem Ok'.push {α : Type} {R : Rp α} {a : α} {B : List Addr} (ok : Ok' C F' H' σ δ A) (r : R.rep C.K F' H' v a B) (hB : ∀ x ∈ B, F' x = none ∧ C.H x = none ∧ C.P x = none ∧ ∀ j, x ∉ A j) : Okk C F' H' (some v :: σ) (.ow R a :: δ) := by
  have hd : ∀ x ∈ B, ∀ j, x ∉ A j := fun x m => (hB x m).2.2.2
  refine ⟨fun j => match j with | 0 => B | j + 1 => A j, ⟨ok.go, ok.pot, by rw [List.length_cons, List.length_cons, ok.len], fun j t e => ?_, fun j k x ma mb => ?_, fun j x m => ?_, fun a o e => ?_⟩⟩
  · cases j with
    | zero =>
      cases e
      exact ⟨v, rfl, r, fun x m => (hB x m).2.1⟩
    | succ j => exact ok.at_ j t e
  · cases j with
    | zero =>
      cases k with
      | zero => rfl
      | succ k => exact absurd mb (hd x ma k)
    | succ j =>
      cases k with
      | zero => exact absurd ma (hd x mb j)
      | succ k => exact congrArg Nat.succ (ok.dis j k x ma mb)
  · cases j with
    | zero => exact ⟨(hB x m).1, Nat.succ_pos _⟩
    | succ j =>
      obtain ⟨a1, a2⟩ := ok.off j x m
      exact ⟨a1, by rw [List.length_cons]; omega⟩
  · obtain ⟨h1, h2, h3⟩ := ok.prt a o e
    refine ⟨h1, h2, fun j m => ?_⟩
    cases j with
    | zero =>
      have := (hB a m).2.2.1
      rw [e] at this
      cases this
    | succ j => exact h3 j m
theorem Ok'.new (ok : Ok' C F H σ δ A) {x : Addr} (h : H x = none) : C.H x = none ∧ C.P x = none ∧ ∀ j, x ∉ A j := by
  refine ⟨ok.go.free h, ?_, fun j m => ok.live j x m h⟩
  cases q : C.P x with
  | none => rfl
  | some o =>
    rw [(ok.prt x o q).1] at h
    cases h
theorem Okk.push {α : Type} {R : Rp α} {a : α} {B : List Addr} (ok : Okk C F H σ δ) (g : Go M0 F H F' H') (r : R.rep C.K F' H' v a B) (hB : ∀ x ∈ B, F' x = none ∧ H x = none) : Okk C F' H' (some v :: σ) (.ow R a :: δ) := by
  obtain ⟨A, k⟩ := ok
  exact (k.step g).push r fun x m => ⟨(hB x m).1, k.new (hB x m).2⟩
theorem Okk.pushP {α : Type} {R : Rp α} {a : α} {B : List Addr} (ok : Okk C F H σ δ) (h : δ[i]? = some (.pt p)) (g : Go (M1 p) F H F' H') (t : PotAt H' p) (r : R.rep C.K F' H' v a B) (hB : ∀ x ∈ B, F' x = none ∧ H x = none) : Okk C F' H' (some v :: σ) (.ow R a :: δ) := by
  obtain ⟨A, k⟩ := ok
  exact (k.drawn h g t).push r fun x m => ⟨(hB x m).1, k.new (hB x m).2⟩
theorem Okk.free (ok : Okk C F H σ δ) (h : H l = none) : C.H l = none := by
  obtain ⟨A, ok⟩ := ok
  exact ok.go.free h
/-- a new list of one's own -/
theorem Okk.newL {α : Type} [Fz α] {xs : List α} {vs : List V} (ok : Okk C F H σ δ) (h : H l = none) (r : Reps C.K F vs xs) : Okk C F (upd H l (.lst vs)) (some (.ref l) :: σ) (.ow (oL α) xs :: δ) := by
  refine ok.push (B := [l]) ((Go.refl ok.same).tmp h) ⟨l, vs, rfl, rfl, upd_same, r⟩ (fun x m => ?_)
  rw [List.mem_singleton.mp m]
  exact ⟨Same.free ok.same h, h⟩
/-- .. that stays -/
theorem Okk.newF {o : HO} (ok : Okk C F H σ δ) (h : H l = none) : Okk C (upd F l o) (upd H l o) σ δ := ok.step ((Go.refl ok.same).new h)
/-- a list of one's own stays from now on -/
theorem Okk.fix {α : Type} [Fz α] {xs : List α} (ok : Okk C F H σ δ) (h : δ[i]? = some (.ow (oL α) xs)) : ∃ F', Same F F' ∧ Okk C F' H σ (δ.set i (.fz xs)) := by
  obtain ⟨A, ok⟩ := ok
  obtain ⟨v, hv, ⟨l, vs, rfl, eA, hl, r⟩, hc⟩ := ok.at_ i _ h
  have hi : i < δ.length := (List.getElem?_eq_some_iff.mp h).1
  have ml : l ∈ A i := by
    rw [eA]
    exact List.mem_singleton.mpr rfl
  have fl := (ok.off i l ml).1
  have sF : Same F (upd F l (.lst vs)) := Same.new fl
  refine ⟨upd F l (.lst vs), sF, fun j => if j = i then [] else A j, ⟨ok.go.fin (hc l ml) fl hl, fun p e => ?_, by rw [List.length_set, ok.len], fun j s e => ?_, fun j k a ma mb => ?_, fun j a m => ?_, fun a o e => ?_⟩⟩
  · obtain ⟨t, f, m⟩ := ok.pot p e
    have np : p ≠ l := fun z => m.2 (z ▸ hc l ml)
    exact ⟨t, by rw [upd_ne np]; exact f, m⟩
  · by_cases z : j = i
    · rw [z, List.getElem?_set_self hi] at e
      cases e
      show SlOk C _ H _ (.fz xs) (if j = i then [] else A j)
      rw [if_pos z, z]
      exact ⟨.ref l, hv, rfl, l, vs, rfl, upd_same, Reps.mono sF r⟩
    · rw [List.getElem?_set_ne (fun w => z w.symm)] at e
      show SlOk C _ H _ s (if j = i then [] else A j)
      rw [if_neg z]
      exact (ok.at_ j s e).stay sF fun _ _ => rfl
  · by_cases z : j = i
    · simp only [if_pos z] at ma
      cases ma
    · by_cases y : k = i
      · simp only [if_pos y] at mb
        cases mb
      · simp only [if_neg z] at ma
        simp only [if_neg y] at mb
        exact ok.dis j k a ma mb
  · by_cases z : j = i
    · simp only [if_pos z] at m
      cases m
    · simp only [if_neg z] at m
      rw [List.length_set]
      have na : a ≠ l := fun w => z (ok.dis j i l (w ▸ m) ml)
      rw [upd_ne na]
      exact ok.off j a m
  · obtain ⟨h1, h2, h3⟩ := ok.prt a o e
    have na : a ≠ l := fun w => h3 i (w ▸ ml)
    refine ⟨h1, by rw [upd_ne na]; exact h2, fun j m => ?_⟩
    by_cases z : j = i
    · simp only [if_pos z] at m
      cases m
    · simp only [if_neg z] at m
      exact h3 j m
/-- a list of one's own is put aside, and comes back -/
theorem Okk.hide {α : Type} [Fz α] {xs : List α} (ok : Okk C F H (some (.ref l) :: σ) (.ow (oL α) xs :: δ)) : ∃ vs, Reps C.K F vs xs ∧ C.H l = none ∧ C.P l = none ∧ Okk { C with P := upd C.P l (.lst vs) } F H σ δ := by
  obtain ⟨A, k⟩ := ok
  obtain ⟨v, hv, ⟨l', vs, e', eA, hl, r⟩, hc⟩ := k.at_ 0 _ rfl
  cases (show some (V.ref l) = some v from hv)
  cases e'
  have ml : l ∈ A 0 := by
    rw [eA]
    exact List.mem_singleton.mpr rfl
  have pl : C.P l = none := by
    cases q : C.P l with
    | none => rfl
    | some o => exact absurd ml ((k.prt l o q).2.2 0)
  refine ⟨vs, r, hc l ml, pl, fun j => A (j + 1), ⟨k.go, k.pot, Nat.succ.inj k.len, fun j t e => k.at_ (j + 1) t e, fun j i a ma mb => Nat.succ.inj (k.dis (j + 1) (i + 1) a ma mb), fun j a m => ?_, fun a o e => ?_⟩⟩
  · obtain ⟨a1, a2⟩ := k.off (j + 1) a m
    rw [List.length_cons] at a2
    exact ⟨a1, by omega⟩
  · by_cases z : a = l
    · rw [z] at e ⊢
      cases (upd_same (H := C.P) (a := l) (o := .lst vs)).symm.trans e
      exact ⟨hl, (k.off 0 l ml).1, fun j m => absurd (k.dis (j + 1) 0 l m ml) (by omega)⟩
    · have e' : C.P a = some o := by
        rw [← upd_ne (H := C.P) (o := .lst vs) z]
        exact e
      obtain ⟨h1, h2, h3⟩ := k.prt a o e'
      exact ⟨h1, h2, fun j m => h3 (j + 1) m⟩
theorem Okk.show_ {α : Type} [Fz α] {xs : List α} {vs : List V} (ok : Okk { C with P := upd C.P l (.lst vs) } F H σ δ) (r : Reps C.K F vs xs) (hc : C.H l = none) (pl : C.P l = none) : Okk C F H (some (.ref l) :: σ) (.ow (oL α) xs :: δ) := by
  obtain ⟨A, k⟩ := ok
  obtain ⟨hl, fl, nl⟩ := k.prt l (.lst vs) upd_same
  refine ⟨fun j => match j with | 0 => [l] | j + 1 => A j, ⟨k.go, k.pot, congrArg Nat.succ k.len, fun j t e => ?_, fun j i x ma mb => ?_, fun j x m => ?_, fun a o e => ?_⟩⟩
  · cases j with
    | zero =>
      cases e
      refine ⟨.ref l, rfl, ⟨l, vs, rfl, rfl, hl, r⟩, fun x m => ?_⟩
      rw [List.mem_singleton.mp m]
      exact hc
    | succ j => exact k.at_ j t e
  · cases j with
    | zero =>
      cases i with
      | zero => rfl
      | succ i =>
        rw [List.mem_singleton.mp ma] at mb
        exact absurd mb (nl i)
    | succ j =>
      cases i with
      | zero =>
        rw [List.mem_singleton.mp mb] at ma
        exact absurd ma (nl j)
      | succ i => exact congrArg Nat.succ (k.dis j i x ma mb)
  · cases j with
    | zero =>
      rw [List.mem_singleton.mp m]
      exact ⟨fl, Nat.succ_pos _⟩
    | succ j =>
      obtain ⟨a1, a2⟩ := k.off j x m
      exact ⟨a1, by rw [List.length_cons]; omega⟩
  · have na : a ≠ l := fun w => by
      rw [w, pl] at e
      cases e
    obtain ⟨h1, h2, h3⟩ := k.prt a o ((upd_ne na).trans e)
    refine ⟨h1, h2, fun j m => ?_⟩
    cases j with
    | zero => exact na (List.mem_singleton.mp m)
    | succ j => exact h3 j m
/-- a list of one's own changes -/
theorem Okk.set {α β : Type} [Fz α] [Fz β] {xs : List α} {ys : List β} {vs : List V} (ok : Okk C F H σ δ) (h : δ[i]? = some (.ow (oL α) xs)) (hv : σ[i]? = some (some (.ref l))) (r : Reps C.K F vs ys) : Okk C F (upd H l (.lst vs)) σ (δ.set i (.ow (oL β) ys)) := by
  obtain ⟨A, k⟩ := ok
  have hi : i < δ.length := (List.getElem?_eq_some_iff.mp h).1
  obtain ⟨v, hv', ⟨l', vs', e', eA, hl, _⟩, hc⟩ := k.at_ i _ h
  rw [hv] at hv'
  cases (show some (V.ref l) = some v from hv')
  cases e'
  have ml : l ∈ A i := by
    rw [eA]
    exact List.mem_singleton.mpr rfl
  obtain ⟨fl, _⟩ := k.off i l ml
  refine ⟨A, ⟨k.go.loc (hc l ml) fl, fun p e => ?_, by rw [List.length_set, k.len], fun j t e => ?_, k.dis, fun j a m => by rw [List.length_set]; exact k.off j a m, fun a o e => ?_⟩⟩
  · obtain ⟨t, f, m⟩ := k.pot p e
    exact ⟨t.upd (fun z => m.2 (z ▸ hc l ml)), f, m⟩
  · by_cases z : j = i
    · rw [z, List.getElem?_set_self hi] at e
      cases e
      rw [z, hv]
      exact ⟨.ref l, rfl, ⟨l, vs, rfl, eA, upd_same, r⟩, hc⟩
    · rw [List.getElem?_set_ne (fun w => z w.symm)] at e
      refine (k.at_ j t e).stay (Same.refl _) fun x m => upd_ne fun w => z (k.dis j i l (w ▸ m) ml)
  · obtain ⟨h1, h2, h3⟩ := k.prt a o e
    have na : a ≠ l := fun w => h3 i (w ▸ ml)
    exact ⟨by rw [upd_ne na]; exact h1, h2, h3⟩
end
end Dc

namespace Dc
open PySem PySem.Spec PyProof.Rows L2
/-- a raised exception as it flies -/
def ExR (K : PySem.W.Frag) (F : Hp) (cls : Value) (d : Option Addr) (e : Exn) : Prop := cls = .ref (He.ga K e.cls) ∧
  ((e.fld = [] ∧ d = none) ∨ ∃ dd vs, d = some dd ∧ F dd = some (.xd vs) ∧ URepF K F vs e.fld)
section
variable (C : Ctx) (W : WX) (δ : List Sl)
abbrev EW (σ : L2.St) (F : Hp) : Exn → Prop := fun e => ∀ cls d F' H', Same F F' → ExR C.K F' cls d e → Okk C F' H' σ δ → W cls d σ H'
/-- an expression: its value stays -/
def JE {α : Type} [Fz α] (t : TE) (m : M α) : Prop := ∀ F H σ Q, Okk C F H σ δ → m.run (fun a => ∀ v F' H', Same F F' → Fz.rep C.K F' v a → Okk C F' H' σ δ → Q v H') (EW C W δ σ F) → t σ H Q
/-- .. its value may be read as long as nothing of the slots changes -/
def JR {α : Type} [Fz α] (t : TE) (m : M α) : Prop := ∀ F H σ Q, Okk C F H σ δ → m.run (fun a => ∀ v F' H', Same F F' → Okk C F' H' σ δ → (∀ F2 H2, Same F' F2 → Okk C F2 H2 σ δ → Fz.rd C.K F2 H2 v a) → Q v H') (EW C W δ σ F) → t σ H Q
/-- .. its value is a new list -/
def JN {α : Type} [Fz α] (t : TE) (m : M (List α)) : Prop := ∀ F H σ Q, Okk C F H σ δ → m.run (fun a => ∀ l vs F' H', Same F F' → Okk C F' H' σ δ → H' l = none → Reps C.K F' vs a → Q (.ref l) (upd H' l (.lst vs))) (EW C W δ σ F) → t σ H Q
/-- .. its value is one's own -/
def JO {α : Type} (R : Rp α) (t : TE) (m : M α) : Prop := ∀ F H σ Q, Okk C F H σ δ → m.run (fun a => ∀ v F' H', Same F F' → Okk C F' H' (some v :: σ) (.ow R a :: δ) → Q v H') (EW C W δ σ F) → t σ H Q
/-- a test -/
def JT (t : TT) (m : M Bool) : Prop := ∀ F H σ Q, Okk C F H σ δ → m.run (fun b => ∀ F' H', Same F F' → Okk C F' H' σ δ → Q b H') (EW C W δ σ F) → t σ H Q
/-- several expressions of one type -/
def JA {α : Type} [Fz α] (t : TA) (m : M (List α)) (n : Nat) : Prop := ∀ F H σ Q, Okk C F H σ δ → m.run (fun a => ∀ vs F' H', Same F F' → Reps C.K F' vs a → vs.length = n → Okk C F' H' σ δ → Q vs H') (EW C W δ σ F) → t σ H Q
/-- a part of a slice -/
def JP (t : L2.TO) (m : M (Option Int)) : Prop := ∀ F H σ Q, Okk C F H σ δ → m.run (fun b => ∀ F' H', Same F F' → Okk C F' H' σ δ → Q b H') (EW C W δ σ F) → t σ H Q
end
/-- a value behind two values, by an operation's reading -/
def Op2 {α β γ : Type} [Fz α] [Fz β] [Fz γ] (K : PySem.W.Frag) (r : R2) (g : α → β → M γ) : Prop := ∀ F H v w a b Q (E : Exn → Prop), Same F H → Fz.rd K F H v a → Fz.rd K F H w b → (g a b).run (fun c => ∀ u F' H', Go M0 F H F' H' → Fz.rep K F' u c → Q u H') E → r v w H Q
def Op1 {α γ : Type} [Fz α] [Fz γ] (K : PySem.W.Frag) (r : V → Hp → VK → Prop) (g : α → M γ) : Prop := ∀ F H v a Q (E : Exn → Prop), Same F H → Fz.rd K F H v a → (g a).run (fun c => ∀ u F' H', Go M0 F H F' H' → Fz.rep K F' u c → Q u H') E → r v H Q
def OpN {α β γ : Type} [Fz α] [Fz β] [Fz γ] (K : PySem.W.Frag) (r : R2) (g : α → β → M (List γ)) : Prop := ∀ F H v w a b Q (E : Exn → Prop), Same F H → Fz.rd K F H v a → Fz.rd K F H w b → (g a b).run (fun c => ∀ l vs, H l = none → Reps K F vs c → Q (.ref l) (upd H l (.lst vs))) E → r v w H Q
def Cb1 {α γ : Type} [Fz α] [Fz γ] (K : PySem.W.Frag) (r : List V → Hp → VK → Prop) (g : α → M γ) : Prop := ∀ F H v a Q (E : Exn → Prop), Same F H → Fz.rd K F H v a → (g a).run (fun c => ∀ u F' H', Go M0 F H F' H' → Fz.rep K F' u c → Q u H') E → r [v] H Q
def Cb2 {α β γ : Type} [Fz α] [Fz β] [Fz γ] (K : PySem.W.Frag) (r : List V → Hp → VK → Prop) (g : α → β → M γ) : Prop := ∀ F H v w a b Q (E : Exn → Prop), Same F H → Fz.rd K F H v a → Fz.rd K F H w b → (g a b).run (fun c => ∀ u F' H', Go M0 F H F' H' → Fz.rep K F' u c → Q u H') E → r [v, w] H Q
def CbN {α γ : Type} [Fz α] [Fz γ] (K : PySem.W.Frag) (r : List V → Hp → VK → Prop) (g : α → M (List γ)) : Prop := ∀ F H v a Q (E : Exn → Prop), Same F H → Fz.rd K F H v a → (g a).run (fun c => ∀ l vs, H l = none → Reps K F vs c → Q (.ref l) (upd H l (.lst vs))) E → r [v] H Q
section
variable {C : Ctx} {W : WX} {δ : List Sl} {α β γ ε : Type} [Fz α] [Fz β] [Fz γ] [Fz ε] {t ta tb tc : TE} {tt tu : TT} {m : M α} {ma : M α} {mb : M β} {mc : M γ} {i n : Nat} {σ : L2.St} {F F' : Hp}
theorem EW.mono (s : Same F F') {e : Exn} (h : EW C W δ σ F e) : EW C W δ σ F' e := fun cls d F2 H2 s2 x ok => h cls d F2 H2 (s.trans s2) x ok
/-! ### from one to the other -/
theorem JE.r (h : JE C W δ t m) : JR C W δ t m := fun F H σ Q ok r => h F H σ _ ok (m.mono (fun a q v F' H' s rp ok' => q v F' H' s ok' fun F2 H2 s2 ok2 => Fz.rd_of ok2.same (Fz.mono s2 rp)) (fun _ z => z) r)
theorem JN.e {t : TE} {m : M (List α)} (h : JN C W δ t m) : JE C W δ t m := fun F H σ Q ok r => h F H σ _ ok (m.mono (fun a q l vs F' H' s ok' hl rp => by
  have fl := Same.free ok'.same hl
  exact q (.ref l) (upd F' l (.lst vs)) _ (s.trans (Same.new fl)) ⟨l, vs, rfl, upd_same, Reps.mono (Same.new fl) rp⟩ (ok'.newF hl)) (fun _ z => z) r)
theorem JN.o {t : TE} {m : M (List α)} (h : JN C W δ t m) : JO C W δ (oL α) t m := fun F H σ Q ok r => h F H σ _ ok (m.mono (fun a q l vs F' H' s ok' hl rp => q (.ref l) F' _ s (ok'.newL hl rp)) (fun _ z => z) r)
theorem JO.e {t : TE} {m : M (List α)} (h : JO C W δ (oL α) t m) : JE C W δ t m := fun F H σ Q ok r => h F H σ _ ok (m.mono (fun a q v F' H' s ok' => by
  obtain ⟨F2, s2, ok2⟩ := ok'.fix (i := 0) rfl
  obtain ⟨A, k⟩ := id ok2
  obtain ⟨v', e, _, rp⟩ := k.at_ 0 _ rfl
  cases (show some v = some v' from e)
  exact q v F2 H' (s.trans s2) rp ok2.pop) (fun _ z => z) r)
theorem JE.o (h : JE C W δ t m) : JO C W δ (oZ α) t m := fun F H σ Q ok r => h F H σ _ ok (m.mono (fun a q v F' H' s rp ok' => q v F' H' s (ok'.push (B := []) (Go.refl ok'.same) ⟨rfl, rp⟩ (fun x z => nomatch z))) (fun _ z => z) r)
/-! ### plain ones -/
theorem e_var {a : α} (h : δ[i]? = some (.fz a) := by rfl) : JE C W δ (tVar i) (M.pure a) := fun F H σ Q ok r => by
  obtain ⟨A, k⟩ := id ok
  obtain ⟨v, e, _, rp⟩ := k.at_ i _ h
  cases hs : σ[i]? with
  | none =>
    rw [hs] at e
    cases e
  | some o =>
    rw [hs] at e
    cases (show o = some v from e)
    exact ⟨v, hs, r v F H (Same.refl _) rp ok⟩
theorem r_own {a : List α} (h : δ[i]? = some (.ow (oL α) a) := by rfl) : JR C W δ (tVar i) (M.pure a) := fun F H σ Q ok r => by
  obtain ⟨A, k⟩ := id ok
  obtain ⟨v, e, _⟩ := k.at_ i _ h
  cases hs : σ[i]? with
  | none =>
    rw [hs] at e
    cases e
  | some o =>
    rw [hs] at e
    cases (show o = some v from e)
    refine ⟨v, hs, r v F H (Same.refl _) ok fun F2 H2 s2 ok2 => ?_⟩
    obtain ⟨A2, k2⟩ := ok2
    obtain ⟨v2, e2, ⟨l, vs, e3, _, hl, rp⟩, _⟩ := k2.at_ i _ h
    rw [hs] at e2
    cases (show some v = some v2 from e2)
    exact ⟨l, vs, e3, hl, rp⟩
theorem e_int {z : Int} : JE C W δ (tC (.int z)) (M.pure z) := fun F H σ Q ok r => r _ F H (Same.refl _) rfl ok
theorem e_bl {z : Bool} : JE C W δ (tC (.bl z)) (M.pure z) := fun F H σ Q ok r => r _ F H (Same.refl _) rfl ok
theorem e_str {z : Str} : JE C W δ (tC (.str z)) (M.pure z) := fun F H σ Q ok r => r _ F H (Same.refl _) rfl ok
theorem e_unit : JE C W δ (tC .non) (M.pure ()) := fun F H σ Q ok r => r _ F H (Same.refl _) rfl ok
theorem e_none : JE C W δ (tC .non) (M.pure (none : Option α)) := fun F H σ Q ok r => r _ F H (Same.refl _) (show optRep _ _ _ none from rfl) ok
theorem e_some (h : JE C W δ t m) : JE C W δ t (m.bind fun a => M.pure (some a)) := fun F H σ Q ok r => h F H σ _ ok (m.mono (fun a q v F' H' s rp ok' => q v F' H' s rp ok') (fun _ z => z) r)
/-! ### operations -/
theorem e_op {r : R2} {g : α → β → M γ} (ho : Op2 C.K r g) (ha : JR C W δ ta ma) (hb : JR C W δ tb mb) : JE C W δ (tOp r ta tb) (ma.bind fun a => mb.bind fun b => g a b) := fun F H σ Q ok q =>
  ha F H σ _ ok (ma.mono (fun a q1 v F1 H1 s1 ok1 r1 => hb F1 H1 σ _ ok1 (mb.mono (fun b q2 w F2 H2 s2 ok2 r2 =>
    ho F2 H2 v w a b _ _ ok2.same (r1 F2 H2 s2 ok2) (r2 F2 H2 (Same.refl _) ok2) ((g a b).mono (fun c q3 u F3 H3 g3 rp => q3 u F3 H3 ((s1.trans s2).trans g3.ff) rp (ok2.step g3)) (fun _ z => z) q2)) (fun e z => EW.mono s1 z) q1)) (fun _ z => z) q)
theorem n_op {r : R2} {g : α → β → M (List γ)} (ho : OpN C.K r g) (ha : JR C W δ ta ma) (hb : JR C W δ tb mb) : JN C W δ (tOp r ta tb) (ma.bind fun a => mb.bind fun b => g a b) := fun F H σ Q ok q =>
  ha F H σ _ ok (ma.mono (fun a q1 v F1 H1 s1 ok1 r1 => hb F1 H1 σ _ ok1 (mb.mono (fun b q2 w F2 H2 s2 ok2 r2 =>
    ho F2 H2 v w a b _ _ ok2.same (r1 F2 H2 s2 ok2) (r2 F2 H2 (Same.refl _) ok2) ((g a b).mono (fun c q3 l vs hl rp => q3 l vs F2 H2 (s1.trans s2) ok2 hl rp) (fun _ z => z) q2)) (fun e z => EW.mono s1 z) q1)) (fun _ z => z) q)
theorem e_un {r : V → Hp → VK → Prop} {g : α → M γ} (ho : Op1 C.K r g) (ha : JR C W δ ta ma) : JE C W δ (tUn r ta) (ma.bind fun a => g a) := fun F H σ Q ok q =>
  ha F H σ _ ok (ma.mono (fun a q1 v F1 H1 s1 ok1 r1 => ho F1 H1 v a _ _ ok1.same (r1 F1 H1 (Same.refl _) ok1) ((g a).mono (fun c q3 u F3 H3 g3 rp => q3 u F3 H3 (s1.trans g3.ff) rp (ok1.step g3)) (fun _ z => z) q1)) (fun _ z => z) q)
theorem e_cb1 {r : List V → Hp → VK → Prop} {g : α → M γ} (ho : Cb1 C.K r g) (ha : JR C W δ ta ma) : JE C W δ (tCB r (tCons ta tNil)) (ma.bind fun a => g a) := fun F H σ Q ok q =>
  ha F H σ _ ok (ma.mono (fun a q1 v F1 H1 s1 ok1 r1 => ho F1 H1 v a _ _ ok1.same (r1 F1 H1 (Same.refl _) ok1) ((g a).mono (fun c q3 u F3 H3 g3 rp => q3 u F3 H3 (s1.trans g3.ff) rp (ok1.step g3)) (fun _ z => z) q1)) (fun _ z => z) q)
theorem n_cb1 {r : List V → Hp → VK → Prop} {g : α → M (List γ)} (ho : CbN C.K r g) (ha : JR C W δ ta ma) : JN C W δ (tCB r (tCons ta tNil)) (ma.bind fun a => g a) := fun F H σ Q ok q =>
  ha F H σ _ ok (ma.mono (fun a q1 v F1 H1 s1 ok1 r1 => ho F1 H1 v a _ _ ok1.same (r1 F1 H1 (Same.refl _) ok1) ((g a).mono (fun c q3 l vs hl rp => q3 l vs F1 H1 s1 ok1 hl rp) (fun _ z => z) q1)) (fun _ z => z) q)
theorem e_cb2 {r : List V → Hp → VK → Prop} {g : α → β → M γ} (ho : Cb2 C.K r g) (ha : JR C W δ ta ma) (hb : JR C W δ tb mb) : JE C W δ (tCB r (tCons ta (tCons tb tNil))) (ma.bind fun a => mb.bind fun b => g a b) := fun F H σ Q ok q =>
  ha F H σ _ ok (ma.mono (fun a q1 v F1 H1 s1 ok1 r1 => hb F1 H1 σ _ ok1 (mb.mono (fun b q2 w F2 H2 s2 ok2 r2 =>
    ho F2 H2 v w a b _ _ ok2.same (r1 F2 H2 s2 ok2) (r2 F2 H2 (Same.refl _) ok2) ((g a b).mono (fun c q3 u F3 H3 g3 rp => q3 u F3 H3 ((s1.trans s2).trans g3.ff) rp (ok2.step g3)) (fun _ z => z) q2)) (fun e z => EW.mono s1 z) q1)) (fun _ z => z) q)
/-! ### truths -/
theorem e_not {mb : M Bool} (h : JE C W δ ta mb) : JE C W δ (tNotV ta) (mb.bind fun b => M.pure (!b)) := fun F H σ Q ok q => h F H σ _ ok (mb.mono (fun b q1 v F1 H1 s1 rp ok1 => ⟨b, rp, q1 _ F1 H1 s1 rfl ok1⟩) (fun _ z => z) q)
theorem e_and {mb mc : M Bool} (h : JE C W δ ta mb) (k : JE C W δ tb mc) : JE C W δ (tAndV ta tb) (mb.bind fun b => if b then mc else M.pure false) := fun F H σ Q ok q => h F H σ _ ok (mb.mono (fun b q1 v F1 H1 s1 rp ok1 => ⟨b, rp, by
  cases b with
  | true => exact k F1 H1 σ _ ok1 (mc.mono (fun c q2 w F2 H2 s2 rp2 ok2 => q2 w F2 H2 (s1.trans s2) rp2 ok2) (fun e z => EW.mono s1 z) q1)
  | false => exact q1 _ F1 H1 s1 rfl ok1⟩) (fun _ z => z) q)
theorem e_or {mb mc : M Bool} (h : JE C W δ ta mb) (k : JE C W δ tb mc) : JE C W δ (tOrV ta tb) (mb.bind fun b => if b then M.pure true else mc) := fun F H σ Q ok q => h F H σ _ ok (mb.mono (fun b q1 v F1 H1 s1 rp ok1 => ⟨b, rp, by
  cases b with
  | false => exact k F1 H1 σ _ ok1 (mc.mono (fun c q2 w F2 H2 s2 rp2 ok2 => q2 w F2 H2 (s1.trans s2) rp2 ok2) (fun e z => EW.mono s1 z) q1)
  | true => exact q1 _ F1 H1 s1 rfl ok1⟩) (fun _ z => z) q)
theorem t_test {mb : M Bool} (h : JE C W δ ta mb) : JT C W δ (tTest ta) mb := fun F H σ Q ok q => h F H σ _ ok (mb.mono (fun b q1 v F1 H1 s1 rp ok1 => ⟨b, rp, q1 F1 H1 s1 ok1⟩) (fun _ z => z) q)
theorem t_b {mb : M Bool} (h : JE C W δ ta mb) : JT C W δ (tB ta) mb := fun F H σ Q ok q => h F H σ _ ok (mb.mono (fun b q1 v F1 H1 s1 rp ok1 => ⟨b, rp, q1 F1 H1 s1 ok1⟩) (fun _ z => z) q)
theorem t_not {mb : M Bool} (h : JT C W δ tt mb) : JT C W δ (tNot tt) (mb.bind fun b => M.pure (!b)) := fun F H σ Q ok q => h F H σ _ ok (mb.mono (fun b q1 F1 H1 s1 ok1 => q1 F1 H1 s1 ok1) (fun _ z => z) q)
theorem t_and {mb mc : M Bool} (h : JT C W δ tt mb) (k : JT C W δ tu mc) : JT C W δ (tAnd tt tu) (mb.bind fun b => if b then mc else M.pure false) := fun F H σ Q ok q => h F H σ _ ok (mb.mono (fun b q1 F1 H1 s1 ok1 => by
  cases b with
  | true => exact k F1 H1 σ _ ok1 (mc.mono (fun c q2 F2 H2 s2 ok2 => q2 F2 H2 (s1.trans s2) ok2) (fun e z => EW.mono s1 z) q1)
  | false => exact q1 F1 H1 s1 ok1) (fun _ z => z) q)
theorem t_or {mb mc : M Bool} (h : JT C W δ tt mb) (k : JT C W δ tu mc) : JT C W δ (tOr tt tu) (mb.bind fun b => if b then M.pure true else mc) := fun F H σ Q ok q => h F H σ _ ok (mb.mono (fun b q1 F1 H1 s1 ok1 => by
  cases b with
  | false => exact k F1 H1 σ _ ok1 (mc.mono (fun c q2 F2 H2 s2 ok2 => q2 F2 H2 (s1.trans s2) ok2) (fun e z => EW.mono s1 z) q1)
  | true => exact q1 F1 H1 s1 ok1) (fun _ z => z) q)
theorem e_if {mb : M Bool} {m1 m2 : M α} (h : JT C W δ tt mb) (k : JE C W δ ta m1) (l : JE C W δ tb m2) : JE C W δ (tIf tt ta tb) (mb.bind fun b => if b then m1 else m2) := fun F H σ Q ok q => h F H σ _ ok (mb.mono (fun b q1 F1 H1 s1 ok1 => by
  cases b with
  | true => exact k F1 H1 σ _ ok1 (m1.mono (fun c q2 w F2 H2 s2 rp2 ok2 => q2 w F2 H2 (s1.trans s2) rp2 ok2) (fun e z => EW.mono s1 z) q1)
  | false => exact l F1 H1 σ _ ok1 (m2.mono (fun c q2 w F2 H2 s2 rp2 ok2 => q2 w F2 H2 (s1.trans s2) rp2 ok2) (fun e z => EW.mono s1 z) q1)) (fun _ z => z) q)
theorem o_if {ω : Type} {R : Rp ω} {mb : M Bool} {m1 m2 : M ω} (h : JT C W δ tt mb) (k : JO C W δ R ta m1) (l : JO C W δ R tb m2) : JO C W δ R (tIf tt ta tb) (mb.bind fun b => if b then m1 else m2) := fun F H σ Q ok q => h F H σ _ ok (mb.mono (fun b q1 F1 H1 s1 ok1 => by
  cases b with
  | true => exact k F1 H1 σ _ ok1 (m1.mono (fun c q2 w F2 H2 s2 ok2 => q2 w F2 H2 (s1.trans s2) ok2) (fun e z => EW.mono s1 z) q1)
  | false => exact l F1 H1 σ _ ok1 (m2.mono (fun c q2 w F2 H2 s2 ok2 => q2 w F2 H2 (s1.trans s2) ok2) (fun e z => EW.mono s1 z) q1)) (fun _ z => z) q)
theorem e_chain {r r' : R2} {g : α → β → M Bool} {g' : β → γ → M Bool} (ho : Op2 C.K r g) (ho' : Op2 C.K r' g') (ha : JR C W δ ta ma) (hb : JR C W δ tb mb) (hc : JR C W δ tc mc) :
    JE C W δ (tChain r r' ta tb tc) (ma.bind fun a => mb.bind fun b => (g a b).bind fun k => if k then mc.bind fun c => g' b c else M.pure false) := fun F H σ Q ok q =>
  ha F H σ _ ok (ma.mono (fun a q1 v F1 H1 s1 ok1 r1 => hb F1 H1 σ _ ok1 (mb.mono (fun b q2 w F2 H2 s2 ok2 r2 =>
    ho F2 H2 v w a b _ _ ok2.same (r1 F2 H2 s2 ok2) (r2 F2 H2 (Same.refl _) ok2) ((g a b).mono (fun k q3 u F3 H3 g3 rp => ⟨k, rp, by
      have ok3 := ok2.step g3
      have s3 := (s1.trans s2).trans g3.ff
      cases k with
      | false => exact q3 _ F3 H3 s3 rfl ok3
      | true => exact hc F3 H3 σ _ ok3 (mc.mono (fun c q4 x F4 H4 s4 ok4 r4 => ho' F4 H4 w x b c _ _ ok4.same (r2 F4 H4 (g3.ff.trans s4) ok4) (r4 F4 H4 (Same.refl _) ok4) ((g' b c).mono (fun z q5 y F5 H5 g5 rp5 => q5 y F5 H5 ((s3.trans s4).trans g5.ff) rp5 (ok4.step g5)) (fun _ z => z) q4)) (fun e z => EW.mono s3 z) q3)⟩) (fun _ z => z) q2)) (fun e z => EW.mono s1 z) q1)) (fun _ z => z) q)
/-! ### displays -/
theorem a_nil : JA C W δ tNil (M.pure ([] : List α)) 0 := fun F H σ Q ok q => q [] F H (Same.refl _) .nil rfl ok
theorem a_cons {tr : TA} {mr : M (List α)} (h : JE C W δ ta ma) (k : JA C W δ tr mr n) : JA C W δ (tCons ta tr) (ma.bind fun a => mr.bind fun r => M.pure (a :: r)) (n + 1) := fun F H σ Q ok q =>
  h F H σ _ ok (ma.mono (fun a q1 v F1 H1 s1 rp ok1 => k F1 H1 σ _ ok1 (mr.mono (fun r q2 vs F2 H2 s2 rp2 l2 ok2 => q2 (v :: vs) F2 H2 (s1.trans s2) (.cons (Fz.mono s2 rp) rp2) (by rw [List.length_cons, l2]) ok2) (fun e z => EW.mono s1 z) q1)) (fun _ z => z) q)
theorem n_lst {tr : TA} {mr : M (List α)} (h : JA C W δ tr mr n) (hn : n ≤ 1000 := by decide) : JN C W δ (tLst tr) mr := fun F H σ Q ok q => h F H σ _ ok (mr.mono (fun r q1 vs F1 H1 s1 rp l1 ok1 =>
  ⟨by rw [l1, sizeLine_eq]; omega, fun p hp => q1 p vs F1 H1 s1 ok1 hp rp⟩) (fun _ z => z) q)
theorem e_tof {tr : TA} {mr : M (List α)} (h : JA C W δ tr mr n) (hn : n ≤ 1000 := by decide) : JE C W δ (tTup tr) (mr.bind fun r => M.pure (Tof.mk r)) := fun F H σ Q ok q => h F H σ _ ok (mr.mono (fun r q1 vs F1 H1 s1 rp l1 ok1 =>
  ⟨by rw [l1, sizeLine_eq]; omega, fun p hp => by
    have fp := Same.free ok1.same hp
    exact q1 _ _ _ (s1.trans (Same.new fp)) ⟨p, vs, rfl, upd_same, Reps.mono (Same.new fp) rp⟩ (ok1.newF hp)⟩) (fun _ z => z) q)
theorem tup_ok {P : VK} {vs : List V} {H1 F1 F : Hp} (ok1 : Okk C F1 H1 σ δ) (hl : vs.length ≤ 1000) (k : ∀ p F' H', F' p = some (.tup vs) → Same F1 F' → Okk C F' H' σ δ → P (.ref p) H') : vs.length ≤ sizeLine ∧ ∀ p, H1 p = none → P (.ref p) (upd H1 p (.tup vs)) :=
  ⟨by rw [sizeLine_eq]; omega, fun p hp => k p _ _ upd_same (Same.new (Same.free ok1.same hp)) (ok1.newF hp)⟩
theorem e_t1 (ha : JE C W δ ta ma) : JE C W δ (tTup (tCons ta tNil)) (ma.bind fun a => M.pure (T1.mk a)) := fun F H σ Q ok q =>
  ha F H σ _ ok (ma.mono (fun a q1 v F1 H1 s1 r1 ok1 => tup_ok (F := F) ok1 (by show 1 ≤ 1000; decide) fun p F' H' e s ok' => q1 _ F' H' (s1.trans s) ⟨p, v, rfl, e, Fz.mono s r1⟩ ok') (fun _ z => z) q)
theorem e_t2 (ha : JE C W δ ta ma) (hb : JE C W δ tb mb) : JE C W δ (tTup (tCons ta (tCons tb tNil))) (ma.bind fun a => mb.bind fun b => M.pure (a, b)) := fun F H σ Q ok q =>
  ha F H σ _ ok (ma.mono (fun a q1 v F1 H1 s1 r1 ok1 => hb F1 H1 σ _ ok1 (mb.mono (fun b q2 w F2 H2 s2 r2 ok2 => tup_ok (F := F) ok2 (by show 2 ≤ 1000; decide) fun p F' H' e s ok' => q2 _ F' H' ((s1.trans s2).trans s) ⟨p, v, w, rfl, e, Fz.mono (s2.trans s) r1, Fz.mono s r2⟩ ok') (fun e z => EW.mono s1 z) q1)) (fun _ z => z) q)
theorem e_t3 (ha : JE C W δ ta ma) (hb : JE C W δ tb mb) (hc : JE C W δ tc mc) : JE C W δ (tTup (tCons ta (tCons tb (tCons tc tNil)))) (ma.bind fun a => mb.bind fun b => mc.bind fun c => M.pure (T3.mk a b c)) := fun F H σ Q ok q =>
  ha F H σ _ ok (ma.mono (fun a q1 v F1 H1 s1 r1 ok1 => hb F1 H1 σ _ ok1 (mb.mono (fun b q2 w F2 H2 s2 r2 ok2 => hc F2 H2 σ _ ok2 (mc.mono (fun c q3 x F3 H3 s3 r3 ok3 => tup_ok (F := F) ok3 (by show 3 ≤ 1000; decide) fun p F' H' e s ok' =>
    q3 _ F' H' (((s1.trans s2).trans s3).trans s) ⟨p, v, w, x, rfl, e, Fz.mono ((s2.trans s3).trans s) r1, Fz.mono (s3.trans s) r2, Fz.mono s r3⟩ ok') (fun e z => EW.mono (s1.trans s2) z) q2)) (fun e z => EW.mono s1 z) q1)) (fun _ z => z) q)
theorem e_t4 {td : TE} {md : M ε} (ha : JE C W δ ta ma) (hb : JE C W δ tb mb) (hc : JE C W δ tc mc) (hd : JE C W δ td md) : JE C W δ (tTup (tCons ta (tCons tb (tCons tc (tCons td tNil))))) (ma.bind fun a => mb.bind fun b => mc.bind fun c => md.bind fun d => M.pure (T4.mk a b c d)) := fun F H σ Q ok q =>
  ha F H σ _ ok (ma.mono (fun a q1 v F1 H1 s1 r1 ok1 => hb F1 H1 σ _ ok1 (mb.mono (fun b q2 w F2 H2 s2 r2 ok2 => hc F2 H2 σ _ ok2 (mc.mono (fun c q3 x F3 H3 s3 r3 ok3 => hd F3 H3 σ _ ok3 (md.mono (fun d q4 y F4 H4 s4 r4 ok4 => tup_ok (F := F) ok4 (by show 4 ≤ 1000; decide) fun p F' H' e s ok' =>
    q4 _ F' H' ((((s1.trans s2).trans s3).trans s4).trans s) ⟨p, v, w, x, y, rfl, e, Fz.mono (((s2.trans s3).trans s4).trans s) r1, Fz.mono ((s3.trans s4).trans s) r2, Fz.mono (s4.trans s) r3, Fz.mono s r4⟩ ok') (fun e z => EW.mono ((s1.trans s2).trans s3) z) q3)) (fun e z => EW.mono (s1.trans s2) z) q2)) (fun e z => EW.mono s1 z) q1)) (fun _ z => z) q)
theorem door_of {K : PySem.W.Frag} {v : V} {x : T4 Str Str Int Int} (h : Fz.rep K F v x) : Fz.rep K F v (Door.mk x.a x.b x.c x.d) := by
  obtain ⟨l, v1, v2, v3, v4, e, hl, r1, r2, r3, r4⟩ := h
  cases r1
  cases r2
  cases r3
  cases r4
  exact ⟨l, e, hl⟩
theorem e_door {td : TE} {ma mb : M Str} {mc md : M Int} (ha : JE C W δ ta ma) (hb : JE C W δ tb mb) (hc : JE C W δ tc mc) (hd : JE C W δ td md) : JE C W δ (tTup (tCons ta (tCons tb (tCons tc (tCons td tNil))))) (ma.bind fun a => mb.bind fun b => mc.bind fun c => md.bind fun d => M.pure (Door.mk a b c d)) := fun F H σ Q ok q =>
  e_t4 ha hb hc hd F H σ Q ok (M.mono _ (fun x q1 => q1) (fun _ z => z) (show (ma.bind fun a => mb.bind fun b => mc.bind fun c => md.bind fun d => M.pure (T4.mk a b c d)).run _ _ from
    ma.mono (fun a q1 => mb.mono (fun b q2 => mc.mono (fun c q3 => md.mono (fun d q4 v F' H' s r ok' => q4 v F' H' s (door_of r) ok') (fun _ z => z) q3) (fun _ z => z) q2) (fun _ z => z) q1) (fun _ z => z) q))
/-! ### slices -/
theorem p_none : JP C W δ tNoPart (M.pure none) := fun F H σ Q ok q => q F H (Same.refl _) ok
theorem p_some {mi : M Int} (h : JE C W δ t mi) : JP C W δ (tPart t) (mi.bind fun i => M.pure (some i)) := fun F H σ Q ok q => h F H σ _ ok (mi.mono (fun a q1 v F1 H1 s1 r1 ok1 => ⟨a, r1, q1 F1 H1 s1 ok1⟩) (fun _ z => z) q)
def cutL {α : Type} (xs : List α) (lo hi : Option Int) : List α := (xs.drop (HT.sIx xs.length 0 lo)).take (HT.sIx xs.length xs.length hi - HT.sIx xs.length 0 lo)
theorem Reps.length {K : PySem.W.Frag} {vs : List V} {xs : List α} (h : Reps K F vs xs) : vs.length = xs.length := Paired.length h
theorem paired_drop {A B : Type} {R : A → B → Prop} : ∀ (n : Nat) {l : List A} {m : List B}, Paired R l m → Paired R (l.drop n) (m.drop n)
  | 0, _, _, h => h
  | n + 1, _, _, .nil => .nil
  | n + 1, _, _, .cons _ t => paired_drop n t
theorem paired_take {A B : Type} {R : A → B → Prop} : ∀ (n : Nat) {l : List A} {m : List B}, Paired R l m → Paired R (l.take n) (m.take n)
  | 0, _, _, h => .nil
  | n + 1, _, _, .nil => .nil
  | n + 1, _, _, .cons r t => .cons r (paired_take n t)
theorem pair_app {A B : Type} {R : A → B → Prop} : ∀ {l l' : List A} {m m' : List B}, Paired R l m → Paired R l' m' → Paired R (l ++ l') (m ++ m')
  | _, _, _, _, .nil, h => h
  | _, _, _, _, .cons r t, h => .cons r (pair_app t h)
theorem n_sl {tl th : L2.TO} {ms : M (List α)} {ml mh : M (Option Int)} (ha : JR C W δ t ms) (hl : JP C W δ tl ml) (hh : JP C W δ th mh) : JN C W δ (tSl (rSlL C.K) t tl th) (ms.bind fun xs => ml.bind fun lo => mh.bind fun hi => M.pure (cutL xs lo hi)) := fun F H σ Q ok q =>
  ha F H σ _ ok (ms.mono (fun a q1 v F1 H1 s1 ok1 r1 => hl F1 H1 σ _ ok1 (ml.mono (fun lo q2 F2 H2 s2 ok2 => hh F2 H2 σ _ ok2 (mh.mono (fun hi q3 F3 H3 s3 ok3 => by
    obtain ⟨l, vs, rfl, e, rp⟩ := r1 F3 H3 (s2.trans s3) ok3
    refine ⟨l, vs, rfl, SqL.of e, fun p hp => q3 p _ F3 H3 ((s1.trans s2).trans s3) ok3 hp ?_⟩
    unfold cutV cutL
    rw [rp.length]
    exact paired_take _ (paired_drop _ rp)) (fun e z => EW.mono (s1.trans s2) z) q2)) (fun e z => EW.mono s1 z) q1)) (fun _ z => z) q)
theorem e_slS {tl th : L2.TO} {ms : M Str} {ml mh : M (Option Int)} (ha : JE C W δ t ms) (hl : JP C W δ tl ml) (hh : JP C W δ th mh) : JE C W δ (tSl rSlS t tl th) (ms.bind fun z => ml.bind fun lo => mh.bind fun hi => M.need (z.length ≤ sizeLine) (M.pure (cutS z lo hi))) := fun F H σ Q ok q =>
  ha F H σ _ ok (ms.mono (fun a q1 v F1 H1 s1 r1 ok1 => hl F1 H1 σ _ ok1 (ml.mono (fun lo q2 F2 H2 s2 ok2 => hh F2 H2 σ _ ok2 (mh.mono (fun hi q3 F3 H3 s3 ok3 =>
    ⟨a, r1, q3.1, q3.2 _ F3 H3 ((s1.trans s2).trans s3) rfl ok3⟩) (fun e z => EW.mono (s1.trans s2) z) q2)) (fun e z => EW.mono s1 z) q1)) (fun _ z => z) q)
end
end Dc

namespace Dc
open PySem PySem.Spec PyProof.Rows L2
/-! ## operations -/
section
variable {K : PySem.W.Frag} {α β γ : Type} [Fz α] [Fz β] [Fz γ]
theorem o_i0 {g : Int → Int → V} {f : Int → Int → γ} (h : ∀ i j K F, Fz.rep K F (g i j) (f i j)) : Op2 K (rI0 g) fun i j : Int => M.pure (f i j) := fun F H v w a b Q E s ra rb q => ⟨a, b, ra, rb, q _ F H (Go.refl s) (h a b K F)⟩
theorem o_i {P : Int → Int → Prop} {g : Int → Int → V} {f : Int → Int → γ} (h : ∀ i j K F, Fz.rep K F (g i j) (f i j)) : Op2 K (rI P g) fun i j : Int => M.need (P i j) (M.pure (f i j)) := fun F H v w a b Q E s ra rb q => ⟨a, b, ra, rb, q.1, q.2 _ F H (Go.refl s) (h a b K F)⟩
theorem o_neg : Op1 K (rU fun i => .int (-i)) fun i : Int => M.pure (-i) := fun F H v a Q E s ra q => ⟨a, ra, q _ F H (Go.refl s) rfl⟩
/-- plain values that may be compared -/
class Sc (α : Type) [Fz α] [DecidableEq α] : Prop where
  sc : ∀ {K F H v w} {a b : α}, Fz.rd K F H v a → Fz.rd K F H w b → scal v w = true ∧ (v = w ↔ a = b) ∧ flatV v = true ∧ (eqV v w = decide (a = b))
instance : Sc Int := ⟨fun {K F H v w a b} ra rb => by
  cases ra
  cases rb
  refine ⟨rfl, ⟨fun e => ?_, fun e => by rw [e]⟩, rfl, rfl⟩
  cases e
  rfl⟩
instance : Sc Str := ⟨fun {K F H v w a b} ra rb => by
  cases ra
  cases rb
  refine ⟨rfl, ⟨fun e => ?_, fun e => by rw [e]⟩, rfl, ?_⟩
  · cases e
    rfl
  · show (a == b) = decide (a = b)
    by_cases e : a = b
    · subst e
      simp
    · simp [e]⟩
instance : Sc Bool := ⟨fun {K F H v w a b} ra rb => by
  cases ra
  cases rb
  refine ⟨rfl, ⟨fun e => ?_, fun e => by rw [e]⟩, rfl, ?_⟩
  · cases e
    rfl
  · cases a <;> cases b <;> rfl⟩
theorem o_eq [DecidableEq α] [Sc α] : Op2 K rEq fun a b : α => M.pure (decide (a = b)) := fun F H v w a b Q E s ra rb q => by
  obtain ⟨h1, h2, _⟩ := Sc.sc ra rb
  refine ⟨h1, q _ F H (Go.refl s) ?_⟩
  show V.bl _ = V.bl _
  rw [decide_eq_decide.mpr h2]
theorem o_ne [DecidableEq α] [Sc α] : Op2 K rNe fun a b : α => M.pure (!decide (a = b)) := fun F H v w a b Q E s ra rb q => by
  obtain ⟨h1, h2, _⟩ := Sc.sc ra rb
  refine ⟨h1, q _ F H (Go.refl s) ?_⟩
  show V.bl _ = V.bl _
  rw [decide_eq_decide.mpr h2]
theorem o_isB : Op2 K rIsB fun a b : Bool => M.pure (decide (a = b)) := fun F H v w a b Q E s ra rb q => ⟨a, b, ra, rb, q _ F H (Go.refl s) rfl⟩
theorem o_notB : Op2 K rNotB fun a b : Bool => M.pure (!decide (a = b)) := fun F H v w a b Q E s ra rb q => ⟨a, b, ra, rb, q _ F H (Go.refl s) rfl⟩
theorem opt_non [Fn α] {F H : Hp} {v : V} {a : Option α} (h : Fz.rd K F H v a) : decide (v = .non) = a.isNone := by
  cases a with
  | none =>
    rw [show v = .non from h]
    rfl
  | some x => exact decide_eq_false (Fn.nn (a := x) h)
theorem o_isN [Fn α] : Op2 K rIsN fun (a : Option α) (_ : Unit) => M.pure a.isNone := fun F H v w a b Q E s ra rb q => ⟨rb, q _ F H (Go.refl s) (by show V.bl _ = V.bl _; rw [opt_non ra])⟩
theorem o_notN [Fn α] : Op2 K rNotN fun (a : Option α) (_ : Unit) => M.pure (!a.isNone) := fun F H v w a b Q E s ra rb q => ⟨rb, q _ F H (Go.refl s) (by show V.bl _ = V.bl _; rw [opt_non ra])⟩
/-! texts -/
theorem o_addS : Op2 K rAddStr fun a b : Str => M.need (a.length + b.length ≤ sizeLine) (M.pure (a ++ b)) := fun F H v w a b Q E s ra rb q => ⟨a, b, ra, rb, q.1, q.2 _ F H (Go.refl s) rfl⟩
theorem o_lenS : Cb1 K rLenStr fun a : Str => M.need (a.length ≤ sizeLine) (M.pure (a.length : Int)) := fun F H v a Q E s ra q => by
  cases ra
  exact ⟨a, rfl, q.1, q.2 _ F H (Go.refl s) rfl⟩
/-! lists -/
theorem o_lenL : Cb1 K (rLenSeq K) fun a : List α => M.pure (a.length : Int) := fun F H v a Q E s ra q => by
  obtain ⟨l, vs, rfl, e, r⟩ := ra
  refine ⟨l, vs, rfl, .inl (SqL.of e), ?_⟩
  rw [r.length]
  exact q _ F H (Go.refl s) rfl
theorem o_lenT : Cb1 K (rLenSeq K) fun a : Tof α => M.pure (a.l.length : Int) := fun F H v a Q E s ra q => by
  obtain ⟨l, vs, rfl, e, r⟩ := ra
  refine ⟨l, vs, rfl, .inr (SqT.of (s _ _ e)), ?_⟩
  rw [r.length]
  exact q _ F H (Go.refl s) rfl
theorem atI_rep {F : Hp} {vs : List V} {xs : List α} {i : Int} {x : α} (r : Reps K F vs xs) (h : atI xs i = some x) : ∃ v, atI vs i = some v ∧ Fz.rep K F v x := by
  unfold atI at h ⊢
  rw [r.length]
  cases hj : ixN xs.length i with
  | none =>
    rw [hj] at h
    cases h
  | some j =>
    rw [hj] at h
    exact paired_get r h
theorem o_ixL : Op2 K (rIxL K) fun (a : List α) (i : Int) => M.ofOpt (atI a i) := fun F H v w a b Q E s ra rb q => by
  obtain ⟨l, vs, rfl, e, r⟩ := ra
  dsimp only at q
  cases hx : atI a b with
  | none =>
    rw [hx] at q
    exact q.elim
  | some x =>
    rw [hx] at q
    obtain ⟨u, hu, ru⟩ := atI_rep r hx
    exact ⟨l, vs, b, u, rfl, rb, SqL.of e, hu, q u F H (Go.refl s) ru⟩
theorem o_ixT : Op2 K (rIxT K) fun (a : Tof α) (i : Int) => M.ofOpt (atI a.l i) := fun F H v w a b Q E s ra rb q => by
  obtain ⟨l, vs, rfl, e, r⟩ := ra
  dsimp only at q
  cases hx : atI a.l b with
  | none =>
    rw [hx] at q
    exact q.elim
  | some x =>
    rw [hx] at q
    obtain ⟨u, hu, ru⟩ := atI_rep r hx
    exact ⟨l, vs, b, u, rfl, rb, SqT.of (s _ _ e), hu, q u F H (Go.refl s) ru⟩
theorem o_ixS : Op2 K rIxS fun (a : Str) (i : Int) => M.need (a.length ≤ sizeLine) ((M.ofOpt (atI a.cps.toList i)).bind fun c => M.pure (one c)) := fun F H v w a b Q E s ra rb q => by
  obtain ⟨q0, q⟩ := q
  cases hx : atI a.cps.toList b with
  | none =>
    rw [hx] at q
    exact q.elim
  | some x =>
    rw [hx] at q
    exact ⟨a, b, x, ra, rb, q0, hx, q _ F H (Go.refl s) rfl⟩
theorem eqV_in [DecidableEq α] [Sc α] {F H : Hp} {v : V} {a : α} (ra : Fz.rd K F H v a) (hr : ∀ {w} {b : α}, Fz.rep K F w b → Fz.rd K F H w b) : ∀ {vs : List V} {xs : List α}, Reps K F vs xs → vs.all flatV = true ∧ inV v vs = decide (a ∈ xs)
  | _, _, .nil => ⟨rfl, rfl⟩
  | _, _, .cons (a := w) (b := b) r t => by
    obtain ⟨h1, h2⟩ := eqV_in ra hr t
    obtain ⟨_, _, f, e⟩ := Sc.sc (hr r) ra
    refine ⟨?_, ?_⟩
    · rw [List.all_cons, f, h1]
      rfl
    · unfold inV at h2 ⊢
      rw [List.any_cons, e, h2]
      by_cases c : b = a
      · subst c
        simp
      · have c2 : ¬ a = b := fun z => c z.symm
        simp [c, c2]
theorem o_in [DecidableEq α] [Sc α] : Op2 K (rIn K false) fun (a : α) (xs : List α) => M.pure (decide (a ∈ xs)) := fun F H v w a b Q E s ra rb q => by
  obtain ⟨l, vs, rfl, e, r⟩ := rb
  obtain ⟨h1, h2⟩ := eqV_in ra (fun z => Fz.rd_of s z) r
  refine ⟨l, vs, rfl, .inl (SqL.of e), (Sc.sc ra ra).2.2.1, h1, ?_⟩
  rw [if_neg (by decide), h2]
  exact q _ F H (Go.refl s) rfl
theorem o_notIn [DecidableEq α] [Sc α] : Op2 K (rIn K true) fun (a : α) (xs : List α) => M.pure (!decide (a ∈ xs)) := fun F H v w a b Q E s ra rb q => by
  obtain ⟨l, vs, rfl, e, r⟩ := rb
  obtain ⟨h1, h2⟩ := eqV_in ra (fun z => Fz.rd_of s z) r
  refine ⟨l, vs, rfl, .inl (SqL.of e), (Sc.sc ra ra).2.2.1, h1, ?_⟩
  rw [if_pos rfl, h2]
  exact q _ F H (Go.refl s) rfl
theorem o_inT [DecidableEq α] [Sc α] : Op2 K (rIn K false) fun (a : α) (xs : Tof α) => M.pure (decide (a ∈ xs.l)) := fun F H v w a b Q E s ra rb q => by
  obtain ⟨l, vs, rfl, e, r⟩ := rb
  obtain ⟨h1, h2⟩ := eqV_in ra (fun z => Fz.rd_of s z) r
  refine ⟨l, vs, rfl, .inr (SqT.of (s _ _ e)), (Sc.sc ra ra).2.2.1, h1, ?_⟩
  rw [if_neg (by decide), h2]
  exact q _ F H (Go.refl s) rfl
theorem o_notInT [DecidableEq α] [Sc α] : Op2 K (rIn K true) fun (a : α) (xs : Tof α) => M.pure (!decide (a ∈ xs.l)) := fun F H v w a b Q E s ra rb q => by
  obtain ⟨l, vs, rfl, e, r⟩ := rb
  obtain ⟨h1, h2⟩ := eqV_in ra (fun z => Fz.rd_of s z) r
  refine ⟨l, vs, rfl, .inr (SqT.of (s _ _ e)), (Sc.sc ra ra).2.2.1, h1, ?_⟩
  rw [if_pos rfl, h2]
  exact q _ F H (Go.refl s) rfl
theorem o_cat : OpN K rCat fun a b : List α => M.need (a.length + b.length ≤ sizeLine) (M.pure (a ++ b)) := fun F H v w a b Q E s ra rb q => by
  obtain ⟨l, vs, rfl, e, r⟩ := ra
  obtain ⟨l', vs', rfl, e', r'⟩ := rb
  exact ⟨l, l', vs, vs', rfl, rfl, e, e', by rw [r.length, r'.length]; exact q.1, fun p hp => q.2 p _ hp (pair_app r r')⟩
theorem o_rep : OpN K rRep fun (a : List α) (k : Int) => M.need (-(2 ^ 63) ≤ k ∧ k < 2 ^ 63 ∧ a.length * k.toNat ≤ sizeLine) (M.pure (List.replicate k.toNat a).flatten) := fun F H v w a b Q E s ra rb q => by
  obtain ⟨l, vs, rfl, e, r⟩ := ra
  have rr : ∀ n, Reps K F (List.replicate n vs).flatten (List.replicate n a).flatten := fun n => by
    induction n with
    | zero => exact .nil
    | succ n ih =>
      rw [List.replicate_succ, List.replicate_succ, List.flatten_cons, List.flatten_cons]
      exact pair_app r ih
  exact ⟨l, b, vs, rfl, rb, e, q.1.1, q.1.2.1, by rw [r.length]; exact q.1.2.2, fun p hp => q.2 p _ hp (rr _)⟩
theorem o_listOf : CbN K (rListOf K) fun a : List α => M.pure a := fun F H v a Q E s ra q => by
  obtain ⟨l, vs, rfl, e, r⟩ := ra
  exact ⟨l, vs, rfl, .inl (SqL.of e), fun p hp => q p vs hp r⟩
theorem o_listOfT : CbN K (rListOf K) fun a : Tof α => M.pure a.l := fun F H v a Q E s ra q => by
  obtain ⟨l, vs, rfl, e, r⟩ := ra
  exact ⟨l, vs, rfl, .inr (SqT.of (s _ _ e)), fun p hp => q p vs hp r⟩
theorem o_tupL : Cb1 K (rTupL K) fun a : List α => M.pure (Tof.mk a) := fun F H v a Q E s ra q => by
  obtain ⟨l, vs, rfl, e, r⟩ := ra
  exact ⟨l, vs, rfl, SqL.of e, fun p hp => q _ _ _ ((Go.refl s).new hp) ⟨p, vs, rfl, upd_same, Reps.mono (Same.new (Same.free s hp)) r⟩⟩
theorem bools {F : Hp} : ∀ {vs : List V} {xs : List Bool}, Reps K F vs xs → vs = xs.map V.bl
  | _, _, .nil => rfl
  | _, _, .cons r t => by
    rw [List.map_cons, ← bools t]
    cases r
    rfl
theorem ints_ {F : Hp} : ∀ {vs : List V} {xs : List Int}, Reps K F vs xs → vs = xs.map V.int
  | _, _, .nil => rfl
  | _, _, .cons r t => by
    rw [List.map_cons, ← ints_ t]
    cases r
    rfl
theorem strs_ {F : Hp} : ∀ {vs : List V} {xs : List Str}, Reps K F vs xs → vs = xs.map V.str
  | _, _, .nil => rfl
  | _, _, .cons r t => by
    rw [List.map_cons, ← strs_ t]
    cases r
    rfl
theorem reps_ints {F : Hp} : ∀ xs : List Int, Reps K F (xs.map V.int) xs
  | [] => .nil
  | x :: xs => .cons rfl (reps_ints xs)
theorem reps_strs {F : Hp} : ∀ xs : List Str, Reps K F (xs.map V.str) xs
  | [] => .nil
  | x :: xs => .cons rfl (reps_strs xs)
theorem o_all : Cb1 K (rAll K) fun a : List Bool => M.pure (a.all id) := fun F H v a Q E s ra q => by
  obtain ⟨l, vs, rfl, e, r⟩ := ra
  exact ⟨l, a, rfl, SqL.of (by rw [e, bools r]), q _ F H (Go.refl s) rfl⟩
theorem o_any : Cb1 K (rAny K) fun a : List Bool => M.pure (a.any id) := fun F H v a Q E s ra q => by
  obtain ⟨l, vs, rfl, e, r⟩ := ra
  exact ⟨l, a, rfl, SqL.of (by rw [e, bools r]), q _ F H (Go.refl s) rfl⟩
theorem o_sum : Cb1 K (rSum K) fun a : List Int => M.pure a.sum := fun F H v a Q E s ra q => by
  obtain ⟨l, vs, rfl, e, r⟩ := ra
  exact ⟨l, a, rfl, SqL.of (by rw [e, ints_ r]), q _ F H (Go.refl s) rfl⟩
theorem o_max : Cb1 K (rMax K) fun a : List Int => M.need (0 < a.length) (M.any fun m : Int => m ∈ a ∧ ∀ y ∈ a, y ≤ m) := fun F H v a Q E s ra q => by
  obtain ⟨l, vs, rfl, e, r⟩ := ra
  exact ⟨l, a, rfl, SqL.of (by rw [e, ints_ r]), q.1, fun m h1 h2 => q.2 m ⟨h1, h2⟩ _ F H (Go.refl s) rfl⟩
theorem o_min : Cb1 K (rMin K) fun a : List Int => M.need (0 < a.length) (M.any fun m : Int => m ∈ a ∧ ∀ y ∈ a, m ≤ y) := fun F H v a Q E s ra q => by
  obtain ⟨l, vs, rfl, e, r⟩ := ra
  exact ⟨l, a, rfl, SqL.of (by rw [e, ints_ r]), q.1, fun m h1 h2 => q.2 m ⟨h1, h2⟩ _ F H (Go.refl s) rfl⟩
theorem o_max2 : Cb2 K rMax2 fun a b : Int => M.pure (max a b) := fun F H v w a b Q E s ra rb q => by
  cases ra
  cases rb
  refine ⟨a, b, rfl, ?_⟩
  have e : (if b > a then b else a) = max a b := by omega
  rw [e]
  exact q _ F H (Go.refl s) rfl
theorem o_min2 : Cb2 K rMin2 fun a b : Int => M.pure (min a b) := fun F H v w a b Q E s ra rb q => by
  cases ra
  cases rb
  refine ⟨a, b, rfl, ?_⟩
  have e : (if b < a then b else a) = min a b := by omega
  rw [e]
  exact q _ F H (Go.refl s) rfl
theorem o_abs : Cb1 K rAbs fun a : Int => M.pure (a.natAbs : Int) := fun F H v a Q E s ra q => by
  cases ra
  refine ⟨a, rfl, ?_⟩
  have e : (if a < 0 then -a else a) = (a.natAbs : Int) := by omega
  rw [e]
  exact q _ F H (Go.refl s) rfl
theorem o_strI : Cb1 K rStrInt fun a : Int => M.need (a.natAbs.log2 < 1920) (M.pure (Str.ofString (toString a))) := fun F H v a Q E s ra q => by
  cases ra
  exact ⟨a, rfl, q.1, q.2 _ F H (Go.refl s) rfl⟩
theorem o_reprI : Cb1 K rReprInt fun a : Int => M.need (a.natAbs.log2 < 1920) (M.pure (Str.ofString (toString a))) := fun F H v a Q E s ra q => by
  cases ra
  exact ⟨a, rfl, q.1, q.2 _ F H (Go.refl s) rfl⟩
theorem o_strS : Cb1 K rStrStr fun a : Str => M.pure a := fun F H v a Q E s ra q => by
  cases ra
  exact ⟨a, rfl, q _ F H (Go.refl s) rfl⟩
theorem o_divmod : Cb2 K rDivmod fun a b : Int => M.need (CDiv a b) (M.pure (a / b, a % b)) := fun F H v w a b Q E s ra rb q => by
  cases ra
  cases rb
  exact ⟨a, b, rfl, q.1, fun p hp => q.2 _ _ _ ((Go.refl s).new hp) ⟨p, _, _, rfl, upd_same, rfl, rfl⟩⟩
theorem o_sorted : CbN K (rSorted K) fun a : List Int => M.need (a.length < 64) (M.any fun b : List Int => b.Perm a ∧ b.Pairwise (· ≤ ·)) := fun F H v a Q E s ra q => by
  obtain ⟨l, vs, rfl, e, r⟩ := ra
  exact ⟨l, a, rfl, SqL.of (by rw [e, ints_ r]), q.1, fun ns p h1 h2 hp => q.2 ns ⟨h1, h2⟩ p _ hp (reps_ints ns)⟩
/-! pairs: x[0], x[1] -/
theorem o_ix2 {k : Int} [Fz α] [Fz β] (hk : k = 0) : Op2 K (rIxT K) fun (a : α × β) (i : Int) => M.need (i = 0) (M.pure a.1) := fun F H v w a b Q E s ra rb q => by
  obtain ⟨l, v1, v2, rfl, e, r1, r2⟩ := ra
  exact ⟨l, _, b, v1, rfl, rb, SqT.of (s _ _ e), by rw [q.1]; rfl, q.2 _ F H (Go.refl s) r1⟩
theorem o_fst : Op2 K (rIxT K) fun (a : α × β) (i : Int) => M.need (i = 0) (M.pure a.1) := fun F H v w a b Q E s ra rb q => by
  obtain ⟨l, v1, v2, rfl, e, r1, r2⟩ := ra
  exact ⟨l, _, b, v1, rfl, rb, SqT.of (s _ _ e), by rw [q.1]; rfl, q.2 _ F H (Go.refl s) r1⟩
theorem o_snd : Op2 K (rIxT K) fun (a : α × β) (i : Int) => M.need (i = 1) (M.pure a.2) := fun F H v w a b Q E s ra rb q => by
  obtain ⟨l, v1, v2, rfl, e, r1, r2⟩ := ra
  exact ⟨l, _, b, v2, rfl, rb, SqT.of (s _ _ e), by rw [q.1]; rfl, q.2 _ F H (Go.refl s) r2⟩
theorem o_near : Op2 K (rIxT K) fun (a : Door) (i : Int) => M.need (i = 0) (M.pure a.near) := fun F H v w a b Q E s ra rb q => by
  obtain ⟨l, rfl, e⟩ := ra
  exact ⟨l, _, b, _, rfl, rb, SqT.of (s _ _ e), by rw [q.1]; rfl, q.2 _ F H (Go.refl s) rfl⟩
theorem o_far : Op2 K (rIxT K) fun (a : Door) (i : Int) => M.need (i = 1) (M.pure a.far) := fun F H v w a b Q E s ra rb q => by
  obtain ⟨l, rfl, e⟩ := ra
  exact ⟨l, _, b, _, rfl, rb, SqT.of (s _ _ e), by rw [q.1]; rfl, q.2 _ F H (Go.refl s) rfl⟩
theorem o_lo : Op2 K (rIxT K) fun (a : Door) (i : Int) => M.need (i = 2) (M.pure a.lo) := fun F H v w a b Q E s ra rb q => by
  obtain ⟨l, rfl, e⟩ := ra
  exact ⟨l, _, b, _, rfl, rb, SqT.of (s _ _ e), by rw [q.1]; rfl, q.2 _ F H (Go.refl s) rfl⟩
theorem o_hi : Op2 K (rIxT K) fun (a : Door) (i : Int) => M.need (i = 3) (M.pure a.hi) := fun F H v w a b Q E s ra rb q => by
  obtain ⟨l, rfl, e⟩ := ra
  exact ⟨l, _, b, _, rfl, rb, SqT.of (s _ _ e), by rw [q.1]; rfl, q.2 _ F H (Go.refl s) rfl⟩
end
end Dc

namespace Dc
open PySem PySem.Spec PyProof.Rows L2
/-! ## statements -/
/-- how a block ends -/
inductive Fl (S R : Type)
  | nx (s : S)
  | rt (r : R)
section
variable (C : Ctx) (W : WX) (δx : List Sl) {ρ : Type} (R : Rp ρ) (δ : List Sl)
def SQ {S : Type} (δ' : S → List Sl) (D : Ends) (F : Hp) : Fl S ρ → Prop
  | .nx s => ∀ σ' F' H', Same F F' → Okk C F' H' σ' (δ' s) → D.nx σ' H'
  | .rt r => ∀ v F' H', Same F F' → Okk C F' H' [some v] [.ow R r] → D.rt v H'
def XQ (F : Hp) : Exn → Prop := fun e => ∀ cls d σ' F' H', Same F F' → ExR C.K F' cls d e → Okk C F' H' σ' δx → W cls d σ' H'
/-- a block -/
def JS {S : Type} (t : TS) (δ' : S → List Sl) (m : M (Fl S ρ)) : Prop := ∀ F H σ D, Okk C F H σ δ → m.run (SQ C R δ' D F) (XQ C W δx F) → t D σ H
/-- .. that goes on -/
abbrev JB {S : Type} (t : TS) (δ' : S → List Sl) (m : M S) : Prop := JS C W δx R δ t δ' (m.bind fun s => M.pure (Fl.nx s))
/-- .. that returns -/
abbrev JV (t : TS) (m : M ρ) : Prop := JS C W δx R δ t (fun _ : Empty => δx) (m.bind fun r => M.pure (Fl.rt r))
/-- less is known -/
def Wk (δ δ' : List Sl) : Prop := δ'.length = δ.length ∧ ∀ (i : Nat) (s : Sl), δ'[i]? = some s → s = Sl.no ∨ δ[i]? = some s
/-- a target -/
def JG {α : Type} [Fz α] (g : TG) (is : List Nat) (δ' : α → List Sl) : Prop := ∀ F H σ v x Q, Okk C F H σ δ → Fz.rep C.K F v x → (∀ σ', Okk C F H σ' (δ' x) → σ'.length = σ.length → (∀ j, j ∉ is → σ'[j]? = σ[j]?) → Q σ' H) → g v σ H Q
/-- what is walked -/
structure Wlk {α : Type} [Fz α] (K : PySem.W.Frag) (J : It) (xs : List α) (F0 : Hp) : Prop where
  go : ∀ i F H, i < xs.length → Same F0 F → Same F H → J.go i H
  stop : ∀ F H, Same F0 F → Same F H → J.stop xs.length H
  yld : ∀ i F H v H', i < xs.length → Same F0 F → Same F H → J.yld i H v H' → ∃ F' x, Go M0 F H F' H' ∧ xs[i]? = some x ∧ Fz.rep K F' v x
def JI {α : Type} [Fz α] (wi : TI) (m : M (List α)) : Prop := ∀ F H σ Q, Okk C F H σ δ → m.run (fun xs => ∀ J F' H', Same F F' → Okk C F' H' σ δ → Wlk C.K J xs F' → Q J H') (EW C W δ σ F) → wi σ H Q
end
section
variable {C : Ctx} {W : WX} {δx : List Sl} {ρ : Type} {R : Rp ρ} {δ δ1 δ2 : List Sl} {S T U : Type} {α β γ ε : Type} [Fz α] [Fz β] [Fz γ] [Fz ε] {t t1 t2 t3 : TS} {te : TE} {tt : TT} {me : M α} {i n : Nat} {F F' H : Hp} {σ : L2.St} {D : Ends}
theorem wk_refl : Wk δ δ := ⟨rfl, fun _ _ h => .inr h⟩
theorem wk_nil : Wk [] [] := wk_refl
theorem wk_eq {s : Sl} (h : Wk δ δ1) : Wk (s :: δ) (s :: δ1) := ⟨by rw [List.length_cons, List.length_cons, h.1], fun i s' e => by
  cases i with
  | zero => exact .inr e
  | succ i => exact h.2 i s' e⟩
theorem wk_no {s : Sl} (h : Wk δ δ1) : Wk (s :: δ) (.no :: δ1) := ⟨by rw [List.length_cons, List.length_cons, h.1], fun i s' e => by
  cases i with
  | zero =>
    cases e
    exact .inl rfl
  | succ i => exact h.2 i s' e⟩
theorem Okk.wk (ok : Okk C F H σ δ) (w : Wk δ δ1) : Okk C F H σ δ1 := by
  obtain ⟨A, k⟩ := ok
  have key : ∀ i, ∃ B, (B = [] ∨ B = A i) ∧ (∀ s, δ1[i]? = some s → SlOk C F H (σ[i]?.join) s B) := by
    intro i
    cases h : δ1[i]? with
    | none => exact ⟨[], .inl rfl, fun s e => nomatch e⟩
    | some s =>
      rcases w.2 i s h with z | z
      · refine ⟨[], .inl rfl, fun s' e => ?_⟩
        cases e
        rw [z]
        rfl
      · refine ⟨A i, .inr rfl, fun s' e => ?_⟩
        cases e
        exact k.at_ i s z
  refine ⟨fun i => Classical.choose (key i), ⟨k.go, k.pot, by rw [w.1, k.len], fun i s e => (Classical.choose_spec (key i)).2 s e, fun i j a ma mb => ?_, fun i a m => ?_, fun a o e => ?_⟩⟩
  · rcases (Classical.choose_spec (key i)).1 with z | z
    · rw [z] at ma
      cases ma
    · rcases (Classical.choose_spec (key j)).1 with y | y
      · rw [y] at mb
        cases mb
      · rw [z] at ma
        rw [y] at mb
        exact k.dis i j a ma mb
  · rcases (Classical.choose_spec (key i)).1 with z | z
    · rw [z] at m
      cases m
    · rw [z] at m
      rw [w.1]
      exact k.off i a m
  · obtain ⟨h1, h2, h3⟩ := k.prt a o e
    refine ⟨h1, h2, fun i m => ?_⟩
    rcases (Classical.choose_spec (key i)).1 with z | z
    · rw [z] at m
      cases m
    · rw [z] at m
      exact h3 i m
theorem XQ.mono (s : Same F F') {e : Exn} (h : XQ C W δx F e) : XQ C W δx F' e := fun cls d σ' F2 H2 s2 x ok => h cls d σ' F2 H2 (s.trans s2) x ok
theorem XQ.ew (w : Wk δ δx) {e : Exn} (h : XQ C W δx F e) : EW C W δ σ F e := fun cls d F2 H2 s2 x ok => h cls d σ F2 H2 s2 x (ok.wk w)
theorem SQ.mono {δ' : S → List Sl} (s : Same F F') {f : Fl S ρ} (h : SQ C R δ' D F f) : SQ C R δ' D F' f := by
  cases f with
  | nx a => exact fun σ' F2 H2 s2 ok => h σ' F2 H2 (s.trans s2) ok
  | rt r => exact fun v F2 H2 s2 ok => h v F2 H2 (s.trans s2) ok
theorem s_end {δ' : S → List Sl} {m : M (Fl S ρ)} (h : JS C W δx R δ (tSeq t tNext) δ' m) : JS C W δx R δ t δ' m := h
theorem s_next {δ' : S → List Sl} {s : S} (w : Wk δ (δ' s)) : JS C W δx R δ tNext δ' (M.pure (Fl.nx s)) := fun F H σ D ok q => q σ F H (Same.refl _) (ok.wk w)
theorem s_never {δ' : S → List Sl} : JS C W δx R δ tNever δ' (M.bad : M (Fl S ρ)) := fun F H σ D ok q => q.elim
theorem b_never {δ' : S → List Sl} : JB C W δx R δ tNever δ' (M.bad : M S) := fun F H σ D ok q => q.elim
theorem v_never : JV C W δx R δ tNever (M.bad : M ρ) := fun F H σ D ok q => q.elim
/-- x = e -/
theorem s_asg {δ' : S → List Sl} {m : α → M (Fl S ρ)} (w : Wk δ δx) (h : JE C W δ te me) (k : ∀ a, JS C W δx R (δ.set i (.fz a)) t2 δ' (m a)) (hi : i < δ.length := by exact Nat.le_of_ble_eq_true rfl) : JS C W δx R δ (tSeq (tAsg te (gName i)) t2) δ' (me.bind m) := fun F H σ D ok q =>
  h F H σ _ ok (me.mono (fun a q1 v F1 H1 s1 rp ok1 => k a F1 H1 _ D (ok1.put rp hi) ((m a).mono (fun f z => SQ.mono s1 z) (fun e z => XQ.mono s1 z) q1)) (fun e z => XQ.ew w z) q)
/-- .. of one's own -/
theorem s_asgO {ω : Type} {O : Rp ω} {mo : M ω} {δ' : S → List Sl} {m : ω → M (Fl S ρ)} (w : Wk δ δx) (h : JO C W δ O te mo) (k : ∀ a, JS C W δx R (δ.set i (.ow O a)) t2 δ' (m a)) (hi : i < δ.length := by exact Nat.le_of_ble_eq_true rfl) : JS C W δx R δ (tSeq (tAsg te (gName i)) t2) δ' (mo.bind m) := fun F H σ D ok q =>
  h F H σ _ ok (mo.mono (fun a q1 v F1 H1 s1 ok1 => k a F1 H1 _ D (ok1.store hi) ((m a).mono (fun f z => SQ.mono s1 z) (fun e z => XQ.mono s1 z) q1)) (fun e z => XQ.ew w z) q)
/-- a, b = e -/
theorem s_unp {g : TG} {is : List Nat} {δg : α → List Sl} {δ' : S → List Sl} {m : α → M (Fl S ρ)} (w : Wk δ δx) (h : JE C W δ te me) (hg : JG C δ g is δg) (k : ∀ a, JS C W δx R (δg a) t2 δ' (m a)) : JS C W δx R δ (tSeq (tAsg te g) t2) δ' (me.bind m) := fun F H σ D ok q =>
  h F H σ _ ok (me.mono (fun a q1 v F1 H1 s1 rp ok1 => hg F1 H1 σ v a _ ok1 rp fun σ' ok' _ _ => k a F1 H1 σ' D ok' ((m a).mono (fun f z => SQ.mono s1 z) (fun e z => XQ.mono s1 z) q1)) (fun e z => XQ.ew w z) q)
/-- a, b = e, f -/
theorem s_par {ta tb : TE} {ma : M α} {mb : M β} {j : Nat} {δ' : S → List Sl} {m : α → β → M (Fl S ρ)} (w : Wk δ δx) (h : JE C W δ ta ma) (h2 : JE C W δ tb mb) (k : ∀ a b, JS C W δx R ((δ.set i (.fz a)).set j (.fz b)) t2 δ' (m a b)) (hi : i < δ.length := by exact Nat.le_of_ble_eq_true rfl) (hj : j < δ.length := by exact Nat.le_of_ble_eq_true rfl) :
    JS C W δx R δ (tSeq (tPar i j (tCons ta (tCons tb tNil))) t2) δ' (ma.bind fun a => mb.bind fun b => m a b) := fun F H σ D ok q =>
  h F H σ _ ok (ma.mono (fun a q1 v F1 H1 s1 rp ok1 => h2 F1 H1 σ _ ok1 (mb.mono (fun b q2 u F2 H2 s2 rp2 ok2 => ⟨v, u, rfl, k a b F2 H2 _ D ((ok2.put (Fz.mono s2 rp) hi).put rp2 (by rw [List.length_set]; exact hj)) ((m a b).mono (fun f z => SQ.mono (s1.trans s2) z) (fun e z => XQ.mono (s1.trans s2) z) q2)⟩) (fun e z => EW.mono s1 (XQ.ew w z)) q1)) (fun e z => XQ.ew w z) q)
/-- an expression by itself -/
theorem s_drop {δ' : S → List Sl} {m : M (Fl S ρ)} (w : Wk δ δx) (h : JE C W δ te me) (k : JS C W δx R δ t2 δ' m) : JS C W δx R δ (tSeq (tDrop te) t2) δ' (me.bind fun _ => m) := fun F H σ D ok q =>
  h F H σ _ ok (me.mono (fun a q1 v F1 H1 s1 rp ok1 => k F1 H1 _ D ok1 (m.mono (fun f z => SQ.mono s1 z) (fun e z => XQ.mono s1 z) q1)) (fun e z => XQ.ew w z) q)
/-- return e -/
theorem s_ret {δ' : S → List Sl} {mr : M ρ} (w : Wk δ δx) (h : JO C W δ R te mr) : JS C W δx R δ (tRet te) δ' (mr.bind fun r => M.pure (Fl.rt r)) := fun F H σ D ok q =>
  h F H σ _ ok (mr.mono (fun a q1 v F1 H1 s1 ok1 => q1 v F1 H1 s1 (by
    obtain ⟨A, k⟩ := ok1
    refine ⟨fun j => if j = 0 then A 0 else [], ⟨k.go, k.pot, rfl, fun j s e => ?_, fun j l a ma mb => ?_, fun j a m => ?_, fun a o e => ⟨(k.prt a o e).1, (k.prt a o e).2.1, fun j m => ?_⟩⟩⟩
    · cases j with
      | zero => exact k.at_ 0 s e
      | succ j => cases e
    · by_cases z : j = 0
      · by_cases y : l = 0
        · rw [z, y]
        · simp only [if_neg y] at mb
          cases mb
      · simp only [if_neg z] at ma
        cases ma
    · by_cases z : j = 0
      · simp only [if_pos z] at m
        rw [z]
        exact ⟨(k.off 0 a m).1, Nat.succ_pos _⟩
      · simp only [if_neg z] at m
        cases m
    · by_cases z : j = 0
      · simp only [if_pos z] at m
        exact (k.prt a o e).2.2 0 m
      · simp only [if_neg z] at m
        cases m)) (fun e z => XQ.ew w z) q)
theorem v_ret {mr : M ρ} (w : Wk δ δx) (h : JO C W δ R te mr) : JV C W δx R δ (tRet te) mr := s_ret w h
theorem v_retN {δx : List Sl} (w : Wk δ δx) : JV C W δx (oZ Unit) δ tRetN (M.pure ()) := fun F H σ D ok q => q .non F H (Same.refl _) (by
  have ok1 := ok.push (R := oZ Unit) (a := ()) (v := .non) (B := []) (Go.refl ok.same) ⟨rfl, rfl⟩ (fun x z => nomatch z)
  obtain ⟨A, k⟩ := ok1
  refine ⟨fun j => [], ⟨k.go, k.pot, rfl, fun j s e => ?_, fun j l a ma mb => (nomatch ma), fun j a m => (nomatch m), fun a o e => ⟨(k.prt a o e).1, (k.prt a o e).2.1, fun j m => (nomatch m)⟩⟩⟩
  cases j with
  | zero =>
    cases e
    exact ⟨.non, rfl, ⟨rfl, rfl⟩, fun x z => nomatch z⟩
  | succ j => cases e)
/-- a block that returns is one that may go on, too -/
theorem JS.of_v {δ' : S → List Sl} {m : M ρ} (h : JV C W δx R δ t m) : JS C W δx R δ t δ' (m.bind fun r => M.pure (Fl.rt r)) := fun F H σ D ok q => h F H σ D ok (m.mono (fun r z => z) (fun _ z => z) q)
/-- what is wanted behind a block that ends at once -/
theorem JV.nox {m : M ρ} (h : JV C W δx R δ t m) (ok : Okk C F H σ δ) (D' : (L2.St → Hp → Prop)) (q : (m.bind fun r => (M.pure (Fl.rt r) : M (Fl Empty ρ))).run (SQ C R (fun _ : Empty => δx) D F) (XQ C W δx F)) : t { D with nx := D' } σ H :=
  h F H σ _ ok (m.mono (fun r z => z) (fun _ z => z) q)
/-- if c: (returns) -/
theorem s_ifr {δ' : S → List Sl} {mb : M Bool} {m1 : M ρ} {m : M (Fl S ρ)} (w : Wk δ δx) (h : JT C W δ tt mb) (k : JV C W δx R δ t1 m1) (l : JS C W δx R δ t2 δ' m) : JS C W δx R δ (tSeq (tIfS tt t1 tNext) t2) δ' (mb.bind fun b => if b then m1.bind fun r => M.pure (Fl.rt r) else m) := fun F H σ D ok q =>
  h F H σ _ ok (mb.mono (fun b q1 F1 H1 s1 ok1 => by
    cases b with
    | true => exact JV.nox k ok1 _ (m1.mono (fun r z => SQ.mono (S := Empty) (δ' := fun _ => δx) (f := .rt r) s1 z) (fun e z => XQ.mono s1 z) q1)
    | false => exact l F1 H1 σ D ok1 (m.mono (fun f z => SQ.mono s1 z) (fun e z => XQ.mono s1 z) q1)) (fun e z => XQ.ew w z) q)
theorem b_ifr {δ' : S → List Sl} {mb : M Bool} {m1 : M ρ} {m : M S} (w : Wk δ δx) (h : JT C W δ tt mb) (k : JV C W δx R δ t1 m1) (l : JB C W δx R δ t2 δ' m) (hx : m1 = M.bad) : JB C W δx R δ (tSeq (tIfS tt t1 tNext) t2) δ' (mb.bind fun b => if b then M.bad else m) := fun F H σ D ok q =>
  s_ifr w h k l F H σ D ok (mb.mono (fun b z => by
    cases b with
    | true => exact z.elim
    | false => exact z) (fun _ z => z) q)
theorem v_ifr {mb : M Bool} {m1 m : M ρ} (w : Wk δ δx) (h : JT C W δ tt mb) (k : JV C W δx R δ t1 m1) (l : JV C W δx R δ t2 m) : JV C W δx R δ (tSeq (tIfS tt t1 tNext) t2) (mb.bind fun b => if b then m1 else m) := fun F H σ D ok q =>
  s_ifr w h k l F H σ D ok (mb.mono (fun b z => by
    cases b with
    | true => exact z
    | false => exact z) (fun _ z => z) q)
/-- if c: .. else: .., and on -/
def M.next (m : M (Fl S ρ)) (k : S → M (Fl T ρ)) : M (Fl T ρ) := m.bind fun f => match f with | .nx s => k s | .rt r => M.pure (.rt r)
theorem s_if {δm : T → List Sl} {δ' : S → List Sl} {mb : M Bool} {m1 m2 : M (Fl T ρ)} {m : T → M (Fl S ρ)} (w : Wk δ δx) (h : JT C W δ tt mb) (k : JS C W δx R δ t1 δm m1) (l : JS C W δx R δ t2 δm m2) (j : ∀ s, JS C W δx R (δm s) t3 δ' (m s)) :
    JS C W δx R δ (tSeq (tIfS tt t1 t2) t3) δ' ((mb.bind fun b => if b then m1 else m2).next m) := fun F H σ D ok q =>
  h F H σ _ ok (mb.mono (fun b q1 F1 H1 s1 ok1 => by
    have on : ∀ f : Fl T ρ, ((match f with | .nx s => m s | .rt r => M.pure (.rt r)) : M (Fl S ρ)).run (SQ C R δ' D F) (XQ C W δx F) → SQ C R δm { D with nx := t3 D } F1 f := fun f z => by
      cases f with
      | nx s => exact fun σ' F2 H2 s2 ok2 => j s F2 H2 σ' D ok2 ((m s).mono (fun f z => SQ.mono (s1.trans s2) z) (fun e z => XQ.mono (s1.trans s2) z) z)
      | rt r => exact SQ.mono (S := S) (δ' := δ') (f := .rt r) s1 z
    cases b with
    | true => exact k F1 H1 σ _ ok1 (m1.mono on (fun e z => XQ.mono s1 z) q1)
    | false => exact l F1 H1 σ _ ok1 (m2.mono on (fun e z => XQ.mono s1 z) q1)) (fun e z => XQ.ew w z) q)
theorem b_if {δm : T → List Sl} {δ' : S → List Sl} {mb : M Bool} {m1 m2 : M T} {m : T → M S} (w : Wk δ δx) (h : JT C W δ tt mb) (k : JB C W δx R δ t1 δm m1) (l : JB C W δx R δ t2 δm m2) (j : ∀ s, JB C W δx R (δm s) t3 δ' (m s)) :
    JB C W δx R δ (tSeq (tIfS tt t1 t2) t3) δ' ((mb.bind fun b => if b then m1 else m2).bind m) := fun F H σ D ok q =>
  s_if w h k l j F H σ D ok (mb.mono (fun b z => by
    cases b with
    | true => exact z
    | false => exact z) (fun _ z => z) q)
theorem v_if {δm : T → List Sl} {mb : M Bool} {m1 m2 : M T} {m : T → M ρ} (w : Wk δ δx) (h : JT C W δ tt mb) (k : JB C W δx R δ t1 δm m1) (l : JB C W δx R δ t2 δm m2) (j : ∀ s, JV C W δx R (δm s) t3 (m s)) :
    JV C W δx R δ (tSeq (tIfS tt t1 t2) t3) ((mb.bind fun b => if b then m1 else m2).bind m) := fun F H σ D ok q =>
  s_if w h k l j F H σ D ok (mb.mono (fun b z => by
    cases b with
    | true => exact z
    | false => exact z) (fun _ z => z) q)
/-- .. both return -/
theorem v_if2 {mb : M Bool} {m1 m2 : M ρ} (w : Wk δ δx) (h : JT C W δ tt mb) (k : JV C W δx R δ t1 m1) (l : JV C W δx R δ t2 m2) : JV C W δx R δ (tIfS tt t1 t2) (mb.bind fun b => if b then m1 else m2) := fun F H σ D ok q =>
  h F H σ _ ok (mb.mono (fun b q1 F1 H1 s1 ok1 => by
    cases b with
    | true => exact k F1 H1 σ _ ok1 (m1.mono (fun r z => SQ.mono (S := Empty) (δ' := fun _ => δx) (f := .rt r) s1 z) (fun e z => XQ.mono s1 z) q1)
    | false => exact l F1 H1 σ _ ok1 (m2.mono (fun r z => SQ.mono (S := Empty) (δ' := fun _ => δx) (f := .rt r) s1 z) (fun e z => XQ.mono s1 z) q1)) (fun e z => XQ.ew w z) q)
/-! ### targets -/
theorem g_name (hi : i < δ.length := by exact Nat.le_of_ble_eq_true rfl) : JG C δ (gName i) [i] fun a : α => δ.set i (.fz a) := fun F H σ v x Q ok rp q => q _ (ok.put rp hi) (List.length_set ..) fun j hj => by
  rw [List.getElem?_set_ne (fun e => hj (by rw [e]; exact List.mem_singleton.mpr rfl))]
theorem JG.app {g : TG} {is js : List Nat} {σ σ1 σ2 : L2.St} (l1 : σ1.length = σ.length) (l2 : σ2.length = σ1.length) (h1 : ∀ j, j ∉ is → σ1[j]? = σ[j]?) (h2 : ∀ j, j ∉ js → σ2[j]? = σ1[j]?) : σ2.length = σ.length ∧ ∀ j, j ∉ is ++ js → σ2[j]? = σ[j]? :=
  ⟨l2.trans l1, fun j hj => (h2 j fun m => hj (List.mem_append_right _ m)).trans (h1 j fun m => hj (List.mem_append_left _ m))⟩
theorem g_t2 {g1 g2 : TG} {i1 i2 : List Nat} {δ1 : α → List Sl} {δ2 : α → β → List Sl} (h1 : JG C δ g1 i1 δ1) (h2 : ∀ a, JG C (δ1 a) g2 i2 (δ2 a)) : JG C δ (gTup C.K 2 (gCons g1 (gCons g2 gNil))) (i1 ++ i2) fun x : α × β => δ2 x.1 x.2 := fun F H σ v x Q ok rp q => by
  obtain ⟨l, v1, v2, rfl, e, r1, r2⟩ := rp
  refine ⟨l, _, rfl, SqT.of (ok.same _ _ e), rfl, v1, _, rfl, h1 F H σ v1 x.1 _ ok r1 fun σ1 ok1 l1 e1 => ⟨v2, _, rfl, h2 x.1 F H σ1 v2 x.2 _ ok1 r2 fun σ2 ok2 l2 e2 => ⟨rfl, ?_⟩⟩⟩
  obtain ⟨l3, e3⟩ := JG.app (g := g1) l1 l2 e1 e2
  exact q σ2 ok2 l3 e3
theorem g_t3 {g1 g2 g3 : TG} {i1 i2 i3 : List Nat} {δ1 : α → List Sl} {δ2 : α → β → List Sl} {δ3 : α → β → γ → List Sl} (h1 : JG C δ g1 i1 δ1) (h2 : ∀ a, JG C (δ1 a) g2 i2 (δ2 a)) (h3 : ∀ a b, JG C (δ2 a b) g3 i3 (δ3 a b)) : JG C δ (gTup C.K 3 (gCons g1 (gCons g2 (gCons g3 gNil)))) ((i1 ++ i2) ++ i3) fun x : T3 α β γ => δ3 x.a x.b x.c := fun F H σ v x Q ok rp q => by
  obtain ⟨l, v1, v2, v3, rfl, e, r1, r2, r3⟩ := rp
  refine ⟨l, _, rfl, SqT.of (ok.same _ _ e), rfl, v1, _, rfl, h1 F H σ v1 x.a _ ok r1 fun σ1 ok1 l1 e1 => ⟨v2, _, rfl, h2 x.a F H σ1 v2 x.b _ ok1 r2 fun σ2 ok2 l2 e2 => ⟨v3, _, rfl, h3 x.a x.b F H σ2 v3 x.c _ ok2 r3 fun σ3 ok3 l3 e3 => ⟨rfl, ?_⟩⟩⟩⟩
  obtain ⟨l4, e4⟩ := JG.app (g := g1) l1 l2 e1 e2
  obtain ⟨l5, e5⟩ := JG.app (g := g1) l4 l3 e4 e3
  exact q σ3 ok3 l5 e5
theorem g_t4 {g1 g2 g3 g4 : TG} {i1 i2 i3 i4 : List Nat} {δ1 : α → List Sl} {δ2 : α → β → List Sl} {δ3 : α → β → γ → List Sl} {δ4 : α → β → γ → ε → List Sl} (h1 : JG C δ g1 i1 δ1) (h2 : ∀ a, JG C (δ1 a) g2 i2 (δ2 a)) (h3 : ∀ a b, JG C (δ2 a b) g3 i3 (δ3 a b)) (h4 : ∀ a b c, JG C (δ3 a b c) g4 i4 (δ4 a b c)) :
    JG C δ (gTup C.K 4 (gCons g1 (gCons g2 (gCons g3 (gCons g4 gNil))))) (((i1 ++ i2) ++ i3) ++ i4) fun x : T4 α β γ ε => δ4 x.a x.b x.c x.d := fun F H σ v x Q ok rp q => by
  obtain ⟨l, v1, v2, v3, v4, rfl, e, r1, r2, r3, r4⟩ := rp
  refine ⟨l, _, rfl, SqT.of (ok.same _ _ e), rfl, v1, _, rfl, h1 F H σ v1 x.a _ ok r1 fun σ1 ok1 l1 e1 => ⟨v2, _, rfl, h2 x.a F H σ1 v2 x.b _ ok1 r2 fun σ2 ok2 l2 e2 => ⟨v3, _, rfl, h3 x.a x.b F H σ2 v3 x.c _ ok2 r3 fun σ3 ok3 l3 e3 => ⟨v4, _, rfl, h4 x.a x.b x.c F H σ3 v4 x.d _ ok3 r4 fun σ4 ok4 l4 e4 => ⟨rfl, ?_⟩⟩⟩⟩⟩
  obtain ⟨l5, e5⟩ := JG.app (g := g1) l1 l2 e1 e2
  obtain ⟨l6, e6⟩ := JG.app (g := g1) l5 l3 e5 e3
  obtain ⟨l7, e7⟩ := JG.app (g := g1) l6 l4 e6 e4
  exact q σ4 ok4 l7 e7
theorem g_door {g1 g2 g3 g4 : TG} {i1 i2 i3 i4 : List Nat} {δ1 : Str → List Sl} {δ2 : Str → Str → List Sl} {δ3 : Str → Str → Int → List Sl} {δ4 : Str → Str → Int → Int → List Sl} (h1 : JG C δ g1 i1 δ1) (h2 : ∀ a, JG C (δ1 a) g2 i2 (δ2 a)) (h3 : ∀ a b, JG C (δ2 a b) g3 i3 (δ3 a b)) (h4 : ∀ a b c, JG C (δ3 a b c) g4 i4 (δ4 a b c)) :
    JG C δ (gTup C.K 4 (gCons g1 (gCons g2 (gCons g3 (gCons g4 gNil))))) (((i1 ++ i2) ++ i3) ++ i4) fun x : Door => δ4 x.near x.far x.lo x.hi := fun F H σ v x Q ok rp q => by
  obtain ⟨l, e, h⟩ := rp
  exact g_t4 h1 h2 h3 h4 F H σ v ⟨x.near, x.far, x.lo, x.hi⟩ Q ok ⟨l, _, _, _, _, e, h, rfl, rfl, rfl, rfl⟩ q
/-! ### what is walked -/
theorem wlk_of {J : It} {G : Hp → Prop} {Y : Nat → Hp → V → Hp → Prop} {xs : List α} {F0 : Hp} {K : PySem.W.Frag} (w : Walk J xs.length G Y) (hG : ∀ F H, Same F0 F → Same F H → G H)
    (hY : ∀ i F H v H', i < xs.length → Same F0 F → Same F H → Y i H v H' → ∃ F' x, Go M0 F H F' H' ∧ xs[i]? = some x ∧ Fz.rep K F' v x) : Wlk K J xs F0 :=
  ⟨fun i F H hi s s2 => w.goes i H hi (hG F H s s2), fun F H s s2 => w.stops H (hG F H s s2), fun i F H v H' hi s s2 y => hY i F H v H' hi s s2 (w.yields i H v H' hi (hG F H s s2) y)⟩
theorem i_list {m : M (List α)} (h : JE C W δ te m) : JI C W δ (iList C.K te) m := fun F H σ Q ok q => h F H σ _ ok (m.mono (fun xs q1 v F1 H1 s1 rp ok1 => by
  obtain ⟨l, vs, rfl, e, r⟩ := rp
  refine ⟨l, rfl, ⟨vs, SqL.of (ok1.same _ _ e)⟩, q1 _ F1 H1 s1 ok1 ?_⟩
  have hl := r.length
  refine wlk_of (by rw [← hl]; exact walk_list) (fun F2 H2 s s2 => SqL.of (s2 _ _ (s _ _ e))) ?_
  rintro i F2 H2 v H' hi s s2 ⟨rfl, hv⟩
  obtain ⟨x, hx, rx⟩ := paired_get' r hv
  exact ⟨F2, x, Go.refl s2, hx, Fz.mono s rx⟩) (fun _ z => z) q)
theorem i_tof {m : M (Tof α)} (h : JE C W δ te m) : JI C W δ (iTup C.K te) (m.bind fun x => M.pure x.l) := fun F H σ Q ok q => h F H σ _ ok (m.mono (fun xs q1 v F1 H1 s1 rp ok1 => by
  obtain ⟨l, vs, rfl, e, r⟩ := rp
  refine ⟨l, rfl, ⟨vs, SqT.of (ok1.same _ _ e)⟩, q1 _ F1 H1 s1 ok1 ?_⟩
  have hl := r.length
  refine wlk_of (by rw [← hl]; exact walk_tup) (fun F2 H2 s s2 => SqT.of (s2 _ _ (s _ _ e))) ?_
  rintro i F2 H2 v H' hi s s2 ⟨rfl, hv⟩
  obtain ⟨x, hx, rx⟩ := paired_get' r hv
  exact ⟨F2, x, Go.refl s2, hx, Fz.mono s rx⟩) (fun _ z => z) q)
/-- lo, lo + 1, .. -/
def rngI (lo hi : Int) : List Int := (List.range (hi - lo).toNat).map fun k : Nat => lo + (k : Int)
theorem rngI_len (lo hi : Int) : (rngI lo hi).length = (hi - lo).toNat := by
  unfold rngI
  rw [List.length_map, List.length_range]
theorem rngI_get (lo hi : Int) {i : Nat} (h : i < (hi - lo).toNat) : (rngI lo hi)[i]? = some (lo + (i : Int)) := by
  unfold rngI
  rw [List.getElem?_map, List.getElem?_range h]
  rfl
theorem wlk_rng {K : PySem.W.Frag} {lo hi : Int} {F0 : Hp} : Wlk K (Itr lo (hi - lo).toNat) (rngI lo hi) F0 := by
  refine wlk_of (by rw [rngI_len]; exact walk_range) (fun _ _ _ _ => trivial) ?_
  rintro i F2 H2 v H' hi' s s2 ⟨rfl, rfl⟩
  rw [rngI_len] at hi'
  exact ⟨F2, _, Go.refl s2, rngI_get lo hi hi', rfl⟩
theorem i_rng1 {mi : M Int} (h : JE C W δ te mi) : JI C W δ (iRng1 (tCons te tNil)) (mi.bind fun n => M.need (-(2 ^ 62) ≤ n ∧ n < 2 ^ 62) (M.pure (rngI 0 n))) := fun F H σ Q ok q => h F H σ _ ok (mi.mono (fun n q1 v F1 H1 s1 rp ok1 => by
  cases rp
  refine ⟨n, rfl, q1.1.1, q1.1.2, q1.2 _ F1 H1 s1 ok1 ?_⟩
  have := wlk_rng (K := C.K) (lo := 0) (hi := n) (F0 := F1)
  rwa [Int.sub_zero] at this) (fun _ z => z) q)
theorem i_rng2 {t1 t2 : TE} {mi mj : M Int} (h : JE C W δ t1 mi) (k : JE C W δ t2 mj) : JI C W δ (iRng2 (tCons t1 (tCons t2 tNil))) (mi.bind fun a => mj.bind fun b => M.need (-(2 ^ 62) ≤ a ∧ a < 2 ^ 62 ∧ -(2 ^ 62) ≤ b ∧ b < 2 ^ 62) (M.pure (rngI a b))) := fun F H σ Q ok q => h F H σ _ ok (mi.mono (fun a q1 v F1 H1 s1 rp ok1 => k F1 H1 σ _ ok1 (mj.mono (fun b q2 w F2 H2 s2 rp2 ok2 => by
  cases rp
  cases rp2
  exact ⟨a, b, rfl, q2.1, q2.2 _ F2 H2 (s1.trans s2) ok2 wlk_rng⟩) (fun e z => EW.mono s1 z) q1)) (fun _ z => z) q)
def enumFrom {α : Type} : Int → List α → List (Int × α)
  | _, [] => []
  | k, x :: xs => (k, x) :: enumFrom (k + 1) xs
abbrev enumI {α : Type} (xs : List α) : List (Int × α) := enumFrom 0 xs
theorem enumFrom_len {α : Type} : ∀ (k : Int) (xs : List α), (enumFrom k xs).length = xs.length
  | _, [] => rfl
  | k, x :: xs => by rw [enumFrom, List.length_cons, List.length_cons, enumFrom_len]
theorem enumFrom_get {α : Type} : ∀ (k : Int) (xs : List α) (i : Nat), (enumFrom k xs)[i]? = xs[i]?.map fun x => (k + (i : Int), x)
  | _, [], _ => rfl
  | k, x :: xs, 0 => by
    show some (k, x) = some (k + 0, x)
    rw [Int.add_zero]
  | k, x :: xs, i + 1 => by
    show (enumFrom (k + 1) xs)[i]? = xs[i]?.map _
    rw [enumFrom_get (k + 1) xs i]
    congr 1
    funext y
    rw [show k + 1 + (i : Int) = k + ((i + 1 : Nat) : Int) by omega]
theorem i_enum {m : M (List α)} (h : JE C W δ te m) : JI C W δ (iEnum C.K (tCons te tNil)) (m.bind fun xs => M.pure (enumI xs)) := fun F H σ Q ok q => h F H σ _ ok (m.mono (fun xs q1 v F1 H1 s1 rp ok1 => by
  obtain ⟨l, vs, rfl, e, r⟩ := rp
  refine ⟨l, vs, rfl, SqL.of (ok1.same _ _ e), q1 _ F1 H1 s1 ok1 ?_⟩
  have hl := r.length
  refine wlk_of (by rw [enumFrom_len, ← hl]; exact walk_enum) (fun F2 H2 s s2 => SqL.of (s2 _ _ (s _ _ e))) ?_
  rintro i F2 H2 v H' hi s s2 ⟨T, x, y, rfl, hT, rfl, e1, e2⟩
  cases Option.some.inj e1
  obtain ⟨z, hz, rz⟩ := paired_get' r e2
  refine ⟨_, ((i : Int), z), (Go.refl s2).new hT, ?_, T, _, y, rfl, upd_same, rfl, Fz.mono (s.trans (Same.new (Same.free s2 hT))) rz⟩
  rw [enumFrom_get, hz, Int.zero_add]
  rfl) (fun _ z => z) q)
theorem i_enumT {m : M (Tof α)} (h : JE C W δ te m) : JI C W δ (iEnumT C.K (tCons te tNil)) (m.bind fun xs => M.pure (enumI xs.l)) := fun F H σ Q ok q => h F H σ _ ok (m.mono (fun xs q1 v F1 H1 s1 rp ok1 => by
  obtain ⟨l, vs, rfl, e, r⟩ := rp
  refine ⟨l, vs, rfl, SqT.of (ok1.same _ _ e), q1 _ F1 H1 s1 ok1 ?_⟩
  have hl := r.length
  refine wlk_of (by rw [enumFrom_len, ← hl]; exact walk_enumT) (fun F2 H2 s s2 => SqT.of (s2 _ _ (s _ _ e))) ?_
  rintro i F2 H2 v H' hi s s2 ⟨T, x, y, rfl, hT, rfl, e1, e2⟩
  cases Option.some.inj e1
  obtain ⟨z, hz, rz⟩ := paired_get' r e2
  refine ⟨_, ((i : Int), z), (Go.refl s2).new hT, ?_, T, _, y, rfl, upd_same, rfl, Fz.mono (s.trans (Same.new (Same.free s2 hT))) rz⟩
  rw [enumFrom_get, hz, Int.zero_add]
  rfl) (fun _ z => z) q)
theorem i_zip {t1 t2 : TE} {m1 : M (List α)} {m2 : M (List β)} (h : JE C W δ t1 m1) (k : JE C W δ t2 m2) : JI C W δ (iZip C.K (tCons t1 (tCons t2 tNil))) (m1.bind fun xs => m2.bind fun ys => M.pure (xs.zip ys)) := fun F H σ Q ok q => h F H σ _ ok (m1.mono (fun xs q1 v F1 H1 s1 rp ok1 => k F1 H1 σ _ ok1 (m2.mono (fun ys q2 w F2 H2 s2 rp2 ok2 => by
  obtain ⟨l, vs, rfl, e, r⟩ := Fz.mono s2 rp
  obtain ⟨l', vs', rfl, e', r'⟩ := rp2
  refine ⟨l, l', vs, vs', rfl, SqL.of (ok2.same _ _ e), SqL.of (ok2.same _ _ e'), q2 _ F2 H2 (s1.trans s2) ok2 ?_⟩
  refine wlk_of (walk_zip (by rw [List.length_zip, r.length, r'.length])) (fun F3 H3 s s3 => ⟨SqL.of (s3 _ _ (s _ _ e)), SqL.of (s3 _ _ (s _ _ e'))⟩) ?_
  rintro i F3 H3 v H' hi s s3 ⟨T, x, y, rfl, hT, rfl, e1, e2⟩
  obtain ⟨z, hz, rz⟩ := paired_get' r e1
  obtain ⟨z', hz', rz'⟩ := paired_get' r' e2
  have sn := s.trans (Same.new (o := .tup [x, y]) (Same.free s3 hT))
  refine ⟨_, (z, z'), (Go.refl s3).new hT, ?_, T, x, y, rfl, upd_same, Fz.mono sn rz, Fz.mono sn rz'⟩
  rw [List.zip, List.getElem?_zipWith, hz, hz']) (fun e z => EW.mono s1 z) q1)) (fun _ z => z) q)
/-- the signs of a text, each by itself -/
def signs (z : Str) : List Str := z.cps.toList.map one
theorem i_str {m : M Str} (h : JE C W δ te m) : JI C W δ (iStr te) (m.bind fun z => M.pure (signs z)) := fun F H σ Q ok q => h F H σ _ ok (m.mono (fun z q1 v F1 H1 s1 rp ok1 => by
  refine ⟨z, rp, q1 _ F1 H1 s1 ok1 ?_⟩
  have hl : (signs z).length = z.cps.size := by
    unfold signs
    rw [List.length_map, Array.length_toList]
  refine wlk_of (by rw [hl]; exact walk_str) (fun _ _ _ _ => trivial) ?_
  rintro i F2 H2 v H' hi s s2 ⟨rfl, c, hc, rfl⟩
  refine ⟨F2, one c, Go.refl s2, ?_, rfl⟩
  unfold signs
  rw [List.getElem?_map, Array.getElem?_toList, hc]
  rfl) (fun _ z => z) q)
end
end Dc

namespace Dc
open PySem PySem.Spec PyProof.Rows L2
/-! ## loops -/
/-- a for whose body may return -/
def forM {α S ρ : Type} (f : α → S → M (Fl S ρ)) : List α → S → M (Fl S ρ)
  | [], s => M.pure (.nx s)
  | x :: xs, s => (f x s).next fun s' => forM f xs s'
/-- .. never returns -/
def forS {α S : Type} (f : α → S → M S) : List α → S → M S
  | [], s => M.pure s
  | x :: xs, s => (f x s).bind fun s' => forS f xs s'
theorem forM_S {α S ρ : Type} (f : α → S → M S) : ∀ (xs : List α) (s : S), forM (ρ := ρ) (fun x s => (f x s).bind fun s' => M.pure (.nx s')) xs s = (forS f xs s).bind fun s' => M.pure (.nx s')
  | [], s => rfl
  | x :: xs, s => by
    have ih := forM_S (ρ := ρ) f xs
    show (f x s).bind (fun s' => forM (fun x s => (f x s).bind fun s' => M.pure (Fl.nx s')) xs s') = (f x s).bind fun s' => (forS f xs s').bind fun s' => M.pure (Fl.nx s')
    congr 1
    funext s'
    exact ih s'
/-- a while: at most n turns -/
def whileN {S ρ : Type} (c : S → M Bool) (f : S → M (Fl S ρ)) : Nat → S → M (Fl S ρ)
  | 0, _ => M.bad
  | n + 1, s => (c s).bind fun b => if b then (f s).next fun s' => whileN c f n s' else M.pure (.nx s)
def whileM {S ρ : Type} (c : S → M Bool) (f : S → M (Fl S ρ)) (s : S) : M (Fl S ρ) := ⟨fun Q E => ∃ n, (whileN c f n s).run Q E, fun h k ⟨n, q⟩ => ⟨n, (whileN c f n s).mono h k q⟩⟩
def whileNS {S : Type} (c : S → M Bool) (f : S → M S) : Nat → S → M S
  | 0, _ => M.bad
  | n + 1, s => (c s).bind fun b => if b then (f s).bind fun s' => whileNS c f n s' else M.pure s
def whileS {S : Type} (c : S → M Bool) (f : S → M S) (s : S) : M S := ⟨fun Q E => ∃ n, (whileNS c f n s).run Q E, fun h k ⟨n, q⟩ => ⟨n, (whileNS c f n s).mono h k q⟩⟩
theorem whileN_S {S ρ : Type} (c : S → M Bool) (f : S → M S) : ∀ (n : Nat) (s : S), whileN (ρ := ρ) c (fun s => (f s).bind fun s' => M.pure (.nx s')) n s = (whileNS c f n s).bind fun s' => M.pure (.nx s')
  | 0, s => rfl
  | n + 1, s => by
    refine M.ext fun Q E => ?_
    have ih := whileN_S (ρ := ρ) c f n
    constructor
    · intro h
      refine (c s).mono (fun b z => ?_) (fun _ z => z) h
      cases b with
      | false => exact z
      | true =>
        refine (f s).mono (fun s' y => ?_) (fun _ z => z) z
        have : (whileN (ρ := ρ) c (fun s => (f s).bind fun s' => M.pure (.nx s')) n s').run Q E := y
        rw [ih] at this
        exact this
    · intro h
      refine (c s).mono (fun b z => ?_) (fun _ z => z) h
      cases b with
      | false => exact z
      | true =>
        refine (f s).mono (fun s' y => ?_) (fun _ z => z) z
        show (whileN (ρ := ρ) c (fun s => (f s).bind fun s' => M.pure (.nx s')) n s').run Q E
        rw [ih]
        exact y
/-- a comprehension -/
def compM {α β : Type} (f : α → M (Option β)) : List α → M (List β)
  | [] => M.pure []
  | x :: xs => (f x).bind fun o => (compM f xs).bind fun r => M.pure (match o with | some y => y :: r | none => r)
section
variable {C : Ctx} {W : WX} {δx : List Sl} {ρ : Type} {R : Rp ρ} {δ : List Sl} {S T : Type} {α β γ ε : Type} [Fz α] [Fz β] [Fz γ] [Fz ε] {t tb t3 : TS} {te : TE} {tt : TT} {i n : Nat} {wi : TI} {g : TG} {is : List Nat}
theorem s_for {δ' : S → List Sl} {δL : T → List Sl} {δg : T → α → List Sl} {mi : M (List α)} {s0 : T} {mb : α → T → M (Fl T ρ)} {m : T → M (Fl S ρ)} (w : Wk δ δx) (w0 : Wk δ (δL s0)) (hi : JI C W δ wi mi) (hg : ∀ s, JG C (δL s) g is (δg s)) (hb : ∀ s x, JS C W δx R (δg s x) tb δL (mb x s)) (hk : ∀ s, JS C W δx R (δL s) t3 δ' (m s)) :
    JS C W δx R δ (tSeq (tFor wi g tb) t3) δ' (mi.bind fun xs => (forM mb xs s0).next m) := fun F H σ D ok q =>
  hi F H σ _ ok (mi.mono (fun xs q1 J F1 H1 s1 ok1 wk => by
    show ∃ Wv : Nat → Nat → L2.St → Hp → Prop, _
    refine ⟨fun i k σ' H' => k = xs.length - i ∧ i ≤ xs.length ∧ ∃ F' s, Same F1 F' ∧ Okk C F' H' σ' (δL s) ∧ ((forM mb (xs.drop i) s).next m).run (SQ C R δ' D F') (XQ C W δx F'), ⟨xs.length, by simp, Nat.zero_le _, F1, s0, Same.refl _, ok1.wk w0, ?_⟩, ?_⟩
    · rw [List.drop_zero]
      exact M.mono _ (fun f z => SQ.mono s1 z) (fun e z => XQ.mono s1 z) q1
    · rintro i k σ' H' ⟨rfl, hi', F', s, sF, okL, run⟩
      by_cases hlt : i < xs.length
      · right
        refine ⟨wk.go i F' H' hlt sF okL.same, fun σ2 H2 => ∃ F2 s2, Same F1 F2 ∧ Okk C F2 H2 σ2 (δL s2) ∧ ((forM mb (xs.drop (i + 1)) s2).next m).run (SQ C R δ' D F2) (XQ C W δx F2), fun σ2 H2 ⟨F2, s2, a1, a2, a3⟩ => ⟨xs.length - (i + 1), by omega, rfl, hlt, F2, s2, a1, a2, a3⟩, fun x H2 y => ?_⟩
        obtain ⟨F2, a, g2, ha, rp⟩ := wk.yld i F' H' x H2 hlt sF okL.same y
        have ok2 := okL.step g2
        rw [List.drop_eq_getElem_cons hlt] at run
        have ea : xs[i] = a := by
          rw [List.getElem?_eq_getElem hlt] at ha
          exact Option.some.inj ha
        rw [ea] at run
        refine hg s F2 H2 σ' x a _ ok2 rp fun σ3 ok3 _ _ => ?_
        have run' : (mb a s).run (fun f => (match f with | .nx s' => (forM mb (xs.drop (i + 1)) s').next m | .rt r => M.pure (.rt r) : M (Fl S ρ)).run (SQ C R δ' D F') (XQ C W δx F')) (XQ C W δx F') := by
          refine (mb a s).mono (fun f z => ?_) (fun _ z => z) (show ((mb a s).next (fun s' => forM mb (xs.drop (i + 1)) s') |>.next m).run _ _ from run)
          cases f with
          | nx s' => exact z
          | rt r => exact z
        refine hb s a F2 H2 σ3 _ ok3 ((mb a s).mono (fun f z => ?_) (fun e z => XQ.mono g2.ff z) run')
        cases f with
        | nx s' => exact fun σ4 F4 H4 s4 ok4 => ⟨F4, s', (sF.trans g2.ff).trans s4, ok4, M.mono _ (fun f z => SQ.mono (g2.ff.trans s4) z) (fun e z => XQ.mono (g2.ff.trans s4) z) z⟩
        | rt r => exact fun v F4 H4 s4 ok4 => z v F4 H4 (g2.ff.trans s4) ok4
      · left
        have e : i = xs.length := by omega
        subst e
        refine ⟨wk.stop F' H' sF okL.same, ?_⟩
        rw [List.drop_length] at run
        exact hk s F' H' σ' D okL run) (fun e z => XQ.ew w z) q)
theorem b_for {δ' : S → List Sl} {δL : T → List Sl} {δg : T → α → List Sl} {mi : M (List α)} {s0 : T} {mb : α → T → M T} {m : T → M S} (w : Wk δ δx) (w0 : Wk δ (δL s0)) (hi : JI C W δ wi mi) (hg : ∀ s, JG C (δL s) g is (δg s)) (hb : ∀ s x, JB C W δx R (δg s x) tb δL (mb x s)) (hk : ∀ s, JB C W δx R (δL s) t3 δ' (m s)) :
    JB C W δx R δ (tSeq (tFor wi g tb) t3) δ' (mi.bind fun xs => (forS mb xs s0).bind m) := fun F H σ D ok q => s_for w w0 hi hg hb hk F H σ D ok (mi.mono (fun xs z => by
      have e := forM_S (ρ := ρ) mb xs s0
      show ((forM (fun x s => (mb x s).bind fun s' => M.pure (.nx s')) xs s0).next fun s => (m s).bind fun s => M.pure (Fl.nx s)).run _ _
      rw [e]
      exact z) (fun _ z => z) q)
theorem v_for {δL : T → List Sl} {δg : T → α → List Sl} {mi : M (List α)} {s0 : T} {mb : α → T → M T} {m : T → M ρ} (w : Wk δ δx) (w0 : Wk δ (δL s0)) (hi : JI C W δ wi mi) (hg : ∀ s, JG C (δL s) g is (δg s)) (hb : ∀ s x, JB C W δx R (δg s x) tb δL (mb x s)) (hk : ∀ s, JV C W δx R (δL s) t3 (m s)) :
    JV C W δx R δ (tSeq (tFor wi g tb) t3) (mi.bind fun xs => (forS mb xs s0).bind m) := fun F H σ D ok q => s_for w w0 hi hg hb hk F H σ D ok (mi.mono (fun xs z => by
      have e := forM_S (ρ := ρ) mb xs s0
      show ((forM (fun x s => (mb x s).bind fun s' => M.pure (.nx s')) xs s0).next fun s => (m s).bind fun s => M.pure (Fl.rt s)).run _ _
      rw [e]
      exact z) (fun _ z => z) q)
/-- .. its body may return, and it is followed by a return -/
def M.done {S ρ : Type} (m : M (Fl S ρ)) (k : S → M ρ) : M ρ := m.bind fun f => match f with | .nx s => k s | .rt r => M.pure r
theorem v_forR {δL : T → List Sl} {δg : T → α → List Sl} {mi : M (List α)} {s0 : T} {mb : α → T → M (Fl T ρ)} {m : T → M ρ} (w : Wk δ δx) (w0 : Wk δ (δL s0)) (hi : JI C W δ wi mi) (hg : ∀ s, JG C (δL s) g is (δg s)) (hb : ∀ s x, JS C W δx R (δg s x) tb δL (mb x s)) (hk : ∀ s, JV C W δx R (δL s) t3 (m s)) :
    JV C W δx R δ (tSeq (tFor wi g tb) t3) (mi.bind fun xs => (forM mb xs s0).done m) := fun F H σ D ok q => s_for w w0 hi hg hb hk F H σ D ok (mi.mono (fun xs z => by
      refine (forM mb xs s0).mono (fun f y => ?_) (fun _ z => z) (show ((forM mb xs s0).done m |>.bind fun r => M.pure (Fl.rt r)).run _ _ from z)
      cases f with
      | nx s => exact y
      | rt r => exact y) (fun _ z => z) q)
theorem s_while {δ' : S → List Sl} {δL : T → List Sl} {s0 : T} {mc : T → M Bool} {mb : T → M (Fl T ρ)} {m : T → M (Fl S ρ)} (w0 : Wk δ (δL s0)) (wx : ∀ s, Wk (δL s) δx) (hc : ∀ s, JT C W (δL s) tt (mc s)) (hb : ∀ s, JS C W δx R (δL s) tb δL (mb s)) (hk : ∀ s, JS C W δx R (δL s) t3 δ' (m s)) :
    JS C W δx R δ (tSeq (tWhile tt tb) t3) δ' ((whileM mc mb s0).next m) := fun F H σ D ok q => by
  obtain ⟨n0, q⟩ := q
  show ∃ Wv : Nat → L2.St → Hp → Prop, _
  refine ⟨fun k σ' H' => ∃ F' s, Same F F' ∧ Okk C F' H' σ' (δL s) ∧ ((whileN mc mb k s).next m).run (SQ C R δ' D F') (XQ C W δx F'), ⟨n0, F, s0, Same.refl _, ok.wk w0, q⟩, ?_⟩
  rintro k σ' H' ⟨F', s, sF, okL, run⟩
  cases k with
  | zero => exact run.elim
  | succ k =>
    refine hc s F' H' σ' _ okL ((mc s).mono (fun b z F1 H1 s1 ok1 => ?_) (fun e z => XQ.ew (wx s) z) (show (mc s).run (fun b => ((if b then (mb s).next fun s' => whileN mc mb k s' else M.pure (.nx s)).next m).run _ _) _ from run))
    cases b with
    | false =>
      exact hk s F1 H1 σ' D ok1 ((m s).mono (fun f z => SQ.mono s1 z) (fun e z => XQ.mono s1 z) z)
    | true =>
      rw [if_pos rfl]
      refine ⟨fun σ2 H2 => ∃ F2 s2, Same F F2 ∧ Okk C F2 H2 σ2 (δL s2) ∧ ((whileN mc mb k s2).next m).run (SQ C R δ' D F2) (XQ C W δx F2), fun σ2 H2 ⟨F2, s2, a1, a2, a3⟩ => ⟨k, Nat.lt_succ_self _, F2, s2, a1, a2, a3⟩, ?_⟩
      refine hb s F1 H1 σ' _ ok1 ((mb s).mono (fun f y => ?_) (fun e z => XQ.mono s1 z) (show (mb s).run (fun f => ((match f with | .nx s' => whileN mc mb k s' | .rt r => M.pure (.rt r) : M (Fl T ρ)).next m).run _ _) _ from z))
      cases f with
      | nx s' => exact fun σ4 F4 H4 s4 ok4 => ⟨F4, s', (sF.trans s1).trans s4, ok4, M.mono _ (fun f z => SQ.mono (s1.trans s4) z) (fun e z => XQ.mono (s1.trans s4) z) y⟩
      | rt r => exact fun v F4 H4 s4 ok4 => y v F4 H4 (s1.trans s4) ok4
theorem b_while {δ' : S → List Sl} {δL : T → List Sl} {s0 : T} {mc : T → M Bool} {mb : T → M T} {m : T → M S} (w0 : Wk δ (δL s0)) (wx : ∀ s, Wk (δL s) δx) (hc : ∀ s, JT C W (δL s) tt (mc s)) (hb : ∀ s, JB C W δx R (δL s) tb δL (mb s)) (hk : ∀ s, JB C W δx R (δL s) t3 δ' (m s)) :
    JB C W δx R δ (tSeq (tWhile tt tb) t3) δ' ((whileS mc mb s0).bind m) := fun F H σ D ok ⟨n, q⟩ => s_while w0 wx hc hb hk F H σ D ok ⟨n, by
      rw [whileN_S]
      exact q⟩
theorem v_while {δL : T → List Sl} {s0 : T} {mc : T → M Bool} {mb : T → M T} {m : T → M ρ} (w0 : Wk δ (δL s0)) (wx : ∀ s, Wk (δL s) δx) (hc : ∀ s, JT C W (δL s) tt (mc s)) (hb : ∀ s, JB C W δx R (δL s) tb δL (mb s)) (hk : ∀ s, JV C W δx R (δL s) t3 (m s)) :
    JV C W δx R δ (tSeq (tWhile tt tb) t3) ((whileS mc mb s0).bind m) := fun F H σ D ok ⟨n, q⟩ => s_while w0 wx hc hb hk F H σ D ok ⟨n, by
      rw [whileN_S]
      exact q⟩
/-! ### comprehensions -/
theorem wipe_get (σ : L2.St) : ∀ (vs : List Nat) (j : Nat), (wipe σ vs)[j]? = if j ∈ vs then σ[j]?.map fun _ => none else σ[j]?
  | [], j => by
    rw [if_neg List.not_mem_nil]
    rfl
  | v :: vs, j => by
    show ((wipe σ vs).set v none)[j]? = _
    by_cases e : j = v
    · subst e
      rw [if_pos List.mem_cons_self, List.getElem?_set]
      simp only [if_true]
      by_cases hl : j < (wipe σ vs).length
      · rw [if_pos hl]
        rw [wipe_length] at hl
        rw [List.getElem?_eq_getElem hl]
        rfl
      · rw [if_neg hl]
        rw [wipe_length] at hl
        rw [List.getElem?_eq_none_iff.mpr (by omega)]
        rfl
    · rw [List.getElem?_set_ne (fun z => e z.symm), wipe_get σ vs j]
      by_cases m : j ∈ vs
      · rw [if_pos m, if_pos (List.mem_cons_of_mem _ m)]
      · rw [if_neg m, if_neg (fun z => by
          rcases List.mem_cons.mp z with z | z
          · exact e z
          · exact m z)]
theorem wipe_wipe {σ σ2 : L2.St} {vs is : List Nat} (hl : σ2.length = (wipe σ vs).length) (he : ∀ j, j ∉ is → σ2[j]? = (wipe σ vs)[j]?) (hs : ∀ j ∈ is, j ∈ vs) : wipe σ2 vs = wipe σ vs := by
  refine List.ext_getElem? fun j => ?_
  rw [wipe_get, wipe_get]
  by_cases m : j ∈ vs
  · rw [if_pos m, if_pos m]
    rw [wipe_length] at hl
    by_cases c : j < σ.length
    · rw [List.getElem?_eq_getElem c, List.getElem?_eq_getElem (by rw [hl]; exact c)]
      rfl
    · rw [List.getElem?_eq_none_iff.mpr (by omega), List.getElem?_eq_none_iff.mpr (by omega)]
  · rw [if_neg m, if_neg m, he j (fun z => m (hs j z)), wipe_get, if_neg m]
/-- the slots of a comprehension are none of the def's -/
theorem Okk.wipe {F H : Hp} {σ : L2.St} {vs : List Nat} (ok : Okk C F H σ δ) (hv : ∀ j ∈ vs, δ[j]? = some .no ∨ δ[j]? = none) : Okk C F H (L2.wipe σ vs) δ := by
  obtain ⟨A, k⟩ := ok
  refine ⟨A, ⟨k.go, k.pot, by rw [wipe_length, k.len], fun j s e => ?_, k.dis, k.off, k.prt⟩⟩
  have h := k.at_ j s e
  rw [wipe_get]
  by_cases m : j ∈ vs
  · rcases hv j m with z | z
    · rw [z] at e
      cases e
      exact h
    · rw [z] at e
      cases e
  · rw [if_neg m]
    exact h
theorem Okk.unwipe {F H : Hp} {σ : L2.St} {vs : List Nat} (ok : Okk C F H (L2.wipe σ vs) δ) (hv : ∀ j ∈ vs, δ[j]? = some .no ∨ δ[j]? = none) : Okk C F H σ δ := by
  obtain ⟨A, k⟩ := ok
  refine ⟨A, ⟨k.go, k.pot, by rw [← k.len, wipe_length], fun j s e => ?_, k.dis, k.off, k.prt⟩⟩
  have h := k.at_ j s e
  rw [wipe_get] at h
  by_cases m : j ∈ vs
  · rcases hv j m with z | z
    · rw [z] at e
      cases e
      exact h
    · rw [z] at e
      cases e
  · rw [if_neg m] at h
    exact h
/-- σ does not matter where nothing is known -/
theorem Okk.swap {F H : Hp} {σ σ' : L2.St} {is : List Nat} (ok : Okk C F H σ δ) (hl : σ'.length = σ.length) (he : ∀ j, j ∉ is → σ'[j]? = σ[j]?) (hv : ∀ j ∈ is, δ[j]? = some .no ∨ δ[j]? = none) : Okk C F H σ' δ := by
  obtain ⟨A, k⟩ := ok
  refine ⟨A, ⟨k.go, k.pot, by rw [hl, k.len], fun j s e => ?_, k.dis, k.off, k.prt⟩⟩
  have h := k.at_ j s e
  by_cases m : j ∈ is
  · rcases hv j m with z | z
    · rw [z] at e
      cases e
      exact h
    · rw [z] at e
      cases e
  · rw [he j m]
    exact h
abbrev W0 : WX := fun _ _ _ _ => False
/-- what is walked while the slots stay as they are -/
structure Wlc {α : Type} [Fz α] (C : Ctx) (σ : L2.St) (δ : List Sl) (J : It) (xs : List α) (F0 : Hp) : Prop where
  go : ∀ i F H, i < xs.length → Same F0 F → Okk C F H σ δ → J.go i H
  stop : ∀ F H, Same F0 F → Okk C F H σ δ → J.stop xs.length H
  yld : ∀ i F H v H', i < xs.length → Same F0 F → Okk C F H σ δ → J.yld i H v H' → ∃ F' x, Go M0 F H F' H' ∧ xs[i]? = some x ∧ Fz.rep C.K F' v x
def JIc (C : Ctx) (W : WX) (δ : List Sl) {α : Type} [Fz α] (wi : TI) (m : M (List α)) : Prop := ∀ F H σ Q, Okk C F H σ δ → m.run (fun xs => ∀ J F' H', Same F F' → Okk C F' H' σ δ → Wlc C σ δ J xs F' → Q J H') (EW C W δ σ F) → wi σ H Q
theorem JI.c {mi : M (List α)} (h : JI C W δ wi mi) : JIc C W δ wi mi := fun F H σ Q ok q => h F H σ _ ok (mi.mono (fun xs q1 J F1 H1 s1 ok1 w => q1 J F1 H1 s1 ok1 ⟨fun i F H hi s ok => w.go i F H hi s ok.same, fun F H s ok => w.stop F H s ok.same, fun i F H v H' hi s ok y => w.yld i F H v H' hi s ok.same y⟩) (fun _ z => z) q)
theorem wlc_of {J : It} {G : Hp → Prop} {Y : Nat → Hp → V → Hp → Prop} {xs : List α} {F0 : Hp} {σ : L2.St} (w : Walk J xs.length G Y) (hG : ∀ F H, Same F0 F → Okk C F H σ δ → G H)
    (hY : ∀ i F H v H', i < xs.length → Same F0 F → Okk C F H σ δ → Y i H v H' → ∃ F' x, Go M0 F H F' H' ∧ xs[i]? = some x ∧ Fz.rep C.K F' v x) : Wlc C σ δ J xs F0 :=
  ⟨fun i F H hi s s2 => w.goes i H hi (hG F H s s2), fun F H s s2 => w.stops H (hG F H s s2), fun i F H v H' hi s s2 y => hY i F H v H' hi s s2 (w.yields i H v H' hi (hG F H s s2) y)⟩
theorem ic_list {te : TE} {m : M (List α)} (h : JR C W δ te m) : JIc C W δ (iList C.K te) m := fun F H σ Q ok q => h F H σ _ ok (m.mono (fun xs q1 v F1 H1 s1 ok1 rd => by
  obtain ⟨l, vs, rfl, e, r⟩ := rd F1 H1 (Same.refl _) ok1
  refine ⟨l, rfl, ⟨vs, SqL.of e⟩, q1 _ F1 H1 s1 ok1 ?_⟩
  have hl := r.length
  have at_ : ∀ F2 H2, Same F1 F2 → Okk C F2 H2 σ δ → ∃ ws, H2 l = some (.lst ws) ∧ Reps C.K F2 ws xs := fun F2 H2 s ok => by
    obtain ⟨l', ws, e', hw, rw'⟩ := rd F2 H2 s ok
    cases e'
    exact ⟨ws, hw, rw'⟩
  refine ⟨fun i F2 H2 hi s ok => ?_, fun F2 H2 s ok => ?_, fun i F2 H2 v H' hi s ok y => ?_⟩
  · obtain ⟨ws, hw, rw'⟩ := at_ F2 H2 s ok
    exact walk_list.goes i H2 (by rw [rw'.length]; exact hi) (SqL.of hw)
  · obtain ⟨ws, hw, rw'⟩ := at_ F2 H2 s ok
    have := (walk_list (K := C.K)).stops H2 (SqL.of hw)
    rwa [rw'.length] at this
  · obtain ⟨ws, hw, rw'⟩ := at_ F2 H2 s ok
    obtain ⟨rfl, hv⟩ := walk_list.yields i H2 v H' (by rw [rw'.length]; exact hi) (SqL.of hw) y
    obtain ⟨x, hx, rx⟩ := paired_get' rw' hv
    exact ⟨F2, x, Go.refl ok.same, hx, rx⟩) (fun _ z => z) q)
theorem ic_enum {te : TE} {m : M (List α)} (h : JR C W δ te m) : JIc C W δ (iEnum C.K (tCons te tNil)) (m.bind fun xs => M.pure (enumI xs)) := fun F H σ Q ok q => h F H σ _ ok (m.mono (fun xs q1 v F1 H1 s1 ok1 rd => by
  obtain ⟨l, vs, rfl, e, r⟩ := rd F1 H1 (Same.refl _) ok1
  refine ⟨l, vs, rfl, SqL.of e, q1 _ F1 H1 s1 ok1 ?_⟩
  have at_ : ∀ F2 H2, Same F1 F2 → Okk C F2 H2 σ δ → ∃ ws, H2 l = some (.lst ws) ∧ Reps C.K F2 ws xs := fun F2 H2 s ok => by
    obtain ⟨l', ws, e', hw, rw'⟩ := rd F2 H2 s ok
    cases e'
    exact ⟨ws, hw, rw'⟩
  refine ⟨fun i F2 H2 hi s ok => ?_, fun F2 H2 s ok => ?_, fun i F2 H2 v H' hi s ok y => ?_⟩
  · obtain ⟨ws, hw, rw'⟩ := at_ F2 H2 s ok
    exact walk_enum.goes i H2 (by rw [rw'.length, ← enumFrom_len 0 xs]; exact hi) (SqL.of hw)
  · obtain ⟨ws, hw, rw'⟩ := at_ F2 H2 s ok
    have := (walk_enum (K := C.K)).stops H2 (SqL.of hw)
    rwa [rw'.length, ← enumFrom_len 0 xs] at this
  · obtain ⟨ws, hw, rw'⟩ := at_ F2 H2 s ok
    obtain ⟨T, x, y', rfl, hT, rfl, e1, e2⟩ := walk_enum.yields i H2 v H' (by rw [rw'.length, ← enumFrom_len 0 xs]; exact hi) (SqL.of hw) y
    cases Option.some.inj e1
    obtain ⟨z, hz, rz⟩ := paired_get' rw' e2
    refine ⟨_, ((i : Int), z), (Go.refl ok.same).new hT, ?_, T, _, y', rfl, upd_same, rfl, Fz.mono (Same.new (Same.free ok.same hT)) rz⟩
    rw [enumFrom_get, hz, Int.zero_add]
    rfl) (fun _ z => z) q)
theorem ic_zip {t1 t2 : TE} {m1 : M (List α)} {m2 : M (List β)} (h : JR C W δ t1 m1) (k : JR C W δ t2 m2) : JIc C W δ (iZip C.K (tCons t1 (tCons t2 tNil))) (m1.bind fun xs => m2.bind fun ys => M.pure (xs.zip ys)) := fun F H σ Q ok q => h F H σ _ ok (m1.mono (fun xs q1 v F1 H1 s1 ok1 rd => k F1 H1 σ _ ok1 (m2.mono (fun ys q2 w F2 H2 s2 ok2 rd2 => by
  obtain ⟨l, vs, rfl, e, r⟩ := rd F2 H2 s2 ok2
  obtain ⟨l', vs', rfl, e', r'⟩ := rd2 F2 H2 (Same.refl _) ok2
  refine ⟨l, l', vs, vs', rfl, SqL.of e, SqL.of e', q2 _ F2 H2 (s1.trans s2) ok2 ?_⟩
  have at1 : ∀ F3 H3, Same F2 F3 → Okk C F3 H3 σ δ → ∃ ws, H3 l = some (.lst ws) ∧ Reps C.K F3 ws xs := fun F3 H3 s ok => by
    obtain ⟨_, ws, e', hw, rw'⟩ := rd F3 H3 (s2.trans s) ok
    cases e'
    exact ⟨ws, hw, rw'⟩
  have at2 : ∀ F3 H3, Same F2 F3 → Okk C F3 H3 σ δ → ∃ ws, H3 l' = some (.lst ws) ∧ Reps C.K F3 ws ys := fun F3 H3 s ok => by
    obtain ⟨_, ws, e', hw, rw'⟩ := rd2 F3 H3 s ok
    cases e'
    exact ⟨ws, hw, rw'⟩
  refine ⟨fun i F3 H3 hi s ok => ?_, fun F3 H3 s ok => ?_, fun i F3 H3 v H' hi s ok y => ?_⟩
  · obtain ⟨ws, hw, rw'⟩ := at1 F3 H3 s ok
    obtain ⟨us, hu, ru⟩ := at2 F3 H3 s ok
    exact (walk_zip rfl).goes i H3 (by rw [rw'.length, ru.length, ← List.length_zip]; exact hi) ⟨SqL.of hw, SqL.of hu⟩
  · obtain ⟨ws, hw, rw'⟩ := at1 F3 H3 s ok
    obtain ⟨us, hu, ru⟩ := at2 F3 H3 s ok
    have := (walk_zip (K := C.K) rfl).stops H3 ⟨SqL.of hw, SqL.of hu⟩
    rwa [rw'.length, ru.length, ← List.length_zip] at this
  · obtain ⟨ws, hw, rw'⟩ := at1 F3 H3 s ok
    obtain ⟨us, hu, ru⟩ := at2 F3 H3 s ok
    obtain ⟨T, x, y', rfl, hT, rfl, e1, e2⟩ := (walk_zip rfl).yields i H3 v H' (by rw [rw'.length, ru.length, ← List.length_zip]; exact hi) ⟨SqL.of hw, SqL.of hu⟩ y
    obtain ⟨z, hz, rz⟩ := paired_get' rw' e1
    obtain ⟨z', hz', rz'⟩ := paired_get' ru e2
    have sn := Same.new (o := .tup [x, y']) (Same.free ok.same hT)
    refine ⟨_, (z, z'), (Go.refl ok.same).new hT, ?_, T, x, y', rfl, upd_same, Fz.mono sn rz, Fz.mono sn rz'⟩
    rw [List.zip, List.getElem?_zipWith, hz, hz']) (fun e z => EW.mono s1 z) q1)) (fun _ z => z) q)
abbrev Ctx.pr (C : Ctx) (P : Hp) : Ctx := { C with P := P }
theorem o_comp {δg : α → List Sl} {mi : M (List α)} {mt : α → M Bool} {me : α → M γ} {vs : List Nat} (hi : JIc C W δ wi mi) (hg : ∀ P, JG (C.pr P) δ g is δg) (ht : ∀ P x, JT (C.pr P) W0 (δg x) tt (mt x)) (hE : ∀ P x, JE (C.pr P) W0 (δg x) te (me x))
    (wk : ∀ x, Wk (δg x) δ) (hv : ∀ j ∈ vs, δ[j]? = some .no) (hs : ∀ j ∈ is, j ∈ vs) :
    JO C W δ (oL γ) (tLc wi g tt te vs) (mi.bind fun xs => M.need (xs.length < 10000000) (compM (fun x => (mt x).nx.bind fun b => if b then (me x).nx.bind fun y => M.pure (some y) else M.pure none) xs)) := fun F H σ Q ok q =>
  hi F H σ _ ok (mi.mono (fun xs q1 J F1 H1 s1 ok1 wl => by
    have hv : ∀ j ∈ vs, δ[j]? = some .no ∨ δ[j]? = none := fun j m => .inl (hv j m)
    obtain ⟨hlen, q1⟩ := q1
    show LcB g tt te vs σ Q J H1
    intro L hL
    refine ⟨fun i k H' => k = xs.length - i ∧ i ≤ xs.length ∧ ∃ F' ys, Same F1 F' ∧ ys.length ≤ i ∧ Okk C F' H' (some (.ref L) :: L2.wipe σ vs) (.ow (oL γ) ys :: δ) ∧ (compM (fun x => (mt x).nx.bind fun b => if b then (me x).nx.bind fun y => M.pure (some y) else M.pure none) (xs.drop i)).run (fun r => ∀ v F2 H2, Same F' F2 → Okk C F2 H2 (some v :: σ) (.ow (oL γ) (ys ++ r) :: δ) → Q v H2) (EW C W δ σ F'), ⟨xs.length, by simp, Nat.zero_le _, F1, [], Same.refl _, Nat.le_refl _, (ok1.wipe hv).newL hL .nil, ?_⟩, ?_⟩
    · rw [List.drop_zero]
      exact M.mono _ (fun r z v F2 H2 s2 ok2 => z v F2 H2 (s1.trans s2) ok2) (fun e z => EW.mono s1 z) q1
    · rintro i k H' ⟨rfl, hi', F', ys, sF, hys, okL, run⟩
      have okO := okL.pop.unwipe hv
      by_cases hlt : i < xs.length
      · right
        refine ⟨wl.go i F' H' hlt sF okO, fun H2 => ∃ F2 zs, Same F1 F2 ∧ zs.length ≤ i + 1 ∧ Okk C F2 H2 (some (.ref L) :: L2.wipe σ vs) (.ow (oL γ) zs :: δ) ∧ (compM (fun x => (mt x).nx.bind fun b => if b then (me x).nx.bind fun y => M.pure (some y) else M.pure none) (xs.drop (i + 1))).run (fun r => ∀ v F3 H3, Same F2 F3 → Okk C F3 H3 (some v :: σ) (.ow (oL γ) (zs ++ r) :: δ) → Q v H3) (EW C W δ σ F2), fun H2 ⟨F2, zs, a1, a2, a3, a4⟩ => ⟨xs.length - (i + 1), by omega, rfl, hlt, F2, zs, a1, a2, a3, a4⟩, fun x H2 y => ?_⟩
        obtain ⟨F2, a, g2, ha, rp⟩ := wl.yld i F' H' x H2 hlt sF okO y
        have ok2 := okL.step g2
        rw [List.drop_eq_getElem_cons hlt] at run
        have ea : xs[i] = a := by
          rw [List.getElem?_eq_getElem hlt] at ha
          exact Option.some.inj ha
        rw [ea] at run
        have run1 : (mt a).run (fun b => ((if b then (me a).nx.bind fun y => M.pure (some y) else M.pure none : M (Option γ))).run (fun o => (compM (fun x => (mt x).nx.bind fun b => if b then (me x).nx.bind fun y => M.pure (some y) else M.pure none) (xs.drop (i + 1))).run (fun r => ∀ v F2 H2, Same F' F2 → Okk C F2 H2 (some v :: σ) (.ow (oL γ) (ys ++ (match o with | some y => y :: r | none => r)) :: δ) → Q v H2) (EW C W δ σ F')) (EW C W δ σ F')) (fun _ => False) := run
        obtain ⟨vL, rL, hc, pl, okH⟩ := ok2.hide
        refine hg _ F2 H2 _ x a _ okH rp fun σ3 ok3 l3 e3 => ⟨wipe_wipe l3 e3 hs, ?_⟩
        refine ht _ a F2 H2 σ3 _ ok3 ((mt a).mono (fun b z F3 H3 s3 ok3' => ?_) (fun _ z => z.elim) run1)
        have back : ∀ {F4 H4}, Same F2 F4 → Okk (C.pr (upd C.P L (.lst vL))) F4 H4 σ3 (δg a) → Okk C F4 H4 (some (.ref L) :: L2.wipe σ vs) (.ow (oL γ) ys :: δ) := fun {F4 H4} s4 ok4 => by
          have o1 := (ok4.wk (wk a)).swap (σ' := L2.wipe σ vs) l3.symm (fun j hj => (e3 j hj).symm) (fun j m => hv j (hs j m))
          exact o1.show_ (Reps.mono s4 rL) hc pl
        cases b with
        | true =>
          rw [if_pos rfl]
          refine hE _ a F3 H3 σ3 _ ok3' ((me a).mono (fun y z' v F4 H4 s4 r4 ok4 => ?_) (fun _ z => z.elim) z)
          have okB := back (s3.trans s4) ok4
          have sB := g2.ff.trans (s3.trans s4)
          have hL4 : H4 L = some (.lst vL) := by
            obtain ⟨A4, k4⟩ := id ok4
            exact (k4.prt L _ upd_same).1
          refine ⟨vL, hL4, ?_, F4, ys ++ [y], sF.trans sB, by rw [List.length_append]; show ys.length + 1 ≤ i + 1; omega, ?_, ?_⟩
          · rw [(Reps.length rL), sizeLine_eq]
            omega
          · exact okB.set (i := 0) rfl rfl (pair_app (Reps.mono (s3.trans s4) rL) (.cons r4 .nil))
          · refine M.mono _ (fun r q5 v5 F5 H5 s5 ok5 => q5 v5 F5 H5 (sB.trans s5) ?_) (fun e z => EW.mono sB z) z'
            rw [List.append_assoc] at ok5
            exact ok5
        | false =>
          rw [if_neg (by decide)]
          have okB := back s3 ok3'
          have sB := g2.ff.trans s3
          refine ⟨F3, ys, sF.trans sB, by omega, okB, ?_⟩
          exact M.mono _ (fun r q5 v5 F5 H5 s5 ok5 => q5 v5 F5 H5 (sB.trans s5) ok5) (fun e z => EW.mono sB z) z
      · left
        have e : i = xs.length := by omega
        subst e
        refine ⟨wl.stop F' H' sF okO, ?_⟩
        rw [List.drop_length] at run
        refine run (.ref L) F' H' (Same.refl _) ?_
        rw [List.append_nil]
        obtain ⟨vL, rL, hc, pl, okH⟩ := okL.hide
        exact (okH.unwipe hv).show_ rL hc pl) (fun _ z => z) q)
end
end Dc

namespace Dc
open PySem PySem.Spec PyProof.Rows L2
/-! ## defs -/
/-- what a def promises: M what may change, p the pot -/
def Post (K : PySem.W.Frag) (M : Addr → Prop) (p : Option Addr) (F H : Hp) {ρ : Type} (R : Rp ρ) (m : Dc.M ρ) (Q : VK) (E : XK) : Prop :=
  m.run (fun r => ∀ v F' H' A, Go M F H F' H' → (∀ q, p = some q → PotAt H' q) → R.rep K F' H' v r A → (∀ x ∈ A, F' x = none ∧ H x = none) → Q v H')
    (fun e => ∀ cls d F' H', Go M F H F' H' → (∀ q, p = some q → PotAt H' q) → ExR K F' cls d e → E cls d H')
abbrev cx0 (K : PySem.W.Frag) (F H : Hp) : Ctx := ⟨K, M0, none, F, H, fun _ => none⟩
abbrev cxP (K : PySem.W.Frag) (p : Addr) (F H : Hp) : Ctx := ⟨K, M1 p, some p, F, H, fun _ => none⟩
section
variable {C : Ctx} {W : WX} {δ δx : List Sl} {ρ : Type} {R : Rp ρ} {K : PySem.W.Frag} {F H : Hp} {σ : L2.St} {Q : VK} {E : XK} {m : M ρ} {t : TS} {p : Addr}
theorem okk_nil (go : Go C.M C.F C.H F H) (pot : ∀ p, C.p = some p → PotAt H p ∧ F p = none ∧ C.M p ∧ C.H p ≠ none) (hP : C.P = fun _ => none) : Okk C F H [] [] :=
  ⟨fun _ => [], ⟨go, pot, rfl, fun i s e => (nomatch e), fun i j a m => (nomatch m), fun i a m => (nomatch m), fun a o e => by rw [hP] at e; cases e⟩⟩
theorem okk_0 (s : Same F H) : Okk (cx0 K F H) F H [] [] := okk_nil (Go.refl s) (fun p e => nomatch e) rfl
theorem okk_P (s : Same F H) (f : F p = none) (t : PotAt H p) : Okk (cxP K p F H) F H [] [] := okk_nil (Go.refl s) (fun q e => by cases e; exact ⟨t, f, rfl, t.some⟩) rfl
theorem okk_no {o : Option V} (ok : Okk C F H σ δ) : Okk C F H (o :: σ) (.no :: δ) := by
  obtain ⟨A, k⟩ := ok
  refine ⟨fun j => match j with | 0 => [] | j + 1 => A j, ⟨k.go, k.pot, congrArg Nat.succ k.len, fun j t e => ?_, fun j i x ma mb => ?_, fun j x m => ?_, fun a o e => ⟨(k.prt a o e).1, (k.prt a o e).2.1, fun j m => ?_⟩⟩⟩
  · cases j with
    | zero =>
      cases e
      rfl
    | succ j => exact k.at_ j t e
  · cases j with
    | zero => cases ma
    | succ j =>
      cases i with
      | zero => cases mb
      | succ i => exact congrArg Nat.succ (k.dis j i x ma mb)
  · cases j with
    | zero => cases m
    | succ j =>
      obtain ⟨a1, a2⟩ := k.off j x m
      exact ⟨a1, by rw [List.length_cons]; omega⟩
  · cases j with
    | zero => cases m
    | succ j => exact (k.prt a o e).2.2 j m
theorem okk_fz {α : Type} [Fz α] {a : α} {v : V} (r : Fz.rep C.K F v a) (ok : Okk C F H σ δ) : Okk C F H (some v :: σ) (.fz a :: δ) := (okk_no (o := some v) ok).put (i := 0) (v := v) r (Nat.succ_pos _)
/-- the pot that was handed in -/
theorem okk_pt (s : Same F H) (f : F p = none) (t : PotAt H p) (ok : Okk (cxP K p F H) F H σ δ) (hd : ∀ A, Ok' (cxP K p F H) F H σ δ A → ∀ i, p ∉ A i) : Okk (cxP K p F H) F H (some (.ref p) :: σ) (.pt p :: δ) := by
  obtain ⟨A, k⟩ := ok
  have hd := hd A k
  refine ⟨fun j => match j with | 0 => [p] | j + 1 => A j, ⟨k.go, k.pot, congrArg Nat.succ k.len, fun j t' e => ?_, fun j i x ma mb => ?_, fun j x m => ?_, fun a o e => nomatch e⟩⟩
  · cases j with
    | zero =>
      cases e
      exact ⟨rfl, rfl, t, .inl rfl⟩
    | succ j => exact k.at_ j t' e
  · cases j with
    | zero =>
      cases i with
      | zero => rfl
      | succ i =>
        rw [List.mem_singleton.mp ma] at mb
        exact absurd mb (hd i)
    | succ j =>
      cases i with
      | zero =>
        rw [List.mem_singleton.mp mb] at ma
        exact absurd ma (hd j)
      | succ i => exact congrArg Nat.succ (k.dis j i x ma mb)
  · cases j with
    | zero =>
      rw [List.mem_singleton.mp m]
      exact ⟨f, Nat.succ_pos _⟩
    | succ j =>
      obtain ⟨a1, a2⟩ := k.off j x m
      exact ⟨a1, by rw [List.length_cons]; omega⟩
/-- slots that hold nothing that may change -/
def Flat (δ : List Sl) : Prop := ∀ s ∈ δ, match s with | .ow _ _ => False | .mu _ _ => False | .pt _ => False | _ => True
theorem flat_off {A : Nat → List Addr} (h : Flat δ) (k : Ok' C F H σ δ A) (i : Nat) : p ∉ A i := fun m => by
  have hi := (k.off i p m).2
  have hs := k.at_ i _ (List.getElem?_eq_getElem hi)
  have hf := h _ (List.getElem_mem hi)
  cases q : δ[i] with
  | no =>
    rw [q] at hs
    rw [show A i = [] from hs] at m
    cases m
  | fz a =>
    rw [q] at hs
    obtain ⟨v, _, e, _⟩ := hs
    rw [e] at m
    cases m
  | ow R a =>
    rw [q] at hf
    exact hf
  | mu R a =>
    rw [q] at hf
    exact hf
  | pt q' =>
    rw [q] at hf
    exact hf
theorem flat_nil : Flat [] := fun s m => nomatch m
theorem flat_no (h : Flat δ) : Flat (.no :: δ) := fun s m => by
  rcases List.mem_cons.mp m with e | e
  · rw [e]
    trivial
  · exact h s e
theorem flat_fz {α : Type} [Fz α] {a : α} (h : Flat δ) : Flat (.fz a :: δ) := fun s m => by
  rcases List.mem_cons.mp m with e | e
  · rw [e]
    trivial
  · exact h s e
theorem okk_pot (s : Same F H) (f : F p = none) (t : PotAt H p) (h : Flat δ) (ok : Okk (cxP K p F H) F H σ δ) : Okk (cxP K p F H) F H (some (.ref p) :: σ) (.pt p :: δ) := okk_pt s f t ok fun A k i => flat_off h k i
/-- a def's body that returns, and its promise -/
theorem fn_v (h : JV C (WO E) δx R δ t m) (ok : Okk C C.F C.H σ δ) (post : Post C.K C.M C.p C.F C.H R m Q E) : t (En Q) σ C.H := by
  refine h C.F C.H σ (En Q) ok (m.mono (fun r q v F' H' s ok' => ?_) (fun e q cls d σ' F' H' s x ok' => ?_) post)
  · obtain ⟨A, k⟩ := ok'
    obtain ⟨v', e, rp, fr⟩ := k.at_ 0 _ rfl
    cases (show some v = some v' from e)
    exact q v F' H' (A 0) k.go (fun q e => (k.pot q e).1) rp (fun x mx => ⟨(k.off 0 x mx).1, fr x mx⟩)
  · obtain ⟨A, k⟩ := ok'
    exact q cls d F' H' k.go (fun q e => (k.pot q e).1) x
/-- .. one that ends without a value -/
theorem fn_b {S : Type} {δ' : S → List Sl} {m : M S} (h : JB C (WO E) δx (oZ Unit) δ t δ' m) (ok : Okk C C.F C.H σ δ) (post : Post C.K C.M C.p C.F C.H (oZ Unit) (m.bind fun _ => M.pure ()) Q E) : t (En Q) σ C.H := by
  refine h C.F C.H σ (En Q) ok (m.mono (fun r q σ' F' H' s ok' => ?_) (fun e q cls d σ' F' H' s x ok' => ?_) post)
  · obtain ⟨A, k⟩ := ok'
    exact q .non F' H' [] k.go (fun q e => (k.pot q e).1) ⟨rfl, rfl⟩ (fun x mx => nomatch mx)
  · obtain ⟨A, k⟩ := ok'
    exact q cls d F' H' k.go (fun q e => (k.pot q e).1) x
/-- a call behind its arguments -/
theorem post_ok {G H1 : Hp} {Q' : VK} (ok : Okk C G H1 σ δ) (hs : Same F G) (q : m.run (fun a => ∀ v F' H', Same F F' → Okk C F' H' (some v :: σ) (.ow R a :: δ) → Q' v H') (EW C W δ σ F)) : Post C.K M0 none G H1 R m Q' (WE W σ) :=
  m.mono (fun r q v F' H' A g _ rp fr => q v F' H' (hs.trans g.ff) (ok.push g rp fr)) (fun e q cls d F' H' g _ x => q cls d F' H' (hs.trans g.ff) x (ok.step g)) q
theorem post_nx {G H1 : Hp} {Q' : VK} (ok : Okk C G H1 σ δ) (hs : Same F G) (q : m.nx.run (fun a => ∀ v F' H', Same F F' → Okk C F' H' (some v :: σ) (.ow R a :: δ) → Q' v H') (EW C W δ σ F)) : Post C.K M0 none G H1 R m Q' E0 :=
  m.mono (fun r q v F' H' A g _ rp fr => q v F' H' (hs.trans g.ff) (ok.push g rp fr)) (fun e z => z.elim) q
theorem postP_ok {i : Nat} {G H1 : Hp} {Q' : VK} (ok : Okk C G H1 σ δ) (hp : δ[i]? = some (.pt p)) (hs : Same F G) (q : m.run (fun a => ∀ v F' H', Same F F' → Okk C F' H' (some v :: σ) (.ow R a :: δ) → Q' v H') (EW C W δ σ F)) : Post C.K (M1 p) (some p) G H1 R m Q' (WE W σ) :=
  m.mono (fun r q v F' H' A g tp rp fr => q v F' H' (hs.trans g.ff) (ok.pushP hp g (tp p rfl) rp fr)) (fun e q cls d F' H' g tp x => q cls d F' H' (hs.trans g.ff) x (ok.drawn hp g (tp p rfl))) q
theorem postP_nx {i : Nat} {G H1 : Hp} {Q' : VK} (ok : Okk C G H1 σ δ) (hp : δ[i]? = some (.pt p)) (hs : Same F G) (q : m.nx.run (fun a => ∀ v F' H', Same F F' → Okk C F' H' (some v :: σ) (.ow R a :: δ) → Q' v H') (EW C W δ σ F)) : Post C.K (M1 p) (some p) G H1 R m Q' E0 :=
  m.mono (fun r q v F' H' A g tp rp fr => q v F' H' (hs.trans g.ff) (ok.pushP hp g (tp p rfl) rp fr)) (fun e z => z.elim) q
theorem pot_at {i : Nat} (ok : Okk C F H σ δ) (hp : δ[i]? = some (.pt p)) : σ[i]? = some (some (.ref p)) ∧ F p = none ∧ PotAt H p := by
  obtain ⟨A, k⟩ := ok
  obtain ⟨e, ea, t, _⟩ := k.at_ i _ hp
  refine ⟨?_, (k.off i p (by rw [ea]; exact List.mem_singleton.mpr rfl)).1, t⟩
  cases hs : σ[i]? with
  | none =>
    rw [hs] at e
    cases e
  | some o =>
    rw [hs] at e
    rw [show o = some (.ref p) from e]
/-- a value that stays, behind all -/
theorem JO.z {α : Type} [Fz α] {te : TE} {m : M α} (h : JO C W δ (oZ α) te m) : JE C W δ te m := fun F H σ Q ok r => h F H σ _ ok (m.mono (fun a q v F' H' s ok' => by
  obtain ⟨A, k⟩ := id ok'
  obtain ⟨v', e, ⟨_, rp⟩, _⟩ := k.at_ 0 _ rfl
  cases (show some v = some v' from e)
  exact q v F' H' s rp ok'.pop) (fun _ z => z) r)
/-- an object of the class c, by a method's name -/
def Obj (K : PySem.W.Frag) (α : Type) [Fz α] (c : Addr) (mt : Str) : Prop := ∀ F v (a : α), Fz.rep K F v a → ∃ ad dx fs, v = .ref ad ∧ F ad = some (.ins c dx fs) ∧ fs.lookup mt = none
end

section
variable {C : Ctx} {W : WX} {δ : List Sl} {ρ : Type} {R : Rp ρ} {A : Prop} {p : Addr} {i : Nat} {α β γ ε ζ η θ ι κ : Type} [Fz α] [Fz β] [Fz γ] [Fz ε] [Fz ζ] [Fz η] [Fz θ] [Fz ι] [Fz κ]
/-- a promise of 1 arguments -/
def Sp1 {α : Type} [Fz α] {ρ : Type} (A : Prop) (R : Rp ρ) (f : α → M ρ) (K : PySem.W.Frag) : Sp := fun vs H Q E => A ∧ ∃ (F : Hp) (a0 : α) (v0 : V), vs = [v0] ∧ Same F H ∧ Fz.rep K F v0 a0 ∧ Post K M0 none F H R (f a0) Q E
/-- a promise of 2 arguments -/
def Sp2 {α : Type} [Fz α] {β : Type} [Fz β] {ρ : Type} (A : Prop) (R : Rp ρ) (f : α → β → M ρ) (K : PySem.W.Frag) : Sp := fun vs H Q E => A ∧ ∃ (F : Hp) (a0 : α) (a1 : β) (v0 : V) (v1 : V), vs = [v0, v1] ∧ Same F H ∧ Fz.rep K F v0 a0 ∧ Fz.rep K F v1 a1 ∧ Post K M0 none F H R (f a0 a1) Q E
/-- a promise of 3 arguments -/
def Sp3 {α : Type} [Fz α] {β : Type} [Fz β] {γ : Type} [Fz γ] {ρ : Type} (A : Prop) (R : Rp ρ) (f : α → β → γ → M ρ) (K : PySem.W.Frag) : Sp := fun vs H Q E => A ∧ ∃ (F : Hp) (a0 : α) (a1 : β) (a2 : γ) (v0 : V) (v1 : V) (v2 : V), vs = [v0, v1, v2] ∧ Same F H ∧ Fz.rep K F v0 a0 ∧ Fz.rep K F v1 a1 ∧ Fz.rep K F v2 a2 ∧ Post K M0 none F H R (f a0 a1 a2) Q E
/-- a promise of 4 arguments -/
def Sp4 {α : Type} [Fz α] {β : Type} [Fz β] {γ : Type} [Fz γ] {ε : Type} [Fz ε] {ρ : Type} (A : Prop) (R : Rp ρ) (f : α → β → γ → ε → M ρ) (K : PySem.W.Frag) : Sp := fun vs H Q E => A ∧ ∃ (F : Hp) (a0 : α) (a1 : β) (a2 : γ) (a3 : ε) (v0 : V) (v1 : V) (v2 : V) (v3 : V), vs = [v0, v1, v2, v3] ∧ Same F H ∧ Fz.rep K F v0 a0 ∧ Fz.rep K F v1 a1 ∧ Fz.rep K F v2 a2 ∧ Fz.rep K F v3 a3 ∧ Post K M0 none F H R (f a0 a1 a2 a3) Q E
/-- a promise of 5 arguments -/
def Sp5 {α : Type} [Fz α] {β : Type} [Fz β] {γ : Type} [Fz γ] {ε : Type} [Fz ε] {ζ : Type} [Fz ζ] {ρ : Type} (A : Prop) (R : Rp ρ) (f : α → β → γ → ε → ζ → M ρ) (K : PySem.W.Frag) : Sp := fun vs H Q E => A ∧ ∃ (F : Hp) (a0 : α) (a1 : β) (a2 : γ) (a3 : ε) (a4 : ζ) (v0 : V) (v1 : V) (v2 : V) (v3 : V) (v4 : V), vs = [v0, v1, v2, v3, v4] ∧ Same F H ∧ Fz.rep K F v0 a0 ∧ Fz.rep K F v1 a1 ∧ Fz.rep K F v2 a2 ∧ Fz.rep K F v3 a3 ∧ Fz.rep K F v4 a4 ∧ Post K M0 none F H R (f a0 a1 a2 a3 a4) Q E
/-- a promise of 6 arguments -/
def Sp6 {α : Type} [Fz α] {β : Type} [Fz β] {γ : Type} [Fz γ] {ε : Type} [Fz ε] {ζ : Type} [Fz ζ] {η : Type} [Fz η] {ρ : Type} (A : Prop) (R : Rp ρ) (f : α → β → γ → ε → ζ → η → M ρ) (K : PySem.W.Frag) : Sp := fun vs H Q E => A ∧ ∃ (F : Hp) (a0 : α) (a1 : β) (a2 : γ) (a3 : ε) (a4 : ζ) (a5 : η) (v0 : V) (v1 : V) (v2 : V) (v3 : V) (v4 : V) (v5 : V), vs = [v0, v1, v2, v3, v4, v5] ∧ Same F H ∧ Fz.rep K F v0 a0 ∧ Fz.rep K F v1 a1 ∧ Fz.rep K F v2 a2 ∧ Fz.rep K F v3 a3 ∧ Fz.rep K F v4 a4 ∧ Fz.rep K F v5 a5 ∧ Post K M0 none F H R (f a0 a1 a2 a3 a4 a5) Q E
/-- a promise of 7 arguments -/
def Sp7 {α : Type} [Fz α] {β : Type} [Fz β] {γ : Type} [Fz γ] {ε : Type} [Fz ε] {ζ : Type} [Fz ζ] {η : Type} [Fz η] {θ : Type} [Fz θ] {ρ : Type} (A : Prop) (R : Rp ρ) (f : α → β → γ → ε → ζ → η → θ → M ρ) (K : PySem.W.Frag) : Sp := fun vs H Q E => A ∧ ∃ (F : Hp) (a0 : α) (a1 : β) (a2 : γ) (a3 : ε) (a4 : ζ) (a5 : η) (a6 : θ) (v0 : V) (v1 : V) (v2 : V) (v3 : V) (v4 : V) (v5 : V) (v6 : V), vs = [v0, v1, v2, v3, v4, v5, v6] ∧ Same F H ∧ Fz.rep K F v0 a0 ∧ Fz.rep K F v1 a1 ∧ Fz.rep K F v2 a2 ∧ Fz.rep K F v3 a3 ∧ Fz.rep K F v4 a4 ∧ Fz.rep K F v5 a5 ∧ Fz.rep K F v6 a6 ∧ Post K M0 none F H R (f a0 a1 a2 a3 a4 a5 a6) Q E
/-- a promise of 8 arguments -/
def Sp8 {α : Type} [Fz α] {β : Type} [Fz β] {γ : Type} [Fz γ] {ε : Type} [Fz ε] {ζ : Type} [Fz ζ] {η : Type} [Fz η] {θ : Type} [Fz θ] {ι : Type} [Fz ι] {ρ : Type} (A : Prop) (R : Rp ρ) (f : α → β → γ → ε → ζ → η → θ → ι → M ρ) (K : PySem.W.Frag) : Sp := fun vs H Q E => A ∧ ∃ (F : Hp) (a0 : α) (a1 : β) (a2 : γ) (a3 : ε) (a4 : ζ) (a5 : η) (a6 : θ) (a7 : ι) (v0 : V) (v1 : V) (v2 : V) (v3 : V) (v4 : V) (v5 : V) (v6 : V) (v7 : V), vs = [v0, v1, v2, v3, v4, v5, v6, v7] ∧ Same F H ∧ Fz.rep K F v0 a0 ∧ Fz.rep K F v1 a1 ∧ Fz.rep K F v2 a2 ∧ Fz.rep K F v3 a3 ∧ Fz.rep K F v4 a4 ∧ Fz.rep K F v5 a5 ∧ Fz.rep K F v6 a6 ∧ Fz.rep K F v7 a7 ∧ Post K M0 none F H R (f a0 a1 a2 a3 a4 a5 a6 a7) Q E
def SpP0  {ρ : Type} (A : Prop) (R : Rp ρ) (f : M ρ) (K : PySem.W.Frag) : Sp := fun vs H Q E => A ∧ ∃ (F : Hp) (p : Addr)  , vs = [.ref p] ∧ Same F H ∧ F p = none ∧ PotAt H p ∧ Post K (M1 p) (some p) F H R (f ) Q E
def SpP1 {α : Type} [Fz α] {ρ : Type} (A : Prop) (R : Rp ρ) (f : α → M ρ) (K : PySem.W.Frag) : Sp := fun vs H Q E => A ∧ ∃ (F : Hp) (p : Addr) (a0 : α) (v0 : V), vs = [.ref p, v0] ∧ Same F H ∧ F p = none ∧ PotAt H p ∧ Fz.rep K F v0 a0 ∧ Post K (M1 p) (some p) F H R (f a0) Q E
def SpP2 {α : Type} [Fz α] {β : Type} [Fz β] {ρ : Type} (A : Prop) (R : Rp ρ) (f : α → β → M ρ) (K : PySem.W.Frag) : Sp := fun vs H Q E => A ∧ ∃ (F : Hp) (p : Addr) (a0 : α) (a1 : β) (v0 : V) (v1 : V), vs = [.ref p, v0, v1] ∧ Same F H ∧ F p = none ∧ PotAt H p ∧ Fz.rep K F v0 a0 ∧ Fz.rep K F v1 a1 ∧ Post K (M1 p) (some p) F H R (f a0 a1) Q E
def SpP3 {α : Type} [Fz α] {β : Type} [Fz β] {γ : Type} [Fz γ] {ρ : Type} (A : Prop) (R : Rp ρ) (f : α → β → γ → M ρ) (K : PySem.W.Frag) : Sp := fun vs H Q E => A ∧ ∃ (F : Hp) (p : Addr) (a0 : α) (a1 : β) (a2 : γ) (v0 : V) (v1 : V) (v2 : V), vs = [.ref p, v0, v1, v2] ∧ Same F H ∧ F p = none ∧ PotAt H p ∧ Fz.rep K F v0 a0 ∧ Fz.rep K F v1 a1 ∧ Fz.rep K F v2 a2 ∧ Post K (M1 p) (some p) F H R (f a0 a1 a2) Q E
def SpP4 {α : Type} [Fz α] {β : Type} [Fz β] {γ : Type} [Fz γ] {ε : Type} [Fz ε] {ρ : Type} (A : Prop) (R : Rp ρ) (f : α → β → γ → ε → M ρ) (K : PySem.W.Frag) : Sp := fun vs H Q E => A ∧ ∃ (F : Hp) (p : Addr) (a0 : α) (a1 : β) (a2 : γ) (a3 : ε) (v0 : V) (v1 : V) (v2 : V) (v3 : V), vs = [.ref p, v0, v1, v2, v3] ∧ Same F H ∧ F p = none ∧ PotAt H p ∧ Fz.rep K F v0 a0 ∧ Fz.rep K F v1 a1 ∧ Fz.rep K F v2 a2 ∧ Fz.rep K F v3 a3 ∧ Post K (M1 p) (some p) F H R (f a0 a1 a2 a3) Q E
def SpP5 {α : Type} [Fz α] {β : Type} [Fz β] {γ : Type} [Fz γ] {ε : Type} [Fz ε] {ζ : Type} [Fz ζ] {ρ : Type} (A : Prop) (R : Rp ρ) (f : α → β → γ → ε → ζ → M ρ) (K : PySem.W.Frag) : Sp := fun vs H Q E => A ∧ ∃ (F : Hp) (p : Addr) (a0 : α) (a1 : β) (a2 : γ) (a3 : ε) (a4 : ζ) (v0 : V) (v1 : V) (v2 : V) (v3 : V) (v4 : V), vs = [.ref p, v0, v1, v2, v3, v4] ∧ Same F H ∧ F p = none ∧ PotAt H p ∧ Fz.rep K F v0 a0 ∧ Fz.rep K F v1 a1 ∧ Fz.rep K F v2 a2 ∧ Fz.rep K F v3 a3 ∧ Fz.rep K F v4 a4 ∧ Post K (M1 p) (some p) F H R (f a0 a1 a2 a3 a4) Q E
def SpP6 {α : Type} [Fz α] {β : Type} [Fz β] {γ : Type} [Fz γ] {ε : Type} [Fz ε] {ζ : Type} [Fz ζ] {η : Type} [Fz η] {ρ : Type} (A : Prop) (R : Rp ρ) (f : α → β → γ → ε → ζ → η → M ρ) (K : PySem.W.Frag) : Sp := fun vs H Q E => A ∧ ∃ (F : Hp) (p : Addr) (a0 : α) (a1 : β) (a2 : γ) (a3 : ε) (a4 : ζ) (a5 : η) (v0 : V) (v1 : V) (v2 : V) (v3 : V) (v4 : V) (v5 : V), vs = [.ref p, v0, v1, v2, v3, v4, v5] ∧ Same F H ∧ F p = none ∧ PotAt H p ∧ Fz.rep K F v0 a0 ∧ Fz.rep K F v1 a1 ∧ Fz.rep K F v2 a2 ∧ Fz.rep K F v3 a3 ∧ Fz.rep K F v4 a4 ∧ Fz.rep K F v5 a5 ∧ Post K (M1 p) (some p) F H R (f a0 a1 a2 a3 a4 a5) Q E
def SpP7 {α : Type} [Fz α] {β : Type} [Fz β] {γ : Type} [Fz γ] {ε : Type} [Fz ε] {ζ : Type} [Fz ζ] {η : Type} [Fz η] {θ : Type} [Fz θ] {ρ : Type} (A : Prop) (R : Rp ρ) (f : α → β → γ → ε → ζ → η → θ → M ρ) (K : PySem.W.Frag) : Sp := fun vs H Q E => A ∧ ∃ (F : Hp) (p : Addr) (a0 : α) (a1 : β) (a2 : γ) (a3 : ε) (a4 : ζ) (a5 : η) (a6 : θ) (v0 : V) (v1 : V) (v2 : V) (v3 : V) (v4 : V) (v5 : V) (v6 : V), vs = [.ref p, v0, v1, v2, v3, v4, v5, v6] ∧ Same F H ∧ F p = none ∧ PotAt H p ∧ Fz.rep K F v0 a0 ∧ Fz.rep K F v1 a1 ∧ Fz.rep K F v2 a2 ∧ Fz.rep K F v3 a3 ∧ Fz.rep K F v4 a4 ∧ Fz.rep K F v5 a5 ∧ Fz.rep K F v6 a6 ∧ Post K (M1 p) (some p) F H R (f a0 a1 a2 a3 a4 a5 a6) Q E
theorem k_call1S {f : α → M ρ} (hA : A) {t0 : TE} {m0 : M α} (h0 : JE C W δ t0 m0) : JO C W δ R (tFS (Sp1 A R f C.K) W (tCons t0 tNil)) ((m0).bind fun a0 => f a0) := fun F0 H0 σ Q ok0 q0 => h0 F0 H0 σ _ ok0 ((m0).mono (fun a0 q1 v0 F1 H1 s0 r0 ok1 => ⟨hA, F1, a0, v0, rfl, ok1.same, Fz.mono (Same.refl _) r0, post_ok ok1 s0 q1⟩) (fun e z => z) q0)
theorem k_meth1S {f : α → M ρ} {c : Addr} {mt : Str} (hA : A) (ho : Obj C.K α c mt) {t0 : TE} {m0 : M α} (h0 : JE C W δ t0 m0) : JO C W δ R (tMS c mt (Sp1 A R f C.K) W t0 tNil) ((m0).bind fun a0 => f a0) := fun F0 H0 σ Q ok0 q0 => h0 F0 H0 σ _ ok0 ((m0).mono (fun a0 q1 v0 F1 H1 s0 r0 ok1 => (ho F1 v0 a0 r0).elim fun ad hx => hx.elim fun dx hy => hy.elim fun fs hz => ⟨ad, dx, fs, hz.1, ok1.same _ _ hz.2.1, hz.2.2, ⟨hA, F1, a0, v0, rfl, ok1.same, Fz.mono (Same.refl _) r0, post_ok ok1 s0 q1⟩⟩) (fun e z => z) q0)
theorem k_call1 {f : α → M ρ} (hA : A) {t0 : TE} {m0 : M α} (h0 : JE C W δ t0 m0) : JO C W δ R (tF (Sp1 A R f C.K) E0 (tCons t0 tNil)) ((m0).bind fun a0 => (f a0).nx) := fun F0 H0 σ Q ok0 q0 => h0 F0 H0 σ _ ok0 ((m0).mono (fun a0 q1 v0 F1 H1 s0 r0 ok1 => ⟨hA, F1, a0, v0, rfl, ok1.same, Fz.mono (Same.refl _) r0, post_nx ok1 s0 q1⟩) (fun e z => z) q0)
theorem k_meth1 {f : α → M ρ} {c : Addr} {mt : Str} (hA : A) (ho : Obj C.K α c mt) {t0 : TE} {m0 : M α} (h0 : JE C W δ t0 m0) : JO C W δ R (tM c mt (Sp1 A R f C.K) E0 t0 tNil) ((m0).bind fun a0 => (f a0).nx) := fun F0 H0 σ Q ok0 q0 => h0 F0 H0 σ _ ok0 ((m0).mono (fun a0 q1 v0 F1 H1 s0 r0 ok1 => (ho F1 v0 a0 r0).elim fun ad hx => hx.elim fun dx hy => hy.elim fun fs hz => ⟨ad, dx, fs, hz.1, ok1.same _ _ hz.2.1, hz.2.2, ⟨hA, F1, a0, v0, rfl, ok1.same, Fz.mono (Same.refl _) r0, post_nx ok1 s0 q1⟩⟩) (fun e z => z) q0)
theorem k_call2S {f : α → β → M ρ} (hA : A) {t0 : TE} {m0 : M α} {t1 : TE} {m1 : M β} (h0 : JE C W δ t0 m0) (h1 : JE C W δ t1 m1) : JO C W δ R (tFS (Sp2 A R f C.K) W (tCons t0 (tCons t1 tNil))) ((m0).bind fun a0 => (m1).bind fun a1 => f a0 a1) := fun F0 H0 σ Q ok0 q0 => h0 F0 H0 σ _ ok0 ((m0).mono (fun a0 q1 v0 F1 H1 s0 r0 ok1 => h1 F1 H1 σ _ ok1 ((m1).mono (fun a1 q2 v1 F2 H2 s1 r1 ok2 => ⟨hA, F2, a0, a1, v0, v1, rfl, ok2.same, Fz.mono s1 r0, Fz.mono (Same.refl _) r1, post_ok ok2 (s0.trans s1) q2⟩) (fun e z => EW.mono s0 z) q1)) (fun e z => z) q0)
theorem k_meth2S {f : α → β → M ρ} {c : Addr} {mt : Str} (hA : A) (ho : Obj C.K α c mt) {t0 : TE} {m0 : M α} {t1 : TE} {m1 : M β} (h0 : JE C W δ t0 m0) (h1 : JE C W δ t1 m1) : JO C W δ R (tMS c mt (Sp2 A R f C.K) W t0 (tCons t1 tNil)) ((m0).bind fun a0 => (m1).bind fun a1 => f a0 a1) := fun F0 H0 σ Q ok0 q0 => h0 F0 H0 σ _ ok0 ((m0).mono (fun a0 q1 v0 F1 H1 s0 r0 ok1 => (ho F1 v0 a0 r0).elim fun ad hx => hx.elim fun dx hy => hy.elim fun fs hz => ⟨ad, dx, fs, hz.1, ok1.same _ _ hz.2.1, hz.2.2, h1 F1 H1 σ _ ok1 ((m1).mono (fun a1 q2 v1 F2 H2 s1 r1 ok2 => ⟨hA, F2, a0, a1, v0, v1, rfl, ok2.same, Fz.mono s1 r0, Fz.mono (Same.refl _) r1, post_ok ok2 (s0.trans s1) q2⟩) (fun e z => EW.mono s0 z) q1)⟩) (fun e z => z) q0)
theorem k_call2 {f : α → β → M ρ} (hA : A) {t0 : TE} {m0 : M α} {t1 : TE} {m1 : M β} (h0 : JE C W δ t0 m0) (h1 : JE C W δ t1 m1) : JO C W δ R (tF (Sp2 A R f C.K) E0 (tCons t0 (tCons t1 tNil))) ((m0).bind fun a0 => (m1).bind fun a1 => (f a0 a1).nx) := fun F0 H0 σ Q ok0 q0 => h0 F0 H0 σ _ ok0 ((m0).mono (fun a0 q1 v0 F1 H1 s0 r0 ok1 => h1 F1 H1 σ _ ok1 ((m1).mono (fun a1 q2 v1 F2 H2 s1 r1 ok2 => ⟨hA, F2, a0, a1, v0, v1, rfl, ok2.same, Fz.mono s1 r0, Fz.mono (Same.refl _) r1, post_nx ok2 (s0.trans s1) q2⟩) (fun e z => EW.mono s0 z) q1)) (fun e z => z) q0)
theorem k_meth2 {f : α → β → M ρ} {c : Addr} {mt : Str} (hA : A) (ho : Obj C.K α c mt) {t0 : TE} {m0 : M α} {t1 : TE} {m1 : M β} (h0 : JE C W δ t0 m0) (h1 : JE C W δ t1 m1) : JO C W δ R (tM c mt (Sp2 A R f C.K) E0 t0 (tCons t1 tNil)) ((m0).bind fun a0 => (m1).bind fun a1 => (f a0 a1).nx) := fun F0 H0 σ Q ok0 q0 => h0 F0 H0 σ _ ok0 ((m0).mono (fun a0 q1 v0 F1 H1 s0 r0 ok1 => (ho F1 v0 a0 r0).elim fun ad hx => hx.elim fun dx hy => hy.elim fun fs hz => ⟨ad, dx, fs, hz.1, ok1.same _ _ hz.2.1, hz.2.2, h1 F1 H1 σ _ ok1 ((m1).mono (fun a1 q2 v1 F2 H2 s1 r1 ok2 => ⟨hA, F2, a0, a1, v0, v1, rfl, ok2.same, Fz.mono s1 r0, Fz.mono (Same.refl _) r1, post_nx ok2 (s0.trans s1) q2⟩) (fun e z => EW.mono s0 z) q1)⟩) (fun e z => z) q0)
theorem k_call3S {f : α → β → γ → M ρ} (hA : A) {t0 : TE} {m0 : M α} {t1 : TE} {m1 : M β} {t2 : TE} {m2 : M γ} (h0 : JE C W δ t0 m0) (h1 : JE C W δ t1 m1) (h2 : JE C W δ t2 m2) : JO C W δ R (tFS (Sp3 A R f C.K) W (tCons t0 (tCons t1 (tCons t2 tNil)))) ((m0).bind fun a0 => (m1).bind fun a1 => (m2).bind fun a2 => f a0 a1 a2) := fun F0 H0 σ Q ok0 q0 => h0 F0 H0 σ _ ok0 ((m0).mono (fun a0 q1 v0 F1 H1 s0 r0 ok1 => h1 F1 H1 σ _ ok1 ((m1).mono (fun a1 q2 v1 F2 H2 s1 r1 ok2 => h2 F2 H2 σ _ ok2 ((m2).mono (fun a2 q3 v2 F3 H3 s2 r2 ok3 => ⟨hA, F3, a0, a1, a2, v0, v1, v2, rfl, ok3.same, Fz.mono (s1.trans s2) r0, Fz.mono s2 r1, Fz.mono (Same.refl _) r2, post_ok ok3 ((s0.trans s1).trans s2) q3⟩) (fun e z => EW.mono (s0.trans s1) z) q2)) (fun e z => EW.mono s0 z) q1)) (fun e z => z) q0)
theorem k_meth3S {f : α → β → γ → M ρ} {c : Addr} {mt : Str} (hA : A) (ho : Obj C.K α c mt) {t0 : TE} {m0 : M α} {t1 : TE} {m1 : M β} {t2 : TE} {m2 : M γ} (h0 : JE C W δ t0 m0) (h1 : JE C W δ t1 m1) (h2 : JE C W δ t2 m2) : JO C W δ R (tMS c mt (Sp3 A R f C.K) W t0 (tCons t1 (tCons t2 tNil))) ((m0).bind fun a0 => (m1).bind fun a1 => (m2).bind fun a2 => f a0 a1 a2) := fun F0 H0 σ Q ok0 q0 => h0 F0 H0 σ _ ok0 ((m0).mono (fun a0 q1 v0 F1 H1 s0 r0 ok1 => (ho F1 v0 a0 r0).elim fun ad hx => hx.elim fun dx hy => hy.elim fun fs hz => ⟨ad, dx, fs, hz.1, ok1.same _ _ hz.2.1, hz.2.2, h1 F1 H1 σ _ ok1 ((m1).mono (fun a1 q2 v1 F2 H2 s1 r1 ok2 => h2 F2 H2 σ _ ok2 ((m2).mono (fun a2 q3 v2 F3 H3 s2 r2 ok3 => ⟨hA, F3, a0, a1, a2, v0, v1, v2, rfl, ok3.same, Fz.mono (s1.trans s2) r0, Fz.mono s2 r1, Fz.mono (Same.refl _) r2, post_ok ok3 ((s0.trans s1).trans s2) q3⟩) (fun e z => EW.mono (s0.trans s1) z) q2)) (fun e z => EW.mono s0 z) q1)⟩) (fun e z => z) q0)
theorem k_call3 {f : α → β → γ → M ρ} (hA : A) {t0 : TE} {m0 : M α} {t1 : TE} {m1 : M β} {t2 : TE} {m2 : M γ} (h0 : JE C W δ t0 m0) (h1 : JE C W δ t1 m1) (h2 : JE C W δ t2 m2) : JO C W δ R (tF (Sp3 A R f C.K) E0 (tCons t0 (tCons t1 (tCons t2 tNil)))) ((m0).bind fun a0 => (m1).bind fun a1 => (m2).bind fun a2 => (f a0 a1 a2).nx) := fun F0 H0 σ Q ok0 q0 => h0 F0 H0 σ _ ok0 ((m0).mono (fun a0 q1 v0 F1 H1 s0 r0 ok1 => h1 F1 H1 σ _ ok1 ((m1).mono (fun a1 q2 v1 F2 H2 s1 r1 ok2 => h2 F2 H2 σ _ ok2 ((m2).mono (fun a2 q3 v2 F3 H3 s2 r2 ok3 => ⟨hA, F3, a0, a1, a2, v0, v1, v2, rfl, ok3.same, Fz.mono (s1.trans s2) r0, Fz.mono s2 r1, Fz.mono (Same.refl _) r2, post_nx ok3 ((s0.trans s1).trans s2) q3⟩) (fun e z => EW.mono (s0.trans s1) z) q2)) (fun e z => EW.mono s0 z) q1)) (fun e z => z) q0)
theorem k_meth3 {f : α → β → γ → M ρ} {c : Addr} {mt : Str} (hA : A) (ho : Obj C.K α c mt) {t0 : TE} {m0 : M α} {t1 : TE} {m1 : M β} {t2 : TE} {m2 : M γ} (h0 : JE C W δ t0 m0) (h1 : JE C W δ t1 m1) (h2 : JE C W δ t2 m2) : JO C W δ R (tM c mt (Sp3 A R f C.K) E0 t0 (tCons t1 (tCons t2 tNil))) ((m0).bind fun a0 => (m1).bind fun a1 => (m2).bind fun a2 => (f a0 a1 a2).nx) := fun F0 H0 σ Q ok0 q0 => h0 F0 H0 σ _ ok0 ((m0).mono (fun a0 q1 v0 F1 H1 s0 r0 ok1 => (ho F1 v0 a0 r0).elim fun ad hx => hx.elim fun dx hy => hy.elim fun fs hz => ⟨ad, dx, fs, hz.1, ok1.same _ _ hz.2.1, hz.2.2, h1 F1 H1 σ _ ok1 ((m1).mono (fun a1 q2 v1 F2 H2 s1 r1 ok2 => h2 F2 H2 σ _ ok2 ((m2).mono (fun a2 q3 v2 F3 H3 s2 r2 ok3 => ⟨hA, F3, a0, a1, a2, v0, v1, v2, rfl, ok3.same, Fz.mono (s1.trans s2) r0, Fz.mono s2 r1, Fz.mono (Same.refl _) r2, post_nx ok3 ((s0.trans s1).trans s2) q3⟩) (fun e z => EW.mono (s0.trans s1) z) q2)) (fun e z => EW.mono s0 z) q1)⟩) (fun e z => z) q0)
theorem k_call4S {f : α → β → γ → ε → M ρ} (hA : A) {t0 : TE} {m0 : M α} {t1 : TE} {m1 : M β} {t2 : TE} {m2 : M γ} {t3 : TE} {m3 : M ε} (h0 : JE C W δ t0 m0) (h1 : JE C W δ t1 m1) (h2 : JE C W δ t2 m2) (h3 : JE C W δ t3 m3) : JO C W δ R (tFS (Sp4 A R f C.K) W (tCons t0 (tCons t1 (tCons t2 (tCons t3 tNil))))) ((m0).bind fun a0 => (m1).bind fun a1 => (m2).bind fun a2 => (m3).bind fun a3 => f a0 a1 a2 a3) := fun F0 H0 σ Q ok0 q0 => h0 F0 H0 σ _ ok0 ((m0).mono (fun a0 q1 v0 F1 H1 s0 r0 ok1 => h1 F1 H1 σ _ ok1 ((m1).mono (fun a1 q2 v1 F2 H2 s1 r1 ok2 => h2 F2 H2 σ _ ok2 ((m2).mono (fun a2 q3 v2 F3 H3 s2 r2 ok3 => h3 F3 H3 σ _ ok3 ((m3).mono (fun a3 q4 v3 F4 H4 s3 r3 ok4 => ⟨hA, F4, a0, a1, a2, a3, v0, v1, v2, v3, rfl, ok4.same, Fz.mono ((s1.trans s2).trans s3) r0, Fz.mono (s2.trans s3) r1, Fz.mono s3 r2, Fz.mono (Same.refl _) r3, post_ok ok4 (((s0.trans s1).trans s2).trans s3) q4⟩) (fun e z => EW.mono ((s0.trans s1).trans s2) z) q3)) (fun e z => EW.mono (s0.trans s1) z) q2)) (fun e z => EW.mono s0 z) q1)) (fun e z => z) q0)
theorem k_meth4S {f : α → β → γ → ε → M ρ} {c : Addr} {mt : Str} (hA : A) (ho : Obj C.K α c mt) {t0 : TE} {m0 : M α} {t1 : TE} {m1 : M β} {t2 : TE} {m2 : M γ} {t3 : TE} {m3 : M ε} (h0 : JE C W δ t0 m0) (h1 : JE C W δ t1 m1) (h2 : JE C W δ t2 m2) (h3 : JE C W δ t3 m3) : JO C W δ R (tMS c mt (Sp4 A R f C.K) W t0 (tCons t1 (tCons t2 (tCons t3 tNil)))) ((m0).bind fun a0 => (m1).bind fun a1 => (m2).bind fun a2 => (m3).bind fun a3 => f a0 a1 a2 a3) := fun F0 H0 σ Q ok0 q0 => h0 F0 H0 σ _ ok0 ((m0).mono (fun a0 q1 v0 F1 H1 s0 r0 ok1 => (ho F1 v0 a0 r0).elim fun ad hx => hx.elim fun dx hy => hy.elim fun fs hz => ⟨ad, dx, fs, hz.1, ok1.same _ _ hz.2.1, hz.2.2, h1 F1 H1 σ _ ok1 ((m1).mono (fun a1 q2 v1 F2 H2 s1 r1 ok2 => h2 F2 H2 σ _ ok2 ((m2).mono (fun a2 q3 v2 F3 H3 s2 r2 ok3 => h3 F3 H3 σ _ ok3 ((m3).mono (fun a3 q4 v3 F4 H4 s3 r3 ok4 => ⟨hA, F4, a0, a1, a2, a3, v0, v1, v2, v3, rfl, ok4.same, Fz.mono ((s1.trans s2).trans s3) r0, Fz.mono (s2.trans s3) r1, Fz.mono s3 r2, Fz.mono (Same.refl _) r3, post_ok ok4 (((s0.trans s1).trans s2).trans s3) q4⟩) (fun e z => EW.mono ((s0.trans s1).trans s2) z) q3)) (fun e z => EW.mono (s0.trans s1) z) q2)) (fun e z => EW.mono s0 z) q1)⟩) (fun e z => z) q0)
theorem k_call4 {f : α → β → γ → ε → M ρ} (hA : A) {t0 : TE} {m0 : M α} {t1 : TE} {m1 : M β} {t2 : TE} {m2 : M γ} {t3 : TE} {m3 : M ε} (h0 : JE C W δ t0 m0) (h1 : JE C W δ t1 m1) (h2 : JE C W δ t2 m2) (h3 : JE C W δ t3 m3) : JO C W δ R (tF (Sp4 A R f C.K) E0 (tCons t0 (tCons t1 (tCons t2 (tCons t3 tNil))))) ((m0).bind fun a0 => (m1).bind fun a1 => (m2).bind fun a2 => (m3).bind fun a3 => (f a0 a1 a2 a3).nx) := fun F0 H0 σ Q ok0 q0 => h0 F0 H0 σ _ ok0 ((m0).mono (fun a0 q1 v0 F1 H1 s0 r0 ok1 => h1 F1 H1 σ _ ok1 ((m1).mono (fun a1 q2 v1 F2 H2 s1 r1 ok2 => h2 F2 H2 σ _ ok2 ((m2).mono (fun a2 q3 v2 F3 H3 s2 r2 ok3 => h3 F3 H3 σ _ ok3 ((m3).mono (fun a3 q4 v3 F4 H4 s3 r3 ok4 => ⟨hA, F4, a0, a1, a2, a3, v0, v1, v2, v3, rfl, ok4.same, Fz.mono ((s1.trans s2).trans s3) r0, Fz.mono (s2.trans s3) r1, Fz.mono s3 r2, Fz.mono (Same.refl _) r3, post_nx ok4 (((s0.trans s1).trans s2).trans s3) q4⟩) (fun e z => EW.mono ((s0.trans s1).trans s2) z) q3)) (fun e z => EW.mono (s0.trans s1) z) q2)) (fun e z => EW.mono s0 z) q1)) (fun e z => z) q0)
theorem k_meth4 {f : α → β → γ → ε → M ρ} {c : Addr} {mt : Str} (hA : A) (ho : Obj C.K α c mt) {t0 : TE} {m0 : M α} {t1 : TE} {m1 : M β} {t2 : TE} {m2 : M γ} {t3 : TE} {m3 : M ε} (h0 : JE C W δ t0 m0) (h1 : JE C W δ t1 m1) (h2 : JE C W δ t2 m2) (h3 : JE C W δ t3 m3) : JO C W δ R (tM c mt (Sp4 A R f C.K) E0 t0 (tCons t1 (tCons t2 (tCons t3 tNil)))) ((m0).bind fun a0 => (m1).bind fun a1 => (m2).bind fun a2 => (m3).bind fun a3 => (f a0 a1 a2 a3).nx) := fun F0 H0 σ Q ok0 q0 => h0 F0 H0 σ _ ok0 ((m0).mono (fun a0 q1 v0 F1 H1 s0 r0 ok1 => (ho F1 v0 a0 r0).elim fun ad hx => hx.elim fun dx hy => hy.elim fun fs hz => ⟨ad, dx, fs, hz.1, ok1.same _ _ hz.2.1, hz.2.2, h1 F1 H1 σ _ ok1 ((m1).mono (fun a1 q2 v1 F2 H2 s1 r1 ok2 => h2 F2 H2 σ _ ok2 ((m2).mono (fun a2 q3 v2 F3 H3 s2 r2 ok3 => h3 F3 H3 σ _ ok3 ((m3).mono (fun a3 q4 v3 F4 H4 s3 r3 ok4 => ⟨hA, F4, a0, a1, a2, a3, v0, v1, v2, v3, rfl, ok4.same, Fz.mono ((s1.trans s2).trans s3) r0, Fz.mono (s2.trans s3) r1, Fz.mono s3 r2, Fz.mono (Same.refl _) r3, post_nx ok4 (((s0.trans s1).trans s2).trans s3) q4⟩) (fun e z => EW.mono ((s0.trans s1).trans s2) z) q3)) (fun e z => EW.mono (s0.trans s1) z) q2)) (fun e z => EW.mono s0 z) q1)⟩) (fun e z => z) q0)
theorem k_call5S {f : α → β → γ → ε → ζ → M ρ} (hA : A) {t0 : TE} {m0 : M α} {t1 : TE} {m1 : M β} {t2 : TE} {m2 : M γ} {t3 : TE} {m3 : M ε} {t4 : TE} {m4 : M ζ} (h0 : JE C W δ t0 m0) (h1 : JE C W δ t1 m1) (h2 : JE C W δ t2 m2) (h3 : JE C W δ t3 m3) (h4 : JE C W δ t4 m4) : JO C W δ R (tFS (Sp5 A R f C.K) W (tCons t0 (tCons t1 (tCons t2 (tCons t3 (tCons t4 tNil)))))) ((m0).bind fun a0 => (m1).bind fun a1 => (m2).bind fun a2 => (m3).bind fun a3 => (m4).bind fun a4 => f a0 a1 a2 a3 a4) := fun F0 H0 σ Q ok0 q0 => h0 F0 H0 σ _ ok0 ((m0).mono (fun a0 q1 v0 F1 H1 s0 r0 ok1 => h1 F1 H1 σ _ ok1 ((m1).mono (fun a1 q2 v1 F2 H2 s1 r1 ok2 => h2 F2 H2 σ _ ok2 ((m2).mono (fun a2 q3 v2 F3 H3 s2 r2 ok3 => h3 F3 H3 σ _ ok3 ((m3).mono (fun a3 q4 v3 F4 H4 s3 r3 ok4 => h4 F4 H4 σ _ ok4 ((m4).mono (fun a4 q5 v4 F5 H5 s4 r4 ok5 => ⟨hA, F5, a0, a1, a2, a3, a4, v0, v1, v2, v3, v4, rfl, ok5.same, Fz.mono (((s1.trans s2).trans s3).trans s4) r0, Fz.mono ((s2.trans s3).trans s4) r1, Fz.mono (s3.trans s4) r2, Fz.mono s4 r3, Fz.mono (Same.refl _) r4, post_ok ok5 ((((s0.trans s1).trans s2).trans s3).trans s4) q5⟩) (fun e z => EW.mono (((s0.trans s1).trans s2).trans s3) z) q4)) (fun e z => EW.mono ((s0.trans s1).trans s2) z) q3)) (fun e z => EW.mono (s0.trans s1) z) q2)) (fun e z => EW.mono s0 z) q1)) (fun e z => z) q0)
theorem k_meth5S {f : α → β → γ → ε → ζ → M ρ} {c : Addr} {mt : Str} (hA : A) (ho : Obj C.K α c mt) {t0 : TE} {m0 : M α} {t1 : TE} {m1 : M β} {t2 : TE} {m2 : M γ} {t3 : TE} {m3 : M ε} {t4 : TE} {m4 : M ζ} (h0 : JE C W δ t0 m0) (h1 : JE C W δ t1 m1) (h2 : JE C W δ t2 m2) (h3 : JE C W δ t3 m3) (h4 : JE C W δ t4 m4) : JO C W δ R (tMS c mt (Sp5 A R f C.K) W t0 (tCons t1 (tCons t2 (tCons t3 (tCons t4 tNil))))) ((m0).bind fun a0 => (m1).bind fun a1 => (m2).bind fun a2 => (m3).bind fun a3 => (m4).bind fun a4 => f a0 a1 a2 a3 a4) := fun F0 H0 σ Q ok0 q0 => h0 F0 H0 σ _ ok0 ((m0).mono (fun a0 q1 v0 F1 H1 s0 r0 ok1 => (ho F1 v0 a0 r0).elim fun ad hx => hx.elim fun dx hy => hy.elim fun fs hz => ⟨ad, dx, fs, hz.1, ok1.same _ _ hz.2.1, hz.2.2, h1 F1 H1 σ _ ok1 ((m1).mono (fun a1 q2 v1 F2 H2 s1 r1 ok2 => h2 F2 H2 σ _ ok2 ((m2).mono (fun a2 q3 v2 F3 H3 s2 r2 ok3 => h3 F3 H3 σ _ ok3 ((m3).mono (fun a3 q4 v3 F4 H4 s3 r3 ok4 => h4 F4 H4 σ _ ok4 ((m4).mono (fun a4 q5 v4 F5 H5 s4 r4 ok5 => ⟨hA, F5, a0, a1, a2, a3, a4, v0, v1, v2, v3, v4, rfl, ok5.same, Fz.mono (((s1.trans s2).trans s3).trans s4) r0, Fz.mono ((s2.trans s3).trans s4) r1, Fz.mono (s3.trans s4) r2, Fz.mono s4 r3, Fz.mono (Same.refl _) r4, post_ok ok5 ((((s0.trans s1).trans s2).trans s3).trans s4) q5⟩) (fun e z => EW.mono (((s0.trans s1).trans s2).trans s3) z) q4)) (fun e z => EW.mono ((s0.trans s1).trans s2) z) q3)) (fun e z => EW.mono (s0.trans s1) z) q2)) (fun e z => EW.mono s0 z) q1)⟩) (fun e z => z) q0)
theorem k_call5 {f : α → β → γ → ε → ζ → M ρ} (hA : A) {t0 : TE} {m0 : M α} {t1 : TE} {m1 : M β} {t2 : TE} {m2 : M γ} {t3 : TE} {m3 : M ε} {t4 : TE} {m4 : M ζ} (h0 : JE C W δ t0 m0) (h1 : JE C W δ t1 m1) (h2 : JE C W δ t2 m2) (h3 : JE C W δ t3 m3) (h4 : JE C W δ t4 m4) : JO C W δ R (tF (Sp5 A R f C.K) E0 (tCons t0 (tCons t1 (tCons t2 (tCons t3 (tCons t4 tNil)))))) ((m0).bind fun a0 => (m1).bind fun a1 => (m2).bind fun a2 => (m3).bind fun a3 => (m4).bind fun a4 => (f a0 a1 a2 a3 a4).nx) := fun F0 H0 σ Q ok0 q0 => h0 F0 H0 σ _ ok0 ((m0).mono (fun a0 q1 v0 F1 H1 s0 r0 ok1 => h1 F1 H1 σ _ ok1 ((m1).mono (fun a1 q2 v1 F2 H2 s1 r1 ok2 => h2 F2 H2 σ _ ok2 ((m2).mono (fun a2 q3 v2 F3 H3 s2 r2 ok3 => h3 F3 H3 σ _ ok3 ((m3).mono (fun a3 q4 v3 F4 H4 s3 r3 ok4 => h4 F4 H4 σ _ ok4 ((m4).mono (fun a4 q5 v4 F5 H5 s4 r4 ok5 => ⟨hA, F5, a0, a1, a2, a3, a4, v0, v1, v2, v3, v4, rfl, ok5.same, Fz.mono (((s1.trans s2).trans s3).trans s4) r0, Fz.mono ((s2.trans s3).trans s4) r1, Fz.mono (s3.trans s4) r2, Fz.mono s4 r3, Fz.mono (Same.refl _) r4, post_nx ok5 ((((s0.trans s1).trans s2).trans s3).trans s4) q5⟩) (fun e z => EW.mono (((s0.trans s1).trans s2).trans s3) z) q4)) (fun e z => EW.mono ((s0.trans s1).trans s2) z) q3)) (fun e z => EW.mono (s0.trans s1) z) q2)) (fun e z => EW.mono s0 z) q1)) (fun e z => z) q0)
theorem k_meth5 {f : α → β → γ → ε → ζ → M ρ} {c : Addr} {mt : Str} (hA : A) (ho : Obj C.K α c mt) {t0 : TE} {m0 : M α} {t1 : TE} {m1 : M β} {t2 : TE} {m2 : M γ} {t3 : TE} {m3 : M ε} {t4 : TE} {m4 : M ζ} (h0 : JE C W δ t0 m0) (h1 : JE C W δ t1 m1) (h2 : JE C W δ t2 m2) (h3 : JE C W δ t3 m3) (h4 : JE C W δ t4 m4) : JO C W δ R (tM c mt (Sp5 A R f C.K) E0 t0 (tCons t1 (tCons t2 (tCons t3 (tCons t4 tNil))))) ((m0).bind fun a0 => (m1).bind fun a1 => (m2).bind fun a2 => (m3).bind fun a3 => (m4).bind fun a4 => (f a0 a1 a2 a3 a4).nx) := fun F0 H0 σ Q ok0 q0 => h0 F0 H0 σ _ ok0 ((m0).mono (fun a0 q1 v0 F1 H1 s0 r0 ok1 => (ho F1 v0 a0 r0).elim fun ad hx => hx.elim fun dx hy => hy.elim fun fs hz => ⟨ad, dx, fs, hz.1, ok1.same _ _ hz.2.1, hz.2.2, h1 F1 H1 σ _ ok1 ((m1).mono (fun a1 q2 v1 F2 H2 s1 r1 ok2 => h2 F2 H2 σ _ ok2 ((m2).mono (fun a2 q3 v2 F3 H3 s2 r2 ok3 => h3 F3 H3 σ _ ok3 ((m3).mono (fun a3 q4 v3 F4 H4 s3 r3 ok4 => h4 F4 H4 σ _ ok4 ((m4).mono (fun a4 q5 v4 F5 H5 s4 r4 ok5 => ⟨hA, F5, a0, a1, a2, a3, a4, v0, v1, v2, v3, v4, rfl, ok5.same, Fz.mono (((s1.trans s2).trans s3).trans s4) r0, Fz.mono ((s2.trans s3).trans s4) r1, Fz.mono (s3.trans s4) r2, Fz.mono s4 r3, Fz.mono (Same.refl _) r4, post_nx ok5 ((((s0.trans s1).trans s2).trans s3).trans s4) q5⟩) (fun e z => EW.mono (((s0.trans s1).trans s2).trans s3) z) q4)) (fun e z => EW.mono ((s0.trans s1).trans s2) z) q3)) (fun e z => EW.mono (s0.trans s1) z) q2)) (fun e z => EW.mono s0 z) q1)⟩) (fun e z => z) q0)
theorem k_call6S {f : α → β → γ → ε → ζ → η → M ρ} (hA : A) {t0 : TE} {m0 : M α} {t1 : TE} {m1 : M β} {t2 : TE} {m2 : M γ} {t3 : TE} {m3 : M ε} {t4 : TE} {m4 : M ζ} {t5 : TE} {m5 : M η} (h0 : JE C W δ t0 m0) (h1 : JE C W δ t1 m1) (h2 : JE C W δ t2 m2) (h3 : JE C W δ t3 m3) (h4 : JE C W δ t4 m4) (h5 : JE C W δ t5 m5) : JO C W δ R (tFS (Sp6 A R f C.K) W (tCons t0 (tCons t1 (tCons t2 (tCons t3 (tCons t4 (tCons t5 tNil))))))) ((m0).bind fun a0 => (m1).bind fun a1 => (m2).bind fun a2 => (m3).bind fun a3 => (m4).bind fun a4 => (m5).bind fun a5 => f a0 a1 a2 a3 a4 a5) := fun F0 H0 σ Q ok0 q0 => h0 F0 H0 σ _ ok0 ((m0).mono (fun a0 q1 v0 F1 H1 s0 r0 ok1 => h1 F1 H1 σ _ ok1 ((m1).mono (fun a1 q2 v1 F2 H2 s1 r1 ok2 => h2 F2 H2 σ _ ok2 ((m2).mono (fun a2 q3 v2 F3 H3 s2 r2 ok3 => h3 F3 H3 σ _ ok3 ((m3).mono (fun a3 q4 v3 F4 H4 s3 r3 ok4 => h4 F4 H4 σ _ ok4 ((m4).mono (fun a4 q5 v4 F5 H5 s4 r4 ok5 => h5 F5 H5 σ _ ok5 ((m5).mono (fun a5 q6 v5 F6 H6 s5 r5 ok6 => ⟨hA, F6, a0, a1, a2, a3, a4, a5, v0, v1, v2, v3, v4, v5, rfl, ok6.same, Fz.mono ((((s1.trans s2).trans s3).trans s4).trans s5) r0, Fz.mono (((s2.trans s3).trans s4).trans s5) r1, Fz.mono ((s3.trans s4).trans s5) r2, Fz.mono (s4.trans s5) r3, Fz.mono s5 r4, Fz.mono (Same.refl _) r5, post_ok ok6 (((((s0.trans s1).trans s2).trans s3).trans s4).trans s5) q6⟩) (fun e z => EW.mono ((((s0.trans s1).trans s2).trans s3).trans s4) z) q5)) (fun e z => EW.mono (((s0.trans s1).trans s2).trans s3) z) q4)) (fun e z => EW.mono ((s0.trans s1).trans s2) z) q3)) (fun e z => EW.mono (s0.trans s1) z) q2)) (fun e z => EW.mono s0 z) q1)) (fun e z => z) q0)
theorem k_meth6S {f : α → β → γ → ε → ζ → η → M ρ} {c : Addr} {mt : Str} (hA : A) (ho : Obj C.K α c mt) {t0 : TE} {m0 : M α} {t1 : TE} {m1 : M β} {t2 : TE} {m2 : M γ} {t3 : TE} {m3 : M ε} {t4 : TE} {m4 : M ζ} {t5 : TE} {m5 : M η} (h0 : JE C W δ t0 m0) (h1 : JE C W δ t1 m1) (h2 : JE C W δ t2 m2) (h3 : JE C W δ t3 m3) (h4 : JE C W δ t4 m4) (h5 : JE C W δ t5 m5) : JO C W δ R (tMS c mt (Sp6 A R f C.K) W t0 (tCons t1 (tCons t2 (tCons t3 (tCons t4 (tCons t5 tNil)))))) ((m0).bind fun a0 => (m1).bind fun a1 => (m2).bind fun a2 => (m3).bind fun a3 => (m4).bind fun a4 => (m5).bind fun a5 => f a0 a1 a2 a3 a4 a5) := fun F0 H0 σ Q ok0 q0 => h0 F0 H0 σ _ ok0 ((m0).mono (fun a0 q1 v0 F1 H1 s0 r0 ok1 => (ho F1 v0 a0 r0).elim fun ad hx => hx.elim fun dx hy => hy.elim fun fs hz => ⟨ad, dx, fs, hz.1, ok1.same _ _ hz.2.1, hz.2.2, h1 F1 H1 σ _ ok1 ((m1).mono (fun a1 q2 v1 F2 H2 s1 r1 ok2 => h2 F2 H2 σ _ ok2 ((m2).mono (fun a2 q3 v2 F3 H3 s2 r2 ok3 => h3 F3 H3 σ _ ok3 ((m3).mono (fun a3 q4 v3 F4 H4 s3 r3 ok4 => h4 F4 H4 σ _ ok4 ((m4).mono (fun a4 q5 v4 F5 H5 s4 r4 ok5 => h5 F5 H5 σ _ ok5 ((m5).mono (fun a5 q6 v5 F6 H6 s5 r5 ok6 => ⟨hA, F6, a0, a1, a2, a3, a4, a5, v0, v1, v2, v3, v4, v5, rfl, ok6.same, Fz.mono ((((s1.trans s2).trans s3).trans s4).trans s5) r0, Fz.mono (((s2.trans s3).trans s4).trans s5) r1, Fz.mono ((s3.trans s4).trans s5) r2, Fz.mono (s4.trans s5) r3, Fz.mono s5 r4, Fz.mono (Same.refl _) r5, post_ok ok6 (((((s0.trans s1).trans s2).trans s3).trans s4).trans s5) q6⟩) (fun e z => EW.mono ((((s0.trans s1).trans s2).trans s3).trans s4) z) q5)) (fun e z => EW.mono (((s0.trans s1).trans s2).trans s3) z) q4)) (fun e z => EW.mono ((s0.trans s1).trans s2) z) q3)) (fun e z => EW.mono (s0.trans s1) z) q2)) (fun e z => EW.mono s0 z) q1)⟩) (fun e z => z) q0)
theorem k_call6 {f : α → β → γ → ε → ζ → η → M ρ} (hA : A) {t0 : TE} {m0 : M α} {t1 : TE} {m1 : M β} {t2 : TE} {m2 : M γ} {t3 : TE} {m3 : M ε} {t4 : TE} {m4 : M ζ} {t5 : TE} {m5 : M η} (h0 : JE C W δ t0 m0) (h1 : JE C W δ t1 m1) (h2 : JE C W δ t2 m2) (h3 : JE C W δ t3 m3) (h4 : JE C W δ t4 m4) (h5 : JE C W δ t5 m5) : JO C W δ R (tF (Sp6 A R f C.K) E0 (tCons t0 (tCons t1 (tCons t2 (tCons t3 (tCons t4 (tCons t5 tNil))))))) ((m0).bind fun a0 => (m1).bind fun a1 => (m2).bind fun a2 => (m3).bind fun a3 => (m4).bind fun a4 => (m5).bind fun a5 => (f a0 a1 a2 a3 a4 a5).nx) := fun F0 H0 σ Q ok0 q0 => h0 F0 H0 σ _ ok0 ((m0).mono (fun a0 q1 v0 F1 H1 s0 r0 ok1 => h1 F1 H1 σ _ ok1 ((m1).mono (fun a1 q2 v1 F2 H2 s1 r1 ok2 => h2 F2 H2 σ _ ok2 ((m2).mono (fun a2 q3 v2 F3 H3 s2 r2 ok3 => h3 F3 H3 σ _ ok3 ((m3).mono (fun a3 q4 v3 F4 H4 s3 r3 ok4 => h4 F4 H4 σ _ ok4 ((m4).mono (fun a4 q5 v4 F5 H5 s4 r4 ok5 => h5 F5 H5 σ _ ok5 ((m5).mono (fun a5 q6 v5 F6 H6 s5 r5 ok6 => ⟨hA, F6, a0, a1, a2, a3, a4, a5, v0, v1, v2, v3, v4, v5, rfl, ok6.same, Fz.mono ((((s1.trans s2).trans s3).trans s4).trans s5) r0, Fz.mono (((s2.trans s3).trans s4).trans s5) r1, Fz.mono ((s3.trans s4).trans s5) r2, Fz.mono (s4.trans s5) r3, Fz.mono s5 r4, Fz.mono (Same.refl _) r5, post_nx ok6 (((((s0.trans s1).trans s2).trans s3).trans s4).trans s5) q6⟩) (fun e z => EW.mono ((((s0.trans s1).trans s2).trans s3).trans s4) z) q5)) (fun e z => EW.mono (((s0.trans s1).trans s2).trans s3) z) q4)) (fun e z => EW.mono ((s0.trans s1).trans s2) z) q3)) (fun e z => EW.mono (s0.trans s1) z) q2)) (fun e z => EW.mono s0 z) q1)) (fun e z => z) q0)
theorem k_meth6 {f : α → β → γ → ε → ζ → η → M ρ} {c : Addr} {mt : Str} (hA : A) (ho : Obj C.K α c mt) {t0 : TE} {m0 : M α} {t1 : TE} {m1 : M β} {t2 : TE} {m2 : M γ} {t3 : TE} {m3 : M ε} {t4 : TE} {m4 : M ζ} {t5 : TE} {m5 : M η} (h0 : JE C W δ t0 m0) (h1 : JE C W δ t1 m1) (h2 : JE C W δ t2 m2) (h3 : JE C W δ t3 m3) (h4 : JE C W δ t4 m4) (h5 : JE C W δ t5 m5) : JO C W δ R (tM c mt (Sp6 A R f C.K) E0 t0 (tCons t1 (tCons t2 (tCons t3 (tCons t4 (tCons t5 tNil)))))) ((m0).bind fun a0 => (m1).bind fun a1 => (m2).bind fun a2 => (m3).bind fun a3 => (m4).bind fun a4 => (m5).bind fun a5 => (f a0 a1 a2 a3 a4 a5).nx) := fun F0 H0 σ Q ok0 q0 => h0 F0 H0 σ _ ok0 ((m0).mono (fun a0 q1 v0 F1 H1 s0 r0 ok1 => (ho F1 v0 a0 r0).elim fun ad hx => hx.elim fun dx hy => hy.elim fun fs hz => ⟨ad, dx, fs, hz.1, ok1.same _ _ hz.2.1, hz.2.2, h1 F1 H1 σ _ ok1 ((m1).mono (fun a1 q2 v1 F2 H2 s1 r1 ok2 => h2 F2 H2 σ _ ok2 ((m2).mono (fun a2 q3 v2 F3 H3 s2 r2 ok3 => h3 F3 H3 σ _ ok3 ((m3).mono (fun a3 q4 v3 F4 H4 s3 r3 ok4 => h4 F4 H4 σ _ ok4 ((m4).mono (fun a4 q5 v4 F5 H5 s4 r4 ok5 => h5 F5 H5 σ _ ok5 ((m5).mono (fun a5 q6 v5 F6 H6 s5 r5 ok6 => ⟨hA, F6, a0, a1, a2, a3, a4, a5, v0, v1, v2, v3, v4, v5, rfl, ok6.same, Fz.mono ((((s1.trans s2).trans s3).trans s4).trans s5) r0, Fz.mono (((s2.trans s3).trans s4).trans s5) r1, Fz.mono ((s3.trans s4).trans s5) r2, Fz.mono (s4.trans s5) r3, Fz.mono s5 r4, Fz.mono (Same.refl _) r5, post_nx ok6 (((((s0.trans s1).trans s2).trans s3).trans s4).trans s5) q6⟩) (fun e z => EW.mono ((((s0.trans s1).trans s2).trans s3).trans s4) z) q5)) (fun e z => EW.mono (((s0.trans s1).trans s2).trans s3) z) q4)) (fun e z => EW.mono ((s0.trans s1).trans s2) z) q3)) (fun e z => EW.mono (s0.trans s1) z) q2)) (fun e z => EW.mono s0 z) q1)⟩) (fun e z => z) q0)
theorem k_call7S {f : α → β → γ → ε → ζ → η → θ → M ρ} (hA : A) {t0 : TE} {m0 : M α} {t1 : TE} {m1 : M β} {t2 : TE} {m2 : M γ} {t3 : TE} {m3 : M ε} {t4 : TE} {m4 : M ζ} {t5 : TE} {m5 : M η} {t6 : TE} {m6 : M θ} (h0 : JE C W δ t0 m0) (h1 : JE C W δ t1 m1) (h2 : JE C W δ t2 m2) (h3 : JE C W δ t3 m3) (h4 : JE C W δ t4 m4) (h5 : JE C W δ t5 m5) (h6 : JE C W δ t6 m6) : JO C W δ R (tFS (Sp7 A R f C.K) W (tCons t0 (tCons t1 (tCons t2 (tCons t3 (tCons t4 (tCons t5 (tCons t6 tNil)))))))) ((m0).bind fun a0 => (m1).bind fun a1 => (m2).bind fun a2 => (m3).bind fun a3 => (m4).bind fun a4 => (m5).bind fun a5 => (m6).bind fun a6 => f a0 a1 a2 a3 a4 a5 a6) := fun F0 H0 σ Q ok0 q0 => h0 F0 H0 σ _ ok0 ((m0).mono (fun a0 q1 v0 F1 H1 s0 r0 ok1 => h1 F1 H1 σ _ ok1 ((m1).mono (fun a1 q2 v1 F2 H2 s1 r1 ok2 => h2 F2 H2 σ _ ok2 ((m2).mono (fun a2 q3 v2 F3 H3 s2 r2 ok3 => h3 F3 H3 σ _ ok3 ((m3).mono (fun a3 q4 v3 F4 H4 s3 r3 ok4 => h4 F4 H4 σ _ ok4 ((m4).mono (fun a4 q5 v4 F5 H5 s4 r4 ok5 => h5 F5 H5 σ _ ok5 ((m5).mono (fun a5 q6 v5 F6 H6 s5 r5 ok6 => h6 F6 H6 σ _ ok6 ((m6).mono (fun a6 q7 v6 F7 H7 s6 r6 ok7 => ⟨hA, F7, a0, a1, a2, a3, a4, a5, a6, v0, v1, v2, v3, v4, v5, v6, rfl, ok7.same, Fz.mono (((((s1.trans s2).trans s3).trans s4).trans s5).trans s6) r0, Fz.mono ((((s2.trans s3).trans s4).trans s5).trans s6) r1, Fz.mono (((s3.trans s4).trans s5).trans s6) r2, Fz.mono ((s4.trans s5).trans s6) r3, Fz.mono (s5.trans s6) r4, Fz.mono s6 r5, Fz.mono (Same.refl _) r6, post_ok ok7 ((((((s0.trans s1).trans s2).trans s3).trans s4).trans s5).trans s6) q7⟩) (fun e z => EW.mono (((((s0.trans s1).trans s2).trans s3).trans s4).trans s5) z) q6)) (fun e z => EW.mono ((((s0.trans s1).trans s2).trans s3).trans s4) z) q5)) (fun e z => EW.mono (((s0.trans s1).trans s2).trans s3) z) q4)) (fun e z => EW.mono ((s0.trans s1).trans s2) z) q3)) (fun e z => EW.mono (s0.trans s1) z) q2)) (fun e z => EW.mono s0 z) q1)) (fun e z => z) q0)
theorem k_meth7S {f : α → β → γ → ε → ζ → η → θ → M ρ} {c : Addr} {mt : Str} (hA : A) (ho : Obj C.K α c mt) {t0 : TE} {m0 : M α} {t1 : TE} {m1 : M β} {t2 : TE} {m2 : M γ} {t3 : TE} {m3 : M ε} {t4 : TE} {m4 : M ζ} {t5 : TE} {m5 : M η} {t6 : TE} {m6 : M θ} (h0 : JE C W δ t0 m0) (h1 : JE C W δ t1 m1) (h2 : JE C W δ t2 m2) (h3 : JE C W δ t3 m3) (h4 : JE C W δ t4 m4) (h5 : JE C W δ t5 m5) (h6 : JE C W δ t6 m6) : JO C W δ R (tMS c mt (Sp7 A R f C.K) W t0 (tCons t1 (tCons t2 (tCons t3 (tCons t4 (tCons t5 (tCons t6 tNil))))))) ((m0).bind fun a0 => (m1).bind fun a1 => (m2).bind fun a2 => (m3).bind fun a3 => (m4).bind fun a4 => (m5).bind fun a5 => (m6).bind fun a6 => f a0 a1 a2 a3 a4 a5 a6) := fun F0 H0 σ Q ok0 q0 => h0 F0 H0 σ _ ok0 ((m0).mono (fun a0 q1 v0 F1 H1 s0 r0 ok1 => (ho F1 v0 a0 r0).elim fun ad hx => hx.elim fun dx hy => hy.elim fun fs hz => ⟨ad, dx, fs, hz.1, ok1.same _ _ hz.2.1, hz.2.2, h1 F1 H1 σ _ ok1 ((m1).mono (fun a1 q2 v1 F2 H2 s1 r1 ok2 => h2 F2 H2 σ _ ok2 ((m2).mono (fun a2 q3 v2 F3 H3 s2 r2 ok3 => h3 F3 H3 σ _ ok3 ((m3).mono (fun a3 q4 v3 F4 H4 s3 r3 ok4 => h4 F4 H4 σ _ ok4 ((m4).mono (fun a4 q5 v4 F5 H5 s4 r4 ok5 => h5 F5 H5 σ _ ok5 ((m5).mono (fun a5 q6 v5 F6 H6 s5 r5 ok6 => h6 F6 H6 σ _ ok6 ((m6).mono (fun a6 q7 v6 F7 H7 s6 r6 ok7 => ⟨hA, F7, a0, a1, a2, a3, a4, a5, a6, v0, v1, v2, v3, v4, v5, v6, rfl, ok7.same, Fz.mono (((((s1.trans s2).trans s3).trans s4).trans s5).trans s6) r0, Fz.mono ((((s2.trans s3).trans s4).trans s5).trans s6) r1, Fz.mono (((s3.trans s4).trans s5).trans s6) r2, Fz.mono ((s4.trans s5).trans s6) r3, Fz.mono (s5.trans s6) r4, Fz.mono s6 r5, Fz.mono (Same.refl _) r6, post_ok ok7 ((((((s0.trans s1).trans s2).trans s3).trans s4).trans s5).trans s6) q7⟩) (fun e z => EW.mono (((((s0.trans s1).trans s2).trans s3).trans s4).trans s5) z) q6)) (fun e z => EW.mono ((((s0.trans s1).trans s2).trans s3).trans s4) z) q5)) (fun e z => EW.mono (((s0.trans s1).trans s2).trans s3) z) q4)) (fun e z => EW.mono ((s0.trans s1).trans s2) z) q3)) (fun e z => EW.mono (s0.trans s1) z) q2)) (fun e z => EW.mono s0 z) q1)⟩) (fun e z => z) q0)
theorem k_call7 {f : α → β → γ → ε → ζ → η → θ → M ρ} (hA : A) {t0 : TE} {m0 : M α} {t1 : TE} {m1 : M β} {t2 : TE} {m2 : M γ} {t3 : TE} {m3 : M ε} {t4 : TE} {m4 : M ζ} {t5 : TE} {m5 : M η} {t6 : TE} {m6 : M θ} (h0 : JE C W δ t0 m0) (h1 : JE C W δ t1 m1) (h2 : JE C W δ t2 m2) (h3 : JE C W δ t3 m3) (h4 : JE C W δ t4 m4) (h5 : JE C W δ t5 m5) (h6 : JE C W δ t6 m6) : JO C W δ R (tF (Sp7 A R f C.K) E0 (tCons t0 (tCons t1 (tCons t2 (tCons t3 (tCons t4 (tCons t5 (tCons t6 tNil)))))))) ((m0).bind fun a0 => (m1).bind fun a1 => (m2).bind fun a2 => (m3).bind fun a3 => (m4).bind fun a4 => (m5).bind fun a5 => (m6).bind fun a6 => (f a0 a1 a2 a3 a4 a5 a6).nx) := fun F0 H0 σ Q ok0 q0 => h0 F0 H0 σ _ ok0 ((m0).mono (fun a0 q1 v0 F1 H1 s0 r0 ok1 => h1 F1 H1 σ _ ok1 ((m1).mono (fun a1 q2 v1 F2 H2 s1 r1 ok2 => h2 F2 H2 σ _ ok2 ((m2).mono (fun a2 q3 v2 F3 H3 s2 r2 ok3 => h3 F3 H3 σ _ ok3 ((m3).mono (fun a3 q4 v3 F4 H4 s3 r3 ok4 => h4 F4 H4 σ _ ok4 ((m4).mono (fun a4 q5 v4 F5 H5 s4 r4 ok5 => h5 F5 H5 σ _ ok5 ((m5).mono (fun a5 q6 v5 F6 H6 s5 r5 ok6 => h6 F6 H6 σ _ ok6 ((m6).mono (fun a6 q7 v6 F7 H7 s6 r6 ok7 => ⟨hA, F7, a0, a1, a2, a3, a4, a5, a6, v0, v1, v2, v3, v4, v5, v6, rfl, ok7.same, Fz.mono (((((s1.trans s2).trans s3).trans s4).trans s5).trans s6) r0, Fz.mono ((((s2.trans s3).trans s4).trans s5).trans s6) r1, Fz.mono (((s3.trans s4).trans s5).trans s6) r2, Fz.mono ((s4.trans s5).trans s6) r3, Fz.mono (s5.trans s6) r4, Fz.mono s6 r5, Fz.mono (Same.refl _) r6, post_nx ok7 ((((((s0.trans s1).trans s2).trans s3).trans s4).trans s5).trans s6) q7⟩) (fun e z => EW.mono (((((s0.trans s1).trans s2).trans s3).trans s4).trans s5) z) q6)) (fun e z => EW.mono ((((s0.trans s1).trans s2).trans s3).trans s4) z) q5)) (fun e z => EW.mono (((s0.trans s1).trans s2).trans s3) z) q4)) (fun e z => EW.mono ((s0.trans s1).trans s2) z) q3)) (fun e z => EW.mono (s0.trans s1) z) q2)) (fun e z => EW.mono s0 z) q1)) (fun e z => z) q0)
theorem k_meth7 {f : α → β → γ → ε → ζ → η → θ → M ρ} {c : Addr} {mt : Str} (hA : A) (ho : Obj C.K α c mt) {t0 : TE} {m0 : M α} {t1 : TE} {m1 : M β} {t2 : TE} {m2 : M γ} {t3 : TE} {m3 : M ε} {t4 : TE} {m4 : M ζ} {t5 : TE} {m5 : M η} {t6 : TE} {m6 : M θ} (h0 : JE C W δ t0 m0) (h1 : JE C W δ t1 m1) (h2 : JE C W δ t2 m2) (h3 : JE C W δ t3 m3) (h4 : JE C W δ t4 m4) (h5 : JE C W δ t5 m5) (h6 : JE C W δ t6 m6) : JO C W δ R (tM c mt (Sp7 A R f C.K) E0 t0 (tCons t1 (tCons t2 (tCons t3 (tCons t4 (tCons t5 (tCons t6 tNil))))))) ((m0).bind fun a0 => (m1).bind fun a1 => (m2).bind fun a2 => (m3).bind fun a3 => (m4).bind fun a4 => (m5).bind fun a5 => (m6).bind fun a6 => (f a0 a1 a2 a3 a4 a5 a6).nx) := fun F0 H0 σ Q ok0 q0 => h0 F0 H0 σ _ ok0 ((m0).mono (fun a0 q1 v0 F1 H1 s0 r0 ok1 => (ho F1 v0 a0 r0).elim fun ad hx => hx.elim fun dx hy => hy.elim fun fs hz => ⟨ad, dx, fs, hz.1, ok1.same _ _ hz.2.1, hz.2.2, h1 F1 H1 σ _ ok1 ((m1).mono (fun a1 q2 v1 F2 H2 s1 r1 ok2 => h2 F2 H2 σ _ ok2 ((m2).mono (fun a2 q3 v2 F3 H3 s2 r2 ok3 => h3 F3 H3 σ _ ok3 ((m3).mono (fun a3 q4 v3 F4 H4 s3 r3 ok4 => h4 F4 H4 σ _ ok4 ((m4).mono (fun a4 q5 v4 F5 H5 s4 r4 ok5 => h5 F5 H5 σ _ ok5 ((m5).mono (fun a5 q6 v5 F6 H6 s5 r5 ok6 => h6 F6 H6 σ _ ok6 ((m6).mono (fun a6 q7 v6 F7 H7 s6 r6 ok7 => ⟨hA, F7, a0, a1, a2, a3, a4, a5, a6, v0, v1, v2, v3, v4, v5, v6, rfl, ok7.same, Fz.mono (((((s1.trans s2).trans s3).trans s4).trans s5).trans s6) r0, Fz.mono ((((s2.trans s3).trans s4).trans s5).trans s6) r1, Fz.mono (((s3.trans s4).trans s5).trans s6) r2, Fz.mono ((s4.trans s5).trans s6) r3, Fz.mono (s5.trans s6) r4, Fz.mono s6 r5, Fz.mono (Same.refl _) r6, post_nx ok7 ((((((s0.trans s1).trans s2).trans s3).trans s4).trans s5).trans s6) q7⟩) (fun e z => EW.mono (((((s0.trans s1).trans s2).trans s3).trans s4).trans s5) z) q6)) (fun e z => EW.mono ((((s0.trans s1).trans s2).trans s3).trans s4) z) q5)) (fun e z => EW.mono (((s0.trans s1).trans s2).trans s3) z) q4)) (fun e z => EW.mono ((s0.trans s1).trans s2) z) q3)) (fun e z => EW.mono (s0.trans s1) z) q2)) (fun e z => EW.mono s0 z) q1)⟩) (fun e z => z) q0)
theorem k_call8S {f : α → β → γ → ε → ζ → η → θ → ι → M ρ} (hA : A) {t0 : TE} {m0 : M α} {t1 : TE} {m1 : M β} {t2 : TE} {m2 : M γ} {t3 : TE} {m3 : M ε} {t4 : TE} {m4 : M ζ} {t5 : TE} {m5 : M η} {t6 : TE} {m6 : M θ} {t7 : TE} {m7 : M ι} (h0 : JE C W δ t0 m0) (h1 : JE C W δ t1 m1) (h2 : JE C W δ t2 m2) (h3 : JE C W δ t3 m3) (h4 : JE C W δ t4 m4) (h5 : JE C W δ t5 m5) (h6 : JE C W δ t6 m6) (h7 : JE C W δ t7 m7) : JO C W δ R (tFS (Sp8 A R f C.K) W (tCons t0 (tCons t1 (tCons t2 (tCons t3 (tCons t4 (tCons t5 (tCons t6 (tCons t7 tNil))))))))) ((m0).bind fun a0 => (m1).bind fun a1 => (m2).bind fun a2 => (m3).bind fun a3 => (m4).bind fun a4 => (m5).bind fun a5 => (m6).bind fun a6 => (m7).bind fun a7 => f a0 a1 a2 a3 a4 a5 a6 a7) := fun F0 H0 σ Q ok0 q0 => h0 F0 H0 σ _ ok0 ((m0).mono (fun a0 q1 v0 F1 H1 s0 r0 ok1 => h1 F1 H1 σ _ ok1 ((m1).mono (fun a1 q2 v1 F2 H2 s1 r1 ok2 => h2 F2 H2 σ _ ok2 ((m2).mono (fun a2 q3 v2 F3 H3 s2 r2 ok3 => h3 F3 H3 σ _ ok3 ((m3).mono (fun a3 q4 v3 F4 H4 s3 r3 ok4 => h4 F4 H4 σ _ ok4 ((m4).mono (fun a4 q5 v4 F5 H5 s4 r4 ok5 => h5 F5 H5 σ _ ok5 ((m5).mono (fun a5 q6 v5 F6 H6 s5 r5 ok6 => h6 F6 H6 σ _ ok6 ((m6).mono (fun a6 q7 v6 F7 H7 s6 r6 ok7 => h7 F7 H7 σ _ ok7 ((m7).mono (fun a7 q8 v7 F8 H8 s7 r7 ok8 => ⟨hA, F8, a0, a1, a2, a3, a4, a5, a6, a7, v0, v1, v2, v3, v4, v5, v6, v7, rfl, ok8.same, Fz.mono ((((((s1.trans s2).trans s3).trans s4).trans s5).trans s6).trans s7) r0, Fz.mono (((((s2.trans s3).trans s4).trans s5).trans s6).trans s7) r1, Fz.mono ((((s3.trans s4).trans s5).trans s6).trans s7) r2, Fz.mono (((s4.trans s5).trans s6).trans s7) r3, Fz.mono ((s5.trans s6).trans s7) r4, Fz.mono (s6.trans s7) r5, Fz.mono s7 r6, Fz.mono (Same.refl _) r7, post_ok ok8 (((((((s0.trans s1).trans s2).trans s3).trans s4).trans s5).trans s6).trans s7) q8⟩) (fun e z => EW.mono ((((((s0.trans s1).trans s2).trans s3).trans s4).trans s5).trans s6) z) q7)) (fun e z => EW.mono (((((s0.trans s1).trans s2).trans s3).trans s4).trans s5) z) q6)) (fun e z => EW.mono ((((s0.trans s1).trans s2).trans s3).trans s4) z) q5)) (fun e z => EW.mono (((s0.trans s1).trans s2).trans s3) z) q4)) (fun e z => EW.mono ((s0.trans s1).trans s2) z) q3)) (fun e z => EW.mono (s0.trans s1) z) q2)) (fun e z => EW.mono s0 z) q1)) (fun e z => z) q0)
theorem k_meth8S {f : α → β → γ → ε → ζ → η → θ → ι → M ρ} {c : Addr} {mt : Str} (hA : A) (ho : Obj C.K α c mt) {t0 : TE} {m0 : M α} {t1 : TE} {m1 : M β} {t2 : TE} {m2 : M γ} {t3 : TE} {m3 : M ε} {t4 : TE} {m4 : M ζ} {t5 : TE} {m5 : M η} {t6 : TE} {m6 : M θ} {t7 : TE} {m7 : M ι} (h0 : JE C W δ t0 m0) (h1 : JE C W δ t1 m1) (h2 : JE C W δ t2 m2) (h3 : JE C W δ t3 m3) (h4 : JE C W δ t4 m4) (h5 : JE C W δ t5 m5) (h6 : JE C W δ t6 m6) (h7 : JE C W δ t7 m7) : JO C W δ R (tMS c mt (Sp8 A R f C.K) W t0 (tCons t1 (tCons t2 (tCons t3 (tCons t4 (tCons t5 (tCons t6 (tCons t7 tNil)))))))) ((m0).bind fun a0 => (m1).bind fun a1 => (m2).bind fun a2 => (m3).bind fun a3 => (m4).bind fun a4 => (m5).bind fun a5 => (m6).bind fun a6 => (m7).bind fun a7 => f a0 a1 a2 a3 a4 a5 a6 a7) := fun F0 H0 σ Q ok0 q0 => h0 F0 H0 σ _ ok0 ((m0).mono (fun a0 q1 v0 F1 H1 s0 r0 ok1 => (ho F1 v0 a0 r0).elim fun ad hx => hx.elim fun dx hy => hy.elim fun fs hz => ⟨ad, dx, fs, hz.1, ok1.same _ _ hz.2.1, hz.2.2, h1 F1 H1 σ _ ok1 ((m1).mono (fun a1 q2 v1 F2 H2 s1 r1 ok2 => h2 F2 H2 σ _ ok2 ((m2).mono (fun a2 q3 v2 F3 H3 s2 r2 ok3 => h3 F3 H3 σ _ ok3 ((m3).mono (fun a3 q4 v3 F4 H4 s3 r3 ok4 => h4 F4 H4 σ _ ok4 ((m4).mono (fun a4 q5 v4 F5 H5 s4 r4 ok5 => h5 F5 H5 σ _ ok5 ((m5).mono (fun a5 q6 v5 F6 H6 s5 r5 ok6 => h6 F6 H6 σ _ ok6 ((m6).mono (fun a6 q7 v6 F7 H7 s6 r6 ok7 => h7 F7 H7 σ _ ok7 ((m7).mono (fun a7 q8 v7 F8 H8 s7 r7 ok8 => ⟨hA, F8, a0, a1, a2, a3, a4, a5, a6, a7, v0, v1, v2, v3, v4, v5, v6, v7, rfl, ok8.same, Fz.mono ((((((s1.trans s2).trans s3).trans s4).trans s5).trans s6).trans s7) r0, Fz.mono (((((s2.trans s3).trans s4).trans s5).trans s6).trans s7) r1, Fz.mono ((((s3.trans s4).trans s5).trans s6).trans s7) r2, Fz.mono (((s4.trans s5).trans s6).trans s7) r3, Fz.mono ((s5.trans s6).trans s7) r4, Fz.mono (s6.trans s7) r5, Fz.mono s7 r6, Fz.mono (Same.refl _) r7, post_ok ok8 (((((((s0.trans s1).trans s2).trans s3).trans s4).trans s5).trans s6).trans s7) q8⟩) (fun e z => EW.mono ((((((s0.trans s1).trans s2).trans s3).trans s4).trans s5).trans s6) z) q7)) (fun e z => EW.mono (((((s0.trans s1).trans s2).trans s3).trans s4).trans s5) z) q6)) (fun e z => EW.mono ((((s0.trans s1).trans s2).trans s3).trans s4) z) q5)) (fun e z => EW.mono (((s0.trans s1).trans s2).trans s3) z) q4)) (fun e z => EW.mono ((s0.trans s1).trans s2) z) q3)) (fun e z => EW.mono (s0.trans s1) z) q2)) (fun e z => EW.mono s0 z) q1)⟩) (fun e z => z) q0)
theorem k_call8 {f : α → β → γ → ε → ζ → η → θ → ι → M ρ} (hA : A) {t0 : TE} {m0 : M α} {t1 : TE} {m1 : M β} {t2 : TE} {m2 : M γ} {t3 : TE} {m3 : M ε} {t4 : TE} {m4 : M ζ} {t5 : TE} {m5 : M η} {t6 : TE} {m6 : M θ} {t7 : TE} {m7 : M ι} (h0 : JE C W δ t0 m0) (h1 : JE C W δ t1 m1) (h2 : JE C W δ t2 m2) (h3 : JE C W δ t3 m3) (h4 : JE C W δ t4 m4) (h5 : JE C W δ t5 m5) (h6 : JE C W δ t6 m6) (h7 : JE C W δ t7 m7) : JO C W δ R (tF (Sp8 A R f C.K) E0 (tCons t0 (tCons t1 (tCons t2 (tCons t3 (tCons t4 (tCons t5 (tCons t6 (tCons t7 tNil))))))))) ((m0).bind fun a0 => (m1).bind fun a1 => (m2).bind fun a2 => (m3).bind fun a3 => (m4).bind fun a4 => (m5).bind fun a5 => (m6).bind fun a6 => (m7).bind fun a7 => (f a0 a1 a2 a3 a4 a5 a6 a7).nx) := fun F0 H0 σ Q ok0 q0 => h0 F0 H0 σ _ ok0 ((m0).mono (fun a0 q1 v0 F1 H1 s0 r0 ok1 => h1 F1 H1 σ _ ok1 ((m1).mono (fun a1 q2 v1 F2 H2 s1 r1 ok2 => h2 F2 H2 σ _ ok2 ((m2).mono (fun a2 q3 v2 F3 H3 s2 r2 ok3 => h3 F3 H3 σ _ ok3 ((m3).mono (fun a3 q4 v3 F4 H4 s3 r3 ok4 => h4 F4 H4 σ _ ok4 ((m4).mono (fun a4 q5 v4 F5 H5 s4 r4 ok5 => h5 F5 H5 σ _ ok5 ((m5).mono (fun a5 q6 v5 F6 H6 s5 r5 ok6 => h6 F6 H6 σ _ ok6 ((m6).mono (fun a6 q7 v6 F7 H7 s6 r6 ok7 => h7 F7 H7 σ _ ok7 ((m7).mono (fun a7 q8 v7 F8 H8 s7 r7 ok8 => ⟨hA, F8, a0, a1, a2, a3, a4, a5, a6, a7, v0, v1, v2, v3, v4, v5, v6, v7, rfl, ok8.same, Fz.mono ((((((s1.trans s2).trans s3).trans s4).trans s5).trans s6).trans s7) r0, Fz.mono (((((s2.trans s3).trans s4).trans s5).trans s6).trans s7) r1, Fz.mono ((((s3.trans s4).trans s5).trans s6).trans s7) r2, Fz.mono (((s4.trans s5).trans s6).trans s7) r3, Fz.mono ((s5.trans s6).trans s7) r4, Fz.mono (s6.trans s7) r5, Fz.mono s7 r6, Fz.mono (Same.refl _) r7, post_nx ok8 (((((((s0.trans s1).trans s2).trans s3).trans s4).trans s5).trans s6).trans s7) q8⟩) (fun e z => EW.mono ((((((s0.trans s1).trans s2).trans s3).trans s4).trans s5).trans s6) z) q7)) (fun e z => EW.mono (((((s0.trans s1).trans s2).trans s3).trans s4).trans s5) z) q6)) (fun e z => EW.mono ((((s0.trans s1).trans s2).trans s3).trans s4) z) q5)) (fun e z => EW.mono (((s0.trans s1).trans s2).trans s3) z) q4)) (fun e z => EW.mono ((s0.trans s1).trans s2) z) q3)) (fun e z => EW.mono (s0.trans s1) z) q2)) (fun e z => EW.mono s0 z) q1)) (fun e z => z) q0)
theorem k_meth8 {f : α → β → γ → ε → ζ → η → θ → ι → M ρ} {c : Addr} {mt : Str} (hA : A) (ho : Obj C.K α c mt) {t0 : TE} {m0 : M α} {t1 : TE} {m1 : M β} {t2 : TE} {m2 : M γ} {t3 : TE} {m3 : M ε} {t4 : TE} {m4 : M ζ} {t5 : TE} {m5 : M η} {t6 : TE} {m6 : M θ} {t7 : TE} {m7 : M ι} (h0 : JE C W δ t0 m0) (h1 : JE C W δ t1 m1) (h2 : JE C W δ t2 m2) (h3 : JE C W δ t3 m3) (h4 : JE C W δ t4 m4) (h5 : JE C W δ t5 m5) (h6 : JE C W δ t6 m6) (h7 : JE C W δ t7 m7) : JO C W δ R (tM c mt (Sp8 A R f C.K) E0 t0 (tCons t1 (tCons t2 (tCons t3 (tCons t4 (tCons t5 (tCons t6 (tCons t7 tNil)))))))) ((m0).bind fun a0 => (m1).bind fun a1 => (m2).bind fun a2 => (m3).bind fun a3 => (m4).bind fun a4 => (m5).bind fun a5 => (m6).bind fun a6 => (m7).bind fun a7 => (f a0 a1 a2 a3 a4 a5 a6 a7).nx) := fun F0 H0 σ Q ok0 q0 => h0 F0 H0 σ _ ok0 ((m0).mono (fun a0 q1 v0 F1 H1 s0 r0 ok1 => (ho F1 v0 a0 r0).elim fun ad hx => hx.elim fun dx hy => hy.elim fun fs hz => ⟨ad, dx, fs, hz.1, ok1.same _ _ hz.2.1, hz.2.2, h1 F1 H1 σ _ ok1 ((m1).mono (fun a1 q2 v1 F2 H2 s1 r1 ok2 => h2 F2 H2 σ _ ok2 ((m2).mono (fun a2 q3 v2 F3 H3 s2 r2 ok3 => h3 F3 H3 σ _ ok3 ((m3).mono (fun a3 q4 v3 F4 H4 s3 r3 ok4 => h4 F4 H4 σ _ ok4 ((m4).mono (fun a4 q5 v4 F5 H5 s4 r4 ok5 => h5 F5 H5 σ _ ok5 ((m5).mono (fun a5 q6 v5 F6 H6 s5 r5 ok6 => h6 F6 H6 σ _ ok6 ((m6).mono (fun a6 q7 v6 F7 H7 s6 r6 ok7 => h7 F7 H7 σ _ ok7 ((m7).mono (fun a7 q8 v7 F8 H8 s7 r7 ok8 => ⟨hA, F8, a0, a1, a2, a3, a4, a5, a6, a7, v0, v1, v2, v3, v4, v5, v6, v7, rfl, ok8.same, Fz.mono ((((((s1.trans s2).trans s3).trans s4).trans s5).trans s6).trans s7) r0, Fz.mono (((((s2.trans s3).trans s4).trans s5).trans s6).trans s7) r1, Fz.mono ((((s3.trans s4).trans s5).trans s6).trans s7) r2, Fz.mono (((s4.trans s5).trans s6).trans s7) r3, Fz.mono ((s5.trans s6).trans s7) r4, Fz.mono (s6.trans s7) r5, Fz.mono s7 r6, Fz.mono (Same.refl _) r7, post_nx ok8 (((((((s0.trans s1).trans s2).trans s3).trans s4).trans s5).trans s6).trans s7) q8⟩) (fun e z => EW.mono ((((((s0.trans s1).trans s2).trans s3).trans s4).trans s5).trans s6) z) q7)) (fun e z => EW.mono (((((s0.trans s1).trans s2).trans s3).trans s4).trans s5) z) q6)) (fun e z => EW.mono ((((s0.trans s1).trans s2).trans s3).trans s4) z) q5)) (fun e z => EW.mono (((s0.trans s1).trans s2).trans s3) z) q4)) (fun e z => EW.mono ((s0.trans s1).trans s2) z) q3)) (fun e z => EW.mono (s0.trans s1) z) q2)) (fun e z => EW.mono s0 z) q1)⟩) (fun e z => z) q0)
theorem k_pot0S {f : M ρ} (hA : A)  (hp : δ[i]? = some (.pt p) := by rfl) : JO C W δ R (tFS (SpP0 A R f C.K) W (tCons (tVar i) tNil)) (f) := fun F0 H0 σ Q ok0 q0 => ⟨.ref p, (pot_at ok0 hp).1, ⟨hA, F0, p, rfl, ok0.same, (pot_at ok0 hp).2.1, (pot_at ok0 hp).2.2, postP_ok ok0 hp (Same.refl _) q0⟩⟩
theorem k_pot0 {f : M ρ} (hA : A)  (hp : δ[i]? = some (.pt p) := by rfl) : JO C W δ R (tF (SpP0 A R f C.K) E0 (tCons (tVar i) tNil)) ((f).nx) := fun F0 H0 σ Q ok0 q0 => ⟨.ref p, (pot_at ok0 hp).1, ⟨hA, F0, p, rfl, ok0.same, (pot_at ok0 hp).2.1, (pot_at ok0 hp).2.2, postP_nx ok0 hp (Same.refl _) q0⟩⟩
theorem k_pot1S {f : α → M ρ} (hA : A) {t0 : TE} {m0 : M α} (h0 : JE C W δ t0 m0) (hp : δ[i]? = some (.pt p) := by rfl) : JO C W δ R (tFS (SpP1 A R f C.K) W (tCons (tVar i) (tCons t0 tNil))) ((m0).bind fun a0 => f a0) := fun F0 H0 σ Q ok0 q0 => ⟨.ref p, (pot_at ok0 hp).1, h0 F0 H0 σ _ ok0 ((m0).mono (fun a0 q1 v0 F1 H1 s0 r0 ok1 => ⟨hA, F1, p, a0, v0, rfl, ok1.same, (pot_at ok1 hp).2.1, (pot_at ok1 hp).2.2, Fz.mono (Same.refl _) r0, postP_ok ok1 hp s0 q1⟩) (fun e z => z) q0)⟩
theorem k_pot1 {f : α → M ρ} (hA : A) {t0 : TE} {m0 : M α} (h0 : JE C W δ t0 m0) (hp : δ[i]? = some (.pt p) := by rfl) : JO C W δ R (tF (SpP1 A R f C.K) E0 (tCons (tVar i) (tCons t0 tNil))) ((m0).bind fun a0 => (f a0).nx) := fun F0 H0 σ Q ok0 q0 => ⟨.ref p, (pot_at ok0 hp).1, h0 F0 H0 σ _ ok0 ((m0).mono (fun a0 q1 v0 F1 H1 s0 r0 ok1 => ⟨hA, F1, p, a0, v0, rfl, ok1.same, (pot_at ok1 hp).2.1, (pot_at ok1 hp).2.2, Fz.mono (Same.refl _) r0, postP_nx ok1 hp s0 q1⟩) (fun e z => z) q0)⟩
theorem k_pot2S {f : α → β → M ρ} (hA : A) {t0 : TE} {m0 : M α} {t1 : TE} {m1 : M β} (h0 : JE C W δ t0 m0) (h1 : JE C W δ t1 m1) (hp : δ[i]? = some (.pt p) := by rfl) : JO C W δ R (tFS (SpP2 A R f C.K) W (tCons (tVar i) (tCons t0 (tCons t1 tNil)))) ((m0).bind fun a0 => (m1).bind fun a1 => f a0 a1) := fun F0 H0 σ Q ok0 q0 => ⟨.ref p, (pot_at ok0 hp).1, h0 F0 H0 σ _ ok0 ((m0).mono (fun a0 q1 v0 F1 H1 s0 r0 ok1 => h1 F1 H1 σ _ ok1 ((m1).mono (fun a1 q2 v1 F2 H2 s1 r1 ok2 => ⟨hA, F2, p, a0, a1, v0, v1, rfl, ok2.same, (pot_at ok2 hp).2.1, (pot_at ok2 hp).2.2, Fz.mono s1 r0, Fz.mono (Same.refl _) r1, postP_ok ok2 hp (s0.trans s1) q2⟩) (fun e z => EW.mono s0 z) q1)) (fun e z => z) q0)⟩
theorem k_pot2 {f : α → β → M ρ} (hA : A) {t0 : TE} {m0 : M α} {t1 : TE} {m1 : M β} (h0 : JE C W δ t0 m0) (h1 : JE C W δ t1 m1) (hp : δ[i]? = some (.pt p) := by rfl) : JO C W δ R (tF (SpP2 A R f C.K) E0 (tCons (tVar i) (tCons t0 (tCons t1 tNil)))) ((m0).bind fun a0 => (m1).bind fun a1 => (f a0 a1).nx) := fun F0 H0 σ Q ok0 q0 => ⟨.ref p, (pot_at ok0 hp).1, h0 F0 H0 σ _ ok0 ((m0).mono (fun a0 q1 v0 F1 H1 s0 r0 ok1 => h1 F1 H1 σ _ ok1 ((m1).mono (fun a1 q2 v1 F2 H2 s1 r1 ok2 => ⟨hA, F2, p, a0, a1, v0, v1, rfl, ok2.same, (pot_at ok2 hp).2.1, (pot_at ok2 hp).2.2, Fz.mono s1 r0, Fz.mono (Same.refl _) r1, postP_nx ok2 hp (s0.trans s1) q2⟩) (fun e z => EW.mono s0 z) q1)) (fun e z => z) q0)⟩
theorem k_pot3S {f : α → β → γ → M ρ} (hA : A) {t0 : TE} {m0 : M α} {t1 : TE} {m1 : M β} {t2 : TE} {m2 : M γ} (h0 : JE C W δ t0 m0) (h1 : JE C W δ t1 m1) (h2 : JE C W δ t2 m2) (hp : δ[i]? = some (.pt p) := by rfl) : JO C W δ R (tFS (SpP3 A R f C.K) W (tCons (tVar i) (tCons t0 (tCons t1 (tCons t2 tNil))))) ((m0).bind fun a0 => (m1).bind fun a1 => (m2).bind fun a2 => f a0 a1 a2) := fun F0 H0 σ Q ok0 q0 => ⟨.ref p, (pot_at ok0 hp).1, h0 F0 H0 σ _ ok0 ((m0).mono (fun a0 q1 v0 F1 H1 s0 r0 ok1 => h1 F1 H1 σ _ ok1 ((m1).mono (fun a1 q2 v1 F2 H2 s1 r1 ok2 => h2 F2 H2 σ _ ok2 ((m2).mono (fun a2 q3 v2 F3 H3 s2 r2 ok3 => ⟨hA, F3, p, a0, a1, a2, v0, v1, v2, rfl, ok3.same, (pot_at ok3 hp).2.1, (pot_at ok3 hp).2.2, Fz.mono (s1.trans s2) r0, Fz.mono s2 r1, Fz.mono (Same.refl _) r2, postP_ok ok3 hp ((s0.trans s1).trans s2) q3⟩) (fun e z => EW.mono (s0.trans s1) z) q2)) (fun e z => EW.mono s0 z) q1)) (fun e z => z) q0)⟩
theorem k_pot3 {f : α → β → γ → M ρ} (hA : A) {t0 : TE} {m0 : M α} {t1 : TE} {m1 : M β} {t2 : TE} {m2 : M γ} (h0 : JE C W δ t0 m0) (h1 : JE C W δ t1 m1) (h2 : JE C W δ t2 m2) (hp : δ[i]? = some (.pt p) := by rfl) : JO C W δ R (tF (SpP3 A R f C.K) E0 (tCons (tVar i) (tCons t0 (tCons t1 (tCons t2 tNil))))) ((m0).bind fun a0 => (m1).bind fun a1 => (m2).bind fun a2 => (f a0 a1 a2).nx) := fun F0 H0 σ Q ok0 q0 => ⟨.ref p, (pot_at ok0 hp).1, h0 F0 H0 σ _ ok0 ((m0).mono (fun a0 q1 v0 F1 H1 s0 r0 ok1 => h1 F1 H1 σ _ ok1 ((m1).mono (fun a1 q2 v1 F2 H2 s1 r1 ok2 => h2 F2 H2 σ _ ok2 ((m2).mono (fun a2 q3 v2 F3 H3 s2 r2 ok3 => ⟨hA, F3, p, a0, a1, a2, v0, v1, v2, rfl, ok3.same, (pot_at ok3 hp).2.1, (pot_at ok3 hp).2.2, Fz.mono (s1.trans s2) r0, Fz.mono s2 r1, Fz.mono (Same.refl _) r2, postP_nx ok3 hp ((s0.trans s1).trans s2) q3⟩) (fun e z => EW.mono (s0.trans s1) z) q2)) (fun e z => EW.mono s0 z) q1)) (fun e z => z) q0)⟩
theorem k_pot4S {f : α → β → γ → ε → M ρ} (hA : A) {t0 : TE} {m0 : M α} {t1 : TE} {m1 : M β} {t2 : TE} {m2 : M γ} {t3 : TE} {m3 : M ε} (h0 : JE C W δ t0 m0) (h1 : JE C W δ t1 m1) (h2 : JE C W δ t2 m2) (h3 : JE C W δ t3 m3) (hp : δ[i]? = some (.pt p) := by rfl) : JO C W δ R (tFS (SpP4 A R f C.K) W (tCons (tVar i) (tCons t0 (tCons t1 (tCons t2 (tCons t3 tNil)))))) ((m0).bind fun a0 => (m1).bind fun a1 => (m2).bind fun a2 => (m3).bind fun a3 => f a0 a1 a2 a3) := fun F0 H0 σ Q ok0 q0 => ⟨.ref p, (pot_at ok0 hp).1, h0 F0 H0 σ _ ok0 ((m0).mono (fun a0 q1 v0 F1 H1 s0 r0 ok1 => h1 F1 H1 σ _ ok1 ((m1).mono (fun a1 q2 v1 F2 H2 s1 r1 ok2 => h2 F2 H2 σ _ ok2 ((m2).mono (fun a2 q3 v2 F3 H3 s2 r2 ok3 => h3 F3 H3 σ _ ok3 ((m3).mono (fun a3 q4 v3 F4 H4 s3 r3 ok4 => ⟨hA, F4, p, a0, a1, a2, a3, v0, v1, v2, v3, rfl, ok4.same, (pot_at ok4 hp).2.1, (pot_at ok4 hp).2.2, Fz.mono ((s1.trans s2).trans s3) r0, Fz.mono (s2.trans s3) r1, Fz.mono s3 r2, Fz.mono (Same.refl _) r3, postP_ok ok4 hp (((s0.trans s1).trans s2).trans s3) q4⟩) (fun e z => EW.mono ((s0.trans s1).trans s2) z) q3)) (fun e z => EW.mono (s0.trans s1) z) q2)) (fun e z => EW.mono s0 z) q1)) (fun e z => z) q0)⟩
theorem k_pot4 {f : α → β → γ → ε → M ρ} (hA : A) {t0 : TE} {m0 : M α} {t1 : TE} {m1 : M β} {t2 : TE} {m2 : M γ} {t3 : TE} {m3 : M ε} (h0 : JE C W δ t0 m0) (h1 : JE C W δ t1 m1) (h2 : JE C W δ t2 m2) (h3 : JE C W δ t3 m3) (hp : δ[i]? = some (.pt p) := by rfl) : JO C W δ R (tF (SpP4 A R f C.K) E0 (tCons (tVar i) (tCons t0 (tCons t1 (tCons t2 (tCons t3 tNil)))))) ((m0).bind fun a0 => (m1).bind fun a1 => (m2).bind fun a2 => (m3).bind fun a3 => (f a0 a1 a2 a3).nx) := fun F0 H0 σ Q ok0 q0 => ⟨.ref p, (pot_at ok0 hp).1, h0 F0 H0 σ _ ok0 ((m0).mono (fun a0 q1 v0 F1 H1 s0 r0 ok1 => h1 F1 H1 σ _ ok1 ((m1).mono (fun a1 q2 v1 F2 H2 s1 r1 ok2 => h2 F2 H2 σ _ ok2 ((m2).mono (fun a2 q3 v2 F3 H3 s2 r2 ok3 => h3 F3 H3 σ _ ok3 ((m3).mono (fun a3 q4 v3 F4 H4 s3 r3 ok4 => ⟨hA, F4, p, a0, a1, a2, a3, v0, v1, v2, v3, rfl, ok4.same, (pot_at ok4 hp).2.1, (pot_at ok4 hp).2.2, Fz.mono ((s1.trans s2).trans s3) r0, Fz.mono (s2.trans s3) r1, Fz.mono s3 r2, Fz.mono (Same.refl _) r3, postP_nx ok4 hp (((s0.trans s1).trans s2).trans s3) q4⟩) (fun e z => EW.mono ((s0.trans s1).trans s2) z) q3)) (fun e z => EW.mono (s0.trans s1) z) q2)) (fun e z => EW.mono s0 z) q1)) (fun e z => z) q0)⟩
theorem k_pot5S {f : α → β → γ → ε → ζ → M ρ} (hA : A) {t0 : TE} {m0 : M α} {t1 : TE} {m1 : M β} {t2 : TE} {m2 : M γ} {t3 : TE} {m3 : M ε} {t4 : TE} {m4 : M ζ} (h0 : JE C W δ t0 m0) (h1 : JE C W δ t1 m1) (h2 : JE C W δ t2 m2) (h3 : JE C W δ t3 m3) (h4 : JE C W δ t4 m4) (hp : δ[i]? = some (.pt p) := by rfl) : JO C W δ R (tFS (SpP5 A R f C.K) W (tCons (tVar i) (tCons t0 (tCons t1 (tCons t2 (tCons t3 (tCons t4 tNil))))))) ((m0).bind fun a0 => (m1).bind fun a1 => (m2).bind fun a2 => (m3).bind fun a3 => (m4).bind fun a4 => f a0 a1 a2 a3 a4) := fun F0 H0 σ Q ok0 q0 => ⟨.ref p, (pot_at ok0 hp).1, h0 F0 H0 σ _ ok0 ((m0).mono (fun a0 q1 v0 F1 H1 s0 r0 ok1 => h1 F1 H1 σ _ ok1 ((m1).mono (fun a1 q2 v1 F2 H2 s1 r1 ok2 => h2 F2 H2 σ _ ok2 ((m2).mono (fun a2 q3 v2 F3 H3 s2 r2 ok3 => h3 F3 H3 σ _ ok3 ((m3).mono (fun a3 q4 v3 F4 H4 s3 r3 ok4 => h4 F4 H4 σ _ ok4 ((m4).mono (fun a4 q5 v4 F5 H5 s4 r4 ok5 => ⟨hA, F5, p, a0, a1, a2, a3, a4, v0, v1, v2, v3, v4, rfl, ok5.same, (pot_at ok5 hp).2.1, (pot_at ok5 hp).2.2, Fz.mono (((s1.trans s2).trans s3).trans s4) r0, Fz.mono ((s2.trans s3).trans s4) r1, Fz.mono (s3.trans s4) r2, Fz.mono s4 r3, Fz.mono (Same.refl _) r4, postP_ok ok5 hp ((((s0.trans s1).trans s2).trans s3).trans s4) q5⟩) (fun e z => EW.mono (((s0.trans s1).trans s2).trans s3) z) q4)) (fun e z => EW.mono ((s0.trans s1).trans s2) z) q3)) (fun e z => EW.mono (s0.trans s1) z) q2)) (fun e z => EW.mono s0 z) q1)) (fun e z => z) q0)⟩
theorem k_pot5 {f : α → β → γ → ε → ζ → M ρ} (hA : A) {t0 : TE} {m0 : M α} {t1 : TE} {m1 : M β} {t2 : TE} {m2 : M γ} {t3 : TE} {m3 : M ε} {t4 : TE} {m4 : M ζ} (h0 : JE C W δ t0 m0) (h1 : JE C W δ t1 m1) (h2 : JE C W δ t2 m2) (h3 : JE C W δ t3 m3) (h4 : JE C W δ t4 m4) (hp : δ[i]? = some (.pt p) := by rfl) : JO C W δ R (tF (SpP5 A R f C.K) E0 (tCons (tVar i) (tCons t0 (tCons t1 (tCons t2 (tCons t3 (tCons t4 tNil))))))) ((m0).bind fun a0 => (m1).bind fun a1 => (m2).bind fun a2 => (m3).bind fun a3 => (m4).bind fun a4 => (f a0 a1 a2 a3 a4).nx) := fun F0 H0 σ Q ok0 q0 => ⟨.ref p, (pot_at ok0 hp).1, h0 F0 H0 σ _ ok0 ((m0).mono (fun a0 q1 v0 F1 H1 s0 r0 ok1 => h1 F1 H1 σ _ ok1 ((m1).mono (fun a1 q2 v1 F2 H2 s1 r1 ok2 => h2 F2 H2 σ _ ok2 ((m2).mono (fun a2 q3 v2 F3 H3 s2 r2 ok3 => h3 F3 H3 σ _ ok3 ((m3).mono (fun a3 q4 v3 F4 H4 s3 r3 ok4 => h4 F4 H4 σ _ ok4 ((m4).mono (fun a4 q5 v4 F5 H5 s4 r4 ok5 => ⟨hA, F5, p, a0, a1, a2, a3, a4, v0, v1, v2, v3, v4, rfl, ok5.same, (pot_at ok5 hp).2.1, (pot_at ok5 hp).2.2, Fz.mono (((s1.trans s2).trans s3).trans s4) r0, Fz.mono ((s2.trans s3).trans s4) r1, Fz.mono (s3.trans s4) r2, Fz.mono s4 r3, Fz.mono (Same.refl _) r4, postP_nx ok5 hp ((((s0.trans s1).trans s2).trans s3).trans s4) q5⟩) (fun e z => EW.mono (((s0.trans s1).trans s2).trans s3) z) q4)) (fun e z => EW.mono ((s0.trans s1).trans s2) z) q3)) (fun e z => EW.mono (s0.trans s1) z) q2)) (fun e z => EW.mono s0 z) q1)) (fun e z => z) q0)⟩
theorem k_pot6S {f : α → β → γ → ε → ζ → η → M ρ} (hA : A) {t0 : TE} {m0 : M α} {t1 : TE} {m1 : M β} {t2 : TE} {m2 : M γ} {t3 : TE} {m3 : M ε} {t4 : TE} {m4 : M ζ} {t5 : TE} {m5 : M η} (h0 : JE C W δ t0 m0) (h1 : JE C W δ t1 m1) (h2 : JE C W δ t2 m2) (h3 : JE C W δ t3 m3) (h4 : JE C W δ t4 m4) (h5 : JE C W δ t5 m5) (hp : δ[i]? = some (.pt p) := by rfl) : JO C W δ R (tFS (SpP6 A R f C.K) W (tCons (tVar i) (tCons t0 (tCons t1 (tCons t2 (tCons t3 (tCons t4 (tCons t5 tNil)))))))) ((m0).bind fun a0 => (m1).bind fun a1 => (m2).bind fun a2 => (m3).bind fun a3 => (m4).bind fun a4 => (m5).bind fun a5 => f a0 a1 a2 a3 a4 a5) := fun F0 H0 σ Q ok0 q0 => ⟨.ref p, (pot_at ok0 hp).1, h0 F0 H0 σ _ ok0 ((m0).mono (fun a0 q1 v0 F1 H1 s0 r0 ok1 => h1 F1 H1 σ _ ok1 ((m1).mono (fun a1 q2 v1 F2 H2 s1 r1 ok2 => h2 F2 H2 σ _ ok2 ((m2).mono (fun a2 q3 v2 F3 H3 s2 r2 ok3 => h3 F3 H3 σ _ ok3 ((m3).mono (fun a3 q4 v3 F4 H4 s3 r3 ok4 => h4 F4 H4 σ _ ok4 ((m4).mono (fun a4 q5 v4 F5 H5 s4 r4 ok5 => h5 F5 H5 σ _ ok5 ((m5).mono (fun a5 q6 v5 F6 H6 s5 r5 ok6 => ⟨hA, F6, p, a0, a1, a2, a3, a4, a5, v0, v1, v2, v3, v4, v5, rfl, ok6.same, (pot_at ok6 hp).2.1, (pot_at ok6 hp).2.2, Fz.mono ((((s1.trans s2).trans s3).trans s4).trans s5) r0, Fz.mono (((s2.trans s3).trans s4).trans s5) r1, Fz.mono ((s3.trans s4).trans s5) r2, Fz.mono (s4.trans s5) r3, Fz.mono s5 r4, Fz.mono (Same.refl _) r5, postP_ok ok6 hp (((((s0.trans s1).trans s2).trans s3).trans s4).trans s5) q6⟩) (fun e z => EW.mono ((((s0.trans s1).trans s2).trans s3).trans s4) z) q5)) (fun e z => EW.mono (((s0.trans s1).trans s2).trans s3) z) q4)) (fun e z => EW.mono ((s0.trans s1).trans s2) z) q3)) (fun e z => EW.mono (s0.trans s1) z) q2)) (fun e z => EW.mono s0 z) q1)) (fun e z => z) q0)⟩
theorem k_pot6 {f : α → β → γ → ε → ζ → η → M ρ} (hA : A) {t0 : TE} {m0 : M α} {t1 : TE} {m1 : M β} {t2 : TE} {m2 : M γ} {t3 : TE} {m3 : M ε} {t4 : TE} {m4 : M ζ} {t5 : TE} {m5 : M η} (h0 : JE C W δ t0 m0) (h1 : JE C W δ t1 m1) (h2 : JE C W δ t2 m2) (h3 : JE C W δ t3 m3) (h4 : JE C W δ t4 m4) (h5 : JE C W δ t5 m5) (hp : δ[i]? = some (.pt p) := by rfl) : JO C W δ R (tF (SpP6 A R f C.K) E0 (tCons (tVar i) (tCons t0 (tCons t1 (tCons t2 (tCons t3 (tCons t4 (tCons t5 tNil)))))))) ((m0).bind fun a0 => (m1).bind fun a1 => (m2).bind fun a2 => (m3).bind fun a3 => (m4).bind fun a4 => (m5).bind fun a5 => (f a0 a1 a2 a3 a4 a5).nx) := fun F0 H0 σ Q ok0 q0 => ⟨.ref p, (pot_at ok0 hp).1, h0 F0 H0 σ _ ok0 ((m0).mono (fun a0 q1 v0 F1 H1 s0 r0 ok1 => h1 F1 H1 σ _ ok1 ((m1).mono (fun a1 q2 v1 F2 H2 s1 r1 ok2 => h2 F2 H2 σ _ ok2 ((m2).mono (fun a2 q3 v2 F3 H3 s2 r2 ok3 => h3 F3 H3 σ _ ok3 ((m3).mono (fun a3 q4 v3 F4 H4 s3 r3 ok4 => h4 F4 H4 σ _ ok4 ((m4).mono (fun a4 q5 v4 F5 H5 s4 r4 ok5 => h5 F5 H5 σ _ ok5 ((m5).mono (fun a5 q6 v5 F6 H6 s5 r5 ok6 => ⟨hA, F6, p, a0, a1, a2, a3, a4, a5, v0, v1, v2, v3, v4, v5, rfl, ok6.same, (pot_at ok6 hp).2.1, (pot_at ok6 hp).2.2, Fz.mono ((((s1.trans s2).trans s3).trans s4).trans s5) r0, Fz.mono (((s2.trans s3).trans s4).trans s5) r1, Fz.mono ((s3.trans s4).trans s5) r2, Fz.mono (s4.trans s5) r3, Fz.mono s5 r4, Fz.mono (Same.refl _) r5, postP_nx ok6 hp (((((s0.trans s1).trans s2).trans s3).trans s4).trans s5) q6⟩) (fun e z => EW.mono ((((s0.trans s1).trans s2).trans s3).trans s4) z) q5)) (fun e z => EW.mono (((s0.trans s1).trans s2).trans s3) z) q4)) (fun e z => EW.mono ((s0.trans s1).trans s2) z) q3)) (fun e z => EW.mono (s0.trans s1) z) q2)) (fun e z => EW.mono s0 z) q1)) (fun e z => z) q0)⟩
theorem k_pot7S {f : α → β → γ → ε → ζ → η → θ → M ρ} (hA : A) {t0 : TE} {m0 : M α} {t1 : TE} {m1 : M β} {t2 : TE} {m2 : M γ} {t3 : TE} {m3 : M ε} {t4 : TE} {m4 : M ζ} {t5 : TE} {m5 : M η} {t6 : TE} {m6 : M θ} (h0 : JE C W δ t0 m0) (h1 : JE C W δ t1 m1) (h2 : JE C W δ t2 m2) (h3 : JE C W δ t3 m3) (h4 : JE C W δ t4 m4) (h5 : JE C W δ t5 m5) (h6 : JE C W δ t6 m6) (hp : δ[i]? = some (.pt p) := by rfl) : JO C W δ R (tFS (SpP7 A R f C.K) W (tCons (tVar i) (tCons t0 (tCons t1 (tCons t2 (tCons t3 (tCons t4 (tCons t5 (tCons t6 tNil))))))))) ((m0).bind fun a0 => (m1).bind fun a1 => (m2).bind fun a2 => (m3).bind fun a3 => (m4).bind fun a4 => (m5).bind fun a5 => (m6).bind fun a6 => f a0 a1 a2 a3 a4 a5 a6) := fun F0 H0 σ Q ok0 q0 => ⟨.ref p, (pot_at ok0 hp).1, h0 F0 H0 σ _ ok0 ((m0).mono (fun a0 q1 v0 F1 H1 s0 r0 ok1 => h1 F1 H1 σ _ ok1 ((m1).mono (fun a1 q2 v1 F2 H2 s1 r1 ok2 => h2 F2 H2 σ _ ok2 ((m2).mono (fun a2 q3 v2 F3 H3 s2 r2 ok3 => h3 F3 H3 σ _ ok3 ((m3).mono (fun a3 q4 v3 F4 H4 s3 r3 ok4 => h4 F4 H4 σ _ ok4 ((m4).mono (fun a4 q5 v4 F5 H5 s4 r4 ok5 => h5 F5 H5 σ _ ok5 ((m5).mono (fun a5 q6 v5 F6 H6 s5 r5 ok6 => h6 F6 H6 σ _ ok6 ((m6).mono (fun a6 q7 v6 F7 H7 s6 r6 ok7 => ⟨hA, F7, p, a0, a1, a2, a3, a4, a5, a6, v0, v1, v2, v3, v4, v5, v6, rfl, ok7.same, (pot_at ok7 hp).2.1, (pot_at ok7 hp).2.2, Fz.mono (((((s1.trans s2).trans s3).trans s4).trans s5).trans s6) r0, Fz.mono ((((s2.trans s3).trans s4).trans s5).trans s6) r1, Fz.mono (((s3.trans s4).trans s5).trans s6) r2, Fz.mono ((s4.trans s5).trans s6) r3, Fz.mono (s5.trans s6) r4, Fz.mono s6 r5, Fz.mono (Same.refl _) r6, postP_ok ok7 hp ((((((s0.trans s1).trans s2).trans s3).trans s4).trans s5).trans s6) q7⟩) (fun e z => EW.mono (((((s0.trans s1).trans s2).trans s3).trans s4).trans s5) z) q6)) (fun e z => EW.mono ((((s0.trans s1).trans s2).trans s3).trans s4) z) q5)) (fun e z => EW.mono (((s0.trans s1).trans s2).trans s3) z) q4)) (fun e z => EW.mono ((s0.trans s1).trans s2) z) q3)) (fun e z => EW.mono (s0.trans s1) z) q2)) (fun e z => EW.mono s0 z) q1)) (fun e z => z) q0)⟩
theorem k_pot7 {f : α → β → γ → ε → ζ → η → θ → M ρ} (hA : A) {t0 : TE} {m0 : M α} {t1 : TE} {m1 : M β} {t2 : TE} {m2 : M γ} {t3 : TE} {m3 : M ε} {t4 : TE} {m4 : M ζ} {t5 : TE} {m5 : M η} {t6 : TE} {m6 : M θ} (h0 : JE C W δ t0 m0) (h1 : JE C W δ t1 m1) (h2 : JE C W δ t2 m2) (h3 : JE C W δ t3 m3) (h4 : JE C W δ t4 m4) (h5 : JE C W δ t5 m5) (h6 : JE C W δ t6 m6) (hp : δ[i]? = some (.pt p) := by rfl) : JO C W δ R (tF (SpP7 A R f C.K) E0 (tCons (tVar i) (tCons t0 (tCons t1 (tCons t2 (tCons t3 (tCons t4 (tCons t5 (tCons t6 tNil))))))))) ((m0).bind fun a0 => (m1).bind fun a1 => (m2).bind fun a2 => (m3).bind fun a3 => (m4).bind fun a4 => (m5).bind fun a5 => (m6).bind fun a6 => (f a0 a1 a2 a3 a4 a5 a6).nx) := fun F0 H0 σ Q ok0 q0 => ⟨.ref p, (pot_at ok0 hp).1, h0 F0 H0 σ _ ok0 ((m0).mono (fun a0 q1 v0 F1 H1 s0 r0 ok1 => h1 F1 H1 σ _ ok1 ((m1).mono (fun a1 q2 v1 F2 H2 s1 r1 ok2 => h2 F2 H2 σ _ ok2 ((m2).mono (fun a2 q3 v2 F3 H3 s2 r2 ok3 => h3 F3 H3 σ _ ok3 ((m3).mono (fun a3 q4 v3 F4 H4 s3 r3 ok4 => h4 F4 H4 σ _ ok4 ((m4).mono (fun a4 q5 v4 F5 H5 s4 r4 ok5 => h5 F5 H5 σ _ ok5 ((m5).mono (fun a5 q6 v5 F6 H6 s5 r5 ok6 => h6 F6 H6 σ _ ok6 ((m6).mono (fun a6 q7 v6 F7 H7 s6 r6 ok7 => ⟨hA, F7, p, a0, a1, a2, a3, a4, a5, a6, v0, v1, v2, v3, v4, v5, v6, rfl, ok7.same, (pot_at ok7 hp).2.1, (pot_at ok7 hp).2.2, Fz.mono (((((s1.trans s2).trans s3).trans s4).trans s5).trans s6) r0, Fz.mono ((((s2.trans s3).trans s4).trans s5).trans s6) r1, Fz.mono (((s3.trans s4).trans s5).trans s6) r2, Fz.mono ((s4.trans s5).trans s6) r3, Fz.mono (s5.trans s6) r4, Fz.mono s6 r5, Fz.mono (Same.refl _) r6, postP_nx ok7 hp ((((((s0.trans s1).trans s2).trans s3).trans s4).trans s5).trans s6) q7⟩) (fun e z => EW.mono (((((s0.trans s1).trans s2).trans s3).trans s4).trans s5) z) q6)) (fun e z => EW.mono ((((s0.trans s1).trans s2).trans s3).trans s4) z) q5)) (fun e z => EW.mono (((s0.trans s1).trans s2).trans s3) z) q4)) (fun e z => EW.mono ((s0.trans s1).trans s2) z) q3)) (fun e z => EW.mono (s0.trans s1) z) q2)) (fun e z => EW.mono s0 z) q1)) (fun e z => z) q0)⟩
end
end Dc

namespace Dc
open PySem PySem.Spec PyProof.Rows L2
section
variable {C : Ctx} {W : WX} {δx : List Sl} {ρ : Type} {R : Rp ρ} {δ : List Sl} {S T : Type} {α β γ ε : Type} [Fz α] [Fz β] [Fz γ] [Fz ε] {t t2 t3 : TS} {te ti : TE} {i j : Nat} {F H : Hp} {σ : L2.St}
/-! ## a list of one's own changes -/
theorem own_at {xs : List α} (ok : Okk C F H σ δ) (h : δ[i]? = some (.ow (oL α) xs)) : ∃ l vs, σ[i]? = some (some (.ref l)) ∧ H l = some (.lst vs) ∧ Reps C.K F vs xs := by
  obtain ⟨A, k⟩ := ok
  obtain ⟨v, e, ⟨l, vs, rfl, _, hl, r⟩, _⟩ := k.at_ i _ h
  refine ⟨l, vs, ?_, hl, r⟩
  cases hs : σ[i]? with
  | none =>
    rw [hs] at e
    cases e
  | some o =>
    rw [hs] at e
    rw [show o = some (.ref l) from e]
/-- x.append(e) -/
theorem s_append {xs : List α} {me : M α} {δ' : S → List Sl} {m : List α → M (Fl S ρ)} (w : Wk δ δx) (h : JE C W δ te me) (k : ∀ ys, JS C W δx R (δ.set i (.ow (oL α) ys)) t2 δ' (m ys)) (hx : δ[i]? = some (.ow (oL α) xs) := by rfl) :
    JS C W δx R δ (tSeq (tDrop (tBM C.K "list" rAppend (tVar i) (tCons te tNil))) t2) δ' (me.bind fun x => M.need (xs.length < sizeLine) (M.to m (xs ++ [x]))) := fun F H σ D ok q => by
  obtain ⟨l, vs, e, hl, r⟩ := own_at ok hx
  refine ⟨.ref l, e, .inl ⟨rfl, vs, SqL.of hl⟩, h F H σ _ ok (me.mono (fun a q1 v F1 H1 s1 rp ok1 => ?_) (fun e z => XQ.ew w z) q)⟩
  obtain ⟨l', vs', e', hl', r'⟩ := own_at ok1 hx
  rw [e] at e'
  cases e'
  exact ⟨l, vs', v, rfl, rfl, hl', by rw [r'.length]; exact q1.1, k _ F1 _ σ D (ok1.set hx e (pair_app r' (.cons rp .nil))) (M.mono _ (fun f z => SQ.mono s1 z) (fun e z => XQ.mono s1 z) q1.2)⟩
theorem s_extend {xs : List α} {me : M (List α)} {δ' : S → List Sl} {m : List α → M (Fl S ρ)} (w : Wk δ δx) (h : JR C W δ te me) (k : ∀ ys, JS C W δx R (δ.set i (.ow (oL α) ys)) t2 δ' (m ys)) (hx : δ[i]? = some (.ow (oL α) xs) := by rfl) :
    JS C W δx R δ (tSeq (tDrop (tBM C.K "list" rExtend (tVar i) (tCons te tNil))) t2) δ' (me.bind fun zs => M.need (xs.length + zs.length ≤ sizeLine) (M.to m (xs ++ zs))) := fun F H σ D ok q => by
  obtain ⟨l, vs, e, hl, r⟩ := own_at ok hx
  refine ⟨.ref l, e, .inl ⟨rfl, vs, SqL.of hl⟩, h F H σ _ ok (me.mono (fun a q1 v F1 H1 s1 ok1 rd => ?_) (fun e z => XQ.ew w z) q)⟩
  obtain ⟨l', vs', e', hl', r'⟩ := own_at ok1 hx
  rw [e] at e'
  cases e'
  obtain ⟨b, ws, rfl, hb, rb⟩ := rd F1 H1 (Same.refl _) ok1
  exact ⟨l, b, vs', ws, rfl, rfl, hl', hb, by rw [r'.length, rb.length]; exact q1.1, k _ F1 _ σ D (ok1.set hx e (pair_app r' rb)) (M.mono _ (fun f z => SQ.mono s1 z) (fun e z => XQ.mono s1 z) q1.2)⟩
theorem s_clear {xs : List α} {δ' : S → List Sl} {m : M (Fl S ρ)} (k : JS C W δx R (δ.set i (.ow (oL α) ([] : List α))) t2 δ' m) (hx : δ[i]? = some (.ow (oL α) xs) := by rfl) :
    JS C W δx R δ (tSeq (tDrop (tBM0 C.K "list" rClear (tVar i))) t2) δ' m := fun F H σ D ok q => by
  obtain ⟨l, vs, e, hl, r⟩ := own_at ok hx
  exact ⟨.ref l, e, .inl ⟨rfl, vs, SqL.of hl⟩, l, vs, rfl, rfl, hl, k F _ σ D (ok.set hx e .nil) q⟩
theorem rev_reps {K : PySem.W.Frag} : ∀ {vs : List V} {xs : List α}, Reps K F vs xs → Reps K F vs.reverse xs.reverse
  | _, _, .nil => .nil
  | _, _, .cons r t => by
    rw [List.reverse_cons, List.reverse_cons]
    exact pair_app (rev_reps t) (.cons r .nil)
theorem s_reverse {xs : List α} {δ' : S → List Sl} {m : List α → M (Fl S ρ)} (k : ∀ ys, JS C W δx R (δ.set i (.ow (oL α) ys)) t2 δ' (m ys)) (hx : δ[i]? = some (.ow (oL α) xs) := by rfl) :
    JS C W δx R δ (tSeq (tDrop (tBM0 C.K "list" rReverse (tVar i))) t2) δ' (M.to m xs.reverse) := fun F H σ D ok q => by
  obtain ⟨l, vs, e, hl, r⟩ := own_at ok hx
  exact ⟨.ref l, e, .inl ⟨rfl, vs, SqL.of hl⟩, l, vs, rfl, rfl, hl, k _ F _ σ D (ok.set hx e (rev_reps r)) q⟩
theorem set_reps {K : PySem.W.Frag} {v : V} {x : α} (r : Fz.rep K F v x) : ∀ {vs : List V} {xs : List α} (n : Nat), Reps K F vs xs → Reps K F (vs.set n v) (xs.set n x)
  | _, _, _, .nil => .nil
  | _, _, 0, .cons _ t => .cons r t
  | _, _, n + 1, .cons q t => .cons q (set_reps r n t)
/-- x[k] = e -/
theorem s_setL {xs : List α} {me : M α} {mi : M Int} {δ' : S → List Sl} {m : List α → M (Fl S ρ)} (w : Wk δ δx) (h : JE C W δ te me) (hk : JE C W δ ti mi) (k : ∀ ys, JS C W δx R (δ.set i (.ow (oL α) ys)) t2 δ' (m ys)) (hx : δ[i]? = some (.ow (oL α) xs) := by rfl) :
    JS C W δx R δ (tSeq (tAsg te (gSub (tVar i) ti rSetL)) t2) δ' (me.bind fun x => mi.bind fun z => (M.ofOpt (ixN xs.length z)).bind fun n => M.to m (xs.set n x)) := fun F H σ D ok q => by
  refine h F H σ _ ok (me.mono (fun a q1 v F1 H1 s1 rp ok1 => ?_) (fun e z => XQ.ew w z) q)
  obtain ⟨l, vs, e, hl, r⟩ := own_at ok1 hx
  refine ⟨.ref l, e, hk F1 H1 σ _ ok1 (mi.mono (fun z q2 u F2 H2 s2 rp2 ok2 => ?_) (fun e z => EW.mono s1 (XQ.ew w z)) q1)⟩
  obtain ⟨l', vs', e', hl', r'⟩ := own_at ok2 hx
  rw [e] at e'
  cases e'
  dsimp only at q2
  cases hn : ixN xs.length z with
  | none =>
    rw [hn] at q2
    exact q2.elim
  | some n =>
    rw [hn] at q2
    have s12 := s1.trans s2
    exact ⟨l, vs', z, n, rfl, rp2, hl', by rw [r'.length]; exact hn, k _ F2 _ σ D (ok2.set hx e (set_reps (Fz.mono s2 rp) n r')) (M.mono _ (fun f z => SQ.mono s12 z) (fun e z => XQ.mono s12 z) q2)⟩
/-- a list of one's own stays from now on -/
theorem s_fix {xs : List α} {δ' : S → List Sl} {m : M (Fl S ρ)} (i : Nat) (k : JS C W δx R (δ.set i (.fz xs)) t δ' m) (hx : δ[i]? = some (.ow (oL α) xs) := by rfl) : JS C W δx R δ t δ' m := fun F H σ D ok q => by
  obtain ⟨F', s, ok'⟩ := ok.fix hx
  exact k F' H σ D ok' (M.mono _ (fun f z => SQ.mono s z) (fun e z => XQ.mono s z) q)
/-- x += e, of numbers -/
theorem s_aug {x : Int} {f : Int → Int → Int} {me : M Int} {δ' : S → List Sl} {m : Int → M (Fl S ρ)} (w : Wk δ δx) (h : JE C W δ te me) (k : ∀ y, JS C W δx R (δ.set i (.fz y)) t2 δ' (m y)) (hx : δ[i]? = some (.fz x) := by rfl) :
    JS C W δx R δ (tSeq (tAug i te (ipI f)) t2) δ' (me.bind fun y => M.to m (f x y)) := fun F H σ D ok q => by
  have hi : i < δ.length := (List.getElem?_eq_some_iff.mp hx).1
  obtain ⟨v, e, rest⟩ : ∃ v, σ[i]? = some (some v) ∧ v = V.int x := by
    obtain ⟨A, k⟩ := id ok
    obtain ⟨v, e, _, rp⟩ := k.at_ i _ hx
    refine ⟨v, ?_, rp⟩
    cases hs : σ[i]? with
    | none =>
      rw [hs] at e
      cases e
    | some o =>
      rw [hs] at e
      rw [show o = some v from e]
  refine ⟨v, e, h F H σ _ ok (me.mono (fun y q1 u F1 H1 s1 rp ok1 => ?_) (fun e z => XQ.ew w z) q)⟩
  exact ⟨x, y, rest, rp, k _ F1 H1 _ D (ok1.put rfl hi) (M.mono _ (fun f z => SQ.mono s1 z) (fun e z => XQ.mono s1 z) q1)⟩
/-- y = x.pop(k) -/
theorem erase_reps {K : PySem.W.Frag} : ∀ {vs : List V} {xs : List α} (n : Nat), Reps K F vs xs → Reps K F (vs.eraseIdx n) (xs.eraseIdx n)
  | _, _, _, .nil => .nil
  | _, _, 0, .cons _ t => t
  | _, _, n + 1, .cons q t => .cons q (erase_reps n t)
end
/-! ## the script, and pots -/
structure Scr where
  l : List Int
instance : Fz Scr := Fz.mk' (fun K F v s => ∃ a, v = .ref a ∧ SqL K F a (s.l.map V.int)) fun s ⟨a, e, h⟩ => ⟨a, e, s.seq h⟩
theorem o_lenScr {K : PySem.W.Frag} : Cb1 K (rLenSeq K) fun a : Scr => M.pure (a.l.length : Int) := fun F H v a Q E s ra q => by
  obtain ⟨l, rfl, e⟩ := ra
  refine ⟨l, _, rfl, .inl (s.seq e), ?_⟩
  rw [List.length_map]
  exact q _ F H (Go.refl s) rfl
/-- a draw of a number below n -/
def drawM (n : Int) : M Int := M.need (0 < n ∧ n < 1073741824) (M.any fun d => 0 ≤ d ∧ d < n)
end Dc

namespace Dc
open PySem PySem.Spec PyProof.Rows L2
/-! ## data: shown, compared -/
section
variable {K : PySem.W.Frag}
mutual
theorem dpm {H H' : Hp} (s : Same H H') : ∀ {v : V} {d : PyData}, Dp K H v d → Dp K H' v d
  | _, _, .non => .non
  | _, _, .bl b => .bl b
  | _, _, .int i => .int i
  | _, _, .str x => .str x
  | _, _, .lst h a => .lst (s.seq h) (dpmA s a)
  | _, _, .tup h a => .tup (s.seqT h) (dpmA s a)
theorem dpmA {H H' : Hp} (s : Same H H') : ∀ {vs : List V} {ds : List PyData}, DpAll K H vs ds → DpAll K H' vs ds
  | _, _, .nil => .nil
  | _, _, .cons a b => .cons (dpm s a) (dpmA s b)
end
end
class ToD (α : Type) [Fz α] where
  toD : α → PyData
  dp : ∀ {K F H v a}, Same F H → Fz.rd K F H v a → Dp K H v (toD a)
open ToD
theorem toD_all {α : Type} [Fz α] [ToD α] {K : PySem.W.Frag} {F H : Hp} (s : Same F H) : ∀ {vs : List V} {xs : List α}, Reps K F vs xs → DpAll K H vs (xs.map toD)
  | _, _, .nil => .nil
  | _, _, .cons r t => .cons (dp s (Fz.rd_of s r)) (toD_all s t)
instance : ToD Int := ⟨.int, fun s h => by cases h; exact .int _⟩
instance : ToD Bool := ⟨.bool, fun s h => by cases h; exact .bl _⟩
instance : ToD Str := ⟨.str, fun s h => by cases h; exact .str _⟩
instance : ToD Unit := ⟨fun _ => .none, fun s h => by cases h; exact .non⟩
instance {α : Type} [Fz α] [ToD α] : ToD (List α) := ⟨fun xs => .list (xs.map toD), fun s h => by
  obtain ⟨l, vs, rfl, e, r⟩ := h
  exact .lst (SqL.of e) (toD_all s r)⟩
instance {α : Type} [Fz α] [ToD α] : ToD (Tof α) := ⟨fun xs => .tuple (xs.l.map toD), fun s h => by
  obtain ⟨l, vs, rfl, e, r⟩ := h
  exact .tup (SqT.of (s _ _ e)) (toD_all s r)⟩
section
variable {α β γ δ : Type} [Fz α] [ToD α] [Fz β] [ToD β] [Fz γ] [ToD γ] [Fz δ] [ToD δ]
instance : ToD (T1 α) := ⟨fun x => .tuple [toD x.a], fun s h => by
  obtain ⟨l, v1, rfl, e, r1⟩ := h
  exact .tup (SqT.of (s _ _ e)) (.cons (dp s (Fz.rd_of s r1)) .nil)⟩
instance : ToD (α × β) := ⟨fun x => .tuple [toD x.1, toD x.2], fun s h => by
  obtain ⟨l, v1, v2, rfl, e, r1, r2⟩ := h
  exact .tup (SqT.of (s _ _ e)) (.cons (dp s (Fz.rd_of s r1)) (.cons (dp s (Fz.rd_of s r2)) .nil))⟩
instance : ToD (T3 α β γ) := ⟨fun x => .tuple [toD x.a, toD x.b, toD x.c], fun s h => by
  obtain ⟨l, v1, v2, v3, rfl, e, r1, r2, r3⟩ := h
  exact .tup (SqT.of (s _ _ e)) (.cons (dp s (Fz.rd_of s r1)) (.cons (dp s (Fz.rd_of s r2)) (.cons (dp s (Fz.rd_of s r3)) .nil)))⟩
instance : ToD (T4 α β γ δ) := ⟨fun x => .tuple [toD x.a, toD x.b, toD x.c, toD x.d], fun s h => by
  obtain ⟨l, v1, v2, v3, v4, rfl, e, r1, r2, r3, r4⟩ := h
  exact .tup (SqT.of (s _ _ e)) (.cons (dp s (Fz.rd_of s r1)) (.cons (dp s (Fz.rd_of s r2)) (.cons (dp s (Fz.rd_of s r3)) (.cons (dp s (Fz.rd_of s r4)) .nil))))⟩
instance : ToD Door := ⟨doorD, fun s h => by
  obtain ⟨l, rfl, e⟩ := h
  exact dp_door (s _ _ e)⟩
instance : ToD (Option α) := ⟨fun x => match x with | none => .none | some a => toD a, fun {K F H v x} s h => by
  cases x with
  | none =>
    rw [show v = .non from h]
    exact .non
  | some a => exact dp s (Fz.rd_of s h)⟩
end
/-- it may be shown -/
structure Fit' (d : PyData) : Prop where
  s : d.showable = true
  n : d.hasDict = false
  k : d.depth ≤ 50
  l : d.shown.length ≤ sizeLine
theorem Shw.fit {n k : Nat} {d : PyData} (h : Shw n k d) (hk : k ≤ 50 := by decide) (hn : n ≤ 1000000 := by decide) : Fit' d :=
  ⟨h.show_, PyData.hasDict_of_canLay d h.lay, Nat.le_trans h.dep hk, PyData.shown_fits_bulk (B := 13) (by decide) (by decide) h.short (Nat.le_trans h.bulk (by omega))⟩
section
variable {K : PySem.W.Frag} {α β : Type} [Fz α] [ToD α] [Fz β] [ToD β]
def eqM (a : α) (b : β) : M Bool := M.need (SeqAt.shaped (toD a) = true ∧ SeqAt.shaped (toD b) = true) (M.pure (PyData.eqv (toD a) (toD b)))
def neM (a : α) (b : β) : M Bool := M.need (SeqAt.shaped (toD a) = true ∧ SeqAt.shaped (toD b) = true) (M.pure (!PyData.eqv (toD a) (toD b)))
theorem o_eqD : Op2 K (rEqD K) fun (a : α) (b : β) => eqM a b := fun F H v w a b Q E s ra rb q => ⟨toD a, toD b, dp s ra, dp s rb, q.1.1, q.1.2, q.2 _ F H (Go.refl s) rfl⟩
theorem o_neD : Op2 K (rNeD K) fun (a : α) (b : β) => neM a b := fun F H v w a b Q E s ra rb q => ⟨toD a, toD b, dp s ra, dp s rb, q.1.1, q.1.2, q.2 _ F H (Go.refl s) rfl⟩
def reprM (a : α) : M Str := M.need (Fit' (toD a)) (M.pure (toD a).shown)
/-- a thing that has a place -/
class Plc (α : Type) [Fz α] : Prop where
  ref : ∀ {K F H v} {a : α}, Fz.rd K F H v a → ∃ l, v = .ref l
instance {α : Type} [Fz α] : Plc (List α) := ⟨fun ⟨l, _, e, _⟩ => ⟨l, e⟩⟩
instance {α : Type} [Fz α] : Plc (Tof α) := ⟨fun ⟨l, _, e, _⟩ => ⟨l, e⟩⟩
instance {α β : Type} [Fz α] [Fz β] : Plc (α × β) := ⟨fun ⟨l, _, _, e, _⟩ => ⟨l, e⟩⟩
instance {α β γ : Type} [Fz α] [Fz β] [Fz γ] : Plc (T3 α β γ) := ⟨fun ⟨l, _, _, _, e, _⟩ => ⟨l, e⟩⟩
instance : Plc Door := ⟨fun ⟨l, e, _⟩ => ⟨l, e⟩⟩
theorem o_repr [Plc α] : Cb1 K (rRepr K) fun a : α => reprM a := fun F H v a Q E s ra q => by
  obtain ⟨l, rfl⟩ := Plc.ref ra
  exact ⟨l, toD a, rfl, dp s ra, q.1.s, q.1.n, q.1.k, q.1.l, q.2 _ F H (Go.refl s) rfl⟩
theorem o_reprE : Cb1 K (rReprE K) fun a : α => reprM a := fun F H v a Q E s ra q => ⟨v, toD a, rfl, .dp (dp s ra) q.1.n, ⟨q.1.s, q.1.k, q.1.l⟩, q.2 _ F H (Go.refl s) rfl⟩
end
/-- of one type, equal data are equal -/
class EqD (α : Type) [Fz α] [ToD α] [DecidableEq α] : Prop where
  eq : ∀ a b : α, PyData.eqv (toD a) (toD b) = decide (a = b)
instance : EqD Int := ⟨eqv_int⟩
instance : EqD Str := ⟨eqv_str⟩
instance : EqD Bool := ⟨fun a b => by cases a <;> cases b <;> rfl⟩
instance {α : Type} [Fz α] [ToD α] [DecidableEq α] [EqD α] : EqD (List α) := ⟨fun a b => by
  show PyData.eqv (.list (a.map toD)) (.list (b.map toD)) = _
  rw [PyData.eqv]
  exact eqvAll_map _ EqD.eq a b⟩
theorem dec_and {p q r : Prop} [Decidable p] [Decidable q] [Decidable r] (h : r ↔ p ∧ q) : (decide p && decide q) = decide r := by
  by_cases hp : p
  · by_cases hq : q
    · rw [decide_eq_true hp, decide_eq_true hq, decide_eq_true (h.mpr ⟨hp, hq⟩)]
      rfl
    · rw [decide_eq_true hp, decide_eq_false hq, decide_eq_false (fun z => hq (h.mp z).2)]
      rfl
  · rw [decide_eq_false hp, decide_eq_false (fun z => hp (h.mp z).1)]
    rfl
instance {α : Type} [Fz α] [ToD α] [DecidableEq α] [EqD α] : EqD (Tof α) := ⟨fun ⟨a⟩ ⟨b⟩ => by
  show PyData.eqv (.tuple (a.map toD)) (.tuple (b.map toD)) = _
  rw [PyData.eqv, eqvAll_map _ EqD.eq a b]
  exact decide_eq_decide.mpr ⟨fun e => by rw [e], fun e => by cases e; rfl⟩⟩
instance {α β : Type} [Fz α] [ToD α] [DecidableEq α] [EqD α] [Fz β] [ToD β] [DecidableEq β] [EqD β] : EqD (α × β) := ⟨fun ⟨a, b⟩ ⟨c, d⟩ => by
  show PyData.eqv (.tuple [toD a, toD b]) (.tuple [toD c, toD d]) = _
  rw [PyData.eqv, PyData.eqvAll, PyData.eqvAll, PyData.eqvAll, EqD.eq, EqD.eq, Bool.and_true]
  exact dec_and ⟨fun e => by cases e; exact ⟨rfl, rfl⟩, fun ⟨e1, e2⟩ => by rw [e1, e2]⟩⟩
instance {α β γ : Type} [Fz α] [ToD α] [DecidableEq α] [EqD α] [Fz β] [ToD β] [DecidableEq β] [EqD β] [Fz γ] [ToD γ] [DecidableEq γ] [EqD γ] : EqD (T3 α β γ) := ⟨fun ⟨a, b, e⟩ ⟨c, d, f⟩ => by
  show PyData.eqv (.tuple [toD a, toD b, toD e]) (.tuple [toD c, toD d, toD f]) = _
  rw [PyData.eqv, PyData.eqvAll, PyData.eqvAll, PyData.eqvAll, PyData.eqvAll, EqD.eq, EqD.eq, EqD.eq, Bool.and_true, dec_and (r := b = d ∧ e = f) Iff.rfl]
  exact dec_and ⟨fun e => by cases e; exact ⟨rfl, rfl, rfl⟩, fun ⟨e1, e2, e3⟩ => by rw [e1, e2, e3]⟩⟩
instance : EqD Door := ⟨fun ⟨a, b, e, g⟩ ⟨c, d, f, h⟩ => by
  show PyData.eqv (.tuple [.str a, .str b, .int e, .int g]) (.tuple [.str c, .str d, .int f, .int h]) = _
  rw [PyData.eqv, PyData.eqvAll, PyData.eqvAll, PyData.eqvAll, PyData.eqvAll, PyData.eqvAll, eqv_str, eqv_str, eqv_int, eqv_int, Bool.and_true, dec_and (r := e = f ∧ g = h) Iff.rfl, dec_and (r := b = d ∧ e = f ∧ g = h) Iff.rfl]
  exact dec_and ⟨fun e => by cases e; exact ⟨rfl, rfl, rfl, rfl⟩, fun ⟨e1, e2, e3, e4⟩ => by rw [e1, e2, e3, e4]⟩⟩
section
variable {α : Type} [Fz α] [ToD α] [DecidableEq α] [EqD α]
theorem eqM_ok {a b : α} (h1 : SeqAt.shaped (toD a) = true) (h2 : SeqAt.shaped (toD b) = true) : eqM a b = M.pure (decide (a = b)) := by
  unfold eqM
  rw [M.need_true ⟨h1, h2⟩, EqD.eq]
theorem neM_ok {a b : α} (h1 : SeqAt.shaped (toD a) = true) (h2 : SeqAt.shaped (toD b) = true) : neM a b = M.pure (!decide (a = b)) := by
  unfold neM
  rw [M.need_true ⟨h1, h2⟩, EqD.eq]
end
theorem reprM_ok {α : Type} [Fz α] [ToD α] {a : α} (h : Fit' (toD a)) : reprM a = M.pure (toD a).shown := by
  unfold reprM
  rw [M.need_true h]
end Dc

namespace Dc
open PySem PySem.Spec PyProof.Rows L2
section
variable {C : Ctx} {W : WX} {δx : List Sl} {ρ : Type} {R : Rp ρ} {δ δ1 : List Sl} {S T U : Type} {α β γ ε : Type} [Fz α] [Fz β] [Fz γ] [Fz ε] {t t1 t2 t3 tb : TS} {te ti ta tc : TE} {tt : TT} {me : M α} {i j n : Nat} {wi : TI} {g : TG} {is : List Nat}
/-- a block that goes on -/
def KB (C : Ctx) (W : WX) (δx : List Sl) {ρ : Type} (R : Rp ρ) (δ : List Sl) {S : Type} (t : TS) (δ' : S → List Sl) (m : M S) : Prop := JB C W δx R δ t δ' m
/-- .. that returns -/
def KV (C : Ctx) (W : WX) (δx : List Sl) {ρ : Type} (R : Rp ρ) (δ : List Sl) (t : TS) (m : M ρ) : Prop := JV C W δx R δ t m
/-- less is known from now on -/
theorem s_forget {δ' : S → List Sl} {m : M (Fl S ρ)} (w : Wk δ δ1) (k : JS C W δx R δ1 t δ' m) : JS C W δx R δ t δ' m := fun F H σ D ok q => k F H σ D (ok.wk w) q
theorem s_ofB {δ' : S → List Sl} {m : M S} (h : KB C W δx R δ t δ' m) : JS C W δx R δ t δ' (m.bind fun s => M.pure (Fl.nx s)) := h
theorem s_ofV {δ' : S → List Sl} {m : M ρ} (h : KV C W δx R δ t m) : JS C W δx R δ t δ' (m.bind fun r => M.pure (Fl.rt r)) := JS.of_v h
theorem bb_next {δ' : S → List Sl} {s : S} (w : Wk δ (δ' s)) : KB C W δx R δ tNext δ' (M.pure s) := s_next w
theorem bb_end {δ' : S → List Sl} {m : M S} (h : KB C W δx R δ (tSeq t tNext) δ' m) : KB C W δx R δ t δ' m := h
theorem vv_ret {mr : M ρ} (w : Wk δ δx) (h : JO C W δ R te mr) : KV C W δx R δ (tRet te) mr := v_ret w h
theorem vv_retN (w : Wk δ δx) : KV C W δx (oZ Unit) δ tRetN (M.pure ()) := v_retN w
theorem vv_never : KV C W δx R δ tNever (M.bad : M ρ) := v_never
theorem vv_never2 : KV C W δx R δ (tSeq tNever t2) (M.bad : M ρ) := v_never
theorem bb_never {δ' : S → List Sl} : KB C W δx R δ tNever δ' (M.bad : M S) := b_never
theorem ss_never {δ' : S → List Sl} : JS C W δx R δ tNever δ' (M.bad : M (Fl S ρ)) := s_never

theorem bb_asg  {δ' : S → List Sl} {m : α → M S} (w : Wk δ δx) (h : JE C W δ te me) (k : ∀ a, KB C W δx R (δ.set i (.fz a)) t2 δ' (m a)) (hi : i < δ.length := by exact Nat.le_of_ble_eq_true rfl) : KB C W δx R δ (tSeq (tAsg te (gName i)) t2) δ' (me.bind m) := by
  have z := s_asg (S := S) w h k hi
  exact z
theorem vv_asg  {m : α → M ρ} (w : Wk δ δx) (h : JE C W δ te me) (k : ∀ a, KV C W δx R (δ.set i (.fz a)) t2 (m a)) (hi : i < δ.length := by exact Nat.le_of_ble_eq_true rfl) : KV C W δx R δ (tSeq (tAsg te (gName i)) t2) (me.bind m) := by
  have z := s_asg (S := Empty) w h k hi
  exact z
theorem bb_asgO {ω : Type} {O : Rp ω} {mo : M ω} {δ' : S → List Sl} {m : ω → M S} (w : Wk δ δx) (h : JO C W δ O te mo) (k : ∀ a, KB C W δx R (δ.set i (.ow O a)) t2 δ' (m a)) (hi : i < δ.length := by exact Nat.le_of_ble_eq_true rfl) : KB C W δx R δ (tSeq (tAsg te (gName i)) t2) δ' (mo.bind m) := by
  have z := s_asgO (S := S) w h k hi
  exact z
theorem vv_asgO {ω : Type} {O : Rp ω} {mo : M ω} {m : ω → M ρ} (w : Wk δ δx) (h : JO C W δ O te mo) (k : ∀ a, KV C W δx R (δ.set i (.ow O a)) t2 (m a)) (hi : i < δ.length := by exact Nat.le_of_ble_eq_true rfl) : KV C W δx R δ (tSeq (tAsg te (gName i)) t2) (mo.bind m) := by
  have z := s_asgO (S := Empty) w h k hi
  exact z
theorem bb_unp {δg : α → List Sl} {δ' : S → List Sl} {m : α → M S} (w : Wk δ δx) (h : JE C W δ te me) (hg : JG C δ g is δg) (k : ∀ a, KB C W δx R (δg a) t2 δ' (m a)) : KB C W δx R δ (tSeq (tAsg te g) t2) δ' (me.bind m) := by
  have z := s_unp (S := S) w h hg k
  exact z
theorem vv_unp {δg : α → List Sl} {m : α → M ρ} (w : Wk δ δx) (h : JE C W δ te me) (hg : JG C δ g is δg) (k : ∀ a, KV C W δx R (δg a) t2 (m a)) : KV C W δx R δ (tSeq (tAsg te g) t2) (me.bind m) := by
  have z := s_unp (S := Empty) w h hg k
  exact z
theorem bb_par {ma : M α} {mb : M β} {δ' : S → List Sl} {m : α → β → M S} (w : Wk δ δx) (h : JE C W δ ta ma) (h2 : JE C W δ tc mb) (k : ∀ a b, KB C W δx R ((δ.set i (.fz a)).set j (.fz b)) t2 δ' (m a b)) (hi : i < δ.length := by exact Nat.le_of_ble_eq_true rfl) (hj : j < δ.length := by exact Nat.le_of_ble_eq_true rfl) : KB C W δx R δ (tSeq (tPar i j (tCons ta (tCons tc tNil))) t2) δ' (ma.bind fun a => mb.bind fun b => m a b) := by
  have z := s_par (S := S) w h h2 k hi hj
  exact z
theorem vv_par {ma : M α} {mb : M β} {m : α → β → M ρ} (w : Wk δ δx) (h : JE C W δ ta ma) (h2 : JE C W δ tc mb) (k : ∀ a b, KV C W δx R ((δ.set i (.fz a)).set j (.fz b)) t2 (m a b)) (hi : i < δ.length := by exact Nat.le_of_ble_eq_true rfl) (hj : j < δ.length := by exact Nat.le_of_ble_eq_true rfl) : KV C W δx R δ (tSeq (tPar i j (tCons ta (tCons tc tNil))) t2) (ma.bind fun a => mb.bind fun b => m a b) := by
  have z := s_par (S := Empty) w h h2 k hi hj
  exact z
theorem bb_drop  {δ' : S → List Sl} {m : M S} (w : Wk δ δx) (h : JE C W δ te me) (k : KB C W δx R δ t2 δ' m) : KB C W δx R δ (tSeq (tDrop te) t2) δ' (me.bind fun _ => m) := by
  have z := s_drop (S := S) w h k
  exact z
theorem vv_drop  {m : M ρ} (w : Wk δ δx) (h : JE C W δ te me) (k : KV C W δx R δ t2 m) : KV C W δx R δ (tSeq (tDrop te) t2) (me.bind fun _ => m) := by
  have z := s_drop (S := Empty) w h k
  exact z
theorem bb_append {xs : List α} {δ' : S → List Sl} {m : List α → M S} (w : Wk δ δx) (h : JE C W δ te me) (k : ∀ ys, KB C W δx R (δ.set i (.ow (oL α) ys)) t2 δ' (m ys)) (hx : δ[i]? = some (.ow (oL α) xs) := by rfl) : KB C W δx R δ (tSeq (tDrop (tBM C.K "list" rAppend (tVar i) (tCons te tNil))) t2) δ' (me.bind fun x => M.need (xs.length < sizeLine) (M.to m (xs ++ [x]))) := by
  have z := s_append (S := S) w h k hx
  exact z
theorem vv_append {xs : List α} {m : List α → M ρ} (w : Wk δ δx) (h : JE C W δ te me) (k : ∀ ys, KV C W δx R (δ.set i (.ow (oL α) ys)) t2 (m ys)) (hx : δ[i]? = some (.ow (oL α) xs) := by rfl) : KV C W δx R δ (tSeq (tDrop (tBM C.K "list" rAppend (tVar i) (tCons te tNil))) t2) (me.bind fun x => M.need (xs.length < sizeLine) (M.to m (xs ++ [x]))) := by
  have z := s_append (S := Empty) w h k hx
  exact z
theorem bb_extend {xs : List α} {ml : M (List α)} {δ' : S → List Sl} {m : List α → M S} (w : Wk δ δx) (h : JR C W δ te ml) (k : ∀ ys, KB C W δx R (δ.set i (.ow (oL α) ys)) t2 δ' (m ys)) (hx : δ[i]? = some (.ow (oL α) xs) := by rfl) : KB C W δx R δ (tSeq (tDrop (tBM C.K "list" rExtend (tVar i) (tCons te tNil))) t2) δ' (ml.bind fun zs => M.need (xs.length + zs.length ≤ sizeLine) (M.to m (xs ++ zs))) := by
  have z := s_extend (S := S) w h k hx
  exact z
theorem vv_extend {xs : List α} {ml : M (List α)} {m : List α → M ρ} (w : Wk δ δx) (h : JR C W δ te ml) (k : ∀ ys, KV C W δx R (δ.set i (.ow (oL α) ys)) t2 (m ys)) (hx : δ[i]? = some (.ow (oL α) xs) := by rfl) : KV C W δx R δ (tSeq (tDrop (tBM C.K "list" rExtend (tVar i) (tCons te tNil))) t2) (ml.bind fun zs => M.need (xs.length + zs.length ≤ sizeLine) (M.to m (xs ++ zs))) := by
  have z := s_extend (S := Empty) w h k hx
  exact z
theorem bb_clear {xs : List α} {δ' : S → List Sl} {m : M S} (k : KB C W δx R (δ.set i (.ow (oL α) ([] : List α))) t2 δ' m) (hx : δ[i]? = some (.ow (oL α) xs) := by rfl) : KB C W δx R δ (tSeq (tDrop (tBM0 C.K "list" rClear (tVar i))) t2) δ' (m) := by
  have z := s_clear (S := S) k hx
  exact z
theorem vv_clear {xs : List α} {m : M ρ} (k : KV C W δx R (δ.set i (.ow (oL α) ([] : List α))) t2 m) (hx : δ[i]? = some (.ow (oL α) xs) := by rfl) : KV C W δx R δ (tSeq (tDrop (tBM0 C.K "list" rClear (tVar i))) t2) (m) := by
  have z := s_clear (S := Empty) k hx
  exact z
theorem bb_reverse {xs : List α} {δ' : S → List Sl} {m : List α → M S} (k : ∀ ys, KB C W δx R (δ.set i (.ow (oL α) ys)) t2 δ' (m ys)) (hx : δ[i]? = some (.ow (oL α) xs) := by rfl) : KB C W δx R δ (tSeq (tDrop (tBM0 C.K "list" rReverse (tVar i))) t2) δ' (M.to m xs.reverse) := by
  have z := s_reverse (S := S) k hx
  exact z
theorem vv_reverse {xs : List α} {m : List α → M ρ} (k : ∀ ys, KV C W δx R (δ.set i (.ow (oL α) ys)) t2 (m ys)) (hx : δ[i]? = some (.ow (oL α) xs) := by rfl) : KV C W δx R δ (tSeq (tDrop (tBM0 C.K "list" rReverse (tVar i))) t2) (M.to m xs.reverse) := by
  have z := s_reverse (S := Empty) k hx
  exact z
theorem bb_setL {xs : List α} {mi : M Int} {δ' : S → List Sl} {m : List α → M S} (w : Wk δ δx) (h : JE C W δ te me) (hk : JE C W δ ti mi) (k : ∀ ys, KB C W δx R (δ.set i (.ow (oL α) ys)) t2 δ' (m ys)) (hx : δ[i]? = some (.ow (oL α) xs) := by rfl) : KB C W δx R δ (tSeq (tAsg te (gSub (tVar i) ti rSetL)) t2) δ' (me.bind fun x => mi.bind fun z => (M.ofOpt (ixN xs.length z)).bind fun n => M.to m (xs.set n x)) := by
  have z := s_setL (S := S) w h hk k hx
  exact z
theorem vv_setL {xs : List α} {mi : M Int} {m : List α → M ρ} (w : Wk δ δx) (h : JE C W δ te me) (hk : JE C W δ ti mi) (k : ∀ ys, KV C W δx R (δ.set i (.ow (oL α) ys)) t2 (m ys)) (hx : δ[i]? = some (.ow (oL α) xs) := by rfl) : KV C W δx R δ (tSeq (tAsg te (gSub (tVar i) ti rSetL)) t2) (me.bind fun x => mi.bind fun z => (M.ofOpt (ixN xs.length z)).bind fun n => M.to m (xs.set n x)) := by
  have z := s_setL (S := Empty) w h hk k hx
  exact z
theorem bb_fix {xs : List α} {δ' : S → List Sl} {m : M S} (i : Nat) (k : KB C W δx R (δ.set i (.fz xs)) t δ' m) (hx : δ[i]? = some (.ow (oL α) xs) := by rfl) : KB C W δx R δ (t) δ' (m) := by
  have z := s_fix (S := S) i k hx
  exact z
theorem vv_fix {xs : List α} {m : M ρ} (i : Nat) (k : KV C W δx R (δ.set i (.fz xs)) t m) (hx : δ[i]? = some (.ow (oL α) xs) := by rfl) : KV C W δx R δ (t) (m) := by
  have z := s_fix (S := Empty) i k hx
  exact z
theorem bb_forget  {δ' : S → List Sl} {m : M S} (w : Wk δ δ1) (k : KB C W δx R δ1 t δ' m) : KB C W δx R δ (t) δ' (m) := by
  have z := s_forget (S := S) w k
  exact z
theorem vv_forget  {m : M ρ} (w : Wk δ δ1) (k : KV C W δx R δ1 t m) : KV C W δx R δ (t) (m) := by
  have z := s_forget (S := Empty) w k
  exact z
theorem bb_aug {x : Int} {f : Int → Int → Int} {mi : M Int} {δ' : S → List Sl} {m : Int → M S} (w : Wk δ δx) (h : JE C W δ te mi) (k : ∀ y, KB C W δx R (δ.set i (.fz y)) t2 δ' (m y)) (hx : δ[i]? = some (.fz x) := by rfl) : KB C W δx R δ (tSeq (tAug i te (ipI f)) t2) δ' (mi.bind fun y => M.to m (f x y)) := by
  have z := s_aug (S := S) (f := f) w h k hx
  exact z
theorem vv_aug {x : Int} {f : Int → Int → Int} {mi : M Int} {m : Int → M ρ} (w : Wk δ δx) (h : JE C W δ te mi) (k : ∀ y, KV C W δx R (δ.set i (.fz y)) t2 (m y)) (hx : δ[i]? = some (.fz x) := by rfl) : KV C W δx R δ (tSeq (tAug i te (ipI f)) t2) (mi.bind fun y => M.to m (f x y)) := by
  have z := s_aug (S := Empty) (f := f) w h k hx
  exact z

theorem vv_ifr {mb : M Bool} {m1 m : M ρ} (w : Wk δ δx) (h : JT C W δ tt mb) (k : KV C W δx R δ t1 m1) (l : KV C W δx R δ t2 m) : KV C W δx R δ (tSeq (tIfS tt t1 tNext) t2) (mb.bind fun b => if b then m1 else m) := v_ifr w h k l
theorem ss_ifr {δ' : S → List Sl} {mb : M Bool} {m1 : M ρ} {m : M (Fl S ρ)} (w : Wk δ δx) (h : JT C W δ tt mb) (k : KV C W δx R δ t1 m1) (l : JS C W δx R δ t2 δ' m) : JS C W δx R δ (tSeq (tIfS tt t1 tNext) t2) δ' (mb.bind fun b => if b then m1.bind fun r => M.pure (Fl.rt r) else m) := s_ifr w h k l
theorem bb_if {δm : T → List Sl} {δ' : S → List Sl} {mb : M Bool} {m1 m2 : M T} {m : T → M S} (w : Wk δ δx) (h : JT C W δ tt mb) (k : KB C W δx R δ t1 δm m1) (l : KB C W δx R δ t2 δm m2) (j : ∀ s, KB C W δx R (δm s) t3 δ' (m s)) :
    KB C W δx R δ (tSeq (tIfS tt t1 t2) t3) δ' ((mb.bind fun b => if b then m1 else m2).bind m) := b_if w h k l j
theorem vv_if {δm : T → List Sl} {mb : M Bool} {m1 m2 : M T} {m : T → M ρ} (w : Wk δ δx) (h : JT C W δ tt mb) (k : KB C W δx R δ t1 δm m1) (l : KB C W δx R δ t2 δm m2) (j : ∀ s, KV C W δx R (δm s) t3 (m s)) :
    KV C W δx R δ (tSeq (tIfS tt t1 t2) t3) ((mb.bind fun b => if b then m1 else m2).bind m) := v_if w h k l j
theorem vv_ifS {δm : T → List Sl} {mb : M Bool} {m1 m2 : M (Fl T ρ)} {m : T → M ρ} (w : Wk δ δx) (h : JT C W δ tt mb) (k : JS C W δx R δ t1 δm m1) (l : JS C W δx R δ t2 δm m2) (j : ∀ s, KV C W δx R (δm s) t3 (m s)) :
    KV C W δx R δ (tSeq (tIfS tt t1 t2) t3) ((mb.bind fun b => if b then m1 else m2).done m) := fun F H σ D ok q => s_if w h k l j F H σ D ok ((mb.bind fun b => if b then m1 else m2).mono (fun f z => by
      cases f with
      | nx s => exact z
      | rt r => exact z) (fun _ z => z) q)
theorem vv_if2 {mb : M Bool} {m1 m2 : M ρ} (w : Wk δ δx) (h : JT C W δ tt mb) (k : KV C W δx R δ t1 m1) (l : KV C W δx R δ t2 m2) : KV C W δx R δ (tIfS tt t1 t2) (mb.bind fun b => if b then m1 else m2) := v_if2 w h k l
theorem vv_else {mb : M Bool} {m1 m2 : M ρ} (w : Wk δ δx) (h : JT C W δ tt mb) (k : KV C W δx R δ t1 m1) (l : KV C W δx R δ (tSeq t2 t3) m2) : KV C W δx R δ (tSeq (tIfS tt t1 t2) t3) (mb.bind fun b => if b then m1 else m2) := fun F H σ D ok q =>
  h F H σ _ ok (mb.mono (fun b q1 F1 H1 s1 ok1 => by
    cases b with
    | true => exact JV.nox k ok1 _ (m1.mono (fun r z => SQ.mono (S := Empty) (δ' := fun _ => δx) (f := .rt r) s1 z) (fun e z => XQ.mono s1 z) q1)
    | false => exact l F1 H1 σ D ok1 (m2.mono (fun r z => SQ.mono (S := Empty) (δ' := fun _ => δx) (f := .rt r) s1 z) (fun e z => XQ.mono s1 z) q1)) (fun e z => XQ.ew w z) q)
theorem bb_for {δ' : S → List Sl} {δL : T → List Sl} {δg : T → α → List Sl} {mi : M (List α)} {s0 : T} {mb : α → T → M T} {m : T → M S} (w : Wk δ δx) (w0 : Wk δ (δL s0)) (hi : JI C W δ wi mi) (hg : ∀ s, JG C (δL s) g is (δg s)) (hb : ∀ s x, KB C W δx R (δg s x) tb δL (mb x s)) (hk : ∀ s, KB C W δx R (δL s) t3 δ' (m s)) :
    KB C W δx R δ (tSeq (tFor wi g tb) t3) δ' (mi.bind fun xs => (forS mb xs s0).bind m) := b_for w w0 hi hg hb hk
theorem vv_for {δL : T → List Sl} {δg : T → α → List Sl} {mi : M (List α)} {s0 : T} {mb : α → T → M T} {m : T → M ρ} (w : Wk δ δx) (w0 : Wk δ (δL s0)) (hi : JI C W δ wi mi) (hg : ∀ s, JG C (δL s) g is (δg s)) (hb : ∀ s x, KB C W δx R (δg s x) tb δL (mb x s)) (hk : ∀ s, KV C W δx R (δL s) t3 (m s)) :
    KV C W δx R δ (tSeq (tFor wi g tb) t3) (mi.bind fun xs => (forS mb xs s0).bind m) := v_for w w0 hi hg hb hk
theorem vv_forR {δL : T → List Sl} {δg : T → α → List Sl} {mi : M (List α)} {s0 : T} {mb : α → T → M (Fl T ρ)} {m : T → M ρ} (w : Wk δ δx) (w0 : Wk δ (δL s0)) (hi : JI C W δ wi mi) (hg : ∀ s, JG C (δL s) g is (δg s)) (hb : ∀ s x, JS C W δx R (δg s x) tb δL (mb x s)) (hk : ∀ s, KV C W δx R (δL s) t3 (m s)) :
    KV C W δx R δ (tSeq (tFor wi g tb) t3) (mi.bind fun xs => (forM mb xs s0).done m) := v_forR w w0 hi hg hb hk
theorem bb_while {δ' : S → List Sl} {δL : T → List Sl} {s0 : T} {mc : T → M Bool} {mb : T → M T} {m : T → M S} (w0 : Wk δ (δL s0)) (wx : ∀ s, Wk (δL s) δx) (hc : ∀ s, JT C W (δL s) tt (mc s)) (hb : ∀ s, KB C W δx R (δL s) tb δL (mb s)) (hk : ∀ s, KB C W δx R (δL s) t3 δ' (m s)) :
    KB C W δx R δ (tSeq (tWhile tt tb) t3) δ' ((whileS mc mb s0).bind m) := b_while w0 wx hc hb hk
theorem vv_while {δL : T → List Sl} {s0 : T} {mc : T → M Bool} {mb : T → M T} {m : T → M ρ} (w0 : Wk δ (δL s0)) (wx : ∀ s, Wk (δL s) δx) (hc : ∀ s, JT C W (δL s) tt (mc s)) (hb : ∀ s, KB C W δx R (δL s) tb δL (mb s)) (hk : ∀ s, KV C W δx R (δL s) t3 (m s)) :
    KV C W δx R δ (tSeq (tWhile tt tb) t3) ((whileS mc mb s0).bind m) := v_while w0 wx hc hb hk
theorem vv_whileR {δL : T → List Sl} {s0 : T} {mc : T → M Bool} {mb : T → M (Fl T ρ)} {m : T → M ρ} (w0 : Wk δ (δL s0)) (wx : ∀ s, Wk (δL s) δx) (hc : ∀ s, JT C W (δL s) tt (mc s)) (hb : ∀ s, JS C W δx R (δL s) tb δL (mb s)) (hk : ∀ s, KV C W δx R (δL s) t3 (m s)) :
    KV C W δx R δ (tSeq (tWhile tt tb) t3) ((whileM mc mb s0).done m) := fun F H σ D ok q => s_while w0 wx hc hb hk F H σ D ok ((whileM mc mb s0).mono (fun f z => by
      cases f with
      | nx s => exact z
      | rt r => exact z) (fun _ z => z) q)
/-- a comprehension's slots, seen by a look -/
def noAt (δ : List Sl) (j : Nat) : Bool := match δ[j]? with | some .no => true | _ => false
theorem noAt_ok {δ : List Sl} {j : Nat} (h : noAt δ j = true) : δ[j]? = some .no := by
  unfold noAt at h
  split at h
  · assumption
  · cases h
theorem oo_comp {δg : α → List Sl} {mi : M (List α)} {mt : α → M Bool} {me : α → M γ} {vs : List Nat} (hi : JIc C W δ wi mi) (hg : ∀ P, JG (C.pr P) δ g is δg) (ht : ∀ P x, JT (C.pr P) W0 (δg x) tt (mt x)) (hE : ∀ P x, JE (C.pr P) W0 (δg x) te (me x))
    (wk : ∀ x, Wk (δg x) δ) (hv : vs.all (noAt δ) = true := by rfl) (hs : is.all (fun j => vs.contains j) = true := by rfl) :
    JO C W δ (oL γ) (tLc wi g tt te vs) (mi.bind fun xs => M.need (xs.length < 10000000) (compM (fun x => (mt x).nx.bind fun b => if b then (me x).nx.bind fun y => M.pure (some y) else M.pure none) xs)) :=
  o_comp hi hg ht hE wk (fun j m => noAt_ok (List.all_eq_true.mp hv j m)) (fun j m => by simpa using List.all_eq_true.mp hs j m)
/-- .. without a test -/
theorem t_yes : JT C W δ tYes (M.pure true) := fun F H σ Q ok q => q F H (Same.refl _) ok
end
def mapM {α β : Type} (f : α → M β) : List α → M (List β)
  | [] => M.pure []
  | x :: xs => (f x).bind fun y => (mapM f xs).bind fun r => M.pure (y :: r)
theorem compM_map {α β : Type} (f : α → M β) : ∀ xs : List α, compM (fun x => ((M.pure true : M Bool)).nx.bind fun b => if b then (f x).bind fun y => M.pure (some y) else M.pure none) xs = mapM f xs
  | [] => rfl
  | x :: xs => by
    have ih := compM_map f xs
    show (f x).bind (fun y => (compM _ xs).bind fun r => M.pure (y :: r)) = (f x).bind _
    rw [ih]
/-- a def's body, by its kind -/
theorem fn_V {C : Ctx} {δ δx : List Sl} {ρ : Type} {R : Rp ρ} {σ : L2.St} {Q : VK} {E : XK} {m : M ρ} {t : TS} (h : KV C (WO E) δx R δ t m) (ok : Okk C C.F C.H σ δ) (post : Post C.K C.M C.p C.F C.H R m Q E) : t (En Q) σ C.H := fn_v h ok post
theorem fn_B {C : Ctx} {δ δx : List Sl} {S : Type} {σ : L2.St} {Q : VK} {E : XK} {δ' : S → List Sl} {m : M S} {t : TS} (h : KB C (WO E) δx (oZ Unit) δ t δ' m) (ok : Okk C C.F C.H σ δ) (post : Post C.K C.M C.p C.F C.H (oZ Unit) (m.bind fun _ => M.pure ()) Q E) : t (En Q) σ C.H := fn_b h ok post
end Dc

namespace Dc
open PySem PySem.Spec PyProof.Rows L2
section
variable {C : Ctx} {W : WX} {δx : List Sl} {ρ : Type} {R : Rp ρ} {δ : List Sl} {S T : Type} {α β γ ε : Type} [Fz α] [Fz β] [Fz γ] [Fz ε] {t t2 t3 : TS} {te ti ta tb : TE} {i j : Nat} {F H : Hp} {σ : L2.St} {K : PySem.W.Frag}
/-- return x, x one's own -/
theorem s_retOwn {δ' : S → List Sl} {xs : List α} (hx : δ[i]? = some (.ow (oL α) xs) := by rfl) : JS C W δx (oL α) δ (tRet (tVar i)) δ' (M.pure (Fl.rt xs)) := fun F H σ D ok q => by
  obtain ⟨l, vs, e, hl, r⟩ := own_at ok hx
  refine ⟨.ref l, e, q _ F H (Same.refl _) ?_⟩
  obtain ⟨A, k⟩ := ok
  obtain ⟨v, e', ⟨l', vs', rfl, eA, hl', r'⟩, hc⟩ := k.at_ i _ hx
  rw [e] at e'
  cases (show some (V.ref l) = some (V.ref l') from e')
  have mi : ∀ a, a ∈ A i → a = l := fun a m => by
    rw [eA] at m
    exact List.mem_singleton.mp m
  refine ⟨fun j => if j = 0 then A i else [], ⟨k.go, k.pot, rfl, fun j s e => ?_, fun j n a ma mb => ?_, fun j a m => ?_, fun a o e => ⟨(k.prt a o e).1, (k.prt a o e).2.1, fun j m => ?_⟩⟩⟩
  · cases j with
    | zero =>
      cases e
      exact ⟨.ref l, rfl, ⟨l, vs', rfl, eA, hl', r'⟩, hc⟩
    | succ j => cases e
  · by_cases z : j = 0
    · by_cases y : n = 0
      · rw [z, y]
      · simp only [if_neg y] at mb
        cases mb
    · simp only [if_neg z] at ma
      cases ma
  · by_cases z : j = 0
    · simp only [if_pos z] at m
      rw [z]
      exact ⟨(k.off i a m).1, Nat.succ_pos _⟩
    · simp only [if_neg z] at m
      cases m
  · by_cases z : j = 0
    · simp only [if_pos z] at m
      exact (k.prt a o e).2.2 i m
    · simp only [if_neg z] at m
      cases m
theorem vv_retOwn {xs : List α} (hx : δ[i]? = some (.ow (oL α) xs) := by rfl) : KV C W δx (oL α) δ (tRet (tVar i)) (M.pure xs) := s_retOwn hx
/-- int(b) -/
theorem e_join {m1 : M Str} {m2 : M (List Str)} (ha : JE C W δ ta m1) (hb : JR C W δ tb m2) : JE C W δ (tM1 (rJoin C.K) ta tb) (m1.bind fun a => m2.bind fun ys => M.need ((ys.map (·.length)).sum + ys.length * a.length ≤ 16777216) (M.pure (Txt.join a ys))) := fun F H σ Q ok q =>
  ha F H σ _ ok (m1.mono (fun a q1 v F1 H1 s1 r1 ok1 => ⟨⟨a, r1⟩, hb F1 H1 σ _ ok1 (m2.mono (fun ys q2 w F2 H2 s2 ok2 r2 => by
    obtain ⟨l, vs, rfl, e, rr⟩ := r2 F2 H2 (Same.refl _) ok2
    exact ⟨a, l, ys, r1, rfl, .inl (SqL.of (by rw [e, strs_ rr])), q2.1, q2.2 _ F2 H2 (s1.trans s2) rfl ok2⟩) (fun e z => EW.mono s1 z) q1)⟩) (fun _ z => z) q)
/-- the first place of x -/
def firstAt [DecidableEq α] (x : α) : List α → Option Nat
  | [] => none
  | y :: r => if y = x then some 0 else (firstAt x r).map (· + 1)
def indexM {α : Type} [DecidableEq α] (xs : List α) (x : α) : M Int := (M.ofOpt (xs.findIdx? (· = x))).bind fun k => M.pure (k : Int)
theorem e_index [DecidableEq α] [Sc α] {m1 : M (List α)} {m2 : M α} (ha : JR C W δ ta m1) (hb : JE C W δ tb m2) : JE C W δ (tBM C.K "list" (rIndex C.K) ta (tCons tb tNil)) (m1.bind fun xs => m2.bind fun x => indexM xs x) := fun F H σ Q ok q =>
  ha F H σ _ ok (m1.mono (fun xs q1 v F1 H1 s1 ok1 r1 => by
    obtain ⟨l, vs, rfl, e, rr⟩ := r1 F1 H1 (Same.refl _) ok1
    refine ⟨.inl ⟨rfl, vs, SqL.of e⟩, hb F1 H1 σ _ ok1 (m2.mono (fun x q2 w F2 H2 s2 rp ok2 => ?_) (fun e z => EW.mono s1 z) q1)⟩
    obtain ⟨l', vs', e', hl', rr'⟩ := r1 F2 H2 s2 ok2
    cases e'
    have rx := Fz.rd_of ok2.same rp
    obtain ⟨hf, _⟩ := eqV_in rx (fun z => Fz.rd_of ok2.same z) rr'
    unfold indexM at q2
    cases hk : xs.findIdx? (· = x) with
    | none =>
      dsimp only at q2
      rw [hk] at q2
      exact q2.elim
    | some k =>
      dsimp only at q2
      rw [hk] at q2
      have hlt : k < xs.length := (List.findIdx?_eq_some_iff_findIdx_eq.mp hk).1
      have hx : xs[k] = x := by
        have := List.findIdx?_eq_some_iff_getElem.mp hk
        obtain ⟨h1, h2, _⟩ := this
        exact of_decide_eq_true h2
      obtain ⟨u, hu, ru⟩ := paired_get rr' (List.getElem?_eq_getElem hlt)
      refine ⟨l, vs', w, k, u, rfl, rfl, SqL.of hl', (Sc.sc rx rx).2.2.1, hf, hu, ?_, fun m z hm hz => ?_, q2 _ F2 H2 (s1.trans s2) rfl ok2⟩
      · rw [(Sc.sc (Fz.rd_of ok2.same ru) rx).2.2.2, hx]
        exact decide_eq_true rfl
      · obtain ⟨y, hy, ry⟩ := paired_get' rr' hz
        rw [(Sc.sc (Fz.rd_of ok2.same ry) rx).2.2.2]
        refine decide_eq_false fun ey => ?_
        obtain ⟨h1, _, h3⟩ := List.findIdx?_eq_some_iff_getElem.mp hk
        have := h3 m hm
        have hym : xs[m]'(Nat.lt_trans hm h1) = y := by
          rw [List.getElem?_eq_getElem (Nat.lt_trans hm h1)] at hy
          exact Option.some.inj hy
        rw [hym, ey] at this
        simp at this) (fun _ z => z) q)
/-- the rooms of a door -/
theorem e_door2 {m : M Door} (h : JE C W δ te m) : JE C W δ (tSl (rSlT C.K) te tNoPart (tPart (tC (.int 2)))) (m.bind fun d => M.pure (d.near, d.far)) := fun F H σ Q ok q => h F H σ _ ok (m.mono (fun d q1 v F1 H1 s1 rp ok1 => by
  obtain ⟨l, rfl, e⟩ := rp
  refine ⟨2, rfl, l, _, rfl, SqT.of (ok1.same _ _ e), fun z => ?_, fun p hp => ?_⟩
  · exact absurd (show HT.sIx 4 4 (some 2) = 4 from z.2) (by decide)
  · have fp := Same.free ok1.same hp
    refine q1 _ _ _ (s1.trans (Same.new fp)) ⟨p, _, _, rfl, upd_same, rfl, rfl⟩ (ok1.newF hp)) (fun _ z => z) q)
/-- xs[::-1] -/
theorem n_rev {m : M (List α)} (h : JR C W δ te m) : JN C W δ (tRevL C.K te) (m.bind fun xs => M.pure xs.reverse) := fun F H σ Q ok q => h F H σ _ ok (m.mono (fun xs q1 v F1 H1 s1 ok1 r1 => by
  obtain ⟨l, vs, rfl, e, rr⟩ := r1 F1 H1 (Same.refl _) ok1
  exact ⟨l, vs, rfl, SqL.of e, fun p hp => q1 p _ F1 H1 s1 ok1 hp (rev_reps rr)⟩) (fun _ z => z) q)
/-- a sign in a text -/
def inSM (x z : Str) : M Bool := (M.ofOpt (if x.cps.size = 1 then x.cps[0]? else none)).bind fun c => M.pure (decide (c ∈ z.cps.toList))
theorem one_of {x : Str} {c : Nat} (h : (if x.cps.size = 1 then x.cps[0]? else none) = some c) : x = one c := by
  by_cases z : x.cps.size = 1
  · rw [if_pos z] at h
    obtain ⟨a⟩ := x
    show Str.mk a = Str.mk #[c]
    congr 1
    refine Array.ext (by simpa using z) fun i h1 h2 => ?_
    have : i = 0 := by simp at h2; omega
    subst this
    simp at h ⊢
    rw [Array.getElem?_eq_getElem h1] at h
    exact Option.some.inj h
  · rw [if_neg z] at h
    cases h
theorem o_inS : Op2 K rInS fun x z : Str => inSM x z := fun F H v w a b Q E s ra rb q => by
  unfold inSM at q
  dsimp only at q
  cases hx : (if a.cps.size = 1 then a.cps[0]? else none) with
  | none =>
    rw [hx] at q
    exact q.elim
  | some c =>
    rw [hx] at q
    have e := one_of hx
    cases ra
    cases rb
    exact ⟨c, b, by rw [e]; rfl, rfl, q _ F H (Go.refl s) rfl⟩
/-! triples by their places -/
theorem o_t3a : Op2 K (rIxT K) fun (a : T3 α β γ) (i : Int) => M.need (i = 0) (M.pure a.a) := fun F H v w a b Q E s ra rb q => by
  obtain ⟨l, v1, v2, v3, rfl, e, r1, r2, r3⟩ := ra
  exact ⟨l, _, b, v1, rfl, rb, SqT.of (s _ _ e), by rw [q.1]; rfl, q.2 _ F H (Go.refl s) r1⟩
theorem o_t3b : Op2 K (rIxT K) fun (a : T3 α β γ) (i : Int) => M.need (i = 1) (M.pure a.b) := fun F H v w a b Q E s ra rb q => by
  obtain ⟨l, v1, v2, v3, rfl, e, r1, r2, r3⟩ := ra
  exact ⟨l, _, b, v2, rfl, rb, SqT.of (s _ _ e), by rw [q.1]; rfl, q.2 _ F H (Go.refl s) r2⟩
theorem o_t3c : Op2 K (rIxT K) fun (a : T3 α β γ) (i : Int) => M.need (i = 2) (M.pure a.c) := fun F H v w a b Q E s ra rb q => by
  obtain ⟨l, v1, v2, v3, rfl, e, r1, r2, r3⟩ := ra
  exact ⟨l, _, b, v3, rfl, rb, SqT.of (s _ _ e), by rw [q.1]; rfl, q.2 _ F H (Go.refl s) r3⟩
end
/-- what the law's end asks -/
theorem post_law {K : PySem.W.Frag} {H : Hp} {m : M Bool} (h : m.run (fun b => b = true) fun _ => False) : Post K M0 none H H (oZ Bool) m (fun v _ => v = .bl true) fun _ _ _ => False :=
  m.mono (fun r e v F' H' A _ _ rp _ => by rw [rp.2, e]) (fun e z => z.elim) h
end Dc

namespace Dc
open PySem PySem.Spec PyProof.Rows L2
/-! ## dicts whose keys are numbers or texts -/
structure Dct (α β : Type) where
  l : List (α × β)
class Ky (α : Type) [Fz α] where
  key : α → Key
  inj : ∀ {a b}, key a = key b → a = b
  rep : ∀ {K F v a}, Fz.rep K F v a → v = kV (key a)
  back : ∀ {K F a}, Fz.rep K F (kV (key a)) a
instance : Ky Int := ⟨Sum.inl, fun h => Sum.inl.inj h, fun h => h, rfl⟩
instance : Ky Str := ⟨Sum.inr, fun h => Sum.inr.inj h, fun h => h, rfl⟩
section
variable {α β : Type} [DecidableEq α]
def dLook (l : List (α × β)) (k : α) : Option β := (l.find? fun p => decide (p.1 = k)).map (·.2)
def dPut (l : List (α × β)) (k : α) (v : β) : List (α × β) := if (l.any fun p => decide (p.1 = k)) = true then l.map (fun p => if p.1 = k then (p.1, v) else p) else l ++ [(k, v)]
def dMerge (l : List (α × β)) (ps : List (α × β)) : List (α × β) := ps.foldl (fun a p => dPut a p.1 p.2) l
variable [Fz α] [Ky α] [Fz β] {K : PySem.W.Frag} {F F' H : Hp}
abbrev KVs (K : PySem.W.Frag) (F : Hp) : List (Key × V) → List (α × β) → Prop := Paired fun (kv : Key × V) (p : α × β) => kv.1 = Ky.key p.1 ∧ Fz.rep K F kv.2 p.2
theorem KVs.mono (s : Same F F') {kvs : List (Key × V)} {l : List (α × β)} (h : KVs K F kvs l) : KVs K F' kvs l := paired_mono (fun _ _ ⟨a, b⟩ => ⟨a, Fz.mono s b⟩) h
theorem key_iff {a b : α} : Ky.key a = Ky.key b ↔ a = b := ⟨Ky.inj, fun e => by rw [e]⟩
theorem kv_look (k : α) : ∀ {kvs : List (Key × V)} {l : List (α × β)}, KVs K F kvs l → match dLook l k with | none => valV kvs (Ky.key k) = none | some b => ∃ v, valV kvs (Ky.key k) = some v ∧ Fz.rep K F v b
  | _, _, .nil => rfl
  | _, _, .cons (a := kv) (b := p) ⟨e, r⟩ t => by
    have ih := kv_look k t
    by_cases c : p.1 = k
    · have h1 : ∀ l' : List (α × β), dLook (p :: l') k = some p.2 := fun l' => by
        unfold dLook
        rw [List.find?_cons]
        simp [c]
      rw [h1]
      exact ⟨kv.2, valV_pos (by rw [e, c]), r⟩
    · have h1 : ∀ l' : List (α × β), dLook (p :: l') k = dLook l' k := fun l' => by
        unfold dLook
        rw [List.find?_cons]
        simp [c]
      rw [h1]
      rw [valV_neg (fun z => c (key_iff.mp (e ▸ z)))]
      exact ih
theorem kv_any (k : α) : ∀ {kvs : List (Key × V)} {l : List (α × β)}, KVs K F kvs l → (kvs.any fun kv => decide (kv.1 = Ky.key k)) = l.any fun p => decide (p.1 = k)
  | _, _, .nil => rfl
  | _, _, .cons (a := kv) (b := p) ⟨e, r⟩ t => by
    rw [List.any_cons, List.any_cons, kv_any k t, e]
    congr 1
    exact decide_eq_decide.mpr key_iff
theorem kv_map {k : α} {v : V} {b : β} (r : Fz.rep K F v b) : ∀ {kvs : List (Key × V)} {l : List (α × β)}, KVs K F kvs l → KVs K F (kvs.map fun kv => if kv.1 = Ky.key k then (kv.1, v) else kv) (l.map fun p => if p.1 = k then (p.1, b) else p)
  | _, _, .nil => .nil
  | _, _, .cons (a := kv) (b := p) ⟨e, r'⟩ t => by
    refine .cons ?_ (kv_map r t)
    dsimp only
    by_cases c : p.1 = k
    · rw [if_pos c, if_pos (by rw [e, c])]
      exact ⟨e, r⟩
    · rw [if_neg c, if_neg (fun z => c (key_iff.mp (e ▸ z)))]
      exact ⟨e, r'⟩
theorem kv_put {k : α} {v : V} {b : β} (r : Fz.rep K F v b) {kvs : List (Key × V)} {l : List (α × β)} (h : KVs K F kvs l) : KVs K F (putK kvs (Ky.key k) v) (dPut l k b) := by
  unfold putK dPut
  rw [kv_any k h]
  split
  · exact kv_map r h
  · exact pair_app h (.cons ⟨rfl, r⟩ .nil)
theorem KVs.length {kvs : List (Key × V)} {l : List (α × β)} (h : KVs K F kvs l) : kvs.length = l.length := Paired.length h
instance : Fz (Dct α β) where
  rep K F v d := ∃ a kvs, v = .ref a ∧ F a = some (.dK kvs) ∧ KVs K F kvs d.l
  mono := fun s ⟨a, kvs, e, h, r⟩ => ⟨a, kvs, e, s _ _ h, KVs.mono s r⟩
  rd K F H v d := ∃ a kvs, v = .ref a ∧ H a = some (.dK kvs) ∧ KVs K F kvs d.l
  rd_of := fun s ⟨a, kvs, e, h, r⟩ => ⟨a, kvs, e, s _ _ h, r⟩
def oD (α β : Type) [DecidableEq α] [Fz α] [Ky α] [Fz β] : Rp (Dct α β) where
  rep K F H v d A := ∃ l kvs, v = .ref l ∧ A = [l] ∧ H l = some (.dK kvs) ∧ KVs K F kvs d.l
  stay := fun ⟨l, kvs, e, ea, h, r⟩ s k => ⟨l, kvs, e, ea, by rw [k l (by rw [ea]; exact List.mem_singleton.mpr rfl)]; exact h, KVs.mono s r⟩
  live := fun ⟨l, kvs, e, ea, h, r⟩ x m => by
    rw [ea, List.mem_singleton] at m
    rw [m, h]
    exact Option.some_ne_none _
end
section
variable {C : Ctx} {W : WX} {δx : List Sl} {ρ : Type} {R : Rp ρ} {δ : List Sl} {S T : Type} {α β γ : Type} [DecidableEq α] [Fz α] [Ky α] [Fz β] [Fz γ] {t t2 : TS} {te td ty tv : TE} {i : Nat} {F H : Hp} {σ : L2.St} {l : Addr} {K : PySem.W.Frag}
/-- a thing of one's own at one place changes -/
theorem Okk.chg {ω ω' : Type} {R : Rp ω} {R' : Rp ω'} {a : ω} {b : ω'} {o : HO} (ok : Okk C F H σ δ) (h : δ[i]? = some (.ow R a)) (hv : σ[i]? = some (some (.ref l))) (h1 : ∀ A, R.rep C.K F H (.ref l) a A → A = [l]) (r : R'.rep C.K F (upd H l o) (.ref l) b [l]) : Okk C F (upd H l o) σ (δ.set i (.ow R' b)) := by
  obtain ⟨A, k⟩ := ok
  have hi : i < δ.length := (List.getElem?_eq_some_iff.mp h).1
  obtain ⟨v, hv', rp, hc⟩ := k.at_ i _ h
  rw [hv] at hv'
  cases (show some (V.ref l) = some v from hv')
  have eA := h1 _ rp
  have ml : l ∈ A i := by
    rw [eA]
    exact List.mem_singleton.mpr rfl
  obtain ⟨fl, _⟩ := k.off i l ml
  refine ⟨A, ⟨k.go.loc (hc l ml) fl, fun p e => ?_, by rw [List.length_set, k.len], fun j t e => ?_, k.dis, fun j a m => by rw [List.length_set]; exact k.off j a m, fun a o e => ?_⟩⟩
  · obtain ⟨t, f, m⟩ := k.pot p e
    exact ⟨t.upd (fun z => m.2 (z ▸ hc l ml)), f, m⟩
  · by_cases z : j = i
    · rw [z, List.getElem?_set_self hi] at e
      cases e
      rw [z, hv]
      exact ⟨.ref l, rfl, by rw [eA]; exact r, hc⟩
    · rw [List.getElem?_set_ne (fun w => z w.symm)] at e
      refine (k.at_ j t e).stay (Same.refl _) fun x m => upd_ne fun w => z (k.dis j i l (w ▸ m) ml)
  · obtain ⟨h1, h2, h3⟩ := k.prt a o e
    have na : a ≠ l := fun w => h3 i (w ▸ ml)
    exact ⟨by rw [upd_ne na]; exact h1, h2, h3⟩
theorem ownD_at {d : Dct α β} (ok : Okk C F H σ δ) (h : δ[i]? = some (.ow (oD α β) d)) : ∃ l kvs, σ[i]? = some (some (.ref l)) ∧ H l = some (.dK kvs) ∧ KVs C.K F kvs d.l := by
  obtain ⟨A, k⟩ := ok
  obtain ⟨v, e, ⟨l, kvs, rfl, _, hl, r⟩, _⟩ := k.at_ i _ h
  refine ⟨l, kvs, ?_, hl, r⟩
  cases hs : σ[i]? with
  | none =>
    rw [hs] at e
    cases e
  | some o =>
    rw [hs] at e
    rw [show o = some (.ref l) from e]
theorem Okk.setD {d d' : Dct α β} {kvs : List (Key × V)} (ok : Okk C F H σ δ) (h : δ[i]? = some (.ow (oD α β) d)) (hv : σ[i]? = some (some (.ref l))) (r : KVs C.K F kvs d'.l) : Okk C F (upd H l (.dK kvs)) σ (δ.set i (.ow (oD α β) d')) :=
  ok.chg h hv (fun A ⟨l', _, e, ea, _⟩ => by cases e; exact ea) ⟨l, kvs, rfl, rfl, upd_same, r⟩
theorem r_ownD {d : Dct α β} (h : δ[i]? = some (.ow (oD α β) d) := by rfl) : JR C W δ (tVar i) (M.pure d) := fun F H σ Q ok r => by
  obtain ⟨l, kvs, e, hl, rr⟩ := ownD_at ok h
  refine ⟨.ref l, e, r _ F H (Same.refl _) ok fun F2 H2 s2 ok2 => ?_⟩
  obtain ⟨l2, kvs2, e2, hl2, r2⟩ := ownD_at ok2 h
  rw [e] at e2
  cases e2
  exact ⟨l, kvs2, rfl, hl2, r2⟩
/-- a new dict -/
def JD (C : Ctx) (W : WX) (δ : List Sl) (t : TE) (m : M (Dct α β)) : Prop := ∀ F H σ Q, Okk C F H σ δ → m.run (fun d => ∀ l kvs F' H', Same F F' → Okk C F' H' σ δ → H' l = none → KVs C.K F' kvs d.l → Q (.ref l) (upd H' l (.dK kvs))) (EW C W δ σ F) → t σ H Q
theorem JD.e {m : M (Dct α β)} (h : JD C W δ te m) : JE C W δ te m := fun F H σ Q ok r => h F H σ _ ok (m.mono (fun a q l vs F' H' s ok' hl rp => by
  have fl := Same.free ok'.same hl
  exact q (.ref l) (upd F' l (.dK vs)) _ (s.trans (Same.new fl)) ⟨l, vs, rfl, upd_same, KVs.mono (Same.new fl) rp⟩ (ok'.newF hl)) (fun _ z => z) r)
theorem JD.o {m : M (Dct α β)} (h : JD C W δ te m) : JO C W δ (oD α β) te m := fun F H σ Q ok r => h F H σ _ ok (m.mono (fun a q l vs F' H' s ok' hl rp => q (.ref l) F' _ s (ok'.push (B := [l]) ((Go.refl ok'.same).tmp hl) ⟨l, vs, rfl, rfl, upd_same, rp⟩ (fun x m => by
  rw [List.mem_singleton.mp m]
  exact ⟨Same.free ok'.same hl, hl⟩))) (fun _ z => z) r)
theorem d_new : JD C W δ tDNewK (M.pure (⟨[]⟩ : Dct α β)) := fun F H σ Q ok q p hp => q p [] F H (Same.refl _) ok hp .nil
/-- dict(pairs) -/
def rDictP (K : PySem.W.Frag) : List V → Hp → VK → Prop := fun xs H Q => ∃ (a : Addr) (ps : List Addr) (kvs : List (Key × V)), xs = [.ref a] ∧ SqL K H a (ps.map V.ref) ∧ Paired (fun p kv => SqT K H p [kV kv.1, kv.2]) ps kvs ∧ ∀ p, H p = none → Q (.ref p) (upd H p (.dK (mergeK [] kvs)))
theorem kv_merge : ∀ {kvs : List (Key × V)} {l : List (α × β)} {acc : List (Key × V)} {a : List (α × β)}, KVs K F kvs l → KVs K F acc a → KVs K F (mergeK acc kvs) (dMerge a l)
  | _, _, _, _, .nil, h => h
  | _, _, _, _, .cons (a := kv) (b := p) ⟨e, r⟩ t, h => by
    have := kv_merge t (kv_put (k := p.1) r h)
    rw [← e] at this
    exact this
theorem pairs_reps (s : Same F H) : ∀ {vs : List V} {xs : List (α × β)}, Reps K F vs xs → ∃ (ps : List Addr) (kvs : List (Key × V)), vs = ps.map V.ref ∧ Paired (fun p kv => SqT K H p [kV kv.1, kv.2]) ps kvs ∧ KVs K F kvs xs
  | _, _, .nil => ⟨[], [], rfl, .nil, .nil⟩
  | _, _, .cons (b := x) r t => by
    obtain ⟨ps, kvs, rfl, h1, h2⟩ := pairs_reps s t
    obtain ⟨l, v1, v2, rfl, e, r1, r2⟩ := r
    have e1 := Ky.rep r1
    subst e1
    exact ⟨l :: ps, (Ky.key x.1, v2) :: kvs, rfl, .cons (SqT.of (s _ _ e)) h1, .cons ⟨rfl, r2⟩ h2⟩
theorem d_pairs {m : M (List (α × β))} (h : JR C W δ te m) : JD C W δ (tCB (rDictP C.K) (tCons te tNil)) (m.bind fun ps => M.pure ⟨dMerge [] ps⟩) := fun F H σ Q ok q => h F H σ _ ok (m.mono (fun xs q1 v F1 H1 s1 ok1 rd => by
  obtain ⟨l, vs, rfl, e, r⟩ := rd F1 H1 (Same.refl _) ok1
  obtain ⟨ps, kvs, rfl, h1, h2⟩ := pairs_reps ok1.same r
  exact ⟨l, ps, kvs, rfl, SqL.of e, h1, fun p hp => q1 p _ F1 H1 s1 ok1 hp (kv_merge h2 .nil)⟩) (fun _ z => z) q)
/-- d[k], k in d -/
theorem dget_ok {v w : V} {d : Dct α β} {k : α} (rd : Fz.rd K F H v d) (rk : Fz.rep K F w k) : ∃ a, v = .ref a ∧ match dLook d.l k with | none => DGet H a w none | some b => ∃ u, DGet H a w (some u) ∧ Fz.rep K F u b := by
  obtain ⟨a, kvs, rfl, e, r⟩ := rd
  have := kv_look k r
  have ew := Ky.rep rk
  subst ew
  refine ⟨a, rfl, ?_⟩
  cases hl : dLook d.l k with
  | none =>
    rw [hl] at this
    have g := DGet.k (k := Ky.key k) e
    rw [this] at g
    exact g
  | some b =>
    rw [hl] at this
    obtain ⟨u, hu, ru⟩ := this
    have g := DGet.k (k := Ky.key k) e
    rw [hu] at g
    exact ⟨u, g, ru⟩
theorem e_dget {m1 : M (Dct α β)} {m2 : M α} (h1 : JR C W δ td m1) (h2 : JE C W δ ty m2) : JE C W δ (tDGet td ty) (m1.bind fun d => m2.bind fun k => M.ofOpt (dLook d.l k)) := fun F H σ Q ok q =>
  h1 F H σ _ ok (m1.mono (fun d q1 v F1 H1 s1 ok1 rd => h2 F1 H1 σ _ ok1 (m2.mono (fun k q2 w F2 H2 s2 rk ok2 => by
    obtain ⟨a, rfl, g⟩ := dget_ok (rd F2 H2 s2 ok2) rk
    dsimp only at q2
    cases hl : dLook d.l k with
    | none =>
      rw [hl] at q2
      exact q2.elim
    | some b =>
      rw [hl] at g q2
      obtain ⟨u, gu, ru⟩ := g
      exact ⟨a, u, rfl, gu, q2 u F2 H2 (s1.trans s2) ru ok2⟩) (fun e z => EW.mono s1 z) q1)) (fun _ z => z) q)
theorem e_din {m1 : M (Dct α β)} {m2 : M α} (h2 : JE C W δ ty m2) (h1 : JR C W δ td m1) : JE C W δ (tDIn ty td) (m2.bind fun k => m1.bind fun d => M.pure (dLook d.l k).isSome) := fun F H σ Q ok q =>
  h2 F H σ _ ok (m2.mono (fun k q1 w F1 H1 s1 rk ok1 => h1 F1 H1 σ _ ok1 (m1.mono (fun d q2 v F2 H2 s2 ok2 rd => by
    obtain ⟨a, rfl, g⟩ := dget_ok (rd F2 H2 (Same.refl _) ok2) (Fz.mono s2 rk)
    cases hl : dLook d.l k with
    | none =>
      rw [hl] at g
      refine ⟨a, none, rfl, g, ?_⟩
      have := q2 (.bl false) F2 H2 (s1.trans s2) (by rw [hl]; rfl) ok2
      exact this
    | some b =>
      rw [hl] at g
      obtain ⟨u, gu, ru⟩ := g
      refine ⟨a, some u, rfl, gu, ?_⟩
      exact q2 (.bl true) F2 H2 (s1.trans s2) (by rw [hl]; rfl) ok2) (fun e z => EW.mono s1 z) q1)) (fun _ z => z) q)
theorem e_dnotin {m1 : M (Dct α β)} {m2 : M α} (h2 : JE C W δ ty m2) (h1 : JR C W δ td m1) : JE C W δ (tDNotIn ty td) (m2.bind fun k => m1.bind fun d => M.pure (!(dLook d.l k).isSome)) := fun F H σ Q ok q =>
  h2 F H σ _ ok (m2.mono (fun k q1 w F1 H1 s1 rk ok1 => h1 F1 H1 σ _ ok1 (m1.mono (fun d q2 v F2 H2 s2 ok2 rd => by
    obtain ⟨a, rfl, g⟩ := dget_ok (rd F2 H2 (Same.refl _) ok2) (Fz.mono s2 rk)
    cases hl : dLook d.l k with
    | none =>
      rw [hl] at g
      exact ⟨a, none, rfl, g, q2 (.bl true) F2 H2 (s1.trans s2) (by rw [hl]; rfl) ok2⟩
    | some b =>
      rw [hl] at g
      obtain ⟨u, gu, ru⟩ := g
      exact ⟨a, some u, rfl, gu, q2 (.bl false) F2 H2 (s1.trans s2) (by rw [hl]; rfl) ok2⟩) (fun e z => EW.mono s1 z) q1)) (fun _ z => z) q)
/-- d[k] = v -/
theorem s_dput {d : Dct α β} {mk : M α} {mv : M β} {δ' : S → List Sl} {m : Dct α β → M (Fl S ρ)} (w : Wk δ δx) (hk : JE C W δ ty mk) (hv : JE C W δ tv mv) (k : ∀ e, JS C W δx R (δ.set i (.ow (oD α β) e)) t2 δ' (m e)) (hx : δ[i]? = some (.ow (oD α β) d) := by rfl) :
    JS C W δx R δ (tSeq (sDPut (tVar i) ty tv) t2) δ' (mv.bind fun v => mk.bind fun z => M.need (d.l.length < sizeLine) (M.to m ⟨dPut d.l z v⟩)) := fun F H σ D ok q => by
  refine hv F H σ _ ok (mv.mono (fun v q1 u F1 H1 s1 rv ok1 => ?_) (fun e z => XQ.ew w z) q)
  obtain ⟨l, kvs, e, hl, r⟩ := ownD_at ok1 hx
  refine ⟨.ref l, e, hk F1 H1 σ _ ok1 (mk.mono (fun z q2 y F2 H2 s2 ry ok2 => ?_) (fun e z => EW.mono s1 (XQ.ew w z)) q1)⟩
  obtain ⟨l', kvs', e', hl', r'⟩ := ownD_at ok2 hx
  rw [e] at e'
  cases e'
  have ey := Ky.rep ry
  subst ey
  have s12 := s1.trans s2
  exact ⟨l, _, rfl, DPut.k hl' (by rw [r'.length]; exact q2.1), k _ F2 _ σ D (ok2.setD hx e (kv_put (Fz.mono s2 rv) r')) (M.mono _ (fun f z => SQ.mono s12 z) (fun e z => XQ.mono s12 z) q2.2)⟩
/-- d[k] += v, of numbers -/
theorem s_daug {d : Dct α Int} {mk : M α} {mv : M Int} {f : Int → Int → Int} {rd : V → V → Hp → VK → Prop} {δ' : S → List Sl} {m : Dct α Int → M (Fl S ρ)} (hrd : ∀ x y H Q, Q (.int (f x y)) H → rd (.int x) (.int y) H Q) (w : Wk δ δx) (hk : JE C W δ ty mk) (hv : JE C W δ tv mv) (k : ∀ e, JS C W δx R (δ.set i (.ow (oD α Int) e)) t2 δ' (m e)) (hx : δ[i]? = some (.ow (oD α Int) d) := by rfl) :
    JS C W δx R δ (tSeq (sDAug (tVar i) ty tv rd) t2) δ' (mk.bind fun z => (M.ofOpt (dLook d.l z)).bind fun x => mv.bind fun y => M.need (d.l.length < sizeLine) (M.to m ⟨dPut d.l z (f x y)⟩)) := fun F H σ D ok q => by
  obtain ⟨l, kvs, e, hl, r⟩ := ownD_at ok hx
  refine ⟨.ref l, e, hk F H σ _ ok (mk.mono (fun z q1 y F1 H1 s1 ry ok1 => ?_) (fun e z => XQ.ew w z) q)⟩
  obtain ⟨l1, kvs1, e1, hl1, r1⟩ := ownD_at ok1 hx
  rw [e] at e1
  cases e1
  obtain ⟨a, ea, g⟩ := dget_ok (K := C.K) (H := H1) (d := d) (v := .ref l) ⟨l, kvs1, rfl, hl1, r1⟩ ry
  cases ea
  dsimp only at q1
  cases hlk : dLook d.l z with
  | none =>
    rw [hlk] at q1
    exact q1.elim
  | some x =>
    rw [hlk] at g q1
    obtain ⟨u, gu, ru⟩ := g
    have eu : u = V.int x := ru
    subst eu
    refine ⟨l, .int x, rfl, gu, hv F1 H1 σ _ ok1 (mv.mono (fun y' q2 u2 F2 H2 s2 r2 ok2 => ?_) (fun e z => EW.mono s1 (XQ.ew w z)) q1)⟩
    have e2 : u2 = V.int y' := r2
    subst e2
    refine hrd _ _ _ _ ?_
    obtain ⟨l', kvs', e', hl', r'⟩ := ownD_at ok2 hx
    rw [e] at e'
    cases e'
    have ey := Ky.rep ry
    subst ey
    have s12 := s1.trans s2
    exact ⟨_, DPut.k hl' (by rw [r'.length]; exact q2.1), k _ F2 _ σ D (ok2.setD hx e (kv_put (b := f x y') rfl r')) (M.mono _ (fun f z => SQ.mono s12 z) (fun e z => XQ.mono s12 z) q2.2)⟩
/-- a dict of one's own stays from now on -/
theorem Okk.fixD {d : Dct α β} (ok : Okk C F H σ δ) (h : δ[i]? = some (.ow (oD α β) d)) : ∃ F', Same F F' ∧ Okk C F' H σ (δ.set i (.fz d)) := by
  obtain ⟨A, ok⟩ := ok
  obtain ⟨v, hv, ⟨l, vs, rfl, eA, hl, r⟩, hc⟩ := ok.at_ i _ h
  have hi : i < δ.length := (List.getElem?_eq_some_iff.mp h).1
  have ml : l ∈ A i := by
    rw [eA]
    exact List.mem_singleton.mpr rfl
  have fl := (ok.off i l ml).1
  have sF : Same F (upd F l (.dK vs)) := Same.new fl
  refine ⟨upd F l (.dK vs), sF, fun j => if j = i then [] else A j, ⟨ok.go.fin (hc l ml) fl hl, fun p e => ?_, by rw [List.length_set, ok.len], fun j s e => ?_, fun j k a ma mb => ?_, fun j a m => ?_, fun a o e => ?_⟩⟩
  · obtain ⟨t, f, m⟩ := ok.pot p e
    have np : p ≠ l := fun z => m.2 (z ▸ hc l ml)
    exact ⟨t, by rw [upd_ne np]; exact f, m⟩
  · by_cases z : j = i
    · rw [z, List.getElem?_set_self hi] at e
      cases e
      show SlOk C _ H _ (.fz d) (if j = i then [] else A j)
      rw [if_pos z, z]
      exact ⟨.ref l, hv, rfl, l, vs, rfl, upd_same, KVs.mono sF r⟩
    · rw [List.getElem?_set_ne (fun w => z w.symm)] at e
      show SlOk C _ H _ s (if j = i then [] else A j)
      rw [if_neg z]
      exact (ok.at_ j s e).stay sF fun _ _ => rfl
  · by_cases z : j = i
    · simp only [if_pos z] at ma
      cases ma
    · by_cases y : k = i
      · simp only [if_pos y] at mb
        cases mb
      · simp only [if_neg z] at ma
        simp only [if_neg y] at mb
        exact ok.dis j k a ma mb
  · by_cases z : j = i
    · simp only [if_pos z] at m
      cases m
    · simp only [if_neg z] at m
      rw [List.length_set]
      have na : a ≠ l := fun w => z (ok.dis j i l (w ▸ m) ml)
      rw [upd_ne na]
      exact ok.off j a m
  · obtain ⟨h1, h2, h3⟩ := ok.prt a o e
    have na : a ≠ l := fun w => h3 i (w ▸ ml)
    refine ⟨h1, by rw [upd_ne na]; exact h2, fun j m => ?_⟩
    by_cases z : j = i
    · simp only [if_pos z] at m
      cases m
    · simp only [if_neg z] at m
      exact h3 j m
theorem s_fixD {d : Dct α β} {δ' : S → List Sl} {m : M (Fl S ρ)} (i : Nat) (k : JS C W δx R (δ.set i (.fz d)) t δ' m) (hx : δ[i]? = some (.ow (oD α β) d) := by rfl) : JS C W δx R δ t δ' m := fun F H σ D ok q => by
  obtain ⟨F', s, ok'⟩ := ok.fixD hx
  exact k F' H σ D ok' (M.mono _ (fun f z => SQ.mono s z) (fun e z => XQ.mono s z) q)
theorem bb_fixD {d : Dct α β} {δ' : S → List Sl} {m : M S} (i : Nat) (k : KB C W δx R (δ.set i (.fz d)) t δ' m) (hx : δ[i]? = some (.ow (oD α β) d) := by rfl) : KB C W δx R δ t δ' m := s_fixD (S := S) i k hx
theorem vv_fixD {d : Dct α β} {m : M ρ} (i : Nat) (k : KV C W δx R (δ.set i (.fz d)) t m) (hx : δ[i]? = some (.ow (oD α β) d) := by rfl) : KV C W δx R δ t m := s_fixD (S := Empty) i k hx
theorem bb_dput {d : Dct α β} {mk : M α} {mv : M β} {δ' : S → List Sl} {m : Dct α β → M S} (w : Wk δ δx) (hk : JE C W δ ty mk) (hv : JE C W δ tv mv) (k : ∀ e, KB C W δx R (δ.set i (.ow (oD α β) e)) t2 δ' (m e)) (hx : δ[i]? = some (.ow (oD α β) d) := by rfl) :
    KB C W δx R δ (tSeq (sDPut (tVar i) ty tv) t2) δ' (mv.bind fun v => mk.bind fun z => M.need (d.l.length < sizeLine) (M.to m ⟨dPut d.l z v⟩)) := by
  have z := s_dput (S := S) w hk hv k hx
  exact z
theorem vv_dput {d : Dct α β} {mk : M α} {mv : M β} {m : Dct α β → M ρ} (w : Wk δ δx) (hk : JE C W δ ty mk) (hv : JE C W δ tv mv) (k : ∀ e, KV C W δx R (δ.set i (.ow (oD α β) e)) t2 (m e)) (hx : δ[i]? = some (.ow (oD α β) d) := by rfl) :
    KV C W δx R δ (tSeq (sDPut (tVar i) ty tv) t2) (mv.bind fun v => mk.bind fun z => M.need (d.l.length < sizeLine) (M.to m ⟨dPut d.l z v⟩)) := by
  have z := s_dput (S := Empty) w hk hv k hx
  exact z
theorem bb_daug {d : Dct α Int} {mk : M α} {mv : M Int} {f : Int → Int → Int} {rd : V → V → Hp → VK → Prop} {δ' : S → List Sl} {m : Dct α Int → M S} (hrd : ∀ x y H Q, Q (.int (f x y)) H → rd (.int x) (.int y) H Q) (w : Wk δ δx) (hk : JE C W δ ty mk) (hv : JE C W δ tv mv) (k : ∀ e, KB C W δx R (δ.set i (.ow (oD α Int) e)) t2 δ' (m e)) (hx : δ[i]? = some (.ow (oD α Int) d) := by rfl) :
    KB C W δx R δ (tSeq (sDAug (tVar i) ty tv rd) t2) δ' (mk.bind fun z => (M.ofOpt (dLook d.l z)).bind fun x => mv.bind fun y => M.need (d.l.length < sizeLine) (M.to m ⟨dPut d.l z (f x y)⟩)) := by
  have z := s_daug (S := S) hrd w hk hv k hx
  exact z
theorem vv_daug {d : Dct α Int} {mk : M α} {mv : M Int} {f : Int → Int → Int} {rd : V → V → Hp → VK → Prop} {m : Dct α Int → M ρ} (hrd : ∀ x y H Q, Q (.int (f x y)) H → rd (.int x) (.int y) H Q) (w : Wk δ δx) (hk : JE C W δ ty mk) (hv : JE C W δ tv mv) (k : ∀ e, KV C W δx R (δ.set i (.ow (oD α Int) e)) t2 (m e)) (hx : δ[i]? = some (.ow (oD α Int) d) := by rfl) :
    KV C W δx R δ (tSeq (sDAug (tVar i) ty tv rd) t2) (mk.bind fun z => (M.ofOpt (dLook d.l z)).bind fun x => mv.bind fun y => M.need (d.l.length < sizeLine) (M.to m ⟨dPut d.l z (f x y)⟩)) := by
  have z := s_daug (S := Empty) hrd w hk hv k hx
  exact z
end
end Dc

namespace Dc
open PySem PySem.Spec PyProof.Rows L2
section
variable {C : Ctx} {W : WX} {δx : List Sl} {ρ : Type} {R : Rp ρ} {δ : List Sl} {S T : Type} {α β γ ε : Type} [Fz α] [Fz β] [Fz γ] [Fz ε] {t t2 t3 : TS} {te ti ta tb tk tv : TE} {tt : TT} {i j : Nat} {F H : Hp} {σ : L2.St} {K : PySem.W.Frag} {wi : TI} {g : TG} {is : List Nat}
theorem i_enumZ {t1 t2 : TE} {m1 : M (List α)} {m2 : M (List β)} (h : JE C W δ t1 m1) (k : JE C W δ t2 m2) : JI C W δ (iEnumZ C.K (tCons t1 (tCons t2 tNil))) (m1.bind fun xs => m2.bind fun ys => M.pure (enumI (xs.zip ys))) := fun F H σ Q ok q => h F H σ _ ok (m1.mono (fun xs q1 v F1 H1 s1 rp ok1 => k F1 H1 σ _ ok1 (m2.mono (fun ys q2 w F2 H2 s2 rp2 ok2 => by
  obtain ⟨l, vs, rfl, e, r⟩ := Fz.mono s2 rp
  obtain ⟨l', vs', rfl, e', r'⟩ := rp2
  refine ⟨l, l', vs, vs', rfl, SqL.of (ok2.same _ _ e), SqL.of (ok2.same _ _ e'), q2 _ F2 H2 (s1.trans s2) ok2 ?_⟩
  have ww := walk_enumZ (K := C.K) (a := l) (b := l') (xs := vs) (ys := vs')
  rw [r.length, r'.length, ← List.length_zip, ← enumFrom_len 0 (xs.zip ys)] at ww
  refine wlk_of ww (fun F3 H3 s s3 => ⟨SqL.of (s3 _ _ (s _ _ e)), SqL.of (s3 _ _ (s _ _ e'))⟩) ?_
  rintro i F3 H3 v H' hi s s3 ⟨T, U, x, y, rfl, hT, hU, ne, rfl, e1, e2⟩
  obtain ⟨z, hz, rz⟩ := paired_get' r e1
  obtain ⟨z', hz', rz'⟩ := paired_get' r' e2
  have hU' : (upd H3 T (.tup [x, y])) U = none := by
    rw [upd_ne ne]
    exact hU
  have g1 := ((Go.refl (M := M0) s3).new (o := .tup [x, y]) hT).new (o := .tup [.int (i : Nat), .ref T]) hU'
  have fT := Same.free s3 hT
  have sT : Same F3 (upd F3 T (.tup [x, y])) := Same.new fT
  have sU : Same (upd F3 T (.tup [x, y])) (upd (upd F3 T (.tup [x, y])) U (.tup [.int (i : Nat), .ref T])) := Same.new (by
    rw [upd_ne ne]
    exact Same.free s3 hU)
  have sn := s.trans (sT.trans sU)
  refine ⟨_, ((i : Int), (z, z')), g1, ?_, U, _, _, rfl, upd_same, rfl, T, x, y, rfl, sU _ _ upd_same, Fz.mono sn rz, Fz.mono sn rz'⟩
  rw [enumFrom_get, List.zip, List.getElem?_zipWith, hz, hz', Int.zero_add]
  rfl) (fun e z => EW.mono s1 z) q1)) (fun _ z => z) q)
/-! ### isinstance of a value whose type is known -/
class HasTy (α : Type) [Fz α] (T : outParam String) : Prop where
  ty : ∀ {K F H v} {a : α}, Same F H → Fz.rd K F H v a → TyX K H v (.type T)
instance : HasTy Int "int" := ⟨fun _ h => by cases h; exact .base (.int _)⟩
instance : HasTy Bool "bool" := ⟨fun _ h => by cases h; exact .base (.bl _)⟩
instance : HasTy Str "str" := ⟨fun _ h => by cases h; exact .base (.str _)⟩
instance {α : Type} [Fz α] : HasTy (List α) "list" := ⟨fun s h => by obtain ⟨l, vs, rfl, e, _⟩ := h; exact .base (.lst e)⟩
instance {α β : Type} [Fz α] [Fz β] : HasTy (α × β) "tuple" := ⟨fun s h => by obtain ⟨l, v1, v2, rfl, e, _⟩ := h; exact .base (.tup (s _ _ e))⟩
instance : HasTy Door "tuple" := ⟨fun s h => by obtain ⟨l, rfl, e⟩ := h; exact .base (.tup (s _ _ e))⟩
theorem e_isi {T U : String} [HasTy α T] {b : Bool} {m : M α} (hb : PySem.W.kitOne C.K (.type T) (.type U) = some b) (h : JR C W δ te m) : JE C W δ (tCB (rIsi C.K) (tCons te (tCons (tC (.ty U)) tNil))) (m.bind fun _ => M.pure b) := fun F H σ Q ok q => h F H σ _ ok (m.mono (fun a q1 v F1 H1 s1 ok1 rd =>
  ⟨v, .ty U, .type T, .type U, b, rfl, .ty U, HasTy.ty ok1.same (rd F1 H1 (Same.refl _) ok1), hb, q1 _ F1 H1 s1 rfl ok1⟩) (fun _ z => z) q)
/-- None or not: it is not -/
theorem e_get {m : M (Option α)} (h : JE C W δ te m) : JE C W δ te (m.bind fun o => M.ofOpt o) := fun F H σ Q ok q => h F H σ _ ok (m.mono (fun a q1 v F1 H1 s1 rp ok1 => by
  cases a with
  | none => exact q1.elim
  | some x => exact q1 v F1 H1 s1 rp ok1) (fun _ z => z) q)
/-! ### dict comprehensions -/
variable [DecidableEq α] [Ky α]
def dcompM {ω α β : Type} [DecidableEq α] (f : ω → M (Option (α × β))) : List ω → List (α × β) → M (List (α × β))
  | [], acc => M.pure acc
  | x :: xs, acc => (f x).bind fun o => dcompM f xs (match o with | some p => dPut acc p.1 p.2 | none => acc)
theorem Okk.hideD {l : Addr} {d : Dct α β} (ok : Okk C F H (some (.ref l) :: σ) (.ow (oD α β) d :: δ)) : ∃ kvs, KVs C.K F kvs d.l ∧ C.H l = none ∧ C.P l = none ∧ Okk { C with P := upd C.P l (.dK kvs) } F H σ δ := by
  obtain ⟨A, k⟩ := ok
  obtain ⟨v, hv, ⟨l', vs, e', eA, hl, r⟩, hc⟩ := k.at_ 0 _ rfl
  cases (show some (V.ref l) = some v from hv)
  cases e'
  have ml : l ∈ A 0 := by
    rw [eA]
    exact List.mem_singleton.mpr rfl
  have pl : C.P l = none := by
    cases q : C.P l with
    | none => rfl
    | some o => exact absurd ml ((k.prt l o q).2.2 0)
  refine ⟨vs, r, hc l ml, pl, fun j => A (j + 1), ⟨k.go, k.pot, Nat.succ.inj k.len, fun j t e => k.at_ (j + 1) t e, fun j i a ma mb => Nat.succ.inj (k.dis (j + 1) (i + 1) a ma mb), fun j a m => ?_, fun a o e => ?_⟩⟩
  · obtain ⟨a1, a2⟩ := k.off (j + 1) a m
    rw [List.length_cons] at a2
    exact ⟨a1, by omega⟩
  · by_cases z : a = l
    · rw [z] at e ⊢
      cases (upd_same (H := C.P) (a := l) (o := .dK vs)).symm.trans e
      exact ⟨hl, (k.off 0 l ml).1, fun j m => absurd (k.dis (j + 1) 0 l m ml) (by omega)⟩
    · have e' : C.P a = some o := by
        rw [← upd_ne (H := C.P) (o := .dK vs) z]
        exact e
      obtain ⟨h1, h2, h3⟩ := k.prt a o e'
      exact ⟨h1, h2, fun j m => h3 (j + 1) m⟩
theorem Okk.showD {l : Addr} {d : Dct α β} {vs : List (Key × V)} (ok : Okk { C with P := upd C.P l (.dK vs) } F H σ δ) (r : KVs C.K F vs d.l) (hc : C.H l = none) (pl : C.P l = none) : Okk C F H (some (.ref l) :: σ) (.ow (oD α β) d :: δ) := by
  obtain ⟨A, k⟩ := ok
  obtain ⟨hl, fl, nl⟩ := k.prt l (.dK vs) upd_same
  refine ⟨fun j => match j with | 0 => [l] | j + 1 => A j, ⟨k.go, k.pot, congrArg Nat.succ k.len, fun j t e => ?_, fun j i x ma mb => ?_, fun j x m => ?_, fun a o e => ?_⟩⟩
  · cases j with
    | zero =>
      cases e
      refine ⟨.ref l, rfl, ⟨l, vs, rfl, rfl, hl, r⟩, fun x m => ?_⟩
      rw [List.mem_singleton.mp m]
      exact hc
    | succ j => exact k.at_ j t e
  · cases j with
    | zero =>
      cases i with
      | zero => rfl
      | succ i =>
        rw [List.mem_singleton.mp ma] at mb
        exact absurd mb (nl i)
    | succ j =>
      cases i with
      | zero =>
        rw [List.mem_singleton.mp mb] at ma
        exact absurd ma (nl j)
      | succ i => exact congrArg Nat.succ (k.dis j i x ma mb)
  · cases j with
    | zero =>
      rw [List.mem_singleton.mp m]
      exact ⟨fl, Nat.succ_pos _⟩
    | succ j =>
      obtain ⟨a1, a2⟩ := k.off j x m
      exact ⟨a1, by rw [List.length_cons]; omega⟩
  · have na : a ≠ l := fun w => by
      rw [w, pl] at e
      cases e
    obtain ⟨h1, h2, h3⟩ := k.prt a o ((upd_ne na).trans e)
    refine ⟨h1, h2, fun j m => ?_⟩
    cases j with
    | zero => exact na (List.mem_singleton.mp m)
    | succ j => exact h3 j m
theorem Okk.newD {l : Addr} {d : Dct α β} {vs : List (Key × V)} (ok : Okk C F H σ δ) (h : H l = none) (r : KVs C.K F vs d.l) : Okk C F (upd H l (.dK vs)) (some (.ref l) :: σ) (.ow (oD α β) d :: δ) := by
  refine ok.push (B := [l]) ((Go.refl ok.same).tmp h) ⟨l, vs, rfl, rfl, upd_same, r⟩ (fun x m => ?_)
  rw [List.mem_singleton.mp m]
  exact ⟨Same.free ok.same h, h⟩
theorem dPut_len {α β : Type} [DecidableEq α] (l : List (α × β)) (k : α) (v : β) : (dPut l k v).length ≤ l.length + 1 := by
  unfold dPut
  split
  · rw [List.length_map]
    omega
  · rw [List.length_append]
    exact Nat.le_refl _
theorem o_dcomp {ω : Type} [Fz ω] {δg : ω → List Sl} {mi : M (List ω)} {mt : ω → M Bool} {mk : ω → M α} {mv : ω → M β} {vs : List Nat} (hi : JIc C W δ wi mi) (hg : ∀ P, JG (C.pr P) δ g is δg) (ht : ∀ P x, JT (C.pr P) W0 (δg x) tt (mt x)) (hK : ∀ P x, JE (C.pr P) W0 (δg x) tk (mk x)) (hV : ∀ P x, JE (C.pr P) W0 (δg x) tv (mv x))
    (wk : ∀ x, Wk (δg x) δ) (hv : vs.all (noAt δ) = true := by rfl) (hs : is.all (fun j => vs.contains j) = true := by rfl) :
    JO C W δ (oD α β) (tDc wi g tt tk tv vs) (mi.bind fun xs => M.need (xs.length < 10000000) ((dcompM (fun x => (mt x).nx.bind fun b => if b then (mk x).nx.bind fun y => (mv x).nx.bind fun z => M.pure (some (y, z)) else M.pure none) xs []).bind fun l => M.pure ⟨l⟩)) := fun F H σ Q ok q =>
  hi F H σ _ ok (mi.mono (fun xs q1 J F1 H1 s1 ok1 wl => by
    have hv : ∀ j ∈ vs, δ[j]? = some .no ∨ δ[j]? = none := fun j m => .inl (noAt_ok (List.all_eq_true.mp hv j m))
    have hs : ∀ j ∈ is, j ∈ vs := fun j m => by simpa using List.all_eq_true.mp hs j m
    obtain ⟨hlen, q1⟩ := q1
    intro L hL
    let G := fun x => (mt x).nx.bind fun b => if b then (mk x).nx.bind fun y => (mv x).nx.bind fun z => M.pure (some (y, z)) else M.pure none
    refine ⟨fun i k H' => k = xs.length - i ∧ i ≤ xs.length ∧ ∃ F' ys, Same F1 F' ∧ ys.length ≤ i ∧ Okk C F' H' (some (.ref L) :: L2.wipe σ vs) (.ow (oD α β) ⟨ys⟩ :: δ) ∧ (dcompM G (xs.drop i) ys).run (fun r => ∀ v F2 H2, Same F' F2 → Okk C F2 H2 (some v :: σ) (.ow (oD α β) ⟨r⟩ :: δ) → Q v H2) (EW C W δ σ F'), ⟨xs.length, by simp, Nat.zero_le _, F1, [], Same.refl _, Nat.le_refl _, (ok1.wipe hv).newD hL .nil, ?_⟩, ?_⟩
    · rw [List.drop_zero]
      exact M.mono _ (fun r z v F2 H2 s2 ok2 => z v F2 H2 (s1.trans s2) ok2) (fun e z => EW.mono s1 z) q1
    · rintro i k H' ⟨rfl, hi', F', ys, sF, hys, okL, run⟩
      have okO := okL.pop.unwipe hv
      by_cases hlt : i < xs.length
      · right
        refine ⟨wl.go i F' H' hlt sF okO, fun H2 => ∃ F2 zs, Same F1 F2 ∧ zs.length ≤ i + 1 ∧ Okk C F2 H2 (some (.ref L) :: L2.wipe σ vs) (.ow (oD α β) ⟨zs⟩ :: δ) ∧ (dcompM G (xs.drop (i + 1)) zs).run (fun r => ∀ v F3 H3, Same F2 F3 → Okk C F3 H3 (some v :: σ) (.ow (oD α β) ⟨r⟩ :: δ) → Q v H3) (EW C W δ σ F2), fun H2 ⟨F2, zs, a1, a2, a3, a4⟩ => ⟨xs.length - (i + 1), by omega, rfl, hlt, F2, zs, a1, a2, a3, a4⟩, fun x H2 y => ?_⟩
        obtain ⟨F2, a, g2, ha, rp⟩ := wl.yld i F' H' x H2 hlt sF okO y
        have ok2 := okL.step g2
        rw [List.drop_eq_getElem_cons hlt] at run
        have ea : xs[i] = a := by
          rw [List.getElem?_eq_getElem hlt] at ha
          exact Option.some.inj ha
        rw [ea] at run
        have run1 : (mt a).run (fun b => ((if b then (mk a).nx.bind fun y => (mv a).nx.bind fun z => M.pure (some (y, z)) else M.pure none : M (Option (α × β)))).run (fun o => (dcompM G (xs.drop (i + 1)) (match o with | some p => dPut ys p.1 p.2 | none => ys)).run (fun r => ∀ v F2 H2, Same F' F2 → Okk C F2 H2 (some v :: σ) (.ow (oD α β) ⟨r⟩ :: δ) → Q v H2) (EW C W δ σ F')) (EW C W δ σ F')) (fun _ => False) := run
        obtain ⟨vL, rL, hc, pl, okH⟩ := ok2.hideD
        refine hg _ F2 H2 _ x a _ okH rp fun σ3 ok3 l3 e3 => ⟨wipe_wipe l3 e3 hs, ?_⟩
        refine ht _ a F2 H2 σ3 _ ok3 ((mt a).mono (fun b z F3 H3 s3 ok3' => ?_) (fun _ z => z.elim) run1)
        have back : ∀ {F4 H4}, Same F2 F4 → Okk (C.pr (upd C.P L (.dK vL))) F4 H4 σ3 (δg a) → Okk C F4 H4 (some (.ref L) :: L2.wipe σ vs) (.ow (oD α β) ⟨ys⟩ :: δ) := fun {F4 H4} s4 ok4 => by
          have o1 := (ok4.wk (wk a)).swap (σ' := L2.wipe σ vs) l3.symm (fun j hj => (e3 j hj).symm) (fun j m => hv j (hs j m))
          exact o1.showD (KVs.mono s4 rL) hc pl
        cases b with
        | true =>
          rw [if_pos rfl]
          refine hK _ a F3 H3 σ3 _ ok3' ((mk a).mono (fun y z' u F4 H4 s4 r4 ok4 => ?_) (fun _ z => z.elim) z)
          refine hV _ a F4 H4 σ3 _ ok4 ((mv a).mono (fun y2 z2 u2 F5 H5 s5 r5 ok5 => ?_) (fun _ z => z.elim) z')
          have s35 := s3.trans (s4.trans s5)
          have okB := back s35 ok5
          have sB := g2.ff.trans s35
          have hL5 : H5 L = some (.dK vL) := by
            obtain ⟨A5, k5⟩ := id ok5
            exact (k5.prt L _ upd_same).1
          have eu := Ky.rep r4
          subst eu
          have lput := dPut_len ys y y2
          refine ⟨vL, Ky.key y, rfl, hL5, ?_, F5, dPut ys y y2, sF.trans sB, by omega, ?_, ?_⟩
          · rw [(KVs.length rL), sizeLine_eq]
            show ys.length < _
            omega
          · exact okB.setD (i := 0) (d := ⟨ys⟩) (d' := ⟨dPut ys y y2⟩) rfl rfl (kv_put r5 (KVs.mono s35 rL))
          · exact M.mono _ (fun r q5 v5 F6 H6 s6 ok6 => q5 v5 F6 H6 (sB.trans s6) ok6) (fun e z => EW.mono sB z) z2
        | false =>
          rw [if_neg (by decide)]
          have okB := back s3 ok3'
          have sB := g2.ff.trans s3
          refine ⟨F3, ys, sF.trans sB, by omega, okB, ?_⟩
          exact M.mono _ (fun r q5 v5 F5 H5 s5 ok5 => q5 v5 F5 H5 (sB.trans s5) ok5) (fun e z => EW.mono sB z) z
      · left
        have e : i = xs.length := by omega
        subst e
        refine ⟨wl.stop F' H' sF okO, ?_⟩
        rw [List.drop_length] at run
        refine run (.ref L) F' H' (Same.refl _) ?_
        obtain ⟨vL, rL, hc, pl, okH⟩ := okL.hideD
        exact (okH.unwipe hv).showD rL hc pl) (fun _ z => z) q)
theorem JO.d {m : M (Dct α β)} (h : JO C W δ (oD α β) te m) : JE C W δ te m := fun F H σ Q ok r => h F H σ _ ok (m.mono (fun a q v F' H' s ok' => by
  obtain ⟨F2, s2, ok2⟩ := ok'.fixD (i := 0) rfl
  obtain ⟨A, k⟩ := id ok2
  obtain ⟨v', e, _, rp⟩ := k.at_ 0 _ rfl
  cases (show some v = some v' from e)
  exact q v F2 H' (s.trans s2) rp ok2.pop) (fun _ z => z) r)
end
end Dc

namespace Dc
open PySem PySem.Spec PyProof.Rows L2
/-! ## an object while it is made: two fields -/
def oI2 (cl : PySem.W.Frag → Addr) (f g : Str) (α β : Type) [Fz α] [Fz β] : Rp (Option α × Option β) where
  rep K F H v x A := ∃ a dx fs, v = .ref a ∧ A = [a] ∧ H a = some (.ins (cl K) dx fs) ∧ match x with
    | (none, none) => fs = []
    | (some y, none) => ∃ w, fs = [(f, w)] ∧ Fz.rep K F w y
    | (some y, some z) => ∃ w u, fs = [(f, w), (g, u)] ∧ Fz.rep K F w y ∧ Fz.rep K F u z
    | (none, some _) => False
  stay := fun {K F H F' H' v x A} ⟨a, dx, fs, e, ea, h, r⟩ s k => ⟨a, dx, fs, e, ea, by rw [k a (by rw [ea]; exact List.mem_singleton.mpr rfl)]; exact h, by
    obtain ⟨y, z⟩ := x
    cases y with
    | none =>
      cases z with
      | none => exact r
      | some z => exact r
    | some y =>
      cases z with
      | none =>
        obtain ⟨w, e1, r1⟩ := r
        exact ⟨w, e1, Fz.mono s r1⟩
      | some z =>
        obtain ⟨w, u, e1, r1, r2⟩ := r
        exact ⟨w, u, e1, Fz.mono s r1, Fz.mono s r2⟩⟩
  live := fun ⟨a, dx, fs, e, ea, h, r⟩ x m => by
    rw [ea, List.mem_singleton] at m
    rw [m, h]
    exact Option.some_ne_none _
abbrev cxI (K : PySem.W.Frag) (a : Addr) (F H : Hp) : Ctx := ⟨K, M1 a, none, F, H, fun _ => none⟩
section
variable {C : Ctx} {W : WX} {δx : List Sl} {ρ : Type} {R : Rp ρ} {δ : List Sl} {S T : Type} {α β γ : Type} [Fz α] [Fz β] [Fz γ] {t t2 : TS} {te tv : TE} {i : Nat} {F H : Hp} {σ : L2.St} {K : PySem.W.Frag} {cl : PySem.W.Frag → Addr} {f g : Str} {Q : VK} {E : XK} {l : Addr}
theorem Okk.chgM {ω ω' : Type} {R : Rp ω} {R' : Rp ω'} {a : ω} {b : ω'} {o : HO} (ok : Okk C F H σ δ) (h : δ[i]? = some (.mu R a)) (hv : σ[i]? = some (some (.ref l))) (h1 : ∀ A, R.rep C.K F H (.ref l) a A → A = [l]) (hp : C.p = none) (r : R'.rep C.K F (upd H l o) (.ref l) b [l]) : Okk C F (upd H l o) σ (δ.set i (.mu R' b)) := by
  obtain ⟨A, k⟩ := ok
  have hi : i < δ.length := (List.getElem?_eq_some_iff.mp h).1
  obtain ⟨v, hv', rp, hc⟩ := k.at_ i _ h
  rw [hv] at hv'
  cases (show some (V.ref l) = some v from hv')
  have eA := h1 _ rp
  have ml : l ∈ A i := by
    rw [eA]
    exact List.mem_singleton.mpr rfl
  obtain ⟨fl, _⟩ := k.off i l ml
  refine ⟨A, ⟨k.go.mut (hc l ml).1 fl, fun p e => ?_, by rw [List.length_set, k.len], fun j t e => ?_, k.dis, fun j a m => by rw [List.length_set]; exact k.off j a m, fun a o e => ?_⟩⟩
  · rw [hp] at e
    cases e
  · by_cases z : j = i
    · rw [z, List.getElem?_set_self hi] at e
      cases e
      rw [z, hv]
      exact ⟨.ref l, rfl, by rw [eA]; exact r, hc⟩
    · rw [List.getElem?_set_ne (fun w => z w.symm)] at e
      refine (k.at_ j t e).stay (Same.refl _) fun x m => upd_ne fun w => z (k.dis j i l (w ▸ m) ml)
  · obtain ⟨h1, h2, h3⟩ := k.prt a o e
    have na : a ≠ l := fun w => h3 i (w ▸ ml)
    exact ⟨by rw [upd_ne na]; exact h1, h2, h3⟩
theorem muI_at {x : Option α × Option β} (ok : Okk C F H σ δ) (h : δ[i]? = some (.mu (oI2 cl f g α β) x)) : ∃ l, σ[i]? = some (some (.ref l)) ∧ (oI2 cl f g α β).rep C.K F H (.ref l) x [l] := by
  obtain ⟨A, k⟩ := ok
  obtain ⟨v, e, rp, _⟩ := k.at_ i _ h
  obtain ⟨a, dx, fs, rfl, rfl', r⟩ := rp
  refine ⟨a, ?_, ⟨a, dx, fs, rfl, rfl, r⟩⟩
  cases hs : σ[i]? with
  | none =>
    rw [hs] at e
    cases e
  | some o =>
    rw [hs] at e
    rw [show o = some (.ref a) from e]
/-- self.f = e, the first -/
theorem bb_fst {mv : M α} {δ' : S → List Sl} {m : α → M S} (c : Cls C.K (cl C.K)) (n : NoAttr C.K (cl C.K) f) (hp : C.p = none) (w : Wk δ δx) (h : JE C W δ tv mv) (k : ∀ a, KB C W δx R (δ.set i (.mu (oI2 cl f g α β) (some a, none))) t2 δ' (m a)) (hx : δ[i]? = some (.mu (oI2 cl f g α β) (none, none)) := by rfl) :
    KB C W δx R δ (tSeq (sFld C.K (tVar i) tv f) t2) δ' (mv.bind m) := fun F H σ D ok q => h F H σ _ ok (mv.mono (fun a q1 v F1 H1 s1 rp ok1 => by
  obtain ⟨l, e, ⟨a', dx, fs, e1, _, h1, efs⟩⟩ := muI_at ok1 hx
  cases e1
  cases (show fs = [] from efs)
  refine ⟨.ref l, e, l, cl C.K, dx, [], rfl, h1, c, n, by show 0 < 1000; decide, ?_⟩
  refine k a F1 _ σ D (ok1.chgM hx e (fun A ⟨_, _, _, e2, e3, _⟩ => by cases e2; exact e3) hp ⟨l, dx, [(f, v)], rfl, rfl, upd_same, v, rfl, rp⟩) (M.mono _ (fun f z => SQ.mono s1 z) (fun e z => XQ.mono s1 z) q1)) (fun e z => XQ.ew w z) q)
theorem bb_snd {x : α} {mv : M β} {δ' : S → List Sl} {m : β → M S} (c : Cls C.K (cl C.K)) (n : NoAttr C.K (cl C.K) g) (hp : C.p = none) (ne : g ≠ f) (w : Wk δ δx) (h : JE C W δ tv mv) (k : ∀ b, KB C W δx R (δ.set i (.mu (oI2 cl f g α β) (some x, some b))) t2 δ' (m b)) (hx : δ[i]? = some (.mu (oI2 cl f g α β) (some x, none)) := by rfl) :
    KB C W δx R δ (tSeq (sFld C.K (tVar i) tv g) t2) δ' (mv.bind m) := fun F H σ D ok q => h F H σ _ ok (mv.mono (fun a q1 v F1 H1 s1 rp ok1 => by
  obtain ⟨l, e, ⟨a', dx, fs, e1, _, h1, u, efs, ru⟩⟩ := muI_at ok1 hx
  cases e1
  subst efs
  refine ⟨.ref l, e, l, cl C.K, dx, _, rfl, h1, c, n, by show 1 < 1000; decide, ?_⟩
  have ep : putF g v [(f, u)] = [(f, u), (g, v)] := by
    show (if f = g then _ else _) = _
    rw [if_neg (fun z => ne z.symm)]
    rfl
  rw [ep]
  refine k a F1 _ σ D (ok1.chgM hx e (fun A ⟨_, _, _, e2, e3, _⟩ => by cases e2; exact e3) hp ⟨l, dx, [(f, u), (g, v)], rfl, rfl, upd_same, u, v, rfl, ru, rp⟩) (M.mono _ (fun f z => SQ.mono s1 z) (fun e z => XQ.mono s1 z) q1)) (fun e z => XQ.ew w z) q)
/-- what an __init__ promises -/
def PostI (cl : PySem.W.Frag → Addr) (f g : Str) (K : PySem.W.Frag) (a dx : Addr) (F H : Hp) (m : M (α × β)) (Q : VK) (E : XK) : Prop :=
  m.run (fun r => ∀ w u F' H', Go (M1 a) F H F' H' → F' a = none → (∃ dx', H' a = some (.ins (cl K) dx' [(f, w), (g, u)])) → Fz.rep K F' w r.1 → Fz.rep K F' u r.2 → Q .non H')
    (fun e => ∀ cls d F' H', Go (M1 a) F H F' H' → ExR K F' cls d e → E cls d H')
theorem fn_I {δy : List Sl} {a dx : Addr} {m : M (α × β)} (h : KB (cxI K a F H) (WO E) δy (oZ Unit) δ t (fun r : α × β => (.mu (oI2 cl f g α β) (some r.1, some r.2)) :: δx) m) (ok : Okk (cxI K a F H) F H (some (.ref a) :: σ) δ) (post : PostI cl f g K a dx F H m Q E) : t (En Q) (some (.ref a) :: σ) H := by
  refine h F H _ (En Q) ok (m.mono (fun r q σ' F' H' s ok' => ?_) (fun e q cls d σ' F' H' s x ok' => ?_) post)
  · obtain ⟨A, k⟩ := ok'
    obtain ⟨v, e, ⟨l, dx', fs, rfl, eA, hl, w, u, rfl, r1, r2⟩, hc⟩ := k.at_ 0 _ rfl
    have ml : l ∈ A 0 := by
      rw [eA]
      exact List.mem_singleton.mpr rfl
    have el : l = a := (hc l ml).1
    rw [el] at hl ml
    exact q w u F' H' k.go (k.off 0 a ml).1 ⟨dx', hl⟩ r1 r2
  · obtain ⟨A, k⟩ := ok'
    exact q cls d F' H' k.go x
theorem okk_I {a dx : Addr} (s : Same F H) (fa : F a = none) (ha : H a = some (.ins (cl K) dx [])) (fl : Flat δ) (ok : Okk (cxI K a F H) F H σ δ) : Okk (cxI K a F H) F H (some (.ref a) :: σ) (.mu (oI2 cl f g α β) (none, none) :: δ) := by
  obtain ⟨A, k⟩ := ok
  have hd : ∀ i, a ∉ A i := fun i => flat_off fl k i
  refine ⟨fun j => match j with | 0 => [a] | j + 1 => A j, ⟨k.go, k.pot, congrArg Nat.succ k.len, fun j t' e => ?_, fun j i x ma mb => ?_, fun j x m => ?_, fun a o e => nomatch e⟩⟩
  · cases j with
    | zero =>
      cases e
      refine ⟨.ref a, rfl, ⟨a, dx, [], rfl, rfl, ha, rfl⟩, fun x m => ?_⟩
      rw [List.mem_singleton.mp m]
      exact ⟨rfl, by show H a ≠ none; rw [ha]; exact Option.some_ne_none _⟩
    | succ j => exact k.at_ j t' e
  · cases j with
    | zero =>
      cases i with
      | zero => rfl
      | succ i =>
        rw [List.mem_singleton.mp ma] at mb
        exact absurd mb (hd i)
    | succ j =>
      cases i with
      | zero =>
        rw [List.mem_singleton.mp mb] at ma
        exact absurd ma (hd j)
      | succ i => exact congrArg Nat.succ (k.dis j i x ma mb)
  · cases j with
    | zero =>
      rw [List.mem_singleton.mp m]
      exact ⟨fa, Nat.succ_pos _⟩
    | succ j =>
      obtain ⟨a1, a2⟩ := k.off j x m
      exact ⟨a1, by rw [List.length_cons]; omega⟩
theorem okk_I0 {a : Addr} (s : Same F H) : Okk (cxI K a F H) F H [] [] := okk_nil (Go.refl s) (fun p e => nomatch e) rfl
/-- a new object of two fields, behind its __init__'s promise -/
theorem made2 {ω : Type} {mk : α → β → ω} {rp : PySem.W.Frag → Hp → V → ω → Prop} {a dx : Addr} {F1 H1 : Hp} {m : M (α × β)} {R : V → Hp → Prop} (ok : Okk C F1 H1 σ δ) (ha : H1 a = none) (hd : H1 dx = none) (ne : dx ≠ a)
    (q : m.run (fun r => ∀ F' H' w u dx', Same F1 F' → Okk C F' H' σ δ → F' a = some (.ins (cl C.K) dx' [(f, w), (g, u)]) → Fz.rep C.K F' w r.1 → Fz.rep C.K F' u r.2 → R (.ref a) H') (fun e => ∀ cls d F' H', Same F1 F' → ExR C.K F' cls d e → Okk C F' H' σ δ → E cls d H')) :
    PostI cl f g C.K a dx F1 (upd (upd H1 dx (.own a)) a (.ins (cl C.K) dx [])) m (fun v H2 => v = .non ∧ R (.ref a) H2) E := by
  have h1 : (upd H1 dx (.own a)) a = none := by
    rw [upd_ne ne.symm]
    exact ha
  have g0 := ((Go.refl (M := M1 a) ok.same).tmp (o := .own a) hd).tmp (o := .ins (cl C.K) dx []) h1
  have fa : F1 a = none := Same.free ok.same ha
  have base : ∀ {F' H'}, Go (M1 a) F1 (upd (upd H1 dx (.own a)) a (.ins (cl C.K) dx [])) F' H' → Go M0 F1 H1 F' H' := fun {F' H'} gg => by
    have g1 := g0.trans gg
    exact ⟨g1.ff, g1.fh, fun b o _ e => g1.hh b o (fun z => by rw [show b = a from z, ha] at e; cases e) e, g1.oo, g1.th⟩
  refine m.mono (fun r q w u F' H' gg fa' ⟨dx', hl⟩ r1 r2 => ⟨rfl, ?_⟩) (fun e q cls d F' H' gg x => q cls d F' H' gg.ff x (ok.step (base gg))) q
  have g2 := base gg
  have g3 : Go M0 F1 H1 (upd F' a (.ins (cl C.K) dx' [(f, w), (g, u)])) H' := g2.fin ha fa' hl
  have sF : Same F' (upd F' a (.ins (cl C.K) dx' [(f, w), (g, u)])) := Same.new fa'
  exact q _ H' w u dx' g3.ff (ok.step g3) upd_same (Fz.mono sF r1) (Fz.mono sF r2)
end
end Dc

namespace Dc
open PySem PySem.Spec PyProof.Rows L2 ToD
/-! ### a list of two things that differ in kind -/
structure Ls2 (α β : Type) where
  a : α
  b : β
  deriving DecidableEq
section
variable {α β γ ε : Type} [Fz α] [Fz β] [Fz γ] [Fz ε]
instance : Fz (Ls2 α β) := Fz.mk' (fun K F v x => ∃ l v1 v2, v = .ref l ∧ F l = some (.lst [v1, v2]) ∧ Fz.rep K F v1 x.a ∧ Fz.rep K F v2 x.b) fun s ⟨l, v1, v2, e, h, r1, r2⟩ => ⟨l, v1, v2, e, s _ _ h, Fz.mono s r1, Fz.mono s r2⟩
instance : HasTy (Ls2 α β) "list" := ⟨fun s h => by obtain ⟨l, v1, v2, rfl, e, _⟩ := h; exact .base (.lst (s _ _ e))⟩
instance : HasTy (Tof α) "tuple" := ⟨fun s h => by obtain ⟨l, vs, rfl, e, _⟩ := h; exact .base (.tup (s _ _ e))⟩
instance : HasTy (T3 α β γ) "tuple" := ⟨fun s h => by obtain ⟨l, v1, v2, v3, rfl, e, _⟩ := h; exact .base (.tup (s _ _ e))⟩
instance [ToD α] [ToD β] : ToD (Ls2 α β) := ⟨fun x => .list [toD x.a, toD x.b], fun s h => by
  obtain ⟨l, v1, v2, rfl, e, r1, r2⟩ := h
  exact .lst (SqL.of (s _ _ e)) (.cons (dp s (Fz.rd_of s r1)) (.cons (dp s (Fz.rd_of s r2)) .nil))⟩
instance : Plc (Ls2 α β) := ⟨fun ⟨l, _, _, e, _⟩ => ⟨l, e⟩⟩
instance [ToD α] [ToD β] [DecidableEq α] [EqD α] [DecidableEq β] [EqD β] : EqD (Ls2 α β) := ⟨fun ⟨a, b⟩ ⟨c, d⟩ => by
  show PyData.eqv (.list [toD a, toD b]) (.list [toD c, toD d]) = _
  rw [PyData.eqv, PyData.eqvAll, PyData.eqvAll, PyData.eqvAll, EqD.eq, EqD.eq, Bool.and_true]
  exact dec_and ⟨fun e => by cases e; exact ⟨rfl, rfl⟩, fun ⟨e1, e2⟩ => by rw [e1, e2]⟩⟩
variable {C : Ctx} {W : WX} {δ : List Sl} {ta tb te : TE} {ma : M α} {mb : M β} {K : PySem.W.Frag}
theorem e_ls2 (ha : JE C W δ ta ma) (hb : JE C W δ tb mb) : JE C W δ (tLst (tCons ta (tCons tb tNil))) (ma.bind fun a => mb.bind fun b => M.pure (Ls2.mk a b)) := fun F H σ Q ok q =>
  ha F H σ _ ok (ma.mono (fun a q1 v F1 H1 s1 r1 ok1 => hb F1 H1 σ _ ok1 (mb.mono (fun b q2 w F2 H2 s2 r2 ok2 => ⟨by rw [sizeLine_eq]; show 2 ≤ _; omega, fun p hp =>
    q2 _ _ _ ((s1.trans s2).trans (Same.new (Same.free ok2.same hp))) ⟨p, v, w, rfl, upd_same, Fz.mono (s2.trans (Same.new (Same.free ok2.same hp))) r1, Fz.mono (Same.new (Same.free ok2.same hp)) r2⟩ (ok2.newF hp)⟩) (fun e z => EW.mono s1 z) q1)) (fun _ z => z) q)
theorem o_ls2a : Op2 K (rIxL K) fun (a : Ls2 α β) (i : Int) => M.need (i = 0) (M.pure a.a) := fun F H v w a b Q E s ra rb q => by
  obtain ⟨l, v1, v2, rfl, e, r1, r2⟩ := ra
  exact ⟨l, _, b, v1, rfl, rb, SqL.of (s _ _ e), by rw [q.1]; rfl, q.2 _ F H (Go.refl s) r1⟩
theorem o_ls2b : Op2 K (rIxL K) fun (a : Ls2 α β) (i : Int) => M.need (i = 1) (M.pure a.b) := fun F H v w a b Q E s ra rb q => by
  obtain ⟨l, v1, v2, rfl, e, r1, r2⟩ := ra
  exact ⟨l, _, b, v2, rfl, rb, SqL.of (s _ _ e), by rw [q.1]; rfl, q.2 _ F H (Go.refl s) r2⟩
/-! ### tuples joined -/
theorem o_catT : Op2 K (rCatA K) fun a b : Tof α => M.need (a.l.length + b.l.length ≤ sizeLine) (M.pure (Tof.mk (a.l ++ b.l))) := fun F H v w a b Q E s ra rb q => by
  obtain ⟨l, vs, rfl, e, r⟩ := ra
  obtain ⟨l', vs', rfl, e', r'⟩ := rb
  refine ⟨l, l', vs, vs', rfl, rfl, SqT.of (s _ _ e), SqT.of (s _ _ e'), by rw [r.length, r'.length]; exact q.1, fun z => ?_, fun _ z => ?_, fun _ _ p hp => ?_⟩
  · refine q.2 _ F H (Go.refl s) ⟨l', vs', rfl, e', ?_⟩
    rw [z] at r
    cases a with | mk a => cases r; exact r'
  · refine q.2 _ F H (Go.refl s) ⟨l, vs, rfl, e, ?_⟩
    rw [z] at r'
    cases b with | mk b => cases r'; show Reps K F vs (a.l ++ []); rw [List.append_nil]; exact r
  · have s' : Same F (upd F p (.tup (vs ++ vs'))) := Same.new (Same.free s hp)
    exact q.2 _ _ _ ((Go.refl s).new hp) ⟨p, _, rfl, upd_same, pair_app (Reps.mono s' r) (Reps.mono s' r')⟩
/-! ### len(range(i, j)) -/
def rLenRng : List V → Hp → VK → Prop := fun xs H Q => ∃ p lo hi, xs = [V.ref p] ∧ H p = some (.rng lo hi) ∧ hi - lo < 2 ^ 62 ∧ Q (.int ((hi - lo).toNat : Int)) H
def rRng2 : List V → Hp → VK → Prop := fun vs H Q => ∃ i j, vs = [V.int i, V.int j] ∧ ∀ p, H p = none → Q (.ref p) (upd H p (.rng i j))
theorem call_lenRng {X : Cx} : CallR X (.builtin "len") rLenRng := by
  intro pins s σ H xs us Q I r h
  obtain ⟨p, lo, hi, rfl, hp, hz, q⟩ := h
  obtain ⟨u, rfl, rx⟩ := vals1 r
  cases rx
  obtain ⟨t1, t2, t3, ho⟩ := I.hok p _ hp
  refine call_len_range (n := (hi - lo).toNat) ho (rangeSize_nat lo hi) (by omega) ⟨.int _, H, I.tok _, ⟨_, rfl⟩, q⟩
theorem call_rng2 {X : Cx} : CallR X (.type "range") rRng2 := cr_range2
theorem e_lenRng {ma mb : M Int} (ha : JE C W δ ta ma) (hb : JE C W δ tb mb) : JE C W δ (tCB rLenRng (tCons (tCB rRng2 (tCons ta (tCons tb tNil))) tNil)) (ma.bind fun i => mb.bind fun j => M.need (j - i < 2 ^ 62) (M.pure ((j - i).toNat : Int))) := fun F H σ Q ok q =>
  ha F H σ _ ok (ma.mono (fun a q1 v F1 H1 s1 r1 ok1 => hb F1 H1 σ _ ok1 (mb.mono (fun b q2 w F2 H2 s2 r2 ok2 => by
    cases r1
    cases r2
    exact ⟨a, b, rfl, fun p hp => ⟨p, a, b, rfl, upd_same, q2.1, q2.2 _ _ _ ((s1.trans s2).trans (Same.refl _)) rfl (ok2.step ((Go.refl ok2.same).tmp hp))⟩⟩) (fun e z => EW.mono s1 z) q1)) (fun _ z => z) q)
/-! ### an object of two fields is made of two things -/
variable {cl : PySem.W.Frag → Addr} {f g : Str} {A : Prop}
def SpI2 (A : Prop) (cl : PySem.W.Frag → Addr) (f g : Str) (m : γ → ε → M (α × β)) (K : PySem.W.Frag) : Sp := fun vs H Q E => A ∧ ∃ (F : Hp) (a dx : Addr) (x : γ) (y : ε) (v w : V), vs = [.ref a, v, w] ∧ Same F H ∧ F a = none ∧ H a = some (.ins (cl K) dx []) ∧ Fz.rep K F v x ∧ Fz.rep K F w y ∧ PostI cl f g K a dx F H (m x y) Q E
theorem k_make2S {ω : Type} [Fz ω] {mk : α × β → ω} {m : γ → ε → M (α × β)} {m0 : M γ} {m1 : M ε} (hA : A) (hm : ∀ F a dx w u (x : α) (y : β), F a = some (.ins (cl C.K) dx [(f, w), (g, u)]) → Fz.rep C.K F w x → Fz.rep C.K F u y → Fz.rep C.K F (.ref a) (mk (x, y)))
    (h0 : JE C W δ ta m0) (h1 : JE C W δ tb m1) : JE C W δ (tMkS (cl C.K) (SpI2 A cl f g m C.K) W (tCons ta (tCons tb tNil))) (m0.bind fun x => m1.bind fun y => (m x y).bind fun r => M.pure (mk r)) := fun F H σ Q ok q =>
  h0 F H σ _ ok (m0.mono (fun x q0 v F1 H1 s1 r1 ok1 => h1 F1 H1 σ _ ok1 (m1.mono (fun y q1 w F2 H2 s2 r2 ok2 => fun a dx ha hd ne => by
    have fa : F2 a = none := Same.free ok2.same ha
    have h1' : (upd H2 dx (.own a)) a = none := by
      rw [upd_ne ne.symm]
      exact ha
    refine ⟨hA, F2, a, dx, x, y, v, w, rfl, ?_, fa, upd_same, Fz.mono s2 r1, r2, ?_⟩
    · exact ((Go.refl (M := M0) ok2.same).tmp (o := .own a) hd |>.tmp (o := .ins (cl C.K) dx []) h1').fh
    · exact made2 (ω := ω) (mk := fun x y => mk (x, y)) (rp := fun K F v x => Fz.rep K F v x) (R := Q) ok2 ha hd ne (M.mono _ (fun r z F' H' w' u' dx' s' ok' e' r1' r2' => z _ F' H' ((s1.trans s2).trans s') (hm F' a dx' w' u' r.1 r.2 e' r1' r2') ok') (fun e z cls d F' H' s' x' ok' => z cls d F' H' ((s1.trans s2).trans s') x' ok') q1)) (fun e z => EW.mono s1 z) q0)) (fun _ z => z) q)
theorem k_make2 {ω : Type} [Fz ω] {mk : α × β → ω} {m : γ → ε → M (α × β)} {m0 : M γ} {m1 : M ε} (hA : A) (hm : ∀ F a dx w u (x : α) (y : β), F a = some (.ins (cl C.K) dx [(f, w), (g, u)]) → Fz.rep C.K F w x → Fz.rep C.K F u y → Fz.rep C.K F (.ref a) (mk (x, y)))
    (h0 : JE C W δ ta m0) (h1 : JE C W δ tb m1) : JE C W δ (tMk (cl C.K) (SpI2 A cl f g m C.K) E0 (tCons ta (tCons tb tNil))) (m0.bind fun x => m1.bind fun y => (m x y).nx.bind fun r => M.pure (mk r)) := fun F H σ Q ok q =>
  h0 F H σ _ ok (m0.mono (fun x q0 v F1 H1 s1 r1 ok1 => h1 F1 H1 σ _ ok1 (m1.mono (fun y q1 w F2 H2 s2 r2 ok2 => fun a dx ha hd ne => by
    have fa : F2 a = none := Same.free ok2.same ha
    have h1' : (upd H2 dx (.own a)) a = none := by
      rw [upd_ne ne.symm]
      exact ha
    refine ⟨hA, F2, a, dx, x, y, v, w, rfl, ?_, fa, upd_same, Fz.mono s2 r1, r2, ?_⟩
    · exact ((Go.refl (M := M0) ok2.same).tmp (o := .own a) hd |>.tmp (o := .ins (cl C.K) dx []) h1').fh
    · exact made2 (ω := ω) (mk := fun x y => mk (x, y)) (rp := fun K F v x => Fz.rep K F v x) (R := Q) ok2 ha hd ne (M.mono (m x y) (fun r z F' H' w' u' dx' s' ok' e' r1' r2' => z _ F' H' ((s1.trans s2).trans s') (hm F' a dx' w' u' r.1 r.2 e' r1' r2') ok') (fun e z cls d F' H' s' x' ok' => z.elim) q1)) (fun e z => EW.mono s1 z) q0)) (fun _ z => z) q)
/-- every argument is handed in, though some have defaults -/
theorem bindsAll {x qual : Str} {params : Arguments} {body : List Stmt} {scope : Scope} {dvs : List V} {kws : List (Str × V)} {fa : Addr} {fd : FuncData} {ps : List Str} (F : FunD K x qual params body scope dvs kws fa fd) (hd : dvs ≠ [])
    (h : ∀ (T : Addr) (kV doc pm : Value) (an : Option Addr) (cdv ct : Value) (us its : List Value), us.length = ps.length → its.length = dvs.length → ∃ k, bindArgs (PySem.W.fnOf x qual params body scope (.ref T) kV doc pm an cdv ct) ⟨us, []⟩ = seqItems? (.ref T) >>= k ∧ k (some its.toArray) = pure (ps.zip us)) : Binds K fd ps [] := by
  obtain ⟨ds, hv, hb⟩ := F.binds1 (ps := ps) ps.length dvs.length hd (by omega) (fun T kV doc pm an cdv ct us its h1 h2 => by
    obtain ⟨k, e1, e2⟩ := h T kV doc pm an cdv ct us its h1 h2
    exact ⟨k, e1, by rw [List.drop_eq_nil_of_le (by omega), List.append_nil]; exact e2⟩)
  rw [List.drop_length] at hv
  cases hv
  exact hb
/-! ### int(bool) -/
def rInt1 : List V → Hp → VK → Prop := fun xs H Q => (∃ i, xs = [.int i] ∧ Q (.int i) H) ∨ ∃ k, xs = [.bl k] ∧ Q (.int (if k then 1 else 0)) H
theorem o_intB : Cb1 K rInt1 fun a : Bool => M.pure (if a then (1 : Int) else 0) := fun F H v a Q E s ra q => .inr ⟨a, by cases ra; rfl, q _ F H (Go.refl s) (by cases a <;> rfl)⟩
theorem o_intI : Cb1 K rInt1 fun a : Int => M.pure a := fun F H v a Q E s ra q => .inl ⟨a, by cases ra; rfl, q _ F H (Go.refl s) rfl⟩
end
end Dc

namespace Dc
open PySem PySem.Spec PyProof.Rows L2 ToD
/-! ## plain laws of mirrors -/
namespace M
variable {α β γ S ρ : Type}
theorem eq_of {m n : M α} (h : ∀ Q E, m.run Q E ↔ n.run Q E) : m = n := by
  obtain ⟨r, h1⟩ := m
  obtain ⟨r', h2⟩ := n
  have e : r = r' := funext fun Q => funext fun E => propext (h Q E)
  subst e
  rfl
theorem pb (a : α) (f : α → M β) : (M.pure a).bind f = f a := rfl
theorem bb (m : M α) (f : α → M β) (g : β → M γ) : (m.bind f).bind g = m.bind fun a => (f a).bind g := rfl
theorem bp (m : M α) : (m.bind fun a => M.pure a) = m := rfl
theorem np (a : α) : (M.pure a : M α).nx = M.pure a := rfl
theorem nb (m : M α) (f : α → M β) : (m.bind f).nx = m.nx.bind fun a => (f a).nx := rfl
theorem nn (m : M α) : m.nx.nx = m.nx := rfl
theorem nneed (p : Prop) (m : M α) : (M.need p m).nx = M.need p m.nx := rfl
theorem nany (p : α → Prop) : (M.any p).nx = M.any p := rfl
theorem nite (b : Bool) (m n : M α) : (if b then m else n : M α).nx = if b then m.nx else n.nx := by cases b <;> rfl
theorem bite (b : Bool) (m n : M α) (f : α → M β) : (if b then m else n : M α).bind f = if b then m.bind f else n.bind f := by cases b <;> rfl
theorem pite (b : Bool) (x y : α) : (if b then M.pure x else M.pure y : M α) = M.pure (if b then x else y) := by cases b <;> rfl
theorem needT {p : Prop} (h : p) (m : M α) : M.need p m = m := eq_of fun Q E => ⟨fun q => q.2, fun q => ⟨h, q⟩⟩
theorem needTT (m : M α) : M.need True m = m := needT trivial m
theorem needb (p : Prop) (m : M α) (f : α → M β) : (M.need p m).bind f = M.need p (m.bind f) := rfl
theorem toE (f : β → M α) (a : β) : M.to f a = f a := rfl
theorem optS (a : α) : M.ofOpt (some a) = M.pure a := rfl
theorem nopt (o : Option α) : (M.ofOpt o).nx = M.ofOpt o := by cases o <;> rfl
theorem doneP (s : S) (k : S → M ρ) : M.done (M.pure (Fl.nx s) : M (Fl S ρ)) k = k s := rfl
theorem doneR (r : ρ) (k : S → M ρ) : M.done (M.pure (Fl.rt r) : M (Fl S ρ)) k = M.pure r := rfl
theorem nextP {T : Type} (s : S) (k : S → M (Fl T ρ)) : M.next (M.pure (Fl.nx s) : M (Fl S ρ)) k = k s := rfl
theorem nextR {T : Type} (r : ρ) (k : S → M (Fl T ρ)) : M.next (M.pure (Fl.rt r) : M (Fl S ρ)) k = M.pure (Fl.rt r) := rfl
/-! runs -/
theorem run_bind {m : M α} {f : α → M β} {Q : β → Prop} {E : Exn → Prop} : (m.bind f).run Q E ↔ m.run (fun a => (f a).run Q E) E := Iff.rfl
theorem run_pure {a : α} {Q : α → Prop} {E : Exn → Prop} : (M.pure a).run Q E ↔ Q a := Iff.rfl
theorem run_nx {m : M α} {Q : α → Prop} {E : Exn → Prop} : m.nx.run Q E ↔ m.run Q fun _ => False := Iff.rfl
theorem run_need {p : Prop} {m : M α} {Q : α → Prop} {E : Exn → Prop} : (M.need p m).run Q E ↔ p ∧ m.run Q E := Iff.rfl
theorem run_any {p : α → Prop} {Q : α → Prop} {E : Exn → Prop} : (M.any p).run Q E ↔ ∀ a, p a → Q a := Iff.rfl
theorem run_mono {m : M α} {Q Q' : α → Prop} {E : Exn → Prop} (h : m.run Q E) (k : ∀ a, Q a → Q' a) : m.run Q' E := m.mono k (fun _ z => z) h
theorem run_seq {m : M α} {f : α → M β} {P : α → Prop} {Q : β → Prop} {E : Exn → Prop} (h : m.run P E) (k : ∀ a, P a → (f a).run Q E) : (m.bind f).run Q E := m.mono k (fun _ z => z) h
end M
section
variable {α β γ S ρ : Type}
theorem draw_run {n : Int} {Q : Int → Prop} {E : Exn → Prop} (h0 : 0 < n) (h1 : n < 2 ^ 30) (k : ∀ d, 0 ≤ d → d < n → Q d) : (drawM n).run Q E := ⟨⟨h0, h1⟩, fun d ⟨a, b⟩ => k d a b⟩
theorem drawM_nx (n : Int) : (drawM n).nx = drawM n := rfl
/-! ### loops -/
theorem forS_cons (f : α → S → M S) (x : α) (xs : List α) (s : S) : forS f (x :: xs) s = (f x s).bind fun s' => forS f xs s' := rfl
theorem forS_inv {f : α → S → M S} {E : Exn → Prop} (I : List α → S → Prop) : ∀ {xs : List α} (pre : List α) {s : S}, I pre s → (∀ p x q s, pre ++ xs = p ++ x :: q → I p s → (f x s).run (fun s' => I (p ++ [x]) s') E) → (forS f xs s).run (fun s => I (pre ++ xs) s) E
  | [], pre, s, h, _ => by rw [List.append_nil]; exact h
  | x :: xs, pre, s, h, k => (f x s).mono (fun s' z => by
      have := forS_inv (E := E) I (pre ++ [x]) z (xs := xs) (fun p y q s e => k p y q s (by rw [← e, List.append_assoc]; rfl))
      rw [List.append_assoc] at this
      exact this) (fun _ z => z) (k pre x xs s rfl h)
/-- with a state that is known -/
theorem forS_eq {f : α → S → M S} (g : S → α → S) (I : S → Prop) : ∀ {xs : List α} {s : S}, I s → (∀ x ∈ xs, ∀ s, I s → f x s = M.pure (g s x) ∧ I (g s x)) → forS f xs s = M.pure (xs.foldl g s)
  | [], s, _, _ => rfl
  | x :: xs, s, h, k => by
    obtain ⟨e, i⟩ := k x (List.mem_cons_self ..) s h
    rw [forS_cons, e, List.foldl_cons]
    exact forS_eq g I i fun y m => k y (List.mem_cons_of_mem _ m)
theorem forS_eqI {f : α → S → M S} (g : List α → S) : ∀ {xs : List α} (pre : List α), (∀ p x q, pre ++ xs = p ++ x :: q → f x (g p) = M.pure (g (p ++ [x]))) → forS f xs (g pre) = M.pure (g (pre ++ xs))
  | [], pre, _ => by rw [List.append_nil]; rfl
  | x :: xs, pre, k => by
    rw [forS_cons, k pre x xs rfl]
    have := forS_eqI (f := f) g (pre ++ [x]) (xs := xs) (fun p y q e => k p y q (by rw [← e, List.append_assoc]; rfl))
    rw [List.append_assoc] at this
    exact this
theorem forS_unit {f : α → Unit → M Unit} {xs : List α} (k : ∀ x ∈ xs, f x () = M.pure ()) : forS f xs () = M.pure () := by
  rw [forS_eq (fun _ _ => ()) (fun _ => True) trivial (fun x m s _ => ⟨k x m, trivial⟩)]
/-- a loop that never leaves by return -/
theorem forM_inv {f : α → S → M (Fl S ρ)} {E : Exn → Prop} (I : List α → S → Prop) : ∀ {xs : List α} (pre : List α) {s : S}, I pre s → (∀ p x q s, pre ++ xs = p ++ x :: q → I p s → (f x s).run (fun r => ∃ s', r = .nx s' ∧ I (p ++ [x]) s') E) → (forM f xs s).run (fun r => ∃ s, r = .nx s ∧ I (pre ++ xs) s) E
  | [], pre, s, h, _ => by rw [List.append_nil]; exact ⟨s, rfl, h⟩
  | x :: xs, pre, s, h, k => (f x s).mono (fun r z => by
      obtain ⟨s', rfl, z⟩ := z
      have := forM_inv (E := E) I (pre ++ [x]) z (xs := xs) (fun p y q s e => k p y q s (by rw [← e, List.append_assoc]; rfl))
      rw [List.append_assoc] at this
      exact this) (fun _ z => z) (k pre x xs s rfl h)
theorem compM_nil (f : α → M (Option β)) : compM f [] = M.pure [] := rfl
theorem compM_eq {f : α → M (Option β)} (g : α → Option β) : ∀ {xs : List α}, (∀ x ∈ xs, f x = M.pure (g x)) → compM f xs = M.pure (xs.filterMap g)
  | [], _ => rfl
  | x :: xs, k => by
    have ih := compM_eq g (xs := xs) fun y m => k y (List.mem_cons_of_mem _ m)
    show (f x).bind (fun o => _) = _
    rw [k x (List.mem_cons_self ..), M.pb]
    cases e : g x with
    | none =>
      rw [List.filterMap_cons_none e]
      exact ih
    | some y =>
      rw [List.filterMap_cons_some e]
      show (compM f xs).bind (fun r => M.pure (y :: r)) = _
      rw [ih]
      rfl
theorem compM_mp {f : α → M (Option β)} (g : α → β) {xs : List α} (k : ∀ x ∈ xs, f x = M.pure (some (g x))) : compM f xs = M.pure (xs.map g) := by
  rw [compM_eq (fun x => some (g x)) k, List.filterMap_eq_map']
theorem compM_ft {f : α → M (Option α)} (p : α → Bool) {xs : List α} (k : ∀ x ∈ xs, f x = M.pure (if p x then some x else none)) : compM f xs = M.pure (xs.filter p) := by
  rw [compM_eq (fun x => if p x then some x else none) k]
  congr 1
  induction xs with
  | nil => rfl
  | cons x xs ih =>
    have ih := ih fun y m => k y (List.mem_cons_of_mem _ m)
    cases e : p x with
    | true => rw [List.filterMap_cons_some (b := x) (by rw [e]; rfl), List.filter_cons_of_pos e, ih]
    | false => rw [List.filterMap_cons_none (by rw [e]; rfl), List.filter_cons_of_neg (by rw [e]; decide), ih]
/-- each yields one -/
theorem compM_run {f : α → M (Option β)} {E : Exn → Prop} (P : α → β → Prop) : ∀ {xs : List α} {Q : List β → Prop}, (∀ x ∈ xs, (f x).run (fun o => ∃ y, o = some y ∧ P x y) E) → (∀ ys, Paired P xs ys → Q ys) → (compM f xs).run Q E
  | [], Q, _, q => q [] .nil
  | x :: xs, Q, k, q => by
    refine (f x).mono (fun o z => ?_) (fun _ z => z) (k x (List.mem_cons_self ..))
    obtain ⟨y, rfl, hy⟩ := z
    show ((compM f xs).bind (fun r => M.pure (y :: r))).run Q E
    exact compM_run P (Q := fun ys => Q (y :: ys)) (fun x' m => k x' (List.mem_cons_of_mem _ m)) fun ys h => q _ (.cons hy h)
theorem paired_len {P : α → β → Prop} {xs : List α} {ys : List β} (h : Paired P xs ys) : xs.length = ys.length := Paired.length h
theorem paired_all {P : α → β → Prop} {p : β → Prop} : ∀ {xs : List α} {ys : List β}, Paired P xs ys → (∀ x y, P x y → p y) → ∀ y ∈ ys, p y
  | _, _, .nil, _, y, m => nomatch m
  | _, _, .cons h t, k, y, m => by
    rcases List.mem_cons.mp m with e | m
    · rw [e]; exact k _ _ h
    · exact paired_all t k y m
theorem all_id : ∀ {bs : List Bool}, (∀ b ∈ bs, b = true) → bs.all id = true := fun h => List.all_eq_true.mpr h
/-- a law: all of its cells -/
theorem cells_run {f : α → M Bool} {E : Exn → Prop} {xs : List α} (k : ∀ x ∈ xs, (f x).run (fun b => b = true) fun _ => False) : (compM (fun x => ((M.pure true : M Bool)).nx.bind fun b => if b then (f x).nx.bind fun y => M.pure (some y) else M.pure none) xs).run (fun bs => bs.all id = true) E := by
  refine compM_run (fun _ b => b = true) (fun x m => ?_) (fun ys h => all_id (paired_all h fun _ _ z => z))
  show ((f x).nx.bind fun y => M.pure (some y)).run _ _
  exact (f x).mono (fun b z => ⟨b, rfl, z⟩) (fun _ z => z) (k x m)
theorem log2_small {n : Int} {b : Nat} (h : n.natAbs < 2 ^ b) (hb : b ≤ 1900 := by decide) : n.natAbs.log2 < 1920 := by
  by_cases z : n.natAbs = 0
  · rw [z]
    decide
  · have := (Nat.log2_lt z).mpr h
    omega
/-! ### data that can be compared -/
class Shp (α : Type) [Fz α] [ToD α] where
  ok : α → Prop
  dep : Nat
  lay : ∀ a, ok a → (toD a).canLay0 = true
  low : ∀ a, ok a → (toD a).depth ≤ dep
instance : Shp Int := ⟨fun _ => True, 0, fun _ _ => rfl, fun _ _ => Nat.le_refl _⟩
instance : Shp Bool := ⟨fun _ => True, 0, fun _ _ => rfl, fun _ _ => Nat.le_refl _⟩
instance : Shp Unit := ⟨fun _ => True, 0, fun _ _ => rfl, fun _ _ => Nat.le_refl _⟩
instance : Shp Str := ⟨fun x => PyData.strOk x = true, 0, fun _ h => h, fun _ _ => Nat.le_refl _⟩
theorem lay_all [Fz α] [ToD α] [Shp α] : ∀ {xs : List α}, (∀ x ∈ xs, Shp.ok x) → PyData.canLayAll0 (xs.map toD) = true ∧ PyData.depthAll (xs.map toD) ≤ Shp.dep α
  | [], _ => ⟨rfl, Nat.zero_le _⟩
  | x :: xs, h => by
    obtain ⟨a, b⟩ := lay_all (xs := xs) fun y m => h y (List.mem_cons_of_mem _ m)
    have c := Shp.lay x (h x (List.mem_cons_self ..))
    have d := Shp.low x (h x (List.mem_cons_self ..))
    refine ⟨?_, Nat.max_le.mpr ⟨d, b⟩⟩
    show ((toD x).canLay0 && PyData.canLayAll0 (xs.map toD)) = true
    rw [c, a]
    rfl
instance [Fz α] [ToD α] [Shp α] : Shp (List α) := ⟨fun xs => ∀ x ∈ xs, Shp.ok x, Shp.dep α + 1, fun xs h => (lay_all h).1, fun xs h => Nat.succ_le_succ (lay_all h).2⟩
instance [Fz α] [ToD α] [Shp α] : Shp (Tof α) := ⟨fun xs => ∀ x ∈ xs.l, Shp.ok x, Shp.dep α + 1, fun xs h => (lay_all h).1, fun xs h => Nat.succ_le_succ (lay_all h).2⟩
theorem two_lay {a b : PyData} (h1 : a.canLay0 = true) (h2 : b.canLay0 = true) : PyData.canLayAll0 [a, b] = true := by
  show (a.canLay0 && (b.canLay0 && true)) = true
  rw [h1, h2]
  rfl
instance [Fz α] [ToD α] [Shp α] [Fz β] [ToD β] [Shp β] : Shp (α × β) := ⟨fun x => Shp.ok x.1 ∧ Shp.ok x.2, max (Shp.dep α) (max (Shp.dep β) 0) + 1, fun x h => two_lay (Shp.lay _ h.1) (Shp.lay _ h.2), fun x h => Nat.succ_le_succ (Nat.max_le.mpr ⟨Nat.le_trans (Shp.low _ h.1) (Nat.le_max_left ..), Nat.max_le.mpr ⟨Nat.le_trans (Shp.low _ h.2) (Nat.le_trans (Nat.le_max_left ..) (Nat.le_max_right ..)), Nat.zero_le _⟩⟩)⟩
instance [Fz α] [ToD α] [Shp α] [Fz β] [ToD β] [Shp β] : Shp (Ls2 α β) := ⟨fun x => Shp.ok x.a ∧ Shp.ok x.b, max (Shp.dep α) (max (Shp.dep β) 0) + 1, fun x h => two_lay (Shp.lay _ h.1) (Shp.lay _ h.2), fun x h => Nat.succ_le_succ (Nat.max_le.mpr ⟨Nat.le_trans (Shp.low _ h.1) (Nat.le_max_left ..), Nat.max_le.mpr ⟨Nat.le_trans (Shp.low _ h.2) (Nat.le_trans (Nat.le_max_left ..) (Nat.le_max_right ..)), Nat.zero_le _⟩⟩)⟩
instance : Shp Door := ⟨fun d => PyData.strOk d.near = true ∧ PyData.strOk d.far = true, 1, fun d h => by
  show ((PyData.str d.near).canLay0 && ((PyData.str d.far).canLay0 && (true && (true && true)))) = true
  rw [show (PyData.str d.near).canLay0 = true from h.1, show (PyData.str d.far).canLay0 = true from h.2]
  rfl, fun d h => Nat.le_refl _⟩
theorem Shp.shaped [Fz α] [ToD α] [Shp α] {a : α} (h : Shp.ok a) (hd : Shp.dep α ≤ 64) : SeqAt.shaped (toD a) = true := by
  unfold SeqAt.shaped
  rw [Shp.lay a h, decide_eq_true (Nat.le_trans (Shp.low a h) hd)]
  rfl
theorem eqM_is [Fz α] [ToD α] [Shp α] [DecidableEq α] [EqD α] {a b : α} (ha : Shp.ok a) (hb : Shp.ok b) (hd : Shp.dep α ≤ 64 := by decide) : eqM a b = M.pure (decide (a = b)) := eqM_ok (Shp.shaped ha hd) (Shp.shaped hb hd)
theorem neM_is [Fz α] [ToD α] [Shp α] [DecidableEq α] [EqD α] {a b : α} (ha : Shp.ok a) (hb : Shp.ok b) (hd : Shp.dep α ≤ 64 := by decide) : neM a b = M.pure (!decide (a = b)) := neM_ok (Shp.shaped ha hd) (Shp.shaped hb hd)
theorem ok_ints (xs : List Int) : Shp.ok xs := fun _ _ => trivial
theorem strOk_name {x : Str} (h : IsName x) : PyData.strOk x = true := (shw_name h).lay
theorem ok_names {xs : List Str} (h : ∀ x ∈ xs, IsName x) : Shp.ok xs := fun x m => strOk_name (h x m)
/-! ### dicts that tell of each key -/
def dOf [DecidableEq α] (ks : List α) (f : α → β) : List (α × β) := ks.map fun k => (k, f k)
theorem dOf_look [DecidableEq α] (f : α → β) {k : α} : ∀ {ks : List α}, k ∈ ks → dLook (dOf ks f) k = some (f k)
  | x :: ks, m => by
    by_cases e : x = k
    · rw [e]
      show Option.map _ (List.find? _ ((k, f k) :: _)) = _
      rw [List.find?_cons_of_pos (by simp)]
      rfl
    · have ih := dOf_look f (ks := ks) ((List.mem_cons.mp m).resolve_left fun z => e z.symm)
      show Option.map _ (List.find? _ ((x, f x) :: dOf ks f)) = _
      rw [List.find?_cons_of_neg (by simpa using e)]
      exact ih
theorem dOf_put [DecidableEq α] (f : α → β) {k : α} {v : β} {ks : List α} (m : k ∈ ks) : dPut (dOf ks f) k v = dOf ks fun x => if x = k then v else f x := by
  unfold dPut dOf
  rw [if_pos (by rw [List.any_map, List.any_eq_true]; exact ⟨k, m, by simp⟩), List.map_map]
  refine List.map_congr_left fun x _ => ?_
  show (if x = k then (x, v) else (x, f x)) = (x, if x = k then v else f x)
  by_cases e : x = k
  · rw [if_pos e, if_pos e]
  · rw [if_neg e, if_neg e]
theorem dPut_new [DecidableEq α] {l : List (α × β)} {k : α} {v : β} (h : k ∉ l.map (·.1)) : dPut l k v = l ++ [(k, v)] := by
  unfold dPut
  rw [if_neg fun z => h ?_]
  obtain ⟨p, m, e⟩ := List.any_eq_true.mp z
  exact List.mem_map.mpr ⟨p, m, of_decide_eq_true e⟩
theorem dOf_new [DecidableEq α] (f : α → β) : ∀ {ks pre : List α}, (pre ++ ks).Nodup → dMerge (dOf pre f) (dOf ks f) = dOf (pre ++ ks) f
  | [], pre, _ => by rw [List.append_nil]; rfl
  | k :: ks, pre, h => by
    show dMerge (dPut (dOf pre f) k (f k)) (dOf ks f) = _
    have e : dPut (dOf pre f) k (f k) = dOf (pre ++ [k]) f := by
      rw [dPut_new]
      · unfold dOf
        rw [List.map_append]
        rfl
      · unfold dOf
        rw [List.map_map]
        intro z
        obtain ⟨x, m, e⟩ := List.mem_map.mp z
        have e : x = k := e
        rw [e] at m
        exact (List.nodup_append.mp h).2.2 k m k (List.mem_cons_self ..) rfl
    rw [e, dOf_new f (by rw [List.append_assoc]; exact h), List.append_assoc]
    rfl
theorem dcomp_of [DecidableEq α] (f : α → β) {g : α → M (Option (α × β))} : ∀ {ks pre : List α}, (pre ++ ks).Nodup → (∀ k ∈ ks, g k = M.pure (some (k, f k))) → dcompM g ks (dOf pre f) = M.pure (dOf (pre ++ ks) f)
  | [], pre, _, _ => by rw [List.append_nil]; rfl
  | k :: ks, pre, h, hg => by
    have e : dPut (dOf pre f) k (f k) = dOf (pre ++ [k]) f := by
      have := dOf_new f (ks := [k]) (pre := pre) (List.Nodup.sublist (List.Sublist.append_left (List.Sublist.cons₂ _ (List.nil_sublist _)) _) h)
      exact this
    show ((g k).bind fun o => dcompM g ks _) = _
    rw [hg k (List.mem_cons_self ..), M.pb]
    show dcompM g ks (dPut (dOf pre f) k (f k)) = _
    rw [e, dcomp_of f (by rw [List.append_assoc]; exact h) fun x m => hg x (List.mem_cons_of_mem _ m), List.append_assoc]
    rfl
theorem dcomp0 [DecidableEq α] (f : α → β) {g : α → M (Option (α × β))} {ks : List α} (h : ks.Nodup) (hg : ∀ k ∈ ks, g k = M.pure (some (k, f k))) : dcompM g ks [] = M.pure (dOf ks f) := dcomp_of f (pre := []) h hg
theorem dmerge0 [DecidableEq α] (f : α → β) {ks : List α} (h : ks.Nodup) : dMerge [] (dOf ks f) = dOf ks f := dOf_new f (pre := []) h
theorem dOf_len [DecidableEq α] (f : α → β) (ks : List α) : (dOf ks f).length = ks.length := List.length_map ..
end
end Dc

namespace Dc
open PySem PySem.Spec PyProof.Rows L2 ToD
/-! ### xs[k] op= e -/
theorem get_list {X : Cx} : PGet X (rIxL X.K) := by
  intro pins s σ H x y v u Q I rx ry h
  obtain ⟨p, xs, i, z, rfl, rfl, hq, he, q⟩ := h
  cases rx
  obtain ⟨t, rfl⟩ := ry
  obtain ⟨its, r, pl, hz⟩ := I.list hq
  obtain ⟨j, h1, h2, h3, h4, h5⟩ := atI_get he
  obtain ⟨w, ew, rw'⟩ := r.get h2
  have hl := r.length
  have hn := line63
  by_cases h0 : 0 ≤ i
  · have hj : i.toNat = j := by
      rw [seqIndex_of h0 h5] at h1
      exact Option.some.inj h1
    exact wpAny_getItem_list pl.isList h0 (by omega) (by rw [hj]; simpa using ew) ⟨z, H, I, rw', q⟩
  · have hj : (i + (its.toArray.size : Int)).toNat = j := by
      rw [seqIndex_neg (by omega) h4] at h1
      rw [List.size_toArray, ← hl]
      exact Option.some.inj h1
    exact wpAny_getItem_list_neg pl.isList (by omega) (by rw [List.size_toArray]; omega) (by omega) (by rw [hj]; simpa using ew) ⟨z, H, I, rw', q⟩
section
variable {C : Ctx} {W : WX} {δx : List Sl} {ρ : Type} {R : Rp ρ} {δ : List Sl} {S T : Type} {α β γ : Type} [Fz α] [Fz β] [Fz γ] {t t2 : TS} {te ti : TE} {i : Nat} {F H : Hp} {σ : L2.St} {l : Addr}
theorem s_augL {xs : List Int} {f : Int → Int → Int} {mi me : M Int} {δ' : S → List Sl} {m : List Int → M (Fl S ρ)} (w : Wk δ δx) (hk : JE C W δ ti mi) (h : JE C W δ te me) (k : ∀ ys, JS C W δx R (δ.set i (.ow (oL Int) ys)) t2 δ' (m ys)) (hx : δ[i]? = some (.ow (oL Int) xs) := by rfl) :
    JS C W δx R δ (tSeq (tAugS (tVar i) ti te (rIxL C.K) (ipI f) rSetL) t2) δ' (mi.bind fun z => (M.ofOpt (atI xs z)).bind fun x => me.bind fun y => (M.ofOpt (ixN xs.length z)).bind fun n => M.to m (xs.set n (f x y))) := fun F H σ D ok q => by
  obtain ⟨l, vs, e, hl, r⟩ := own_at ok hx
  refine ⟨.ref l, e, hk F H σ _ ok (mi.mono (fun z q1 u F1 H1 s1 rp ok1 => ?_) (fun e z => XQ.ew w z) q)⟩
  cases rp
  obtain ⟨l', vs', e', hl', r'⟩ := own_at ok1 hx
  rw [e] at e'
  cases e'
  dsimp only at q1
  cases hn : atI xs z with
  | none =>
    rw [hn] at q1
    exact q1.elim
  | some x =>
    rw [hn] at q1
    obtain ⟨v, ev, rv⟩ := atI_rep r' hn
    cases rv
    refine ⟨l, vs', z, _, rfl, rfl, SqL.of hl', ev, ?_⟩
    refine h F1 H1 σ _ ok1 (me.mono (fun y q2 u2 F2 H2 s2 rp2 ok2 => ?_) (fun e z => EW.mono s1 (XQ.ew w z)) q1)
    cases rp2
    refine ⟨x, y, rfl, rfl, ?_⟩
    obtain ⟨l2, vs2, e2, hl2, r2⟩ := own_at ok2 hx
    rw [e] at e2
    cases e2
    cases hj : ixN xs.length z with
    | none =>
      dsimp only at q2
      rw [hj] at q2
      exact q2.elim
    | some n =>
      dsimp only at q2
      rw [hj] at q2
      have s12 := s1.trans s2
      refine ⟨l, vs2, z, n, rfl, rfl, hl2, by rw [r2.length]; exact hj, k _ F2 _ σ D (ok2.set hx e (set_reps (x := f x y) rfl n r2)) (M.mono _ (fun f z => SQ.mono s12 z) (fun e z => XQ.mono s12 z) q2)⟩
theorem bb_augL {xs : List Int} {f : Int → Int → Int} {mi me : M Int} {δ' : S → List Sl} {m : List Int → M S} (w : Wk δ δx) (hk : JE C W δ ti mi) (h : JE C W δ te me) (k : ∀ ys, KB C W δx R (δ.set i (.ow (oL Int) ys)) t2 δ' (m ys)) (hx : δ[i]? = some (.ow (oL Int) xs) := by rfl) :
    KB C W δx R δ (tSeq (tAugS (tVar i) ti te (rIxL C.K) (ipI f) rSetL) t2) δ' (mi.bind fun z => (M.ofOpt (atI xs z)).bind fun x => me.bind fun y => (M.ofOpt (ixN xs.length z)).bind fun n => M.to m (xs.set n (f x y))) := by
  have z := s_augL (S := S) (f := f) w hk h k hx
  exact z
theorem vv_augL {xs : List Int} {f : Int → Int → Int} {mi me : M Int} {m : List Int → M ρ} (w : Wk δ δx) (hk : JE C W δ ti mi) (h : JE C W δ te me) (k : ∀ ys, KV C W δx R (δ.set i (.ow (oL Int) ys)) t2 (m ys)) (hx : δ[i]? = some (.ow (oL Int) xs) := by rfl) :
    KV C W δx R δ (tSeq (tAugS (tVar i) ti te (rIxL C.K) (ipI f) rSetL) t2) (mi.bind fun z => (M.ofOpt (atI xs z)).bind fun x => me.bind fun y => (M.ofOpt (ixN xs.length z)).bind fun n => M.to m (xs.set n (f x y))) := by
  have z := s_augL (S := Empty) (f := f) w hk h k hx
  exact z
/-! ### an owned list's things may be None from now on -/
theorem upd_self {H : Hp} {o : HO} (h : H l = some o) : upd H l o = H := by
  funext x
  by_cases e : x = l
  · rw [e, h]
    exact upd_same
  · exact upd_ne e
theorem reps_some {K : PySem.W.Frag} : ∀ {vs : List V} {xs : List α}, Reps K F vs xs → Reps K F vs (xs.map some)
  | _, _, .nil => .nil
  | _, _, .cons h t => .cons h (reps_some t)
theorem Okk.someL {xs : List α} (ok : Okk C F H σ δ) (hx : δ[i]? = some (.ow (oL α) xs)) : Okk C F H σ (δ.set i (.ow (oL (Option α)) (xs.map some))) := by
  obtain ⟨l, vs, e, hl, r⟩ := own_at ok hx
  have := ok.set hx e (reps_some r)
  rw [upd_self hl] at this
  exact this
theorem s_someL {xs : List α} {δ' : S → List Sl} {m : List (Option α) → M (Fl S ρ)} (k : ∀ ys, JS C W δx R (δ.set i (.ow (oL (Option α)) ys)) t δ' (m ys)) (hx : δ[i]? = some (.ow (oL α) xs) := by rfl) : JS C W δx R δ t δ' (M.to m (xs.map some)) := fun F H σ D ok q => k _ F H σ D (ok.someL hx) q
theorem bb_someL {xs : List α} {δ' : S → List Sl} {m : List (Option α) → M S} (k : ∀ ys, KB C W δx R (δ.set i (.ow (oL (Option α)) ys)) t δ' (m ys)) (hx : δ[i]? = some (.ow (oL α) xs) := by rfl) : KB C W δx R δ t δ' (M.to m (xs.map some)) := by
  have z := s_someL (S := S) k hx
  exact z
theorem vv_someL {xs : List α} {m : List (Option α) → M ρ} (k : ∀ ys, KV C W δx R (δ.set i (.ow (oL (Option α)) ys)) t (m ys)) (hx : δ[i]? = some (.ow (oL α) xs) := by rfl) : KV C W δx R δ t (M.to m (xs.map some)) := by
  have z := s_someL (S := Empty) k hx
  exact z
end
end Dc

namespace Dc
open PySem PySem.Spec PyProof.Rows L2 ToD
/-! ## arguments of several kinds; what is one's own may be lent to a def that tells of it -/
/-- values of several kinds -/
structure Ag (τ : Type) where
  rep : PySem.W.Frag → Hp → List V → τ → Prop
  mono : ∀ {K F F' vs x}, Same F F' → rep K F vs x → rep K F' vs x
def Ag.nil : Ag Unit := ⟨fun _ _ vs _ => vs = [], fun _ h => h⟩
def Ag.cons (α : Type) [Fz α] {τ : Type} (r : Ag τ) : Ag (α × τ) := ⟨fun K F vs x => ∃ v ws, vs = v :: ws ∧ Fz.rep K F v x.1 ∧ r.rep K F ws x.2, fun s ⟨v, ws, e, h, t⟩ => ⟨v, ws, e, Fz.mono s h, r.mono s t⟩⟩
/-- a result that no heap bears on -/
class Sca (ρ : Type) [Fz ρ] : Prop where
  any : ∀ {K F F' v} {a : ρ}, Fz.rep K F v a → Fz.rep K F' v a
instance : Sca Int := ⟨fun h => h⟩
instance : Sca Bool := ⟨fun h => h⟩
instance : Sca Str := ⟨fun h => h⟩
instance : Sca Unit := ⟨fun h => h⟩
section
variable (C : Ctx) (W : WX) (δ : List Sl)
/-- lent -/
def JW {α : Type} [Fz α] (t : TE) (m : M α) : Prop := ∀ F H σ Q, Okk C F H σ δ → m.run (fun a => ∀ v F' H', Same F F' → Okk C F' H' σ δ → (∀ F2 H2 G, Same F' F2 → Okk C F2 H2 σ δ → Same F2 G → Same G H2 → ∃ G', Same G G' ∧ Same G' H2 ∧ Fz.rep C.K G' v a) → Q v H') (EW C W δ σ F) → t σ H Q
def JHw {τ : Type} (r : Ag τ) (t : TA) (m : M τ) : Prop := ∀ F H σ Q, Okk C F H σ δ → m.run (fun x => ∀ vs F' H', Same F F' → Okk C F' H' σ δ → (∀ F2 H2 G, Same F' F2 → Okk C F2 H2 σ δ → Same F2 G → Same G H2 → ∃ G', Same G G' ∧ Same G' H2 ∧ r.rep C.K G' vs x) → Q vs H') (EW C W δ σ F) → t σ H Q
/-- handed over for good -/
def JH {τ : Type} (r : Ag τ) (t : TA) (m : M τ) : Prop := ∀ F H σ Q, Okk C F H σ δ → m.run (fun x => ∀ vs F' H', Same F F' → r.rep C.K F' vs x → Okk C F' H' σ δ → Q vs H') (EW C W δ σ F) → t σ H Q
end
section
variable {C : Ctx} {W : WX} {δ : List Sl} {α β : Type} [Fz α] [Fz β] {ρ : Type} [Fz ρ] {R : Rp β} {τ υ : Type} {r : Ag τ} {r2 : Ag υ} {te : TE} {t tk : TA} {i : Nat} {p : Addr} {F H : Hp} {σ : L2.St} {K : PySem.W.Frag}
theorem JE.w {m : M α} (h : JE C W δ te m) : JW C W δ te m := fun F H σ Q ok q => h F H σ _ ok (m.mono (fun a z v F' H' s rp ok' => z v F' H' s ok' fun F2 H2 G s2 ok2 g1 g2 => ⟨G, Same.refl _, g2, Fz.mono (s2.trans g1) rp⟩) (fun _ z => z) q)
theorem lend {G H : Hp} {l : Addr} {o : HO} (h : H l = some o) (g : Same G H) : Same G (upd G l o) ∧ Same (upd G l o) H := by
  constructor
  · intro a o' e
    by_cases z : a = l
    · rw [z] at e ⊢
      have := g _ _ e
      rw [h] at this
      cases this
      exact upd_same
    · rw [upd_ne z]
      exact e
  · intro a o' e
    by_cases z : a = l
    · rw [z] at e ⊢
      rw [upd_same] at e
      cases e
      exact h
    · rw [upd_ne z] at e
      exact g _ _ e
theorem w_own {a : List α} (h : δ[i]? = some (.ow (oL α) a) := by rfl) : JW C W δ (tVar i) (M.pure a) := fun F H σ Q ok q => by
  obtain ⟨l, vs, e, hl, r⟩ := own_at ok h
  refine ⟨.ref l, e, q _ F H (Same.refl _) ok fun F2 H2 G s2 ok2 g1 g2 => ?_⟩
  obtain ⟨l', vs', e', hl', r'⟩ := own_at ok2 h
  rw [e] at e'
  cases e'
  obtain ⟨a1, a2⟩ := lend hl' g2
  exact ⟨_, a1, a2, l, vs', rfl, upd_same, Reps.mono (g1.trans a1) r'⟩
theorem hw_nil : JHw C W δ Ag.nil tNil (M.pure ()) := fun F H σ Q ok q => q [] F H (Same.refl _) ok fun F2 H2 G _ _ _ g2 => ⟨G, Same.refl _, g2, rfl⟩
theorem hw_cons {ma : M α} {mr : M τ} (h : JW C W δ te ma) (k : JHw C W δ r t mr) : JHw C W δ (Ag.cons α r) (tCons te t) (ma.bind fun a => mr.bind fun x => M.pure (a, x)) := fun F H σ Q ok q =>
  h F H σ _ ok (ma.mono (fun a q1 v F1 H1 s1 ok1 f1 => k F1 H1 σ _ ok1 (mr.mono (fun x q2 vs F2 H2 s2 ok2 f2 => q2 (v :: vs) F2 H2 (s1.trans s2) ok2 fun F3 H3 G s3 ok3 g1 g2 => by
    obtain ⟨G1, b1, b2, rp1⟩ := f1 F3 H3 G (s2.trans s3) ok3 g1 g2
    obtain ⟨G2, c1, c2, rp2⟩ := f2 F3 H3 G1 s3 ok3 (g1.trans b1) b2
    exact ⟨G2, b1.trans c1, c2, v, vs, rfl, Fz.mono c1 rp1, rp2⟩) (fun e z => EW.mono s1 z) q1)) (fun _ z => z) q)
theorem h_nil : JH C W δ Ag.nil tNil (M.pure ()) := fun F H σ Q ok q => q [] F H (Same.refl _) rfl ok
theorem h_cons {ma : M α} {mr : M τ} (h : JE C W δ te ma) (k : JH C W δ r t mr) : JH C W δ (Ag.cons α r) (tCons te t) (ma.bind fun a => mr.bind fun x => M.pure (a, x)) := fun F H σ Q ok q =>
  h F H σ _ ok (ma.mono (fun a q1 v F1 H1 s1 rp ok1 => k F1 H1 σ _ ok1 (mr.mono (fun x q2 vs F2 H2 s2 rp2 ok2 => q2 (v :: vs) F2 H2 (s1.trans s2) ⟨v, vs, rfl, Fz.mono s2 rp, rp2⟩ ok2) (fun e z => EW.mono s1 z) q1)) (fun _ z => z) q)
/-- a def that is lent things and tells a plain value -/
theorem k_lent [Sca ρ] {sp : Sp} {f : τ → M ρ} {m : M τ} (hs : ∀ G H vs x Q E, Same G H → r.rep C.K G vs x → Post C.K M0 none G H (oZ ρ) (f x) Q E → sp vs H Q E) (ha : JHw C W δ r t m) : JE C W δ (tF sp E0 t) (m.bind fun x => (f x).nx) := fun F H σ Q ok q =>
  ha F H σ _ ok (m.mono (fun x q1 vs F1 H1 s1 ok1 fz => by
    obtain ⟨G, g1, g2, rp⟩ := fz F1 H1 F1 (Same.refl _) ok1 (Same.refl _) ok1.same
    refine hs G H1 vs x _ _ g2 rp ((f x).mono (fun a z v F' H' A g _ rr _ => z v F1 H' s1 (Sca.any rr.2) (ok1.step ⟨Same.refl _, (fun b o e => g.hh b o (fun z => z) (ok1.same _ _ e)), g.hh, fun _ e _ => e, g.th⟩)) (fun e z => z.elim) q1)) (fun _ z => z) q)
theorem k_lentM [Sca ρ] {c : Addr} {mt : Str} {sp : Sp} {f : α → τ → M ρ} {mo : M α} {m : M τ} (ho : Obj C.K α c mt) (hs : ∀ G H v vs a x Q E, Same G H → Fz.rep C.K G v a → r.rep C.K G vs x → Post C.K M0 none G H (oZ ρ) (f a x) Q E → sp (v :: vs) H Q E) (h0 : JE C W δ te mo) (ha : JHw C W δ r t m) : JE C W δ (tM c mt sp E0 te t) (mo.bind fun a => m.bind fun x => (f a x).nx) := fun F H σ Q ok q =>
  h0 F H σ _ ok (mo.mono (fun a q0 v F0 H0 s0 r0 ok0 => by
    obtain ⟨ad, dx, fs, rfl, e1, e2⟩ := ho F0 v a r0
    refine ⟨ad, dx, fs, rfl, ok0.same _ _ e1, e2, ha F0 H0 σ _ ok0 (m.mono (fun x q1 vs F1 H1 s1 ok1 fz => ?_) (fun e z => EW.mono s0 z) q0)⟩
    obtain ⟨G, g1, g2, rp⟩ := fz F1 H1 F1 (Same.refl _) ok1 (Same.refl _) ok1.same
    exact hs G H1 (.ref ad) vs a x _ _ g2 (Fz.mono (s1.trans g1) r0) rp ((f a x).mono (fun b z v F' H' A g _ rr _ => z v F1 H' (s0.trans s1) (Sca.any rr.2) (ok1.step ⟨Same.refl _, (fun b o e => g.hh b o (fun z => z) (ok1.same _ _ e)), g.hh, fun _ e _ => e, g.th⟩)) (fun e z => z.elim) q1)) (fun _ z => z) q)
end
end Dc

namespace Dc
open PySem PySem.Spec PyProof.Rows L2 ToD
/-! ## an expression with a plain result may read what is one's own as if it stayed -/
def FzS (K : PySem.W.Frag) (G : Hp) (o : Option V) (s : Sl) : Prop := match s with
  | .no => True
  | @Sl.fz _ _ a => ∃ v, o = some v ∧ Fz.rep K G v a
  | .ow _ _ => False
  | .mu _ _ => False
  | .pt _ => False
theorem FzS.mono {K : PySem.W.Frag} {G G' : Hp} (s : Same G G') {o : Option V} {t : Sl} (h : FzS K G o t) : FzS K G' o t := by
  cases t with
  | no => trivial
  | fz a =>
    obtain ⟨v, e, r⟩ := h
    exact ⟨v, e, Fz.mono s r⟩
  | ow _ _ => exact h.elim
  | mu _ _ => exact h.elim
  | pt _ => exact h.elim
def LnS (s s' : Sl) : Prop := ∀ C F H o A, SlOk C F H o s A → ∀ G, Same F G → Same G H → ∃ G', Same G G' ∧ Same G' H ∧ FzS C.K G' o s'
inductive LnA : List Sl → List Sl → Prop
  | nil : LnA [] []
  | cons {s s' : Sl} {δ δ' : List Sl} (h : LnS s s') (t : LnA δ δ') : LnA (s :: δ) (s' :: δ')
theorem ln_no (s : Sl) : LnS s .no := fun C F H o A _ G _ g2 => ⟨G, Same.refl _, g2, trivial⟩
theorem ln_fz {α : Type} [Fz α] (a : α) : LnS (.fz a) (.fz a) := fun C F H o A h G g1 g2 => by
  obtain ⟨v, e, _, r⟩ := h
  exact ⟨G, Same.refl _, g2, v, e, Fz.mono g1 r⟩
theorem ln_ow {α : Type} [Fz α] (xs : List α) : LnS (.ow (oL α) xs) (.fz xs) := fun C F H o A h G g1 g2 => by
  obtain ⟨v, e, ⟨l, vs, rfl, _, hl, r⟩, _⟩ := h
  obtain ⟨a1, a2⟩ := lend hl g2
  exact ⟨_, a1, a2, _, e, l, vs, rfl, upd_same, Reps.mono (g1.trans a1) r⟩
theorem ln_owD {α β : Type} [Fz α] [DecidableEq α] [Ky α] [Fz β] (d : Dct α β) : LnS (.ow (oD α β) d) (.fz d) := fun C F H o A h G g1 g2 => by
  obtain ⟨v, e, ⟨l, vs, rfl, _, hl, r⟩, _⟩ := h
  obtain ⟨a1, a2⟩ := lend hl g2
  exact ⟨_, a1, a2, _, e, l, vs, rfl, upd_same, r.mono (g1.trans a1)⟩
theorem LnA.all {C : Ctx} {H F : Hp} : ∀ {δ δ' : List Sl} {σ : L2.St}, LnA δ δ' → σ.length = δ.length → (∀ (i : Nat) (s : Sl), δ[i]? = some s → ∃ A, SlOk C F H (σ[i]?.join) s A) → ∀ G, Same F G → Same G H → ∃ G', Same G G' ∧ Same G' H ∧ σ.length = δ'.length ∧ ∀ (i : Nat) (s : Sl), δ'[i]? = some s → FzS C.K G' (σ[i]?.join) s
  | _, _, σ, .nil, hl, _, G, g1, g2 => ⟨G, Same.refl _, g2, hl, fun i s e => nomatch e⟩
  | _, _, [], .cons h t, hl, _, G, g1, g2 => nomatch hl
  | _, _, o :: σ, .cons (s := s) (δ := δ) h t, hl, hs, G, g1, g2 => by
    obtain ⟨G1, a1, a2, a3, a4⟩ := LnA.all (C := C) t (Nat.succ.inj hl) (fun i s e => hs (i + 1) s e) G g1 g2
    obtain ⟨A, hA⟩ := hs 0 s rfl
    obtain ⟨G2, b1, b2, b3⟩ := h C F H _ A hA G1 (g1.trans a1) a2
    refine ⟨G2, a1.trans b1, b2, congrArg Nat.succ a3, fun i s e => ?_⟩
    cases i with
    | zero =>
      cases e
      exact b3
    | succ i => exact (a4 i s e).mono b1
theorem okF {K : PySem.W.Frag} {G H : Hp} (s : Same G H) : ∀ {δ : List Sl} {σ : L2.St}, σ.length = δ.length → (∀ (i : Nat) (t : Sl), δ[i]? = some t → FzS K G (σ[i]?.join) t) → Okk (cx0 K G H) G H σ δ
  | [], [], _, _ => okk_0 s
  | [], o :: σ, hl, _ => nomatch hl
  | t :: δ, [], hl, _ => nomatch hl
  | t :: δ, o :: σ, hl, h => by
    have ih := okF s (δ := δ) (σ := σ) (Nat.succ.inj hl) fun i t e => h (i + 1) t e
    have h0 := h 0 t rfl
    cases t with
    | no => exact okk_no ih
    | fz a =>
      obtain ⟨v, e, r⟩ := h0
      have e : o = some v := e
      rw [e]
      exact okk_fz r ih
    | ow _ _ => exact h0.elim
    | mu _ _ => exact h0.elim
    | pt _ => exact h0.elim
section
variable {C : Ctx} {W : WX} {δ δ' : List Sl} {ρ : Type} [Fz ρ] {te : TE} {tt : TT} {F H : Hp} {σ : L2.St}
theorem Okk.lent (ok : Okk C F H σ δ) (l : LnA δ δ') : ∃ G, Same F G ∧ Same G H ∧ Okk (cx0 C.K G H) G H σ δ' := by
  obtain ⟨A, k⟩ := id ok
  obtain ⟨G, a1, a2, a3, a4⟩ := l.all (C := C) k.len (fun i s e => ⟨A i, k.at_ i s e⟩) F (Same.refl _) ok.same
  exact ⟨G, a1, a2, okF a2 a3 a4⟩
theorem Okk.back {G F' H' : Hp} (ok : Okk C F H σ δ) (ok' : Okk (cx0 C.K G H) F' H' σ δ') : Okk C F H' σ δ := by
  obtain ⟨A, k⟩ := ok'
  exact ok.step ⟨Same.refl _, fun b o e => k.go.hh b o (fun z => z) (ok.same _ _ e), k.go.hh, fun _ e _ => e, k.go.th⟩
theorem e_lend [Sca ρ] {m : M ρ} (l : LnA δ δ') (h : ∀ G H, JE (cx0 C.K G H) W0 δ' te m) : JE C W δ te m.nx := fun F H σ Q ok q => by
  obtain ⟨G, g1, g2, okG⟩ := ok.lent l
  exact h G H G H σ _ okG (m.mono (fun a z v F' H' s' rp ok' => z v F H' (Same.refl _) (Sca.any rp) (ok.back ok')) (fun e z => z.elim) q)
theorem t_lend {m : M Bool} (l : LnA δ δ') (h : ∀ G H, JT (cx0 C.K G H) W0 δ' tt m) : JT C W δ tt m.nx := fun F H σ Q ok q => by
  obtain ⟨G, g1, g2, okG⟩ := ok.lent l
  exact h G H G H σ _ okG (m.mono (fun a z F' H' s' ok' => z F H' (Same.refl _) (ok.back ok')) (fun e z => z.elim) q)
end
end Dc

namespace Dc
open PySem PySem.Spec PyProof.Rows L2 ToD
/-! ## lists of one's own within a list of one's own -/
section
variable {C : Ctx} {F H : Hp} {σ : L2.St} {δ : List Sl} {i : Nat} {l : Addr} {o : HO} {ω ω0 ω' : Type} {R : Rp ω} {R0 : Rp ω0} {R' : Rp ω'} {a : ω} {a0 : ω0} {b : ω'} {A : Nat → List Addr}
theorem Okk.mutA (k : Ok' C F H σ δ A) (h : δ[i]? = some (.ow R a)) (ml : l ∈ A i) (r : ∀ v, σ[i]?.join = some v → R.rep C.K F H v a (A i) → R'.rep C.K F (upd H l o) v b (A i)) : Okk C F (upd H l o) σ (δ.set i (.ow R' b)) := by
  have hi : i < δ.length := (List.getElem?_eq_some_iff.mp h).1
  obtain ⟨v, hv', rp, hc⟩ := k.at_ i _ h
  obtain ⟨fl, _⟩ := k.off i l ml
  refine ⟨A, ⟨k.go.loc (hc l ml) fl, fun p e => ?_, by rw [List.length_set, k.len], fun j t e => ?_, k.dis, fun j a m => by rw [List.length_set]; exact k.off j a m, fun a o e => ?_⟩⟩
  · obtain ⟨t, f, m⟩ := k.pot p e
    exact ⟨t.upd (fun z => m.2 (z ▸ hc l ml)), f, m⟩
  · by_cases z : j = i
    · rw [z, List.getElem?_set_self hi] at e
      cases e
      rw [z]
      exact ⟨v, hv', r v hv' rp, hc⟩
    · rw [List.getElem?_set_ne (fun w => z w.symm)] at e
      refine (k.at_ j t e).stay (Same.refl _) fun x m => upd_ne fun w => z (k.dis j i l (w ▸ m) ml)
  · obtain ⟨h1, h2, h3⟩ := k.prt a o e
    have na : a ≠ l := fun w => h3 i (w ▸ ml)
    exact ⟨by rw [upd_ne na]; exact h1, h2, h3⟩
/-- a new thing goes into one that is there -/
theorem Okk.absorb {v0 : V} (k : Ok' C F H (some v0 :: σ) (.ow R0 a0 :: δ) A) (h : δ[i]? = some (.ow R a)) (ml : l ∈ A (i + 1))
    (r : ∀ v, σ[i]?.join = some v → R0.rep C.K F H v0 a0 (A 0) → R.rep C.K F H v a (A (i + 1)) → (∀ x ∈ A 0, x ∉ A (i + 1)) → R'.rep C.K F (upd H l o) v b (A (i + 1) ++ A 0)) : Okk C F (upd H l o) σ (δ.set i (.ow R' b)) := by
  have hi : i < δ.length := (List.getElem?_eq_some_iff.mp h).1
  obtain ⟨v, hv', rp, hc⟩ := k.at_ (i + 1) _ h
  obtain ⟨w0, hw0, rp0, hc0⟩ := k.at_ 0 _ rfl
  cases (show some v0 = some w0 from hw0)
  obtain ⟨fl, _⟩ := k.off (i + 1) l ml
  have dj : ∀ x ∈ A 0, x ∉ A (i + 1) := fun x m m' => by have := k.dis 0 (i + 1) x m m'; omega
  refine ⟨fun j => if j = i then A (i + 1) ++ A 0 else A (j + 1), ⟨k.go.loc (hc l ml) fl, fun p e => ?_, ?_, fun j t e => ?_, fun j j' x m m' => ?_, fun j x m => ?_, fun x o e => ?_⟩⟩
  · obtain ⟨t, f, m⟩ := k.pot p e
    exact ⟨t.upd (fun z => m.2 (z ▸ hc l ml)), f, m⟩
  · rw [List.length_set]
    exact Nat.succ.inj k.len
  · by_cases z : j = i
    · rw [z, List.getElem?_set_self hi] at e
      cases e
      rw [z, if_pos rfl]
      refine ⟨v, hv', r v hv' rp0 rp dj, fun x m => ?_⟩
      rcases List.mem_append.mp m with m | m
      · exact hc x m
      · exact hc0 x m
    · rw [List.getElem?_set_ne (fun w => z w.symm)] at e
      rw [if_neg z]
      exact (k.at_ (j + 1) t e).stay (Same.refl _) fun x m => upd_ne fun w => z (Nat.succ.inj (k.dis (j + 1) (i + 1) l (w ▸ m) ml))
  · have key : ∀ {j x}, x ∈ (if j = i then A (i + 1) ++ A 0 else A (j + 1)) → x ∈ A (j + 1) ∨ (j = i ∧ x ∈ A 0) := fun {j x} m => by
      by_cases z : j = i
      · rw [if_pos z] at m
        rcases List.mem_append.mp m with m | m
        · rw [z]; exact .inl m
        · exact .inr ⟨z, m⟩
      · rw [if_neg z] at m
        exact .inl m
    rcases key m with m | ⟨e, m⟩ <;> rcases key m' with m' | ⟨e', m'⟩
    · exact Nat.succ.inj (k.dis _ _ x m m')
    · have := k.dis _ _ x m m'; omega
    · have := k.dis _ _ x m m'; omega
    · rw [e, e']
  · by_cases z : j = i
    · rw [if_pos z] at m
      rw [List.length_set]
      rcases List.mem_append.mp m with m | m
      · exact ⟨(k.off _ x m).1, by rw [z]; exact hi⟩
      · exact ⟨(k.off _ x m).1, by rw [z]; exact hi⟩
    · rw [if_neg z] at m
      obtain ⟨a1, a2⟩ := k.off (j + 1) x m
      rw [List.length_cons] at a2
      rw [List.length_set]
      exact ⟨a1, by omega⟩
  · obtain ⟨h1, h2, h3⟩ := k.prt x o e
    have na : x ≠ l := fun w => h3 (i + 1) (w ▸ ml)
    refine ⟨by rw [upd_ne na]; exact h1, h2, fun j m => ?_⟩
    by_cases z : j = i
    · rw [if_pos z] at m
      rcases List.mem_append.mp m with m | m
      · exact h3 _ m
      · exact h3 _ m
    · rw [if_neg z] at m
      exact h3 _ m
end
/-- a list of lists, all of them one's own -/
def oLL (α : Type) [Fz α] : Rp (List (List α)) where
  rep K F H v xss A := ∃ l as, v = .ref l ∧ A = l :: as ∧ (l :: as).Nodup ∧ H l = some (.lst (as.map V.ref)) ∧ Paired (fun a xs => ∃ vs, H a = some (.lst vs) ∧ Reps K F vs xs) as xss
  stay := fun {K F H F' H' v xss A} ⟨l, as, e, ea, nd, h, r⟩ s k => ⟨l, as, e, ea, nd, by rw [k l (by rw [ea]; exact List.mem_cons_self ..)]; exact h, by
    have : ∀ {bs : List Addr} {yss : List (List α)}, Paired (fun a xs => ∃ vs, H a = some (.lst vs) ∧ Reps K F vs xs) bs yss → (∀ x ∈ bs, H' x = H x) → Paired (fun a xs => ∃ vs, H' a = some (.lst vs) ∧ Reps K F' vs xs) bs yss := by
      intro bs yss p
      induction p with
      | nil => exact fun _ => .nil
      | cons h t ih =>
        intro kk
        obtain ⟨vs, h1, h2⟩ := h
        exact .cons ⟨vs, by rw [kk _ (List.mem_cons_self ..)]; exact h1, Reps.mono s h2⟩ (ih fun x m => kk x (List.mem_cons_of_mem _ m))
    exact this r fun x m => k x (by rw [ea]; exact List.mem_cons_of_mem _ m)⟩
  live := fun {K F H v xss A} ⟨l, as, e, ea, nd, h, r⟩ x m => by
    rw [ea] at m
    rcases List.mem_cons.mp m with w | m
    · rw [w, h]
      exact Option.some_ne_none _
    · have : ∀ {bs : List Addr} {yss : List (List α)}, Paired (fun a xs => ∃ vs, H a = some (.lst vs) ∧ Reps K F vs xs) bs yss → ∀ x ∈ bs, H x ≠ none := by
        intro bs yss p
        induction p with
        | nil => exact fun x m => nomatch m
        | cons h t ih =>
          intro x m
          rcases List.mem_cons.mp m with w | m
          · obtain ⟨vs, h1, _⟩ := h
            rw [w, h1]
            exact Option.some_ne_none _
          · exact ih x m
      exact this r x m
theorem lendLL {α : Type} [Fz α] {K : PySem.W.Frag} {F H : Hp} : ∀ {as : List Addr} {xss : List (List α)}, Paired (fun a xs => ∃ vs, H a = some (.lst vs) ∧ Reps K F vs xs) as xss → ∀ G, Same F G → Same G H → ∃ G', Same G G' ∧ Same G' H ∧ Reps K G' (as.map V.ref) xss
  | _, _, .nil, G, g1, g2 => ⟨G, Same.refl _, g2, .nil⟩
  | _, _, .cons (a := a) h t, G, g1, g2 => by
    obtain ⟨G1, a1, a2, r⟩ := lendLL t G g1 g2
    obtain ⟨vs, h1, h2⟩ := h
    obtain ⟨b1, b2⟩ := lend h1 a2
    exact ⟨_, a1.trans b1, b2, .cons ⟨a, vs, rfl, upd_same, Reps.mono ((g1.trans a1).trans b1) h2⟩ (Reps.mono b1 r)⟩
theorem ln_owLL {α : Type} [Fz α] (xs : List (List α)) : LnS (.ow (oLL α) xs) (.fz xs) := fun C F H o A h G g1 g2 => by
  obtain ⟨v, e, ⟨l, as, rfl, _, _, hl, r⟩, _⟩ := h
  obtain ⟨G1, a1, a2, rr⟩ := lendLL r G g1 g2
  obtain ⟨b1, b2⟩ := lend hl a2
  exact ⟨_, a1.trans b1, b2, _, e, l, _, rfl, upd_same, Reps.mono b1 rr⟩
section
variable {C : Ctx} {W : WX} {δx : List Sl} {ρ : Type} {R : Rp ρ} {δ : List Sl} {S T : Type} {α β γ : Type} [Fz α] [Fz β] [Fz γ] {t t2 : TS} {te ti tk : TE} {i : Nat} {F H : Hp} {σ : L2.St} {l : Addr}
theorem o_nilLL : JO C W δ (oLL α) (tLst tNil) (M.pure []) := fun F H σ Q ok q => ⟨by rw [sizeLine_eq]; show 0 ≤ _; omega, fun p hp => q _ F _ (Same.refl _) (ok.push (B := [p]) ((Go.refl ok.same).tmp hp) ⟨p, [], rfl, rfl, by simp, upd_same, .nil⟩ fun x m => by
  rw [List.mem_singleton.mp m]
  exact ⟨Same.free ok.same hp, hp⟩)⟩
theorem ownLL_at {xss : List (List α)} {A : Nat → List Addr} (k : Ok' C F H σ δ A) (h : δ[i]? = some (.ow (oLL α) xss)) : ∃ l as, σ[i]? = some (some (.ref l)) ∧ A i = l :: as ∧ (l :: as).Nodup ∧ H l = some (.lst (as.map V.ref)) ∧ Paired (fun a xs => ∃ vs, H a = some (.lst vs) ∧ Reps C.K F vs xs) as xss := by
  obtain ⟨v, e, ⟨l, as, rfl, ea, nd, hl, r⟩, _⟩ := k.at_ i _ h
  refine ⟨l, as, ?_, ea, nd, hl, r⟩
  cases hs : σ[i]? with
  | none =>
    rw [hs] at e
    cases e
  | some o =>
    rw [hs] at e
    rw [show o = some (.ref l) from e]
theorem keepP {K : PySem.W.Frag} {F H : Hp} {l : Addr} {o : HO} : ∀ {as : List Addr} {xss : List (List α)}, Paired (fun a xs => ∃ vs, H a = some (.lst vs) ∧ Reps K F vs xs) as xss → l ∉ as → Paired (fun a xs => ∃ vs, (upd H l o) a = some (.lst vs) ∧ Reps K F vs xs) as xss
  | _, _, .nil, _ => .nil
  | _, _, .cons h t, n => .cons (by
      obtain ⟨vs, h1, h2⟩ := h
      exact ⟨vs, by rw [upd_ne fun e => n (by rw [← e]; exact List.mem_cons_self ..)]; exact h1, h2⟩) (keepP t fun m => n (List.mem_cons_of_mem _ m))
/-- found.append(a list of one's own) -/
theorem s_appendO {xss : List (List α)} {me : M (List α)} {δ' : S → List Sl} {m : List (List α) → M (Fl S ρ)} (w : Wk δ δx) (h : JO C W δ (oL α) te me) (k : ∀ ys, JS C W δx R (δ.set i (.ow (oLL α) ys)) t2 δ' (m ys)) (hx : δ[i]? = some (.ow (oLL α) xss) := by rfl) :
    JS C W δx R δ (tSeq (tDrop (tBM C.K "list" rAppend (tVar i) (tCons te tNil))) t2) δ' (me.bind fun x => M.need (xss.length < sizeLine) (M.to m (xss ++ [x]))) := fun F H σ D ok q => by
  obtain ⟨A, ka⟩ := id ok
  obtain ⟨l, as, e, ea, nd, hl, r⟩ := ownLL_at ka hx
  refine ⟨.ref l, e, .inl ⟨rfl, _, SqL.of hl⟩, h F H σ _ ok (me.mono (fun a q1 v F1 H1 s1 ok1 => ?_) (fun e z => XQ.ew w z) q)⟩
  obtain ⟨A1, k1⟩ := ok1
  obtain ⟨l', as', e', ea', nd', hl', r'⟩ := ownLL_at (σ := some v :: σ) (δ := .ow (oL α) a :: δ) (i := i + 1) k1 hx
  rw [show (some v :: σ)[i + 1]? = σ[i]? from rfl, e] at e'
  cases e'
  have ok2 : Okk C F1 (upd H1 l (.lst (as'.map V.ref ++ [v]))) σ (δ.set i (.ow (oLL α) (xss ++ [a]))) := Okk.absorb k1 hx (by rw [ea']; exact List.mem_cons_self ..) (fun u hu r0 r1 dj => by
    obtain ⟨l0, vs0, rfl, ea0, hl0, rr0⟩ := r0
    cases (show some (V.ref l) = some u from (by rw [e] at hu; exact hu))
    have n0 : l0 ∉ l :: as' := by rw [← ea']; exact dj l0 (by rw [ea0]; exact List.mem_singleton.mpr rfl)
    have nl : l ∉ as' := (List.nodup_cons.mp nd').1
    refine ⟨l, as' ++ [l0], rfl, by rw [ea', ea0]; rfl, ?_, ?_, ?_⟩
    · show ((l :: as') ++ [l0]).Nodup
      refine List.nodup_append.mpr ⟨nd', by simp, fun x m y m' => ?_⟩
      rw [List.mem_singleton.mp m']
      exact fun z => n0 (z ▸ m)
    · rw [upd_same, List.map_append]
      rfl
    · refine pair_app (keepP r' nl) (.cons ⟨vs0, ?_, rr0⟩ .nil)
      rw [upd_ne fun z => n0 (by rw [z]; exact List.mem_cons_self ..)]
      exact hl0)
  refine ⟨l, _, v, rfl, rfl, hl', ?_, k _ F1 _ σ D ok2 (M.mono _ (fun f z => SQ.mono s1 z) (fun e z => XQ.mono s1 z) q1.2)⟩
  rw [List.length_map, Paired.length r']
  exact q1.1
theorem bb_appendO {xss : List (List α)} {me : M (List α)} {δ' : S → List Sl} {m : List (List α) → M S} (w : Wk δ δx) (h : JO C W δ (oL α) te me) (k : ∀ ys, KB C W δx R (δ.set i (.ow (oLL α) ys)) t2 δ' (m ys)) (hx : δ[i]? = some (.ow (oLL α) xss) := by rfl) :
    KB C W δx R δ (tSeq (tDrop (tBM C.K "list" rAppend (tVar i) (tCons te tNil))) t2) δ' (me.bind fun x => M.need (xss.length < sizeLine) (M.to m (xss ++ [x]))) := by
  have z := s_appendO (S := S) w h k hx
  exact z
theorem vv_appendO {xss : List (List α)} {me : M (List α)} {m : List (List α) → M ρ} (w : Wk δ δx) (h : JO C W δ (oL α) te me) (k : ∀ ys, KV C W δx R (δ.set i (.ow (oLL α) ys)) t2 (m ys)) (hx : δ[i]? = some (.ow (oLL α) xss) := by rfl) :
    KV C W δx R δ (tSeq (tDrop (tBM C.K "list" rAppend (tVar i) (tCons te tNil))) t2) (me.bind fun x => M.need (xss.length < sizeLine) (M.to m (xss ++ [x]))) := by
  have z := s_appendO (S := Empty) w h k hx
  exact z
end
end Dc

namespace Dc
open PySem PySem.Spec PyProof.Rows L2 ToD
section
variable {C : Ctx} {W : WX} {δx : List Sl} {ρ : Type} {R : Rp ρ} {δ : List Sl} {S T : Type} {α β γ : Type} [Fz α] [Fz β] [Fz γ] {t t2 : TS} {te ti tk : TE} {i : Nat} {F H : Hp} {σ : L2.St} {l : Addr}
/-- return x, whatever of one's own it is -/
theorem s_retR {δ' : S → List Sl} {a : ρ} (hx : δ[i]? = some (.ow R a) := by rfl) : JS C W δx R δ (tRet (tVar i)) δ' (M.pure (Fl.rt a)) := fun F H σ D ok q => by
  obtain ⟨A, k⟩ := ok
  obtain ⟨v, e', r', hc⟩ := k.at_ i _ hx
  have e : σ[i]? = some (some v) := by
    cases hs : σ[i]? with
    | none =>
      rw [hs] at e'
      cases e'
    | some o =>
      rw [hs] at e'
      rw [show o = some v from e']
  refine ⟨v, e, q _ F H (Same.refl _) ?_⟩
  refine ⟨fun j => if j = 0 then A i else [], ⟨k.go, k.pot, rfl, fun j s e => ?_, fun j n a ma mb => ?_, fun j a m => ?_, fun a o e => ⟨(k.prt a o e).1, (k.prt a o e).2.1, fun j m => ?_⟩⟩⟩
  · cases j with
    | zero =>
      cases e
      exact ⟨v, rfl, r', hc⟩
    | succ j => cases e
  · by_cases z : j = 0
    · by_cases y : n = 0
      · rw [z, y]
      · simp only [if_neg y] at mb
        cases mb
    · simp only [if_neg z] at ma
      cases ma
  · by_cases z : j = 0
    · simp only [if_pos z] at m
      rw [z]
      exact ⟨(k.off i a m).1, Nat.succ_pos _⟩
    · simp only [if_neg z] at m
      cases m
  · by_cases z : j = 0
    · simp only [if_pos z] at m
      exact (k.prt a o e).2.2 i m
    · simp only [if_neg z] at m
      cases m
theorem vv_retR {a : ρ} (hx : δ[i]? = some (.ow R a) := by rfl) : KV C W δx R δ (tRet (tVar i)) (M.pure a) := s_retR hx
theorem paired_at {K : PySem.W.Frag} {F H : Hp} : ∀ {as : List Addr} {xss : List (List α)} {n : Nat} {xs : List α}, Paired (fun a xs => ∃ vs, H a = some (.lst vs) ∧ Reps K F vs xs) as xss → xss[n]? = some xs → ∃ a vs, as[n]? = some a ∧ H a = some (.lst vs) ∧ Reps K F vs xs
  | _, _, _, _, .nil, e => nomatch e
  | _, _, 0, _, .cons (a := a) h t, e => by
    cases e
    obtain ⟨vs, h1, h2⟩ := h
    exact ⟨a, vs, rfl, h1, h2⟩
  | _, _, n + 1, _, .cons h t, e => by
    obtain ⟨a, vs, e1, e2, e3⟩ := paired_at (n := n) t e
    exact ⟨a, vs, e1, e2, e3⟩
theorem paired_set {K : PySem.W.Frag} {F H : Hp} {b : Addr} {ws : List V} {ys : List α} (rw' : Reps K F ws ys) : ∀ {as : List Addr} {xss : List (List α)} {n : Nat}, Paired (fun a xs => ∃ vs, H a = some (.lst vs) ∧ Reps K F vs xs) as xss → as[n]? = some b → as.Nodup → Paired (fun a xs => ∃ vs, (upd H b (.lst ws)) a = some (.lst vs) ∧ Reps K F vs xs) as (xss.set n ys)
  | _, _, _, .nil, e, _ => nomatch e
  | _, _, 0, .cons (a := a) h t, e, nd => by
    cases e
    exact .cons ⟨ws, upd_same, rw'⟩ (keepP t (List.nodup_cons.mp nd).1)
  | _, _, n + 1, .cons (a := a) h t, e, nd => by
    have nd' := List.nodup_cons.mp nd
    have ne : a ≠ b := fun z => nd'.1 (by rw [z]; exact List.mem_of_getElem? e)
    obtain ⟨vs, h1, h2⟩ := h
    exact .cons ⟨vs, by rw [upd_ne ne]; exact h1, h2⟩ (paired_set rw' t e nd'.2)
/-- found[k].append(c), both constants -/
theorem s_append2 {xss : List (List α)} {z : Int} {x : α} {v : V} {δ' : S → List Sl} {m : List (List α) → M (Fl S ρ)} (hv : ∀ K F, Fz.rep K F v x) (w : Wk δ δx) (k : ∀ ys, JS C W δx R (δ.set i (.ow (oLL α) ys)) t2 δ' (m ys)) (hx : δ[i]? = some (.ow (oLL α) xss) := by rfl) :
    JS C W δx R δ (tSeq (tDrop (tBM C.K "list" rAppend (tOp (rIxL C.K) (tVar i) (tC (.int z))) (tCons (tC v) tNil))) t2) δ' ((M.ofOpt (ixN xss.length z)).bind fun n => (M.ofOpt xss[n]?).bind fun xs => M.need (xs.length < sizeLine) (M.to m (xss.set n (xs ++ [x])))) := fun F H σ D ok q => by
  obtain ⟨A, ka⟩ := id ok
  obtain ⟨l, as, e, ea, nd, hl, r⟩ := ownLL_at ka hx
  refine ⟨.ref l, e, ?_⟩
  cases hn : ixN xss.length z with
  | none =>
    rw [hn] at q
    exact q.elim
  | some n =>
    rw [hn] at q
    have q : ((M.ofOpt xss[n]?).bind fun xs => M.need (xs.length < sizeLine) (M.to m (xss.set n (xs ++ [x])))).run (SQ C R δ' D F) (XQ C W δx F) := q
    cases hm : xss[n]? with
    | none =>
      rw [hm] at q
      exact q.elim
    | some xs =>
      rw [hm] at q
      obtain ⟨b, vs, eb, hb, rb⟩ := paired_at r hm
      refine ⟨l, _, z, .ref b, rfl, rfl, SqL.of hl, ?_, .inl ⟨rfl, vs, SqL.of hb⟩, b, vs, v, rfl, rfl, hb, by rw [rb.length]; exact q.1, ?_⟩
      · unfold atI
        rw [List.length_map, Paired.length r, hn]
        show (as.map V.ref)[n]? = _
        rw [List.getElem?_map, eb]
        rfl
      have mb : b ∈ as := List.mem_of_getElem? eb
      have nd2 := List.nodup_cons.mp nd
      have ok2 : Okk C F (upd H b (.lst (vs ++ [v]))) σ (δ.set i (.ow (oLL α) (xss.set n (xs ++ [x])))) := Okk.mutA ka hx (by rw [ea]; exact List.mem_cons_of_mem _ mb) (fun u hu r1 => by
        cases (show some (V.ref l) = some u from (by rw [e] at hu; exact hu))
        refine ⟨l, as, rfl, ea, nd, ?_, paired_set (pair_app rb (.cons (hv _ _) .nil)) r eb nd2.2⟩
        rw [upd_ne fun z => nd2.1 (by rw [z]; exact mb)]
        exact hl)
      exact k _ F _ σ D ok2 q.2
theorem bb_append2 {xss : List (List α)} {z : Int} {x : α} {v : V} {δ' : S → List Sl} {m : List (List α) → M S} (hv : ∀ K F, Fz.rep K F v x) (w : Wk δ δx) (k : ∀ ys, KB C W δx R (δ.set i (.ow (oLL α) ys)) t2 δ' (m ys)) (hx : δ[i]? = some (.ow (oLL α) xss) := by rfl) :
    KB C W δx R δ (tSeq (tDrop (tBM C.K "list" rAppend (tOp (rIxL C.K) (tVar i) (tC (.int z))) (tCons (tC v) tNil))) t2) δ' ((M.ofOpt (ixN xss.length z)).bind fun n => (M.ofOpt xss[n]?).bind fun xs => M.need (xs.length < sizeLine) (M.to m (xss.set n (xs ++ [x])))) := by
  have y := s_append2 (S := S) (z := z) hv w k hx
  exact y
theorem vv_append2 {xss : List (List α)} {z : Int} {x : α} {v : V} {m : List (List α) → M ρ} (hv : ∀ K F, Fz.rep K F v x) (w : Wk δ δx) (k : ∀ ys, KV C W δx R (δ.set i (.ow (oLL α) ys)) t2 (m ys)) (hx : δ[i]? = some (.ow (oLL α) xss) := by rfl) :
    KV C W δx R δ (tSeq (tDrop (tBM C.K "list" rAppend (tOp (rIxL C.K) (tVar i) (tC (.int z))) (tCons (tC v) tNil))) t2) ((M.ofOpt (ixN xss.length z)).bind fun n => (M.ofOpt xss[n]?).bind fun xs => M.need (xs.length < sizeLine) (M.to m (xss.set n (xs ++ [x])))) := by
  have y := s_append2 (S := Empty) (z := z) hv w k hx
  exact y
end
end Dc

namespace Dc
open PySem PySem.Spec PyProof.Rows L2 ToD
section
variable {C : Ctx} {W : WX} {δx : List Sl} {ρ : Type} {R : Rp ρ} {δ : List Sl} {S T : Type} {α β γ : Type} [Fz α] [Fz β] [Fz γ] {t t2 : TS} {te ti tk : TE} {i : Nat} {F H : Hp} {σ : L2.St} {l : Addr}
theorem fixLL_heap {K : PySem.W.Frag} : ∀ {as : List Addr} {xss : List (List α)}, Paired (fun a xs => ∃ vs, H a = some (.lst vs) ∧ Reps K F vs xs) as xss → Same F H → ∃ G, Same F G ∧ Same G H ∧ Reps K G (as.map V.ref) xss ∧ ∀ x, x ∉ as → G x = F x
  | _, _, .nil, s => ⟨F, Same.refl _, s, .nil, fun _ _ => rfl⟩
  | _, _, .cons (a := a) h t, s => by
    obtain ⟨G, a1, a2, r, d⟩ := fixLL_heap t s
    obtain ⟨vs, h1, h2⟩ := h
    obtain ⟨b1, b2⟩ := lend h1 a2
    exact ⟨_, a1.trans b1, b2, .cons ⟨a, vs, rfl, upd_same, Reps.mono (a1.trans b1) h2⟩ (Reps.mono b1 r), fun x n => by
      rw [upd_ne fun e => n (by rw [e]; exact List.mem_cons_self ..)]
      exact d x fun m => n (List.mem_cons_of_mem _ m)⟩
theorem Okk.fixLL {xss : List (List α)} (ok : Okk C F H σ δ) (h : δ[i]? = some (.ow (oLL α) xss)) : ∃ F', Same F F' ∧ Okk C F' H σ (δ.set i (.fz xss)) := by
  obtain ⟨A, k⟩ := id ok
  have hi : i < δ.length := (List.getElem?_eq_some_iff.mp h).1
  obtain ⟨v, hv, ⟨l, as, rfl, ea, nd, hl, r⟩, hc⟩ := k.at_ i _ h
  obtain ⟨G1, a1, a2, rr, d⟩ := fixLL_heap r ok.same
  obtain ⟨b1, b2⟩ := lend hl a2
  have sF : Same F (upd G1 l (.lst (as.map V.ref))) := a1.trans b1
  have off : ∀ x, x ∉ A i → (upd G1 l (.lst (as.map V.ref))) x = F x := fun x n => by
    rw [ea] at n
    rw [upd_ne fun e => n (by rw [e]; exact List.mem_cons_self ..)]
    exact d x fun m => n (List.mem_cons_of_mem _ m)
  refine ⟨_, sF, fun j => if j = i then [] else A j, ⟨⟨k.go.ff.trans sF, b2, k.go.hh, fun b e1 e2 => ?_, k.go.th⟩, fun p e => ?_, by rw [List.length_set, k.len], fun j s e => ?_, fun j n a ma mb => ?_, fun j a m => ?_, fun a o e => ?_⟩⟩
  · by_cases m : b ∈ A i
    · exact absurd (hc b m) e2
    · rw [off b m]
      exact k.go.oo b e1 e2
  · obtain ⟨t, f, m⟩ := k.pot p e
    exact ⟨t, by rw [off p fun z => m.2 (hc p z)]; exact f, m⟩
  · by_cases z : j = i
    · rw [z, List.getElem?_set_self hi] at e
      cases e
      show SlOk C _ H _ (.fz xss) (if j = i then [] else A j)
      rw [if_pos z, z]
      exact ⟨.ref l, hv, rfl, l, _, rfl, upd_same, Reps.mono b1 rr⟩
    · rw [List.getElem?_set_ne (fun w => z w.symm)] at e
      show SlOk C _ H _ s (if j = i then [] else A j)
      rw [if_neg z]
      exact (k.at_ j s e).stay sF fun _ _ => rfl
  · by_cases z : j = i
    · simp only [if_pos z] at ma
      cases ma
    · by_cases y : n = i
      · simp only [if_pos y] at mb
        cases mb
      · simp only [if_neg z] at ma
        simp only [if_neg y] at mb
        exact k.dis j n a ma mb
  · by_cases z : j = i
    · simp only [if_pos z] at m
      cases m
    · simp only [if_neg z] at m
      rw [List.length_set]
      have na : a ∉ A i := fun w => z (k.dis j i a m w)
      rw [off a na]
      exact k.off j a m
  · obtain ⟨h1, h2, h3⟩ := k.prt a o e
    refine ⟨h1, by rw [off a (h3 i)]; exact h2, fun j m => ?_⟩
    by_cases z : j = i
    · simp only [if_pos z] at m
      cases m
    · simp only [if_neg z] at m
      exact h3 j m
theorem JO.eLL {m : M (List (List α))} (h : JO C W δ (oLL α) te m) : JE C W δ te m := fun F H σ Q ok q => h F H σ _ ok (m.mono (fun a z v F' H' s ok' => by
  obtain ⟨F2, s2, ok2⟩ := ok'.fixLL (i := 0) rfl
  obtain ⟨A, k2⟩ := id ok2
  obtain ⟨v', e, _, r⟩ := k2.at_ 0 (.fz a) rfl
  cases (show some v = some v' from e)
  exact z v F2 H' (s.trans s2) r ok2.pop) (fun _ z => z) q)
theorem s_fixLL {xs : List (List α)} {δ' : S → List Sl} {m : M (Fl S ρ)} (i : Nat) (k : JS C W δx R (δ.set i (.fz xs)) t δ' m) (hx : δ[i]? = some (.ow (oLL α) xs) := by rfl) : JS C W δx R δ t δ' m := fun F H σ D ok q => by
  obtain ⟨F', s, ok'⟩ := ok.fixLL hx
  exact k F' H σ D ok' (M.mono _ (fun f z => SQ.mono s z) (fun e z => XQ.mono s z) q)
theorem bb_fixLL {xs : List (List α)} {δ' : S → List Sl} {m : M S} (i : Nat) (k : KB C W δx R (δ.set i (.fz xs)) t δ' m) (hx : δ[i]? = some (.ow (oLL α) xs) := by rfl) : KB C W δx R δ t δ' m := by
  have z := s_fixLL (S := S) i k hx
  exact z
theorem vv_fixLL {xs : List (List α)} {m : M ρ} (i : Nat) (k : KV C W δx R (δ.set i (.fz xs)) t m) (hx : δ[i]? = some (.ow (oLL α) xs) := by rfl) : KV C W δx R δ t m := by
  have z := s_fixLL (S := Empty) i k hx
  exact z
end
end Dc

namespace Dc
open PySem PySem.Spec PyProof.Rows L2 ToD
/-! ## more for plain laws -/
theorem rngI_mem {lo hi k : Int} : k ∈ rngI lo hi ↔ lo ≤ k ∧ k < hi := by
  unfold rngI
  rw [List.mem_map]
  constructor
  · rintro ⟨j, m, e⟩
    have := List.mem_range.mp m
    omega
  · rintro ⟨a, b⟩
    exact ⟨(k - lo).toNat, List.mem_range.mpr (by omega), by omega⟩
theorem atI_is {α : Type} {xs : List α} {k : Int} (h0 : 0 ≤ k) (h1 : k < xs.length) : ∃ x ∈ xs, atI xs k = some x ∧ xs[k.toNat]? = some x := by
  have hk : k.toNat < xs.length := by omega
  refine ⟨xs[k.toNat], List.getElem_mem hk, ?_, List.getElem?_eq_getElem hk⟩
  have := atI_nat (List.getElem?_eq_getElem hk)
  rw [show ((k.toNat : Nat) : Int) = k by omega] at this
  exact this
end Dc

namespace Dc
open PySem PySem.Spec PyProof.Rows L2 ToD
/-! ## any thing as a type of mirrors -/
instance : Fz U := Fz.mk' URep fun s h => h.go s
theorem repsU_of {K : PySem.W.Frag} {F : Hp} : ∀ {vs : List V} {us : List U}, URepA K F vs us → Reps K F vs us
  | _, _, .nil => .nil
  | _, _, .cons a b => .cons a (repsU_of b)
theorem repsU_to {K : PySem.W.Frag} {F : Hp} : ∀ {vs : List V} {us : List U}, Reps K F vs us → URepA K F vs us
  | _, _, .nil => .nil
  | _, _, .cons a b => .cons a (repsU_to b)
class UV (α : Type) [Fz α] where
  toU : α → U
  ofU : U → Option α
  up : ∀ {K F v} {a : α}, Fz.rep K F v a → URep K F v (toU a)
  down : ∀ {K F v u} {a : α}, URep K F v u → ofU u = some a → Fz.rep K F v a
  back : ∀ a : α, ofU (toU a) = some a
open UV
instance : UV U := ⟨id, some, fun h => h, fun h e => by cases e; exact h, fun _ => rfl⟩
instance : UV Int := ⟨.int, fun u => match u with | .int i => some i | _ => none, fun h => by cases h; exact .int _, fun h e => by
  cases h <;> first | (cases e; done) | (cases e; rfl), fun _ => rfl⟩
instance : UV Bool := ⟨.bl, fun u => match u with | .bl i => some i | _ => none, fun h => by cases h; exact .bl _, fun h e => by
  cases h <;> first | (cases e; done) | (cases e; rfl), fun _ => rfl⟩
instance : UV Str := ⟨.str, fun u => match u with | .str i => some i | _ => none, fun h => by cases h; exact .str _, fun h e => by
  cases h <;> first | (cases e; done) | (cases e; rfl), fun _ => rfl⟩
instance : UV Unit := ⟨fun _ => .non, fun u => match u with | .non => some () | _ => none, fun h => by cases h; exact .non, fun h e => by
  cases h <;> first | (cases e; done) | rfl, fun _ => rfl⟩
section
variable {α β γ ε : Type} [Fz α] [UV α] [Fz β] [UV β] [Fz γ] [UV γ] [Fz ε] [UV ε]
def ofAll : List U → Option (List α)
  | [] => some []
  | u :: us => (ofU u : Option α).bind fun a => (ofAll us).map fun r => a :: r
theorem upA {K : PySem.W.Frag} {F : Hp} : ∀ {vs : List V} {xs : List α}, Reps K F vs xs → URepA K F vs (xs.map toU)
  | _, _, .nil => .nil
  | _, _, .cons a b => .cons (up a) (upA b)
theorem downA {K : PySem.W.Frag} {F : Hp} : ∀ {vs : List V} {us : List U} {xs : List α}, URepA K F vs us → ofAll us = some xs → Reps K F vs xs
  | _, _, _, .nil, e => by cases e; exact .nil
  | _, _, _, .cons a b, e => by
    obtain ⟨x, e1, e2⟩ := bind_some e
    obtain ⟨r, e3, rfl⟩ := map_some e2
    exact .cons (down a e1) (downA b e3)
theorem ofAll_map : ∀ xs : List α, ofAll (xs.map toU) = some xs
  | [] => rfl
  | x :: xs => by
    show (ofU (toU x) : Option α).bind _ = _
    rw [back, Option.bind_some, ofAll_map xs]
    rfl
instance : UV (List α) := ⟨fun xs => .lst (xs.map toU), fun u => match u with | .lst us => ofAll us | _ => none, fun h => by
  obtain ⟨l, vs, rfl, e, r⟩ := h
  exact .lst e (upA r), fun h e => by
  cases h <;> first | (cases e; done) | skip
  rename_i l vs us hl ha
  exact ⟨l, vs, rfl, hl, downA ha e⟩, ofAll_map⟩
instance : UV (Tof α) := ⟨fun xs => .tup (xs.l.map toU), fun u => match u with | .tup us => (ofAll us).map Tof.mk | _ => none, fun h => by
  obtain ⟨l, vs, rfl, e, r⟩ := h
  exact .tup e (upA r), fun h e => by
  cases h <;> first | (cases e; done) | skip
  rename_i l vs us hl ha
  obtain ⟨r, e1, rfl⟩ := map_some e
  exact ⟨l, vs, rfl, hl, downA ha e1⟩, fun a => by show (ofAll _).map _ = _; rw [ofAll_map]; rfl⟩
instance : UV (T1 α) := ⟨fun x => .tup [toU x.a], fun u => match u with | .tup [a] => (ofU a).map T1.mk | _ => none, fun h => by
  obtain ⟨l, v1, rfl, e, r1⟩ := h
  exact .tup e (.cons (up r1) .nil), fun {K F v u a} h e => by
  cases h with
  | tup hl ha =>
    cases ha with
    | nil => cases e
    | cons h1 ha =>
      cases ha with
      | cons _ _ => cases e
      | nil =>
        obtain ⟨r, e1, rfl⟩ := map_some e
        exact ⟨_, _, rfl, hl, down h1 e1⟩
  | _ => (cases e), fun a => by show (ofU (toU a.a)).map _ = _; rw [back]; rfl⟩
instance : UV (α × β) := ⟨fun x => .tup [toU x.1, toU x.2], fun u => match u with | .tup [a, b] => (ofU a).bind fun x => (ofU b).map fun y => (x, y) | _ => none, fun h => by
  obtain ⟨l, v1, v2, rfl, e, r1, r2⟩ := h
  exact .tup e (.cons (up r1) (.cons (up r2) .nil)), fun {K F v u a} h e => by
  cases h with
  | tup hl ha =>
    cases ha with
    | nil => cases e
    | cons h1 ha =>
      cases ha with
      | nil => cases e
      | cons h2 ha =>
        cases ha with
        | cons _ _ => cases e
        | nil =>
          obtain ⟨r, e1, e2⟩ := bind_some e
          obtain ⟨q, e3, rfl⟩ := map_some e2
          exact ⟨_, _, _, rfl, hl, down h1 e1, down h2 e3⟩
  | _ => (cases e), fun a => by show (ofU (toU a.1)).bind _ = _; rw [back, Option.bind_some, back]; rfl⟩
instance : UV (T3 α β γ) := ⟨fun x => .tup [toU x.a, toU x.b, toU x.c], fun u => match u with | .tup [a, b, c] => (ofU a).bind fun x => (ofU b).bind fun y => (ofU c).map fun z => T3.mk x y z | _ => none, fun h => by
  obtain ⟨l, v1, v2, v3, rfl, e, r1, r2, r3⟩ := h
  exact .tup e (.cons (up r1) (.cons (up r2) (.cons (up r3) .nil))), fun {K F v u a} h e => by
  cases h with
  | tup hl ha =>
    cases ha with
    | nil => cases e
    | cons h1 ha =>
      cases ha with
      | nil => cases e
      | cons h2 ha =>
        cases ha with
        | nil => cases e
        | cons h3 ha =>
          cases ha with
          | cons _ _ => cases e
          | nil =>
            obtain ⟨r, e1, e2⟩ := bind_some e
            obtain ⟨p, e3, e4⟩ := bind_some e2
            obtain ⟨q, e5, rfl⟩ := map_some e4
            exact ⟨_, _, _, _, rfl, hl, down h1 e1, down h2 e3, down h3 e5⟩
  | _ => (cases e), fun a => by show (ofU (toU a.a)).bind _ = _; rw [back, Option.bind_some, back, Option.bind_some, back]; rfl⟩
instance : UV Door := ⟨fun d => .tup [.str d.near, .str d.far, .int d.lo, .int d.hi], fun u => match u with | .tup [.str a, .str b, .int c, .int d] => some (Door.mk a b c d) | _ => none, fun h => by
  obtain ⟨l, rfl, e⟩ := h
  exact .tup e (.cons (.str _) (.cons (.str _) (.cons (.int _) (.cons (.int _) .nil)))), fun {K F v u a} h e => by
  cases h with
  | tup hl ha =>
    cases ha with
    | nil => cases e
    | cons h1 ha =>
      cases h1 <;> first | (cases e; done) | skip
      cases ha with
      | nil => cases e
      | cons h2 ha =>
        cases h2 <;> first | (cases e; done) | skip
        cases ha with
        | nil => cases e
        | cons h3 ha =>
          cases h3 <;> first | (cases e; done) | skip
          cases ha with
          | nil => cases e
          | cons h4 ha =>
            cases h4 <;> first | (cases e; done) | skip
            cases ha with
            | cons _ _ => cases e
            | nil =>
              cases e
              exact ⟨_, rfl, hl⟩
  | _ => (cases e), fun _ => rfl⟩
/-- it is not None -/
class UN (α : Type) [Fz α] [UV α] : Prop where
  nn : ∀ a : α, toU a ≠ .non
instance : UN Int := ⟨fun _ z => nomatch z⟩
instance : UN Bool := ⟨fun _ z => nomatch z⟩
instance : UN Str := ⟨fun _ z => nomatch z⟩
instance : UN Door := ⟨fun _ z => nomatch z⟩
instance : UN (List α) := ⟨fun _ z => nomatch z⟩
instance : UN (Tof α) := ⟨fun _ z => nomatch z⟩
instance : UN (α × β) := ⟨fun _ z => nomatch z⟩
def optU (u : U) : Option (Option α) := match u with
  | .non => some none
  | u => (ofU u).map some
instance [UN α] : UV (Option α) := ⟨fun x => match x with | none => .non | some a => toU a, optU, fun {K F v x} h => by
  cases x with
  | none => cases (show v = .non from h); exact .non
  | some a => exact up (a := a) h, fun {K F v u x} h e => by
  cases h with
  | non => cases e; rfl
  | _ =>
    obtain ⟨r, e1, rfl⟩ := map_some e
    refine down (a := r) ?_ e1
    constructor <;> assumption, fun x => by
  cases x with
  | none => rfl
  | some a =>
    have := UN.nn a
    show optU (toU a) = _
    unfold optU
    split
    · rename_i z; exact absurd z this
    · rw [back]; rfl⟩
end
section
variable {C : Ctx} {W : WX} {δ : List Sl} {α : Type} [Fz α] [UV α] {te : TE}
theorem e_toU {m : M α} (h : JE C W δ te m) : JE C W δ te (m.bind fun a => M.pure (toU a)) := fun F H σ Q ok q => h F H σ _ ok (m.mono (fun a q1 v F' H' s rp ok' => q1 v F' H' s (up rp) ok') (fun _ z => z) q)
theorem e_ofU {m : M U} (h : JE C W δ te m) : JE C W δ te (m.bind fun u => M.ofOpt (ofU u : Option α)) := fun F H σ Q ok q => h F H σ _ ok (m.mono (fun u q1 v F' H' s rp ok' => by
  dsimp only at q1
  cases e : (ofU u : Option α) with
  | none => rw [e] at q1; exact q1.elim
  | some a => rw [e] at q1; exact q1 v F' H' s (down rp e) ok') (fun _ z => z) q)
end
/-! ### as data -/
mutual
def U.data : U → Option PyData
  | .non => some .none
  | .bl b => some (.bool b)
  | .int i => some (.int i)
  | .str x => some (.str x)
  | .lst us => (U.dataA us).map .list
  | .tup us => (U.dataA us).map .tuple
  | .dK _ => none
  | .ob _ _ => none
def U.dataA : List U → Option (List PyData)
  | [] => some []
  | u :: us => (U.data u).bind fun d => (U.dataA us).map fun ds => d :: ds
end
section
variable {K : PySem.W.Frag} {F : Hp}
mutual
theorem URep.dp : ∀ {v : V} {u : U} {d : PyData}, URep K F v u → u.data = some d → Dp K F v d
  | _, _, _, .non, e => by cases e; exact .non
  | _, _, _, .bl _, e => by cases e; exact .bl _
  | _, _, _, .int _, e => by cases e; exact .int _
  | _, _, _, .str _, e => by cases e; exact .str _
  | _, _, _, .lst h a, e => by
    rw [U.data] at e
    obtain ⟨r, e1, rfl⟩ := map_some e
    exact .lst (SqL.of h) (URepA.dp a e1)
  | _, _, _, .tup h a, e => by
    rw [U.data] at e
    obtain ⟨r, e1, rfl⟩ := map_some e
    exact .tup (SqT.of h) (URepA.dp a e1)
  | _, _, _, .dK _ _, e => by rw [U.data] at e; cases e
  | _, _, _, .ob _ _, e => by rw [U.data] at e; cases e
theorem URepA.dp : ∀ {vs : List V} {us : List U} {ds : List PyData}, URepA K F vs us → U.dataA us = some ds → DpAll K F vs ds
  | _, _, _, .nil, e => by rw [U.dataA] at e; cases e; exact .nil
  | _, _, _, .cons a b, e => by
    rw [U.dataA] at e
    obtain ⟨x, e1, e2⟩ := bind_some e
    obtain ⟨r, e3, rfl⟩ := map_some e2
    exact .cons (URep.dp a e1) (URepA.dp b e3)
end
mutual
theorem U.noDict : ∀ {u : U} {d : PyData}, u.data = some d → d.hasDict = false
  | .non, _, e => by cases e; rfl
  | .bl _, _, e => by cases e; rfl
  | .int _, _, e => by cases e; rfl
  | .str _, _, e => by cases e; rfl
  | .lst us, _, e => by
    rw [U.data] at e
    obtain ⟨r, e1, rfl⟩ := map_some e
    rw [PyData.hasDict]
    exact U.noDictA e1
  | .tup us, _, e => by
    rw [U.data] at e
    obtain ⟨r, e1, rfl⟩ := map_some e
    rw [PyData.hasDict]
    exact U.noDictA e1
  | .dK _, _, e => by rw [U.data] at e; cases e
  | .ob _ _, _, e => by rw [U.data] at e; cases e
theorem U.noDictA : ∀ {us : List U} {ds : List PyData}, U.dataA us = some ds → PyData.hasDictAll ds = false
  | [], _, e => by rw [U.dataA] at e; cases e; rfl
  | u :: us, _, e => by
    rw [U.dataA] at e
    obtain ⟨x, e1, e2⟩ := bind_some e
    obtain ⟨r, e3, rfl⟩ := map_some e2
    rw [PyData.hasDictAll, U.noDict e1, U.noDictA e3]
    rfl
end
theorem URep.dpE {v : V} {u : U} {d : PyData} (h : URep K F v u) (e : u.dataE = some d) : DpE K F v d := .deep h e
mutual
theorem U.dataE_of : ∀ {u : U} {d : PyData}, u.data = some d → u.dataE = some d
  | .non, _, e => by cases e; rfl
  | .bl _, _, e => by cases e; rfl
  | .int _, _, e => by cases e; rfl
  | .str _, _, e => by cases e; rfl
  | .lst us, _, e => by
    rw [U.data] at e
    obtain ⟨r, e1, rfl⟩ := map_some e
    rw [U.dataE, U.dataEA_of e1]
    rfl
  | .tup us, _, e => by
    rw [U.data] at e
    obtain ⟨r, e1, rfl⟩ := map_some e
    rw [U.dataE, U.dataEA_of e1]
    rfl
  | .dK _, _, e => by rw [U.data] at e; cases e
  | .ob _ _, _, e => by rw [U.data] at e; cases e
theorem U.dataEA_of : ∀ {us : List U} {ds : List PyData}, U.dataA us = some ds → U.dataEA us = some ds
  | [], _, e => by rw [U.dataA] at e; cases e; rfl
  | u :: us, _, e => by
    rw [U.dataA] at e
    obtain ⟨x, e1, e2⟩ := bind_some e
    obtain ⟨r, e3, rfl⟩ := map_some e2
    rw [U.dataEA, U.dataE_of e1, Option.bind_some, U.dataEA_of e3]
    rfl
end
def eqU (a b : U) : M Bool := (M.ofOpt a.data).bind fun d => (M.ofOpt b.data).bind fun e => M.need (SeqAt.shaped d = true ∧ SeqAt.shaped e = true) (M.pure (PyData.eqv d e))
def neU (a b : U) : M Bool := (M.ofOpt a.data).bind fun d => (M.ofOpt b.data).bind fun e => M.need (SeqAt.shaped d = true ∧ SeqAt.shaped e = true) (M.pure (!PyData.eqv d e))
def reprU (a : U) : M Str := (M.ofOpt a.dataE).bind fun d => M.need (Fit d) (M.pure d.shown)
theorem opt_run {α : Type} {o : Option α} {Q : α → Prop} {E : Exn → Prop} (h : (M.ofOpt o).run Q E) : ∃ a, o = some a ∧ Q a := by
  cases o with
  | none => exact h.elim
  | some a => exact ⟨a, rfl, h⟩
theorem o_eqU : Op2 K (rEqD K) eqU := fun F H v w a b Q E s ra rb q => by
  obtain ⟨d, e1, q⟩ := opt_run q
  obtain ⟨e, e2, q⟩ := opt_run q
  exact ⟨d, e, dpm s (URep.dp ra e1), dpm s (URep.dp rb e2), q.1.1, q.1.2, q.2 _ F H (Go.refl s) rfl⟩
theorem o_neU : Op2 K (rNeD K) neU := fun F H v w a b Q E s ra rb q => by
  obtain ⟨d, e1, q⟩ := opt_run q
  obtain ⟨e, e2, q⟩ := opt_run q
  exact ⟨d, e, dpm s (URep.dp ra e1), dpm s (URep.dp rb e2), q.1.1, q.1.2, q.2 _ F H (Go.refl s) rfl⟩
theorem o_reprU : Cb1 K (rReprE K) reprU := fun F H v a Q E s ra q => by
  obtain ⟨d, e1, q⟩ := opt_run q
  exact ⟨v, d, rfl, (URep.go s ra).dpE e1, q.1, q.2 _ F H (Go.refl s) rfl⟩
def U.is (u : U) (T : String) : Option Bool := match u with
  | .non => some false
  | .bl _ => some (T == "bool" || T == "int")
  | .int _ => some (T == "int")
  | .str _ => some (T == "str")
  | .lst _ => some (T == "list")
  | .tup _ => some (T == "tuple")
  | .dK _ => some (T == "dict")
  | .ob _ _ => none
theorem kit_is {T : String} (hT : T = "int" ∨ T = "bool" ∨ T = "str" ∨ T = "list" ∨ T = "tuple" ∨ T = "dict") {H : Hp} {v : V} {u : U} {b : Bool} (h : URep K H v u) (e : u.is T = some b) : ∃ t, TyX K H v t ∧ PySem.W.kitOne K t (.type T) = some b := by
  cases h with
  | non => cases e; exact ⟨_, .base .non, by rcases hT with rfl | rfl | rfl | rfl | rfl | rfl <;> exact kit_ty (by decide +kernel)⟩
  | bl x => cases e; exact ⟨_, .base (.bl _), by rcases hT with rfl | rfl | rfl | rfl | rfl | rfl <;> exact kit_ty (by decide +kernel)⟩
  | int x => cases e; exact ⟨_, .base (.int _), by rcases hT with rfl | rfl | rfl | rfl | rfl | rfl <;> exact kit_ty (by decide +kernel)⟩
  | str x => cases e; exact ⟨_, .base (.str _), by rcases hT with rfl | rfl | rfl | rfl | rfl | rfl <;> exact kit_ty (by decide +kernel)⟩
  | lst hl ha => cases e; exact ⟨_, .base (.lst hl), by rcases hT with rfl | rfl | rfl | rfl | rfl | rfl <;> exact kit_ty (by decide +kernel)⟩
  | tup hl ha => cases e; exact ⟨_, .base (.tup hl), by rcases hT with rfl | rfl | rfl | rfl | rfl | rfl <;> exact kit_ty (by decide +kernel)⟩
  | dK hl ha => cases e; exact ⟨_, .base (.dK hl), by rcases hT with rfl | rfl | rfl | rfl | rfl | rfl <;> exact kit_ty (by decide +kernel)⟩
  | ob hl ha => cases e
end
section
variable {C : Ctx} {W : WX} {δ : List Sl} {te : TE}
theorem e_isU {T : String} {m : M U} (hT : T = "int" ∨ T = "bool" ∨ T = "str" ∨ T = "list" ∨ T = "tuple" ∨ T = "dict") (h : JE C W δ te m) : JE C W δ (tCB (rIsi C.K) (tCons te (tCons (tC (.ty T)) tNil))) (m.bind fun u => M.ofOpt (u.is T)) := fun F H σ Q ok q => h F H σ _ ok (m.mono (fun u q1 v F1 H1 s1 rp ok1 => by
  obtain ⟨b, e, q1⟩ := opt_run q1
  obtain ⟨t, h1, h2⟩ := kit_is hT (URep.go ok1.same rp) e
  exact ⟨v, .ty T, t, .type T, b, rfl, .ty T, h1, h2, q1 _ F1 H1 s1 rfl ok1⟩) (fun _ z => z) q)
def U.isNon : U → Bool
  | .non => true
  | _ => false
theorem isNon_rep {K : PySem.W.Frag} {F : Hp} {v : V} {u : U} (h : URep K F v u) : decide (v = .non) = u.isNon := by
  cases h <;> first | rfl | exact decide_eq_false fun z => nomatch z
theorem o_isNU {K : PySem.W.Frag} : Op2 K rIsN fun (a : U) (_ : Unit) => M.pure a.isNon := fun F H v w a b Q E s ra rb q => ⟨rb, q _ F H (Go.refl s) (by show V.bl _ = V.bl _; rw [isNon_rep ra])⟩
theorem o_notNU {K : PySem.W.Frag} : Op2 K rNotN fun (a : U) (_ : Unit) => M.pure (!a.isNon) := fun F H v w a b Q E s ra rb q => ⟨rb, q _ F H (Go.refl s) (by show V.bl _ = V.bl _; rw [isNon_rep ra])⟩
end
/-! ### typed data -/
class UD (α : Type) [Fz α] [UV α] [ToD α] : Prop where
  eq : ∀ a : α, (toU a).data = some (toD a)
instance : UD Int := ⟨fun _ => rfl⟩
instance : UD Bool := ⟨fun _ => rfl⟩
instance : UD Str := ⟨fun _ => rfl⟩
instance : UD Unit := ⟨fun _ => rfl⟩
instance : UD Door := ⟨fun _ => rfl⟩
section
variable {α β : Type} [Fz α] [UV α] [ToD α] [UD α] [Fz β] [UV β] [ToD β] [UD β]
theorem dataA_map : ∀ xs : List α, U.dataA (xs.map toU) = some (xs.map toD)
  | [] => rfl
  | x :: xs => by rw [List.map_cons, U.dataA, UD.eq, Option.bind_some, dataA_map xs]; rfl
instance : UD (List α) := ⟨fun xs => by show (U.lst _).data = _; rw [U.data, dataA_map]; rfl⟩
instance : UD (Tof α) := ⟨fun xs => by show (U.tup _).data = _; rw [U.data, dataA_map]; rfl⟩
instance : UD (α × β) := ⟨fun x => by show (U.tup [toU x.1, toU x.2]).data = _; rw [U.data, U.dataA, U.dataA, U.dataA, UD.eq, UD.eq]; rfl⟩
theorem eqU_to (a : α) (b : β) : eqU (toU a) (toU b) = eqM a b := by
  unfold eqU
  rw [UD.eq, UD.eq]
  rfl
theorem neU_to (a : α) (b : β) : neU (toU a) (toU b) = neM a b := by
  unfold neU
  rw [UD.eq, UD.eq]
  rfl
end
end Dc

namespace Dc
open PySem PySem.Spec PyProof.Rows L2 ToD
/-! ## exceptions in mirrors -/
theorem ExR.go {K : PySem.W.Frag} {F F' : Hp} {cls : Value} {d : Option Addr} {e : Exn} (s : Same F F') (h : ExR K F cls d e) : ExR K F' cls d e :=
  ⟨h.1, h.2.imp id fun ⟨dd, vs, a, b, c⟩ => ⟨dd, vs, a, s _ _ b, c.go s⟩⟩
/-- one that was caught -/
structure CgE (a : Addr) (cls : Value) (d : Option Addr) where
  e : Exn
instance {a : Addr} {cls : Value} {d : Option Addr} : Fz (CgE a cls d) := Fz.mk' (fun K F v x => v = .ref a ∧ ExR K F cls d x.e) fun s ⟨h, x⟩ => ⟨h, x.go s⟩
/-- C0(..): its arguments are its fields -/
def SpX (C0 : Str) (newId : String) (bm : List Value) (fs : List Str) (okU : List U → Prop) (K : PySem.W.Frag) : Sp := fun vs H Q _ => ∃ (F : Hp) (a : Addr) (xs : List V) (us : List U), vs = .ref a :: xs ∧ Oxc K (He.ga K C0) newId bm ∧
  (∀ f ∈ fs, PySem.W.findIn K (.ref (He.ga K C0)) f = some none) ∧ H a = some (exo a (He.ga K C0) none) ∧ Same F H ∧ URepA K F xs us ∧ xs.length = fs.length ∧ okU us ∧
  ∀ dx, H dx = none → dx ≠ a → Q .non (upd (upd H dx (exd dx (fs.zip xs))) a (exo a (He.ga K C0) (some dx)))
theorem repF_zip {K : PySem.W.Frag} {F : Hp} : ∀ {fs : List Str} {vs : List V} {us : List U}, URepA K F vs us → URepF K F (fs.zip vs) (fs.zip us)
  | [], _, _, _ => by simp; exact .nil
  | f :: fs, _, _, .nil => by simp; exact .nil
  | f :: fs, _, _, .cons a b => .cons a (repF_zip b)
section
variable {C : Ctx} {W Wout : WX} {δx δ δt : List Sl} {ρ : Type} {R : Rp ρ} {S T : Type} {t t1 t2 t3 : TS} {te : TE} {tr : TA} {C0 : Str} {newId : String} {bm : List Value} {fs : List Str} {okU : List U → Prop} {n i : Nat}
theorem s_raiseX {δ' : S → List Sl} {mr : M (List U)} (w : Wk δ δx) (hx : Oxc C.K (He.ga C.K C0) newId bm) (hf : ∀ f ∈ fs, PySem.W.findIn C.K (.ref (He.ga C.K C0)) f = some none) (h : JA C W δ tr mr n) (hn : n = fs.length := by rfl) (h1 : n ≤ 1000 := by decide) :
    JS C W δx R δ (tRaiseX (tMkX (He.ga C.K C0) (SpX C0 newId bm fs okU C.K) tr) W) δ' (mr.bind fun us => M.need (okU us) (M.thr ⟨C0, fs.zip us⟩)) := fun F H σ D ok q =>
  h F H σ _ ok (mr.mono (fun us q1 vs F1 H1 s1 rp l1 ok1 => by
    refine ⟨by omega, fun a ha => ⟨F1, a, vs, us, rfl, hx, hf, upd_same, ok1.same.trans (Same.new ha), repsU_to rp, by rw [l1, hn], q1.1, fun dx hdx ne => ⟨rfl, dx, fs.zip vs, upd_same, (upd_ne ne).trans upd_same, ?_, ?_⟩⟩⟩
    · rw [upd_ne ne] at hdx
      exact hdx
    · rw [upd_ne ne] at hdx
      have fdx := Same.free ok1.same hdx
      have e : upd (del (upd (upd (upd H1 a (exo a (He.ga C.K C0) none)) dx (exd dx (fs.zip vs))) a (exo a (He.ga C.K C0) (some dx))) a) dx (.xd (fs.zip vs)) = upd H1 dx (.xd (fs.zip vs)) := by
        funext b
        by_cases h1 : b = dx
        · rw [h1, upd_same, upd_same]
        · rw [upd_ne h1, upd_ne h1]
          by_cases h2 : b = a
          · rw [h2, del_same, ha]
          · rw [del_ne h2, upd_ne h2, upd_ne h1, upd_ne h2]
      rw [e]
      exact q1.2 _ _ σ _ _ (s1.trans (Same.new fdx)) ⟨rfl, .inr ⟨dx, _, rfl, upd_same, (repF_zip (repsU_to rp)).go (Same.new fdx)⟩⟩ ((ok1.newF hdx).wk w)) (fun e z => XQ.ew w z) q)
theorem vv_raiseX {mr : M (List U)} (w : Wk δ δx) (hx : Oxc C.K (He.ga C.K C0) newId bm) (hf : ∀ f ∈ fs, PySem.W.findIn C.K (.ref (He.ga C.K C0)) f = some none) (h : JA C W δ tr mr n) (hn : n = fs.length := by rfl) (h1 : n ≤ 1000 := by decide) :
    KV C W δx R δ (tRaiseX (tMkX (He.ga C.K C0) (SpX C0 newId bm fs okU C.K) tr) W) (mr.bind fun us => M.need (okU us) (M.thr ⟨C0, fs.zip us⟩)) := s_raiseX (S := Empty) w hx hf h hn h1
theorem bb_raiseX {δ' : S → List Sl} {mr : M (List U)} (w : Wk δ δx) (hx : Oxc C.K (He.ga C.K C0) newId bm) (hf : ∀ f ∈ fs, PySem.W.findIn C.K (.ref (He.ga C.K C0)) f = some none) (h : JA C W δ tr mr n) (hn : n = fs.length := by rfl) (h1 : n ≤ 1000 := by decide) :
    KB C W δx R δ (tRaiseX (tMkX (He.ga C.K C0) (SpX C0 newId bm fs okU C.K) tr) W) δ' (mr.bind fun us => M.need (okU us) (M.thr ⟨C0, fs.zip us⟩)) := s_raiseX (S := S) w hx hf h hn h1
theorem s_raise0 {δ' : S → List Sl} (w : Wk δ δx) : JS C W δx R δ (tRaiseX (tMk0 (He.ga C.K C0)) W) δ' (M.thr ⟨C0, []⟩) := fun F H σ D ok q => q _ none σ F H (Same.refl _) ⟨rfl, .inl ⟨rfl, rfl⟩⟩ (ok.wk w)
theorem vv_raise0 (w : Wk δ δx) : KV C W δx R δ (tRaiseX (tMk0 (He.ga C.K C0)) W) (M.thr ⟨C0, []⟩) := s_raise0 (S := Empty) w
theorem bb_raise0 {δ' : S → List Sl} (w : Wk δ δx) : KB C W δx R δ (tRaiseX (tMk0 (He.ga C.K C0)) W) δ' (M.thr ⟨C0, []⟩) := s_raise0 (S := S) w
/-! ### one block behind another -/
theorem s_seq {δm : T → List Sl} {δ' : S → List Sl} {m1 : M (Fl T ρ)} {m : T → M (Fl S ρ)} (h : JS C W δx R δ t1 δm m1) (j : ∀ s, JS C W δx R (δm s) t3 δ' (m s)) : JS C W δx R δ (tSeq t1 t3) δ' (m1.next m) := fun F H σ D ok q =>
  h F H σ _ ok (m1.mono (fun f z => by
    cases f with
    | nx s => exact fun σ' F2 H2 s2 ok2 => j s F2 H2 σ' D ok2 ((m s).mono (fun f z => SQ.mono s2 z) (fun e z => XQ.mono s2 z) z)
    | rt r => exact z) (fun _ z => z) q)
theorem vv_seq {δm : T → List Sl} {m1 : M (Fl T ρ)} {m : T → M ρ} (h : JS C W δx R δ t1 δm m1) (j : ∀ s, KV C W δx R (δm s) t3 (m s)) : KV C W δx R δ (tSeq t1 t3) (m1.done m) := fun F H σ D ok q =>
  s_seq (S := Empty) h j F H σ D ok (m1.mono (fun f z => by
    cases f with
    | nx s => exact z
    | rt r => exact z) (fun _ z => z) q)
theorem vv_only {δm : Empty → List Sl} {m1 : M (Fl Empty ρ)} (h : JS C W δx R δ t1 δm m1) : KV C W δx R δ t1 (m1.done fun s => nomatch s) := fun F H σ D ok q =>
  h F H σ D ok (m1.mono (fun f z => by
    cases f with
    | nx s => exact nomatch s
    | rt r => exact z) (fun _ z => z) q)
theorem bb_seq {δm : T → List Sl} {δ' : S → List Sl} {m1 : M T} {m : T → M S} (h : KB C W δx R δ t1 δm m1) (j : ∀ s, KB C W δx R (δm s) t3 δ' (m s)) : KB C W δx R δ (tSeq t1 t3) δ' (m1.bind m) := fun F H σ D ok q =>
  s_seq (S := S) h j F H σ D ok q
/-! ### try -/
theorem Okk.unset {F H : Hp} {σ : L2.St} {o : Option V} (ok : Okk C F H σ δ) (h : δ[i]? = some .no) : Okk C F H (σ.set i o) δ := by
  obtain ⟨A, k⟩ := ok
  refine ⟨A, ⟨k.go, k.pot, by rw [List.length_set, k.len], fun j s e => ?_, k.dis, k.off, k.prt⟩⟩
  have hi : i < σ.length := by rw [k.len]; exact (List.getElem?_eq_some_iff.mp h).1
  by_cases z : j = i
  · rw [z] at e ⊢
    rw [h] at e
    cases e
    exact k.at_ i .no h
  · rw [join_set hi, if_neg z]
    exact k.at_ j s e
/-- the clauses -/
def ClJ (C : Ctx) (W Wout : WX) (δx δt : List Sl) {ρ : Type} (R : Rp ρ) {S : Type} (δ' : S → List Sl) (l : List Cl) (h : Exn → Option (M (Fl S ρ))) : Prop :=
  ∀ F D e cls d σ' H', ExR C.K F cls d e → Okk C F H' σ' δt → (match h e with | some k => k.run (SQ C R δ' D F) (XQ C W δx F) | none => XQ C W δx F e) → wCl C.K Wout D l cls d σ' H'
def clN {α : Type} : Exn → Option (M α) := fun _ => none
def clB {α : Type} : Exn → Option (M α) := fun _ => some M.bad
def clU {α : Type} (cs : List Str) (c : Str) (k : Exn → M α) (h : Exn → Option (M α)) : Exn → Option (M α) := fun e => if e.cls ∈ cs then (if isSub e.cls c then some (k e) else h e) else some M.bad
/-- what is known of raised classes and of clauses' classes -/
def ExmOk (K : PySem.W.Frag) (cs hs : List Str) : Prop := ∀ c ∈ cs, ∀ h ∈ hs, PySem.W.exmOne K (.ref (He.ga K c)) (.ref (He.ga K h)) = some (isSub c h)
theorem exmB_ok {K : PySem.W.Frag} {cs hs : List Str} (h : exmB cs hs K = true) : ExmOk K cs hs := fun c mc x mx => of_decide_eq_true (List.all_eq_true.mp (List.all_eq_true.mp h c mc) x mx)
theorem cl_nil {δ' : S → List Sl} (w : Wk δt δx) : ClJ C W W δx δt R δ' [] (clN : Exn → Option (M (Fl S ρ))) := fun F D e cls d σ' H' x ok q => q cls d σ' F H' (Same.refl _) x (ok.wk w)
theorem cl_bad {δ' : S → List Sl} : ClJ C W Wout δx δt R δ' [] (clB : Exn → Option (M (Fl S ρ))) := fun F D e cls d σ' H' x ok q => q.elim
theorem cl_bare {δ' : S → List Sl} {cs hs : List Str} {c : Str} {ts : Addr → Value → Option Addr → TS} {l : List Cl} {k : Exn → M (Fl S ρ)} {h : Exn → Option (M (Fl S ρ))} (ht : ExmOk C.K cs hs) (hc : c ∈ hs) (hs' : ∀ a cls d e, JS C W δx R δt (ts a cls d) δ' (k e))
    (hr : ClJ C W Wout δx δt R δ' l h) : ClJ C W Wout δx δt R δ' ((.ref (He.ga C.K c), none, ts) :: l) (clU cs c k h) := fun F D e cls d σ' H' x ok q => by
  unfold clU at q
  by_cases m : e.cls ∈ cs
  · rw [if_pos m] at q
    refine ⟨isSub e.cls c, by rw [x.1]; exact ht _ m _ hc, fun b a ha => ?_, fun b => ?_⟩
    · rw [b] at q
      exact hs' a cls d e F H' σ' D ok q
    · rw [b] at q
      exact hr F D e cls d σ' H' x ok q
  · rw [if_neg m] at q
    exact q.elim
theorem cl_named {δ' : S → List Sl} {cs hs : List Str} {c : Str} {ts : Addr → Value → Option Addr → TS} {l : List Cl} {k : Exn → M (Fl S ρ)} {h : Exn → Option (M (Fl S ρ))} (ht : ExmOk C.K cs hs) (hc : c ∈ hs) (hs' : ∀ a cls d e, JS C W δx R (δt.set i (.fz (CgE.mk e : CgE a cls d))) (ts a cls d) δ' (k e))
    (hr : ClJ C W Wout δx δt R δ' l h) (hi : i < δt.length := by exact Nat.le_of_ble_eq_true rfl) (hn : ∀ s, (δ' s)[i]? = some .no := by exact fun _ => rfl) : ClJ C W Wout δx δt R δ' ((.ref (He.ga C.K c), some i, ts) :: l) (clU cs c k h) := fun F D e cls d σ' H' x ok q => by
  unfold clU at q
  by_cases m : e.cls ∈ cs
  · rw [if_pos m] at q
    refine ⟨isSub e.cls c, by rw [x.1]; exact ht _ m _ hc, fun b a ha => ?_, fun b => ?_⟩
    · rw [b] at q
      refine hs' a cls d e F H' _ (endsOff i D) (ok.put ⟨rfl, x⟩ hi) ((k e).mono (fun f z => ?_) (fun _ z => z) q)
      cases f with
      | nx s => exact fun σ2 F2 H2 s2 ok2 => z _ F2 H2 s2 (ok2.unset (hn s))
      | rt r => exact z
    · rw [b] at q
      exact hr F D e cls d σ' H' x ok q
  · rw [if_neg m] at q
    exact q.elim
theorem s_try {δ' : S → List Sl} {l : List Cl} {tb : WX → TS} {m : M (Fl S ρ)} {h : Exn → Option (M (Fl S ρ))} (hb : ∀ W', JS C W' δt R δ (tb W') δ' m) (hc : ClJ C W Wout δx δt R δ' l h) : JS C W δx R δ (tTry C.K Wout l tb) δ' (M.tryC m h) := fun F H σ D ok q =>
  hb _ F H σ D ok (m.mono (fun _ z => z) (fun e z cls d σ' F' H' s x ok' => hc F' D e cls d σ' H' x ok' (by
    cases he : h e with
    | none =>
      rw [he] at z
      exact XQ.mono s z
    | some k =>
      rw [he] at z
      exact k.mono (fun f y => SQ.mono s y) (fun _ y => XQ.mono s y) z)) q)
/-! ### what was caught -/
theorem look_F {K : PySem.W.Frag} {F : Hp} {f : Str} {u : U} : ∀ {fs : List (Str × V)} {us : List (Str × U)}, URepF K F fs us → us.lookup f = some u → ∃ v, fs.lookup f = some v ∧ URep K F v u
  | _, _, .nil, e => nomatch e
  | _, _, .cons (k := k) (v := v) a b, e => by
    by_cases z : (f == k) = true
    · rw [List.lookup_cons, z] at e
      cases e
      exact ⟨v, by rw [List.lookup_cons, z], a⟩
    · have z : (f == k) = false := by simpa using z
      rw [List.lookup_cons, z] at e
      obtain ⟨w, e1, r⟩ := look_F b e
      exact ⟨w, by rw [List.lookup_cons, z]; exact e1, r⟩
theorem e_xf {a : Addr} {cls : Value} {d : Option Addr} {f : Str} {m : M (CgE a cls d)} (h : JE C W δ te m) : JE C W δ (tXf a cls d (He.ga C.K C0) f te) (m.bind fun x => M.need (x.e.cls = C0) (M.ofOpt (x.e.fld.lookup f))) := fun F H σ Q ok q => h F H σ _ ok (m.mono (fun x q1 v F1 H1 s1 rp ok1 => by
  obtain ⟨rfl, x1, x2⟩ := rp
  obtain ⟨e0, q1⟩ := q1
  obtain ⟨u, eu, q1⟩ := opt_run q1
  rcases x2 with ⟨x2, _⟩ | ⟨dd, vs, ed, hd, hv⟩
  · rw [x2] at eu
    cases eu
  · obtain ⟨w, ew, rw_⟩ := look_F hv eu
    exact ⟨rfl, by rw [x1, e0], dd, vs, w, ed, ok1.same _ _ hd, ew, q1 w F1 H1 s1 rw_ ok1⟩) (fun _ z => z) q)
/-- what is known of raised classes and of classes that are asked for -/
structure IsxOk (K : PySem.W.Frag) (cs : List Str) (xs : List (Str × Value)) : Prop where
  ex : ∀ c ∈ cs, ExcC K (He.ga K c)
  is : ∀ c ∈ cs, ∀ x ∈ xs, PySem.W.kitOne K (.ref (He.ga K c)) x.2 = some (isSub c x.1)
/-- own classes and built-in ones, by their names -/
def clsVal (K : PySem.W.Frag) (own : List Str) (x : Str) (T : String) : Value := if x ∈ own then .ref (He.ga K x) else .type T
structure IxOk (K : PySem.W.Frag) (cs os : List Str) (bs : List String) : Prop where
  ex : ∀ c ∈ cs, ExcC K (He.ga K c)
  own : ∀ c ∈ cs, ∀ x ∈ os, PySem.W.kitOne K (.ref (He.ga K c)) (.ref (He.ga K x)) = some (isSub c x)
  blt : ∀ c ∈ cs, ∀ T ∈ bs, PySem.W.kitOne K (.ref (He.ga K c)) (.type T) = some (isSub c (Str.ofString T))
theorem isxB_ok {K : PySem.W.Frag} {cs os : List Str} {bs : List String} (h : isxB cs os bs K = true) : IxOk K cs os bs := by
  have g : ∀ c ∈ cs, _ := fun c m => List.all_eq_true.mp h c m
  simp only [Bool.and_eq_true] at g
  exact ⟨fun c m => excCB_ok (g c m).1.1, fun c m x mx => of_decide_eq_true (List.all_eq_true.mp (g c m).1.2 x mx), fun c m x mx => of_decide_eq_true (List.all_eq_true.mp (g c m).2 x mx)⟩
theorem xd_at {K : PySem.W.Frag} {F H : Hp} {cls : Value} {d : Option Addr} {e : Exn} (s : Same F H) (x : ExR K F cls d e) : XdAt H d := fun dd ed => by
  rcases x.2 with ⟨_, z⟩ | ⟨d2, vs, e2, hd, _⟩
  · rw [z] at ed
    cases ed
  · rw [e2] at ed
    cases ed
    exact ⟨vs, s _ _ hd⟩
/-- a class as an expression -/
inductive JC (K : PySem.W.Frag) (os : List Str) (bs : List String) : TE → Str → Prop
  | own {x : Str} (h : x ∈ os) : JC K os bs (tC (.ref (He.ga K x))) x
  | blt {T : String} (h : T ∈ bs) : JC K os bs (tC (.ty T)) (Str.ofString T)
inductive JCs (K : PySem.W.Frag) (os : List Str) (bs : List String) : TA → List Str → Prop
  | nil : JCs K os bs tNil []
  | cons {te : TE} {ta : TA} {x : Str} {xs : List Str} (h : JC K os bs te x) (r : JCs K os bs ta xs) : JCs K os bs (tCons te ta) (x :: xs)
theorem e_isX {a : Addr} {cls : Value} {d : Option Addr} {cs os : List Str} {bs : List String} {tc : TE} {x : Str} {m : M (CgE a cls d)} (hk : IxOk C.K cs os bs) (hc : JC C.K os bs tc x) (h : JE C W δ te m) : JE C W δ (tCB (rIsX C.K a cls d) (tCons te (tCons tc tNil))) (m.bind fun y => M.need (y.e.cls ∈ cs) (M.pure (isSub y.e.cls x))) := fun F H σ Q ok q => h F H σ _ ok (m.mono (fun y q1 v F1 H1 s1 rp ok1 => by
  obtain ⟨rfl, x1⟩ := rp
  cases hc with
  | own hm => exact ⟨_, .ref (He.ga C.K x), _, _, rfl, x1.1, hk.ex _ q1.1, xd_at ok1.same x1, .own _, hk.own _ q1.1 _ hm, q1.2 _ F1 H1 s1 rfl ok1⟩
  | blt hm => exact ⟨_, _, _, _, rfl, x1.1, hk.ex _ q1.1, xd_at ok1.same x1, .ty _, hk.blt _ q1.1 _ hm, q1.2 _ F1 H1 s1 rfl ok1⟩) (fun _ z => z) q)
theorem e_xfV {a : Addr} {cls : Value} {d : Option Addr} {f : Str} {e : Exn} (h : δ[i]? = some (.fz (CgE.mk e : CgE a cls d)) := by rfl) : JE C W δ (tXf a cls d (He.ga C.K C0) f (tVar i)) (M.need (e.cls = C0) (M.ofOpt (e.fld.lookup f))) := e_xf (e_var h)
theorem e_isXV {a : Addr} {cls : Value} {d : Option Addr} {cs os : List Str} {bs : List String} {tc : TE} {x : Str} {e : Exn} (hk : IxOk C.K cs os bs) (hc : JC C.K os bs tc x) (h : δ[i]? = some (.fz (CgE.mk e : CgE a cls d)) := by rfl) : JE C W δ (tCB (rIsX C.K a cls d) (tCons (tVar i) (tCons tc tNil))) (M.need (e.cls ∈ cs) (M.pure (isSub e.cls x))) := e_isX hk hc (e_var h)
theorem s_only {δm : Empty → List Sl} {δ' : S → List Sl} {m1 : M (Fl Empty ρ)} (h : JS C W δx R δ t1 δm m1) : JS C W δx R δ t1 δ' (m1.next fun s => nomatch s) := fun F H σ D ok q =>
  h F H σ D ok (m1.mono (fun f z => by
    cases f with
    | nx s => exact nomatch s
    | rt r => exact z) (fun _ z => z) q)
theorem jcs_ok {K : PySem.W.Frag} {cs os : List Str} {bs : List String} {c : Str} (hk : IxOk K cs os bs) (hm : c ∈ cs) : ∀ {ta : TA} {xs : List Str}, JCs K os bs ta xs → ∃ (vs : List V) (us : List Value), vs.length = xs.length ∧ Paired ClsV vs us ∧ PySem.W.kitAny K (.ref (He.ga K c)) us = some (xs.any fun x => isSub c x) ∧ ∀ (σ : L2.St) (H : Hp) (Q : List V → Hp → Prop), Q vs H → ta σ H Q
  | _, _, .nil => ⟨[], [], rfl, .nil, rfl, fun σ H Q q => q⟩
  | _, _, .cons (x := x) h r => by
    obtain ⟨vs, us, l, p, k, t⟩ := jcs_ok hk hm r
    have key : ∀ {u : Value}, PySem.W.kitOne K (.ref (He.ga K c)) u = some (isSub c x) → PySem.W.kitAny K (.ref (He.ga K c)) (u :: us) = some ((x :: _).any fun x => isSub c x) := fun e => by
      refine kitAny_cons e (fun z => ?_) (fun z => ?_)
      · rw [List.any_cons, z]
        exact k
      · rw [List.any_cons, z]
        rfl
    cases h with
    | own hx => exact ⟨.ref (He.ga K x) :: vs, .ref (He.ga K x) :: us, congrArg Nat.succ l, .cons (.own _) p, key (hk.own _ hm _ hx), fun σ H Q q => t σ H _ q⟩
    | blt hx => exact ⟨.ty _ :: vs, .type _ :: us, congrArg Nat.succ l, .cons (.ty _) p, key (hk.blt _ hm _ hx), fun σ H Q q => t σ H _ q⟩
theorem e_isXTV {a : Addr} {cls : Value} {d : Option Addr} {cs os : List Str} {bs : List String} {ta : TA} {xs : List Str} {e : Exn} (hk : IxOk C.K cs os bs) (hc : JCs C.K os bs ta xs) (h : δ[i]? = some (.fz (CgE.mk e : CgE a cls d)) := by rfl) (hl : xs.length ≤ 1000 := by decide) : JE C W δ (tCB (rIsXT C.K a cls d) (tCons (tVar i) (tCons (tTup ta) tNil))) (M.need (e.cls ∈ cs) (M.pure (xs.any fun x => isSub e.cls x))) := fun F H σ Q ok q => by
  have hv : JE C W δ (tVar i) (M.pure (CgE.mk e : CgE a cls d)) := e_var h
  refine hv F H σ (fun v H1 => tCons (tTup ta) tNil σ H1 fun vs H2 => rIsXT C.K a cls d (v :: vs) H2 Q) ok fun v F1 H1 s1 rp ok1 => ?_
  obtain ⟨rfl, x1⟩ := rp
  obtain ⟨vs, us, l, p, k, t⟩ := jcs_ok hk q.1 hc
  refine t σ H1 _ ⟨by rw [l, sizeLine_eq]; omega, fun tp htp => ?_⟩
  have ok2 := ok1.newF (o := .tup vs) htp
  have fp := Same.free ok1.same htp
  exact ⟨tp, vs, us, _, _, rfl, x1.1, hk.ex _ q.1, xd_at ok2.same (x1.go (Same.new fp)), upd_same, p, k, q.2 _ _ _ (s1.trans (Same.new fp)) rfl ok2⟩
/-- an empty dict -/
theorem e_dict0 : JE C W δ tDNewK (M.pure (U.dK [])) := fun F H σ Q ok q => fun p hp => q _ _ _ (Same.new (Same.free ok.same hp)) (.dK upd_same .nil) (ok.newF hp)
theorem e_upper {m : M Str} (h : JE C W δ te m) : JE C W δ (tUp te) (m.bind fun z => M.need (z.length ≤ 5592405) (M.pure (Txt.upper z))) := fun F H σ Q ok q => h F H σ _ ok (m.mono (fun z q1 v F1 H1 s1 rp ok1 => ⟨z, rp, q1.1, q1.2 _ F1 H1 s1 rfl ok1⟩) (fun _ z => z) q)
end
section
variable {C : Ctx} {W : WX} {δ : List Sl} {α β : Type} [Fz α] [Ky α] [DecidableEq α] [Fz β] [UV β] {tk tv : TE}
/-- {k: v} -/
theorem e_disp1 {mk : M α} {mv : M β} (hk : ∀ P W, JE { C with P := P } W δ tk mk) (hv : ∀ P W, JE { C with P := P } W δ tv mv) : JE C W δ (tDisp [(tk, tv)]) (mk.nx.bind fun k => mv.nx.bind fun v => M.pure (U.dK [(Ky.key k, UV.toU v)])) := fun F H σ Q ok q => fun p hp => by
  have ok1 := Okk.newD (α := α) (β := U) (d := ⟨[]⟩) (vs := []) ok hp .nil
  obtain ⟨kvs, r0, hc, pl, ok2⟩ := ok1.hideD
  cases r0
  refine hk _ (fun _ _ _ _ => False) F _ σ _ ok2 (mk.mono (fun k q1 v F2 H2 s2 r2 ok3 => hv _ (fun _ _ _ _ => False) F2 H2 σ _ ok3 (mv.mono (fun u q2 w F3 H3 s3 r3 ok4 => ?_) (fun _ z => z.elim) q1)) (fun _ z => z.elim) q)
  obtain ⟨A, a4⟩ := id ok4
  have e3 := (a4.prt p (.dK []) upd_same).1
  have ekv : v = kV (Ky.key k) := Ky.rep r2
  refine ⟨e3, [(Ky.key k, w)], by rw [ekv]; rfl, (by show 1 ≤ 15; decide), ?_⟩
  have ok5 := Okk.showD (α := α) (β := U) (d := ⟨[]⟩) ok4 .nil hc pl
  have ok6 := ok5.setD (i := 0) (d' := ⟨[(k, UV.toU u)]⟩) (kvs := [(Ky.key k, w)]) rfl rfl (.cons ⟨rfl, UV.up r3⟩ .nil)
  obtain ⟨F', s', ok7⟩ := Okk.fixD (α := α) (β := U) (i := 0) ok6 rfl
  obtain ⟨A7, a7⟩ := id ok7
  obtain ⟨v', ev, _, rp⟩ := a7.at_ 0 _ rfl
  cases (show some (V.ref p) = some v' from ev)
  obtain ⟨l, kvs', el, hl, rk⟩ := rp
  cases el
  refine q2 _ F' _ (s2.trans (s3.trans s')) ?_ ok7.pop
  cases rk with
  | cons h1 t1 =>
    cases t1
    obtain ⟨e1, e2⟩ := h1
    rename_i kv
    obtain ⟨k1, v1⟩ := kv
    simp only at e1
    subst e1
    exact .dK hl (.cons e2 .nil)
end
/-! ### the classes of this program -/
structure XC (K : PySem.W.Frag) (C0 : Str) (newId : String) (bm : List Value) (fs : List Str) : Prop where
  o : Oxc K (He.ga K C0) newId bm
  f : ∀ f ∈ fs, PySem.W.findIn K (.ref (He.ga K C0)) f = some none
def okR (us : List U) : Prop := ∃ u d, us = [u] ∧ u.dataE = some d ∧ Fit d ∧ d.shown.length ≤ 10000
def okI (us : List U) : Prop := ∃ i : Int, us = [.int i] ∧ i.natAbs.log2 < 1920 ∧ (Str.ofString (toString i)).length ≤ 1000
def okS (us : List U) : Prop := ∃ x, us = [.str x] ∧ x.length ≤ 1000
def okSS (us : List U) : Prop := ∃ x y, us = [.str x, .str y] ∧ x.length ≤ 1000 ∧ y.length ≤ 1000
abbrev okNoSuch := okR
abbrev okTooMany := okR
abbrev okNoPlan := okSS
abbrev okNoText := okI
abbrev okNoCounts := okI
abbrev okNoWay := okI
abbrev okShut := okI
abbrev okSame := okS
abbrev okRefused := okR
abbrev okNoName := okR
abbrev okTaken := okS
abbrev okNoDeed := okI
abbrev flNoSuch : List Str := ["who"]
abbrev flTooMany : List Str := ["limit"]
abbrev flNoPlan : List Str := ["kind", "who"]
abbrev flNoText : List Str := ["row"]
abbrev flNoCounts : List Str := ["number"]
abbrev flNoWay : List Str := ["number"]
abbrev flShut : List Str := ["number"]
abbrev flSame : List Str := ["who"]
abbrev flRefused : List Str := ["among"]
abbrev flNoName : List Str := ["who"]
abbrev flTaken : List Str := ["who"]
abbrev flNoDeed : List Str := ["number"]
end Dc

namespace Dc
open PySem PySem.Spec PyProof.Rows L2 ToD UV
/-! ## plain laws of exceptions and of any things -/
namespace M
variable {α β S T ρ : Type}
theorem tryP (a : α) (h : Exn → Option (M α)) : M.tryC (M.pure a) h = M.pure a := rfl
theorem tryT (e : Exn) (h : Exn → Option (M α)) : M.tryC (M.thr e) h = (h e).getD (M.thr e) := eq_of fun Q E => by
  show (match h e with | some k => k.run Q E | none => E e) ↔ _
  cases h e <;> exact Iff.rfl
theorem tryN (p : Prop) (m : M α) (h : Exn → Option (M α)) : M.tryC (M.need p m) h = M.need p (M.tryC m h) := rfl
theorem tryB (m : M β) (f : β → M α) (h : Exn → Option (M α)) : M.tryC (m.nx.bind f) h = m.nx.bind fun a => M.tryC (f a) h := rfl
theorem tryO (o : Option β) (f : β → M α) (h : Exn → Option (M α)) : M.tryC ((M.ofOpt o).bind f) h = (M.ofOpt o).bind fun a => M.tryC (f a) h := by cases o <;> rfl
theorem tryBad (h : Exn → Option (M α)) : M.tryC (M.bad) h = M.bad := rfl
theorem tryI (b : Bool) (m n : M α) (h : Exn → Option (M α)) : M.tryC (if b then m else n) h = if b then M.tryC m h else M.tryC n h := by cases b <;> rfl
theorem tb (e : Exn) (f : α → M β) : (M.thr e : M α).bind f = M.thr e := rfl
theorem nextT (e : Exn) (k : S → M (Fl T ρ)) : M.next (M.thr e : M (Fl S ρ)) k = M.thr e := rfl
theorem doneT (e : Exn) (k : S → M ρ) : M.done (M.thr e : M (Fl S ρ)) k = M.thr e := rfl
theorem nextN (p : Prop) (m : M (Fl S ρ)) (k : S → M (Fl T ρ)) : M.next (M.need p m) k = M.need p (M.next m k) := rfl
theorem doneN (p : Prop) (m : M (Fl S ρ)) (k : S → M ρ) : M.done (M.need p m) k = M.need p (M.done m k) := rfl
theorem nextB (m : M α) (f : α → M (Fl S ρ)) (k : S → M (Fl T ρ)) : M.next (m.bind f) k = m.bind fun a => M.next (f a) k := rfl
theorem doneB (m : M α) (f : α → M (Fl S ρ)) (k : S → M ρ) : M.done (m.bind f) k = m.bind fun a => M.done (f a) k := rfl
theorem nextI (b : Bool) (m n : M (Fl S ρ)) (k : S → M (Fl T ρ)) : M.next (if b then m else n) k = if b then M.next m k else M.next n k := by cases b <;> rfl
theorem doneI (b : Bool) (m n : M (Fl S ρ)) (k : S → M ρ) : M.done (if b then m else n) k = if b then M.done m k else M.done n k := by cases b <;> rfl
end M
theorem clU_eq {α : Type} (cs : List Str) (c : Str) (k : Exn → M α) (h : Exn → Option (M α)) (e : Exn) : clU cs c k h e = if e.cls ∈ cs then (if isSub e.cls c then some (k e) else h e) else some M.bad := rfl
theorem clU_in {α : Type} {cs : List Str} {c : Str} {k : Exn → M α} {h : Exn → Option (M α)} {e : Exn} (m : e.cls ∈ cs) (s : isSub e.cls c = true) : clU cs c k h e = some (k e) := by rw [clU_eq, if_pos m, if_pos s]
theorem clU_out {α : Type} {cs : List Str} {c : Str} {k : Exn → M α} {h : Exn → Option (M α)} {e : Exn} (m : e.cls ∈ cs) (s : isSub e.cls c = false) : clU cs c k h e = h e := by rw [clU_eq, if_pos m, s]; rfl
/-! ### shown things -/
theorem Shw.okR {u : U} {d : PyData} {n k : Nat} (h : Shw n k d) (e : u.dataE = some d) (hn : n ≤ 600 := by decide) (hk : k ≤ 50 := by decide) : okR [u] := by
  refine ⟨u, d, rfl, e, ⟨h.show_, Nat.le_trans h.dep hk, PyData.shown_fits_bulk (B := 13) (by decide) (by decide) h.short (Nat.le_trans h.bulk (by omega))⟩, ?_⟩
  have := PyData.shown_le_bulk 13 (by decide) d h.short
  have := h.bulk
  omega
theorem okR_repr {u : U} (h : okR [u]) : ∃ d, u.dataE = some d ∧ reprU u = M.pure d.shown := by
  obtain ⟨u', d, e, ed, ft, _⟩ := h
  cases e
  exact ⟨d, ed, by unfold reprU; rw [ed, M.optS, M.pb, M.needT ft]⟩
theorem is_non_int : (U.non).is "int" = some false := rfl
theorem is_non_bool : (U.non).is "bool" = some false := rfl
theorem is_non_str : (U.non).is "str" = some false := rfl
theorem is_non_list : (U.non).is "list" = some false := rfl
theorem is_non_tuple : (U.non).is "tuple" = some false := rfl
theorem is_non_dict : (U.non).is "dict" = some false := rfl
theorem is_bl_int (b : Bool) : (U.bl b).is "int" = some true := rfl
theorem is_bl_bool (b : Bool) : (U.bl b).is "bool" = some true := rfl
theorem is_bl_str (b : Bool) : (U.bl b).is "str" = some false := rfl
theorem is_bl_list (b : Bool) : (U.bl b).is "list" = some false := rfl
theorem is_bl_tuple (b : Bool) : (U.bl b).is "tuple" = some false := rfl
theorem is_bl_dict (b : Bool) : (U.bl b).is "dict" = some false := rfl
theorem is_int_int (i : Int) : (U.int i).is "int" = some true := rfl
theorem is_int_bool (i : Int) : (U.int i).is "bool" = some false := rfl
theorem is_int_str (i : Int) : (U.int i).is "str" = some false := rfl
theorem is_int_list (i : Int) : (U.int i).is "list" = some false := rfl
theorem is_int_tuple (i : Int) : (U.int i).is "tuple" = some false := rfl
theorem is_int_dict (i : Int) : (U.int i).is "dict" = some false := rfl
theorem is_str_int (x : Str) : (U.str x).is "int" = some false := rfl
theorem is_str_bool (x : Str) : (U.str x).is "bool" = some false := rfl
theorem is_str_str (x : Str) : (U.str x).is "str" = some true := rfl
theorem is_str_list (x : Str) : (U.str x).is "list" = some false := rfl
theorem is_str_tuple (x : Str) : (U.str x).is "tuple" = some false := rfl
theorem is_str_dict (x : Str) : (U.str x).is "dict" = some false := rfl
theorem is_lst_int (l : List U) : (U.lst l).is "int" = some false := rfl
theorem is_lst_bool (l : List U) : (U.lst l).is "bool" = some false := rfl
theorem is_lst_str (l : List U) : (U.lst l).is "str" = some false := rfl
theorem is_lst_list (l : List U) : (U.lst l).is "list" = some true := rfl
theorem is_lst_tuple (l : List U) : (U.lst l).is "tuple" = some false := rfl
theorem is_lst_dict (l : List U) : (U.lst l).is "dict" = some false := rfl
theorem is_tup_int (l : List U) : (U.tup l).is "int" = some false := rfl
theorem is_tup_bool (l : List U) : (U.tup l).is "bool" = some false := rfl
theorem is_tup_str (l : List U) : (U.tup l).is "str" = some false := rfl
theorem is_tup_list (l : List U) : (U.tup l).is "list" = some false := rfl
theorem is_tup_tuple (l : List U) : (U.tup l).is "tuple" = some true := rfl
theorem is_tup_dict (l : List U) : (U.tup l).is "dict" = some false := rfl
theorem is_dK_int (l : List (Key × U)) : (U.dK l).is "int" = some false := rfl
theorem is_dK_bool (l : List (Key × U)) : (U.dK l).is "bool" = some false := rfl
theorem is_dK_str (l : List (Key × U)) : (U.dK l).is "str" = some false := rfl
theorem is_dK_list (l : List (Key × U)) : (U.dK l).is "list" = some false := rfl
theorem is_dK_tuple (l : List (Key × U)) : (U.dK l).is "tuple" = some false := rfl
theorem is_dK_dict (l : List (Key × U)) : (U.dK l).is "dict" = some true := rfl
theorem of_int (i : Int) : (UV.ofU (U.int i) : Option Int) = some i := rfl
theorem of_bl (i : Bool) : (UV.ofU (U.bl i) : Option Bool) = some i := rfl
theorem of_str (i : Str) : (UV.ofU (U.str i) : Option Str) = some i := rfl
theorem to_int (i : Int) : UV.toU i = U.int i := rfl
theorem to_bl (i : Bool) : UV.toU i = U.bl i := rfl
theorem to_str (i : Str) : UV.toU i = U.str i := rfl
theorem to_unit (i : Unit) : UV.toU i = U.non := rfl
theorem to_U (u : U) : UV.toU u = u := rfl
theorem fm_congr {α β : Type} {f g : α → Option β} : ∀ {xs : List α}, (∀ x ∈ xs, f x = g x) → xs.filterMap f = xs.filterMap g
  | [], _ => rfl
  | x :: xs, h => by
    have ih := fm_congr (xs := xs) fun y m => h y (List.mem_cons_of_mem _ m)
    cases e : g x with
    | none => rw [List.filterMap_cons_none e, List.filterMap_cons_none ((h x (List.mem_cons_self ..)).trans e), ih]
    | some y => rw [List.filterMap_cons_some e, List.filterMap_cons_some ((h x (List.mem_cons_self ..)).trans e), ih]
/-- a loop that changes nothing -/
theorem forM_same {α S ρ : Type} {f : α → S → M (Fl S ρ)} {s : S} : ∀ {xs : List α}, (∀ x ∈ xs, f x s = M.pure (Fl.nx s)) → forM f xs s = M.pure (Fl.nx s)
  | [], _ => rfl
  | x :: xs, h => by
    have ih := forM_same (f := f) (s := s) (xs := xs) fun y m => h y (List.mem_cons_of_mem _ m)
    show M.next (f x s) (fun s' => forM f xs s') = _
    rw [h x (List.mem_cons_self ..), M.nextP]
    exact ih
theorem enumI_fst {α : Type} (xs : List α) : rngI 0 (xs.length : Int) = (enumI xs).map (·.1) := by
  refine List.ext_getElem? fun i => ?_
  rw [List.getElem?_map, enumFrom_get]
  unfold rngI
  rw [List.getElem?_map]
  by_cases h : i < xs.length
  · rw [List.getElem?_eq_getElem (by simpa using h), List.getElem?_eq_getElem h]
    simp
  · rw [List.getElem?_eq_none (by simpa using h), List.getElem?_eq_none (by omega)]
    rfl
theorem enumI_at {α : Type} {xs : List α} {x : Int × α} (m : x ∈ enumI xs) : ∃ i : Nat, x.1 = i ∧ xs[i]? = some x.2 := by
  obtain ⟨i, hi⟩ := List.getElem?_of_mem m
  rw [enumFrom_get] at hi
  obtain ⟨d, e1, e2⟩ := map_some hi
  rw [← e2]
  exact ⟨i, by simp, e1⟩
theorem okR_int {i : Int} (h1 : -999999999999 ≤ i) (h2 : i ≤ 999999999999) : okR [U.int i] := (Shw.int_ h1 h2).okR rfl
theorem okR_bl (b : Bool) : okR [U.bl b] := (Shw.bool_ b).okR rfl
theorem okR_non : okR [U.non] := Shw.none_.okR rfl
theorem okR_dict : okR [U.dK []] := ⟨_, _, rfl, rfl, ⟨by decide, by decide, by decide⟩, by decide⟩
theorem okR_str {x : Str} (h : x.length ≤ 600) (hc : ∀ c ∈ x.cps.toList, c < 1114112) : okR [U.str x] := (Shw.str_ h hc).okR rfl
theorem okR_name {x : Str} (h : IsName x) : okR [U.str x] := (shw_name h).okR rfl
theorem upper_name {x : Str} (h : IsName x) : (Txt.upper x).length ≤ 8 ∧ (∀ c ∈ (Txt.upper x).cps.toList, c < 128) ∧ ¬ IsName (Txt.upper x) := by
  have e := PyProof.Rows.upper_ascii (x := x) (name_code h)
  rw [e]
  have el : (x.cps.map PyProof.Rows.up1).toList = x.cps.toList.map PyProof.Rows.up1 := Array.toList_map
  refine ⟨?_, fun c m => ?_, fun z => ?_⟩
  · show (x.cps.map PyProof.Rows.up1).size ≤ 8
    rw [Array.size_map]
    exact h.2.1
  · have m : c ∈ (x.cps.map PyProof.Rows.up1).toList := m
    rw [el] at m
    obtain ⟨c', m', rfl⟩ := List.mem_map.mp m
    have := name_code h c' m'
    unfold PyProof.Rows.up1
    split <;> omega
  · have hl : 1 ≤ x.cps.toList.length := by rw [Array.length_toList]; exact h.1
    obtain ⟨c, cs, ec⟩ : ∃ c cs, x.cps.toList = c :: cs := by
      cases hx : x.cps.toList with
      | nil => rw [hx] at hl; simp at hl
      | cons c cs => exact ⟨c, cs, rfl⟩
    have h1 := h.2.2 c (by rw [ec]; exact List.mem_cons_self ..)
    have h2 := z.2.2 (PyProof.Rows.up1 c) (by
      show _ ∈ (x.cps.map PyProof.Rows.up1).toList
      rw [el, ec]
      exact List.mem_cons_self ..)
    unfold isLetter at h1 h2
    rw [Bool.and_eq_true, decide_eq_true_eq, decide_eq_true_eq] at h1 h2
    unfold PyProof.Rows.up1 at h2
    rw [if_pos h1] at h2
    omega
end Dc

namespace Dc
open PySem PySem.Spec PyProof.Rows L2 ToD UV
/-! ## xs.count(x) -/
def rCountD (K : PySem.W.Frag) : V → List V → Hp → VK → Prop := fun x xs H Q => ∃ (a : Addr) (y : V) (d : PyData) (ds : List PyData), x = .ref a ∧ xs = [y] ∧ Dp K H (.ref a) (.list ds) ∧ Dp K H y d ∧ PyData.plainAll ds = true ∧ d.plain = true ∧ d.depth ≤ 60 ∧
  Q (.int ((ds.countP fun z => PyData.eqv z d : Nat) : Int)) H
theorem mt_countD {X : Cx} (hu : X.A.units + 64 < cLine) : MtR X "list.count" (rCountD X.K) := by
  intro pins s σ H x xs v us Q I rx rxs h
  obtain ⟨a, y, d, ds, rfl, rfl, hl, hy, p1, p2, dp, q⟩ := h
  cases rx
  cases rxs with
  | cons ry rt =>
    cases rt
    obtain ⟨bs, r1⟩ := Dp.reads I d y _ hy ry
    cases hl with
    | lst hs ha =>
      obtain ⟨its, rv, ⟨o, n, ho, hc, hdn, hdt⟩, hlen⟩ := I.list hs
      obtain ⟨as, h4⟩ := Dp.readsAll I ds _ its ha rv
      refine SeqAt.count_list_data (vs := its.toArray) ⟨o, ho, hc, n, hdt⟩ (by simpa using h4) r1 p1 p2 (by have := Nat.min_le_right (PyData.depthAll ds) d.depth; omega) ?_
      exact ⟨.int _, H, I.tok _, ⟨_, rfl⟩, q⟩
theorem plain_map {α : Type} [Fz α] [ToD α] (h : ∀ a : α, (toD a).plain = true) : ∀ xs : List α, PyData.plainAll (xs.map toD) = true
  | [] => rfl
  | x :: xs => by rw [List.map_cons, PyData.plainAll, h x, plain_map h xs]; rfl
class Pn (α : Type) [Fz α] [ToD α] : Prop where
  p : ∀ a : α, (toD a).plain = true
  d : ∀ a : α, (toD a).depth ≤ 60
instance : Pn Int := ⟨fun _ => rfl, fun _ => Nat.zero_le _⟩
instance : Pn Bool := ⟨fun _ => rfl, fun _ => Nat.zero_le _⟩
instance : Pn Str := ⟨fun _ => rfl, fun _ => Nat.zero_le _⟩
theorem count_map {α : Type} [Fz α] [ToD α] [DecidableEq α] [EqD α] (x : α) : ∀ xs : List α, ((xs.map toD).countP fun z => PyData.eqv z (toD x)) = xs.countP fun y => decide (y = x)
  | [] => rfl
  | y :: xs => by rw [List.map_cons, List.countP_cons, List.countP_cons, count_map x xs, EqD.eq]
section
variable {C : Ctx} {W : WX} {δ : List Sl} {α : Type} [Fz α] [ToD α] [DecidableEq α] [EqD α] [Pn α] {ta tb : TE}
theorem e_count {m1 : M (List α)} {m2 : M α} (ha : JR C W δ ta m1) (hb : JE C W δ tb m2) : JE C W δ (tBM C.K "list" (rCountD C.K) ta (tCons tb tNil)) (m1.bind fun xs => m2.bind fun x => M.pure ((xs.countP fun y => decide (y = x) : Nat) : Int)) := fun F H σ Q ok q =>
  ha F H σ _ ok (m1.mono (fun xs q1 v F1 H1 s1 ok1 r1 => by
    obtain ⟨l, vs, rfl, e, rr⟩ := r1 F1 H1 (Same.refl _) ok1
    refine ⟨.inl ⟨rfl, vs, SqL.of e⟩, hb F1 H1 σ _ ok1 (m2.mono (fun x q2 w F2 H2 s2 rp ok2 => ?_) (fun e z => EW.mono s1 z) q1)⟩
    have rd := r1 F2 H2 s2 ok2
    refine ⟨l, w, toD x, xs.map toD, rfl, rfl, ToD.dp ok2.same rd, ToD.dp ok2.same (Fz.rd_of ok2.same rp), plain_map Pn.p xs, Pn.p x, Pn.d x, ?_⟩
    rw [count_map]
    exact q2 _ F2 H2 (s1.trans s2) rfl ok2) (fun _ z => z) q)
end
theorem e_lstU {C : Ctx} {W : WX} {δ : List Sl} {α : Type} [Fz α] [UV α] {te : TE} {m : M (List α)} (h : JE C W δ te m) : JE C W δ te (m.bind fun a => M.pure (a.map UV.toU)) := fun F H σ Q ok q => h F H σ _ ok (m.mono (fun a q1 v F' H' s rp ok' => by
  obtain ⟨l, vs, rfl, e, r⟩ := rp
  exact q1 _ F' H' s ⟨l, vs, rfl, e, repsU_of (upA r)⟩ ok') (fun _ z => z) q)
end Dc

namespace Dc
open PySem PySem.Spec PyProof.Rows L2 ToD UV
/-! ## any thing that can be shown -/
def ShwU (n k : Nat) (u : U) : Prop := ∃ d, u.data = some d ∧ Shw n k d
theorem ShwU.up {n k n' k' : Nat} {u : U} (h : ShwU n k u) (a : n ≤ n' := by omega) (b : k ≤ k' := by omega) : ShwU n' k' u := by
  obtain ⟨d, e, s⟩ := h
  exact ⟨d, e, s.up a b⟩
theorem ShwU.okR {n k : Nat} {u : U} (h : ShwU n k u) (hn : n ≤ 600 := by omega) (hk : k ≤ 50 := by omega) : okR [u] := by
  obtain ⟨d, e, s⟩ := h
  exact s.okR (U.dataE_of e) hn hk
theorem shwU_non : ShwU 0 0 .non := ⟨_, rfl, Shw.none_⟩
theorem shwU_bl (b : Bool) : ShwU 0 0 (.bl b) := ⟨_, rfl, Shw.bool_ b⟩
theorem shwU_int {i : Int} (h1 : -999999999999 ≤ i) (h2 : i ≤ 999999999999) : ShwU 0 0 (.int i) := ⟨_, rfl, Shw.int_ h1 h2⟩
theorem shwU_str {x : Str} {n : Nat} (h : x.length ≤ n) (hc : ∀ c ∈ x.cps.toList, c < 1114112) : ShwU n 0 (.str x) := ⟨_, rfl, Shw.str_ h hc⟩
theorem shwU_name {x : Str} (h : IsName x) : ShwU 8 0 (.str x) := ⟨_, rfl, shw_name h⟩
theorem shwU_all {n k : Nat} : ∀ {us : List U}, (∀ u ∈ us, ShwU n k u) → ∃ ds, U.dataA us = some ds ∧ ShwA ((n + 1) * us.length) k ds
  | [], _ => ⟨[], rfl, ⟨rfl, rfl, Nat.zero_le _, rfl, Nat.zero_le _⟩⟩
  | u :: us, h => by
    obtain ⟨ds, e, s⟩ := shwU_all (us := us) fun x m => h x (List.mem_cons_of_mem _ m)
    obtain ⟨d, e1, s1⟩ := h u (List.mem_cons_self ..)
    refine ⟨d :: ds, by rw [U.dataA, e1, Option.bind_some, e]; rfl, (ShwA.cons s1 s).up ?_ (Nat.le_refl _)⟩
    rw [List.length_cons, Nat.mul_add, Nat.mul_one]
    omega
theorem shwU_lst {n k : Nat} {us : List U} (h : ∀ u ∈ us, ShwU n k u) : ShwU ((n + 1) * us.length) (k + 1) (.lst us) := by
  obtain ⟨ds, e, s⟩ := shwU_all h
  exact ⟨.list ds, by rw [U.data, e]; rfl, Shw.list_ s⟩
theorem shwU_tup {n k : Nat} {us : List U} (h : ∀ u ∈ us, ShwU n k u) : ShwU ((n + 1) * us.length) (k + 1) (.tup us) := by
  obtain ⟨ds, e, s⟩ := shwU_all h
  exact ⟨.tuple ds, by rw [U.data, e]; rfl, Shw.tuple_ s⟩
theorem shwU_names {xs : List Str} (h : ∀ x ∈ xs, IsName x) : ShwU (9 * xs.length) 1 (toU xs) := by
  have := shwU_lst (n := 8) (k := 0) (us := xs.map toU) fun u m => by
    obtain ⟨x, mx, rfl⟩ := List.mem_map.mp m
    exact shwU_name (h x mx)
  rw [List.length_map] at this
  exact this
/-- it is a thing of none of the own classes, at the top -/
def U.noOb : U → Bool
  | .ob _ _ => false
  | _ => true
theorem ofAllU : ∀ us : List U, (ofAll us : Option (List U)) = some us
  | [] => rfl
  | u :: us => by
    show (some u).bind (fun a => (ofAll us).map fun r => a :: r) = _
    rw [ofAllU us]
    rfl
theorem of_lstU (us : List U) : (UV.ofU (U.lst us) : Option (List U)) = some us := ofAllU us
theorem of_lstA {α : Type} [Fz α] [UV α] (xs : List α) : (UV.ofU (U.lst (xs.map toU)) : Option (List α)) = some xs := ofAll_map xs
theorem to_lst {α : Type} [Fz α] [UV α] (xs : List α) : (toU xs : U) = .lst (xs.map toU) := rfl
theorem to_tof {α : Type} [Fz α] [UV α] (xs : Tof α) : (toU xs : U) = .tup (xs.l.map toU) := rfl
theorem cut_from {α : Type} (xs : List α) (k : Nat) : cutL xs (some (k : Int)) none = xs.drop k := by
  unfold cutL
  rw [HT.sIx_nat, HT.sIx_none]
  by_cases h : k ≤ xs.length
  · rw [Nat.min_eq_left h, List.take_of_length_le (by rw [List.length_drop]; omega)]
  · rw [Nat.min_eq_right (by omega), List.drop_of_length_le (Nat.le_refl _), List.drop_of_length_le (by omega), List.take_nil]
theorem cutL_to {α : Type} (xs : List α) (k : Nat) : cutL xs none (some (k : Int)) = xs.take k := by
  unfold cutL
  rw [HT.sIx_nat, HT.sIx_none, List.drop_zero, Nat.sub_zero]
  by_cases h : k ≤ xs.length
  · rw [Nat.min_eq_left h]
  · rw [Nat.min_eq_right (by omega), List.take_of_length_le (Nat.le_refl _), List.take_of_length_le (by omega)]
theorem cut_last {α : Type} (xs : List α) : cutL xs (some (-1)) none = xs.drop (xs.length - 1) := by
  unfold cutL
  rw [HT.sIx_none, show HT.sIx xs.length 0 (some (-1)) = xs.length - 1 by show (if (-1 : Int) < 0 then ((-1 : Int) + (xs.length : Int)).toNat else min (-1 : Int).toNat xs.length) = _; rw [if_pos (by decide)]; omega, List.take_of_length_le (by rw [List.length_drop]; omega)]
theorem rep_flat {α : Type} (a : α) : ∀ n : Nat, (List.replicate n [a]).flatten = List.replicate n a
  | 0 => rfl
  | n + 1 => by rw [List.replicate_succ, List.flatten_cons, rep_flat a n]; rfl
theorem okR_dict1 {x : Str} (h : IsName x) : okR [U.dK [(Ky.key x, U.int 1)]] := by
  have hs := (shw_name h).short
  have hl : (PyData.dict [(.str x, .int 1)]).leavesShort 13 = true := by
    show ((PyData.str x).leavesShort 13 && (PyData.int 1).leavesShort 13 && true) = true
    rw [hs]
    decide +kernel
  have hb := PyData.shown_le_bulk 13 (by decide) (.dict [(.str x, .int 1)]) hl
  have e : (PyData.dict [(.str x, .int 1)]).bulk = x.length + 0 + 2 + 0 := rfl
  have h8 := h.2.1
  exact ⟨_, .dict [(.str x, .int 1)], rfl, rfl, ⟨by show (true && (PyData.int 1).showable && true) = true; decide +kernel, Nat.le_of_ble_eq_true rfl, by rw [sizeLine_eq]; omega⟩, by omega⟩
theorem drop_last {α : Type} {xs : List α} (h : xs ≠ []) : xs.drop (xs.length - 1) = [xs.getLast h] := by
  have e := List.dropLast_concat_getLast h
  have l : xs.dropLast.length = xs.length - 1 := List.length_dropLast
  rw [← l]
  conv => lhs; rw [← e]
  simp
end Dc

namespace Dc
open PySem PySem.Spec PyProof.Rows L2 ToD UV
/-- each is taken, or not -/
theorem compM_sub {α : Type} {f : α → M (Option α)} {E : Exn → Prop} : ∀ {xs : List α} {Q : List α → Prop}, (∀ x ∈ xs, (f x).run (fun o => o = none ∨ o = some x) E) → (∀ ys, ys.Sublist xs → Q ys) → (compM f xs).run Q E
  | [], Q, _, q => q [] (List.Sublist.refl _)
  | x :: xs, Q, k, q => by
    refine (f x).mono (fun o z => ?_) (fun _ z => z) (k x (List.mem_cons_self ..))
    rcases z with rfl | rfl
    · exact compM_sub (xs := xs) (Q := Q) (fun x' m => k x' (List.mem_cons_of_mem _ m)) fun ys h => q _ (h.cons _)
    · show ((compM f xs).bind (fun r => M.pure (x :: r))).run Q E
      exact compM_sub (xs := xs) (Q := fun ys => Q (x :: ys)) (fun x' m => k x' (List.mem_cons_of_mem _ m)) fun ys h => q _ (h.cons_cons _)
theorem sub_filter {α : Type} [DecidableEq α] : ∀ {xs ys : List α}, xs.Nodup → ys.Sublist xs → xs.filter (fun x => decide (x ∈ ys)) = ys
  | [], _, _, h => by cases h; rfl
  | x :: xs, ys, hn, h => by
    have h' := List.nodup_cons.mp hn
    cases h with
    | cons _ h =>
      have nx : x ∉ ys := fun m => h'.1 (h.subset m)
      rw [List.filter_cons_of_neg (by simpa using nx)]
      exact sub_filter h'.2 h
    | @cons_cons ys _ _ h =>
      rw [List.filter_cons_of_pos (by simp)]
      congr 1
      rw [← sub_filter h'.2 h]
      refine List.filter_congr fun z mz => ?_
      have ne : z ≠ x := fun e => h'.1 (e ▸ mz)
      rw [sub_filter h'.2 h]
      simp [ne]
end Dc

namespace Dc
open PySem PySem.Spec PyProof.Rows L2 ToD UV
theorem URepA.len {K : PySem.W.Frag} {F : Hp} : ∀ {vs : List V} {us : List U}, URepA K F vs us → vs.length = us.length
  | _, _, .nil => rfl
  | _, _, .cons _ b => congrArg Nat.succ b.len
def lenU : U → Option Int
  | .lst us => some (us.length : Int)
  | .tup us => some (us.length : Int)
  | _ => none
def ixU (u : U) (k : Int) : Option U := match u with
  | .lst us => atI us k
  | .tup us => atI us k
  | _ => none
section
variable {K : PySem.W.Frag}
theorem o_lenU : Cb1 K (rLenSeq K) fun u : U => M.ofOpt (lenU u) := fun F H v u Q E s ra q => by
  obtain ⟨n, e, q⟩ := opt_run q
  cases ra <;> first | (cases e; done) | skip
  · rename_i l vs us hl ha
    cases e
    refine ⟨l, vs, rfl, .inl (SqL.of (s _ _ hl)), ?_⟩
    rw [ha.len]
    exact q _ F H (Go.refl s) rfl
  · rename_i l vs us hl ha
    cases e
    refine ⟨l, vs, rfl, .inr (SqT.of (s _ _ hl)), ?_⟩
    rw [ha.len]
    exact q _ F H (Go.refl s) rfl
theorem o_ixU : Op2 K (rIx K) fun (u : U) (k : Int) => M.ofOpt (ixU u k) := fun F H v w u k Q E s ra rb q0 => by
  obtain ⟨x, e, q⟩ := opt_run (o := ixU u k) q0
  clear q0
  cases rb
  cases ra <;> first | (cases e; done) | skip
  · rename_i l vs us hl ha
    obtain ⟨z, ez, rz⟩ := atI_rep (repsU_of ha) e
    exact .inl ⟨l, vs, k, z, rfl, rfl, SqL.of (s _ _ hl), ez, q _ F H (Go.refl s) rz⟩
  · rename_i l vs us hl ha
    obtain ⟨z, ez, rz⟩ := atI_rep (repsU_of ha) e
    exact .inr (.inl ⟨l, vs, k, z, rfl, rfl, SqT.of (s _ _ hl), ez, q _ F H (Go.refl s) rz⟩)
end
theorem o_listOfP {K : PySem.W.Frag} {α : Type} [Fz α] : CbN K (rListOf K) fun x : α × α => M.pure [x.1, x.2] := fun F H v x Q E s ra q => by
  obtain ⟨l, v1, v2, rfl, e, r1, r2⟩ := ra
  exact ⟨l, [v1, v2], rfl, .inr (SqT.of (s _ _ e)), fun p hp => q p [v1, v2] hp (.cons r1 (.cons r2 .nil))⟩
/-! ### x == [] -/
def rEqE (K : PySem.W.Frag) : R2 := fun x y H Q => ∃ a b xs, x = .ref a ∧ y = .ref b ∧ H a = some (.lst xs) ∧ H b = some (.lst []) ∧ Q (.bl xs.isEmpty) H
theorem op_eqE {X : Cx} (hu : X.A.units + 64 < cLine) : OpR X (compareOp .Eq) (rEqE X.K) := by
  intro pins s σ H x y v u Q I rx ry h
  obtain ⟨a, b, xs, rfl, rfl, ha, hb, q⟩ := h
  cases rx
  cases ry
  obtain ⟨_, its, n, rv, e1⟩ := (show ObjOk X.prog X.w H s.heap a (.lst xs) from I.hok a _ ha)
  obtain ⟨_, its2, n2, rv2, e2⟩ := (show ObjOk X.prog X.w H s.heap b (.lst []) from I.hok b _ hb)
  cases rv2
  cases xs with
  | nil =>
    cases rv
    exact PySem.P.eq_list (e := fun _ => true) e1 e2 rfl (fun j h1 _ => absurd h1 (by simp)) (by omega) ⟨.bl true, H, I, rfl, q⟩
  | cons x xs =>
    cases rv
    exact PySem.P.eq_list_lengths e1 e2 (by simp) (by omega) ⟨.bl false, H, I, rfl, q⟩
def emptyU : U → Option Bool
  | .lst us => some us.isEmpty
  | _ => none
theorem o_eqE {K : PySem.W.Frag} {α : Type} [Fz α] : Op2 K (rEqE K) fun (u : U) (ys : List α) => M.need (ys = []) (M.ofOpt (emptyU u)) := fun F H v w u ys Q E s ra rb q0 => by
  obtain ⟨hy, q0⟩ := q0
  obtain ⟨b, e, q⟩ := opt_run (o := emptyU u) q0
  clear q0
  subst hy
  obtain ⟨l2, vs2, rfl, h2, r2⟩ := rb
  cases r2
  cases ra <;> first | (cases e; done) | skip
  rename_i l vs us hl ha
  cases e
  refine ⟨l, l2, vs, rfl, rfl, s _ _ hl, h2, ?_⟩
  have : vs.isEmpty = us.isEmpty := by
    cases ha <;> rfl
  rw [this]
  exact q _ F H (Go.refl s) rfl
end Dc

namespace Dc
open PySem PySem.Spec PyProof.Rows L2 ToD UV
/-! ## any thing that can be shown, dicts too -/
structure Shx (n k : Nat) (d : PyData) : Prop where
  show_ : d.showable = true
  dep : d.depth ≤ k
  short : d.leavesShort 13 = true
  bulk : d.bulk ≤ n
theorem Shw.x {n k : Nat} {d : PyData} (h : Shw n k d) : Shx n k d := ⟨h.show_, h.dep, h.short, h.bulk⟩
def ShxU (n k : Nat) (u : U) : Prop := ∃ d, u.dataE = some d ∧ Shx n k d
theorem ShwU.x {n k : Nat} {u : U} (h : ShwU n k u) : ShxU n k u := by
  obtain ⟨d, e, s⟩ := h
  exact ⟨d, U.dataE_of e, s.x⟩
theorem ShxU.up {n k n' k' : Nat} {u : U} (h : ShxU n k u) (a : n ≤ n' := by omega) (b : k ≤ k' := by omega) : ShxU n' k' u := by
  obtain ⟨d, e, s⟩ := h
  exact ⟨d, e, ⟨s.show_, Nat.le_trans s.dep b, s.short, Nat.le_trans s.bulk a⟩⟩
theorem ShxU.repr {n k : Nat} {u : U} (h : ShxU n k u) (hn : n ≤ 1000000 := by omega) (hk : k ≤ 50 := by omega) : ∃ x, reprU u = M.pure x := by
  obtain ⟨d, e, s⟩ := h
  have ft : Fit d := ⟨s.show_, Nat.le_trans s.dep hk, PyData.shown_fits_bulk (B := 13) (by decide) (by decide) s.short (Nat.le_trans s.bulk (by omega))⟩
  exact ⟨d.shown, by unfold reprU; rw [e, M.optS, M.pb, M.needT ft]⟩
theorem ShxU.okR {n k : Nat} {u : U} (h : ShxU n k u) (hn : n ≤ 600 := by omega) (hk : k ≤ 50 := by omega) : okR [u] := by
  obtain ⟨d, e, s⟩ := h
  refine ⟨u, d, rfl, e, ⟨s.show_, Nat.le_trans s.dep hk, PyData.shown_fits_bulk (B := 13) (by decide) (by decide) s.short (Nat.le_trans s.bulk (by omega))⟩, ?_⟩
  have := PyData.shown_le_bulk 13 (by decide) d s.short
  have := s.bulk
  omega
theorem shxU_dict0 : ShxU 0 1 (.dK []) := ⟨.dict [], rfl, ⟨by decide, by decide, by decide, by decide⟩⟩
theorem shxU_all {n k : Nat} : ∀ {us : List U}, (∀ u ∈ us, ShxU n k u) → ∃ ds, U.dataEA us = some ds ∧ PyData.showableAll ds = true ∧ PyData.depthAll ds ≤ k ∧ PyData.leavesShortAll 13 ds = true ∧ PyData.bulkAll ds ≤ (n + 1) * us.length
  | [], _ => ⟨[], rfl, rfl, Nat.zero_le _, rfl, Nat.zero_le _⟩
  | u :: us, h => by
    obtain ⟨ds, e, s1, s2, s3, s4⟩ := shxU_all (us := us) fun x m => h x (List.mem_cons_of_mem _ m)
    obtain ⟨d, e1, t⟩ := h u (List.mem_cons_self ..)
    refine ⟨d :: ds, by rw [U.dataEA, e1, Option.bind_some, e]; rfl, ?_, ?_, ?_, ?_⟩
    · rw [PyData.showableAll, t.show_, s1]; rfl
    · exact Nat.max_le.mpr ⟨t.dep, s2⟩
    · rw [PyData.leavesShortAll, t.short, s3]; rfl
    · have := t.bulk
      rw [List.length_cons, Nat.mul_add, Nat.mul_one]
      show d.bulk + 1 + PyData.bulkAll ds ≤ _
      omega
theorem shxU_lst {n k : Nat} {us : List U} (h : ∀ u ∈ us, ShxU n k u) : ShxU ((n + 1) * us.length) (k + 1) (.lst us) := by
  obtain ⟨ds, e, s1, s2, s3, s4⟩ := shxU_all h
  exact ⟨.list ds, by rw [U.dataE, e]; rfl, ⟨s1, Nat.succ_le_succ s2, s3, s4⟩⟩
theorem shxU_tup {n k : Nat} {us : List U} (h : ∀ u ∈ us, ShxU n k u) : ShxU ((n + 1) * us.length) (k + 1) (.tup us) := by
  obtain ⟨ds, e, s1, s2, s3, s4⟩ := shxU_all h
  exact ⟨.tuple ds, by rw [U.dataE, e]; rfl, ⟨s1, Nat.succ_le_succ s2, s3, s4⟩⟩
/-- (a, b) + (c,) -/
theorem o_cat21 {K : PySem.W.Frag} {α β γ : Type} [Fz α] [Fz β] [Fz γ] : Op2 K (rCatA K) fun (x : α × β) (y : T1 γ) => M.pure (T3.mk x.1 x.2 y.a) := fun F H v w x y Q E s ra rb q => by
  obtain ⟨l, v1, v2, rfl, e, r1, r2⟩ := ra
  obtain ⟨l', v3, rfl, e', r3⟩ := rb
  refine ⟨l, l', [v1, v2], [v3], rfl, rfl, SqT.of (s _ _ e), SqT.of (s _ _ e'), by show 2 + 1 ≤ _; rw [sizeLine_eq]; decide, fun z => (nomatch z), fun _ z => (nomatch z), fun _ _ p hp => ?_⟩
  have fp := Same.free s hp
  exact q _ (upd F p (.tup [v1, v2, v3])) _ ((Go.refl s).new hp) ⟨p, v1, v2, v3, rfl, upd_same, Fz.mono (Same.new fp) r1, Fz.mono (Same.new fp) r2, Fz.mono (Same.new fp) r3⟩
end Dc

namespace Dc
open PySem PySem.Spec PyProof.Rows L2 ToD
/-! ## other things of one's own: tuples with lists of one's own in them, a list or none -/
class Frz {α : Type} [Fz α] (R : Rp α) : Prop where
  frz : ∀ {K F H v a A}, R.rep K F H v a A → Same F H → ∃ G, Same F G ∧ Same G H ∧ Fz.rep K G v a ∧ ∀ x, x ∉ A → G x = F x
section
variable {C : Ctx} {W : WX} {δx : List Sl} {ρ : Type} {R : Rp ρ} {δ : List Sl} {S T : Type} {ω : Type} [Fz ω] {O : Rp ω} [Frz O] {t t2 : TS} {te ti tk : TE} {i : Nat} {F H : Hp} {σ : L2.St} {l : Addr}
theorem Okk.fixR {a : ω} (ok : Okk C F H σ δ) (h : δ[i]? = some (.ow O a)) : ∃ F', Same F F' ∧ Okk C F' H σ (δ.set i (.fz a)) := by
  obtain ⟨A, k⟩ := id ok
  have hi : i < δ.length := (List.getElem?_eq_some_iff.mp h).1
  obtain ⟨v, hv, r, hc⟩ := k.at_ i _ h
  obtain ⟨G1, sF, b2, rr, off⟩ := Frz.frz r ok.same
  refine ⟨_, sF, fun j => if j = i then [] else A j, ⟨⟨k.go.ff.trans sF, b2, k.go.hh, fun b e1 e2 => ?_, k.go.th⟩, fun p e => ?_, by rw [List.length_set, k.len], fun j s e => ?_, fun j n a ma mb => ?_, fun j a m => ?_, fun a o e => ?_⟩⟩
  · by_cases m : b ∈ A i
    · exact absurd (hc b m) e2
    · rw [off b m]
      exact k.go.oo b e1 e2
  · obtain ⟨t, f, m⟩ := k.pot p e
    exact ⟨t, by rw [off p fun z => m.2 (hc p z)]; exact f, m⟩
  · by_cases z : j = i
    · rw [z, List.getElem?_set_self hi] at e
      cases e
      show SlOk C _ H _ (.fz a) (if j = i then [] else A j)
      rw [if_pos z, z]
      exact ⟨v, hv, rfl, rr⟩
    · rw [List.getElem?_set_ne (fun w => z w.symm)] at e
      show SlOk C _ H _ s (if j = i then [] else A j)
      rw [if_neg z]
      exact (k.at_ j s e).stay sF fun _ _ => rfl
  · by_cases z : j = i
    · simp only [if_pos z] at ma
      cases ma
    · by_cases y : n = i
      · simp only [if_pos y] at mb
        cases mb
      · simp only [if_neg z] at ma
        simp only [if_neg y] at mb
        exact k.dis j n a ma mb
  · by_cases z : j = i
    · simp only [if_pos z] at m
      cases m
    · simp only [if_neg z] at m
      rw [List.length_set]
      have na : a ∉ A i := fun w => z (k.dis j i a m w)
      rw [off a na]
      exact k.off j a m
  · obtain ⟨h1, h2, h3⟩ := k.prt a o e
    refine ⟨h1, by rw [off a (h3 i)]; exact h2, fun j m => ?_⟩
    by_cases z : j = i
    · simp only [if_pos z] at m
      cases m
    · simp only [if_neg z] at m
      exact h3 j m
theorem JO.eR {m : M ω} (h : JO C W δ O te m) : JE C W δ te m := fun F H σ Q ok q => h F H σ _ ok (m.mono (fun a z v F' H' s ok' => by
  obtain ⟨F2, s2, ok2⟩ := ok'.fixR (i := 0) rfl
  obtain ⟨A, k2⟩ := id ok2
  obtain ⟨v', e, _, r⟩ := k2.at_ 0 (.fz a) rfl
  cases (show some v = some v' from e)
  exact z v F2 H' (s.trans s2) r ok2.pop) (fun _ z => z) q)
theorem s_fixR {a : ω} {δ' : S → List Sl} {m : M (Fl S ρ)} (i : Nat) (k : JS C W δx R (δ.set i (.fz a)) t δ' m) (hx : δ[i]? = some (.ow O a) := by rfl) : JS C W δx R δ t δ' m := fun F H σ D ok q => by
  obtain ⟨F', s, ok'⟩ := ok.fixR hx
  exact k F' H σ D ok' (M.mono _ (fun f z => SQ.mono s z) (fun e z => XQ.mono s z) q)
theorem bb_fixR {a : ω} {δ' : S → List Sl} {m : M S} (i : Nat) (k : KB C W δx R (δ.set i (.fz a)) t δ' m) (hx : δ[i]? = some (.ow O a) := by rfl) : KB C W δx R δ t δ' m := by
  have z := s_fixR (S := S) i k hx
  exact z
theorem vv_fixR {a : ω} {m : M ρ} (i : Nat) (k : KV C W δx R (δ.set i (.fz a)) t m) (hx : δ[i]? = some (.ow O a) := by rfl) : KV C W δx R δ t m := by
  have z := s_fixR (S := Empty) i k hx
  exact z
theorem ln_owR (a : ω) : LnS (.ow O a) (.fz a) := fun C F H o A h G g1 g2 => by
  obtain ⟨v, e, r, _⟩ := h
  obtain ⟨G1, a1, a2, rr, _⟩ := Frz.frz (O.stay r g1 fun _ _ => rfl) g2
  exact ⟨G1, a1, a2, v, e, rr⟩
theorem own_v {a : ω} {A : Nat → List Addr} (k : Ok' C F H σ δ A) (h : δ[i]? = some (.ow O a)) : ∃ v, σ[i]? = some (some v) ∧ O.rep C.K F H v a (A i) := by
  obtain ⟨v, e, r, _⟩ := k.at_ i _ h
  refine ⟨v, ?_, r⟩
  cases hs : σ[i]? with
  | none =>
    rw [hs] at e
    cases e
  | some o =>
    rw [hs] at e
    rw [show o = some v from e]
end
/-- (x, a list of one's own) -/
def oP (α β : Type) [Fz α] [Fz β] : Rp (α × List β) where
  rep K F H v x A := ∃ t l w vs, v = .ref t ∧ A = [t, l] ∧ t ≠ l ∧ H t = some (.tup [w, .ref l]) ∧ Fz.rep K F w x.1 ∧ H l = some (.lst vs) ∧ Reps K F vs x.2
  stay := fun {K F H F' H' v x A} ⟨t, l, w, vs, e, ea, n, h1, r1, h2, r2⟩ s k => ⟨t, l, w, vs, e, ea, n, by rw [k t (by rw [ea]; simp)]; exact h1, Fz.mono s r1, by rw [k l (by rw [ea]; simp)]; exact h2, Reps.mono s r2⟩
  live := fun {K F H v x A} ⟨t, l, w, vs, e, ea, n, h1, r1, h2, r2⟩ y m => by
    rw [ea] at m
    simp only [List.mem_cons, List.not_mem_nil, or_false] at m
    rcases m with rfl | rfl
    · rw [h1]; exact Option.some_ne_none _
    · rw [h2]; exact Option.some_ne_none _
instance {α β : Type} [Fz α] [Fz β] : Frz (oP α β) := ⟨fun {K F H v x A} ⟨t, l, w, vs, e, ea, n, h1, r1, h2, r2⟩ s => by
  obtain ⟨a1, a2⟩ := lend h2 s
  obtain ⟨b1, b2⟩ := lend h1 a2
  refine ⟨_, a1.trans b1, b2, ⟨t, w, .ref l, e, upd_same, Fz.mono (a1.trans b1) r1, l, vs, rfl, ?_, Reps.mono (a1.trans b1) r2⟩, fun y m => ?_⟩
  · rw [upd_ne fun z => n z.symm]
    exact upd_same
  · rw [ea] at m
    simp only [List.mem_cons, List.not_mem_nil, or_false, not_or] at m
    rw [upd_ne m.1, upd_ne m.2]⟩
/-- (x, a list of one's own, another one) -/
def oT (α β γ : Type) [Fz α] [Fz β] [Fz γ] : Rp (T3 α (List β) (List γ)) where
  rep K F H v x A := ∃ t l l' w vs vs', v = .ref t ∧ A = [t, l, l'] ∧ t ≠ l ∧ t ≠ l' ∧ l ≠ l' ∧ H t = some (.tup [w, .ref l, .ref l']) ∧ Fz.rep K F w x.a ∧ H l = some (.lst vs) ∧ Reps K F vs x.b ∧ H l' = some (.lst vs') ∧ Reps K F vs' x.c
  stay := fun {K F H F' H' v x A} ⟨t, l, l', w, vs, vs', e, ea, n1, n2, n3, h1, r1, h2, r2, h3, r3⟩ s k => ⟨t, l, l', w, vs, vs', e, ea, n1, n2, n3, by rw [k t (by rw [ea]; simp)]; exact h1, Fz.mono s r1, by rw [k l (by rw [ea]; simp)]; exact h2, Reps.mono s r2, by rw [k l' (by rw [ea]; simp)]; exact h3, Reps.mono s r3⟩
  live := fun {K F H v x A} ⟨t, l, l', w, vs, vs', e, ea, n1, n2, n3, h1, r1, h2, r2, h3, r3⟩ y m => by
    rw [ea] at m
    simp only [List.mem_cons, List.not_mem_nil, or_false] at m
    rcases m with rfl | rfl | rfl
    · rw [h1]; exact Option.some_ne_none _
    · rw [h2]; exact Option.some_ne_none _
    · rw [h3]; exact Option.some_ne_none _
instance {α β γ : Type} [Fz α] [Fz β] [Fz γ] : Frz (oT α β γ) := ⟨fun {K F H v x A} ⟨t, l, l', w, vs, vs', e, ea, n1, n2, n3, h1, r1, h2, r2, h3, r3⟩ s => by
  obtain ⟨a1, a2⟩ := lend h2 s
  obtain ⟨b1, b2⟩ := lend h3 a2
  obtain ⟨c1, c2⟩ := lend h1 b2
  refine ⟨_, (a1.trans b1).trans c1, c2, ⟨t, w, .ref l, .ref l', e, upd_same, Fz.mono ((a1.trans b1).trans c1) r1, ⟨l, vs, rfl, ?_, Reps.mono ((a1.trans b1).trans c1) r2⟩, ⟨l', vs', rfl, ?_, Reps.mono ((a1.trans b1).trans c1) r3⟩⟩, fun y m => ?_⟩
  · rw [upd_ne fun z => n1 z.symm, upd_ne n3]
    exact upd_same
  · rw [upd_ne fun z => n2 z.symm]
    exact upd_same
  · rw [ea] at m
    simp only [List.mem_cons, List.not_mem_nil, or_false, not_or] at m
    rw [upd_ne m.1, upd_ne m.2.2, upd_ne m.2.1]⟩
/-- a list of one's own, or None -/
def oO (β : Type) [Fz β] : Rp (Option (List β)) where
  rep K F H v x A := match x with
    | none => v = .non ∧ A = []
    | some xs => ∃ l vs, v = .ref l ∧ A = [l] ∧ H l = some (.lst vs) ∧ Reps K F vs xs
  stay := fun {K F H F' H' v x A} h s k => by
    cases x with
    | none => exact h
    | some xs =>
      obtain ⟨l, vs, e, ea, h1, r⟩ := h
      exact ⟨l, vs, e, ea, by rw [k l (by rw [ea]; simp)]; exact h1, Reps.mono s r⟩
  live := fun {K F H v x A} h y m => by
    cases x with
    | none => rw [h.2] at m; cases m
    | some xs =>
      obtain ⟨l, vs, e, ea, h1, r⟩ := h
      rw [ea] at m
      rw [List.mem_singleton.mp m, h1]
      exact Option.some_ne_none _
section
variable {C : Ctx} {W : WX} {δx : List Sl} {ρ : Type} {R : Rp ρ} {δ : List Sl} {S T : Type} {α β γ : Type} [Fz α] [Fz β] [Fz γ] {t t2 : TS} {te ti tk ta tb tc : TE} {i : Nat} {F H : Hp} {σ : L2.St} {l : Addr}
/-- a new thing over one of one's own -/
theorem Okk.grow {ω0 ω' : Type} {R0 : Rp ω0} {R' : Rp ω'} {a0 : ω0} {b : ω'} {v0 v' : V} {p : Addr} {o : HO} (ok : Okk C F H (some v0 :: σ) (.ow R0 a0 :: δ)) (hp : H p = none)
    (r : ∀ A, R0.rep C.K F H v0 a0 A → p ∉ A → R'.rep C.K F (upd H p o) v' b (p :: A)) : Okk C F (upd H p o) (some v' :: σ) (.ow R' b :: δ) := by
  have cp : C.H p = none := ok.free hp
  obtain ⟨A, k⟩ := id ok
  obtain ⟨w0, hw0, rp0, hc0⟩ := k.at_ 0 _ rfl
  cases (show some v0 = some w0 from hw0)
  have fp : F p = none := Same.free ok.same hp
  have nA : ∀ j, j < (Sl.ow R0 a0 :: δ).length → p ∉ A j := fun j hj m => by
    obtain ⟨s, hs⟩ : ∃ s, (Sl.ow R0 a0 :: δ)[j]? = some s := ⟨_, List.getElem?_eq_getElem hj⟩
    exact (k.at_ j s hs).live p m hp
  have nB : ∀ j, p ∉ A j := fun j m => nA j (k.off j p m).2 m
  refine ⟨fun j => if j = 0 then p :: A 0 else A j, ⟨k.go.tmp hp, fun q e => ?_, k.len, fun j s e => ?_, fun i j x m m' => ?_, fun i x m => ?_, fun x o' e => ?_⟩⟩
  · obtain ⟨t, f, m⟩ := k.pot q e
    exact ⟨t.upd (fun z => m.2 (z ▸ cp)), f, m⟩
  · cases j with
    | zero =>
      cases e
      refine ⟨v', rfl, r _ rp0 (nB 0), fun x m => ?_⟩
      rcases List.mem_cons.mp m with rfl | m
      · exact cp
      · exact hc0 x m
    | succ j =>
      show SlOk C F _ _ s (if j + 1 = 0 then _ else A (j + 1))
      rw [if_neg (by omega)]
      exact (k.at_ (j + 1) s e).stay (Same.refl _) fun x m => upd_ne fun z => nB (j + 1) (z ▸ m)
  · have key : ∀ {j}, x ∈ (if j = 0 then p :: A 0 else A j) → x = p ∧ j = 0 ∨ x ∈ A j := fun {j} m => by
      by_cases z : j = 0
      · rw [if_pos z] at m
        rcases List.mem_cons.mp m with w | m
        · exact .inl ⟨w, z⟩
        · rw [z]; exact .inr m
      · rw [if_neg z] at m; exact .inr m
    rcases key m with ⟨e, z⟩ | m1 <;> rcases key m' with ⟨e', z'⟩ | m2
    · rw [z, z']
    · exact absurd (e ▸ m2) (nB j)
    · exact absurd (e' ▸ m1) (nB i)
    · exact k.dis i j x m1 m2
  · by_cases z : i = 0
    · simp only [if_pos z] at m
      rcases List.mem_cons.mp m with rfl | m
      · exact ⟨fp, by rw [z]; exact Nat.succ_pos _⟩
      · exact ⟨(k.off 0 x m).1, by rw [z]; exact Nat.succ_pos _⟩
    · simp only [if_neg z] at m
      exact k.off i x m
  · obtain ⟨h1, h2, h3⟩ := k.prt x o' e
    have np : x ≠ p := fun z => by rw [z, hp] at h1; cases h1
    refine ⟨by rw [upd_ne np]; exact h1, h2, fun i m => ?_⟩
    by_cases z : i = 0
    · simp only [if_pos z] at m
      rcases List.mem_cons.mp m with w | m
      · exact np w
      · exact h3 0 m
    · simp only [if_neg z] at m
      exact h3 i m
theorem o_pair {ma : M α} {mb : M (List β)} (ha : JE C W δ ta ma) (hb : JO C W δ (oL β) tb mb) : JO C W δ (oP α β) (tTup (tCons ta (tCons tb tNil))) (ma.bind fun a => mb.bind fun b => M.pure (a, b)) := fun F H σ Q ok q =>
  ha F H σ _ ok (ma.mono (fun a q1 v F1 H1 s1 r1 ok1 => hb F1 H1 σ _ ok1 (mb.mono (fun b q2 u F2 H2 s2 ok2 => ⟨by rw [sizeLine_eq]; show 2 ≤ _; omega, fun p hp => by
    refine q2 _ F2 _ (s1.trans s2) (ok2.grow hp fun A rp nA => ?_)
    obtain ⟨l, vs, rfl, rfl, hl, r2⟩ := rp
    have np : p ≠ l := fun z => nA (by rw [z]; simp)
    exact ⟨p, l, v, vs, rfl, rfl, np, upd_same, Fz.mono s2 r1, by rw [upd_ne fun z => np z.symm]; exact hl, r2⟩⟩) (fun e z => EW.mono s1 z) q1)) (fun _ z => z) q)
/-- x[1].append(c) -/
theorem s_pApp {x : α × List β} {c : β} {v : V} {δ' : S → List Sl} {m : α × List β → M (Fl S ρ)} (hv : ∀ K F, Fz.rep K F v c) (k : ∀ y, JS C W δx R (δ.set i (.ow (oP α β) y)) t2 δ' (m y)) (hx : δ[i]? = some (.ow (oP α β) x) := by rfl) :
    JS C W δx R δ (tSeq (tDrop (tBM C.K "list" rAppend (tOp (rIxT C.K) (tVar i) (tC (.int 1))) (tCons (tC v) tNil))) t2) δ' (M.need (x.2.length < sizeLine) (M.to m (x.1, x.2 ++ [c]))) := fun F H σ D ok q => by
  obtain ⟨A, ka⟩ := id ok
  obtain ⟨u, e, t, l, w, vs, rfl, ea, n, h1, r1, h2, r2⟩ := own_v ka hx
  refine ⟨_, e, t, _, 1, .ref l, rfl, rfl, SqT.of h1, rfl, .inl ⟨rfl, vs, SqL.of h2⟩, l, vs, v, rfl, rfl, h2, by rw [r2.length]; exact q.1, ?_⟩
  have ok2 : Okk C F (upd H l (.lst (vs ++ [v]))) σ (δ.set i (.ow (oP α β) (x.1, x.2 ++ [c]))) := Okk.mutA ka hx (by rw [ea]; simp) (fun u hu _ => by
    cases (show some (V.ref t) = some u from (by rw [e] at hu; exact hu))
    exact ⟨t, l, w, _, rfl, ea, n, by rw [upd_ne n]; exact h1, r1, upd_same, pair_app r2 (.cons (hv _ _) .nil)⟩)
  exact k _ F _ σ D ok2 q.2
/-- x[1].reverse() -/
theorem s_pRev {x : α × List β} {δ' : S → List Sl} {m : α × List β → M (Fl S ρ)} (k : ∀ y, JS C W δx R (δ.set i (.ow (oP α β) y)) t2 δ' (m y)) (hx : δ[i]? = some (.ow (oP α β) x) := by rfl) :
    JS C W δx R δ (tSeq (tDrop (tBM0 C.K "list" rReverse (tOp (rIxT C.K) (tVar i) (tC (.int 1))))) t2) δ' (M.to m (x.1, x.2.reverse)) := fun F H σ D ok q => by
  obtain ⟨A, ka⟩ := id ok
  obtain ⟨u, e, t, l, w, vs, rfl, ea, n, h1, r1, h2, r2⟩ := own_v ka hx
  refine ⟨_, e, t, _, 1, .ref l, rfl, rfl, SqT.of h1, rfl, .inl ⟨rfl, vs, SqL.of h2⟩, l, vs, rfl, rfl, h2, ?_⟩
  have ok2 : Okk C F (upd H l (.lst vs.reverse)) σ (δ.set i (.ow (oP α β) (x.1, x.2.reverse))) := Okk.mutA ka hx (by rw [ea]; simp) (fun u hu _ => by
    cases (show some (V.ref t) = some u from (by rw [e] at hu; exact hu))
    exact ⟨t, l, w, _, rfl, ea, n, by rw [upd_ne n]; exact h1, r1, upd_same, rev_reps r2⟩)
  exact k _ F _ σ D ok2 q
theorem bb_pApp {x : α × List β} {c : β} {v : V} {δ' : S → List Sl} {m : α × List β → M S} (hv : ∀ K F, Fz.rep K F v c) (k : ∀ y, KB C W δx R (δ.set i (.ow (oP α β) y)) t2 δ' (m y)) (hx : δ[i]? = some (.ow (oP α β) x) := by rfl) :
    KB C W δx R δ (tSeq (tDrop (tBM C.K "list" rAppend (tOp (rIxT C.K) (tVar i) (tC (.int 1))) (tCons (tC v) tNil))) t2) δ' (M.need (x.2.length < sizeLine) (M.to m (x.1, x.2 ++ [c]))) := by
  have z := s_pApp (S := S) hv k hx
  exact z
theorem vv_pApp {x : α × List β} {c : β} {v : V} {m : α × List β → M ρ} (hv : ∀ K F, Fz.rep K F v c) (k : ∀ y, KV C W δx R (δ.set i (.ow (oP α β) y)) t2 (m y)) (hx : δ[i]? = some (.ow (oP α β) x) := by rfl) :
    KV C W δx R δ (tSeq (tDrop (tBM C.K "list" rAppend (tOp (rIxT C.K) (tVar i) (tC (.int 1))) (tCons (tC v) tNil))) t2) (M.need (x.2.length < sizeLine) (M.to m (x.1, x.2 ++ [c]))) := by
  have z := s_pApp (S := Empty) hv k hx
  exact z
theorem bb_pRev {x : α × List β} {δ' : S → List Sl} {m : α × List β → M S} (k : ∀ y, KB C W δx R (δ.set i (.ow (oP α β) y)) t2 δ' (m y)) (hx : δ[i]? = some (.ow (oP α β) x) := by rfl) :
    KB C W δx R δ (tSeq (tDrop (tBM0 C.K "list" rReverse (tOp (rIxT C.K) (tVar i) (tC (.int 1))))) t2) δ' (M.to m (x.1, x.2.reverse)) := by
  have z := s_pRev (S := S) k hx
  exact z
theorem vv_pRev {x : α × List β} {m : α × List β → M ρ} (k : ∀ y, KV C W δx R (δ.set i (.ow (oP α β) y)) t2 (m y)) (hx : δ[i]? = some (.ow (oP α β) x) := by rfl) :
    KV C W δx R δ (tSeq (tDrop (tBM0 C.K "list" rReverse (tOp (rIxT C.K) (tVar i) (tC (.int 1))))) t2) (M.to m (x.1, x.2.reverse)) := by
  have z := s_pRev (S := Empty) k hx
  exact z
theorem o_len2 {K : PySem.W.Frag} : Cb1 K (rLenSeq K) fun _ : α × β => M.pure (2 : Int) := fun F H v a Q E s ra q => by
  obtain ⟨l, v1, v2, rfl, e, _⟩ := ra
  exact ⟨l, _, rfl, .inr (SqT.of (s _ _ e)), q _ F H (Go.refl s) rfl⟩
theorem o_len3 {K : PySem.W.Frag} : Cb1 K (rLenSeq K) fun _ : T3 α β γ => M.pure (3 : Int) := fun F H v a Q E s ra q => by
  obtain ⟨l, v1, v2, v3, rfl, e, _⟩ := ra
  exact ⟨l, _, rfl, .inr (SqT.of (s _ _ e)), q _ F H (Go.refl s) rfl⟩
end
end Dc

namespace HT
open PySem PySem.Spec PyProof.Rows
section
variable {prog : Program} {w : World} {A : Around} {E : Value → Shared → Prop} {s : Shared}
theorem sliceApplied_rev2 {sl : Addr} {vs : Value} {Q : Int × Int × Nat → Shared → Prop} (hs : s.heap.IsSliceOf sl .none .none vs) (ps : IsPart vs (some (-1)))
    (h : Q (1, -1, 2) s) : wpAny (model prog w) A (Builtin.Slice.sliceApplied (.ref sl) (pure ((2 : Nat) : Int))) Q E s := by
  obtain ⟨os, hos, hcs, hds⟩ := id hs
  unfold Builtin.Slice.sliceApplied Builtin.Slice.sliceFields
  refine wpAny_bind (wpAny_bind (wpAny_field hos hds (x := .none) rfl (wpAny_bind (wpAny_field hos hds (x := .none) rfl (wpAny_bind (wpAny_field hos hds (x := vs) rfl (wpAny_pure ?_)))))))
  refine wpAny_bind (slicePart_ ps ?_)
  show wpAny _ _ (if ((-1 : Int) == 0) = true then _ else _) _ _ s
  rw [if_neg (by decide)]
  refine wpAny_bind (slicePart_none (wpAny_bind (slicePart_none (wpAny_bind (wpAny_pure ?_)))))
  exact wpAny_pure h
theorem getItem_tuple_rev2 {t sl : Addr} {a b : Value} {vs : Value} {Q : Value → Shared → Prop} (ht : IsTup s.heap t #[a, b]) (hs : s.heap.IsSliceOf sl .none .none vs) (ps : IsPart vs (some (-1)))
    (h : Q (.ref s.heap.objs.size) { s with heap := s.heap.push { cls := .type "tuple", data := .seq #[b, a] } }) : wpAny (model prog w) A (getItem (.ref t) (.ref sl)) Q E s := by
  have htake : sizeOk (.seq #[b, a]) := by
    show 2 ≤ sizeLine
    rw [sizeLine_eq]
    decide
  obtain ⟨os, hos, hcs, hds⟩ := id hs
  have hTs : s.TypeIs (.ref sl) "slice" := ⟨os, hos, hcs⟩
  unfold getItem
  try with_reducible refine wpAny_holding ?_
  first | refine wpAny_bind (wpAny_pure ?_) | skip
  refine wpAny_bind (wpAny_sequenceKey ht.typeIs (by decide) ?_)
  refine wpAny_bind (wpAny_callSpecial?_slot (name := Str.ofString "__getitem__") ht.typeIs PyProof.Rows.slot_tuple_getitem
    (wpAny_call_entry PyProof.Rows.slot_tuple_getitem ht.typeIs entry_tuple_getitem ?_ (args_tuple_getitem _ _)))
  show wpAny _ _ (Builtin.Tuple.tupleItemsOf (.ref t) >>= _) _ _ s
  refine wpAny_bind (tupleItemsOf_ ht ?_)
  refine wpAny_bind (wpAny_typeOf hTs ?_)
  rw [if_pos (by decide)]
  refine wpAny_bind (sliceApplied_rev2 hs ps ?_)
  show wpAny _ _ (if ((1 : Int) == 0 && (-1 : Int) == 1 && (2 : Nat) == 2) = true then _ else _) _ _ s
  rw [if_neg (by decide), show ((List.range 2).filterMap fun (m : Nat) => (#[a, b] : Array Value)[((1 : Int) + (m : Int) * (-1)).toNat]?).toArray = #[b, a] from rfl]
  first
    | exact wpAny_bind (m := Builtin.Tuple.tupleExact _) (wpAny_newObj_type (wpAny_pure ⟨_, rfl, wpAny_pure h⟩) htake)
    | exact wpAny_bind (m := Builtin.Tuple.tupleExact _) (wpAny_newObj_type (wpAny_bind (wpAny_pure (wpAny_pure ⟨_, rfl, wpAny_pure h⟩))) htake)
    | exact wpAny_bind (wpAny_bind (m := Builtin.Tuple.tupleExact _) (wpAny_newObj_type (wpAny_pure (wpAny_pure ⟨_, rfl, wpAny_pure h⟩)) htake))
    | exact wpAny_bind (wpAny_bind (m := Builtin.Tuple.tupleExact _) (wpAny_newObj_type (wpAny_pure ⟨_, rfl, wpAny_pure h⟩) htake))
end
end HT
namespace L2
open PySem PySem.Spec PyProof.Rows
/-- p[::-1] of a pair -/
def tRevP (K : PySem.W.Frag) (te : TE) : TE := fun σ H Q => te σ H fun x H1 => ∃ a u v, x = .ref a ∧ SqT K H1 a [u, v] ∧ ∀ p, H1 p = none → Q (.ref p) (upd H1 p (.tup [v, u]))
theorem pe_revP {X : Cx} {e : Expr} {te : TE} {k : Nat} {p1 p2 p3 pos : Pos} (he : PE X e te) : PE X (.Subscript e (.Slice none none (some (.UnaryOp .USub (.Constant (.int 1) k p1) p2)) p3) pos) (tRevP X.K te) := by
  refine ⟨fun pins s σ H Q I h => ?_⟩
  refine Subscript_ (thn (he.run pins s σ H _ I h) fun v s1 ⟨x, H1, I1, r1, q1⟩ => ?_)
  obtain ⟨a, xu, xv, ex, hx, q⟩ := q1
  subst ex
  cases r1
  have hst : PO X (some (.UnaryOp .USub (.Constant (.int 1) k p1) p2)) (tPart (tUn (rU fun i => .int (-i)) (tC (.int 1)))) := po_some (pe_un un_neg pe_int)
  refine wpAny_Slice (thn (po_none.run pins s1 σ H1 (fun o H2 => o = none ∧ H2 = H1) I1 ⟨rfl, rfl⟩) fun vl s2 ⟨l, H2, I2, pl, el, e2⟩ => ?_)
  subst el e2
  refine thn (po_none.run pins s2 σ H2 (fun o H3 => o = none ∧ H3 = H2) I2 ⟨rfl, rfl⟩) fun vu s3 ⟨u, H3, I3, pu, eu, e3⟩ => ?_
  subst eu e3
  refine thn (hst.run pins s3 σ H3 (fun o H4 => o = some (-1) ∧ H4 = H3) I3 ⟨1, rfl, -1, rfl, rfl, rfl⟩) fun vs s4 ⟨o, H4, I4, ps, eo, e4⟩ => ?_
  subst eo e4
  cases pl
  cases pu
  have I5 : Inv X pins σ H4 { s4 with heap := s4.heap.push { cls := .type "slice", data := .fields #[.none, .none, vs] } } := I4.kept (t' := s4.toks) fun b ob q => Heap.get?_push_of_some _ q
  obtain ⟨its, r, ht, hz⟩ := I5.tuple hx
  cases r with
  | cons ru rt =>
    cases rt with
    | cons rv rn =>
      cases rn
      show wpAny (model X.prog X.w) X.A (subscriptTail e (.Slice none none (some (.UnaryOp .USub (.Constant (.int 1) k p1) p2)) p3) (.ref a) (.ref s4.heap.objs.size)) (EP X pins σ Q) X.xe { s4 with heap := s4.heap.push { cls := .type "slice", data := .fields #[.none, .none, vs] } }
      refine tail_any (ops := [.ref a, .ref s4.heap.objs.size]) ht.typeIs (PyProof.Rows.slot_tuple_getitem.lookup) ?_ (by with_unfolding_all rfl)
      refine HT.getItem_tuple_rev2 ht (Heap.IsSliceOf.new _ .none .none vs) ps ?_
      refine ⟨.ref _, _, I5.laid (t' := s4.toks) (o := .tup [xv, xu]) (fun b ob q => Heap.get?_push_of_some _ q) (Nat.le_refl _) ?_, rfl, q _ (I5.hok.fresh (Nat.le_refl _))⟩
      exact ⟨hz, _, .cons rv (.cons ru .nil), IsTup.new _ _⟩
end L2
namespace Dc
open PySem PySem.Spec PyProof.Rows L2 ToD
theorem e_revP {C : Ctx} {W : WX} {δ : List Sl} {α β : Type} [Fz α] [Fz β] {te : TE} {m : M (α × β)} (h : JE C W δ te m) : JE C W δ (tRevP C.K te) (m.bind fun x => M.pure (x.2, x.1)) := fun F H σ Q ok q => h F H σ _ ok (m.mono (fun x q1 v F1 H1 s1 rp ok1 => by
  obtain ⟨l, v1, v2, rfl, e, r1, r2⟩ := rp
  refine ⟨l, v1, v2, rfl, SqT.of (ok1.same _ _ e), fun p hp => ?_⟩
  have s2 := Same.new (o := .tup [v2, v1]) (Same.free ok1.same hp)
  exact q1 _ _ _ (s1.trans s2) ⟨p, v2, v1, rfl, upd_same, Fz.mono s2 r2, Fz.mono s2 r1⟩ (ok1.newF hp)) (fun _ z => z) q)
end Dc

namespace Dc
open PySem PySem.Spec PyProof.Rows L2 ToD
/-! ## a list of texts that was not there at the beginning: a def may hand it out as one's own -/
def NewT (F0 : Hp) : Type := List Str
instance (F0 : Hp) : Fz (NewT F0) := Fz.mk' (fun K F v (x : List Str) => ∃ l, v = .ref l ∧ F l = some (.lst (x.map V.str)) ∧ F0 l = none) fun s ⟨l, e, h, n⟩ => ⟨l, e, s _ _ h, n⟩
/-- None, or a list of texts that was not there at the beginning -/
def oNew (F0 : Hp) : Rp (Option (List Str)) := ⟨fun K F _ v a A => A = [] ∧ match a with
    | none => v = .non
    | some xs => ∃ l, v = .ref l ∧ F l = some (.lst (xs.map V.str)) ∧ F0 l = none,
  fun {K F H F' H' v a A} ⟨e, h⟩ s _ => ⟨e, by
    cases a with
    | none => exact h
    | some xs =>
      obtain ⟨l, e1, e2, n⟩ := h
      exact ⟨l, e1, s _ _ e2, n⟩⟩, fun ⟨e, _⟩ x m => by rw [e] at m; cases m⟩
instance {β : Type} [Fz β] : Frz (oO β) := ⟨fun {K F H v x A} h s => by
  cases x with
  | none =>
    obtain ⟨e, ea⟩ := h
    exact ⟨F, Same.refl _, s, e, fun _ _ => rfl⟩
  | some xs =>
    obtain ⟨l, vs, e, ea, h1, r⟩ := h
    obtain ⟨a1, a2⟩ := lend h1 s
    refine ⟨_, a1, a2, ?_, fun y m => ?_⟩
    · exact ⟨l, vs, e, upd_same, Reps.mono a1 r⟩
    · rw [ea] at m
      exact upd_ne fun z => m (by rw [z]; simp)⟩
section
variable {C : Ctx} {W : WX} {δx : List Sl} {ρ : Type} {R : Rp ρ} {δ : List Sl} {S T : Type} {α β γ : Type} [Fz α] [Fz β] [Fz γ] {t t2 : TS} {te ti tk ta tb tc : TE} {i : Nat} {F H F0 : Hp} {σ : L2.St} {l : Addr}
theorem e_newL {m : M (List Str)} (h : JE (α := NewT F0) C W δ te m) : JE C W δ te m := fun F H σ Q ok q => h F H σ Q ok (M.mono m (fun a z v F' H' s rp ok' => by
  obtain ⟨l, e, h1, _⟩ := rp
  exact z v F' H' s ⟨l, _, e, h1, reps_strs _⟩ ok') (fun _ z => z) q)
theorem o_new {m : M (List Str)} (h : JE (α := NewT F0) C W δ te m) : JO C W δ (oNew F0) te (m.bind fun x => M.pure (some x)) := fun F H σ Q ok q => h F H σ Q ok (M.mono m (fun a z v F' H' s rp ok' => by
  obtain ⟨l, e, h1, n⟩ := rp
  exact z v F' H' s (ok'.push (B := []) (Go.refl ok'.same) ⟨rfl, l, e, h1, n⟩ fun x m => nomatch m)) (fun _ z => z) q)
theorem o_newN : JO C W δ (oNew F0) (tC .non) (M.pure none) := fun F H σ Q ok q => q _ F H (Same.refl _) (ok.push (B := []) (Go.refl ok.same) ⟨rfl, rfl⟩ fun x m => nomatch m)
theorem post_new {K : PySem.W.Frag} {m : M (Option (List Str))} {Q : VK} {E : XK} (s : Same F H) (h : Post K M0 none F H (oO Str) m Q E) : Post K M0 none F H (oNew F) m Q E :=
  m.mono (fun r q v F' H' A g pt rp fr => by
    obtain ⟨_, rp⟩ := rp
    have g2 : Go M0 F H F H' := ⟨Same.refl _, g.ff.trans g.fh, g.hh, fun b e _ => e, g.th⟩
    cases r with
    | none => exact q v F H' [] g2 pt ⟨rp, rfl⟩ fun x m => nomatch m
    | some xs =>
      obtain ⟨l, e1, e2, n⟩ := rp
      refine q v F H' [l] g2 pt ⟨l, _, e1, rfl, g.fh _ _ e2, reps_strs _⟩ fun x m => ?_
      rw [List.mem_singleton.mp m]
      refine ⟨n, ?_⟩
      cases hl : H l with
      | none => rfl
      | some o =>
        have := g.oo l n (by rw [hl]; exact Option.some_ne_none _)
        rw [this] at e2
        cases e2) (fun e z => z) h
/-- x.append(c), x a list of one's own where it is one -/
theorem s_oApp {x : Option (List β)} {c : β} {v : V} {δ' : S → List Sl} {m : Option (List β) → M (Fl S ρ)} (hv : ∀ K F, Fz.rep K F v c) (k : ∀ y, JS C W δx R (δ.set i (.ow (oO β) y)) t2 δ' (m y)) (hx : δ[i]? = some (.ow (oO β) x) := by rfl) :
    JS C W δx R δ (tSeq (tDrop (tBM C.K "list" rAppend (tVar i) (tCons (tC v) tNil))) t2) δ' ((M.ofOpt x).bind fun xs => M.need (xs.length < sizeLine) (M.to m (some (xs ++ [c])))) := fun F H σ D ok q => by
  obtain ⟨A, ka⟩ := id ok
  obtain ⟨u, e, rp⟩ := own_v ka hx
  cases x with
  | none => exact q.elim
  | some xs =>
    obtain ⟨l, vs, rfl, ea, h1, r⟩ := rp
    refine ⟨_, e, .inl ⟨rfl, vs, SqL.of h1⟩, l, vs, v, rfl, rfl, h1, by rw [r.length]; exact q.1, ?_⟩
    have ok2 : Okk C F (upd H l (.lst (vs ++ [v]))) σ (δ.set i (.ow (oO β) (some (xs ++ [c])))) := Okk.mutA ka hx (by rw [ea]; simp) (fun u hu _ => by
      cases (show some (V.ref l) = some u from (by rw [e] at hu; exact hu))
      exact ⟨l, _, rfl, ea, upd_same, pair_app r (.cons (hv _ _) .nil)⟩)
    exact k _ F _ σ D ok2 q.2
theorem bb_oApp {x : Option (List β)} {c : β} {v : V} {δ' : S → List Sl} {m : Option (List β) → M S} (hv : ∀ K F, Fz.rep K F v c) (k : ∀ y, KB C W δx R (δ.set i (.ow (oO β) y)) t2 δ' (m y)) (hx : δ[i]? = some (.ow (oO β) x) := by rfl) :
    KB C W δx R δ (tSeq (tDrop (tBM C.K "list" rAppend (tVar i) (tCons (tC v) tNil))) t2) δ' ((M.ofOpt x).bind fun xs => M.need (xs.length < sizeLine) (M.to m (some (xs ++ [c])))) := by
  have z := s_oApp (S := S) hv k hx
  exact z
theorem vv_oApp {x : Option (List β)} {c : β} {v : V} {m : Option (List β) → M ρ} (hv : ∀ K F, Fz.rep K F v c) (k : ∀ y, KV C W δx R (δ.set i (.ow (oO β) y)) t2 (m y)) (hx : δ[i]? = some (.ow (oO β) x) := by rfl) :
    KV C W δx R δ (tSeq (tDrop (tBM C.K "list" rAppend (tVar i) (tCons (tC v) tNil))) t2) ((M.ofOpt x).bind fun xs => M.need (xs.length < sizeLine) (M.to m (some (xs ++ [c])))) := by
  have z := s_oApp (S := Empty) hv k hx
  exact z
end
end Dc

namespace L2
open PySem PySem.Spec PyProof.Rows
section
variable {X : Cx}
/-- statements that are never come to -/
theorem pss_dead {sts : List Stmt} : PSs X sts tNever := ⟨fun _ _ _ _ _ _ h => h.elim⟩
/-- dict(zip(xs, ys)) of two lists -/
def tDictZ (K : PySem.W.Frag) (ta : TA) : TE := fun σ H Q => ta σ H fun vs H1 => ∃ (a b : Addr) (ks : List Key) (ys : List V), vs = [.ref a, .ref b] ∧ SqL K H1 a (ks.map kV) ∧ SqL K H1 b ys ∧
  ∀ p, H1 p = none → Q (.ref p) (upd H1 p (.dK (mergeK [] (ks.zip ys))))
theorem kv_zip : ∀ {ks : List Key} {us : List Value} {ys : List V} {ws : List Value}, Vals (ks.map kV) us → Vals ys ws →
    KV (ks.zip ys) (ks.zip ws) ∧ (ks.zip ws).length = min us.length ws.length ∧ ∀ (i : Nat) (u v : Value), us[i]? = some u → ws[i]? = some v → ∃ k, (ks.zip ws)[i]? = some (k, v) ∧ RelV (kV k) u
  | [], us, ys, ws, r, r2 => by
    cases r
    exact ⟨.nil, by simp, fun i u v e => by simp at e⟩
  | k :: ks, us, [], ws, r, r2 => by
    cases r2
    refine ⟨.nil, by simp, fun i u v _ e => by simp at e⟩
  | k :: ks, us, y :: ys, ws, r, r2 => by
    cases r with
    | cons h t =>
      cases r2 with
      | cons h2 t2 =>
        obtain ⟨a, b, c⟩ := kv_zip t t2
        refine ⟨.cons ⟨rfl, h2⟩ a, by simp [b], fun i u v e e2 => ?_⟩
        cases i with
        | zero =>
          cases e
          cases e2
          exact ⟨k, rfl, h⟩
        | succ i =>
          obtain ⟨k', e3, r3⟩ := c i u v (by simpa using e) (by simpa using e2)
          exact ⟨k', by simpa using e3, r3⟩
theorem pe_dictZ {e e2 : Expr} {ta : TA} {p p2 pos pos2 : Pos} (hcalm : X.calm = true) (hg : Gl X "dict") (hm : X.mg "dict" = none) (hg2 : Gl X "zip") (hm2 : X.mg "zip" = none) (ha : PA X [e, e2] ta)
    (hz : starEach [.Call (.Name "zip" p2) [e, e2] [] pos2] X.env = (false, eval (.Call (.Name "zip" p2) [e, e2] [] pos2) X.env) :: starEach [] X.env := by rfl) (hzl : (backTo pos (starEach [] X.env)).any (·.1) = false := by rfl)
    (hs : starEach [e, e2] X.env = (false, eval e X.env) :: starEach [e2] X.env := by rfl) (hpl : (backTo pos2 (starEach [e2] X.env)).any (·.1) = false := by rfl) :
    PE X (.Call (.Name "dict" p) [.Call (.Name "zip" p2) [e, e2] [] pos2] [] pos) (tDictZ X.K ta) := by
  refine ⟨fun pins s σ H Q I h => ?_⟩
  refine wpAny_Call_Name_kw (ld_blt I hg hm PyProof.Rows.boot_dict ?_)
  refine PyProof.Rows.callWith_type1 ?_ hz hzl
  rw [hz]
  show wpAny _ _ (spliced ((false, eval (.Call (.Name "zip" p2) [e, e2] [] pos2) X.env) :: backTo pos (starEach [] X.env))) _ _ s
  refine Calls.spliced_cons ?_
  refine Call_ (ld_blt I hg2 hm2 PyProof.Rows.boot_zip (PyProof.Rows.callWith_type1 (thn (ha.run pos2 pins s σ H _ I h) fun us s1 ⟨vs, H1, I1, r1, q1⟩ => ?_) hs hpl))
  obtain ⟨a, b, ks, ys, ex, hqx, hqy, q⟩ := q1
  subst ex
  cases r1 with
  | cons r rr =>
    cases rr with
    | cons r' rr =>
      cases rr
      cases r
      cases r'
      obtain ⟨its, rv, p1, hz1⟩ := I1.list hqx
      obtain ⟨its2, rv2, p2', hz2⟩ := I1.list hqy
      have la : a < s1.heap.objs.size := p1.lt
      have lb : b < s1.heap.objs.size := p2'.lt
      refine call_zip_2 p1.isList p2'.isList fun h' hz hTI hTO h1 h2 hsz hk => ?_
      refine Calls.spliced_nil ?_
      obtain ⟨rel, hlen, hget⟩ := kv_zip rv rv2
      have hl1 : its.length = ks.length := by have := rv.length; rw [List.length_map] at this; exact this.symm
      refine PySem.call_dict_pairs (knd := mixKind X.prog X.w) (kvs := ks.zip its2) (PairArg.zip (s1.heap.objs.size + 4) (s1.heap.objs.size + 2) (s1.heap.objs.size + 3) s1.heap.objs.size (s1.heap.objs.size + 1) a b (PySem.W.ktu_apart s1.heap.objs.size a b la lb) its.toArray its2.toArray)
        (I1.ok.hd hcalm) ⟨hz, hTI, ⟨_, _, hTO⟩, h1, h2, p1.isList.at fun o e => hk _ _ e, p2'.isList.at fun o e => hk _ _ e⟩ ⟨by rw [hlen, List.size_toArray, List.size_toArray], fun i key v hr => ?_⟩ ?_ fun h3 tk hd hk3 => ?_
      · obtain ⟨e1, e2⟩ := hr
        obtain ⟨k, e3, rk⟩ := hget i key v (by simpa using e1) (by simpa using e2)
        exact ⟨k, e3, kV_is rk⟩
      · rw [List.size_toArray, List.size_toArray]
        have := hz2
        have := rv2.length
        omega
      · have kk : ∀ b o, s1.heap.get? b = some o → h3.get? b = some o := fun b o e => hk3 b o (fun m => by
          have lt := Heap.lt_size e
          simp only [List.mem_cons, List.not_mem_nil, or_false] at m
          rcases m with rfl | rfl | rfl | rfl <;> first | exact Nat.lt_irrefl _ lt | exact Nat.not_lt.mpr (Nat.le_add_right _ _) lt) (hk b o e)
        have hm : ((s1.heap.objs.size + 5) == sysModules) = false := beq_eq_false_iff_ne.mpr (Nat.ne_of_gt (Nat.lt_of_lt_of_le I1.big (Nat.le_add_right _ _)))
        have hln : (mergeK [] (ks.zip ys)).length ≤ sizeLine := by
          refine Nat.le_trans (length_mergeK _ []) ?_
          rw [List.length_nil, Nat.zero_add, List.length_zip]
          have := rv2.length
          omega
        have es : (Shared.heap { s1 with heap := h' }).objs.size = s1.heap.objs.size + 5 := hsz
        rw [es] at hd ⊢
        exact ⟨.ref (s1.heap.objs.size + 5), upd H1 (s1.heap.objs.size + 5) (.dK (mergeK [] (ks.zip ys))), I1.laid (t' := tk) kk (Nat.le_add_right _ _) (show ObjOk X.prog X.w _ _ _ (.dK (mergeK [] (ks.zip ys))) from ⟨hln, hm, merged [] (ks.zip its2), KV.merge rel .nil, hd⟩), rfl, q _ (I1.hok.fresh (Nat.le_add_right _ _))⟩
end
end L2
namespace Dc
open PySem PySem.Spec PyProof.Rows L2 ToD
section
variable {C : Ctx} {W : WX} {δ : List Sl} {ta tb : TE} {α β : Type} [Fz α] [DecidableEq α] [Ky α] [Fz β]
theorem keys_reps {K : PySem.W.Frag} {F : Hp} : ∀ {vs : List V} {xs : List α}, Reps K F vs xs → vs = (xs.map Ky.key).map kV
  | _, _, .nil => rfl
  | _, _, .cons r t => by
    rw [Ky.rep r, keys_reps t]
    rfl
theorem zip_kvs {K : PySem.W.Frag} {F : Hp} : ∀ {xs : List α} {ws : List V} {ys : List β}, Reps K F ws ys → KVs K F ((xs.map Ky.key).zip ws) (xs.zip ys)
  | [], _, _, _ => .nil
  | x :: xs, _, _, .nil => .nil
  | x :: xs, _, _, .cons r t => .cons ⟨rfl, r⟩ (zip_kvs t)
/-- dict(zip(xs, ys)) -/
theorem d_zip {ma : M (List α)} {mb : M (List β)} (h : JE C W δ ta ma) (k : JE C W δ tb mb) : JD C W δ (tDictZ C.K (tCons ta (tCons tb tNil))) (ma.bind fun xs => mb.bind fun ys => M.pure ⟨dMerge [] (xs.zip ys)⟩) := fun F H σ Q ok q => h F H σ _ ok (ma.mono (fun xs q1 v F1 H1 s1 r1 ok1 => k F1 H1 σ _ ok1 (mb.mono (fun ys q2 w F2 H2 s2 r2 ok2 => by
  obtain ⟨l1, vs1, rfl, e1, rr1⟩ := Fz.mono s2 r1
  obtain ⟨l2, vs2, rfl, e2, rr2⟩ := r2
  have ev := keys_reps rr1
  subst ev
  exact ⟨l1, l2, _, vs2, rfl, SqL.of (ok2.same _ _ e1), SqL.of (ok2.same _ _ e2), fun p hp => q2 p _ F2 H2 (s1.trans s2) ok2 hp (kv_merge (zip_kvs rr2) .nil)⟩) (fun e z => EW.mono s1 z) q1)) (fun _ z => z) q)
end
end Dc

namespace Dc
open PySem PySem.Spec PyProof.Rows L2 ToD
section
variable {C : Ctx} {W : WX} {δx : List Sl} {ρ : Type} {R : Rp ρ} {δ : List Sl} {S T : Type} {α β γ : Type} [Fz α] [Fz β] [Fz γ] {t t2 : TS} {te ti tk ta tb tc : TE} {i j : Nat} {F H : Hp} {σ : L2.St} {l : Addr}
theorem own_oL {xs : List β} {A : Nat → List Addr} (k : Ok' C F H σ δ A) (h : δ[i]? = some (.ow (oL β) xs)) : ∃ l vs, σ[i]? = some (some (.ref l)) ∧ A i = [l] ∧ H l = some (.lst vs) ∧ Reps C.K F vs xs ∧ C.H l = none := by
  obtain ⟨v, e, ⟨l, vs, rfl, ea, hl, r⟩, hc⟩ := k.at_ i _ h
  refine ⟨l, vs, ?_, ea, hl, r, hc l (by rw [ea]; simp)⟩
  cases hs : σ[i]? with
  | none =>
    rw [hs] at e
    cases e
  | some o =>
    rw [hs] at e
    rw [show o = some (.ref l) from e]
/-- return (e, x, y), x and y lists of one's own -/
theorem s_retT {δ' : S → List Sl} {ma : M α} {xs : List β} {ys : List γ} (w : Wk δ δx) (ij : i ≠ j) (ha : JE C W δ ta ma) (hx : δ[i]? = some (.ow (oL β) xs) := by rfl) (hy : δ[j]? = some (.ow (oL γ) ys) := by rfl) :
    JS C W δx (oT α β γ) δ (tRet (tTup (tCons ta (tCons (tVar i) (tCons (tVar j) tNil))))) δ' (ma.bind fun a => M.pure (Fl.rt (T3.mk a xs ys))) := fun F H σ D ok q =>
  ha F H σ _ ok (ma.mono (fun a q1 v F1 H1 s1 r1 ok1 => by
    obtain ⟨A, k⟩ := id ok1
    obtain ⟨l1, vs1, e1, a1, h1, rr1, c1⟩ := own_oL k hx
    obtain ⟨l2, vs2, e2, a2, h2, rr2, c2⟩ := own_oL k hy
    have n12 : l1 ≠ l2 := fun z => ij (k.dis i j l1 (by rw [a1]; simp) (by rw [a2, z]; simp))
    refine ⟨_, e1, _, e2, by rw [sizeLine_eq]; show 3 ≤ _; omega, fun p hp => q1 _ F1 _ s1 ?_⟩
    have np1 : p ≠ l1 := fun z => by rw [z, h1] at hp; cases hp
    have np2 : p ≠ l2 := fun z => by rw [z, h2] at hp; cases hp
    have cp : C.H p = none := ok1.free hp
    have fp : F1 p = none := Same.free ok1.same hp
    have mem : ∀ x, x ∈ [p, l1, l2] → F1 x = none ∧ C.H x = none := fun x m => by
      simp only [List.mem_cons, List.not_mem_nil, or_false] at m
      rcases m with rfl | rfl | rfl
      · exact ⟨fp, cp⟩
      · exact ⟨(k.off i x (by rw [a1]; simp)).1, c1⟩
      · exact ⟨(k.off j x (by rw [a2]; simp)).1, c2⟩
    refine ⟨fun n => if n = 0 then [p, l1, l2] else [], ⟨k.go.tmp hp, fun q' e => ?_, rfl, fun n s e => ?_, fun n n' x m m' => ?_, fun n x m => ?_, fun x o e => ?_⟩⟩
    · obtain ⟨t, f, m⟩ := k.pot q' e
      exact ⟨t.upd (fun z => m.2 (z ▸ cp)), f, m⟩
    · cases n with
      | zero =>
        cases e
        refine ⟨.ref p, rfl, ⟨p, l1, l2, v, vs1, vs2, rfl, rfl, np1, np2, n12, upd_same, r1, ?_, rr1, ?_, rr2⟩, fun x m => (mem x m).2⟩
        · rw [upd_ne fun z => np1 z.symm]; exact h1
        · rw [upd_ne fun z => np2 z.symm]; exact h2
      | succ n => cases e
    · by_cases z : n = 0
      · by_cases y : n' = 0
        · rw [z, y]
        · simp only [if_neg y] at m'
          cases m'
      · simp only [if_neg z] at m
        cases m
    · by_cases z : n = 0
      · simp only [if_pos z] at m
        rw [z]
        exact ⟨(mem x m).1, Nat.succ_pos _⟩
      · simp only [if_neg z] at m
        cases m
    · obtain ⟨g1, g2, g3⟩ := k.prt x o e
      have np : x ≠ p := fun z => by rw [z, hp] at g1; cases g1
      refine ⟨by rw [upd_ne np]; exact g1, g2, fun n m => ?_⟩
      by_cases z : n = 0
      · simp only [if_pos z, List.mem_cons, List.not_mem_nil, or_false] at m
        rcases m with m | m | m
        · exact np m
        · exact g3 i (by rw [a1, m]; simp)
        · exact g3 j (by rw [a2, m]; simp)
      · simp only [if_neg z] at m
        cases m) (fun e z => XQ.ew w z) q)
theorem vv_retT {ma : M α} {xs : List β} {ys : List γ} (w : Wk δ δx) (ij : i ≠ j) (ha : JE C W δ ta ma) (hx : δ[i]? = some (.ow (oL β) xs) := by rfl) (hy : δ[j]? = some (.ow (oL γ) ys) := by rfl) :
    KV C W δx (oT α β γ) δ (tRet (tTup (tCons ta (tCons (tVar i) (tCons (tVar j) tNil))))) (ma.bind fun a => M.pure (T3.mk a xs ys)) := by
  have z := s_retT (δ' := fun _ : Empty => δx) w ij ha hx hy
  exact z
/-- x[1].append(c) of a triple -/
theorem s_tApp1 {x : T3 α (List β) (List γ)} {c : β} {v : V} {δ' : S → List Sl} {m : T3 α (List β) (List γ) → M (Fl S ρ)} (hv : ∀ K F, Fz.rep K F v c) (k : ∀ y, JS C W δx R (δ.set i (.ow (oT α β γ) y)) t2 δ' (m y)) (hx : δ[i]? = some (.ow (oT α β γ) x) := by rfl) :
    JS C W δx R δ (tSeq (tDrop (tBM C.K "list" rAppend (tOp (rIxT C.K) (tVar i) (tC (.int 1))) (tCons (tC v) tNil))) t2) δ' (M.need (x.b.length < sizeLine) (M.to m (T3.mk x.a (x.b ++ [c]) x.c))) := fun F H σ D ok q => by
  obtain ⟨A, ka⟩ := id ok
  obtain ⟨u, e, t, l, l', w, vs, vs', rfl, ea, n1, n2, n3, h1, r1, h2, r2, h3, r3⟩ := own_v ka hx
  refine ⟨_, e, t, _, 1, .ref l, rfl, rfl, SqT.of h1, rfl, .inl ⟨rfl, vs, SqL.of h2⟩, l, vs, v, rfl, rfl, h2, by rw [r2.length]; exact q.1, ?_⟩
  have ok2 : Okk C F (upd H l (.lst (vs ++ [v]))) σ (δ.set i (.ow (oT α β γ) (T3.mk x.a (x.b ++ [c]) x.c))) := Okk.mutA ka hx (by rw [ea]; simp) (fun u hu _ => by
    cases (show some (V.ref t) = some u from (by rw [e] at hu; exact hu))
    exact ⟨t, l, l', w, _, _, rfl, ea, n1, n2, n3, by rw [upd_ne n1]; exact h1, r1, upd_same, pair_app r2 (.cons (hv _ _) .nil), by rw [upd_ne fun z => n3 z.symm]; exact h3, r3⟩)
  exact k _ F _ σ D ok2 q.2
/-- x[2].clear() of a triple -/
theorem s_tClr2 {x : T3 α (List β) (List γ)} {δ' : S → List Sl} {m : T3 α (List β) (List γ) → M (Fl S ρ)} (k : ∀ y, JS C W δx R (δ.set i (.ow (oT α β γ) y)) t2 δ' (m y)) (hx : δ[i]? = some (.ow (oT α β γ) x) := by rfl) :
    JS C W δx R δ (tSeq (tDrop (tBM0 C.K "list" rClear (tOp (rIxT C.K) (tVar i) (tC (.int 2))))) t2) δ' (M.to m (T3.mk x.a x.b [])) := fun F H σ D ok q => by
  obtain ⟨A, ka⟩ := id ok
  obtain ⟨u, e, t, l, l', w, vs, vs', rfl, ea, n1, n2, n3, h1, r1, h2, r2, h3, r3⟩ := own_v ka hx
  refine ⟨_, e, t, _, 2, .ref l', rfl, rfl, SqT.of h1, rfl, .inl ⟨rfl, vs', SqL.of h3⟩, l', vs', rfl, rfl, h3, ?_⟩
  have ok2 : Okk C F (upd H l' (.lst [])) σ (δ.set i (.ow (oT α β γ) (T3.mk x.a x.b []))) := Okk.mutA ka hx (by rw [ea]; simp) (fun u hu _ => by
    cases (show some (V.ref t) = some u from (by rw [e] at hu; exact hu))
    exact ⟨t, l, l', w, _, _, rfl, ea, n1, n2, n3, by rw [upd_ne n2]; exact h1, r1, by rw [upd_ne n3]; exact h2, r2, upd_same, .nil⟩)
  exact k _ F _ σ D ok2 q
theorem bb_tApp1 {x : T3 α (List β) (List γ)} {c : β} {v : V} {δ' : S → List Sl} {m : T3 α (List β) (List γ) → M S} (hv : ∀ K F, Fz.rep K F v c) (k : ∀ y, KB C W δx R (δ.set i (.ow (oT α β γ) y)) t2 δ' (m y)) (hx : δ[i]? = some (.ow (oT α β γ) x) := by rfl) :
    KB C W δx R δ (tSeq (tDrop (tBM C.K "list" rAppend (tOp (rIxT C.K) (tVar i) (tC (.int 1))) (tCons (tC v) tNil))) t2) δ' (M.need (x.b.length < sizeLine) (M.to m (T3.mk x.a (x.b ++ [c]) x.c))) := by
  have z := s_tApp1 (S := S) hv k hx
  exact z
theorem bb_tClr2 {x : T3 α (List β) (List γ)} {δ' : S → List Sl} {m : T3 α (List β) (List γ) → M S} (k : ∀ y, KB C W δx R (δ.set i (.ow (oT α β γ) y)) t2 δ' (m y)) (hx : δ[i]? = some (.ow (oT α β γ) x) := by rfl) :
    KB C W δx R δ (tSeq (tDrop (tBM0 C.K "list" rClear (tOp (rIxT C.K) (tVar i) (tC (.int 2))))) t2) δ' (M.to m (T3.mk x.a x.b [])) := by
  have z := s_tClr2 (S := S) k hx
  exact z
end
end Dc

namespace L2
open PySem
theorem Room.units65 {k : Nat} {A : Around} (r : Room k A) : A.units + 65 < cLine := by have := r.un; omega
end L2
namespace Dc
open PySem PySem.Spec PyProof.Rows L2 ToD
/-! x in xs, of data -/
section
variable {K : PySem.W.Frag} {α : Type} [Fz α] [ToD α]
def inDM (a : α) (xs : List α) : M Bool := M.need (SeqAt.shaped (toD a) = true ∧ SeqAt.shaped (toD xs) = true) (M.pure ((xs.map toD).any fun z => PyData.eqv z (toD a)))
def notInDM (a : α) (xs : List α) : M Bool := M.need (SeqAt.shaped (toD a) = true ∧ SeqAt.shaped (toD xs) = true) (M.pure (!(xs.map toD).any fun z => PyData.eqv z (toD a)))
theorem o_inD : Op2 K (rInD K) fun (a : α) (xs : List α) => inDM a xs := fun F H v w a b Q E s ra rb q => ⟨toD a, b.map toD, dp s ra, dp s rb, q.1.1, q.1.2, q.2 _ F H (Go.refl s) rfl⟩
theorem o_notInD : Op2 K (rNotInD K) fun (a : α) (xs : List α) => notInDM a xs := fun F H v w a b Q E s ra rb q => ⟨toD a, b.map toD, dp s ra, dp s rb, q.1.1, q.1.2, q.2 _ F H (Go.refl s) rfl⟩
theorem anyD [DecidableEq α] [EqD α] (a : α) : ∀ xs : List α, ((xs.map toD).any fun z => PyData.eqv z (toD a)) = decide (a ∈ xs)
  | [] => rfl
  | x :: xs => by
    rw [List.map_cons, List.any_cons, anyD a xs, EqD.eq]
    by_cases e : x = a
    · subst e
      simp
    · have e2 : ¬ a = x := fun z => e z.symm
      simp [e, e2]
theorem anyD_T [DecidableEq α] [EqD α] {a : α} {xs : List α} (h : a ∈ xs) : ((xs.map toD).any fun z => PyData.eqv z (toD a)) = true := by
  rw [anyD]
  exact decide_eq_true h
theorem anyD_F [DecidableEq α] [EqD α] {a : α} {xs : List α} (h : a ∉ xs) : ((xs.map toD).any fun z => PyData.eqv z (toD a)) = false := by
  rw [anyD]
  exact decide_eq_false h
section
variable [DecidableEq α] [EqD α] [Shp α] {a : α} {xs : List α} (h1 : Shp.ok a) (h2 : Shp.ok xs)
include h1 h2
theorem inDM_T (h : a ∈ xs) (hd : Shp.dep α ≤ 63 := by decide) : inDM a xs = M.pure true := by
  unfold inDM
  rw [M.need_true ⟨Shp.shaped h1 (Nat.le_trans hd (by decide)), Shp.shaped h2 (Nat.succ_le_succ hd)⟩, anyD_T h]
theorem inDM_F (h : a ∉ xs) (hd : Shp.dep α ≤ 63 := by decide) : inDM a xs = M.pure false := by
  unfold inDM
  rw [M.need_true ⟨Shp.shaped h1 (Nat.le_trans hd (by decide)), Shp.shaped h2 (Nat.succ_le_succ hd)⟩, anyD_F h]
theorem notInDM_T (h : a ∈ xs) (hd : Shp.dep α ≤ 63 := by decide) : notInDM a xs = M.pure false := by
  unfold notInDM
  rw [M.need_true ⟨Shp.shaped h1 (Nat.le_trans hd (by decide)), Shp.shaped h2 (Nat.succ_le_succ hd)⟩, anyD_T h]
  rfl
theorem notInDM_F (h : a ∉ xs) (hd : Shp.dep α ≤ 63 := by decide) : notInDM a xs = M.pure true := by
  unfold notInDM
  rw [M.need_true ⟨Shp.shaped h1 (Nat.le_trans hd (by decide)), Shp.shaped h2 (Nat.succ_le_succ hd)⟩, anyD_F h]
  rfl
end
end
theorem M.seqX {α β : Type} {m : M α} {f : α → M β} {P : α → Prop} {Q : β → Prop} {E : Exn → Prop} (h : m.run P fun _ => False) (k : ∀ a, P a → (f a).run Q E) : (m.nx.bind f).run Q E := m.mono k (fun _ z => z.elim) h
theorem neU_self {u : U} {n k : Nat} (h : ShwU n k u) (hk : k ≤ 50 := by decide) : neU u u = M.pure false := by
  obtain ⟨d, e, w⟩ := h
  unfold neU
  rw [e]
  show M.need _ _ = _
  rw [M.need_true ⟨w.shaped hk, w.shaped hk⟩, w.refl_]
  rfl
theorem eqU_self {u : U} {n k : Nat} (h : ShwU n k u) (hk : k ≤ 50 := by decide) : eqU u u = M.pure true := by
  obtain ⟨d, e, w⟩ := h
  unfold eqU
  rw [e]
  show M.need _ _ = _
  rw [M.need_true ⟨w.shaped hk, w.shaped hk⟩, w.refl_]
end Dc

namespace L2
open PySem PySem.Spec PyProof.Rows
section
variable {X : Cx} {pos : Pos}
/-- (a, .., *c) = a list or a tuple: i targets ahead of the star, which is the last one -/
def gStar (K : PySem.W.Frag) (i : Nat) (t : TGs) : TG := fun v σ H Q => ∃ a xs, v = .ref a ∧ (SqL K H a xs ∨ SqT K H a xs) ∧ i ≤ xs.length ∧ xs.length ≤ 10000 ∧ ∀ p, H p = none → t (xs.take i ++ [.ref p]) σ (upd H p (.lst (xs.drop i))) Q
theorem pgs_star {e : Expr} {es : List Expr} {p : Pos} {t : TG} {u : TGs} (h1 : PG X e t) (h2 : PGs X es u)
    (hs : (assignEach (.Starred e p :: es) X.env).map (·.2) = assign e X.env :: (assignEach es X.env).map (·.2) := by rfl) : PGs X (.Starred e p :: es) (gCons t u) :=
  ⟨fun pins s σ H vs us Q I r ⟨v, vr, e1, h⟩ => by
    subst e1
    cases r with
    | cons r rr =>
      rw [hs]
      exact assignInOrder_cons (thn (h1.run pins s σ H v _ _ I r h) fun _ s1 z => let ⟨σ1, H1, I1, q1⟩ := z; h2.run pins s1 σ1 H1 vr _ Q I1 rr q1)⟩
theorem newL_star {A : Around} {M : Model} {E : Value → Shared → Prop} {s : Shared} {its : List Value} {i : Nat} {Q : List Value → Shared → Prop} (hz : its.length ≤ sizeLine)
    (h : Q (its.take i ++ [.ref s.heap.objs.size]) { s with heap := s.heap.push { cls := .type "list", data := .seq (its.drop i).toArray } }) :
    wpAny M A (newList ((its.drop i).take ((its.drop i).length - (i + 1 - 1 - i))) >>= fun d => pure (its.take i ++ [d] ++ (its.drop i).drop ((its.drop i).length - (i + 1 - 1 - i)))) Q E s := by
  have e0 : i + 1 - 1 - i = 0 := by omega
  rw [e0, Nat.sub_zero, List.take_length, List.drop_length]
  refine wpAny_bind (wpAny_newList ?_ (by rw [List.length_drop]; omega))
  refine wpAny_pure ?_
  rw [List.append_nil]
  exact h
theorem pg_star {es : List Expr} {k : Nat} {t : TGs} {i : Nat} (hc : X.calm = true) (h : PGs X es t)
    (hn : (assignEach es X.env).length = i + 1 := by rfl) (hst : (assignEach es X.env).findIdx? (·.1) = some i := by rfl) : PG X (.Tuple es k pos) (gStar X.K i t) := by
  refine ⟨fun pins s σ H v u Q I r hw => ?_⟩
  obtain ⟨a, xs, e1, hq, hl, hz, hw⟩ := hw
  subst e1
  cases r
  have sl := sizeLine_eq
  -- what follows the new list
  have fin : ∀ (its : List Value), Vals xs its → ∀ (h' : Heap) (tk : Nat), (∀ b o, s.heap.get? b = some o → h'.get? b = some o) →
      wpAny (model X.prog X.w) X.A (newList ((its.drop i).take ((its.drop i).length - (i + 1 - 1 - i))) >>= fun d => pure (its.take i ++ [d] ++ (its.drop i).drop ((its.drop i).length - (i + 1 - 1 - i))))
        (fun us s2 => wpAny (model X.prog X.w) X.A (assignInOrder ((assignEach es X.env).map (·.2)) us) (fun _ s' => ∃ σ' H', Inv X pins σ' H' s' ∧ Q σ' H') X.xe s2) X.xe { s with heap := h', toks := tk } := by
    intro its rv h' tk hk
    refine newL_star (by rw [← rv.length]; omega) ?_
    have I1 : Inv X pins σ H { s with heap := h', toks := tk } := I.kept hk
    have hp : H h'.objs.size = none := I1.hok.fresh (Nat.le_refl _)
    have I2 : Inv X pins σ (upd H h'.objs.size (.lst (xs.drop i))) { s with heap := h'.push { cls := .type "list", data := .seq (its.drop i).toArray }, toks := tk } :=
      I1.laid (t' := tk) (fun b o e => Heap.get?_push_of_some _ e) (Nat.le_refl _) ⟨by rw [List.length_drop]; omega, its.drop i, 0, rv.drop i, Heap.get?_push_size _ rfl⟩
    exact h.run pins _ σ _ _ _ Q I2 ((rv.take i).append (.cons (show RelV (.ref h'.objs.size) (.ref h'.objs.size) from rfl) .nil)) (hw _ hp)
  rw [assign_Tuple]
  refine wpAny_bind (wpAny_standAt ?_)
  unfold unpack
  rw [hn, hst]
  refine wpAny_bind (wpAny_holding ?_)
  unfold unpackItems notIterableAtAll
  have hh := I.ok.hd hc
  rcases hq with hq | hq
  · obtain ⟨its, rv, pl, _⟩ := I.list hq
    have hL := pl.isList
    have la : a < s.heap.objs.size := pl.lt
    have na : a ≠ s.heap.objs.size := Nat.ne_of_lt la
    have el : its.length = xs.length := rv.length.symm
    refine wpAny_bind (wpAny_bind (wpAny_specialOf hL.typeIs PySem.F.slot_list_iter.lookup (wpAny_pure ?_)))
    simp only [Bool.false_eq_true, if_false]
    refine wpAny_bind (wpAny_holding (wpAny_pyIter_list hL ?_))
    refine wpAny_bind (wpAny_holding (PySem.W.kun_draw na i 0 _ _ ⟨_, Heap.get?_push_size _ rfl, rfl, rfl⟩ (hL.push _) (by rw [List.size_toArray]; omega) fun h1 it1 sb1 => ?_))
    rw [Nat.zero_add] at it1
    have hL1 : h1.IsList a its.toArray := (hL.push _).extBut sb1.extBut na
    obtain ⟨o1, ho1, _⟩ := id it1
    obtain ⟨o2, ho2, _⟩ := id hL1
    rw [List.drop_zero, show its.toArray.toList = its from rfl]
    rw [if_neg (by rw [List.length_take]; omega)]
    refine wpAny_bind (wpAny_holding (PySem.W.kun_collect (s := { s with heap := h1 }) (T := "list_iterator") (.inr (.inr (.inl rfl))) (Walks.list (A := X.A.in1) hh s.heap.objs.size a na its.toArray) (fun j u st => st.1.typeIs) (k := i) (by rw [List.size_toArray]; omega) ⟨it1, hL1⟩ (Heap.lt_size ho1) (Heap.lt_size ho2) (fun h2 tk hk => ?_) (by rw [List.size_toArray]; omega)))
    rw [show its.toArray.toList = its from rfl]
    show wpAny _ _ (if (its.drop i).length < i + 1 - 1 - i then _ else _) _ _ _
    rw [if_neg (by omega)]
    exact fin its rv h2 tk fun b o e => hk b o (Nat.ne_of_lt (Heap.lt_size e)) (sb1.extBut b o (Nat.ne_of_lt (Heap.lt_size e)) (Heap.get?_push_of_some _ e))
  · obtain ⟨its, rv, hT, _⟩ := I.tuple hq
    have la : a < s.heap.objs.size := by obtain ⟨o, ho, _⟩ := id hT; exact Heap.lt_size ho
    have na : a ≠ s.heap.objs.size := Nat.ne_of_lt la
    have el : its.length = xs.length := rv.length.symm
    refine wpAny_bind (wpAny_bind (wpAny_specialOf hT.typeIs PySem.F.slot_tuple_iter.lookup (wpAny_pure ?_)))
    simp only [Bool.false_eq_true, if_false]
    refine wpAny_bind (wpAny_holding (iter_tuple hT ?_))
    refine wpAny_bind (wpAny_holding (draw_tuple na i 0 _ _ ⟨_, Heap.get?_push_size _ rfl, rfl, rfl⟩ (hT.push _) (by rw [List.size_toArray]; omega) fun h1 it1 sb1 => ?_))
    rw [Nat.zero_add] at it1
    have hT1 : IsTup h1 a its.toArray := (hT.push _).extBut sb1.extBut na
    obtain ⟨o1, ho1, _⟩ := id it1
    obtain ⟨o2, ho2, _⟩ := id hT1
    rw [List.drop_zero, show its.toArray.toList = its from rfl]
    rw [if_neg (by rw [List.length_take]; omega)]
    refine wpAny_bind (wpAny_holding (PySem.W.kun_collect (s := { s with heap := h1 }) (T := "tuple_iterator") (.inr (.inr (.inr rfl))) (Walks.tuple (A := X.A.in1) hh s.heap.objs.size a na its.toArray) (fun j u st => st.1.typeIs) (k := i) (by rw [List.size_toArray]; omega) ⟨it1, hT1⟩ (Heap.lt_size ho1) (Heap.lt_size ho2) (fun h2 tk hk => ?_) (by rw [List.size_toArray]; omega)))
    rw [show its.toArray.toList = its from rfl]
    show wpAny _ _ (if (its.drop i).length < i + 1 - 1 - i then _ else _) _ _ _
    rw [if_neg (by omega)]
    exact fin its rv h2 tk fun b o e => hk b o (Nat.ne_of_lt (Heap.lt_size e)) (sb1.extBut b o (Nat.ne_of_lt (Heap.lt_size e)) (Heap.get?_push_of_some _ e))
end
end L2
namespace Dc
open PySem PySem.Spec PyProof.Rows L2 ToD
section
variable {C : Ctx} {W : WX} {δx : List Sl} {ρ : Type} {R : Rp ρ} {δ : List Sl} {S : Type} {α : Type} [Fz α] {t2 : TS} {te : TE} {i j n : Nat} {me : M (List α)}
theorem reps_drop {K : PySem.W.Frag} {F : Hp} : ∀ {vs : List V} {xs : List α} (k : Nat), Reps K F vs xs → Reps K F (vs.drop k) (xs.drop k)
  | _, _, 0, r => r
  | _, _, k + 1, .nil => .nil
  | _, _, k + 1, .cons _ t => reps_drop k t
/-- x, *ys = e -/
theorem s_star1 {δ' : S → List Sl} {m : α → List α → M (Fl S ρ)} (w : Wk δ δx) (h : JR C W δ te me) (k : ∀ x ys, JS C W δx R ((δ.set i (.fz x)).set j (.ow (oL α) ys)) t2 δ' (m x ys)) (hi : i < δ.length := by exact Nat.le_of_ble_eq_true rfl) (hj : j < δ.length := by exact Nat.le_of_ble_eq_true rfl) :
    JS C W δx R δ (tSeq (tAsg te (gStar C.K 1 (gCons (gName i) (gCons (gName j) gNil)))) t2) δ' (me.bind fun xs => M.need (xs.length ≤ 10000) ((M.ofOpt xs[0]?).bind fun x => M.to (m x) (xs.drop 1))) := fun F H σ D ok q =>
  h F H σ _ ok (me.mono (fun xs q1 v F1 H1 s1 ok1 r1 => by
    obtain ⟨q0, q1⟩ := q1
    obtain ⟨l, vs, rfl, hl, rr⟩ := r1 F1 H1 (Same.refl _) ok1
    cases xs with
    | nil => exact q1.elim
    | cons x xs =>
      cases vs with
      | nil => cases rr
      | cons v vs =>
        have rx : Fz.rep C.K F1 v x := by cases rr; assumption
        have rt : Reps C.K F1 vs xs := by cases rr; assumption
        refine ⟨l, _, rfl, .inl (SqL.of hl), by rw [List.length_cons]; omega, by rw [rr.length]; exact q0, fun p hp => ?_⟩
        have ok2 := (((ok1.newL hp rt).put (i := i + 1) rx (by rw [List.length_cons]; omega)).store (i := j) (by rw [List.length_set]; exact hj))
        exact ⟨v, [.ref p], rfl, .ref p, [], rfl, rfl, k x xs F1 _ _ D ok2 (M.mono _ (fun f z => SQ.mono s1 z) (fun e z => XQ.mono s1 z) q1)⟩) (fun e z => XQ.ew w z) q)
/-- x, y, *zs = e -/
theorem s_star2 {δ' : S → List Sl} {m : α → α → List α → M (Fl S ρ)} (w : Wk δ δx) (h : JR C W δ te me) (k : ∀ x y zs, JS C W δx R (((δ.set i (.fz x)).set j (.fz y)).set n (.ow (oL α) zs)) t2 δ' (m x y zs)) (hi : i < δ.length := by exact Nat.le_of_ble_eq_true rfl) (hj : j < δ.length := by exact Nat.le_of_ble_eq_true rfl) (hn : n < δ.length := by exact Nat.le_of_ble_eq_true rfl) :
    JS C W δx R δ (tSeq (tAsg te (gStar C.K 2 (gCons (gName i) (gCons (gName j) (gCons (gName n) gNil))))) t2) δ' (me.bind fun xs => M.need (xs.length ≤ 10000) ((M.ofOpt xs[0]?).bind fun x => (M.ofOpt xs[1]?).bind fun y => M.to (m x y) (xs.drop 2))) := fun F H σ D ok q =>
  h F H σ _ ok (me.mono (fun xs q1 v F1 H1 s1 ok1 r1 => by
    obtain ⟨q0, q1⟩ := q1
    obtain ⟨l, vs, rfl, hl, rr⟩ := r1 F1 H1 (Same.refl _) ok1
    cases xs with
    | nil => exact q1.elim
    | cons x xs =>
      cases xs with
      | nil => exact q1.elim
      | cons y xs =>
        cases rr with
        | @cons v _ vs _ rx rr' =>
          cases rr' with
          | @cons u _ vs _ ry rt =>
            refine ⟨l, _, rfl, .inl (SqL.of hl), by rw [List.length_cons, List.length_cons]; omega, by rw [List.length_cons, List.length_cons] at q0 ⊢; rw [rt.length]; exact q0, fun p hp => ?_⟩
            have ok2 := ((((ok1.newL hp rt).put (i := i + 1) rx (by rw [List.length_cons]; omega)).put (i := j + 1) ry (by rw [List.length_set, List.length_cons]; omega)).store (i := n) (by rw [List.length_set, List.length_set]; exact hn))
            exact ⟨v, [u, .ref p], rfl, u, [.ref p], rfl, .ref p, [], rfl, rfl, k x y xs F1 _ _ D ok2 (M.mono _ (fun f z => SQ.mono s1 z) (fun e z => XQ.mono s1 z) q1)⟩) (fun e z => XQ.ew w z) q)
/-- near, far, *ends = a door -/
theorem s_starD {md : M Door} {δ' : S → List Sl} {m : Door → M (Fl S ρ)} (w : Wk δ δx) (h : JE C W δ te md) (k : ∀ d : Door, JS C W δx R (((δ.set i (.fz d.near)).set j (.fz d.far)).set n (.ow (oL Int) [d.lo, d.hi])) t2 δ' (m d)) (hi : i < δ.length := by exact Nat.le_of_ble_eq_true rfl) (hj : j < δ.length := by exact Nat.le_of_ble_eq_true rfl) (hn : n < δ.length := by exact Nat.le_of_ble_eq_true rfl) :
    JS C W δx R δ (tSeq (tAsg te (gStar C.K 2 (gCons (gName i) (gCons (gName j) (gCons (gName n) gNil))))) t2) δ' (md.bind fun d => m d) := fun F H σ D ok q =>
  h F H σ _ ok (md.mono (fun d q1 v F1 H1 s1 r1 ok1 => by
    obtain ⟨l, rfl, hl⟩ := r1
    refine ⟨l, _, rfl, .inr (SqT.of (ok1.same _ _ hl)), (by show 2 ≤ 4; decide), (by show 4 ≤ 10000; decide), fun p hp => ?_⟩
    have ok2 := ((((ok1.newL (α := Int) (xs := [d.lo, d.hi]) (vs := [.int d.lo, .int d.hi]) hp (.cons rfl (.cons rfl .nil))).put (i := i + 1) (v := .str d.near) (a := d.near) rfl (by rw [List.length_cons]; omega)).put (i := j + 1) (v := .str d.far) (a := d.far) rfl (by rw [List.length_set, List.length_cons]; omega)).store (i := n) (by rw [List.length_set, List.length_set]; exact hn))
    exact ⟨.str d.near, [.str d.far, .ref p], rfl, .str d.far, [.ref p], rfl, .ref p, [], rfl, rfl, k d F1 _ _ D ok2 (M.mono _ (fun f z => SQ.mono s1 z) (fun e z => XQ.mono s1 z) q1)⟩) (fun e z => XQ.ew w z) q)
theorem bb_star1 {δ' : S → List Sl} {m : α → List α → M S} (w : Wk δ δx) (h : JR C W δ te me) (k : ∀ x ys, KB C W δx R ((δ.set i (.fz x)).set j (.ow (oL α) ys)) t2 δ' (m x ys)) (hi : i < δ.length := by exact Nat.le_of_ble_eq_true rfl) (hj : j < δ.length := by exact Nat.le_of_ble_eq_true rfl) :
    KB C W δx R δ (tSeq (tAsg te (gStar C.K 1 (gCons (gName i) (gCons (gName j) gNil)))) t2) δ' (me.bind fun xs => M.need (xs.length ≤ 10000) ((M.ofOpt xs[0]?).bind fun x => M.to (m x) (xs.drop 1))) := by
  have z := s_star1 (S := S) w h k hi hj
  exact z
theorem vv_star1 {m : α → List α → M ρ} (w : Wk δ δx) (h : JR C W δ te me) (k : ∀ x ys, KV C W δx R ((δ.set i (.fz x)).set j (.ow (oL α) ys)) t2 (m x ys)) (hi : i < δ.length := by exact Nat.le_of_ble_eq_true rfl) (hj : j < δ.length := by exact Nat.le_of_ble_eq_true rfl) :
    KV C W δx R δ (tSeq (tAsg te (gStar C.K 1 (gCons (gName i) (gCons (gName j) gNil)))) t2) (me.bind fun xs => M.need (xs.length ≤ 10000) ((M.ofOpt xs[0]?).bind fun x => M.to (m x) (xs.drop 1))) := by
  have z := s_star1 (S := Empty) w h k hi hj
  exact z
theorem bb_star2 {δ' : S → List Sl} {m : α → α → List α → M S} (w : Wk δ δx) (h : JR C W δ te me) (k : ∀ x y zs, KB C W δx R (((δ.set i (.fz x)).set j (.fz y)).set n (.ow (oL α) zs)) t2 δ' (m x y zs)) (hi : i < δ.length := by exact Nat.le_of_ble_eq_true rfl) (hj : j < δ.length := by exact Nat.le_of_ble_eq_true rfl) (hn : n < δ.length := by exact Nat.le_of_ble_eq_true rfl) :
    KB C W δx R δ (tSeq (tAsg te (gStar C.K 2 (gCons (gName i) (gCons (gName j) (gCons (gName n) gNil))))) t2) δ' (me.bind fun xs => M.need (xs.length ≤ 10000) ((M.ofOpt xs[0]?).bind fun x => (M.ofOpt xs[1]?).bind fun y => M.to (m x y) (xs.drop 2))) := by
  have z := s_star2 (S := S) w h k hi hj hn
  exact z
theorem vv_star2 {m : α → α → List α → M ρ} (w : Wk δ δx) (h : JR C W δ te me) (k : ∀ x y zs, KV C W δx R (((δ.set i (.fz x)).set j (.fz y)).set n (.ow (oL α) zs)) t2 (m x y zs)) (hi : i < δ.length := by exact Nat.le_of_ble_eq_true rfl) (hj : j < δ.length := by exact Nat.le_of_ble_eq_true rfl) (hn : n < δ.length := by exact Nat.le_of_ble_eq_true rfl) :
    KV C W δx R δ (tSeq (tAsg te (gStar C.K 2 (gCons (gName i) (gCons (gName j) (gCons (gName n) gNil))))) t2) (me.bind fun xs => M.need (xs.length ≤ 10000) ((M.ofOpt xs[0]?).bind fun x => (M.ofOpt xs[1]?).bind fun y => M.to (m x y) (xs.drop 2))) := by
  have z := s_star2 (S := Empty) w h k hi hj hn
  exact z
theorem bb_starD {md : M Door} {δ' : S → List Sl} {m : Door → M S} (w : Wk δ δx) (h : JE C W δ te md) (k : ∀ d : Door, KB C W δx R (((δ.set i (.fz d.near)).set j (.fz d.far)).set n (.ow (oL Int) [d.lo, d.hi])) t2 δ' (m d)) (hi : i < δ.length := by exact Nat.le_of_ble_eq_true rfl) (hj : j < δ.length := by exact Nat.le_of_ble_eq_true rfl) (hn : n < δ.length := by exact Nat.le_of_ble_eq_true rfl) :
    KB C W δx R δ (tSeq (tAsg te (gStar C.K 2 (gCons (gName i) (gCons (gName j) (gCons (gName n) gNil))))) t2) δ' (md.bind fun d => m d) := by
  have z := s_starD (S := S) w h k hi hj hn
  exact z
theorem vv_starD {md : M Door} {m : Door → M ρ} (w : Wk δ δx) (h : JE C W δ te md) (k : ∀ d : Door, KV C W δx R (((δ.set i (.fz d.near)).set j (.fz d.far)).set n (.ow (oL Int) [d.lo, d.hi])) t2 (m d)) (hi : i < δ.length := by exact Nat.le_of_ble_eq_true rfl) (hj : j < δ.length := by exact Nat.le_of_ble_eq_true rfl) (hn : n < δ.length := by exact Nat.le_of_ble_eq_true rfl) :
    KV C W δx R δ (tSeq (tAsg te (gStar C.K 2 (gCons (gName i) (gCons (gName j) (gCons (gName n) gNil))))) t2) (md.bind fun d => m d) := by
  have z := s_starD (S := Empty) w h k hi hj hn
  exact z
end
section
variable {C : Ctx} {W : WX} {δ : List Sl} {tk tv : TE} {α β : Type} [DecidableEq α] [Fz α] [Ky α] [Fz β]
/-- {k: v} -/
theorem o_disp1 {mk : M α} {mv : M β} (hk : ∀ P W, JE { C with P := P } W δ tk mk) (hv : ∀ P W, JE { C with P := P } W δ tv mv) : JO C W δ (oD α β) (tDisp [(tk, tv)]) (mk.nx.bind fun k => mv.nx.bind fun v => M.pure (Dct.mk [(k, v)])) := fun F H σ Q ok q => fun p hp => by
  have ok1 := Okk.newD (α := α) (β := β) (d := ⟨[]⟩) (vs := []) ok hp .nil
  obtain ⟨kvs, r0, hc, pl, ok2⟩ := ok1.hideD
  cases r0
  refine hk _ (fun _ _ _ _ => False) F _ σ _ ok2 (mk.mono (fun k q1 v F2 H2 s2 r2 ok3 => hv _ (fun _ _ _ _ => False) F2 H2 σ _ ok3 (mv.mono (fun u q2 w F3 H3 s3 r3 ok4 => ?_) (fun _ z => z.elim) q1)) (fun _ z => z.elim) q)
  obtain ⟨A, a4⟩ := id ok4
  have ekv : v = kV (Ky.key k) := Ky.rep r2
  refine ⟨(a4.prt p (.dK []) upd_same).1, [(Ky.key k, w)], by rw [ekv]; rfl, (by show 1 ≤ 15; decide), ?_⟩
  have ok6 := (Okk.showD (α := α) (β := β) (d := ⟨[]⟩) ok4 .nil hc pl).setD (i := 0) (d' := ⟨[(k, u)]⟩) (kvs := [(Ky.key k, w)]) rfl rfl (.cons ⟨rfl, r3⟩ .nil)
  exact q2 _ F3 _ (s2.trans s3) ok6
end
end Dc

namespace Dc
open PySem PySem.Spec PyProof.Rows L2 ToD
/-! ## what is one's own is put aside, and comes back -/
def hid (P H : Hp) (A : List Addr) : Hp := fun x => if x ∈ A then H x else P x
section
variable {C : Ctx} {F H F0 H0 : Hp} {σ : L2.St} {δ : List Sl} {ω : Type} {R : Rp ω} {a : ω} {v : V} {A : List Addr} {i : Nat}
theorem Okk.hideR (ok : Okk C F H (some v :: σ) (.ow R a :: δ)) : ∃ A, R.rep C.K F H v a A ∧ (∀ x ∈ A, C.H x = none ∧ C.P x = none) ∧ Okk { C with P := hid C.P H A } F H σ δ := by
  obtain ⟨A, k⟩ := ok
  obtain ⟨w, hw, r, hc⟩ := k.at_ 0 _ rfl
  cases (show some v = some w from hw)
  have pn : ∀ x ∈ A 0, C.P x = none := fun x m => by
    cases q : C.P x with
    | none => rfl
    | some o => exact absurd m ((k.prt x o q).2.2 0)
  refine ⟨A 0, r, fun x m => ⟨hc x m, pn x m⟩, fun j => A (j + 1), ⟨k.go, k.pot, Nat.succ.inj k.len, fun j t e => k.at_ (j + 1) t e, fun j i x m m' => Nat.succ.inj (k.dis (j + 1) (i + 1) x m m'), fun j x m => ?_, fun x o e => ?_⟩⟩
  · obtain ⟨a1, a2⟩ := k.off (j + 1) x m
    rw [List.length_cons] at a2
    exact ⟨a1, by omega⟩
  · have e : (if x ∈ A 0 then H x else C.P x) = some o := e
    by_cases m : x ∈ A 0
    · rw [if_pos m] at e
      exact ⟨e, (k.off 0 x m).1, fun j m' => by have := k.dis 0 (j + 1) x m m'; omega⟩
    · rw [if_neg m] at e
      obtain ⟨h1, h2, h3⟩ := k.prt x o e
      exact ⟨h1, h2, fun j m' => h3 (j + 1) m'⟩
theorem Okk.showR (ok : Okk { C with P := hid C.P H0 A } F H σ δ) (r : R.rep C.K F0 H0 v a A) (s : Same F0 F) (hA : ∀ x ∈ A, C.H x = none ∧ C.P x = none) : Okk C F H (some v :: σ) (.ow R a :: δ) := by
  obtain ⟨B, k⟩ := ok
  have key : ∀ x ∈ A, H x = H0 x ∧ F x = none ∧ ∀ j, x ∉ B j := fun x m => by
    cases q : H0 x with
    | none => exact absurd q (R.live r x m)
    | some o => exact k.prt x o (by show (if x ∈ A then H0 x else C.P x) = some o; rw [if_pos m]; exact q)
  refine ⟨fun j => match j with | 0 => A | j + 1 => B j, ⟨k.go, k.pot, congrArg Nat.succ k.len, fun j t e => ?_, fun j i x m m' => ?_, fun j x m => ?_, fun x o e => ?_⟩⟩
  · cases j with
    | zero =>
      cases e
      exact ⟨v, rfl, R.stay r s fun x m => (key x m).1, fun x m => (hA x m).1⟩
    | succ j => exact k.at_ j t e
  · cases j with
    | zero =>
      cases i with
      | zero => rfl
      | succ i => exact absurd m' ((key x m).2.2 i)
    | succ j =>
      cases i with
      | zero => exact absurd m ((key x m').2.2 j)
      | succ i => exact congrArg Nat.succ (k.dis j i x m m')
  · cases j with
    | zero => exact ⟨(key x m).2.1, Nat.succ_pos _⟩
    | succ j =>
      obtain ⟨a1, a2⟩ := k.off j x m
      exact ⟨a1, by rw [List.length_cons]; omega⟩
  · have nx : x ∉ A := fun m => by rw [(hA x m).2] at e; cases e
    obtain ⟨h1, h2, h3⟩ := k.prt x o (by show (if x ∈ A then H0 x else C.P x) = some o; rw [if_neg nx]; exact e)
    refine ⟨h1, h2, fun j m => ?_⟩
    cases j with
    | zero => exact nx m
    | succ j => exact h3 j m
/-- the same of a slot in the midst -/
theorem Okk.hideAt (ok : Okk C F H σ δ) (h : δ[i]? = some (.ow R a)) : ∃ v A, σ[i]? = some (some v) ∧ R.rep C.K F H v a A ∧ (∀ x ∈ A, C.H x = none ∧ C.P x = none) ∧ Okk { C with P := hid C.P H A } F H σ (δ.set i .no) := by
  obtain ⟨A, k⟩ := ok
  have hi : i < δ.length := (List.getElem?_eq_some_iff.mp h).1
  obtain ⟨v, hv, r, hc⟩ := k.at_ i _ h
  have hv' : σ[i]? = some (some v) := by
    cases hs : σ[i]? with
    | none => rw [hs] at hv; cases hv
    | some o => rw [hs] at hv; rw [show o = some v from hv]
  have pn : ∀ x ∈ A i, C.P x = none := fun x m => by
    cases q : C.P x with
    | none => rfl
    | some o => exact absurd m ((k.prt x o q).2.2 i)
  refine ⟨v, A i, hv', r, fun x m => ⟨hc x m, pn x m⟩, fun j => if j = i then [] else A j, ⟨k.go, k.pot, by rw [List.length_set]; exact k.len, fun j t e => ?_, fun j n x m m' => ?_, fun j x m => ?_, fun x o e => ?_⟩⟩
  · by_cases z : j = i
    · rw [z, List.getElem?_set_self hi] at e
      cases e
      show SlOk C F H (σ[j]?.join) .no (if j = i then [] else A j)
      rw [if_pos z]
      rfl
    · rw [List.getElem?_set_ne (fun w => z w.symm)] at e
      show SlOk C F H _ t (if j = i then [] else A j)
      rw [if_neg z]
      exact k.at_ j t e
  · by_cases z : j = i
    · simp only [if_pos z] at m
      cases m
    · by_cases y : n = i
      · simp only [if_pos y] at m'
        cases m'
      · simp only [if_neg z] at m
        simp only [if_neg y] at m'
        exact k.dis j n x m m'
  · by_cases z : j = i
    · simp only [if_pos z] at m
      cases m
    · simp only [if_neg z] at m
      rw [List.length_set]
      exact k.off j x m
  · have e : (if x ∈ A i then H x else C.P x) = some o := e
    by_cases m : x ∈ A i
    · rw [if_pos m] at e
      refine ⟨e, (k.off i x m).1, fun j m' => ?_⟩
      by_cases z : j = i
      · simp only [if_pos z] at m'
        cases m'
      · simp only [if_neg z] at m'
        exact z (k.dis j i x m' m)
    · rw [if_neg m] at e
      obtain ⟨h1, h2, h3⟩ := k.prt x o e
      refine ⟨h1, h2, fun j m' => ?_⟩
      by_cases z : j = i
      · simp only [if_pos z] at m'
        cases m'
      · simp only [if_neg z] at m'
        exact h3 j m'
theorem Okk.showAt (ok : Okk { C with P := hid C.P H0 A } F H σ (δ.set i .no)) (r : R.rep C.K F0 H0 v a A) (s : Same F0 F) (hA : ∀ x ∈ A, C.H x = none ∧ C.P x = none) (hv : σ[i]? = some (some v)) (h : δ[i]? = some (.ow R a)) : ∃ B, Ok' C F H σ δ B ∧ B i = A ∧ ∀ x ∈ A, H x = H0 x := by
  obtain ⟨B, k⟩ := ok
  have hi : i < δ.length := (List.getElem?_eq_some_iff.mp h).1
  have key : ∀ x ∈ A, H x = H0 x ∧ F x = none ∧ ∀ j, x ∉ B j := fun x m => by
    cases q : H0 x with
    | none => exact absurd q (R.live r x m)
    | some o => exact k.prt x o (by show (if x ∈ A then H0 x else C.P x) = some o; rw [if_pos m]; exact q)
  refine ⟨fun j => if j = i then A else B j, ⟨k.go, k.pot, by have := k.len; rw [List.length_set] at this; exact this, fun j t e => ?_, fun j n x m m' => ?_, fun j x m => ?_, fun x o e => ?_⟩, if_pos rfl, fun x m => (key x m).1⟩
  · by_cases z : j = i
    · rw [z, h] at e
      cases e
      show SlOk C F H _ (.ow R a) (if j = i then A else B j)
      rw [if_pos z, z, hv]
      exact ⟨v, rfl, R.stay r s fun x m => (key x m).1, fun x m => (hA x m).1⟩
    · show SlOk C F H _ t (if j = i then A else B j)
      rw [if_neg z]
      exact k.at_ j t (by rw [List.getElem?_set_ne (fun w => z w.symm)]; exact e)
  · by_cases z : j = i
    · simp only [if_pos z] at m
      by_cases y : n = i
      · rw [z, y]
      · simp only [if_neg y] at m'
        exact absurd m' ((key x m).2.2 n)
    · simp only [if_neg z] at m
      by_cases y : n = i
      · simp only [if_pos y] at m'
        exact absurd m ((key x m').2.2 j)
      · simp only [if_neg y] at m'
        exact k.dis j n x m m'
  · by_cases z : j = i
    · simp only [if_pos z] at m
      exact ⟨(key x m).2.1, by rw [z]; exact hi⟩
    · simp only [if_neg z] at m
      have := k.off j x m
      rw [List.length_set] at this
      exact this
  · have nx : x ∉ A := fun m => by rw [(hA x m).2] at e; cases e
    obtain ⟨h1, h2, h3⟩ := k.prt x o (by show (if x ∈ A then H0 x else C.P x) = some o; rw [if_neg nx]; exact e)
    refine ⟨h1, h2, fun j m => ?_⟩
    by_cases z : j = i
    · simp only [if_pos z] at m
      exact nx m
    · simp only [if_neg z] at m
      exact h3 j m
theorem hid_swap {P H1 H2 : Hp} {A B : List Addr} (d : ∀ x ∈ B, x ∉ A) : hid (hid P H1 A) H2 B = hid (hid P H2 B) H1 A := by
  funext x
  unfold hid
  by_cases b : x ∈ B
  · rw [if_pos b, if_neg (d x b)]
    simp [b]
  · rw [if_neg b]
    simp [b]
end
section
variable {C : Ctx} {W : WX} {δ : List Sl} {te : TE} {ρ : Type} [Fz ρ] {δ' : List Sl}
/-- a new list of plain things, made of what is lent -/
theorem o_lend [Sca ρ] {m : M (List ρ)} (l : LnA δ δ') (h : ∀ G H, JO (cx0 C.K G H) W0 δ' (oL ρ) te m) : JO C W δ (oL ρ) te m.nx := fun F H σ Q ok q => by
  obtain ⟨G, g1, g2, okG⟩ := ok.lent l
  refine h G H G H σ _ okG (m.mono (fun a z v F' H' s' ok' => z v F H' (Same.refl _) ?_) (fun e z => z.elim) q)
  obtain ⟨A, k⟩ := ok'
  obtain ⟨w, hw, ⟨p, vs, rfl, ea, hp, r⟩, hc⟩ := k.at_ 0 _ rfl
  cases (show some v = some (V.ref p) from hw)
  have hn : H p = none := hc p (by rw [ea]; simp)
  have g : Go M0 F H F H' := ⟨Same.refl _, fun b o e => k.go.hh b o (show ¬ M0 b from m0) (ok.same b o e), fun b o m e => k.go.hh b o m e, fun b e _ => e, fun b n => k.go.th b n⟩
  have rr : Reps C.K F vs a := paired_mono (fun _ _ r => Sca.any r) r
  exact ok.push (B := [p]) g ⟨p, vs, rfl, rfl, hp, rr⟩ fun x m => by
    rw [List.mem_singleton.mp m]
    exact ⟨Same.free ok.same hn, hn⟩
end
end Dc

namespace Dc
open PySem PySem.Spec PyProof.Rows L2 ToD
section
variable {C : Ctx} {W : WX} {δ : List Sl} {α γ : Type} [Fz α] [Fz γ] {wi : TI} {g : TG} {is : List Nat} {tt : TT} {te : TE}
theorem pushLL {F H : Hp} {σ : L2.St} {L : Addr} (ok : Okk C F H σ δ) (hp : H L = none) : Okk C F (upd H L (.lst [])) (some (.ref L) :: σ) (.ow (oLL γ) [] :: δ) :=
  ok.push (B := [L]) ((Go.refl ok.same).tmp hp) ⟨L, [], rfl, rfl, by simp, upd_same, .nil⟩ fun x m => by
    rw [List.mem_singleton.mp m]
    exact ⟨Same.free ok.same hp, hp⟩
/-- a list goes behind those of a nest -/
theorem growLL {F H : Hp} {σ : L2.St} {L : Addr} {v : V} {yss : List (List γ)} {y : List γ} (ok : Okk C F H (some v :: some (.ref L) :: σ) (.ow (oL γ) y :: .ow (oLL γ) yss :: δ)) :
    ∃ as : List Addr, H L = some (.lst (as.map V.ref)) ∧ as.length = yss.length ∧ Okk C F (upd H L (.lst (as.map V.ref ++ [v]))) (some (.ref L) :: σ) (.ow (oLL γ) (yss ++ [y]) :: δ) := by
  obtain ⟨A1, k1⟩ := ok
  obtain ⟨l', as', e', ea', nd', hl', r'⟩ := ownLL_at (i := 1) k1 rfl
  cases (show some (some (V.ref L)) = some (some (V.ref l')) from e')
  refine ⟨as', hl', Paired.length r', ?_⟩
  exact Okk.absorb (σ := some (.ref L) :: σ) (δ := .ow (oLL γ) yss :: δ) (i := 0) k1 rfl (l := L) (by rw [ea']; exact List.mem_cons_self ..) (fun u hu r0 r1 dj => by
    obtain ⟨l0, vs0, rfl, ea0, hl0, rr0⟩ := r0
    cases (show some (V.ref L) = some u from hu)
    have n0 : l0 ∉ L :: as' := by rw [← ea']; exact dj l0 (by rw [ea0]; exact List.mem_singleton.mpr rfl)
    have nl : L ∉ as' := (List.nodup_cons.mp nd').1
    refine ⟨L, as' ++ [l0], rfl, by rw [ea', ea0]; rfl, ?_, ?_, ?_⟩
    · show ((L :: as') ++ [l0]).Nodup
      refine List.nodup_append.mpr ⟨nd', by simp, fun x m y m' => ?_⟩
      rw [List.mem_singleton.mp m']
      exact fun z => n0 (z ▸ m)
    · rw [upd_same, List.map_append]
      rfl
    · refine pair_app (keepP r' nl) (.cons ⟨vs0, ?_, rr0⟩ .nil)
      rw [upd_ne fun z => n0 (by rw [z]; exact List.mem_cons_self ..)]
      exact hl0)
/-- a comprehension of lists that are one's own -/
theorem o_compO {δg : α → List Sl} {mi : M (List α)} {mt : α → M Bool} {me : α → M (List γ)} {vs : List Nat} (hi : JIc C W δ wi mi) (hg : ∀ P, JG (C.pr P) δ g is δg) (ht : ∀ P x, JT (C.pr P) W0 (δg x) tt (mt x)) (hE : ∀ P x, JO (C.pr P) W0 (δg x) (oL γ) te (me x))
    (wk : ∀ x, Wk (δg x) δ) (hv : vs.all (noAt δ) = true := by rfl) (hs : is.all (fun j => vs.contains j) = true := by rfl) :
    JO C W δ (oLL γ) (tLc wi g tt te vs) (mi.bind fun xs => M.need (xs.length < 10000000) (compM (fun x => (mt x).nx.bind fun b => if b then (me x).nx.bind fun y => M.pure (some y) else M.pure none) xs)) := fun F H σ Q ok q =>
  hi F H σ _ ok (mi.mono (fun xs q1 J F1 H1 s1 ok1 wl => by
    have hv : ∀ j ∈ vs, δ[j]? = some .no ∨ δ[j]? = none := fun j m => .inl (noAt_ok (List.all_eq_true.mp hv j m))
    have hs : ∀ j ∈ is, j ∈ vs := fun j m => by simpa using List.all_eq_true.mp hs j m
    obtain ⟨hlen, q1⟩ := q1
    show LcB g tt te vs σ Q J H1
    intro L hL
    refine ⟨fun i k H' => k = xs.length - i ∧ i ≤ xs.length ∧ ∃ F' ys, Same F1 F' ∧ ys.length ≤ i ∧ Okk C F' H' (some (.ref L) :: L2.wipe σ vs) (.ow (oLL γ) ys :: δ) ∧ (compM (fun x => (mt x).nx.bind fun b => if b then (me x).nx.bind fun y => M.pure (some y) else M.pure none) (xs.drop i)).run (fun r => ∀ v F2 H2, Same F' F2 → Okk C F2 H2 (some v :: σ) (.ow (oLL γ) (ys ++ r) :: δ) → Q v H2) (EW C W δ σ F'), ⟨xs.length, by simp, Nat.zero_le _, F1, [], Same.refl _, Nat.le_refl _, pushLL (ok1.wipe hv) hL, ?_⟩, ?_⟩
    · rw [List.drop_zero]
      exact M.mono _ (fun r z v F2 H2 s2 ok2 => z v F2 H2 (s1.trans s2) ok2) (fun e z => EW.mono s1 z) q1
    · rintro i k H' ⟨rfl, hi', F', ys, sF, hys, okL, run⟩
      have okO := okL.pop.unwipe hv
      by_cases hlt : i < xs.length
      · right
        refine ⟨wl.go i F' H' hlt sF okO, fun H2 => ∃ F2 zs, Same F1 F2 ∧ zs.length ≤ i + 1 ∧ Okk C F2 H2 (some (.ref L) :: L2.wipe σ vs) (.ow (oLL γ) zs :: δ) ∧ (compM (fun x => (mt x).nx.bind fun b => if b then (me x).nx.bind fun y => M.pure (some y) else M.pure none) (xs.drop (i + 1))).run (fun r => ∀ v F3 H3, Same F2 F3 → Okk C F3 H3 (some v :: σ) (.ow (oLL γ) (zs ++ r) :: δ) → Q v H3) (EW C W δ σ F2), fun H2 ⟨F2, zs, a1, a2, a3, a4⟩ => ⟨xs.length - (i + 1), by omega, rfl, hlt, F2, zs, a1, a2, a3, a4⟩, fun x H2 y => ?_⟩
        obtain ⟨F2, a, g2, ha, rp⟩ := wl.yld i F' H' x H2 hlt sF okO y
        have ok2 := okL.step g2
        rw [List.drop_eq_getElem_cons hlt] at run
        have ea : xs[i] = a := by
          rw [List.getElem?_eq_getElem hlt] at ha
          exact Option.some.inj ha
        rw [ea] at run
        have run1 : (mt a).run (fun b => ((if b then (me a).nx.bind fun y => M.pure (some y) else M.pure none : M (Option (List γ)))).run (fun o => (compM (fun x => (mt x).nx.bind fun b => if b then (me x).nx.bind fun y => M.pure (some y) else M.pure none) (xs.drop (i + 1))).run (fun r => ∀ v F2 H2, Same F' F2 → Okk C F2 H2 (some v :: σ) (.ow (oLL γ) (ys ++ (match o with | some y => y :: r | none => r)) :: δ) → Q v H2) (EW C W δ σ F')) (EW C W δ σ F')) (fun _ => False) := (mt a).mono (fun b z => M.mono _ (fun o z2 => M.mono _ (fun r z3 => by cases o <;> exact z3) (fun _ z => z) z2) (fun _ z => z) z) (fun _ z => z) run
        obtain ⟨A, rL, hA, okH⟩ := ok2.hideR
        refine hg _ F2 H2 _ x a _ okH rp fun σ3 ok3 l3 e3 => ⟨wipe_wipe l3 e3 hs, ?_⟩
        refine ht _ a F2 H2 σ3 _ ok3 ((mt a).mono (fun b z F3 H3 s3 ok3' => ?_) (fun _ z => z.elim) run1)
        have move : ∀ {P F4 H4}, Okk (C.pr P) F4 H4 σ3 (δg a) → Okk (C.pr P) F4 H4 (L2.wipe σ vs) δ := fun ok4 =>
          (ok4.wk (wk a)).swap (σ' := L2.wipe σ vs) l3.symm (fun j hj => (e3 j hj).symm) (fun j m => hv j (hs j m))
        cases b with
        | true =>
          rw [if_pos rfl]
          refine hE _ a F3 H3 σ3 _ ok3' ((me a).mono (fun y z' v F4 H4 s4 ok4 => ?_) (fun _ z => z.elim) z)
          obtain ⟨B, rB, hB, okB⟩ := ok4.hideR
          have dj : ∀ x ∈ B, x ∉ A := fun x mb ma => by
            have h1 := (hB x mb).2
            have h2 : hid C.P H2 A x = H2 x := if_pos ma
            have h1 : hid C.P H2 A x = none := h1
            exact (oLL γ).live rL x ma (h2.symm.trans h1)
          have pB : ∀ x ∈ B, C.P x = none := fun x mb => by
            have h1 : hid C.P H2 A x = none := (hB x mb).2
            unfold hid at h1
            rw [if_neg (dj x mb)] at h1
            exact h1
          have o1 := move (P := hid (hid C.P H2 A) H4 B) okB
          rw [hid_swap dj] at o1
          have o2 := Okk.showR (C := C.pr (hid C.P H4 B)) (R := oLL γ) o1 rL (s3.trans s4) (fun x ma => ⟨(hA x ma).1, by
            show (if x ∈ B then H4 x else C.P x) = none
            rw [if_neg fun mb => dj x mb ma]
            exact (hA x ma).2⟩)
          have o3 := Okk.showR (C := C) (R := oL γ) o2 rB (Same.refl _) (fun x mb => ⟨(hB x mb).1, pB x mb⟩)
          obtain ⟨as, hL4, la, o4⟩ := growLL o3
          have sB := g2.ff.trans (s3.trans s4)
          refine ⟨_, hL4, ?_, F4, ys ++ [y], sF.trans sB, by rw [List.length_append]; show ys.length + 1 ≤ i + 1; omega, o4, ?_⟩
          · rw [List.length_map, la, sizeLine_eq]
            omega
          · refine M.mono _ (fun r q5 v5 F5 H5 s5 ok5 => q5 v5 F5 H5 (sB.trans s5) ?_) (fun e z => EW.mono sB z) z'
            rw [List.append_assoc] at ok5
            exact ok5
        | false =>
          rw [if_neg (by decide)]
          have okB := Okk.showR (C := C) (R := oLL γ) (move ok3') rL s3 hA
          have sB := g2.ff.trans s3
          refine ⟨F3, ys, sF.trans sB, by omega, okB, ?_⟩
          exact M.mono _ (fun r q5 v5 F5 H5 s5 ok5 => q5 v5 F5 H5 (sB.trans s5) ok5) (fun e z => EW.mono sB z) z
      · left
        have e : i = xs.length := by omega
        subst e
        refine ⟨wl.stop F' H' sF okO, ?_⟩
        rw [List.drop_length] at run
        refine run (.ref L) F' H' (Same.refl _) ?_
        rw [List.append_nil]
        obtain ⟨A, rL, hA, okH⟩ := okL.hideR
        exact Okk.showR (okH.unwipe hv) rL (Same.refl _) hA) (fun _ z => z) q)
end
section
variable {C : Ctx} {W : WX} {δx : List Sl} {ρ : Type} {R : Rp ρ} {δ : List Sl} {S : Type} {α : Type} [Fz α] {t2 : TS} {te ti tj : TE} {i : Nat} {me : M α} {mi mj : M Int}
/-- xss[i][j] = e -/
theorem s_set2 {xss : List (List α)} {δ' : S → List Sl} {m : List (List α) → M (Fl S ρ)} (w : Wk δ δx) (h : JE C W δ te me) (hi : JE C W δ ti mi) (hj : ∀ P, JE (C.pr P) W0 (δ.set i .no) tj mj) (k : ∀ ys, JS C W δx R (δ.set i (.ow (oLL α) ys)) t2 δ' (m ys)) (hx : δ[i]? = some (.ow (oLL α) xss) := by rfl) :
    JS C W δx R δ (tSeq (tAsg te (gSub (tOp (rIxL C.K) (tVar i) ti) tj rSetL)) t2) δ' (me.bind fun x => mi.bind fun z => (M.ofOpt (ixN xss.length z)).bind fun n => (M.ofOpt xss[n]?).bind fun xs => mj.nx.bind fun y => (M.ofOpt (ixN xs.length y)).bind fun p => M.to m (xss.set n (xs.set p x))) := fun F H σ D ok q =>
  h F H σ _ ok (me.mono (fun x q1 v F1 H1 s1 r1 ok1 => by
    obtain ⟨A0, k0⟩ := id ok1
    obtain ⟨l0, as0, e0, _⟩ := ownLL_at k0 hx
    have r1' := r1
    refine ⟨.ref l0, e0, hi F1 H1 σ _ ok1 (mi.mono (fun z q2 vz F2 H2 s2 r2 ok2 => ?_) (fun e z => EW.mono s1 (XQ.ew w z)) q1)⟩
    cases r2
    obtain ⟨u, A, hu, r, hA, okH⟩ := ok2.hideAt hx
    rw [e0] at hu
    cases hu
    obtain ⟨l, as, el, ea, nd, hl, rp⟩ := id r
    cases el
    dsimp only at q2
    cases hn : ixN xss.length z with
    | none =>
      rw [hn] at q2
      exact q2.elim
    | some n =>
      rw [hn] at q2
      have q2 : ((M.ofOpt xss[n]?).bind fun xs => mj.nx.bind fun y => (M.ofOpt (ixN xs.length y)).bind fun p => M.to m (xss.set n (xs.set p x))).run (SQ C R δ' D F) (XQ C W δx F) := q2
      cases hm : xss[n]? with
      | none =>
        rw [hm] at q2
        exact q2.elim
      | some xs =>
        rw [hm] at q2
        obtain ⟨b, vs, eb, hb, rb⟩ := paired_at rp hm
        have mb : b ∈ A := by rw [ea]; exact List.mem_cons_of_mem _ (List.mem_of_getElem? eb)
        refine ⟨l0, _, z, .ref b, rfl, rfl, SqL.of hl, ?_, hj _ F2 H2 σ _ okH (mj.mono (fun y q3 vy F3 H3 s3 r3 ok3 => ?_) (fun _ z => z.elim) q2)⟩
        · unfold atI
          rw [List.length_map, Paired.length rp, hn]
          show (as.map V.ref)[n]? = _
          rw [List.getElem?_map, eb]
          rfl
        cases r3
        obtain ⟨B, k3, eB, keep⟩ := Okk.showAt (R := oLL α) ok3 r s3 hA e0 hx
        dsimp only at q3
        cases hp : ixN xs.length y with
        | none =>
          rw [hp] at q3
          exact q3.elim
        | some pp =>
          rw [hp] at q3
          have hb3 : H3 b = some (.lst vs) := (keep b mb).trans hb
          refine ⟨b, vs, y, pp, rfl, rfl, hb3, by rw [rb.length]; exact hp, ?_⟩
          have nd2 := List.nodup_cons.mp nd
          have rb3 := Reps.mono s3 rb
          have rp3 : Paired (fun a xs => ∃ vs, H3 a = some (.lst vs) ∧ Reps C.K F3 vs xs) as xss := by
            have : ∀ {bs : List Addr} {yss : List (List α)}, Paired (fun a xs => ∃ vs, H2 a = some (.lst vs) ∧ Reps C.K F2 vs xs) bs yss → (∀ x ∈ bs, H3 x = H2 x) → Paired (fun a xs => ∃ vs, H3 a = some (.lst vs) ∧ Reps C.K F3 vs xs) bs yss := by
              intro bs yss p
              induction p with
              | nil => exact fun _ => .nil
              | cons h t ih =>
                intro kk
                obtain ⟨vs, h1, h2⟩ := h
                exact .cons ⟨vs, by rw [kk _ (List.mem_cons_self ..)]; exact h1, Reps.mono s3 h2⟩ (ih fun x m => kk x (List.mem_cons_of_mem _ m))
            exact this rp fun x m => keep x (by rw [ea]; exact List.mem_cons_of_mem _ m)
          have ok4 : Okk C F3 (upd H3 b (.lst (vs.set pp v))) σ (δ.set i (.ow (oLL α) (xss.set n (xs.set pp x)))) := Okk.mutA k3 hx (by rw [eB]; exact mb) (fun u hu r1 => by
            cases (show some (V.ref l0) = some u from (by rw [e0] at hu; exact hu))
            refine ⟨l0, as, rfl, by rw [eB]; exact ea, nd, ?_, paired_set (set_reps (Fz.mono (s2.trans s3) r1') pp rb3) rp3 eb nd2.2⟩
            rw [upd_ne fun z => nd2.1 (by rw [z]; exact List.mem_of_getElem? eb), keep l0 (by rw [ea]; exact List.mem_cons_self ..)]
            exact hl)
          exact k _ F3 _ σ D ok4 (M.mono _ (fun f z => SQ.mono ((s1.trans s2).trans s3) z) (fun e z => XQ.mono ((s1.trans s2).trans s3) z) q3)) (fun e z => XQ.ew w z) q)
/-- a new thing goes into one that is there, in another one's place -/
theorem Okk.absorbB {ω0 ω ω' : Type} {R0 : Rp ω0} {R1 : Rp ω} {R' : Rp ω'} {a0 : ω0} {a : ω} {b : ω'} {F H : Hp} {σ : L2.St} {A : Nat → List Addr} {l : Addr} {o : HO} {v0 : V} {B : List Addr} (k : Ok' C F H (some v0 :: σ) (.ow R0 a0 :: δ) A) (h : δ[i]? = some (.ow R1 a)) (ml : l ∈ A (i + 1)) (hB : ∀ x ∈ B, x ∈ A (i + 1) ∨ x ∈ A 0)
    (r : ∀ v, σ[i]?.join = some v → R'.rep C.K F (upd H l o) v b B) : Okk C F (upd H l o) σ (δ.set i (.ow R' b)) := by
  have hi : i < δ.length := (List.getElem?_eq_some_iff.mp h).1
  obtain ⟨v, hv', rp, hc⟩ := k.at_ (i + 1) _ h
  obtain ⟨w0, hw0, rp0, hc0⟩ := k.at_ 0 _ rfl
  obtain ⟨fl, _⟩ := k.off (i + 1) l ml
  have key : ∀ {j x}, x ∈ (if j = i then B else A (j + 1)) → x ∈ A (j + 1) ∨ (j = i ∧ x ∈ A 0) := fun {j x} m => by
    by_cases z : j = i
    · rw [if_pos z] at m
      rcases hB x m with m | m
      · rw [z]; exact .inl m
      · exact .inr ⟨z, m⟩
    · rw [if_neg z] at m
      exact .inl m
  refine ⟨fun j => if j = i then B else A (j + 1), ⟨k.go.loc (hc l ml) fl, fun p e => ?_, ?_, fun j t e => ?_, fun j j' x m m' => ?_, fun j x m => ?_, fun x o e => ?_⟩⟩
  · obtain ⟨t, f, m⟩ := k.pot p e
    exact ⟨t.upd (fun z => m.2 (z ▸ hc l ml)), f, m⟩
  · rw [List.length_set]
    exact Nat.succ.inj k.len
  · by_cases z : j = i
    · rw [z, List.getElem?_set_self hi] at e
      cases e
      rw [z, if_pos rfl]
      refine ⟨v, hv', r v hv', fun x m => ?_⟩
      rcases hB x m with m | m
      · exact hc x m
      · exact hc0 x m
    · rw [List.getElem?_set_ne (fun w => z w.symm)] at e
      rw [if_neg z]
      exact (k.at_ (j + 1) t e).stay (Same.refl _) fun x m => upd_ne fun w => z (Nat.succ.inj (k.dis (j + 1) (i + 1) l (w ▸ m) ml))
  · rcases key m with m | ⟨e, m⟩ <;> rcases key m' with m' | ⟨e', m'⟩
    · exact Nat.succ.inj (k.dis _ _ x m m')
    · have := k.dis _ _ x m m'; omega
    · have := k.dis _ _ x m m'; omega
    · rw [e, e']
  · rw [List.length_set]
    rcases key m with m | ⟨e, m⟩
    · obtain ⟨a1, a2⟩ := k.off (j + 1) x m
      rw [List.length_cons] at a2
      exact ⟨a1, by omega⟩
    · exact ⟨(k.off _ x m).1, by rw [e]; exact hi⟩
  · obtain ⟨h1, h2, h3⟩ := k.prt x o e
    have na : x ≠ l := fun w => h3 (i + 1) (w ▸ ml)
    refine ⟨by rw [upd_ne na]; exact h1, h2, fun j m => ?_⟩
    rcases key m with m | ⟨_, m⟩
    · exact h3 _ m
    · exact h3 _ m
theorem paired_put {K : PySem.W.Frag} {F H : Hp} {l0 : Addr} {vs0 : List V} {y : List α} (h0 : H l0 = some (.lst vs0)) (r0 : Reps K F vs0 y) : ∀ {as : List Addr} {xss : List (List α)} (n : Nat), Paired (fun a xs => ∃ vs, H a = some (.lst vs) ∧ Reps K F vs xs) as xss → Paired (fun a xs => ∃ vs, H a = some (.lst vs) ∧ Reps K F vs xs) (as.set n l0) (xss.set n y)
  | _, _, _, .nil => .nil
  | _, _, 0, .cons _ t => .cons ⟨vs0, h0, r0⟩ t
  | _, _, n + 1, .cons h t => .cons h (paired_put h0 r0 n t)
theorem nodup_set {α : Type} {x : α} : ∀ {xs : List α} (n : Nat), xs.Nodup → x ∉ xs → (xs.set n x).Nodup
  | [], _, h, _ => h
  | y :: ys, 0, h, m => List.nodup_cons.mpr ⟨fun z => m (List.mem_cons_of_mem _ z), (List.nodup_cons.mp h).2⟩
  | y :: ys, n + 1, h, m => by
    have h' := List.nodup_cons.mp h
    refine List.nodup_cons.mpr ⟨fun z => ?_, nodup_set n h'.2 fun z => m (List.mem_cons_of_mem _ z)⟩
    rcases List.mem_or_eq_of_mem_set z with z | z
    · exact h'.1 z
    · exact m (by rw [← z]; exact List.mem_cons_self ..)
/-- xss[i] = a list of one's own -/
theorem s_setO {xss : List (List α)} {mo : M (List α)} {δ' : S → List Sl} {m : List (List α) → M (Fl S ρ)} (w : Wk δ δx) (h : JO C W δ (oL α) te mo) (hi : ∀ P, JE (C.pr P) W0 δ ti mi) (k : ∀ ys, JS C W δx R (δ.set i (.ow (oLL α) ys)) t2 δ' (m ys)) (hx : δ[i]? = some (.ow (oLL α) xss) := by rfl) :
    JS C W δx R δ (tSeq (tAsg te (gSub (tVar i) ti rSetL)) t2) δ' (mo.bind fun y => mi.nx.bind fun z => (M.ofOpt (ixN xss.length z)).bind fun n => M.to m (xss.set n y)) := fun F H σ D ok q =>
  h F H σ _ ok (mo.mono (fun y q1 v F1 H1 s1 ok1 => by
    obtain ⟨A0, k0⟩ := id ok1
    obtain ⟨l0, as0, e0, _⟩ := ownLL_at (i := i + 1) k0 hx
    have eσ : σ[i]? = some (some (.ref l0)) := e0
    obtain ⟨B, rB, hB, okH⟩ := ok1.hideR
    refine ⟨.ref l0, eσ, hi _ F1 H1 σ _ okH (mi.mono (fun z q2 vz F2 H2 s2 r2 ok2 => ?_) (fun _ z => z.elim) q1)⟩
    cases r2
    have o3 := Okk.showR (C := C) (R := oL α) ok2 rB s2 hB
    obtain ⟨A3, k3⟩ := id o3
    obtain ⟨l, as, e, ea, nd, hl, rp⟩ := ownLL_at (i := i + 1) k3 hx
    have e : σ[i]? = some (some (.ref l)) := e
    rw [eσ] at e
    cases e
    obtain ⟨u, hu, ⟨p, vs, rfl, ep, hp, rr⟩, _⟩ := k3.at_ 0 _ rfl
    cases (show some v = some (V.ref p) from hu)
    dsimp only at q2
    cases hn : ixN xss.length z with
    | none =>
      rw [hn] at q2
      exact q2.elim
    | some n =>
      rw [hn] at q2
      have np : p ∉ l0 :: as := by
        rw [← ea]
        exact fun m => by
          have := k3.dis 0 (i + 1) p (by rw [ep]; simp) m
          omega
      have nd2 := List.nodup_cons.mp nd
      refine ⟨l0, _, z, n, rfl, rfl, hl, by rw [List.length_map, Paired.length rp]; exact hn, ?_⟩
      have ok4 : Okk C F2 (upd H2 l0 (.lst ((as.map V.ref).set n (.ref p)))) σ (δ.set i (.ow (oLL α) (xss.set n y))) := Okk.absorbB (B := l0 :: as.set n p) k3 hx (by rw [ea]; exact List.mem_cons_self ..) (fun x m => by
        rw [ea, ep]
        rcases List.mem_cons.mp m with m | m
        · exact .inl (by rw [m]; exact List.mem_cons_self ..)
        · rcases List.mem_or_eq_of_mem_set m with m | m
          · exact .inl (List.mem_cons_of_mem _ m)
          · exact .inr (by rw [m]; simp)) (fun u hu => by
        cases (show some (V.ref l0) = some u from (by rw [eσ] at hu; exact hu))
        refine ⟨l0, as.set n p, rfl, rfl, List.nodup_cons.mpr ⟨fun m => ?_, nodup_set n nd2.2 fun m => np (List.mem_cons_of_mem _ m)⟩, ?_, ?_⟩
        · rcases List.mem_or_eq_of_mem_set m with m | m
          · exact nd2.1 m
          · exact np (by rw [m]; exact List.mem_cons_self ..)
        · rw [upd_same, List.map_set]
        · have hp' : upd H2 l0 (.lst ((as.map V.ref).set n (.ref p))) p = some (.lst vs) := by
            rw [upd_ne fun z => np (by rw [z]; exact List.mem_cons_self ..)]
            exact hp
          exact paired_put hp' rr n (keepP rp nd2.1))
      exact k _ F2 _ σ D ok4 (M.mono _ (fun f z => SQ.mono (s1.trans s2) z) (fun e z => XQ.mono (s1.trans s2) z) q2)) (fun e z => XQ.ew w z) q)
theorem bb_set2 {xss : List (List α)} {δ' : S → List Sl} {m : List (List α) → M S} (w : Wk δ δx) (h : JE C W δ te me) (hi : JE C W δ ti mi) (hj : ∀ P, JE (C.pr P) W0 (δ.set i .no) tj mj) (k : ∀ ys, KB C W δx R (δ.set i (.ow (oLL α) ys)) t2 δ' (m ys)) (hx : δ[i]? = some (.ow (oLL α) xss) := by rfl) :
    KB C W δx R δ (tSeq (tAsg te (gSub (tOp (rIxL C.K) (tVar i) ti) tj rSetL)) t2) δ' (me.bind fun x => mi.bind fun z => (M.ofOpt (ixN xss.length z)).bind fun n => (M.ofOpt xss[n]?).bind fun xs => mj.nx.bind fun y => (M.ofOpt (ixN xs.length y)).bind fun p => M.to m (xss.set n (xs.set p x))) := by
  have z := s_set2 (S := S) w h hi hj k hx
  exact z
theorem bb_setO {xss : List (List α)} {mo : M (List α)} {δ' : S → List Sl} {m : List (List α) → M S} (w : Wk δ δx) (h : JO C W δ (oL α) te mo) (hi : ∀ P, JE (C.pr P) W0 δ ti mi) (k : ∀ ys, KB C W δx R (δ.set i (.ow (oLL α) ys)) t2 δ' (m ys)) (hx : δ[i]? = some (.ow (oLL α) xss) := by rfl) :
    KB C W δx R δ (tSeq (tAsg te (gSub (tVar i) ti rSetL)) t2) δ' (mo.bind fun y => mi.nx.bind fun z => (M.ofOpt (ixN xss.length z)).bind fun n => M.to m (xss.set n y)) := by
  have z := s_setO (S := S) w h hi k hx
  exact z
theorem vv_set2 {xss : List (List α)} {m : List (List α) → M ρ} (w : Wk δ δx) (h : JE C W δ te me) (hi : JE C W δ ti mi) (hj : ∀ P, JE (C.pr P) W0 (δ.set i .no) tj mj) (k : ∀ ys, KV C W δx R (δ.set i (.ow (oLL α) ys)) t2 (m ys)) (hx : δ[i]? = some (.ow (oLL α) xss) := by rfl) :
    KV C W δx R δ (tSeq (tAsg te (gSub (tOp (rIxL C.K) (tVar i) ti) tj rSetL)) t2) (me.bind fun x => mi.bind fun z => (M.ofOpt (ixN xss.length z)).bind fun n => (M.ofOpt xss[n]?).bind fun xs => mj.nx.bind fun y => (M.ofOpt (ixN xs.length y)).bind fun p => M.to m (xss.set n (xs.set p x))) := by
  have z := s_set2 (S := Empty) w h hi hj k hx
  exact z
theorem vv_setO {xss : List (List α)} {mo : M (List α)} {m : List (List α) → M ρ} (w : Wk δ δx) (h : JO C W δ (oL α) te mo) (hi : ∀ P, JE (C.pr P) W0 δ ti mi) (k : ∀ ys, KV C W δx R (δ.set i (.ow (oLL α) ys)) t2 (m ys)) (hx : δ[i]? = some (.ow (oLL α) xss) := by rfl) :
    KV C W δx R δ (tSeq (tAsg te (gSub (tVar i) ti rSetL)) t2) (mo.bind fun y => mi.nx.bind fun z => (M.ofOpt (ixN xss.length z)).bind fun n => M.to m (xss.set n y)) := by
  have z := s_setO (S := Empty) w h hi k hx
  exact z
end
end Dc

namespace Dc
open PySem PySem.Spec PyProof.Rows L2 ToD
section
variable {C : Ctx} {W : WX} {δx : List Sl} {ρ : Type} {R : Rp ρ} {δ : List Sl} {S : Type} {α β : Type} [Fz α] [Fz β] {t2 : TS} {te td ty : TE} {i j : Nat}
theorem reps_at {K : PySem.W.Frag} {F : Hp} : ∀ {vs : List V} {xs : List α} {n : Nat} {x : α}, Reps K F vs xs → xs[n]? = some x → ∃ v, vs[n]? = some v ∧ Fz.rep K F v x
  | _, _, _, _, .nil, e => by simp at e
  | _, _, 0, _, .cons r t, e => by cases e; exact ⟨_, rfl, r⟩
  | _, _, n + 1, _, .cons r t, e => by
    obtain ⟨v, h1, h2⟩ := reps_at t (show _ = some _ from by simpa using e)
    exact ⟨v, by simpa using h1, h2⟩
theorem reps_erase {K : PySem.W.Frag} {F : Hp} : ∀ {vs : List V} {xs : List α} (n : Nat), Reps K F vs xs → Reps K F (vs.eraseIdx n) (xs.eraseIdx n)
  | _, _, _, .nil => .nil
  | _, _, 0, .cons r t => t
  | _, _, n + 1, .cons r t => .cons r (reps_erase n t)
/-- x = xs.pop(e) -/
theorem s_popAt {xs : List α} {mi : M Int} {δ' : S → List Sl} {m : α → List α → M (Fl S ρ)} (w : Wk δ δx) (h : JE C W δ te mi) (k : ∀ x ys, JS C W δx R ((δ.set j (.ow (oL α) ys)).set i (.fz x)) t2 δ' (m x ys)) (hx : δ[j]? = some (.ow (oL α) xs) := by rfl) (hi : i < δ.length := by exact Nat.le_of_ble_eq_true rfl) :
    JS C W δx R δ (tSeq (tAsg (tBM C.K "list" rPopAt (tVar j) (tCons te tNil)) (gName i)) t2) δ' (mi.bind fun z => M.need (xs.length < 2 ^ 62) ((M.ofOpt (ixN xs.length z)).bind fun n => (M.ofOpt xs[n]?).bind fun x => M.to (m x) (xs.eraseIdx n))) := fun F H σ D ok q => by
  obtain ⟨l, vs, e, hl, r⟩ := own_at ok hx
  refine ⟨.ref l, e, .inl ⟨rfl, _, SqL.of hl⟩, h F H σ _ ok (mi.mono (fun z q1 u F1 H1 s1 rp ok1 => ?_) (fun e z => XQ.ew w z) q)⟩
  cases rp
  obtain ⟨l', vs', e', hl', r'⟩ := own_at ok1 hx
  rw [e] at e'
  cases e'
  obtain ⟨q0, q1⟩ := q1
  cases hn : ixN xs.length z with
  | none =>
    rw [hn] at q1
    exact q1.elim
  | some n =>
    rw [hn] at q1
    have q1 : ((M.ofOpt xs[n]?).bind fun x => M.to (m x) (xs.eraseIdx n)).run (SQ C R δ' D F) (XQ C W δx F) := q1
    cases hm : xs[n]? with
    | none =>
      rw [hm] at q1
      exact q1.elim
    | some x =>
      rw [hm] at q1
      obtain ⟨v, ev, rv⟩ := reps_at r' hm
      obtain ⟨b1, b2, b3, b4⟩ := ixN_seq hn
      refine ⟨l, vs', z, n, v, rfl, rfl, hl', by omega, by omega, by rw [r'.length]; exact b1, ev, ?_⟩
      have ok2 := (ok1.set hx e (reps_erase n r')).put (i := i) rv (by rw [List.length_set]; exact hi)
      exact k x _ F1 _ _ D ok2 (M.mono _ (fun f z => SQ.mono s1 z) (fun e z => XQ.mono s1 z) q1)
theorem bb_popAt {xs : List α} {mi : M Int} {δ' : S → List Sl} {m : α → List α → M S} (w : Wk δ δx) (h : JE C W δ te mi) (k : ∀ x ys, KB C W δx R ((δ.set j (.ow (oL α) ys)).set i (.fz x)) t2 δ' (m x ys)) (hx : δ[j]? = some (.ow (oL α) xs) := by rfl) (hi : i < δ.length := by exact Nat.le_of_ble_eq_true rfl) :
    KB C W δx R δ (tSeq (tAsg (tBM C.K "list" rPopAt (tVar j) (tCons te tNil)) (gName i)) t2) δ' (mi.bind fun z => M.need (xs.length < 2 ^ 62) ((M.ofOpt (ixN xs.length z)).bind fun n => (M.ofOpt xs[n]?).bind fun x => M.to (m x) (xs.eraseIdx n))) := by
  have z := s_popAt (S := S) w h k hx hi
  exact z
theorem vv_popAt {xs : List α} {mi : M Int} {m : α → List α → M ρ} (w : Wk δ δx) (h : JE C W δ te mi) (k : ∀ x ys, KV C W δx R ((δ.set j (.ow (oL α) ys)).set i (.fz x)) t2 (m x ys)) (hx : δ[j]? = some (.ow (oL α) xs) := by rfl) (hi : i < δ.length := by exact Nat.le_of_ble_eq_true rfl) :
    KV C W δx R δ (tSeq (tAsg (tBM C.K "list" rPopAt (tVar j) (tCons te tNil)) (gName i)) t2) (mi.bind fun z => M.need (xs.length < 2 ^ 62) ((M.ofOpt (ixN xs.length z)).bind fun n => (M.ofOpt xs[n]?).bind fun x => M.to (m x) (xs.eraseIdx n))) := by
  have z := s_popAt (S := Empty) w h k hx hi
  exact z
/-- x, y = e, a thing of one's own -/
theorem s_parO {ω : Type} {O : Rp ω} {ta tb : TE} {ma : M α} {mb : M ω} {δ' : S → List Sl} {m : α → ω → M (Fl S ρ)} (w : Wk δ δx) (h : JE C W δ ta ma) (h2 : JO C W δ O tb mb) (k : ∀ a b, JS C W δx R ((δ.set i (.fz a)).set j (.ow O b)) t2 δ' (m a b)) (hi : i < δ.length := by exact Nat.le_of_ble_eq_true rfl) (hj : j < δ.length := by exact Nat.le_of_ble_eq_true rfl) :
    JS C W δx R δ (tSeq (tPar i j (tCons ta (tCons tb tNil))) t2) δ' (ma.bind fun a => mb.bind fun b => m a b) := fun F H σ D ok q =>
  h F H σ _ ok (ma.mono (fun a q1 v F1 H1 s1 rp ok1 => h2 F1 H1 σ _ ok1 (mb.mono (fun b q2 u F2 H2 s2 ok2 => ⟨v, u, rfl, k a b F2 H2 _ D ((ok2.put (i := i + 1) (Fz.mono s2 rp) (by rw [List.length_cons]; omega)).store (i := j) (by rw [List.length_set]; exact hj)) ((m a b).mono (fun f z => SQ.mono (s1.trans s2) z) (fun e z => XQ.mono (s1.trans s2) z) q2)⟩) (fun e z => EW.mono s1 (XQ.ew w z)) q1)) (fun e z => XQ.ew w z) q)
theorem bb_parO {ω : Type} {O : Rp ω} {ta tb : TE} {ma : M α} {mb : M ω} {δ' : S → List Sl} {m : α → ω → M S} (w : Wk δ δx) (h : JE C W δ ta ma) (h2 : JO C W δ O tb mb) (k : ∀ a b, KB C W δx R ((δ.set i (.fz a)).set j (.ow O b)) t2 δ' (m a b)) (hi : i < δ.length := by exact Nat.le_of_ble_eq_true rfl) (hj : j < δ.length := by exact Nat.le_of_ble_eq_true rfl) :
    KB C W δx R δ (tSeq (tPar i j (tCons ta (tCons tb tNil))) t2) δ' (ma.bind fun a => mb.bind fun b => m a b) := by
  have z := s_parO (S := S) w h h2 k hi hj
  exact z
theorem vv_parO {ω : Type} {O : Rp ω} {ta tb : TE} {ma : M α} {mb : M ω} {m : α → ω → M ρ} (w : Wk δ δx) (h : JE C W δ ta ma) (h2 : JO C W δ O tb mb) (k : ∀ a b, KV C W δx R ((δ.set i (.fz a)).set j (.ow O b)) t2 (m a b)) (hi : i < δ.length := by exact Nat.le_of_ble_eq_true rfl) (hj : j < δ.length := by exact Nat.le_of_ble_eq_true rfl) :
    KV C W δx R δ (tSeq (tPar i j (tCons ta (tCons tb tNil))) t2) (ma.bind fun a => mb.bind fun b => m a b) := by
  have z := s_parO (S := Empty) w h h2 k hi hj
  exact z
/-- a pair as a tuple of two -/
theorem e_pT {m : M (α × α)} (h : JE C W δ te m) : JE C W δ te (m.bind fun p => M.pure (Tof.mk [p.1, p.2])) := fun F H σ Q ok q => h F H σ _ ok (m.mono (fun p q1 v F1 H1 s1 rp ok1 => by
  obtain ⟨l, v1, v2, e, hl, r1, r2⟩ := rp
  exact q1 v F1 H1 s1 ⟨l, [v1, v2], e, hl, .cons r1 (.cons r2 .nil)⟩ ok1) (fun _ z => z) q)
end
section
variable {C : Ctx} {W : WX} {δ : List Sl} {α β : Type} [DecidableEq α] [Fz α] [Ky α] [Fz β] {td ty : TE}
/-- d.get(k) -/
theorem e_getO {m1 : M (Dct α β)} {m2 : M α} (h1 : JR C W δ td m1) (h2 : JE C W δ ty m2) : JE C W δ (tDGet1 td ty) (m1.bind fun d => m2.bind fun k => M.pure (dLook d.l k)) := fun F H σ Q ok q =>
  h1 F H σ _ ok (m1.mono (fun d q1 v F1 H1 s1 ok1 rd => by
    obtain ⟨l, kvs, rfl, hl, _⟩ := rd F1 H1 (Same.refl _) ok1
    refine ⟨l, rfl, .inl ⟨_, .inl hl⟩, h2 F1 H1 σ _ ok1 (m2.mono (fun k q2 w F2 H2 s2 rk ok2 => ?_) (fun e z => EW.mono s1 z) q1)⟩
    obtain ⟨a, ea, g⟩ := dget_ok (rd F2 H2 s2 ok2) rk
    cases ea
    dsimp only at q2
    cases hk : dLook d.l k with
    | none =>
      rw [hk] at g q2
      exact ⟨none, g, q2 .non F2 H2 (s1.trans s2) rfl ok2⟩
    | some b =>
      rw [hk] at g q2
      obtain ⟨u, gu, ru⟩ := g
      exact ⟨some u, gu, q2 u F2 H2 (s1.trans s2) ru ok2⟩) (fun _ z => z) q)
end
end Dc

namespace Dc
open PySem PySem.Spec PyProof.Rows L2 ToD UV
/-! ## keywords, and arguments that are left out -/
def sel {α : Type} (is : List Nat) (xs : List α) : List α := is.filterMap fun i => xs[i]?
theorem sel_vals {vs : List V} {us : List Value} (h : Vals vs us) : ∀ is, Vals (sel is vs) (sel is us)
  | [] => .nil
  | i :: is => by
    have ih := sel_vals h is
    unfold sel at ih ⊢
    rw [List.filterMap_cons, List.filterMap_cons]
    cases e : vs[i]? with
    | none =>
      rw [Vals.none_of h e]
      exact ih
    | some v =>
      obtain ⟨u, e2, r⟩ := Vals.get h e
      rw [e2]
      exact .cons r ih
theorem sel_succ {α : Type} (x : α) (xs : List α) (is : List Nat) : sel (0 :: is.map (· + 1)) (x :: xs) = x :: sel is xs := by
  unfold sel
  rw [List.filterMap_cons, List.filterMap_map]
  rfl
/-- what is written by places, by names, and what is left out: in the parameters' order -/
def tKw (n m : Nat) (is : List Nat) (ds : List V) (t tk : TA) : TA := fun σ H Q => t σ H fun vs H1 => tk σ H1 fun zs H2 => vs.length = n ∧ zs.length = m ∧ Q (sel is (vs ++ (ds ++ zs))) H2
def KBd (K : PySem.W.Frag) (fd : FuncData) (ps : List Str) (n : Nat) (ks : List Str) (is : List Nat) (ds : List V) : Prop := ∃ g, KBn K fd ps n ks g (fun vs zs => sel is (vs ++ (ds ++ zs)))
section
variable {K : PySem.W.Frag} {x qual : Str} {params : Arguments} {body : List Stmt} {scope : Scope} {dvs ds : List V} {kws : List (Str × V)} {f : Addr} {fd : FuncData} {ps ks : List Str} {n : Nat} {is : List Nat}
theorem kb_all (F : FunD K x qual params body scope [] kws f fd)
    (h : ∀ (kV doc pm : Value) (an : Option Addr) (cdv ct : Value) (us ws : List Value), us.length = n → ws.length = ks.length → bindArgs (PySem.W.fnOf x qual params body scope .none kV doc pm an cdv ct) ⟨us, ks.zip ws⟩ = pure (ps.zip (sel is (us ++ ws)))) : KBd K fd ps n ks is [] := by
  obtain ⟨oc, od, dV, kV, doc, pm, an, cdv, ct, osl, rfl, lk, hcd, hD, hK⟩ := F.ex
  rcases hD with ⟨_, rfl⟩ | ⟨e, _⟩
  · exact ⟨fun us ws => sel is (us ++ ws), ⟨fun s us ws X l1 l2 => .of_eq (h kV doc pm an cdv ct us ws l1 l2), fun r1 r2 => sel_vals (r1.append r2) is⟩⟩
  · exact absurd rfl e
theorem kb_dfl (F : FunD K x qual params body scope dvs kws f fd) (hd : dvs ≠ [])
    (h : ∀ (T : Addr) (kV doc pm : Value) (an : Option Addr) (cdv ct : Value) (us its ws : List Value), us.length = n → its.length = dvs.length → ws.length = ks.length →
      ∃ k, bindArgs (PySem.W.fnOf x qual params body scope (.ref T) kV doc pm an cdv ct) ⟨us, ks.zip ws⟩ = seqItems? (.ref T) >>= k ∧ k (some its.toArray) = pure (ps.zip (sel is (us ++ (its ++ ws))))) : KBd K fd ps n ks is dvs := by
  obtain ⟨its, b⟩ := F.kbindsD (ps := ps) n ks (fun us its ws => sel is (us ++ (its ++ ws))) hd (fun r1 r2 r3 => sel_vals (r1.append (r2.append r3)) is) h
  exact ⟨_, b⟩
theorem kb_kw0 (F : FunD K x qual params body scope [] kws f fd) (ms : List (Str × V)) (hk : kws ≠ []) (hms : ∀ q ∈ ms, q ∈ kws)
    (h : ∀ (D : Addr) (doc pm : Value) (an : Option Addr) (cdv ct : Value) (us mv ws : List Value), us.length = n → mv.length = ms.length → ws.length = ks.length →
      KwChain D ((ms.map (·.1)).zip mv) (bindArgs (PySem.W.fnOf x qual params body scope .none (.ref D) doc pm an cdv ct) ⟨us, ks.zip ws⟩) (ps.zip (sel is (us ++ (mv ++ ws))))) : KBd K fd ps n ks is (ms.map (·.2)) := by
  obtain ⟨mv, b⟩ := F.kbinds0 (ps := ps) n ks ms (fun us mv ws => sel is (us ++ (mv ++ ws))) hk hms (fun r1 r2 r3 => sel_vals (r1.append (r2.append r3)) is) h
  exact ⟨_, b⟩
theorem kb_both (F : FunD K x qual params body scope dvs kws f fd) (ms : List (Str × V)) (hd : dvs ≠ []) (hk : kws ≠ []) (hms : ∀ q ∈ ms, q ∈ kws)
    (h : ∀ (T D : Addr) (doc pm : Value) (an : Option Addr) (cdv ct : Value) (us its mv ws : List Value), us.length = n → its.length = dvs.length → mv.length = ms.length → ws.length = ks.length →
      ∃ k, bindArgs (PySem.W.fnOf x qual params body scope (.ref T) (.ref D) doc pm an cdv ct) ⟨us, ks.zip ws⟩ = seqItems? (.ref T) >>= k ∧ KwChain D ((ms.map (·.1)).zip mv) (k (some its.toArray)) (ps.zip (sel is (us ++ ((its ++ mv) ++ ws))))) : KBd K fd ps n ks is (dvs ++ ms.map (·.2)) := by
  obtain ⟨its, mv, b⟩ := F.kbinds (ps := ps) n ks ms (fun us its mv ws => sel is (us ++ ((its ++ mv) ++ ws))) hd hk hms (fun r1 r2 r3 r4 => sel_vals (r1.append ((r2.append r3).append r4)) is) h
  exact ⟨_, b⟩
end
structure CalK (K : PySem.W.Frag) (mg : Str → Option Value) (x : Str) (f : Addr) (fd : FuncData) (ps : List Str) (n : Nat) (ks : List Str) (is : List Nat) (ds : List V) : Prop where
  m : mg x = some (.ref f)
  k : PySem.W.keepIn K (.ref f) = true
  b : KBd K fd ps n ks is ds
structure CalMK (K : PySem.W.Frag) (C : Addr) (x : Str) (f : Addr) (fd : FuncData) (ps : List Str) (n : Nat) (ks : List Str) (is : List Nat) (ds : List V) : Prop where
  c : Cls K C
  m : Meth K C x f
  b : KBd K fd ps (n + 1) ks (0 :: is.map (· + 1)) ds
structure CalIK (K : PySem.W.Frag) (mg : Str → Option Value) (C : Addr) (x : Str) (f : Addr) (fd : FuncData) (ps : List Str) (n : Nat) (ks : List Str) (is : List Nat) (ds : List V) : Prop where
  m : mg x = some (.ref C)
  k : Mk K C f
  b : KBd K fd ps (n + 1) ks (0 :: is.map (· + 1)) ds
section
variable {X : Cx} {CX : CXT} {k n : Nat} {f C : Addr} {fd : FuncData} {ps ks : List Str} {sp : Sp} {E : XK} {x m : Str} {p pos apos : Pos} {e o : Expr} {es : List Expr} {kws : List Keyword} {ta : TE} {t tk : TA} {is : List Nat} {ds : List V} {W : WX}
  {pins : List (Addr × PySem.Obj)} {σ : L2.St} {H : Hp} {s : Shared} {Q : VK} {us ws : List Value} {vs zs : List V}
theorem run_kw (F : Ok X.prog X.w X.K X.mg X.base CX k f fd ps sp) (hr : Room k X.A) (hgd : X.A.guards = some []) (b : KBd X.K fd ps n ks is ds) (hx : Passes CX X E)
    (I : Inv X pins σ H s) (r : Vals vs us) (rz : Vals zs ws) (l1 : vs.length = n) (l2 : zs.length = ks.length) (h : sp (sel is (vs ++ (ds ++ zs))) H Q E) : wpAny (model X.prog X.w) X.A (call (.ref f) us (ks.zip ws)) (EP X pins σ Q) X.xe s := by
  obtain ⟨g, b⟩ := b
  exact run_any F hr hgd hx I (b.to s us ws I.kIn (r.length.symm.trans l1) (rz.length.symm.trans l2)) (b.rel r rz) h
theorem run_kwS (F : Ok X.prog X.w X.K X.mg X.base (L2.CX X.prog X.w) k f fd ps sp) (hr : Room k X.A) (hgd : X.A.guards = some []) (b : KBd X.K fd ps n ks is ds) (tk : Takes X W)
    (I : Inv X pins σ H s) (r : Vals vs us) (rz : Vals zs ws) (l1 : vs.length = n) (l2 : zs.length = ks.length) (h : sp (sel is (vs ++ (ds ++ zs))) H Q (WE W σ)) : wpAny (model X.prog X.w) X.A (call (.ref f) us (ks.zip ws)) (EP X pins σ Q) X.xe s := by
  obtain ⟨g, b⟩ := b
  refine wpAny_call (codeAny_mono (F.run hr hgd I.env0 (b.to s us ws I.kIn (r.length.symm.trans l1) (rz.length.symm.trans l2)) (b.rel r rz) h) ?_)
  intro z s' hq
  cases z with
  | error e => exact passAt tk σ pins H s e s' I hq
  | ok fl =>
    cases fl with
    | ret u => exact I.after hq
    | next => cases hq
    | brk => cases hq
    | cont => cases hq
/-- the arguments of a call, from the left -/
theorem kw_args {Q' : Value → Shared → Prop} {fv : Value} {first : List Value} (hk : PySem.W.keepIn X.K fv = true) (ha : PA X (e :: es) t) (hkw : PK X kws tk)
    (hall : (backToKw pos (keywordEach kws X.env)).all (·.1.isSome) = true) (hks : (backToKw pos (keywordEach kws X.env)).filterMap (·.1) = ks)
    (he : starEach (e :: es) X.env = (false, eval e X.env) :: starEach es X.env) (hpl : ((backTo pos (starEach (e :: es) X.env)).any (·.1) || (backToKw pos (keywordEach kws X.env)).any (·.1.isNone)) = false)
    (I : Inv X pins σ H s) {Q : List V → List V → Hp → Prop} (h : t σ H fun vs H1 => tk σ H1 fun zs H2 => Q vs zs H2)
    (hq : ∀ us ws vs zs H2 s2, Inv X pins σ H2 s2 → Vals vs us → Vals zs ws → Q vs zs H2 → wpAny (model X.prog X.w) X.A (call fv (first ++ us) (ks.zip ws)) Q' X.xe s2) :
    wpAny (model X.prog X.w) X.A (callWith pos fv first (backTo pos (starEach (e :: es) X.env)) (backToKw pos (keywordEach kws X.env))) Q' X.xe s := by
  refine PySem.W.callWith_KW (h₀ := X.base) I.ok.mod.kin hk hall (thn (ha.run pos pins s σ H _ I h) fun us s1 ⟨vs, H1, I1, r, q⟩ => ?_) hpl he
  refine thn (hkw.run pos pins s1 σ H1 _ I1 q) fun ws s2 ⟨zs, H2, I2, rz, q2⟩ => ⟨I2.kIn, ?_⟩
  rw [hks]
  exact hq us ws vs zs H2 s2 I2 r rz q2
theorem kw_args0 {Q' : Value → Shared → Prop} {fv : Value} {first : List Value} (hk : PySem.W.keepIn X.K fv = true) (hkw : PK X kws tk)
    (hall : (backToKw pos (keywordEach kws X.env)).all (·.1.isSome) = true) (hks : (backToKw pos (keywordEach kws X.env)).filterMap (·.1) = ks)
    (hpl : ((backTo pos (starEach [] X.env)).any (·.1) || (backToKw pos (keywordEach kws X.env)).any (·.1.isNone)) = false)
    (I : Inv X pins σ H s) {Q : List V → Hp → Prop} (h : tk σ H fun zs H2 => Q zs H2)
    (hq : ∀ ws zs H2 s2, Inv X pins σ H2 s2 → Vals zs ws → Q zs H2 → wpAny (model X.prog X.w) X.A (call fv (first ++ []) (ks.zip ws)) Q' X.xe s2) :
    wpAny (model X.prog X.w) X.A (callWith pos fv first (backTo pos (starEach [] X.env)) (backToKw pos (keywordEach kws X.env))) Q' X.xe s := by
  refine PySem.W.callWith_KW0 (h₀ := X.base) I.ok.mod.kin hk hall ?_ hpl
  refine thn (hkw.run pos pins s σ H _ I h) fun ws s2 ⟨zs, H2, I2, rz, q2⟩ => ⟨I2.kIn, ?_⟩
  rw [hks]
  exact hq ws zs H2 s2 I2 rz q2
theorem c_callK (F : Ok X.prog X.w X.K X.mg X.base CX k f fd ps sp) (c : CalK X.K X.mg x f fd ps n ks is ds) (hr : Room k X.A) (hgd : X.A.guards = some []) (hx : Passes CX X E) (ha : PA X (e :: es) t) (hkw : PK X kws tk) (hg : Gl X x := by rfl) (hdb : (x == ("__debug__" : Str)) = false := by decide)
    (hall : (backToKw pos (keywordEach kws X.env)).all (·.1.isSome) = true := by rfl) (hks : (backToKw pos (keywordEach kws X.env)).filterMap (·.1) = ks := by rfl)
    (he : starEach (e :: es) X.env = (false, eval e X.env) :: starEach es X.env := by rfl) (hpl : ((backTo pos (starEach (e :: es) X.env)).any (·.1) || (backToKw pos (keywordEach kws X.env)).any (·.1.isNone)) = false := by rfl) : PE X (.Call (.Name x p) (e :: es) kws pos) (tF sp E (tKw n ks.length is ds t tk)) := by
  refine ⟨fun pins s σ H Q I h => ?_⟩
  refine wpAny_Call_Name_kw (ld_glob I hg c.m ?_ hdb)
  exact kw_args (first := []) c.k ha hkw hall hks he hpl I h fun us ws vs zs H2 s2 I2 r rz ⟨l1, l2, q⟩ => run_kw F hr hgd c.b hx I2 r rz l1 l2 q
theorem c_methK {pl : Sem Bool} (F : Ok X.prog X.w X.K X.mg X.base CX k f fd ps sp) (c : CalMK X.K C m f fd ps n ks is ds) (hr : Room k X.A) (hgd : X.A.guards = some []) (hx : Passes CX X E) (ho : PE X o ta) (ha : PA X (e :: es) t) (hkw : PK X kws tk)
    (hall : (backToKw pos (keywordEach kws X.env)).all (·.1.isSome) = true := by rfl) (hks : (backToKw pos (keywordEach kws X.env)).filterMap (·.1) = ks := by rfl)
    (he : starEach (e :: es) X.env = (false, eval e X.env) :: starEach es X.env := by rfl) (hpl : ((backTo pos (starEach (e :: es) X.env)).any (·.1) || (backToKw pos (keywordEach kws X.env)).any (·.1.isNone)) = false := by rfl)
    (ht : eval (.Call (.Attribute o m apos) (e :: es) kws pos) X.env = (do
        let ov ← eval o X.env
        standAt apos.atName
        let (f, first) ← holding [ov] (getMethod ov m pl)
        callWith pos f first (backTo pos (starEach (e :: es) X.env)) (backToKw pos (keywordEach kws X.env))) := by rfl) : PE X (.Call (.Attribute o m apos) (e :: es) kws pos) (tM C m sp E ta (tKw n ks.length is ds t tk)) := by
  refine ⟨fun pins s σ H Q I h => ?_⟩
  refine PySem.W.methodCall_KW (pl := pl) (thn (ho.run pins s σ H _ I h) ?_) ht
  rintro u s1 ⟨x, H1, I1, rx, a, dx, fs, rfl, ea, l, q⟩
  obtain rfl : u = Value.ref a := rx
  refine getmeth_ok I1 ea c.c c.m l ?_
  exact kw_args (first := [.ref a]) c.m.kp ha hkw hall hks he hpl I1 q fun us ws vs zs H2 s2 I2 r rz ⟨l1, l2, q⟩ => run_kw (us := .ref a :: us) (vs := .ref a :: vs) F hr hgd c.b hx I2 (.cons rfl r) rz (congrArg Nat.succ l1) l2 (by rw [List.cons_append, sel_succ]; exact q)
theorem c_callK0 (F : Ok X.prog X.w X.K X.mg X.base CX k f fd ps sp) (c : CalK X.K X.mg x f fd ps n ks is ds) (hr : Room k X.A) (hgd : X.A.guards = some []) (hx : Passes CX X E) (hkw : PK X kws tk) (hg : Gl X x := by rfl) (hdb : (x == ("__debug__" : Str)) = false := by decide)
    (hall : (backToKw pos (keywordEach kws X.env)).all (·.1.isSome) = true := by rfl) (hks : (backToKw pos (keywordEach kws X.env)).filterMap (·.1) = ks := by rfl)
    (hpl : ((backTo pos (starEach [] X.env)).any (·.1) || (backToKw pos (keywordEach kws X.env)).any (·.1.isNone)) = false := by rfl) : PE X (.Call (.Name x p) [] kws pos) (tF sp E (tKw n ks.length is ds tNil tk)) := by
  refine ⟨fun pins s σ H Q I h => ?_⟩
  refine wpAny_Call_Name_kw (ld_glob I hg c.m ?_ hdb)
  exact kw_args0 (first := []) c.k hkw hall hks hpl I h fun ws zs H2 s2 I2 rz ⟨l1, l2, q⟩ => run_kw F hr hgd c.b hx I2 .nil rz l1 l2 q
theorem c_methK0 {pl : Sem Bool} (F : Ok X.prog X.w X.K X.mg X.base CX k f fd ps sp) (c : CalMK X.K C m f fd ps n ks is ds) (hr : Room k X.A) (hgd : X.A.guards = some []) (hx : Passes CX X E) (ho : PE X o ta) (hkw : PK X kws tk)
    (hall : (backToKw pos (keywordEach kws X.env)).all (·.1.isSome) = true := by rfl) (hks : (backToKw pos (keywordEach kws X.env)).filterMap (·.1) = ks := by rfl)
    (hpl : ((backTo pos (starEach [] X.env)).any (·.1) || (backToKw pos (keywordEach kws X.env)).any (·.1.isNone)) = false := by rfl)
    (ht : eval (.Call (.Attribute o m apos) [] kws pos) X.env = (do
        let ov ← eval o X.env
        standAt apos.atName
        let (f, first) ← holding [ov] (getMethod ov m pl)
        callWith pos f first (backTo pos (starEach [] X.env)) (backToKw pos (keywordEach kws X.env))) := by rfl) : PE X (.Call (.Attribute o m apos) [] kws pos) (tM C m sp E ta (tKw n ks.length is ds tNil tk)) := by
  refine ⟨fun pins s σ H Q I h => ?_⟩
  refine PySem.W.methodCall_KW (pl := pl) (thn (ho.run pins s σ H _ I h) ?_) ht
  rintro u s1 ⟨x, H1, I1, rx, a, dx, fs, rfl, ea, l, q⟩
  obtain rfl : u = Value.ref a := rx
  refine getmeth_ok I1 ea c.c c.m l ?_
  exact kw_args0 (first := [.ref a]) c.m.kp hkw hall hks hpl I1 q fun ws zs H2 s2 I2 rz ⟨l1, l2, q⟩ => run_kw (us := .ref a :: []) (vs := .ref a :: []) F hr hgd c.b hx I2 (.cons rfl .nil) rz (congrArg Nat.succ l1) l2 (by rw [List.cons_append, sel_succ]; exact q)
theorem run_mkK (M : Mk X.K C f) (F : Ok X.prog X.w X.K X.mg X.base CX k f fd ps sp) (hr : Room (k + 1) X.A) (hgd : X.A.guards = some []) (hx : Passes CX X E) (b : KBd X.K fd ps (n + 1) ks (0 :: is.map (· + 1)) ds) (I : Inv X pins σ H s) (r : Vals vs us) (rz : Vals zs ws) (l1 : vs.length = n) (l2 : zs.length = ks.length)
    (h : ∀ x dx, H x = none → H dx = none → dx ≠ x → sp (.ref x :: sel is (vs ++ (ds ++ zs))) (upd (upd H dx (.own x)) x (.ins C dx [])) (fun v H2 => v = .non ∧ Q (.ref x) H2) E) :
    wpAny (model X.prog X.w) X.A (call (.ref C) us (ks.zip ws)) (EP X pins σ Q) X.xe s := by
  obtain ⟨g, b⟩ := b
  have hq := h (s.heap.objs.size + 1) s.heap.objs.size (I.hok.fresh (Nat.le_succ _)) (I.hok.fresh (Nat.le_refl _)) (Nat.ne_of_lt (Nat.lt_succ_self _))
  rw [← sel_succ, ← List.cons_append] at hq
  have I2 := Inv.made (C := C) I
  have r1 : Vals (V.ref (s.heap.objs.size + 1) :: vs) (Value.ref (s.heap.objs.size + 1) :: us) := .cons rfl r
  have r2 := b.rel r1 rz
  have e1 : (Value.ref (s.heap.objs.size + 1) :: us).length = n + 1 := r1.length.symm.trans (congrArg Nat.succ l1)
  refine wpAny_call (make_map (f := f) I.kIn M.makes M.init (beq_iff_eq.mp M.fn) (codeAny_mono (F.run (hr.make C us (ks.zip ws)) (make_guards.trans hgd) (I2.env0.make C us (ks.zip ws)) (b.to _ (Value.ref (s.heap.objs.size + 1) :: us) ws I2.kIn e1 (rz.length.symm.trans l2)) r2 hq) ?_))
  intro z s' hq'
  cases z with
  | error e => exact hx pins σ _ _ e s' I2 hq'
  | ok fl =>
    cases fl with
    | ret u =>
      obtain ⟨v, H', I3, rv, ev, q3⟩ := I2.after hq'
      subst ev
      exact ⟨rv, V.ref (s.heap.objs.size + 1), H', I3, rfl, q3⟩
    | next => cases hq'
    | brk => cases hq'
    | cont => cases hq'
theorem c_makeK (F : Ok X.prog X.w X.K X.mg X.base CX k f fd ps sp) (c : CalIK X.K X.mg C x f fd ps n ks is ds) (hr : Room (k + 1) X.A) (hgd : X.A.guards = some []) (hx : Passes CX X E) (ha : PA X (e :: es) t) (hkw : PK X kws tk) (hg : Gl X x := by rfl) (hdb : (x == ("__debug__" : Str)) = false := by decide)
    (hall : (backToKw pos (keywordEach kws X.env)).all (·.1.isSome) = true := by rfl) (hks : (backToKw pos (keywordEach kws X.env)).filterMap (·.1) = ks := by rfl)
    (he : starEach (e :: es) X.env = (false, eval e X.env) :: starEach es X.env := by rfl) (hpl : ((backTo pos (starEach (e :: es) X.env)).any (·.1) || (backToKw pos (keywordEach kws X.env)).any (·.1.isNone)) = false := by rfl) : PE X (.Call (.Name x p) (e :: es) kws pos) (tMk C sp E (tKw n ks.length is ds t tk)) := by
  refine ⟨fun pins s σ H Q I h => ?_⟩
  refine wpAny_Call_Name_kw (ld_glob I hg c.m ?_ hdb)
  exact kw_args (first := []) c.k.kp ha hkw hall hks he hpl I h fun us ws vs zs H2 s2 I2 r rz ⟨l1, l2, q⟩ => run_mkK c.k F hr hgd hx c.b I2 r rz l1 l2 q
theorem c_makeK0 (F : Ok X.prog X.w X.K X.mg X.base CX k f fd ps sp) (c : CalIK X.K X.mg C x f fd ps n ks is ds) (hr : Room (k + 1) X.A) (hgd : X.A.guards = some []) (hx : Passes CX X E) (hkw : PK X kws tk) (hg : Gl X x := by rfl) (hdb : (x == ("__debug__" : Str)) = false := by decide)
    (hall : (backToKw pos (keywordEach kws X.env)).all (·.1.isSome) = true := by rfl) (hks : (backToKw pos (keywordEach kws X.env)).filterMap (·.1) = ks := by rfl)
    (hpl : ((backTo pos (starEach [] X.env)).any (·.1) || (backToKw pos (keywordEach kws X.env)).any (·.1.isNone)) = false := by rfl) : PE X (.Call (.Name x p) [] kws pos) (tMk C sp E (tKw n ks.length is ds tNil tk)) := by
  refine ⟨fun pins s σ H Q I h => ?_⟩
  refine wpAny_Call_Name_kw (ld_glob I hg c.m ?_ hdb)
  exact kw_args0 (first := []) c.k.kp hkw hall hks hpl I h fun ws zs H2 s2 I2 rz ⟨l1, l2, q⟩ => run_mkK c.k F hr hgd hx c.b I2 .nil rz l1 l2 q
theorem c_callKS (F : Ok X.prog X.w X.K X.mg X.base (L2.CX X.prog X.w) k f fd ps sp) (c : CalK X.K X.mg x f fd ps n ks is ds) (hr : Room k X.A) (hgd : X.A.guards = some []) (tw : Takes X W) (ha : PA X (e :: es) t) (hkw : PK X kws tk) (hg : Gl X x := by rfl) (hdb : (x == ("__debug__" : Str)) = false := by decide)
    (hall : (backToKw pos (keywordEach kws X.env)).all (·.1.isSome) = true := by rfl) (hks : (backToKw pos (keywordEach kws X.env)).filterMap (·.1) = ks := by rfl)
    (he : starEach (e :: es) X.env = (false, eval e X.env) :: starEach es X.env := by rfl) (hpl : ((backTo pos (starEach (e :: es) X.env)).any (·.1) || (backToKw pos (keywordEach kws X.env)).any (·.1.isNone)) = false := by rfl) : PE X (.Call (.Name x p) (e :: es) kws pos) (tFS sp W (tKw n ks.length is ds t tk)) := by
  refine ⟨fun pins s σ H Q I h => ?_⟩
  refine wpAny_Call_Name_kw (ld_glob I hg c.m ?_ hdb)
  exact kw_args (first := []) c.k ha hkw hall hks he hpl I h fun us ws vs zs H2 s2 I2 r rz ⟨l1, l2, q⟩ => run_kwS F hr hgd c.b tw I2 r rz l1 l2 q
theorem c_methKS {pl : Sem Bool} (F : Ok X.prog X.w X.K X.mg X.base (L2.CX X.prog X.w) k f fd ps sp) (c : CalMK X.K C m f fd ps n ks is ds) (hr : Room k X.A) (hgd : X.A.guards = some []) (tw : Takes X W) (ho : PE X o ta) (ha : PA X (e :: es) t) (hkw : PK X kws tk)
    (hall : (backToKw pos (keywordEach kws X.env)).all (·.1.isSome) = true := by rfl) (hks : (backToKw pos (keywordEach kws X.env)).filterMap (·.1) = ks := by rfl)
    (he : starEach (e :: es) X.env = (false, eval e X.env) :: starEach es X.env := by rfl) (hpl : ((backTo pos (starEach (e :: es) X.env)).any (·.1) || (backToKw pos (keywordEach kws X.env)).any (·.1.isNone)) = false := by rfl)
    (ht : eval (.Call (.Attribute o m apos) (e :: es) kws pos) X.env = (do
        let ov ← eval o X.env
        standAt apos.atName
        let (f, first) ← holding [ov] (getMethod ov m pl)
        callWith pos f first (backTo pos (starEach (e :: es) X.env)) (backToKw pos (keywordEach kws X.env))) := by rfl) : PE X (.Call (.Attribute o m apos) (e :: es) kws pos) (tMS C m sp W ta (tKw n ks.length is ds t tk)) := by
  refine ⟨fun pins s σ H Q I h => ?_⟩
  refine PySem.W.methodCall_KW (pl := pl) (thn (ho.run pins s σ H _ I h) ?_) ht
  rintro u s1 ⟨x, H1, I1, rx, a, dx, fs, rfl, ea, l, q⟩
  obtain rfl : u = Value.ref a := rx
  refine getmeth_ok I1 ea c.c c.m l ?_
  exact kw_args (first := [.ref a]) c.m.kp ha hkw hall hks he hpl I1 q fun us ws vs zs H2 s2 I2 r rz ⟨l1, l2, q⟩ => run_kwS (us := .ref a :: us) (vs := .ref a :: vs) F hr hgd c.b tw I2 (.cons rfl r) rz (congrArg Nat.succ l1) l2 (by rw [List.cons_append, sel_succ]; exact q)
theorem c_callK0S (F : Ok X.prog X.w X.K X.mg X.base (L2.CX X.prog X.w) k f fd ps sp) (c : CalK X.K X.mg x f fd ps n ks is ds) (hr : Room k X.A) (hgd : X.A.guards = some []) (tw : Takes X W) (hkw : PK X kws tk) (hg : Gl X x := by rfl) (hdb : (x == ("__debug__" : Str)) = false := by decide)
    (hall : (backToKw pos (keywordEach kws X.env)).all (·.1.isSome) = true := by rfl) (hks : (backToKw pos (keywordEach kws X.env)).filterMap (·.1) = ks := by rfl)
    (hpl : ((backTo pos (starEach [] X.env)).any (·.1) || (backToKw pos (keywordEach kws X.env)).any (·.1.isNone)) = false := by rfl) : PE X (.Call (.Name x p) [] kws pos) (tFS sp W (tKw n ks.length is ds tNil tk)) := by
  refine ⟨fun pins s σ H Q I h => ?_⟩
  refine wpAny_Call_Name_kw (ld_glob I hg c.m ?_ hdb)
  exact kw_args0 (first := []) c.k hkw hall hks hpl I h fun ws zs H2 s2 I2 rz ⟨l1, l2, q⟩ => run_kwS F hr hgd c.b tw I2 .nil rz l1 l2 q
theorem c_methK0S {pl : Sem Bool} (F : Ok X.prog X.w X.K X.mg X.base (L2.CX X.prog X.w) k f fd ps sp) (c : CalMK X.K C m f fd ps n ks is ds) (hr : Room k X.A) (hgd : X.A.guards = some []) (tw : Takes X W) (ho : PE X o ta) (hkw : PK X kws tk)
    (hall : (backToKw pos (keywordEach kws X.env)).all (·.1.isSome) = true := by rfl) (hks : (backToKw pos (keywordEach kws X.env)).filterMap (·.1) = ks := by rfl)
    (hpl : ((backTo pos (starEach [] X.env)).any (·.1) || (backToKw pos (keywordEach kws X.env)).any (·.1.isNone)) = false := by rfl)
    (ht : eval (.Call (.Attribute o m apos) [] kws pos) X.env = (do
        let ov ← eval o X.env
        standAt apos.atName
        let (f, first) ← holding [ov] (getMethod ov m pl)
        callWith pos f first (backTo pos (starEach [] X.env)) (backToKw pos (keywordEach kws X.env))) := by rfl) : PE X (.Call (.Attribute o m apos) [] kws pos) (tMS C m sp W ta (tKw n ks.length is ds tNil tk)) := by
  refine ⟨fun pins s σ H Q I h => ?_⟩
  refine PySem.W.methodCall_KW (pl := pl) (thn (ho.run pins s σ H _ I h) ?_) ht
  rintro u s1 ⟨x, H1, I1, rx, a, dx, fs, rfl, ea, l, q⟩
  obtain rfl : u = Value.ref a := rx
  refine getmeth_ok I1 ea c.c c.m l ?_
  exact kw_args0 (first := [.ref a]) c.m.kp hkw hall hks hpl I1 q fun ws zs H2 s2 I2 rz ⟨l1, l2, q⟩ => run_kwS (us := .ref a :: []) (vs := .ref a :: []) F hr hgd c.b tw I2 (.cons rfl .nil) rz (congrArg Nat.succ l1) l2 (by rw [List.cons_append, sel_succ]; exact q)
theorem run_mkKS (M : Mk X.K C f) (F : Ok X.prog X.w X.K X.mg X.base (L2.CX X.prog X.w) k f fd ps sp) (hr : Room (k + 1) X.A) (hgd : X.A.guards = some []) (tw : Takes X W) (b : KBd X.K fd ps (n + 1) ks (0 :: is.map (· + 1)) ds) (I : Inv X pins σ H s) (r : Vals vs us) (rz : Vals zs ws) (l1 : vs.length = n) (l2 : zs.length = ks.length)
    (h : ∀ x dx, H x = none → H dx = none → dx ≠ x → sp (.ref x :: sel is (vs ++ (ds ++ zs))) (upd (upd H dx (.own x)) x (.ins C dx [])) (fun v H2 => v = .non ∧ Q (.ref x) H2) (WE W σ)) :
    wpAny (model X.prog X.w) X.A (call (.ref C) us (ks.zip ws)) (EP X pins σ Q) X.xe s := by
  obtain ⟨g, b⟩ := b
  have hq := h (s.heap.objs.size + 1) s.heap.objs.size (I.hok.fresh (Nat.le_succ _)) (I.hok.fresh (Nat.le_refl _)) (Nat.ne_of_lt (Nat.lt_succ_self _))
  rw [← sel_succ, ← List.cons_append] at hq
  have I2 := Inv.made (C := C) I
  have r1 : Vals (V.ref (s.heap.objs.size + 1) :: vs) (Value.ref (s.heap.objs.size + 1) :: us) := .cons rfl r
  have r2 := b.rel r1 rz
  have e1 : (Value.ref (s.heap.objs.size + 1) :: us).length = n + 1 := r1.length.symm.trans (congrArg Nat.succ l1)
  refine wpAny_call (make_map (f := f) I.kIn M.makes M.init (beq_iff_eq.mp M.fn) (codeAny_mono (F.run (hr.make C us (ks.zip ws)) (make_guards.trans hgd) (I2.env0.make C us (ks.zip ws)) (b.to _ (Value.ref (s.heap.objs.size + 1) :: us) ws I2.kIn e1 (rz.length.symm.trans l2)) r2 hq) ?_))
  intro z s' hq'
  cases z with
  | error e => exact passAt tw σ pins _ _ e s' I2 hq'
  | ok fl =>
    cases fl with
    | ret u =>
      obtain ⟨v, H', I3, rv, ev, q3⟩ := I2.after hq'
      subst ev
      exact ⟨rv, V.ref (s.heap.objs.size + 1), H', I3, rfl, q3⟩
    | next => cases hq'
    | brk => cases hq'
    | cont => cases hq'
theorem c_makeKS (F : Ok X.prog X.w X.K X.mg X.base (L2.CX X.prog X.w) k f fd ps sp) (c : CalIK X.K X.mg C x f fd ps n ks is ds) (hr : Room (k + 1) X.A) (hgd : X.A.guards = some []) (tw : Takes X W) (ha : PA X (e :: es) t) (hkw : PK X kws tk) (hg : Gl X x := by rfl) (hdb : (x == ("__debug__" : Str)) = false := by decide)
    (hall : (backToKw pos (keywordEach kws X.env)).all (·.1.isSome) = true := by rfl) (hks : (backToKw pos (keywordEach kws X.env)).filterMap (·.1) = ks := by rfl)
    (he : starEach (e :: es) X.env = (false, eval e X.env) :: starEach es X.env := by rfl) (hpl : ((backTo pos (starEach (e :: es) X.env)).any (·.1) || (backToKw pos (keywordEach kws X.env)).any (·.1.isNone)) = false := by rfl) : PE X (.Call (.Name x p) (e :: es) kws pos) (tMkS C sp W (tKw n ks.length is ds t tk)) := by
  refine ⟨fun pins s σ H Q I h => ?_⟩
  refine wpAny_Call_Name_kw (ld_glob I hg c.m ?_ hdb)
  exact kw_args (first := []) c.k.kp ha hkw hall hks he hpl I h fun us ws vs zs H2 s2 I2 r rz ⟨l1, l2, q⟩ => run_mkKS c.k F hr hgd tw c.b I2 r rz l1 l2 q
theorem c_makeK0S (F : Ok X.prog X.w X.K X.mg X.base (L2.CX X.prog X.w) k f fd ps sp) (c : CalIK X.K X.mg C x f fd ps n ks is ds) (hr : Room (k + 1) X.A) (hgd : X.A.guards = some []) (tw : Takes X W) (hkw : PK X kws tk) (hg : Gl X x := by rfl) (hdb : (x == ("__debug__" : Str)) = false := by decide)
    (hall : (backToKw pos (keywordEach kws X.env)).all (·.1.isSome) = true := by rfl) (hks : (backToKw pos (keywordEach kws X.env)).filterMap (·.1) = ks := by rfl)
    (hpl : ((backTo pos (starEach [] X.env)).any (·.1) || (backToKw pos (keywordEach kws X.env)).any (·.1.isNone)) = false := by rfl) : PE X (.Call (.Name x p) [] kws pos) (tMkS C sp W (tKw n ks.length is ds tNil tk)) := by
  refine ⟨fun pins s σ H Q I h => ?_⟩
  refine wpAny_Call_Name_kw (ld_glob I hg c.m ?_ hdb)
  exact kw_args0 (first := []) c.k.kp hkw hall hks hpl I h fun ws zs H2 s2 I2 rz ⟨l1, l2, q⟩ => run_mkKS c.k F hr hgd tw c.b I2 .nil rz l1 l2 q
end
/-! mirrors -/
section
variable {C : Ctx} {W : WX} {δ : List Sl} {α β : Type} [Fz α] [Fz β] {ρ : Type} {R : Rp ρ} {τ υ ω : Type} {r : Ag τ} {r2 : Ag υ} {r3 : Ag ω} {te : TE} {t tk : TA} {n m : Nat} {is : List Nat} {ds : List V}
theorem h_kw {m1 : M τ} {m2 : M υ} (g : τ → υ → ω) (hl : ∀ K F vs zs x y, r.rep K F vs x → r2.rep K F zs y → vs.length = n ∧ zs.length = m ∧ r3.rep K F (sel is (vs ++ (ds ++ zs))) (g x y)) (h1 : JH C W δ r t m1) (h2 : JH C W δ r2 tk m2) :
    JH C W δ r3 (tKw n m is ds t tk) (m1.bind fun x => m2.bind fun y => M.pure (g x y)) := fun F H σ Q ok q =>
  h1 F H σ _ ok (m1.mono (fun x q1 vs F1 H1 s1 p1 ok1 => h2 F1 H1 σ _ ok1 (m2.mono (fun y q2 zs F2 H2 s2 p2 ok2 => by
    obtain ⟨l1, l2, p3⟩ := hl C.K F2 vs zs x y (r.mono s2 p1) p2
    exact ⟨l1, l2, q2 _ F2 H2 (s1.trans s2) p3 ok2⟩) (fun e z => EW.mono s1 z) q1)) (fun _ z => z) q)
/-- a call, its arguments in a row -/
theorem k_h {sp : Sp} {f : τ → M ρ} {m : M τ} (hs : ∀ G H vs x Q E, Same G H → r.rep C.K G vs x → Post C.K M0 none G H R (f x) Q E → sp vs H Q E) (h : JH C W δ r t m) : JO C W δ R (tF sp E0 t) (m.bind fun x => (f x).nx) := fun F H σ Q ok q =>
  h F H σ _ ok (m.mono (fun x q1 vs F1 H1 s1 rp ok1 => hs F1 H1 vs x _ _ ok1.same rp (post_nx ok1 s1 q1)) (fun _ z => z) q)
theorem k_hS {sp : Sp} {f : τ → M ρ} {m : M τ} (hs : ∀ G H vs x Q E, Same G H → r.rep C.K G vs x → Post C.K M0 none G H R (f x) Q E → sp vs H Q E) (h : JH C W δ r t m) : JO C W δ R (tFS sp W t) (m.bind fun x => f x) := fun F H σ Q ok q =>
  h F H σ _ ok (m.mono (fun x q1 vs F1 H1 s1 rp ok1 => hs F1 H1 vs x _ _ ok1.same rp (post_ok ok1 s1 q1)) (fun _ z => z) q)
theorem k_hM {c : Addr} {mt : Str} {sp : Sp} {f : α → τ → M ρ} {mo : M α} {m : M τ} (ho : Obj C.K α c mt) (hs : ∀ G H v vs a x Q E, Same G H → Fz.rep C.K G v a → r.rep C.K G vs x → Post C.K M0 none G H R (f a x) Q E → sp (v :: vs) H Q E) (h0 : JE C W δ te mo) (h : JH C W δ r t m) :
    JO C W δ R (tM c mt sp E0 te t) (mo.bind fun a => m.bind fun x => (f a x).nx) := fun F H σ Q ok q =>
  h0 F H σ _ ok (mo.mono (fun a q0 v F0 H0 s0 r0 ok0 => by
    obtain ⟨ad, dx, fs, rfl, e1, e2⟩ := ho F0 v a r0
    exact ⟨ad, dx, fs, rfl, ok0.same _ _ e1, e2, h F0 H0 σ _ ok0 (m.mono (fun x q1 vs F1 H1 s1 rp ok1 => hs F1 H1 (.ref ad) vs a x _ _ ok1.same (Fz.mono s1 r0) rp (post_nx ok1 (s0.trans s1) q1)) (fun e z => EW.mono s0 z) q0)⟩) (fun _ z => z) q)
theorem k_hMS {c : Addr} {mt : Str} {sp : Sp} {f : α → τ → M ρ} {mo : M α} {m : M τ} (ho : Obj C.K α c mt) (hs : ∀ G H v vs a x Q E, Same G H → Fz.rep C.K G v a → r.rep C.K G vs x → Post C.K M0 none G H R (f a x) Q E → sp (v :: vs) H Q E) (h0 : JE C W δ te mo) (h : JH C W δ r t m) :
    JO C W δ R (tMS c mt sp W te t) (mo.bind fun a => m.bind fun x => f a x) := fun F H σ Q ok q =>
  h0 F H σ _ ok (mo.mono (fun a q0 v F0 H0 s0 r0 ok0 => by
    obtain ⟨ad, dx, fs, rfl, e1, e2⟩ := ho F0 v a r0
    exact ⟨ad, dx, fs, rfl, ok0.same _ _ e1, e2, h F0 H0 σ _ ok0 (m.mono (fun x q1 vs F1 H1 s1 rp ok1 => hs F1 H1 (.ref ad) vs a x _ _ ok1.same (Fz.mono s1 r0) rp (post_ok ok1 (s0.trans s1) q1)) (fun e z => EW.mono s0 z) q0)⟩) (fun _ z => z) q)
section
variable {ε γ : Type} [Fz ε] [Fz γ] {cl : PySem.W.Frag → Addr} {f g : Str} {A : Prop} {ta tb : TE}
theorem k_make2H {ω : Type} [Fz ω] {mk : α × β → ω} {m : γ → ε → M (α × β)} {mm : M (γ × ε × Unit)} (hA : A) (hm : ∀ F a dx w u (x : α) (y : β), F a = some (.ins (cl C.K) dx [(f, w), (g, u)]) → Fz.rep C.K F w x → Fz.rep C.K F u y → Fz.rep C.K F (.ref a) (mk (x, y)))
    (h : JH C W δ (Ag.cons γ (Ag.cons ε Ag.nil)) t mm) : JE C W δ (tMk (cl C.K) (SpI2 A cl f g m C.K) E0 t) (mm.bind fun z => (m z.1 z.2.1).nx.bind fun r => M.pure (mk r)) := fun F H σ Q ok q =>
  h F H σ _ ok (mm.mono (fun z q1 vs F2 H2 s2 rp ok2 => fun a dx ha hd ne => by
    obtain ⟨v, _, rfl, r1, w, _, rfl, r2, rfl⟩ := rp
    have fa : F2 a = none := Same.free ok2.same ha
    have h1' : (upd H2 dx (.own a)) a = none := by
      rw [upd_ne ne.symm]
      exact ha
    refine ⟨hA, F2, a, dx, z.1, z.2.1, v, w, rfl, ?_, fa, upd_same, r1, r2, ?_⟩
    · exact ((Go.refl (M := M0) ok2.same).tmp (o := .own a) hd |>.tmp (o := .ins (cl C.K) dx []) h1').fh
    · exact made2 (ω := ω) (mk := fun x y => mk (x, y)) (rp := fun K F v x => Fz.rep K F v x) (R := Q) ok2 ha hd ne (M.mono (m z.1 z.2.1) (fun r y F' H' w' u' dx' s' ok' e' r1' r2' => y _ F' H' (s2.trans s') (hm F' a dx' w' u' r.1 r.2 e' r1' r2') ok') (fun e y cls d F' H' s' x' ok' => y.elim) q1)) (fun _ z => z) q)
theorem k_make2HS {ω : Type} [Fz ω] {mk : α × β → ω} {m : γ → ε → M (α × β)} {mm : M (γ × ε × Unit)} (hA : A) (hm : ∀ F a dx w u (x : α) (y : β), F a = some (.ins (cl C.K) dx [(f, w), (g, u)]) → Fz.rep C.K F w x → Fz.rep C.K F u y → Fz.rep C.K F (.ref a) (mk (x, y)))
    (h : JH C W δ (Ag.cons γ (Ag.cons ε Ag.nil)) t mm) : JE C W δ (tMkS (cl C.K) (SpI2 A cl f g m C.K) W t) (mm.bind fun z => (m z.1 z.2.1).bind fun r => M.pure (mk r)) := fun F H σ Q ok q =>
  h F H σ _ ok (mm.mono (fun z q1 vs F2 H2 s2 rp ok2 => fun a dx ha hd ne => by
    obtain ⟨v, _, rfl, r1, w, _, rfl, r2, rfl⟩ := rp
    have fa : F2 a = none := Same.free ok2.same ha
    have h1' : (upd H2 dx (.own a)) a = none := by
      rw [upd_ne ne.symm]
      exact ha
    refine ⟨hA, F2, a, dx, z.1, z.2.1, v, w, rfl, ?_, fa, upd_same, r1, r2, ?_⟩
    · exact ((Go.refl (M := M0) ok2.same).tmp (o := .own a) hd |>.tmp (o := .ins (cl C.K) dx []) h1').fh
    · exact made2 (ω := ω) (mk := fun x y => mk (x, y)) (rp := fun K F v x => Fz.rep K F v x) (R := Q) ok2 ha hd ne (M.mono _ (fun r y F' H' w' u' dx' s' ok' e' r1' r2' => y _ F' H' (s2.trans s') (hm F' a dx' w' u' r.1 r.2 e' r1' r2') ok') (fun e y cls d F' H' s' x' ok' => y cls d F' H' (s2.trans s') x' ok') q1)) (fun _ z => z) q)
end
end
end Dc

namespace Dc
open PySem PySem.Spec PyProof.Rows L2 ToD UV
/-! ## own ==, isinstance of an own class -/
structure InsC (K : PySem.W.Frag) (C : Addr) : Prop where
  ha : PySem.W.findIn K (.ref C) "__class__" = some (some (.builtin "object.__class__"))
  hn : PySem.W.specialIn K (.builtin "object.__class__") "__get__" = some (some (.builtin "getset_descriptor.__get__"))
  ht : PySem.W.takesIn K (.builtin "object.__class__") = some true
  hm : PySem.W.mroIn K C (.type "object") = some true
theorem insB_ok {K : PySem.W.Frag} {C : Addr} (h : insB K C = true) : InsC K C := by
  unfold insB at h
  simp only [Bool.and_eq_true, decide_eq_true_eq] at h
  obtain ⟨⟨⟨h1, h2⟩, h3⟩, h4⟩ := h
  exact ⟨h1, h2, h3, h4⟩
/-- x == y, two instances of the class at C -/
def rEqO (C : Addr) (sp : Sp) (E : XK) : R2 := fun x y H Q => ∃ a dx fs b dy gs, x = .ref a ∧ y = .ref b ∧ H a = some (.ins C dx fs) ∧ H b = some (.ins C dy gs) ∧ sp [x, y] H (fun v H' => ∃ r, v = .bl r ∧ Q (.bl r) H') E
section
variable {X : Cx} {CX : CXT} {k : Nat} {f C : Addr} {fd : FuncData} {ps : List Str} {sp : Sp} {E : XK}
theorem op_eqO (F : Ok X.prog X.w X.K X.mg X.base CX k f fd ps sp) (c : CalM X.K C "__eq__" f fd ps) (hr : Room k X.A) (hgd : X.A.guards = some []) (hx : Passes CX X E) : OpR X (compareOp .Eq) (rEqO C sp E) := by
  intro pins s σ H x y v u Q I rx ry h
  obtain ⟨a, dx, fs, b, dy, gs, rfl, rfl, ha, hb, q⟩ := h
  cases (show v = Value.ref a from rx)
  cases (show u = Value.ref b from ry)
  obtain ⟨mA, J, _⟩ := ins_get I.hok ha
  obtain ⟨mB, J', _⟩ := ins_get I.hok hb
  obtain ⟨od, J, _⟩ := J.look
  obtain ⟨od', J', _⟩ := J'.look
  obtain ⟨m, hF⟩ := I.fr
  show wpAny (model X.prog X.w) X.A (richCompare .Eq (.ref a) (.ref b)) (EP X pins σ Q) X.xe s
  refine PySem.W.cmp_K (op := .Eq) (tb := .ref C) hr.units0 hF I.ok.mod.kin J J'.type (by simp [PySem.W.notFirst]) c.m.at_ c.m.fn ?_
  refine wpAny_mono (run_pos (us := [.ref a, .ref b]) (vs := [.ref a, .ref b]) F hr hgd c.b hx I (.cons rfl (.cons rfl .nil)) q) (fun w s' z => ?_) fun _ _ x => x
  obtain ⟨z', H', I', rz, r, ez, qz⟩ := z
  subst ez
  cases (show w = Value.bool r from rz)
  exact ⟨.bl r, H', I', rfl, qz⟩
end
section
variable {C : Ctx} {W : WX} {δ : List Sl} {α β : Type} [Fz α] [Fz β] {te tf : TE}
theorem k_eqO {c : Addr} {sp : Sp} {f : α → β → M Bool} {m0 : M α} {m1 : M β} (h0o : Obj C.K α c "__eq__") (h1o : Obj C.K β c "__eq__")
    (hs : ∀ G H v w a b Q E, Same G H → Fz.rep C.K G v a → Fz.rep C.K G w b → Post C.K M0 none G H (oZ Bool) (f a b) Q E → sp [v, w] H Q E) (h0 : JE C W δ te m0) (h1 : JE C W δ tf m1) :
    JE C W δ (tOp (rEqO c sp E0) te tf) (m0.bind fun a => m1.bind fun b => (f a b).nx) := fun F H σ Q ok q =>
  h0 F H σ _ ok (m0.mono (fun a q0 v F0 H0 s0 r0 ok0 => h1 F0 H0 σ _ ok0 (m1.mono (fun b q1 w F1 H1 s1 r1 ok1 => by
    obtain ⟨ad, dx, fs, rfl, e1, _⟩ := h0o F0 v a r0
    obtain ⟨bd, dy, gs, rfl, e2, _⟩ := h1o F1 w b r1
    refine ⟨ad, dx, fs, bd, dy, gs, rfl, rfl, ok1.same _ _ (s1 _ _ e1), ok1.same _ _ e2, hs F1 H1 _ _ a b _ _ ok1.same (Fz.mono s1 r0) r1 ?_⟩
    exact (f a b).mono (fun r z v F' H' A g _ rp fr => ⟨r, rp.2, z (.bl r) F' H' (s0.trans (s1.trans g.ff)) rfl (ok1.step g)⟩) (fun e z => z.elim) q1) (fun e z => EW.mono s0 z) q0)) (fun _ z => z) q)
theorem e_isO {c : Addr} {mt : Str} {m : M α} (hi : InsC C.K c) (hc : Cls C.K c) (ho : Obj C.K α c mt) (h : JE C W δ te m) : JE C W δ (tCB (rIsi C.K) (tCons te (tCons (tC (.ref c)) tNil))) (m.bind fun _ => M.pure true) := fun F H σ Q ok q =>
  h F H σ _ ok (m.mono (fun a q1 v F1 H1 s1 rp ok1 => by
    obtain ⟨ad, dx, fs, rfl, e1, _⟩ := ho F1 v a rp
    exact ⟨.ref ad, .ref c, .ref c, .ref c, true, rfl, .own c, .base (.ins (ok1.same _ _ e1) hc hi.ha hi.hn hi.ht hi.hm), by simp [PySem.W.kitOne], q1 _ F1 H1 s1 rfl ok1⟩) (fun _ z => z) q)
end
end Dc

namespace Dc
open PySem PySem.Spec PyProof.Rows L2 ToD UV
/-! ## plain lemmas for laws -/
theorem ixN_q {n : Nat} {k : Nat} (h : k < n) : ixN n (k : Int) = some k := by
  unfold ixN
  rw [if_pos (by omega), if_pos (by omega)]
  simp
theorem ixN_i {n : Nat} {k : Int} (h0 : 0 ≤ k) (h1 : k < n) : ixN n k = some k.toNat := by
  unfold ixN
  rw [if_pos h0, if_pos h1]
theorem atI_q {α : Type} {xs : List α} {k : Nat} {x : α} (h : xs[k]? = some x) : atI xs (k : Int) = some x := by
  have := (List.getElem?_eq_some_iff.mp h).1
  unfold atI
  rw [ixN_q this]
  exact h
theorem atI_i {α : Type} {xs : List α} {k : Int} {x : α} (h0 : 0 ≤ k) (h : xs[k.toNat]? = some x) : atI xs k = some x := by
  have := (List.getElem?_eq_some_iff.mp h).1
  unfold atI
  rw [ixN_i h0 (by omega)]
  exact h
theorem nat_of {k : Int} {n : Nat} (h0 : 0 ≤ k) (h1 : k < n) : ∃ i : Nat, k = i ∧ i < n := ⟨k.toNat, by omega, by omega⟩
theorem getD_at {α : Type} {xs : List α} {i : Nat} {d : α} (h : i < xs.length) : xs[i]? = some (xs.getD i d) := by
  rw [List.getD_eq_getElem?_getD, List.getElem?_eq_getElem h]
  rfl
theorem at_getD {α : Type} {xs : List α} {i : Nat} {d x : α} (h : xs[i]? = some x) : xs.getD i d = x := by rw [List.getD_eq_getElem?_getD, h]; rfl
theorem index_q {rs : List Str} (hn : rs.Nodup) {i : Nat} {x : Str} (h : rs[i]? = some x) : indexM rs x = M.pure (i : Int) := by
  unfold indexM
  have : rs.findIdx? (fun y => decide (y = x)) = some i := by
    rw [List.findIdx?_eq_some_iff_getElem]
    obtain ⟨l, e⟩ := List.getElem?_eq_some_iff.mp h
    refine ⟨l, by simp [e], fun j hj => ?_⟩
    have := List.pairwise_iff_getElem.mp hn j i (by omega) l hj
    rw [e] at this
    simp [this]
  rw [this]
  rfl
theorem mem_at {α : Type} {xs : List α} {x : α} (m : x ∈ xs) : ∃ i : Nat, i < xs.length ∧ xs[i]? = some x := by
  obtain ⟨i, h⟩ := List.mem_iff_getElem?.mp m
  exact ⟨i, (List.getElem?_eq_some_iff.mp h).1, h⟩
theorem cut_ti {α : Type} (xs : List α) {k : Int} (h : 0 ≤ k) : cutL xs none (some k) = xs.take k.toNat := by
  have := cutL_to xs k.toNat
  rw [show ((k.toNat : Nat) : Int) = k by omega] at this
  exact this
theorem cut_fi {α : Type} (xs : List α) {k : Int} (h : 0 ≤ k) : cutL xs (some k) none = xs.drop k.toNat := by
  have := cut_from xs k.toNat
  rw [show ((k.toNat : Nat) : Int) = k by omega] at this
  exact this
theorem toU_us (us : List U) : (toU us : U) = .lst us := by
  show U.lst (us.map id) = _
  rw [List.map_id]
/-- a refusal that is caught -/
theorem try_thr {α : Type} {e : Exn} {h : Exn → Option (M α)} {k : M α} (hk : h e = some k) : (M.thr e : M α).tryC h = k := M.eq_of fun Q E => by
  show (match h e with | some k => k.run Q E | none => E e) ↔ _
  rw [hk]
theorem nodup_i {α : Type} {rs : List α} (hn : rs.Nodup) {a b : Nat} {x y : α} (ha : rs[a]? = some x) (hb : rs[b]? = some y) : x = y ↔ a = b := by
  obtain ⟨la, ea⟩ := List.getElem?_eq_some_iff.mp ha
  obtain ⟨lb, eb⟩ := List.getElem?_eq_some_iff.mp hb
  constructor
  · intro e
    have hn := List.pairwise_iff_getElem.mp hn
    rcases Nat.lt_trichotomy a b with h | h | h
    · exact absurd (ea.trans (e.trans eb.symm)) (hn a b la lb h)
    · exact h
    · exact absurd (eb.trans (e.symm.trans ea.symm)) (hn b a lb la h)
  · intro e
    subst e
    exact Option.some.inj (ha.symm.trans hb)
instance {α : Type} [Fz α] [ToD α] [Shp α] : Shp (Option α) := ⟨fun o => ∀ x, o = some x → Shp.ok x, Shp.dep α, fun o h => match o, h with | none, _ => rfl | some x, h => Shp.lay x (h x rfl), fun o h => match o, h with | none, _ => Nat.zero_le _ | some x, h => Shp.low x (h x rfl)⟩
instance {α : Type} [Fz α] [ToD α] [DecidableEq α] [EqD α] : EqD (Option (List α)) := ⟨fun a b => match a, b with
  | none, none => rfl
  | none, some b => by
    show PyData.eqv .none (.list _) = _
    simp [PyData.eqv]
  | some a, none => by
    show PyData.eqv (.list _) .none = _
    simp [PyData.eqv]
  | some a, some b => by
    have := EqD.eq a b
    show PyData.eqv (toD a) (toD b) = _
    rw [this]
    by_cases e : a = b
    · rw [e, decide_eq_true rfl, decide_eq_true rfl]
    · rw [decide_eq_false e, decide_eq_false (fun z => e (Option.some.inj z))]⟩
/-- the law's turns, each by its own pot -/
theorem turns_run {m : M Bool} (h : m.run (fun b => b = true) fun _ => False) {n : Int} {E : Exn → Prop} (hn : n ≤ 63) : (forM (fun x8 (_ : Unit) => M.need (0 ≤ x8 ∧ x8 < 64) ((m.nx.bind fun a => if (!a) = true then M.pure (Fl.rt false) else M.pure (Fl.nx ())).next fun _ => (M.pure (Fl.nx ()) : M (Fl Unit Bool)))) (rngI 0 n) ()).run (fun r => r = Fl.nx ()) E := by
  refine (forM _ _ _).mono (fun r hr => ?_) (fun _ z => z) (forM_inv (fun _ _ => True) [] trivial fun p x q s e _ => ?_)
  · obtain ⟨s, e, _⟩ := hr
    exact e
  · have mx : x ∈ rngI 0 n := by rw [← List.nil_append (rngI 0 n), e]; simp
    have := rngI_mem.mp mx
    refine ⟨by omega, ?_⟩
    rw [M.nextB]
    refine M.seqX h fun b hb => ?_
    rw [hb]
    exact ⟨(), rfl, trivial⟩
end Dc

namespace Dc
open PySem PySem.Spec PyProof.Rows L2 ToD UV
/-! ## list of a text; what lemmas for laws are left -/
def rListStr : List V → Hp → VK → Prop := fun xs H Q => ∃ x : Str, xs = [.str x] ∧ x.cps.size ≤ sizeLine ∧ ∀ l, H l = none → Q (.ref l) (upd H l (.lst ((signs x).map V.str)))
theorem call_listS {X : Cx} (hc : X.calm = true) : CallR X (.type "list") rListStr := by
  intro pins s σ H xs us Q I r h
  obtain ⟨x, rfl, hx, q⟩ := h
  obtain ⟨u, rfl, rx⟩ := vals1 r
  obtain ⟨t, rfl⟩ := (show ∃ t, u = Value.str x t from rx)
  have sl := sizeLine_eq
  refine PySem.call_list_str (I.ok.hd hc) x t (hn := hx) fun h' tk acc c' hk e' hi => ?_
  have hlen : ((signs x).map V.str).length = acc.toList.length := by
    have e : acc.toList.length = x.cps.size := by
      rw [Array.length_toList]
      exact hi.1
    rw [List.length_map, e]
    unfold signs
    rw [List.length_map, Array.length_toList]
  refine ⟨.ref s.heap.objs.size, upd H s.heap.objs.size (.lst ((signs x).map V.str)), I.laid hk (Nat.le_refl _) (show ObjOk X.prog X.w _ _ _ (.lst ((signs x).map V.str)) from ⟨?_, acc.toList, c', ?_, ?_⟩), rfl, q _ (I.hok.fresh (Nat.le_refl _))⟩
  · rw [hlen, Array.length_toList]; exact hi.1 ▸ hx
  · refine vals_of_at hlen fun j y w h1 h2 => ?_
    obtain ⟨c, u, hc', rfl⟩ := hi.2 j w (by rw [← Array.getElem?_toList]; exact h2)
    unfold signs at h1
    rw [List.getElem?_map, List.getElem?_map, Array.getElem?_toList, hc'] at h1
    cases h1
    exact ⟨u, rfl⟩
  · rw [Array.toArray_toList]; exact e'
section
variable {K : PySem.W.Frag}
theorem o_listS : CbN K rListStr fun a : Str => M.need (a.cps.size ≤ sizeLine) (M.pure (signs a)) := fun F H v a Q E s ra q => by
  cases ra
  exact ⟨a, rfl, q.1, fun p hp => q.2 p _ hp (reps_strs (signs a))⟩
end
theorem nx_of {α : Type} {m : M α} {Q : α → Prop} {E : Exn → Prop} (h : m.run Q fun _ => False) : m.nx.run Q E := h
end Dc

namespace Dc
open PySem PySem.Spec PyProof.Rows L2 ToD UV
/-! ## f-strings, own repr -/
def mjs : List (M Str) → Str → M Str
  | [], acc => M.pure acc
  | m :: ms, acc => m.bind fun y => M.need ((acc ++ y).length ≤ sizeLine) (mjs ms (acc ++ y))
section
variable {C : Ctx} {W : WX} {δ : List Sl} {α : Type} [Fz α] {te : TE}
theorem js_run : ∀ {ts : List TE} {ms : List (M Str)}, Paired (fun t m => JE C W δ t m) ts ms → ∀ (acc : Str) F H σ (Q : Str → Hp → Prop), Okk C F H σ δ → (mjs ms acc).run (fun x => ∀ F' H', Same F F' → Okk C F' H' σ δ → Q x H') (EW C W δ σ F) → tJs ts acc σ H Q
  | _, _, .nil, acc, F, H, σ, Q, ok, q => q F H (Same.refl _) ok
  | _, _, .cons (a := t) (b := m) h k, acc, F, H, σ, Q, ok, q => h F H σ _ ok (m.mono (fun y q1 v F1 H1 s1 rp ok1 => by
    cases rp
    exact ⟨y, rfl, q1.1, js_run k (acc ++ y) F1 H1 σ Q ok1 ((mjs _ _).mono (fun x z F' H' s ok' => z F' H' (s1.trans s) ok') (fun e z => EW.mono s1 z) q1.2)⟩) (fun _ z => z) q)
theorem e_joinL {ts : List TE} {ms : List (M Str)} (h : Paired (fun t m => JE C W δ t m) ts ms) : JE C W δ (tJoin ts) (mjs ms Str.empty) := fun F H σ Q ok q =>
  js_run h Str.empty F H σ _ ok ((mjs _ _).mono (fun x z F' H' s ok' => z (.str x) F' H' s rfl ok') (fun _ z => z) q)
theorem e_fmtD [ToD α] {m : M α} (h : JR C W δ te m) : JE C W δ (tFmtD C.K te) (m.bind fun a => reprM a) := fun F H σ Q ok q =>
  h F H σ _ ok (m.mono (fun a q1 v F1 H1 s1 ok1 rd => ⟨toD a, .dp (dp ok1.same (rd F1 H1 (Same.refl _) ok1)) q1.1.n, ⟨q1.1.s, q1.1.k, q1.1.l⟩, q1.2 _ F1 H1 s1 rfl ok1⟩) (fun _ z => z) q)
theorem e_fmtU {m : M U} (h : JE C W δ te m) : JE C W δ (tFmtD C.K te) (m.bind fun a => reprU a) := fun F H σ Q ok q =>
  h F H σ _ ok (m.mono (fun a q1 v F1 H1 s1 rp ok1 => by
    obtain ⟨d, e1, q⟩ := opt_run q1
    exact ⟨d, (URep.go ok1.same rp).dpE e1, q.1, q.2 _ F1 H1 s1 rfl ok1⟩) (fun _ z => z) q)
theorem e_fmtI {m : M Int} (h : JE C W δ te m) : JE C W δ (tFmt te) (m.bind fun a => M.need (a.natAbs.log2 < 1920) (M.pure (Str.ofString (toString a)))) := fun F H σ Q ok q =>
  h F H σ _ ok (m.mono (fun a q1 v F1 H1 s1 rp ok1 => by
    cases rp
    exact .inr ⟨a, rfl, q1.1, q1.2 _ F1 H1 s1 rfl ok1⟩) (fun _ z => z) q)
theorem e_fmtS {m : M Str} (h : JE C W δ te m) : JE C W δ (tFmt te) (m.bind fun a => M.need (a.length ≤ sizeLine) (M.pure a)) := fun F H σ Q ok q =>
  h F H σ _ ok (m.mono (fun a q1 v F1 H1 s1 rp ok1 => by
    cases rp
    exact .inl ⟨a, rfl, q1.1, q1.2 _ F1 H1 s1 rfl ok1⟩) (fun _ z => z) q)
end
/-- repr(o) by an own __repr__ -/
def rReprO (C : Addr) (sp : Sp) (E : XK) : List V → Hp → VK → Prop := fun xs H Q => ∃ a dx fs, xs = [.ref a] ∧ H a = some (.ins C dx fs) ∧ sp [.ref a] H (fun v H' => ∃ x, v = .str x ∧ Q (.str x) H') E
section
variable {X : Cx} {CX : CXT} {k : Nat} {f C : Addr} {fd : FuncData} {ps : List Str} {sp : Sp} {E : XK}
theorem call_reprO (F : Ok X.prog X.w X.K X.mg X.base CX k f fd ps sp) (c : CalM X.K C "__repr__" f fd ps) (hr : Room (k + 1) X.A) (hgd : X.A.guards = some []) (hx : Passes CX X E) : CallR X (.builtin "repr") (rReprO C sp E) := by
  intro pins s σ H xs us Q I r h
  obtain ⟨a, dx, fs, rfl, ha, q⟩ := h
  obtain ⟨u, rfl, ru⟩ := vals1 r
  cases ru
  obtain ⟨mA, O, _, _, _, _⟩ := ins_get I.hok ha
  obtain ⟨m, fr⟩ := I.fr
  obtain ⟨od, J, _⟩ := O.look
  have hl : ([.ref a] ++ [] : List Value).length = ps.length := F.len q
  have b := c.b s [.ref a] I.kIn hl
  refine PySem.W.repr_K (Room.in1 hr).units0 fr I.ok.mod.kin J c.m.at_ c.m.fn (wpAny_call (codeAny_mono (F.run (vs := [.ref a]) (us := [.ref a]) (Room.in1 hr) hgd I.env0.in1 b (.cons rfl .nil) q) ?_))
  intro r s' hq
  cases r with
  | error e => exact hx pins σ H s e s' I hq
  | ok fl =>
    cases fl with
    | next => cases hq
    | brk => cases hq
    | cont => cases hq
    | ret u =>
      obtain ⟨v, H', I', rv, x, rfl, q2⟩ := I.after hq
      obtain ⟨t, rfl⟩ := rv
      exact ⟨.str x, H', I', ⟨_, rfl⟩, q2⟩
end
section
variable {C : Ctx} {W : WX} {δ : List Sl} {α : Type} [Fz α] {te : TE}
theorem k_reprO {c : Addr} {sp : Sp} {f : α → M Str} {m0 : M α} (h0o : Obj C.K α c "__repr__") (hs : ∀ G H v a Q E, Same G H → Fz.rep C.K G v a → Post C.K M0 none G H (oZ Str) (f a) Q E → sp [v] H Q E) (h0 : JE C W δ te m0) :
    JE C W δ (tCB (rReprO c sp E0) (tCons te tNil)) (m0.bind fun a => (f a).nx) := fun F H σ Q ok q =>
  h0 F H σ _ ok (m0.mono (fun a q0 v F0 H0 s0 r0 ok0 => by
    obtain ⟨ad, dx, fs, rfl, e1, _⟩ := h0o F0 v a r0
    refine ⟨ad, dx, fs, rfl, ok0.same _ _ e1, hs F0 H0 _ a _ _ ok0.same r0 ?_⟩
    exact (f a).mono (fun r z v F' H' A g _ rp fr => ⟨r, rp.2, z (.str r) F' H' (s0.trans g.ff) rfl (ok0.step g)⟩) (fun e z => z.elim) q0) (fun _ z => z) q)
end
end Dc

namespace Dc
open PySem PySem.Spec PyProof.Rows L2 ToD UV
/-! ## while: an invariant and a measure; lists without doublets -/
theorem while_run {S : Type} {c : S → M Bool} {f : S → M S} {Q : S → Prop} {E : Exn → Prop} (I : S → Prop) (μ : S → Nat) (h : ∀ s, I s → (c s).run (fun b => if b then (f s).run (fun s' => I s' ∧ μ s' < μ s) E else Q s) E) : ∀ {s : S}, I s → (whileS c f s).run Q E := by
  have key : ∀ (n : Nat) (s : S), μ s < n → I s → (whileNS c f n s).run Q E := by
    intro n
    induction n with
    | zero => exact fun s h => absurd h (Nat.not_lt_zero _)
    | succ n ih =>
      intro s hs hi
      show M.run ((c s).bind _) _ _
      refine M.run_seq (h s hi) fun b hb => ?_
      cases b with
      | true =>
        show M.run ((f s).bind _) _ _
        exact M.run_seq (show (f s).run (fun s' => I s' ∧ μ s' < μ s) E from hb) fun s' ⟨a, b⟩ => ih s' (by omega) a
      | false => exact hb
  exact fun {s} hi => ⟨μ s + 1, key _ s (Nat.lt_succ_self _) hi⟩
theorem need_ex {α : Type} {p : Prop} {m : M α} (h : p) (k : ∃ x, m = M.pure x) : ∃ x, M.need p m = M.pure x := by
  obtain ⟨x, e⟩ := k
  exact ⟨x, by rw [M.needT h, e]⟩
theorem next_run {S T ρ : Type} {m : M (Fl S ρ)} {k : S → M (Fl T ρ)} {P : S → Prop} {Q : Fl T ρ → Prop} {E : Exn → Prop} (h : m.run (fun r => ∃ s, r = .nx s ∧ P s) E) (g : ∀ s, P s → (k s).run Q E) : (m.next k).run Q E := m.mono (fun r z => by
  obtain ⟨s, rfl, hs⟩ := z
  exact g s hs) (fun _ z => z) h
theorem cells_law {m : M Bool} (h : m.run (fun b => b = true) fun _ => False) {n : Int} {E : Exn → Prop} (hn : n ≤ 63) : (compM (fun x7 => M.need (0 ≤ x7 ∧ x7 < 64) (m.nx.bind fun y9 => M.pure (some y9))) (rngI 0 n)).run (fun bs => bs.all id = true) E :=
  compM_run (fun _ b => b = true) (fun x mx => by
    have := rngI_mem.mp mx
    exact ⟨by omega, M.seqX h fun b hb => ⟨b, rfl, hb⟩⟩) (fun ys h => all_id (paired_all h fun _ _ z => z))
end Dc

namespace Dc
open PySem PySem.Spec PyProof.Rows L2 ToD UV
/-! ## text * int, int(text) -/
def repStr (a : Str) (k : Int) : Str := ⟨(List.replicate k.toNat a.cps).foldl (· ++ ·) #[]⟩
theorem rep_size (a : Array Nat) : ∀ (n : Nat) (acc : Array Nat), ((List.replicate n a).foldl (· ++ ·) acc).size = acc.size + n * a.size
  | 0, acc => by simp
  | n + 1, acc => by
    rw [List.replicate_succ, List.foldl_cons, rep_size a n, Array.size_append, Nat.succ_mul]
    omega
theorem rep_len (a : Str) (k : Int) : (repStr a k).length = k.toNat * a.length := by
  have := rep_size a.cps k.toNat #[]
  rw [show (#[] : Array Nat).size = 0 from rfl, Nat.zero_add] at this
  exact this
def rRepS : R2 := fun x y H Q => ∃ (a : Str) (k : Int), x = .str a ∧ y = .int k ∧ 2 ≤ k ∧ k ≤ 1000 ∧ 1 ≤ a.length ∧ a.length ≤ 1000 ∧ Q (.str (repStr a k)) H
theorem op_repS {X : Cx} : OpR X (binaryOp .Mult) rRepS := by
  intro pins s σ H x y v u Q I rx ry h
  obtain ⟨a, k, rfl, rfl, k2, k3, a1, a2, q⟩ := h
  obtain ⟨t, rfl⟩ := (show ∃ t, v = Value.str a t from rx)
  obtain ⟨t2, rfl⟩ := (show ∃ t, u = Value.int k t from ry)
  have hk1 : ¬ k < 1 := by omega
  have hk2 : (k == 1 || a.length == 0) = false := by
    rw [Bool.or_eq_false_iff]
    exact ⟨beq_eq_false_iff_ne.mpr (by omega), beq_eq_false_iff_ne.mpr (by omega)⟩
  have hm : a.length * k.toNat ≤ 1000 * 1000 := Nat.mul_le_mul a2 (by omega)
  refine PySem.P.mul_str (by rw [decide_eq_false (by omega), decide_eq_false (by omega)]; rfl) (fun _ _ => ?_) (fun _ _ => ?_) ?_
  · have : (2 ^ 63 - 1) / k ≥ 1000 := by
      have := Int.le_ediv_of_mul_le (show (0 : Int) < k by omega) (show 1000 * k ≤ 2 ^ 63 - 1 by omega)
      exact this
    omega
  · exact decide_eq_false (by have := sizeLine_eq; omega)
  · rw [if_neg hk1, if_neg (by rw [hk2]; decide)]
    exact ⟨by
      show (repStr a k).length ≤ sizeLine
      rw [rep_len, Nat.mul_comm]
      have := sizeLine_eq
      omega, .str (repStr a k), H, I.tok _, ⟨_, rfl⟩, q⟩
section
variable {K : PySem.W.Frag}
theorem o_repS : Op2 K rRepS fun (a : Str) (k : Int) => M.need (2 ≤ k ∧ k ≤ 1000 ∧ 1 ≤ a.length ∧ a.length ≤ 1000) (M.pure (repStr a k)) := fun F H v w a b Q E s ra rb q => by
  cases ra
  cases rb
  exact ⟨a, b, rfl, rfl, q.1.1, q.1.2.1, q.1.2.2.1, q.1.2.2.2, q.2 _ F H (Go.refl s) rfl⟩
theorem o_intS : Cb1 K rIntStr fun a : Str => M.need (a.length ≤ 640) (M.ofOpt (PySem.intText? a)) := fun F H v a Q E s ra q => by
  cases ra
  obtain ⟨h1, q⟩ := q
  obtain ⟨n, e, q⟩ := opt_run q
  exact ⟨a, n, rfl, e, h1, q _ F H (Go.refl s) rfl⟩
end
end Dc

namespace Dc
open PySem PySem.Spec PyProof.Rows L2 ToD UV
/-! ## a, b = xs, where xs is a list of two -/
section
variable {α β : Type} [Fz α] [Fz β]
def two? : List α → Option (Ls2 α α)
  | [a, b] => some ⟨a, b⟩
  | _ => none
variable {C : Ctx} {W : WX} {δ : List Sl} {te : TE}
theorem e_toL2 {m : M (List α)} (h : JE C W δ te m) : JE C W δ te (m.bind fun xs => M.ofOpt (two? xs)) := fun F H σ Q ok q => h F H σ _ ok (m.mono (fun xs q1 v F1 H1 s1 rp ok1 => by
  match xs, q1, rp with
  | [], q1, _ => exact q1.elim
  | [_], q1, _ => exact q1.elim
  | _ :: _ :: _ :: _, q1, _ => exact q1.elim
  | [a, b], q1, rp =>
    obtain ⟨l, vs, rfl, e, r⟩ := rp
    cases r with
    | cons r1 r =>
      cases r with
      | cons r2 r =>
        cases r
        exact q1 _ F1 H1 s1 ⟨l, _, _, rfl, e, r1, r2⟩ ok1) (fun _ z => z) q)
theorem g_l2 {g1 g2 : TG} {i1 i2 : List Nat} {δ1 : α → List Sl} {δ2 : α → β → List Sl} (h1 : JG C δ g1 i1 δ1) (h2 : ∀ a, JG C (δ1 a) g2 i2 (δ2 a)) : JG C δ (gLst C.K 2 (gCons g1 (gCons g2 gNil))) (i1 ++ i2) fun x : Ls2 α β => δ2 x.a x.b := fun F H σ v x Q ok rp q => by
  obtain ⟨l, v1, v2, rfl, e, r1, r2⟩ := rp
  refine ⟨l, _, rfl, SqL.of (ok.same _ _ e), rfl, v1, _, rfl, h1 F H σ v1 x.a _ ok r1 fun σ1 ok1 l1 e1 => ⟨v2, _, rfl, h2 x.a F H σ1 v2 x.b _ ok1 r2 fun σ2 ok2 l2 e2 => ⟨rfl, ?_⟩⟩⟩
  obtain ⟨l3, e3⟩ := JG.app (g := g1) l1 l2 e1 e2
  exact q σ2 ok2 l3 e3
end
end Dc

namespace Dc
open PySem PySem.Spec PyProof.Rows L2 ToD UV
/-! ## a door's end by a number that is 0 or 1 -/
theorem o_end01 {K : PySem.W.Frag} : Op2 K (rIxT K) fun (a : Door) (i : Int) => M.need (i = 0 ∨ i = 1) (M.pure (if i = 0 then a.near else a.far)) := fun F H v w a b Q E s ra rb q => by
  obtain ⟨l, rfl, e⟩ := ra
  obtain ⟨q0, q1⟩ := q
  rcases q0 with rfl | rfl
  · exact ⟨l, _, 0, _, rfl, rb, SqT.of (s _ _ e), rfl, q1 _ F H (Go.refl s) rfl⟩
  · exact ⟨l, _, 1, _, rfl, rb, SqT.of (s _ _ e), rfl, q1 _ F H (Go.refl s) rfl⟩
end Dc

namespace Dc
open PySem PySem.Spec PyProof.Rows L2 ToD UV
/-! ## the least of three; a thing of one of two kinds -/
def rMin3I : List V → Hp → VK → Prop := fun xs H Q => ∃ i j k : Int, xs = [.int i, .int j, .int k] ∧ Q (.int (min (min i j) k)) H
theorem call_min3I {X : Cx} (hc : X.calm = true) : CallR X (.builtin "min") rMin3I := by
  intro pins s σ H xs us Q I r h
  obtain ⟨i, j, k, rfl, q⟩ := h
  have m2 : ∀ a b : Int, nuMin2 (.int a) (.int b) = some (.int (min a b)) := fun a b => by
    show (some (decide (b < a))).map (fun c => if c = true then V.int b else V.int a) = _
    by_cases c : b < a
    · rw [decide_eq_true c, Option.map_some, if_pos rfl, show min a b = b by omega]
    · rw [decide_eq_false c, Option.map_some, if_neg (by decide), show min a b = a by omega]
  refine call_min3Nu hc pins s σ H _ us Q I r ⟨_, _, _, .int (min (min i j) k), rfl, ?_, q⟩
  show (nuMin2 (.int i) (.int j)).bind (fun m => nuMin2 m (.int k)) = _
  rw [m2]
  exact m2 _ _
section
variable {C : Ctx} {W : WX} {δ : List Sl} {ta tb tc te : TE}
theorem e_min3 {ma mb mc : M Int} (ha : JE C W δ ta ma) (hb : JE C W δ tb mb) (hc : JE C W δ tc mc) : JE C W δ (tCB rMin3I (tCons ta (tCons tb (tCons tc tNil)))) (ma.bind fun a => mb.bind fun b => mc.bind fun c => M.pure (min (min a b) c)) := fun F H σ Q ok q =>
  ha F H σ _ ok (ma.mono (fun a q1 v F1 H1 s1 r1 ok1 => hb F1 H1 σ _ ok1 (mb.mono (fun b q2 w F2 H2 s2 r2 ok2 => hc F2 H2 σ _ ok2 (mc.mono (fun c q3 u F3 H3 s3 r3 ok3 => by
    cases r1
    cases r2
    cases r3
    exact ⟨a, b, c, rfl, q3 _ F3 H3 ((s1.trans s2).trans s3) rfl ok3⟩) (fun e z => EW.mono (s1.trans s2) z) q2)) (fun e z => EW.mono s1 z) q1)) (fun _ z => z) q)
end
inductive Alt (α β : Type) where
  | l : α → Alt α β
  | r : β → Alt α β
def Alt.l? {α β : Type} : Alt α β → Option α
  | .l a => some a
  | .r _ => none
def Alt.r? {α β : Type} : Alt α β → Option β
  | .l _ => none
  | .r b => some b
section
variable {α β : Type} [Fz α] [Fz β]
def altRep (K : PySem.W.Frag) (F : Hp) (v : V) : Alt α β → Prop
  | .l a => Fz.rep K F v a
  | .r b => Fz.rep K F v b
instance : Fz (Alt α β) := Fz.mk' altRep fun {K F F' v x} s h => by
  cases x with
  | l a => exact Fz.mono s h
  | r b => exact Fz.mono s h
variable {C : Ctx} {W : WX} {δ : List Sl} {te : TE}
theorem e_altL {m : M α} (h : JE C W δ te m) : JE C W δ te (m.bind fun a => M.pure (Alt.l a : Alt α β)) := fun F H σ Q ok r => h F H σ _ ok (m.mono (fun a q v F' H' s rp ok' => q v F' H' s (show altRep _ _ _ (Alt.l a : Alt α β) from rp) ok') (fun _ z => z) r)
theorem e_altR {m : M β} (h : JE C W δ te m) : JE C W δ te (m.bind fun a => M.pure (Alt.r a : Alt α β)) := fun F H σ Q ok r => h F H σ _ ok (m.mono (fun a q v F' H' s rp ok' => q v F' H' s (show altRep _ _ _ (Alt.r a : Alt α β) from rp) ok') (fun _ z => z) r)
theorem e_outL {m : M (Alt α β)} (h : JE C W δ te m) : JE C W δ te (m.bind fun u => M.ofOpt u.l?) := fun F H σ Q ok q => h F H σ _ ok (m.mono (fun a q1 v F1 H1 s1 rp ok1 => by
  cases a with
  | r _ => exact q1.elim
  | l x => exact q1 v F1 H1 s1 rp ok1) (fun _ z => z) q)
theorem e_outR {m : M (Alt α β)} (h : JE C W δ te m) : JE C W δ te (m.bind fun u => M.ofOpt u.r?) := fun F H σ Q ok q => h F H σ _ ok (m.mono (fun a q1 v F1 H1 s1 rp ok1 => by
  cases a with
  | l _ => exact q1.elim
  | r x => exact q1 v F1 H1 s1 rp ok1) (fun _ z => z) q)
end
end Dc

namespace Dc
open PySem PySem.Spec PyProof.Rows L2 ToD UV
/-! ## lists of things of two kinds; their first places -/
instance {α β : Type} [DecidableEq α] [DecidableEq β] : DecidableEq (Alt α β) := fun a b => match a, b with
  | .l x, .l y => if h : x = y then isTrue (by rw [h]) else isFalse fun z => h (Alt.l.inj z)
  | .r x, .r y => if h : x = y then isTrue (by rw [h]) else isFalse fun z => h (Alt.r.inj z)
  | .l _, .r _ => isFalse fun z => nomatch z
  | .r _, .l _ => isFalse fun z => nomatch z
class Flt (α : Type) [Fz α] [DecidableEq α] : Prop where
  fl : ∀ {K F H v} {a : α}, Fz.rd K F H v a → flatV v = true
  eq : ∀ {K F H v w} {a b : α}, Fz.rd K F H v a → Fz.rd K F H w b → eqV v w = decide (a = b)
instance : Flt (Alt Str Int) := ⟨fun {K F H v a} r => by
  cases a with
  | l x =>
    cases (show v = V.str x from r)
    rfl
  | r x =>
    cases (show v = V.int x from r)
    rfl, fun {K F H v w a b} ra rb => by
  cases a with
  | l x =>
    cases (show v = V.str x from ra)
    cases b with
    | l y =>
      cases (show w = V.str y from rb)
      show (x == y) = _
      by_cases e : x = y
      · rw [e, decide_eq_true rfl]
        exact beq_self_eq_true y
      · rw [decide_eq_false fun z => e (Alt.l.inj z)]
        exact beq_eq_false_iff_ne.mpr e
    | r y =>
      cases (show w = V.int y from rb)
      exact (decide_eq_false fun z => nomatch z).symm
  | r x =>
    cases (show v = V.int x from ra)
    cases b with
    | l y =>
      cases (show w = V.str y from rb)
      exact (decide_eq_false fun z => nomatch z).symm
    | r y =>
      cases (show w = V.int y from rb)
      show (x == y) = _
      by_cases e : x = y
      · rw [e, decide_eq_true rfl]
        exact beq_self_eq_true y
      · rw [decide_eq_false fun z => e (Alt.r.inj z)]
        exact beq_eq_false_iff_ne.mpr e⟩
section
variable {C : Ctx} {W : WX} {δ : List Sl} {ta tb te : TE} {α β : Type} [Fz α] [Fz β]
theorem reps_mapA {K : PySem.W.Frag} {F : Hp} {g : α → β} (hg : ∀ v a, Fz.rep K F v a → Fz.rep K F v (g a)) : ∀ {vs : List V} {xs : List α}, Reps K F vs xs → Reps K F vs (xs.map g)
  | _, _, .nil => .nil
  | _, _, .cons r t => .cons (hg _ _ r) (reps_mapA hg t)
theorem e_mapA {g : α → β} (hg : ∀ K F v a, Fz.rep K F v a → Fz.rep K F v (g a)) {m : M (List α)} (h : JE C W δ te m) : JE C W δ te (m.bind fun xs => M.pure (xs.map g)) := fun F H σ Q ok q => h F H σ _ ok (m.mono (fun a q1 v F' H' s rp ok' => by
  obtain ⟨l, vs, rfl, e, r⟩ := rp
  exact q1 _ F' H' s ⟨l, vs, rfl, e, reps_mapA (hg _ _) r⟩ ok') (fun _ z => z) q)
theorem e_indexF [DecidableEq α] [Flt α] {m1 : M (List α)} {m2 : M α} (ha : JR C W δ ta m1) (hb : JE C W δ tb m2) : JE C W δ (tBM C.K "list" (rIndex C.K) ta (tCons tb tNil)) (m1.bind fun xs => m2.bind fun x => indexM xs x) := fun F H σ Q ok q =>
  ha F H σ _ ok (m1.mono (fun xs q1 v F1 H1 s1 ok1 r1 => by
    obtain ⟨l, vs, rfl, e, rr⟩ := r1 F1 H1 (Same.refl _) ok1
    refine ⟨.inl ⟨rfl, vs, SqL.of e⟩, hb F1 H1 σ _ ok1 (m2.mono (fun x q2 w F2 H2 s2 rp ok2 => ?_) (fun e z => EW.mono s1 z) q1)⟩
    obtain ⟨l', vs', e', hl', rr'⟩ := r1 F2 H2 s2 ok2
    cases e'
    have rx := Fz.rd_of ok2.same rp
    have hf : vs'.all flatV = true := by
      refine List.all_eq_true.mpr fun z mz => ?_
      obtain ⟨i, hi⟩ := List.mem_iff_getElem?.mp mz
      obtain ⟨y, _, ry⟩ := paired_get' rr' hi
      exact Flt.fl (Fz.rd_of ok2.same ry)
    unfold indexM at q2
    cases hk : xs.findIdx? (· = x) with
    | none =>
      dsimp only at q2
      rw [hk] at q2
      exact q2.elim
    | some k =>
      dsimp only at q2
      rw [hk] at q2
      have hlt : k < xs.length := (List.findIdx?_eq_some_iff_findIdx_eq.mp hk).1
      have hx : xs[k] = x := by
        obtain ⟨h1, h2, _⟩ := List.findIdx?_eq_some_iff_getElem.mp hk
        exact of_decide_eq_true h2
      obtain ⟨u, hu, ru⟩ := paired_get rr' (List.getElem?_eq_getElem hlt)
      refine ⟨l, vs', w, k, u, rfl, rfl, SqL.of hl', Flt.fl rx, hf, hu, ?_, fun m z hm hz => ?_, q2 _ F2 H2 (s1.trans s2) rfl ok2⟩
      · rw [Flt.eq (Fz.rd_of ok2.same ru) rx, hx]
        exact decide_eq_true rfl
      · obtain ⟨y, hy, ry⟩ := paired_get' rr' hz
        rw [Flt.eq (Fz.rd_of ok2.same ry) rx]
        refine decide_eq_false fun ey => ?_
        obtain ⟨h1, _, h3⟩ := List.findIdx?_eq_some_iff_getElem.mp hk
        have := h3 m hm
        have hym : xs[m]'(Nat.lt_trans hm h1) = y := by
          rw [List.getElem?_eq_getElem (Nat.lt_trans hm h1)] at hy
          exact Option.some.inj hy
        rw [hym, ey] at this
        simp at this) (fun _ z => z) q)
end
end Dc

namespace PySem
open Sem (wp)
open Builtin
/-! ## own == with anything, and own != by the == of the class -/
section
variable {prog : Program} {w : World} {A : Around} {E : Value → Shared → Prop} {s : Shared} {K : W.Frag} {x C L f : Addr} {h₀ : Heap} {m : Str → Option Value} {ox : Obj} {od : Option Obj} {name : Str} {b tb : Value}
theorem ifBoundB {M : Model} {args : List Value} {id : String} {Q : Option Value → Shared → Prop} (X : K.In s.heap) (I : W.InstAt s.heap x ox C od) (hs : W.findIn K (.ref C) name = some (some (.builtin id))) (S : Slot "object" name id)
    (h : wpAny M A (call (.builtin id) (.ref x :: args)) (fun v => Q (some v)) E s) : wpAny M A (callSpecialIfBound? (.ref x) name args) Q E s := by
  simp only [callSpecialIfBound?, bindSpecialIfBound?]
  refine wpAny_holding (wpAny_bind (wpAny_bind (wpAny_bind (I.type.here ((W.looks_findIn X hs).here ?_)))))
  simp only [S.bind]
  refine wpAny_bind (wpAny_askSetting (wpAny_ite ?_))
  have fin : wpAny M A (call (.builtin id) ([.ref x] ++ args) >>= fun v => pure (some v)) Q E s :=
    wpAny_bind (wpAny_mono h (fun v s' h' => wpAny_pure h') fun _ _ h' => h')
  split
  · exact wpAny_bind (wpAny_pure (wpAny_pure fin))
  · exact wpAny_tryCatch (wpAny_bind (wpAny_pure (wpAny_pure fin)))
theorem check_objK {M : Model} {id owner n : String} {rest : List Value} {Q : Unit → Shared → Prop} (hk : builtinKind id = some .slot) (hs : splitId id = some (owner, n))
    (ha : argsOk id ⟨.ref x :: rest, []⟩) (X : K.In s.heap) (I : W.InstAt s.heap x ox C od) (hob : W.subIn K (.ref C) (.type owner) = some true) (hq : Q () s) :
    wpAny M A (checkBuiltinCall id ⟨.ref x :: rest, []⟩) Q E s := by
  simp only [checkBuiltinCall, hk, hs]
  refine wpAny_bind ?_
  unfold isInstance
  refine wpAny_bind (I.type.here ((W.looks_subIn X hob).here ?_))
  simp only [Bool.not_true, Bool.false_eq_true, if_false]
  cases hsig : Manifest.signature? id with
  | none => exact wpAny_pure hq
  | some sig =>
    simp only [argsOk, hsig] at ha
    have h2 : Bind.checkArgs id sig ⟨.ref x :: rest, []⟩ = pure () := ha
    show wpAny M A (Bind.checkArgs id sig ⟨.ref x :: rest, []⟩) Q E _
    rw [h2]
    exact wpAny_pure hq
theorem objNe_K (X : K.In s.heap) (I : W.InstAt s.heap x ox C od) (hs : W.findIn K (.ref C) "__eq__" = some (some (.ref f))) (hf : W.isFn K (.ref f) = true) (hu : A.units < cLine) {Q : Fin → Shared → Prop}
    (hcall : wpAny (model prog w) A (call (.ref f) [.ref x, b]) (fun v s' => ∃ b, v = .bool b ∧ Q (.done (.ret (.bool (!b)))) s') E s) :
    wpAny (model prog w) A (Builtin.«object.__ne__» ⟨[.ref x, b], []⟩) Q E s := by
  unfold Builtin.«object.__ne__»
  repeat (first
    | with_reducible refine wpAny_cRoomFor hu ?_
    | (refine wpAny_bind (m := callSpecialIfBound? (.ref x) (Str.ofString "__eq__") [b])
        (W.ifBound_K X I hs hf (wpAny_mono hcall (fun r s' hr => by
          obtain ⟨b, rfl, hq⟩ := hr
          repeat (first | exact hq | exact wpAny_pure hq | exact wpAny_truthy_bool hq | (refine wpAny_bind (m := truthy (.bool _)) (wpAny_truthy_bool ?_)) | wp_step)) fun _ _ e => e)))
    | wp_step)
theorem tryNe_K (X : K.In s.heap) (I : W.InstAt s.heap x ox C od) (hn : W.findIn K (.ref C) "__ne__" = some (some (.builtin "object.__ne__"))) (ho : W.subIn K (.ref C) (.type "object") = some true)
    (hs : W.findIn K (.ref C) "__eq__" = some (some (.ref f))) (hf : W.isFn K (.ref f) = true) (hu : A.units + 1 < cLine) {Q : Option Value → Shared → Prop}
    (hcall : wpAny (model prog w) A.in1 (call (.ref f) [.ref x, b]) (fun v s' => ∃ b, v = .bool b ∧ Q (some (.bool (!b))) s') E s) :
    wpAny (model prog w) A (tryCompare (.ref x) "__ne__" b) Q E s := by
  simp only [tryCompare]
  refine wpAny_bind (ifBoundB X I hn F.cmp_object.ne (wpAny_call (codeAny_call_builtin F.cmp_object.ne.plain F.cmpEntry_ne
    (check_objK F.cmpKind_ne F.cmpSplit_ne (F.cmpArgs_ne _ _) X I ho
      (objNe_K (A := A.in1) X I hs hf hu (wpAny_mono hcall (fun v s' hv => ?_) fun _ _ e => e))))))
  obtain ⟨b, rfl, hq⟩ := hv
  first | exact ⟨b, rfl, wpAny_pure hq⟩ | exact ⟨b, rfl, wpAny_pure (wpAny_pure hq)⟩ | exact ⟨b, rfl, hq⟩
theorem neq_K {Q : Value → Shared → Prop} (hu : A.units + 1 < cLine) (X : K.In s.heap) (I : W.InstAt s.heap x ox C od) (hb : W.Looks (model prog w) s.heap (typeOf b) tb) (hnf : W.notFirst K C tb = true)
    (hn : W.findIn K (.ref C) "__ne__" = some (some (.builtin "object.__ne__"))) (ho : W.subIn K (.ref C) (.type "object") = some true)
    (hs : W.findIn K (.ref C) "__eq__" = some (some (.ref f))) (hf : W.isFn K (.ref f) = true)
    (h : wpAny (model prog w) A.in1 (call (.ref f) [.ref x, b]) (fun v s' => ∃ b, v = .bool b ∧ Q (.bool (!b)) s') E s) : wpAny (model prog w) A (richCompare .NotEq (.ref x) b) Q E s := by
  have one : wpAny (model prog w) A (tryCompare (.ref x) "__ne__" b) (fun r s' => ∃ v, r = some v ∧ Q v s') E s :=
    tryNe_K X I hn ho hs hf hu (wpAny_mono h (fun v s' hv => by
      obtain ⟨b, rfl, hq⟩ := hv
      exact ⟨b, rfl, _, rfl, hq⟩) fun _ _ e => e)
  unfold richCompare
  simp only [oneThing_ref]
  refine wpAny_holding (wpAny_bind (wpAny_cRoomFor (Nat.lt_of_succ_lt hu) ?_))
  rw [cmpInfo_NotEq]
  dsimp only
  refine wpAny_bind (I.type.here (wpAny_bind (hb.here ?_)))
  split
  · rename_i q
    have e : W.subIn K tb (.ref C) = some false := by
      rcases Bool.or_eq_true_iff.mp hnf with e | e
      · rw [beq_iff_eq.mp e] at q; simp at q
      · exact beq_iff_eq.mp e
    refine wpAny_bind ((W.looks_subIn X e).here ?_)
    simp only [Bool.false_eq_true, if_false]
    refine wpAny_bind (wpAny_mono one (fun r s' z => ?_) fun _ _ e => e)
    obtain ⟨v, rfl, hq⟩ := z
    exact wpAny_pure hq
  · refine wpAny_bind (wpAny_pure ?_)
    simp only [Bool.false_eq_true, if_false]
    refine wpAny_bind (wpAny_mono one (fun r s' z => ?_) fun _ _ e => e)
    obtain ⟨v, rfl, hq⟩ := z
    exact wpAny_pure hq
end
end PySem
namespace Dc
open PySem PySem.Spec PyProof.Rows L2 ToD UV
/-- x == y and x != y, x an instance of the class at C, y anything -/
def rEqX (K : PySem.W.Frag) (C : Addr) (sp : Sp) (E : XK) : R2 := fun x y H Q => ∃ a dx fs t, x = .ref a ∧ H a = some (.ins C dx fs) ∧ TyX K H y t ∧ PySem.W.notFirst K C t = true ∧ sp [x, y] H (fun v H' => ∃ r, v = .bl r ∧ Q (.bl r) H') E
def rNeX (K : PySem.W.Frag) (C : Addr) (sp : Sp) (E : XK) : R2 := fun x y H Q => ∃ a dx fs t, x = .ref a ∧ H a = some (.ins C dx fs) ∧ TyX K H y t ∧ PySem.W.notFirst K C t = true ∧ sp [x, y] H (fun v H' => ∃ r, v = .bl r ∧ Q (.bl (!r)) H') E
def insDB (K : PySem.W.Frag) (C : Addr) : Bool := decide (PySem.W.findIn K (.ref C) "__ne__" = some (some (.builtin "object.__ne__"))) && ["NoneType", "bool", "int", "str", "list", "tuple", "dict"].all fun T => decide (PySem.W.kitCls K (.type T) (.ref C) = some false)
/-- what is asked of the class besides -/
structure InsD (K : PySem.W.Frag) (C : Addr) : Prop where
  ne : PySem.W.findIn K (.ref C) "__ne__" = some (some (.builtin "object.__ne__"))
  kc : ∀ T ∈ ["NoneType", "bool", "int", "str", "list", "tuple", "dict"], PySem.W.kitCls K (.type T) (.ref C) = some false
theorem insD_ok {K : PySem.W.Frag} {C : Addr} (h : insDB K C = true) : InsD K C := by
  unfold insDB at h
  simp only [Bool.and_eq_true, decide_eq_true_eq, List.all_eq_true] at h
  exact ⟨h.1, h.2⟩
section
variable {X : Cx} {CX : CXT} {k : Nat} {f C : Addr} {fd : FuncData} {ps : List Str} {sp : Sp} {E : XK}
theorem op_eqX (F : Ok X.prog X.w X.K X.mg X.base CX k f fd ps sp) (c : CalM X.K C "__eq__" f fd ps) (hr : Room k X.A) (hgd : X.A.guards = some []) (hx : Passes CX X E) : OpR X (compareOp .Eq) (rEqX X.K C sp E) := by
  intro pins s σ H x y v u Q I rx ry h
  obtain ⟨a, dx, fs, t, rfl, ha, ty, hnf, q⟩ := h
  cases (show v = Value.ref a from rx)
  obtain ⟨mA, J, _⟩ := ins_get I.hok ha
  obtain ⟨od, J, _⟩ := J.look
  obtain ⟨P, kx, hP, _⟩ := kit_of I ry ty
  obtain ⟨m, hF⟩ := I.fr
  show wpAny (model X.prog X.w) X.A (richCompare .Eq (.ref a) u) (EP X pins σ Q) X.xe s
  refine PySem.W.cmp_K (op := .Eq) (tb := t) hr.units0 hF I.ok.mod.kin J (kx.ty _ _ I.kIn hP) hnf c.m.at_ c.m.fn ?_
  refine wpAny_mono (run_pos (us := [.ref a, u]) (vs := [.ref a, y]) F hr hgd c.b hx I (.cons rfl (.cons ry .nil)) q) (fun w s' z => ?_) fun _ _ x => x
  obtain ⟨z', H', I', rz, r, ez, qz⟩ := z
  subst ez
  cases (show w = Value.bool r from rz)
  exact ⟨.bl r, H', I', rfl, qz⟩
theorem op_neX (D : InsD X.K C) (I0 : InsC X.K C) (F : Ok X.prog X.w X.K X.mg X.base CX k f fd ps sp) (c : CalM X.K C "__eq__" f fd ps) (hr : Room (k + 1) X.A) (hgd : X.A.guards = some []) (hx : Passes CX X E) : OpR X (compareOp .NotEq) (rNeX X.K C sp E) := by
  intro pins s σ H x y v u Q I rx ry h
  obtain ⟨a, dx, fs, t, rfl, ha, ty, hnf, q⟩ := h
  cases (show v = Value.ref a from rx)
  obtain ⟨mA, J, _⟩ := ins_get I.hok ha
  obtain ⟨od, J, _⟩ := J.look
  obtain ⟨P, kx, hP, _⟩ := kit_of I ry ty
  have hl : ([.ref a, u] ++ [] : List Value).length = ps.length := F.len q
  have b := c.b s [.ref a, u] I.kIn hl
  show wpAny (model X.prog X.w) X.A (richCompare .NotEq (.ref a) u) (EP X pins σ Q) X.xe s
  refine neq_K (by have := hr.un; omega) I.kIn J (kx.ty _ _ I.kIn hP) hnf D.ne I0.hm c.m.at_ c.m.fn (wpAny_call (codeAny_mono (F.run (vs := [.ref a, y]) (us := [.ref a, u]) (Room.in1 hr) hgd I.env0.in1 b (.cons rfl (.cons ry .nil)) q) ?_))
  intro r s' hq
  cases r with
  | error e => exact hx pins σ H s e s' I hq
  | ok fl =>
    cases fl with
    | next => cases hq
    | brk => cases hq
    | cont => cases hq
    | ret u =>
      obtain ⟨v, H', I', rv, x, rfl, q2⟩ := I.after hq
      cases (show u = Value.bool x from rv)
      exact ⟨x, rfl, .bl (!x), H', I', rfl, q2⟩
end
def U.top : U → Bool
  | .ob _ _ => false
  | _ => true
def topA {β : Type} : Alt U β → Bool
  | .l u => u.top
  | .r _ => true
def isR {β : Type} : Alt U β → Bool
  | .l _ => false
  | .r _ => true
theorem top_ty {K : PySem.W.Frag} {H : Hp} {v : V} {u : U} (h : URep K H v u) (e : u.top = true) : ∃ T ∈ ["NoneType", "bool", "int", "str", "list", "tuple", "dict"], TyX K H v (.type T) := by
  cases h with
  | non => exact ⟨_, by decide, .base .non⟩
  | bl x => exact ⟨_, by decide, .base (.bl _)⟩
  | int x => exact ⟨_, by decide, .base (.int _)⟩
  | str x => exact ⟨_, by decide, .base (.str _)⟩
  | lst hl ha => exact ⟨_, by decide, .base (.lst hl)⟩
  | tup hl ha => exact ⟨_, by decide, .base (.tup hl)⟩
  | dK hl ha => exact ⟨_, by decide, .base (.dK hl)⟩
  | ob hl ha => cases e
theorem InsD.not {K : PySem.W.Frag} {C : Addr} (D : InsD K C) {T : String} (m : T ∈ ["NoneType", "bool", "int", "str", "list", "tuple", "dict"]) : PySem.W.notFirst K C (.type T) = true ∧ PySem.W.kitOne K (.type T) (.ref C) = some false := by
  have h := D.kc T m
  refine ⟨?_, ?_⟩
  · unfold PySem.W.notFirst
    unfold PySem.W.kitCls at h
    dsimp only at h
    split at h
    · rw [h]
      simp
    · cases h
  · unfold PySem.W.kitOne
    rw [if_neg (by simp), h]
section
variable {C : Ctx} {W : WX} {δ : List Sl} {α β : Type} [Fz α] [Fz β] {te tf : TE}
/-- the kind of what stands on the right -/
theorem alt_ty {c : Addr} {mt : Str} {K : PySem.W.Frag} {F H : Hp} (D : InsD K c) (hi : InsC K c) (hc : Cls K c) (ho : Obj K α c mt) (s : Same F H) {v : V} {b : Alt U α} (h : Fz.rep K F v b) (t : topA b = true) : ∃ ty, TyX K H v ty ∧ PySem.W.notFirst K c ty = true ∧ PySem.W.kitOne K ty (.ref c) = some (isR b) := by
  cases b with
  | l u =>
    obtain ⟨T, m, ht⟩ := top_ty (URep.go s (show URep K F v u from h)) t
    exact ⟨.type T, ht, (D.not m).1, (D.not m).2⟩
  | r a =>
    obtain ⟨ad, dx, fs, rfl, e1, _⟩ := ho F v a h
    exact ⟨.ref c, .base (.ins (s _ _ e1) hc hi.ha hi.hn hi.ht hi.hm), by simp [PySem.W.notFirst], by simp [PySem.W.kitOne, isR]⟩
theorem k_eqX {c : Addr} {sp : Sp} {f : α → Alt U α → M Bool} {m0 : M α} {m1 : M (Alt U α)} (D : InsD C.K c) (hi : InsC C.K c) (hc : Cls C.K c) (ho : Obj C.K α c "__eq__")
    (hs : ∀ G H v w a b Q E, Same G H → Fz.rep C.K G v a → Fz.rep C.K G w b → Post C.K M0 none G H (oZ Bool) (f a b) Q E → sp [v, w] H Q E) (h0 : JE C W δ te m0) (h1 : JE C W δ tf m1) :
    JE C W δ (tOp (rEqX C.K c sp E0) te tf) (m0.bind fun a => m1.bind fun b => M.need (topA b = true) (f a b).nx) := fun F H σ Q ok q =>
  h0 F H σ _ ok (m0.mono (fun a q0 v F0 H0 s0 r0 ok0 => h1 F0 H0 σ _ ok0 (m1.mono (fun b q1 w F1 H1 s1 r1 ok1 => by
    obtain ⟨tb, q1⟩ := q1
    obtain ⟨ad, dx, fs, rfl, e1, _⟩ := ho F0 v a r0
    obtain ⟨ty, t1, t2, _⟩ := alt_ty D hi hc ho ok1.same r1 tb
    refine ⟨ad, dx, fs, ty, rfl, ok1.same _ _ (s1 _ _ e1), t1, t2, hs F1 H1 _ _ a b _ _ ok1.same (Fz.mono s1 r0) r1 ?_⟩
    exact (f a b).mono (fun r z v F' H' A g _ rp fr => ⟨r, rp.2, z (.bl r) F' H' (s0.trans (s1.trans g.ff)) rfl (ok1.step g)⟩) (fun e z => z.elim) q1) (fun e z => EW.mono s0 z) q0)) (fun _ z => z) q)
theorem k_neX {c : Addr} {sp : Sp} {f : α → Alt U α → M Bool} {m0 : M α} {m1 : M (Alt U α)} (D : InsD C.K c) (hi : InsC C.K c) (hc : Cls C.K c) (ho : Obj C.K α c "__eq__")
    (hs : ∀ G H v w a b Q E, Same G H → Fz.rep C.K G v a → Fz.rep C.K G w b → Post C.K M0 none G H (oZ Bool) (f a b) Q E → sp [v, w] H Q E) (h0 : JE C W δ te m0) (h1 : JE C W δ tf m1) :
    JE C W δ (tOp (rNeX C.K c sp E0) te tf) (m0.bind fun a => m1.bind fun b => M.need (topA b = true) ((f a b).nx.bind fun r => M.pure (!r))) := fun F H σ Q ok q =>
  h0 F H σ _ ok (m0.mono (fun a q0 v F0 H0 s0 r0 ok0 => h1 F0 H0 σ _ ok0 (m1.mono (fun b q1 w F1 H1 s1 r1 ok1 => by
    obtain ⟨tb, q1⟩ := q1
    obtain ⟨ad, dx, fs, rfl, e1, _⟩ := ho F0 v a r0
    obtain ⟨ty, t1, t2, _⟩ := alt_ty D hi hc ho ok1.same r1 tb
    refine ⟨ad, dx, fs, ty, rfl, ok1.same _ _ (s1 _ _ e1), t1, t2, hs F1 H1 _ _ a b _ _ ok1.same (Fz.mono s1 r0) r1 ?_⟩
    exact (f a b).mono (fun r z v F' H' A g _ rp fr => ⟨r, rp.2, z (.bl (!r)) F' H' (s0.trans (s1.trans g.ff)) rfl (ok1.step g)⟩) (fun e z => z.elim) q1) (fun e z => EW.mono s0 z) q0)) (fun _ z => z) q)
/-- isinstance(x, C), x data or such an instance -/
theorem e_isAO {c : Addr} {mt : Str} {m : M (Alt U α)} (D : InsD C.K c) (hi : InsC C.K c) (hc : Cls C.K c) (ho : Obj C.K α c mt) (h : JE C W δ te m) : JE C W δ (tCB (rIsi C.K) (tCons te (tCons (tC (.ref c)) tNil))) (m.bind fun b => M.need (topA b = true) (M.pure (isR b))) := fun F H σ Q ok q =>
  h F H σ _ ok (m.mono (fun b q1 v F1 H1 s1 rp ok1 => by
    obtain ⟨tb, q1⟩ := q1
    obtain ⟨ty, t1, _, t3⟩ := alt_ty D hi hc ho ok1.same rp tb
    exact ⟨v, .ref c, ty, .ref c, isR b, rfl, .own c, t1, t3, q1 _ F1 H1 s1 rfl ok1⟩) (fun _ z => z) q)
end
end Dc

open PySem PySem.Spec PyProof.Rows L2 Dc
local macro_rules | `(tactic| walk_at "rd") => `(tactic| simp only [tFor_eq, tLc_eq, tLc2_eq, tFS, tMS, tMkS, tMkX, tXI, sXf, tRaiseX, tMk0, tTry, wCl, clRun, endsOff, tXf, rIsX, rIsXT, rIsiT, tFmtD, tFmt, tUp, tJoin, tJs, WO, WE, rSortLL, cx_K, cx_nK, cx_bK, cx_w, cx_nw, tSeq, tIfS, tTest, tB, tOp, tUn, tVar, tC, tAsg, tRet, tRetN, tDrop, tCB, tCons, tNil, tNext, tBreak, tCont, tAnd, tOr, tNot, tAndV, tOrV, tNotV, tIf, tChain, tTup, tLst, tFld, sFld, tF, tM, tMk, tPar, tAug, tBM, tBM0, tSl, tPart, tNoPart, tYes, tNever, wipe, gName, gTup, gCons, gNil, gSub, rI, rI0, rU, rEq, rNe, rIx, rIxL, rIxT, rIxS, rSetL, rSlL, rSlS, rSlT, rIndex, rReverse, rMax, rMin, rSorted, iRng3, iRev, tRevL, tDGet, sDPut, tDIn, tDNotIn, tTru, rAppend, rExtend, rPop, rPopAt, rClear, rCat, rRep, rIn, rSum, rAll, rAny, rEqD, rNeD, rIsi, rLenO, rAddStr, rLenStr, rLenSeq, rLenDic, rAbs, Dc.rMax2, rMin2, rDivmod, rListOf, rTupleOf, rTupL, rStrInt, rReprInt, rStrStr, rIntStr, tipAdd, tipSub, ipI, rJoin, rSplit, tM0, tM1, rInS, rNotInS, rIsN, rNotN, rIsB, rNotB, iList, iTup, iRng1, iRng2, iEnum, iEnumT, iZip, iStr, L2.start, List.map, List.length_cons, List.length_nil, List.replicate, List.cons_append, List.nil_append, List.append_nil, List.getElem?_cons_zero, List.getElem?_cons_succ, List.set_cons_zero, List.set_cons_succ, some2, V.int.injEq, V.ref.injEq, V.bl.injEq, V.str.injEq, V.ty.injEq, exists_eq_left, exists_eq_left', exists_eq, exists_eq', exists_eq_right, exists_eq_right', exists_and_left, exists_and_right, List.cons.injEq, and_true, true_and, and_assoc, Nat.reduceAdd, Nat.reduceSub, Nat.zero_add, reduceCtorEq, false_and, and_false, exists_false, Bool.false_eq_true, if_true, if_false, Bool.not_true, Bool.not_false, false_or, or_false, true_or, or_true])
local macro_rules | `(tactic| walk_at "mi") => `(tactic| simp only [M.pb, M.bb, M.np, M.nb, M.nn, M.nneed, M.nany, M.nopt, M.toE, M.optS, M.needb, M.needTT, M.doneP, M.doneR, M.nextP, M.nextR, M.tryP, M.tryT, M.tryN, M.tryB, M.tryO, M.tryBad, M.tb, M.nextT, M.doneT, M.nextN, M.doneN, Option.getD_some, Option.getD_none, is_non_int, is_non_bool, is_non_str, is_non_list, is_non_tuple, is_non_dict, is_bl_int, is_bl_bool, is_bl_str, is_bl_list, is_bl_tuple, is_bl_dict, is_int_int, is_int_bool, is_int_str, is_int_list, is_int_tuple, is_int_dict, is_str_int, is_str_bool, is_str_str, is_str_list, is_str_tuple, is_str_dict, is_lst_int, is_lst_bool, is_lst_str, is_lst_list, is_lst_tuple, is_lst_dict, is_tup_int, is_tup_bool, is_tup_str, is_tup_list, is_tup_tuple, is_tup_dict, is_dK_int, is_dK_bool, is_dK_str, is_dK_list, is_dK_tuple, is_dK_dict, of_int, of_bl, of_str, to_int, to_bl, to_str, to_unit, decide_true, decide_false, M.nite, Bool.not_true, Bool.not_false, eq_self, if_true, if_false, ite_true, ite_false, Bool.false_eq_true, and_self, Bool.and_true, Bool.true_and])
namespace Dc
open PySem PySem.Spec PyProof.Rows L2
section
variable {K : PySem.W.Frag} {H : Hp} {Q : VK} {E : XK} {vs : List V}
def sp_take (K : PySem.W.Frag) : Sp := fun vs H Q _ => ∃ (F : Hp) (p : Addr) (n : Int), vs = [.ref p, .int n] ∧ Same F H ∧ F p = none ∧ PotAt H p ∧ 0 < n ∧ n < 1073741824 ∧
  ∀ (d : Int) (H' : Hp), 0 ≤ d → d < n → Go (M1 p) F H F H' → PotAt H' p → Q (.int d) H'
def t_take (K : PySem.W.Frag) : TS := tSeq (tIfS (tTest (tOp (rI0 fun i j => .bl (decide (j < i))) (tOp (rIxL K) (tVar 0) (tC (.int 0))) (tC (.int 0)))) (tSeq (tAsg (tCB rDivmod (tCons (tOp (rIxL K) (tVar 0) (tC (.int 0))) (tCons (tVar 1) tNil))) (gTup K 2 (gCons (gSub (tVar 0) (tC (.int 0)) rSetL) (gCons (gName 2) gNil))))
  (tRet (tVar 2))) tNext)
  (tSeq (tAsg (tOp (rI (fun _ j => 0 < j) fun i j => .int (i % j)) (tOp (rI0 fun i j => .int (i + j)) (tOp (rI CMul fun i j => .int (i * j)) (tOp (rIxL K) (tVar 0) (tC (.int 1))) (tC (.int 40692))) (tC (.int 12347))) (tC (.int 2147483399))) (gSub (tVar 0) (tC (.int 1)) rSetL))
  (tRet (tOp (rI (fun _ j => 0 < j) fun i j => .int (i % j)) (tOp (rI CDiv fun i j => .int (i / j)) (tOp (rI (fun _ j => 0 < j) fun i j => .int (i % j)) (tOp (rI CMul fun i j => .int (i * j)) (tOp (rIxL K) (tVar 0) (tC (.int 1))) (tOp (rIxL K) (tVar 0) (tC (.int 1)))) (tC (.int 2147483549))) (tC (.int 7))) (tVar 1))))
theorem len_take (h : sp_take K vs H Q E) : vs.length = 2 := by
  obtain ⟨F, p, n, rfl, _⟩ := h
  rfl
theorem rd_take (h : sp_take K vs H Q E) : t_take K (En Q) (st0' 3 vs) H := by
  obtain ⟨F, p, n, rfl, hS, hF, ⟨a, b, hp, ha, hb, hb2⟩, hn, hn2, q⟩ := h
  unfold t_take st0'
  walk_at "rd"
  refine ⟨_, SqL.of hp, _, rfl, _, rfl, ite2 (fun e => ?_) (fun e => ?_)⟩
  · refine ⟨_, SqL.of hp, _, rfl, _, rfl, ⟨hn, hn2⟩, fun t ht => ?_⟩
    have npt : p ≠ t := ne_of_none hp ht
    refine ⟨_, SqT.of upd_same, rfl, _, _, rfl, _, (upd_ne npt).trans hp, _, rfl, _, _, rfl, rfl, ?_⟩
    refine q _ _ (Int.emod_nonneg _ (by omega)) (Int.emod_lt_of_pos _ hn) (((Go.refl hS).tmp ht).mut rfl hF) ⟨a / n, b, upd_same, ?_, hb, hb2⟩
    exact Int.ediv_nonneg ha (by omega)
  · have h1 : 0 ≤ (b * 40692 + 12347) % 2147483399 := Int.emod_nonneg _ (by decide)
    have h2 : (b * 40692 + 12347) % 2147483399 < 2147483399 := Int.emod_lt_of_pos _ (by decide)
    refine ⟨_, SqL.of hp, _, rfl, _, rfl, .inr ⟨by decide, by decide⟩, (by decide), _, hp, _, rfl, ?_⟩
    refine ⟨_, SqL.of upd_same, _, rfl, _, SqL.of upd_same, _, rfl, _, rfl, _, rfl, .inl ⟨by omega, by omega⟩, (by decide), ⟨by decide, by decide⟩, hn, ?_⟩
    exact q _ _ (Int.emod_nonneg _ (by omega)) (Int.emod_lt_of_pos _ hn) ((Go.refl hS).mut rfl hF) ⟨a, _, upd_same, ha, h1, by omega⟩
def sp_pot (K : PySem.W.Frag) : Sp := fun vs H Q _ => ∃ (F : Hp) (a : Addr) (ns : List Int) (k : Int), vs = [.ref a, .int k] ∧ Same F H ∧ SqL K F a (ns.map V.int) ∧ 0 ≤ k ∧ k < 64 ∧
  ∀ (p : Addr) (H' : Hp), Go M0 F H F H' → H p = none → PotAt H' p → Q (.ref p) H'
def t_pot (K : PySem.W.Frag) : TS := tSeq (tAsg (tOp (rI0 fun i j => .int (i + j)) (tOp (rI CMul fun i j => .int (i * j)) (tC (.int 5)) (tVar 1)) (tC (.int 2))) (gName 2))
  (tSeq (tIfS (tTest (tOp (rI0 fun i j => .bl (decide (i < j))) (tVar 1) (tCB (rLenSeq K) (tCons (tVar 0) tNil)))) (tAsg (tCB rAbs (tCons (tOp (rIxL K) (tVar 0) (tVar 1)) tNil)) (gName 2)) tNext)
  (tSeq (tAsg (tOp (rI (fun _ j => 0 < j) fun i j => .int (i % j)) (tOp (rI0 fun i j => .int (i + j)) (tOp (rI0 fun i j => .int (i + j)) (tVar 2) (tOp (rI CMul fun i j => .int (i * j)) (tC (.int 89)) (tVar 1))) (tC (.int 3))) (tC (.int 2147483629))) (gName 3))
  (tRet (tLst (tCons (tCB rMax2 (tCons (tC (.int 0)) (tCons (tOp (rI0 fun i j => .int (i - j)) (tVar 2) (tOp (rI CPow fun i j => .int (i ^ j.toNat)) (tC (.int 10)) (tC (.int 18)))) tNil))) (tCons (tOp (rI0 fun i j => .int (i + j)) (tOp (rI (fun _ j => 0 < j) fun i j => .int (i % j)) (tOp (rI CMul fun i j => .int (i * j)) (tVar 3) (tVar 3)) (tC (.int 2147483563))) (tC (.int 7))) tNil))))))
theorem len_pot (h : sp_pot K vs H Q E) : vs.length = 2 := by
  obtain ⟨F, p, ns, k, rfl, _⟩ := h
  rfl
theorem rd_pot (h : sp_pot K vs H Q E) : t_pot K (En Q) (st0' 4 vs) H := by
  obtain ⟨F, a, ns, k, rfl, hS, hA, hk, hk2, q⟩ := h
  have hA' : SqL K H a (ns.map V.int) := Same.seq hS hA
  have fin : ∀ c : Int, 0 ≤ c → ∀ p, H p = none → ∀ m, m = (c + 89 * k + 3) % 2147483629 → PotAt (upd H p (.lst [.int (if c - 10 ^ 18 > 0 then c - 10 ^ 18 else 0), .int (m * m % 2147483563 + 7)])) p := by
    intro c hc p hp m hm
    refine ⟨_, _, upd_same, ?_, ?_, ?_⟩
    · split
      · omega
      · exact Int.le_refl _
    · have := Int.emod_nonneg (m * m) (b := 2147483563) (by decide)
      omega
    · have := Int.emod_lt_of_pos (m * m) (b := 2147483563) (by decide)
      omega
  have mb : ∀ c : Int, -(2 ^ 64) < (c + 89 * k + 3) % 2147483629 ∧ (c + 89 * k + 3) % 2147483629 < 2 ^ 64 := by
    intro c
    have h1 := Int.emod_nonneg (c + 89 * k + 3) (b := 2147483629) (by decide)
    have h2 := Int.emod_lt_of_pos (c + 89 * k + 3) (b := 2147483629) (by decide)
    omega
  have p18 : CPow 10 18 := ⟨by decide, by decide, by decide⟩
  have done : ∀ c : Int, 0 ≤ c → ∀ p, H p = none → Q (.ref p) (upd H p (.lst [.int (if c - 10 ^ Int.toNat 18 > 0 then c - 10 ^ Int.toNat 18 else 0), .int ((c + 89 * k + 3) % 2147483629 * ((c + 89 * k + 3) % 2147483629) % 2147483563 + 7)])) :=
    fun c hc p hp => q p _ ((Go.refl hS).tmp hp) hp (fin c hc p hp _ rfl)
  unfold t_pot st0'
  walk_at "rd"
  refine ⟨.inl ⟨by decide, by decide⟩, _, .inl hA', ite2 (fun e => ?_) (fun e => ?_)⟩
  · have hlt : k < (ns.length : Int) := by
      have := of_decide_eq_true e
      rwa [List.length_map] at this
    have hj : k.toNat < ns.length := by omega
    refine ⟨_, hA', .int ns[k.toNat], at_of (j := k.toNat) (by omega) (by rw [List.getElem?_map, List.getElem?_eq_getElem hj]; rfl), _, rfl, .inl ⟨by decide, by decide⟩, by decide, p18, .inl (mb _), by decide, by decide, ?_⟩
    refine done _ ?_
    split
    · omega
    · omega
  · exact ⟨.inl ⟨by decide, by decide⟩, by decide, p18, .inl (mb _), by decide, by decide, done _ (by omega)⟩
theorem take_run {p : Addr} {F0 H0 F : Hp} {n : Int} (r : Run p F0 H0 F H) (h1 : 0 < n) (h2 : n < 1073741824) (k : ∀ (d : Int) (H' : Hp), 0 ≤ d → d < n → Run p F0 H0 F H' → Q (.int d) H') : sp_take K [.ref p, .int n] H Q E :=
  ⟨F, p, n, rfl, r.s, r.f, r.t, h1, h2, fun d H' a b g t => k d H' a b (r.step g t)⟩
theorem pot_run {F : Hp} {a : Addr} {ns : List Int} {i : Int} (s : Same F H) (ha : SqL K F a (ns.map V.int)) (h1 : 0 ≤ i) (h2 : i < 64) (k : ∀ (p : Addr) (H' : Hp), Same H H' → H p = none → PotAt H' p → Q (.ref p) H') : sp_pot K [.ref a, .int i] H Q E :=
  ⟨F, a, ns, i, rfl, s, ha, h1, h2, fun p H' g hp t => k p H' (fun b o e => g.hh b o m0 e) hp t⟩
end
end Dc

namespace Dc
open PySem PySem.Spec PyProof.Rows L2
section
variable {K : PySem.W.Frag} {H : Hp} {Q : VK} {E : XK} {vs : List V}
def sp_name (K : PySem.W.Frag) : Sp := fun vs H Q _ => ∃ (F : Hp) (p l : Addr) (ts : List Str), vs = [.ref p, .ref l] ∧ Same F H ∧ F p = none ∧ PotAt H p ∧ SqL K F l (ts.map V.str) ∧ ts.length < 26 ∧
  ∀ (x : Str) (H' : Hp), IsName x → x ∉ ts → Go (M1 p) F H F H' → PotAt H' p → Q (.str x) H'
def t_name (K : PySem.W.Frag) : TS := tSeq (tAsg (tC (.str "abcdefghijklmnopqrstuvwxyz")) (gName 2))
  (tSeq (tAsg (tM1 (rJoin K) (tC (.str "")) (tLc (iRng1 (tCons (tOp (rI0 fun i j => .int (i + j)) (tC (.int 1)) (tF (sp_take K) E0 (tCons (tVar 0) (tCons (tC (.int 8)) tNil)))) tNil)) (gName 4) tYes (tOp rIxS (tVar 2) (tF (sp_take K) E0 (tCons (tVar 0) (tCons (tC (.int 26)) tNil)))) [4])) (gName 3))
  (tSeq (tIfS (tTest (tOp (rIn K false) (tVar 3) (tVar 1))) (tRet (tOp (rIxL K) (tLc (iStr (tVar 2)) (gName 5) (tTest (tOp (rIn K true) (tVar 5) (tVar 1))) (tVar 5) [5]) (tC (.int 0)))) tNext)
  (tRet (tVar 3))))
theorem len_name (h : sp_name K vs H Q E) : vs.length = 2 := by
  obtain ⟨F, p, l, ts, rfl, _⟩ := h
  rfl
theorem rd_name (h : sp_name K vs H Q E) : t_name K (En Q) (st0' 6 vs) H := by
  obtain ⟨F, p, l, ts, rfl, hS, hF, hP, hL, hlen, q⟩ := h
  unfold t_name st0'
  walk_at "rd"
  refine ⟨F, p, 8, rfl, hS, hF, hP, by decide, by decide, fun d H1 hd hd2 g1 p1 => ⟨d, rfl, by omega, by omega, ?_⟩⟩
  refine l_go walk_range g1.fh (M1 p) (PotAt · p) p1 p1.m pot_z (fun i F' acc => F' = F ∧ ∃ cs : List Nat, acc = cs.map (fun c => V.str (one c)) ∧ cs.length = i ∧ ∀ c ∈ cs, isLetter c = true)
    ⟨rfl, [], rfl, rfl, fun c h => absurd h List.not_mem_nil⟩ (fun _ _ => trivial) (by omega) ?_ ?_
  · rintro i x F1 H2 H2' acc N N' hi g2 p2 ⟨rfl, cs, rfl, rfl, hc⟩ ⟨rfl, rfl⟩ hN hN'
    walk_at "rd"
    refine ⟨F1, p, 26, rfl, g2.fh, hF, p2, by decide, by decide, fun e H3 he he2 g3 p3 => ⟨e, rfl, by decide +kernel, e.toNat + 97, at_I he ?_, ?_⟩⟩
    · exact (Array.getElem?_toList ..).trans (letter_at (by omega))
    · refine hN _ F1 H3 g3 p3 ⟨rfl, cs ++ [e.toNat + 97], ?_, by rw [List.length_append]; rfl, fun c h => ?_⟩
      · rw [List.map_append]
        rfl
      · rcases List.mem_append.mp h with h | h
        · exact hc c h
        · rw [List.mem_singleton.mp h]
          exact isLetter_at (by omega)
  · rintro L F' H2 acc g2 p2 hL' fL eL ⟨rfl, cs, rfl, hcl, hc⟩
    walk_at "rd"
    have hB : SqL K H2 l (ts.map V.str) := Same.seq g2.fh hL
    refine ⟨cs.map one, .inl (SqL.of (by rw [eL, List.map_map]; rfl)), ?_, _, .inl hB, rfl, all_flat_str ts, ?_⟩
    · rw [one_lens, List.length_map, show (Str.ofString "").length = 0 from rfl]
      omega
    · rw [join_ones, inV_strs]
      refine ite2 (fun e => ?_) (fun e => ?_)
      · refine l_go walk_str g2.fh (M1 p) (PotAt · p) p2 p2.m pot_z (fun i Fx acc => Fx = F' ∧ ∃ cs : List Nat, acc = cs.map (fun c => V.str (one c)) ∧ (∀ c ∈ cs, isLetter c = true ∧ one c ∉ ts) ∧ ∀ j, j < i → one (j + 97) ∉ ts → cs ≠ [])
          ⟨rfl, [], rfl, fun c h => absurd h List.not_mem_nil, fun j h => absurd h (Nat.not_lt_zero _)⟩ (fun _ _ => trivial) (by decide +kernel) ?_ ?_
        · rintro i x F1 H3 H3' acc N N' hi g3 p3 ⟨rfl, ds, rfl, hds, hne⟩ ⟨rfl, c, hcp, rfl⟩ hN hN'
          have hi' : i < 26 := Nat.lt_of_lt_of_eq hi (by decide +kernel)
          have ec : c = i + 97 := Option.some.inj (hcp.symm.trans (letter_at hi'))
          subst ec
          walk_at "rd"
          refine ⟨_, .inl (Same.seq g3.fh hL), rfl, all_flat_str ts, ?_⟩
          rw [show (⟨#[i + 97]⟩ : Str) = one (i + 97) from rfl, inV_strs]
          refine ite2 (fun e2 => ?_) (fun e2 => ?_)
          · have nm : one (i + 97) ∉ ts := fun m => by
              rw [decide_eq_true m] at e2
              cases e2
            refine hN _ F1 H3' (Go.refl g3.fh) p3 ⟨rfl, ds ++ [i + 97], ?_, fun c h => ?_, fun j _ _ => by simp⟩
            · rw [List.map_append]
              rfl
            · rcases List.mem_append.mp h with h | h
              · exact hds c h
              · rw [List.mem_singleton.mp h]
                exact ⟨isLetter_at hi', nm⟩
          · refine hN' F1 H3' (Go.refl g3.fh) p3 ⟨rfl, ds, rfl, hds, fun j hj hn => ?_⟩
            by_cases ej : j = i
            · subst ej
              rw [decide_eq_false hn] at e2
              exact absurd rfl e2
            · exact hne j (by omega) hn
        · rintro L2 F2 H3 acc g3 p3 hL2 fL2 eL2 ⟨rfl, ds, rfl, hds, hne⟩
          obtain ⟨j, hj, hjn⟩ := free_letter hlen
          have ne : ds ≠ [] := hne j (Nat.lt_of_lt_of_eq hj (by decide +kernel)) hjn
          cases ds with
          | nil => exact absurd rfl ne
          | cons c r =>
            obtain ⟨h1, h2⟩ := hds c (List.mem_cons_self ..)
            exact ⟨L2, rfl, _, SqL.of eL2, _, atI_nat (j := 0) rfl, q _ _ (one_name h1) h2 ((g1.trans g2).trans g3) p3⟩
      · exact q _ _ (S_name (by omega) (by omega) hc) (fun m => e (decide_eq_true m)) (g1.trans g2) p2
end
end Dc

namespace Dc
open PySem PySem.Spec PyProof.Rows L2
section
variable {K : PySem.W.Frag} {H : Hp} {Q : VK} {E : XK} {vs : List V}
def sp_names (K : PySem.W.Frag) : Sp := fun vs H Q _ => ∃ (F : Hp) (p l : Addr) (ts : List Str) (n : Nat), vs = [.ref p, .int n, .ref l] ∧ Same F H ∧ F p = none ∧ PotAt H p ∧ F l = some (.lst (ts.map V.str)) ∧ ts.length + n < 26 ∧
  ∀ (L : Addr) (xs : List Str) (F' H' : Hp), xs.length = n → xs.Nodup → (∀ x ∈ xs, IsName x ∧ x ∉ ts) → Go (M1 p) F H F' H' → StrsL F' L xs → H L = none → PotAt H' p → Q (.ref L) H'
def t_names (K : PySem.W.Frag) : TS := tSeq (tAsg (tLst tNil) (gName 3))
  (tSeq (tFor (iRng1 (tCons (tVar 1) tNil)) (gName 4) (tDrop (tBM K "list" rAppend (tVar 3) (tCons (tF (sp_name K) E0 (tCons (tVar 0) (tCons (tOp rCat (tVar 2) (tVar 3)) tNil))) tNil))))
  (tRet (tVar 3)))
theorem len_names (h : sp_names K vs H Q E) : vs.length = 3 := by
  obtain ⟨F, p, l, ts, n, rfl, _⟩ := h
  rfl
theorem rd_names (h : sp_names K vs H Q E) : t_names K (En Q) (st0' 5 vs) H := by
  obtain ⟨F, p, l, ts, n, rfl, hS, hF, hP, hL, hlen, q⟩ := h
  unfold t_names st0'
  walk_at "rd"
  refine ⟨by decide, fun L hL0 => ⟨by omega, by omega, ?_⟩⟩
  rw [Int.toNat_natCast]
  have nLp : L ≠ p := (hP.ne hL0).symm
  refine f_it walk_range (fun i σ H' => ∃ F' xs v, σ = [some (.ref p), some (.int n), some (.ref l), some (.ref L), v] ∧ Go (M1 p) F H F' H' ∧ F' L = none ∧ H' L = some (.lst (xs.map V.str)) ∧ PotAt H' p ∧ xs.length = i ∧ xs.Nodup ∧ ∀ x ∈ xs, IsName x ∧ x ∉ ts)
    ⟨F, [], none, rfl, (Go.refl hS).tmp hL0, Same.free hS hL0, upd_same, hP.new hL0, rfl, List.nodup_nil, fun x h => absurd h List.not_mem_nil⟩ (fun _ _ _ _ _ => trivial) ?_ ?_
  · rintro i x σ H1 H1' N hi ⟨F1, xs, v, rfl, g1, f1, e1, p1, rfl, nd, hx⟩ ⟨rfl, rfl⟩ hN
    have el : H1' l = some (.lst (ts.map V.str)) := g1.fh _ _ (g1.ff _ _ hL)
    walk_at "rd"
    refine ⟨.inl ⟨rfl, _, SqL.of e1⟩, _, el, _, e1, ?_, fun c hc => ?_⟩
    · rw [List.length_map, List.length_map]
      exact Nat.le_trans (by omega : ts.length + xs.length ≤ 100) (by decide)
    have gc := (Go.refl (M := M1 p) g1.fh).new (o := .lst (ts.map V.str ++ xs.map V.str)) hc
    have pc : PotAt (upd H1' c (.lst (ts.map V.str ++ xs.map V.str))) p := p1.new hc
    have fpc : (upd F1 c (.lst (ts.map V.str ++ xs.map V.str))) p = none := by
      rw [upd_ne (p1.ne hc)]
      exact g1.oo _ hF hP.some
    refine ⟨_, p, c, ts ++ xs, rfl, gc.fh, fpc, pc, SqL.of (by rw [upd_same, List.map_append]), by rw [List.length_append]; omega, fun y H2 hy hyn g2 p2 => ?_⟩
    have g12 := gc.trans g2
    have e2 : H2 L = some (.lst (xs.map V.str)) := g12.hh _ _ nLp e1
    refine ⟨_, e2, ?_, hN _ _ ⟨_, xs ++ [y], _, rfl, (g1.trans g12).loc hL0 (g12.off f1 e1), g12.off f1 e1, ?_, p2.upd nLp.symm, by rw [List.length_append]; rfl, ?_, fun x h => ?_⟩⟩
    · rw [List.length_map]
      exact Nat.lt_of_le_of_lt (by omega : xs.length ≤ 100) (by decide)
    · rw [upd_same, List.map_append]
      rfl
    · rw [List.nodup_append]
      refine ⟨nd, List.nodup_cons.mpr ⟨List.not_mem_nil, List.nodup_nil⟩, fun a ha b hb e => ?_⟩
      rw [List.mem_singleton] at hb
      subst hb
      subst e
      exact hyn (List.mem_append_right _ ha)
    · rcases List.mem_append.mp h with h | h
      · exact hx x h
      · rw [List.mem_singleton.mp h]
        exact ⟨hy, fun m => hyn (List.mem_append_left _ m)⟩
  · rintro σ H1 ⟨F1, xs, v, rfl, g1, f1, e1, p1, hl, nd, hx⟩
    walk_at "rd"
    exact q L xs _ H1 hl nd hx (g1.fin hL0 f1 e1) upd_same hL0 p1
def wdMax : Int := 99
theorem wdMax_ok : 1 ≤ wdMax ∧ wdMax ≤ 99 := by decide
def sp_wide (K : PySem.W.Frag) : Sp := fun vs H Q _ => ∃ (F : Hp) (p : Addr), vs = [.ref p] ∧ Same F H ∧ F p = none ∧ PotAt H p ∧
  ∀ (d : Int) (H' : Hp), 1 ≤ d → d ≤ wdMax → Go (M1 p) F H F H' → PotAt H' p → Q (.int d) H'
def t_wide (K : PySem.W.Frag) : TS := tRet (tOp (rIxL K) (tLst (tCons (tC (.int 1)) (tCons (tC (.int 1)) (tCons (tC (.int 2)) (tCons (tC (.int 3)) (tCons (tC (.int 9)) (tCons (tC (.int 99)) tNil))))))) (tF (sp_take K) E0 (tCons (tVar 0) (tCons (tC (.int 6)) tNil))))
theorem len_wide (h : sp_wide K vs H Q E) : vs.length = 1 := by
  obtain ⟨F, p, rfl, _⟩ := h
  rfl
theorem rd_wide (h : sp_wide K vs H Q E) : t_wide K (En Q) (st0' 1 vs) H := by
  obtain ⟨F, p, rfl, hS, hF, hP, q⟩ := h
  unfold t_wide st0'
  walk_at "rd"
  refine ⟨by decide, fun c hc => ?_⟩
  have gc := (Go.refl (M := M1 p) hS).tmp (o := .lst [.int 1, .int 1, .int 2, .int 3, .int 9, .int 99]) hc
  refine ⟨F, p, 6, rfl, gc.fh, hF, hP.new hc, by decide, by decide, fun d H1 hd hd2 g1 p1 => ?_⟩
  have ec : H1 c = some (.lst [.int 1, .int 1, .int 2, .int 3, .int 9, .int 99]) := g1.hh _ _ (fun e => hP.ne hc e.symm) upd_same
  have cs : d = 0 ∨ d = 1 ∨ d = 2 ∨ d = 3 ∨ d = 4 ∨ d = 5 := by omega
  have k : ∀ (z : Int), 1 ≤ z → z ≤ wdMax → Q (.int z) H1 := fun z h1 h2 => q z H1 h1 h2 (gc.trans g1) p1
  refine ⟨_, d, rfl, SqL.of ec, ?_⟩
  rcases cs with rfl | rfl | rfl | rfl | rfl | rfl
  · exact ⟨_, rfl, k 1 (by decide) (by decide)⟩
  · exact ⟨_, rfl, k 1 (by decide) (by decide)⟩
  · exact ⟨_, rfl, k 2 (by decide) (by decide)⟩
  · exact ⟨_, rfl, k 3 (by decide) (by decide)⟩
  · exact ⟨_, rfl, k 9 (by decide) (by decide)⟩
  · exact ⟨_, rfl, k 99 (by decide) (by decide)⟩
def sp_range (K : PySem.W.Frag) : Sp := fun vs H Q _ => ∃ (F : Hp) (p : Addr) (wd : Int) (b : Bool), vs = [.ref p, .int wd, .bl b] ∧ Same F H ∧ F p = none ∧ PotAt H p ∧ 1 ≤ wd ∧ wd ≤ 99 ∧
  ∀ (t : Addr) (lo hi : Int) (H' : Hp), -wd ≤ lo → lo ≤ hi → hi ≤ wd → (b = true → lo ≤ 0 ∧ 0 ≤ hi) → Go (M1 p) F H F H' → H' t = some (.tup [.int lo, .int hi]) → PotAt H' p → Q (.ref t) H'
def t_range (K : PySem.W.Frag) : TS := tSeq (tIfS (tB (tVar 2)) (tRet (tTup (tCons (tOp (rI0 fun i j => .int (i - j)) (tC (.int 0)) (tF (sp_take K) E0 (tCons (tVar 0) (tCons (tOp (rI0 fun i j => .int (i + j)) (tVar 1) (tC (.int 1))) tNil)))) (tCons (tF (sp_take K) E0 (tCons (tVar 0) (tCons (tOp (rI0 fun i j => .int (i + j)) (tVar 1) (tC (.int 1))) tNil))) tNil)))) tNext)
  (tSeq (tAsg (tOp (rI0 fun i j => .int (i - j)) (tF (sp_take K) E0 (tCons (tVar 0) (tCons (tOp (rI0 fun i j => .int (i + j)) (tOp (rI CMul fun i j => .int (i * j)) (tC (.int 2)) (tVar 1)) (tC (.int 1))) tNil))) (tVar 1)) (gName 3))
  (tRet (tTup (tCons (tVar 3) (tCons (tOp (rI0 fun i j => .int (i + j)) (tVar 3) (tF (sp_take K) E0 (tCons (tVar 0) (tCons (tOp (rI0 fun i j => .int (i + j)) (tOp (rI0 fun i j => .int (i - j)) (tVar 1) (tVar 3)) (tC (.int 1))) tNil)))) tNil)))))
theorem len_range (h : sp_range K vs H Q E) : vs.length = 3 := by
  obtain ⟨F, p, wd, b, rfl, _⟩ := h
  rfl
theorem rd_range (h : sp_range K vs H Q E) : t_range K (En Q) (st0' 4 vs) H := by
  obtain ⟨F, p, wd, b, rfl, hS, hF, hP, h1, h2, q⟩ := h
  unfold t_range st0'
  walk_at "rd"
  refine ite2 (fun e => ?_) (fun e => ?_)
  · refine ⟨F, p, _, rfl, hS, hF, hP, by omega, by omega, fun d H1 hd hd2 g1 p1 => ⟨d, rfl, ?_⟩⟩
    refine ⟨F, p, _, rfl, g1.fh, hF, p1, by omega, by omega, fun c H2 hc hc2 g2 p2 => ⟨by decide, fun t ht => ?_⟩⟩
    exact q t _ _ _ (by omega) (by omega) (by omega) (fun _ => ⟨by omega, by omega⟩) ((g1.trans g2).tmp ht) upd_same (p2.new ht)
  · refine ⟨.inl ⟨by decide, by decide⟩, F, p, _, rfl, hS, hF, hP, by omega, by omega, fun d H1 hd hd2 g1 p1 => ⟨d, rfl, ?_⟩⟩
    refine ⟨F, p, _, rfl, g1.fh, hF, p1, by omega, by omega, fun c H2 hc hc2 g2 p2 => ⟨c, rfl, by decide, fun t ht => ?_⟩⟩
    exact q t _ _ _ (by omega) (by omega) (by omega) (fun z => absurd z e) ((g1.trans g2).tmp ht) upd_same (p2.new ht)
def sp_door (K : PySem.W.Frag) : Sp := fun vs H Q _ => ∃ (F : Hp) (p l : Addr) (rs : List Str) (wd : Int) (b : Bool), vs = [.ref p, .ref l, .int wd, .bl b] ∧ Same F H ∧ F p = none ∧ PotAt H p ∧ F l = some (.lst (rs.map V.str)) ∧ rs.Nodup ∧ 2 ≤ rs.length ∧ rs.length ≤ 8 ∧ 1 ≤ wd ∧ wd ≤ 99 ∧
  ∀ (t : Addr) (d : Door) (F' H' : Hp), DoorOk rs d → -wd ≤ d.lo → d.hi ≤ wd → (b = true → d.lo ≤ 0 ∧ 0 ≤ d.hi) → Go (M1 p) F H F' H' → DoorAt F' t d → PotAt H' p → Q (.ref t) H'
def t_door (K : PySem.W.Frag) : TS := tSeq (tAsg (tF (sp_take K) E0 (tCons (tVar 0) (tCons (tCB (rLenSeq K) (tCons (tVar 1) tNil)) tNil))) (gName 4))
  (tSeq (tAsg (tOp (rI (fun _ j => 0 < j) fun i j => .int (i % j)) (tOp (rI0 fun i j => .int (i + j)) (tOp (rI0 fun i j => .int (i + j)) (tVar 4) (tC (.int 1))) (tF (sp_take K) E0 (tCons (tVar 0) (tCons (tOp (rI0 fun i j => .int (i - j)) (tCB (rLenSeq K) (tCons (tVar 1) tNil)) (tC (.int 1))) tNil)))) (tCB (rLenSeq K) (tCons (tVar 1) tNil))) (gName 5))
  (tSeq (tAsg (tF (sp_range K) E0 (tCons (tVar 0) (tCons (tVar 2) (tCons (tVar 3) tNil)))) (gTup K 2 (gCons (gName 6) (gCons (gName 7) gNil))))
  (tRet (tTup (tCons (tOp (rIxL K) (tVar 1) (tVar 4)) (tCons (tOp (rIxL K) (tVar 1) (tVar 5)) (tCons (tVar 6) (tCons (tVar 7) tNil))))))))
theorem len_door (h : sp_door K vs H Q E) : vs.length = 4 := by
  obtain ⟨F, p, l, rs, wd, b, rfl, _⟩ := h
  rfl
theorem rd_door (h : sp_door K vs H Q E) : t_door K (En Q) (st0' 8 vs) H := by
  obtain ⟨F, p, l, rs, wd, b, rfl, hS, hF, hP, hL, hN, hl, hl2, h1, h2, q⟩ := h
  unfold t_door st0'
  walk_at "rd"
  have el : ∀ {H' : Hp}, Same F H' → SqL K H' l (rs.map V.str) := fun s => SqL.of (s _ _ hL)
  refine ⟨_, .inl (el hS), F, p, _, rfl, hS, hF, hP, by rw [List.length_map]; omega, by rw [List.length_map]; omega, fun i H1 hi hi2 g1 p1 => ⟨i, rfl, _, .inl (el g1.fh), ?_⟩⟩
  rw [List.length_map] at hi2
  refine ⟨F, p, _, rfl, g1.fh, hF, p1, by rw [List.length_map]; omega, by rw [List.length_map]; omega, fun j H2 hj hj2 g2 p2 => ⟨j, rfl, _, .inl (el g2.fh), by rw [List.length_map]; omega, ?_⟩⟩
  rw [List.length_map] at hj2
  refine ⟨F, p, wd, b, rfl, g2.fh, hF, p2, h1, h2, fun t lo hj' H3 a1 a2 a3 a4 g3 e3 p3 => ?_⟩
  have hm0 : 0 ≤ (i + 1 + j) % (rs.length : Int) := Int.emod_nonneg _ (by omega)
  have hm1 : (i + 1 + j) % (rs.length : Int) < rs.length := Int.emod_lt_of_pos _ (by omega)
  have hne : (i + 1 + j) % (rs.length : Int) ≠ i := by
    intro z
    by_cases c : i + 1 + j < rs.length
    · rw [Int.emod_eq_of_lt (by omega) c] at z
      omega
    · have e : (i + 1 + j) % (rs.length : Int) = (i + 1 + j - rs.length) % (rs.length : Int) := by
        rw [Int.sub_emod_right]
      rw [e, Int.emod_eq_of_lt (by omega) (by omega)] at z
      omega
  have i1 : i.toNat < rs.length := by omega
  have i2 : ((i + 1 + j) % (rs.length : Int)).toNat < rs.length := by omega
  have l2 : ((rs.map V.str).length : Int) = rs.length := by rw [List.length_map]
  rw [l2]
  have g : Go (M1 p) F H F H3 := (g1.trans g2).trans g3
  refine ⟨t, rfl, _, SqT.of e3, rfl, _, _, rfl, _, _, rfl, rfl, _, i, rfl, el g3.fh, .str rs[i.toNat], at_I hi (get_map (List.getElem?_eq_getElem i1)), _, el g3.fh, .str rs[((i + 1 + j) % (rs.length : Int)).toNat], at_I hm0 (get_map (List.getElem?_eq_getElem i2)), by decide, fun u hu => ?_⟩
  refine q u ⟨rs[i.toNat], rs[((i + 1 + j) % (rs.length : Int)).toNat], lo, hj'⟩ _ _ ⟨List.getElem_mem i1, List.getElem_mem i2, fun z => ?_, by show -99 ≤ lo; omega, a2, by show hj' ≤ 99; omega⟩ a1 a3 a4 (g.new hu) upd_same (p3.new hu)
  have := (List.getElem_inj hN).mp z
  omega
def sp_doors (K : PySem.W.Frag) : Sp := fun vs H Q _ => ∃ (F : Hp) (p l : Addr) (rs : List Str) (n : Nat) (b : Bool), vs = [.ref p, .ref l, .int n, .bl b] ∧ Same F H ∧ F p = none ∧ PotAt H p ∧ F l = some (.lst (rs.map V.str)) ∧ RoomsOk rs ∧ n ≤ 12 ∧
  ∀ (L : Addr) (ds : List Door) (F' H' : Hp), DoorsOk rs ds → (rs.length < 2 → ds = []) → (2 ≤ rs.length → ds.length = n) → (b = true → ∀ d ∈ ds, d.lo ≤ 0 ∧ 0 ≤ d.hi) → (∀ d ∈ ds, -wdMax ≤ d.lo ∧ d.hi ≤ wdMax) → Go (M1 p) F H F' H' → DoorsL F' L ds → H L = none → PotAt H' p → Q (.ref L) H'
def t_doors (K : PySem.W.Frag) : TS := tSeq (tIfS (tTest (tOp (rI0 fun i j => .bl (decide (i < j))) (tCB (rLenSeq K) (tCons (tVar 1) tNil)) (tC (.int 2)))) (tRet (tLst tNil)) tNext)
  (tSeq (tAsg (tF (sp_wide K) E0 (tCons (tVar 0) tNil)) (gName 4))
  (tRet (tLc (iRng1 (tCons (tVar 2) tNil)) (gName 5) tYes (tF (sp_door K) E0 (tCons (tVar 0) (tCons (tVar 1) (tCons (tVar 4) (tCons (tVar 3) tNil))))) [5])))
theorem len_doors (h : sp_doors K vs H Q E) : vs.length = 4 := by
  obtain ⟨F, p, l, rs, n, b, rfl, _⟩ := h
  rfl
theorem rd_doors (h : sp_doors K vs H Q E) : t_doors K (En Q) (st0' 6 vs) H := by
  obtain ⟨F, p, l, rs, n, b, rfl, hS, hF, hP, hL, hR, hn, q⟩ := h
  unfold t_doors st0'
  walk_at "rd"
  have el : ∀ {H' : Hp}, Same F H' → SqL K H' l (rs.map V.str) := fun s => SqL.of (s _ _ hL)
  obtain ⟨r1, r2, r3, r4⟩ := id hR
  refine ⟨_, .inl (el hS), ite2 (fun e => ?_) (fun e => ?_)⟩
  · have e : (rs.length : Int) < 2 := by
      have := of_decide_eq_true e
      rwa [List.length_map] at this
    refine ⟨by decide, fun L hL0 => q L [] _ _ ⟨Nat.zero_le _, fun d h => absurd h List.not_mem_nil⟩ (fun _ => rfl) (fun h => absurd h (by omega)) (fun _ d h => absurd h List.not_mem_nil) (fun d h => absurd h List.not_mem_nil) ((Go.refl hS).new hL0) ⟨[], upd_same, .nil⟩ hL0 (hP.new hL0)⟩
  · have e : 2 ≤ rs.length := by
      have : ¬ ((rs.map V.str).length : Int) < 2 := fun z => e (decide_eq_true z)
      rw [List.length_map] at this
      omega
    refine ⟨F, p, rfl, hS, hF, hP, fun wd H1 w1 w2 g1 p1 => ⟨by omega, by omega, ?_⟩⟩
    rw [Int.toNat_natCast]
    refine l_go walk_range g1.fh (M1 p) (PotAt · p) p1 p1.m pot_z (fun i F' acc => ∃ (as : List Addr) (ds : List Door), acc = as.map V.ref ∧ Paired (DoorAt F') as ds ∧ ds.length = i ∧ (∀ d ∈ ds, DoorOk rs d) ∧ (b = true → ∀ d ∈ ds, d.lo ≤ 0 ∧ 0 ≤ d.hi) ∧ ∀ d ∈ ds, -wdMax ≤ d.lo ∧ d.hi ≤ wdMax)
      ⟨[], [], rfl, .nil, rfl, fun d h => absurd h List.not_mem_nil, fun _ d h => absurd h List.not_mem_nil, fun d h => absurd h List.not_mem_nil⟩ (fun _ _ => trivial) (by omega) ?_ ?_
    · rintro i x F1 H2 H2' acc N N' hi g2 p2 ⟨as, ds, rfl, hpd, rfl, hd, hb, hw⟩ ⟨rfl, rfl⟩ hN hN'
      walk_at "rd"
      refine ⟨F1, p, l, rs, wd, b, rfl, g2.fh, g2.oo _ hF p1.some, p2, g2.ff _ _ hL, r3, e, r2, w1, Int.le_trans w2 wdMax_ok.2, fun t d F3 H3 d1 d2 d3 d4 g3 e3 p3 => ?_⟩
      refine hN _ F3 H3 g3 p3 ⟨as ++ [t], ds ++ [d], by rw [List.map_append]; rfl, paired_snoc e3 (paired_door g3.ff hpd), by rw [List.length_append]; rfl, fun d' h => ?_, fun z d' h => ?_, fun d' h => ?_⟩
      · rcases List.mem_append.mp h with h | h
        · exact hd d' h
        · rw [List.mem_singleton.mp h]
          exact d1
      · rcases List.mem_append.mp h with h | h
        · exact hb z d' h
        · rw [List.mem_singleton.mp h]
          exact d4 z
      · rcases List.mem_append.mp h with h | h
        · exact hw d' h
        · rw [List.mem_singleton.mp h]
          exact ⟨by omega, by omega⟩
    · rintro L F2 H2 acc g2 p2 hL' fL eL ⟨as, ds, rfl, hpd, hl, hd, hb, hw⟩
      have hL0 : H L = none := by
        cases hh : H L with
        | none => rfl
        | some o => exact absurd hL' (g1.th L (by rw [hh]; exact Option.some_ne_none _))
      have g := g1.trans g2
      refine q L ds _ H2 ⟨by omega, hd⟩ (fun z => absurd z (by omega)) (fun _ => hl) hb hw (g.fin hL0 fL eL) ⟨as, upd_same, paired_door (Same.new fL) hpd⟩ hL0 p2
def sp_lists (K : PySem.W.Frag) : Sp := fun vs H Q _ => ∃ (F : Hp) (p : Addr), vs = [.ref p] ∧ Same F H ∧ F p = none ∧ PotAt H p ∧
  ∀ (t L1 L2 : Addr) (rs : List Str) (ds : List Door) (F' H' : Hp), RoomsOk rs → DoorsOk rs ds → Go (M1 p) F H F' H' → F' t = some (.tup [.ref L1, .ref L2]) → StrsL F' L1 rs → DoorsL F' L2 ds → PotAt H' p → Q (.ref t) H'
def t_lists (K : PySem.W.Frag) : TS := tSeq (tAsg (tF (sp_names K) E0 (tCons (tVar 0) (tCons (tOp (rI0 fun i j => .int (i + j)) (tC (.int 1)) (tF (sp_take K) E0 (tCons (tVar 0) (tCons (tC (.int 8)) tNil)))) (tCons (tLst tNil) tNil)))) (gName 1))
  (tRet (tTup (tCons (tVar 1) (tCons (tF (sp_doors K) E0 (tCons (tVar 0) (tCons (tVar 1) (tCons (tF (sp_take K) E0 (tCons (tVar 0) (tCons (tC (.int 13)) tNil))) (tCons (tC (.bl false)) tNil))))) tNil))))
theorem len_lists (h : sp_lists K vs H Q E) : vs.length = 1 := by
  obtain ⟨F, p, rfl, _⟩ := h
  rfl
theorem rd_lists (h : sp_lists K vs H Q E) : t_lists K (En Q) (st0' 2 vs) H := by
  obtain ⟨F, p, rfl, hS, hF, hP, q⟩ := h
  unfold t_lists st0'
  walk_at "rd"
  refine ⟨F, p, 8, rfl, hS, hF, hP, by decide, by decide, fun d H1 hd hd2 g1 p1 => ⟨d, rfl, by decide, fun c hc => ?_⟩⟩
  have gc := (Go.refl (M := M1 p) g1.fh).new (o := .lst []) hc
  have fpc : (upd F c (.lst [])) p = none := by
    rw [upd_ne (p1.ne hc)]
    exact hF
  refine ⟨_, p, c, [], (1 + d).toNat, by rw [show ((1 + d).toNat : Int) = 1 + d by omega], gc.fh, fpc, p1.new hc, upd_same, by show 0 + _ < 26; omega, fun L1 rs F2 H2 hl nd hx g2 e2 hL1 p2 => ?_⟩
  have f2 : F2 p = none := g2.oo _ fpc (p1.new hc).some
  have hR : RoomsOk rs := ⟨by omega, by omega, nd, fun r h => (hx r h).1⟩
  refine ⟨F2, p, 13, rfl, g2.fh, f2, p2, by decide, by decide, fun m H3 hm hm2 g3 p3 => ?_⟩
  refine ⟨F2, p, L1, rs, m.toNat, false, by rw [show ((m.toNat : Nat) : Int) = m by omega], g3.fh, f2, p3, e2, hR, by omega, fun L2 ds F4 H4 hD _ _ _ _ g4 e4 hL2 p4 => ⟨by decide, fun t ht => ?_⟩⟩
  have g : Go (M1 p) F H F4 H4 := ((g1.trans gc).trans g2).trans (g3.trans g4)
  exact q t L1 L2 rs ds _ _ hR hD (g.new ht) upd_same (StrsL.go (fun b o e => (Same.new (Same.free g4.fh ht)) b o (g4.ff b o e)) e2) (DoorsL.go (Same.new (Same.free g4.fh ht)) e4) (p4.new ht)
theorem lists_run {p : Addr} {F0 H0 F : Hp} (r : Run p F0 H0 F H) (k : ∀ (t L1 L2 : Addr) (rs : List Str) (ds : List Door) (as : List Addr) (F' H' : Hp), RoomsOk rs → DoorsOk rs ds → Run p F0 H0 F' H' → Same F F' → F' t = some (.tup [.ref L1, .ref L2]) → F' L1 = some (.lst (rs.map V.str)) → F' L2 = some (.lst (as.map V.ref)) → Paired (DoorAt F') as ds → Q (.ref t) H') : sp_lists K [.ref p] H Q E :=
  ⟨F, p, rfl, r.s, r.f, r.t, fun t L1 L2 rs ds F' H' a b g e1 e2 ⟨as, e3, e4⟩ t' => k t L1 L2 rs ds as F' H' a b (r.step g t') g.ff e1 e2 e3 e4⟩
end
end Dc

namespace Dc
open PySem PySem.Spec PyProof.Rows L2
/-! ### plans -/
def nameB (x : Str) : Bool := decide (1 ≤ x.length) && decide (x.length ≤ 8) && x.cps.toList.all isLetter
theorem nameB_iff {x : Str} : nameB x = true ↔ IsName x := by
  unfold nameB IsName
  rw [Bool.and_eq_true, Bool.and_eq_true, decide_eq_true_eq, decide_eq_true_eq, List.all_eq_true, and_assoc]
/-- of another class than T, and of none under it -/
def NotTy (K : PySem.W.Frag) (H : Hp) (x : V) (T : String) : Prop := ∃ t, TyX K H x t ∧ PySem.W.kitOne K t (.type T) = some false
theorem sqL_ty {K : PySem.W.Frag} {H : Hp} {a : Addr} {xs : List V} (h : SqL K H a xs) : TyX K H (.ref a) (.type "list") := by
  rcases h with (h | ⟨o, h⟩) | ⟨o, its, n, h, hc, _⟩
  · exact .base (.lst h)
  · exact .base (.frz h)
  · exact .kList h hc
theorem letter_in {c : Nat} : decide (c ∈ letters26.cps.toList) = isLetter c := by
  rw [letters_cps]
  unfold isLetter
  by_cases h : 97 ≤ c ∧ c ≤ 122
  · rw [decide_eq_true h.1, decide_eq_true h.2, decide_eq_true]
    · rfl
    · exact List.mem_map.mpr ⟨c - 97, List.mem_range.mpr (by omega), by omega⟩
  · rw [decide_eq_false]
    · by_cases a : 97 ≤ c
      · rw [decide_eq_true a, decide_eq_false (fun b => h ⟨a, b⟩)]
        rfl
      · rw [decide_eq_false a]
        rfl
    · intro m
      obtain ⟨i, hi, e⟩ := List.mem_map.mp m
      have := List.mem_range.mp hi
      exact h (by omega)
section
variable {K : PySem.W.Frag} {H : Hp} {Q : VK} {E : XK} {vs : List V}
def sp_is_name (K : PySem.W.Frag) : Sp := fun vs H Q _ => ∃ x, vs = [x] ∧ ((∃ s, x = .str s ∧ s.length ≤ 100000 ∧ ∀ H', Same H H' → Q (.bl (nameB s)) H') ∨ (NotTy K H x "str" ∧ Q (.bl false) H))
def t_is_name (K : PySem.W.Frag) : TS := tSeq (tIfS (tOr (tNot (tB (tCB (rIsi K) (tCons (tVar 0) (tCons (tC (.ty "str")) tNil))))) (tNot (tTest (tChain (rI0 fun i j => .bl (decide (i ≤ j))) (rI0 fun i j => .bl (decide (i ≤ j))) (tC (.int 1)) (tCB rLenStr (tCons (tVar 0) tNil)) (tC (.int 8)))))) (tRet (tC (.bl false))) tNext)
  (tRet (tCB (rAll K) (tCons (tLc (iStr (tVar 0)) (gName 1) tYes (tOp rInS (tVar 1) (tC (.str "abcdefghijklmnopqrstuvwxyz"))) [1]) tNil)))
theorem len_is_name (h : sp_is_name K vs H Q E) : vs.length = 1 := by
  obtain ⟨x, rfl, _⟩ := h
  rfl
theorem rd_is_name (h : sp_is_name K vs H Q E) : t_is_name K (En Q) (st0' 2 vs) H := by
  obtain ⟨x, rfl, h⟩ := h
  unfold t_is_name st0'
  walk_at "rd"
  rcases h with ⟨z, rfl, hz, q⟩ | ⟨⟨t, ty, e⟩, q⟩
  · refine ⟨_, _, .ty _, .base (.str z), true, kit_ty (by decide +kernel), ?_⟩
    walk_at "rd"
    refine ⟨Nat.le_trans hz (by decide), ?_⟩
    have q0 := q H (Same.refl H)
    unfold nameB at q q0
    refine ite2 (fun a => ?_) (fun a => ?_)
    · have a' : 1 ≤ z.length := by
        have := of_decide_eq_true a
        omega
      refine ite2 (fun b => ?_) (fun b => ?_)
      · have b' : ¬ z.length ≤ 8 := fun c => by
          rw [decide_eq_true (by omega : (z.length : Int) ≤ 8)] at b
          cases b
        rw [decide_eq_false b', Bool.and_false, Bool.false_and] at q0
        exact q0
      · have b' : z.length ≤ 8 := by
          apply Classical.byContradiction
          intro c
          rw [decide_eq_false (by omega : ¬ (z.length : Int) ≤ 8)] at b
          exact b rfl
        rw [decide_eq_true a', decide_eq_true b', Bool.true_and, Bool.true_and] at q
        refine l_go (F := H) walk_str (Same.refl H) M0 (fun _ => True) trivial (fun _ h => h.elim) (fun _ _ _ _ _ => trivial) (fun i Fx acc => Fx = H ∧ acc = ((z.cps.toList.take i).map isLetter).map V.bl) ⟨rfl, rfl⟩ (fun _ _ => trivial) (by show z.length < _; omega) ?_ ?_
        · rintro i x F1 H1 H1' acc N N' hi g1 _ ⟨rfl, rfl⟩ ⟨rfl, c, hc, rfl⟩ hN hN'
          walk_at "rd"
          refine ⟨c, rfl, hN _ F1 H1' (Go.refl g1.fh) trivial ⟨rfl, ?_⟩⟩
          have hc' : z.cps.toList[i]? = some c := (Array.getElem?_toList ..).trans hc
          rw [List.take_add_one, hc', List.map_append, List.map_append]
          show _ ++ [V.bl (decide (c ∈ letters26.cps.toList))] = _
          rw [letter_in]
          rfl
        · rintro L F' H' acc g _ hL fL eL ⟨rfl, rfl⟩
          refine ⟨L, rfl, _, SqL.of eL, ?_⟩
          have e : z.cps.toList.take z.cps.size = z.cps.toList := List.take_of_length_le (by simp)
          rw [e, List.all_map]
          exact q H' (fun b o h => g.fh b o h)
    · have a' : ¬ 1 ≤ z.length := fun c => a (decide_eq_true (by omega))
      rw [decide_eq_false a', Bool.false_and, Bool.false_and] at q0
      exact q0
  · refine ⟨t, _, .ty _, ty, false, e, ?_⟩
    walk_at "rd"
    exact q
def sp_is_whole (K : PySem.W.Frag) : Sp := fun vs H Q _ => ∃ x lo hi, vs = [x, .int lo, .int hi] ∧
  ((∃ i, x = .int i ∧ Q (.bl (decide (lo ≤ i) && decide (i ≤ hi))) H) ∨ ((∃ b, x = .bl b) ∧ Q (.bl false) H) ∨ (NotTy K H x "int" ∧ Q (.bl false) H))
def t_is_whole (K : PySem.W.Frag) : TS := tRet (tAndV (tCB (rIsi K) (tCons (tVar 0) (tCons (tC (.ty "int")) tNil))) (tAndV (tNotV (tCB (rIsi K) (tCons (tVar 0) (tCons (tC (.ty "bool")) tNil)))) (tChain (rI0 fun i j => .bl (decide (i ≤ j))) (rI0 fun i j => .bl (decide (i ≤ j))) (tVar 1) (tVar 0) (tVar 2))))
theorem len_is_whole (h : sp_is_whole K vs H Q E) : vs.length = 3 := by
  obtain ⟨x, lo, hi, rfl, _⟩ := h
  rfl
theorem rd_is_whole (h : sp_is_whole K vs H Q E) : t_is_whole K (En Q) (st0' 3 vs) H := by
  obtain ⟨x, lo, hi, rfl, h⟩ := h
  unfold t_is_whole st0'
  walk_at "rd"
  rcases h with ⟨i, rfl, q⟩ | ⟨⟨b, rfl⟩, q⟩ | ⟨⟨t, ty, e⟩, q⟩
  · refine ⟨_, _, .ty _, .base (.int i), true, kit_ty (by decide +kernel), ?_⟩
    walk_at "rd"
    refine ⟨_, _, .ty _, .base (.int i), false, kit_ty (by decide +kernel), ?_⟩
    walk_at "rd"
    refine ite2 (fun a => ?_) (fun a => ?_)
    · rw [a, Bool.true_and] at q
      exact q
    · rw [(Bool.not_eq_true _).mp a, Bool.false_and] at q
      exact q
  · refine ⟨_, _, .ty _, .base (.bl b), true, kit_ty (by decide +kernel), ?_⟩
    walk_at "rd"
    refine ⟨_, _, .ty _, .base (.bl b), true, kit_ty (by decide +kernel), ?_⟩
    walk_at "rd"
    exact q
  · refine ⟨t, _, .ty _, ty, false, e, ?_⟩
    walk_at "rd"
    exact q
def sp_is_row (K : PySem.W.Frag) : Sp := fun vs H Q _ => ∃ x lo hi, vs = [x, .int lo, .int hi] ∧
  ((∃ a xs, x = .ref a ∧ SqL K H a xs ∧ Q (.bl (decide (lo ≤ (xs.length : Int)) && decide ((xs.length : Int) ≤ hi))) H) ∨ (NotTy K H x "list" ∧ Q (.bl false) H))
def t_is_row (K : PySem.W.Frag) : TS := tRet (tAndV (tCB (rIsi K) (tCons (tVar 0) (tCons (tC (.ty "list")) tNil))) (tChain (rI0 fun i j => .bl (decide (i ≤ j))) (rI0 fun i j => .bl (decide (i ≤ j))) (tVar 1) (tCB (rLenSeq K) (tCons (tVar 0) tNil)) (tVar 2)))
theorem len_is_row (h : sp_is_row K vs H Q E) : vs.length = 3 := by
  obtain ⟨x, lo, hi, rfl, _⟩ := h
  rfl
theorem rd_is_row (h : sp_is_row K vs H Q E) : t_is_row K (En Q) (st0' 3 vs) H := by
  obtain ⟨x, lo, hi, rfl, h⟩ := h
  unfold t_is_row st0'
  walk_at "rd"
  rcases h with ⟨a, xs, rfl, hs, q⟩ | ⟨⟨t, ty, e⟩, q⟩
  · refine ⟨_, _, .ty _, sqL_ty hs, true, kit_ty (by decide +kernel), ?_⟩
    walk_at "rd"
    refine ⟨xs, .inl hs, ite2 (fun c => ?_) (fun c => ?_)⟩
    · rw [c, Bool.true_and] at q
      exact q
    · rw [(Bool.not_eq_true _).mp c, Bool.false_and] at q
      exact q
  · refine ⟨t, _, .ty _, ty, false, e, ?_⟩
    walk_at "rd"
    exact q
def sp_is_bound (K : PySem.W.Frag) : Sp := fun vs H Q _ => ∃ x, vs = [x] ∧
  ((∃ i, x = .int i ∧ Q (.bl (decide (-99 ≤ i) && decide (i ≤ 99))) H) ∨ ((∃ b, x = .bl b) ∧ Q (.bl false) H) ∨ (NotTy K H x "int" ∧ Q (.bl false) H))
def t_is_bound (K : PySem.W.Frag) : TS := tRet (tF (sp_is_whole K) E0 (tCons (tVar 0) (tCons (tUn (rU fun i => .int (-i)) (tC (.int 99))) (tCons (tC (.int 99)) tNil))))
theorem len_is_bound (h : sp_is_bound K vs H Q E) : vs.length = 1 := by
  obtain ⟨x, rfl, _⟩ := h
  rfl
theorem rd_is_bound (h : sp_is_bound K vs H Q E) : t_is_bound K (En Q) (st0' 1 vs) H := by
  obtain ⟨x, rfl, h⟩ := h
  unfold t_is_bound st0'
  walk_at "rd"
  exact ⟨x, -99, 99, rfl, h⟩
end
end Dc

namespace Dc
open PySem PySem.Spec PyProof.Rows L2
structure Pl where
  rs : List Str
  ds : List Door
  deriving DecidableEq
def PlanOk (pl : Pl) : Prop := RoomsOk pl.rs ∧ DoorsOk pl.rs pl.ds
def planFs (nt gt : Addr) : List (Str × V) := [("named", .ref nt), ("gates", .ref gt)]
/-- a plan at p -/
def PlanAt (K : PySem.W.Frag) (F : Hp) (p : Addr) (pl : Pl) : Prop := ∃ (dx nt gt : Addr) (as : List Addr), F p = some (.ins (He.ga K "Plan") dx (planFs nt gt)) ∧ F nt = some (.tup (pl.rs.map V.str)) ∧ F gt = some (.tup (as.map V.ref)) ∧ Paired (DoorAt F) as pl.ds
theorem PlanAt.go {K : PySem.W.Frag} {F F' : Hp} {p : Addr} {pl : Pl} (h : PlanAt K F p pl) (s : Same F F') : PlanAt K F' p pl := by
  obtain ⟨dx, nt, gt, as, h1, h2, h3, h4⟩ := h
  exact ⟨dx, nt, gt, as, s _ _ h1, s _ _ h2, s _ _ h3, paired_door s h4⟩
/-- the class's facts that every method wants -/
structure PlC (K : PySem.W.Frag) : Prop where
  cl : Cls K (He.ga K "Plan")
  n1 : NoAttr K (He.ga K "Plan") "named"
  n2 : NoAttr K (He.ga K "Plan") "gates"
section
variable {K : PySem.W.Frag} {H : Hp} {Q : VK} {E : XK} {vs : List V}
def sp_want_rooms (K : PySem.W.Frag) : Sp := fun vs H Q _ => ∃ (a : Addr) (rs : List Str), vs = [.ref a] ∧ SqL K H a (rs.map V.str) ∧ RoomsOk rs ∧ ∀ H', Same H H' → Q .non H'
def t_want_rooms (K : PySem.W.Frag) : TS := tSeq (tIfS (tNot (tB (tF (sp_is_row K) E0 (tCons (tVar 0) (tCons (tC (.int 1)) (tCons (tC (.int 8)) tNil)))))) tNever tNext)
  (tFor (iEnum K (tCons (tVar 0) tNil)) (gTup K 2 (gCons (gName 1) (gCons (gName 2) gNil))) (tSeq (tIfS (tNot (tB (tF (sp_is_name K) E0 (tCons (tVar 2) tNil)))) tNever tNext)
  (tIfS (tTest (tOp (rIn K false) (tVar 2) (tSl (rSlL K) (tVar 0) tNoPart (tPart (tVar 1))))) tNever tNext)))
theorem len_want_rooms (h : sp_want_rooms K vs H Q E) : vs.length = 1 := by
  obtain ⟨x, rs, rfl, _⟩ := h
  rfl
theorem rd_want_rooms (h : sp_want_rooms K vs H Q E) : t_want_rooms K (En Q) (st0' 3 vs) H := by
  obtain ⟨a, rs, rfl, ha, hR, q⟩ := h
  unfold t_want_rooms st0'
  walk_at "rd"
  obtain ⟨r1, r2, r3, r4⟩ := id hR
  refine ⟨.ref a, 1, 8, rfl, .inl ⟨a, _, rfl, ha, ?_⟩⟩
  rw [List.length_map, decide_eq_true (by omega : (1 : Int) ≤ rs.length), decide_eq_true (by omega : (rs.length : Int) ≤ 8)]
  walk_at "rd"
  refine ⟨⟨_, ha⟩, ?_⟩
  refine f_it (walk_enum (xs := rs.map V.str)) (fun i σ H' => ∃ v w, σ = [some (.ref a), v, w] ∧ Same H H') ⟨none, none, rfl, Same.refl H⟩ (fun i σ H' _ ⟨_, _, _, s⟩ => s.seq ha) ?_ ?_
  · rintro i x σ H1 H1' N hi ⟨v, w, rfl, s⟩ ⟨T, x1, x2, rfl, hT, rfl, e1, e2⟩ hN
    cases Option.some.inj e1
    rw [List.length_map] at hi
    have hi2 : (rs.map V.str)[i]? = some (.str rs[i]) := get_map (List.getElem?_eq_getElem hi)
    cases Option.some.inj (hi2.symm.trans e2)
    walk_at "rd"
    have sT : Same H (upd H1 T (.tup [.int i, .str rs[i]])) := s.trans (Same.new hT)
    refine ⟨_, SqT.of upd_same, rfl, _, _, rfl, _, _, rfl, rfl, .str rs[i], rfl, .inl ⟨_, rfl, Nat.le_trans (r4 _ (List.getElem_mem hi)).2.1 (by decide), fun H2 s2 => ?_⟩⟩
    rw [nameB_iff.mpr (r4 _ (List.getElem_mem hi))]
    walk_at "rd"
    refine ⟨_, (sT.trans s2).seq ha, fun L hL => ⟨_, .inl (SqL.of upd_same), rfl, ?_, ?_⟩⟩
    · rw [cut_to, ← List.map_take]
      exact all_flat_str _
    · rw [cut_to, ← List.map_take, inV_strs, decide_eq_false (nodup_take r3 hi)]
      walk_at "rd"
      exact hN _ _ ⟨_, _, rfl, (sT.trans s2).trans (Same.new hL)⟩
  · rintro σ H' ⟨v, w, rfl, s⟩
    exact q H' s
def sp_want_ends (K : PySem.W.Frag) : Sp := fun vs H Q _ => ∃ (a : Addr) (rs : List Str) (x y : Str) (z : V), vs = [.ref a, .str x, .str y, z] ∧ SqL K H a (rs.map V.str) ∧ x ∈ rs ∧ y ∈ rs ∧ x ≠ y ∧ Q .non H
def t_want_ends (K : PySem.W.Frag) : TS := tSeq (tIfS (tTest (tOp (rIn K true) (tVar 1) (tVar 0))) tNever tNext)
  (tSeq (tIfS (tTest (tOp (rIn K true) (tVar 2) (tVar 0))) tNever tNext)
  (tIfS (tTest (tOp rEq (tVar 1) (tVar 2))) tNever tNext))
theorem len_want_ends (h : sp_want_ends K vs H Q E) : vs.length = 4 := by
  obtain ⟨a, rs, x, y, z, rfl, _⟩ := h
  rfl
theorem rd_want_ends (h : sp_want_ends K vs H Q E) : t_want_ends K (En Q) (st0' 4 vs) H := by
  obtain ⟨a, rs, x, y, z, rfl, ha, hx, hy, hne, q⟩ := h
  unfold t_want_ends st0'
  walk_at "rd"
  refine ⟨_, .inl ha, rfl, all_flat_str rs, ?_⟩
  rw [inV_strs, decide_eq_true hx]
  walk_at "rd"
  refine ⟨_, .inl ha, rfl, all_flat_str rs, ?_⟩
  rw [inV_strs, decide_eq_true hy]
  walk_at "rd"
  refine ⟨rfl, ?_⟩
  rw [decide_eq_false hne]
  walk_at "rd"
  exact q
def sp_want_range (K : PySem.W.Frag) : Sp := fun vs H Q _ => ∃ (lo hi : Int) (z : V), vs = [.int lo, .int hi, z] ∧ -99 ≤ lo ∧ lo ≤ hi ∧ hi ≤ 99 ∧ Q .non H
def t_want_range (K : PySem.W.Frag) : TS := tSeq (tIfS (tNot (tB (tF (sp_is_bound K) E0 (tCons (tVar 0) tNil)))) tNever tNext)
  (tSeq (tIfS (tNot (tB (tF (sp_is_bound K) E0 (tCons (tVar 1) tNil)))) tNever tNext)
  (tIfS (tTest (tOp (rI0 fun i j => .bl (decide (j < i))) (tVar 0) (tVar 1))) tNever tNext))
theorem len_want_range (h : sp_want_range K vs H Q E) : vs.length = 3 := by
  obtain ⟨lo, hi, z, rfl, _⟩ := h
  rfl
theorem rd_want_range (h : sp_want_range K vs H Q E) : t_want_range K (En Q) (st0' 3 vs) H := by
  obtain ⟨lo, hi, z, rfl, h1, h2, h3, q⟩ := h
  unfold t_want_range st0'
  walk_at "rd"
  refine ⟨_, rfl, .inl ⟨lo, rfl, ?_⟩⟩
  rw [decide_eq_true h1, decide_eq_true (by omega : lo ≤ 99)]
  walk_at "rd"
  refine ⟨_, rfl, .inl ⟨hi, rfl, ?_⟩⟩
  rw [decide_eq_true (by omega : -99 ≤ hi), decide_eq_true h3]
  walk_at "rd"
  rw [decide_eq_false (by omega : ¬ hi < lo)]
  walk_at "rd"
  exact q
def sp_want_doors (K : PySem.W.Frag) : Sp := fun vs H Q _ => ∃ (a b : Addr) (rs : List Str) (as : List Addr) (ds : List Door), vs = [.ref a, .ref b] ∧ SqL K H a (rs.map V.str) ∧ SqL K H b (as.map V.ref) ∧ Paired (DoorAt H) as ds ∧ DoorsOk rs ds ∧ ∀ H', Same H H' → Q .non H'
def t_want_doors (K : PySem.W.Frag) : TS := tSeq (tIfS (tNot (tB (tF (sp_is_row K) E0 (tCons (tVar 1) (tCons (tC (.int 0)) (tCons (tC (.int 12)) tNil)))))) tNever tNext)
  (tFor (iEnum K (tCons (tVar 1) tNil)) (gTup K 2 (gCons (gName 2) (gCons (gName 3) gNil))) (tSeq (tIfS (tOr (tNot (tB (tCB (rIsi K) (tCons (tVar 3) (tCons (tC (.ty "tuple")) tNil))))) (tTest (tOp rNe (tCB (rLenSeq K) (tCons (tVar 3) tNil)) (tC (.int 4))))) tNever tNext)
  (tSeq (tAsg (tVar 3) (gTup K 4 (gCons (gName 4) (gCons (gName 5) (gCons (gName 6) (gCons (gName 7) gNil))))))
  (tSeq (tDrop (tF (sp_want_ends K) E0 (tCons (tVar 0) (tCons (tVar 4) (tCons (tVar 5) (tCons (tCB rStrInt (tCons (tVar 2) tNil)) tNil))))))
  (tDrop (tF (sp_want_range K) E0 (tCons (tVar 6) (tCons (tVar 7) (tCons (tCB rStrInt (tCons (tVar 2) tNil)) tNil)))))))))
theorem len_want_doors (h : sp_want_doors K vs H Q E) : vs.length = 2 := by
  obtain ⟨a, b, rs, as, ds, rfl, _⟩ := h
  rfl
theorem rd_want_doors (h : sp_want_doors K vs H Q E) : t_want_doors K (En Q) (st0' 8 vs) H := by
  obtain ⟨a, b, rs, as, ds, rfl, ha, hb, hp, hD, q⟩ := h
  unfold t_want_doors st0'
  walk_at "rd"
  obtain ⟨d1, d2⟩ := id hD
  have hl : as.length = ds.length := Paired.length hp
  refine ⟨.ref b, 0, 12, rfl, .inl ⟨b, _, rfl, hb, ?_⟩⟩
  rw [List.length_map, decide_eq_true (by omega : (0 : Int) ≤ as.length), decide_eq_true (by omega : (as.length : Int) ≤ 12)]
  walk_at "rd"
  refine ⟨⟨_, hb⟩, ?_⟩
  refine f_it (walk_enum (xs := as.map V.ref)) (fun i σ H' => ∃ v2 v3 v4 v5 v6 v7, σ = [some (.ref a), some (.ref b), v2, v3, v4, v5, v6, v7] ∧ Same H H') ⟨none, none, none, none, none, none, rfl, Same.refl H⟩ (fun i σ H' _ ⟨_, _, _, _, _, _, _, s⟩ => s.seq hb) ?_ ?_
  · rintro i x σ H1 H1' N hi ⟨v2, v3, v4, v5, v6, v7, rfl, s⟩ ⟨T, x1, x2, rfl, hT, rfl, e1, e2⟩ hN
    cases Option.some.inj e1
    rw [List.length_map] at hi
    have hi2 : (as.map V.ref)[i]? = some (.ref as[i]) := get_map (List.getElem?_eq_getElem hi)
    cases Option.some.inj (hi2.symm.trans e2)
    obtain ⟨d, hd, hda⟩ := paired_get' hp (List.getElem?_eq_getElem hi)
    obtain ⟨k1, k2, k3, k4, k5, k6⟩ := d2 d (List.mem_of_getElem? hd)
    have sT : Same H (upd H1 T (.tup [.int i, .ref as[i]])) := s.trans (Same.new hT)
    have hda' : DoorAt (upd H1 T (.tup [.int i, .ref as[i]])) as[i] d := sT _ _ hda
    walk_at "rd"
    refine ⟨_, SqT.of upd_same, rfl, _, _, rfl, _, _, rfl, rfl, _, _, .ty _, .base (.tup hda'), true, kit_ty (by decide +kernel), ?_⟩
    walk_at "rd"
    refine ⟨_, .inr (SqT.of hda'), rfl, ?_⟩
    rw [show ((d.vs.length : Nat) : Int) = 4 from rfl, decide_eq_true rfl]
    walk_at "rd"
    have il : (i : Int).natAbs.log2 < 1920 := by
      have : i < 2 ^ 11 := by omega
      by_cases z : i = 0
      · subst z
        decide
      · rw [Int.natAbs_natCast]
        exact Nat.lt_trans ((Nat.log2_lt z).mpr this) (by decide)
    refine ⟨_, SqT.of hda', rfl, _, _, rfl, _, _, rfl, _, _, rfl, _, _, rfl, rfl, il, ?_⟩
    refine ⟨a, rs, _, _, _, rfl, sT.seq ha, k1, k2, k3, il, ?_⟩
    refine ⟨_, _, _, rfl, k4, k5, k6, hN _ _ ⟨_, _, _, _, _, _, rfl, sT⟩⟩
  · rintro σ H' ⟨_, _, _, _, _, _, rfl, s⟩
    exact q H' s
def sp_PlanI (K : PySem.W.Frag) : Sp := fun vs H Q _ => ∃ (F : Hp) (p dx a b : Addr) (pl : Pl) (as : List Addr), vs = [.ref p, .ref a, .ref b] ∧ Same F H ∧ F p = none ∧ H p = some (.ins (He.ga K "Plan") dx []) ∧ SqL K H a (pl.rs.map V.str) ∧ SqL K H b (as.map V.ref) ∧ Paired (DoorAt F) as pl.ds ∧ PlanOk pl ∧
  PlC K ∧
  ∀ (nt gt : Addr) (F' H' : Hp), Go (M1 p) F H F' H' → F' p = none → H' p = some (.ins (He.ga K "Plan") dx (planFs nt gt)) → F' nt = some (.tup (pl.rs.map V.str)) → F' gt = some (.tup (as.map V.ref)) → Q .non H'
def t_PlanI (K : PySem.W.Frag) : TS := tSeq (tDrop (tF (sp_want_rooms K) E0 (tCons (tVar 1) tNil)))
  (tSeq (tDrop (tF (sp_want_doors K) E0 (tCons (tVar 1) (tCons (tVar 2) tNil))))
  (tSeq (sFld K (tVar 0) (tCB (rTupL K) (tCons (tVar 1) tNil)) "named")
  (sFld K (tVar 0) (tCB (rTupL K) (tCons (tVar 2) tNil)) "gates")))
theorem len_PlanI (h : sp_PlanI K vs H Q E) : vs.length = 3 := by
  obtain ⟨F, p, dx, a, b, pl, as, rfl, _⟩ := h
  rfl
theorem rd_PlanI (h : sp_PlanI K vs H Q E) : t_PlanI K (En Q) (st0' 3 vs) H := by
  obtain ⟨F, p, dx, a, b, pl, as, rfl, hS, hF, hp, ha, hb, hpd, hok, C, q⟩ := h
  unfold t_PlanI st0'
  walk_at "rd"
  refine ⟨a, _, rfl, ha, hok.1, fun H1 s1 => ?_⟩
  have hpd1 : Paired (DoorAt H1) as pl.ds := paired_door (hS.trans s1) hpd
  refine ⟨a, b, _, as, _, rfl, s1.seq ha, s1.seq hb, hpd1, hok.2, fun H2 s2 => ?_⟩
  have s12 := s1.trans s2
  refine ⟨_, s12.seq ha, fun nt hnt => ?_⟩
  have g0 : Go (M1 p) F H F H2 := ⟨fun _ _ h => h, hS.trans s12, fun _ _ _ h => s12 _ _ h, fun _ h _ => h, fun b h z => by
    cases e : H b with
    | none => exact h e
    | some o =>
      rw [s12 _ _ e] at z
      cases z⟩
  have hp2 := s12 _ _ hp
  have npn : p ≠ nt := ne_of_none hp2 hnt
  have g1 := g0.new (o := .tup (pl.rs.map V.str)) hnt
  have fp1 : (upd F nt (.tup (pl.rs.map V.str))) p = none := by
    rw [upd_ne npn]
    exact hF
  have hp3 : (upd H2 nt (.tup (pl.rs.map V.str))) p = some (.ins (He.ga K "Plan") dx []) := by
    rw [upd_ne npn]
    exact hp2
  refine ⟨_, _, _, hp3, C.cl, C.n1, (by show 0 < 1000; decide), as.map V.ref, ?_, fun gt hgt => ?_⟩
  · rcases hb with (hb | ⟨o, hb⟩) | hb
    · have e := s12 _ _ hb
      exact .inl (.inl (by rw [upd_ne (ne_of e hp2 (by intro z; cases z)), upd_ne (ne_of_none e hnt)]; exact e))
    · have e := s12 _ _ hb
      exact .inl (.inr ⟨o, by rw [upd_ne (ne_of e hp2 (by intro z; cases z)), upd_ne (ne_of_none e hnt)]; exact e⟩)
    · exact .inr hb
  · have g2 := g1.mut (o := .ins (He.ga K "Plan") dx (putF "named" (.ref nt) [])) rfl fp1
    have npg : p ≠ gt := fun e => by
      rw [← e, upd_same] at hgt
      cases hgt
    have g3 := g2.new (o := .tup (as.map V.ref)) hgt
    have fp2 : (upd (upd F nt (.tup (pl.rs.map V.str))) gt (.tup (as.map V.ref))) p = none := by
      rw [upd_ne npg]
      exact fp1
    have ngn : nt ≠ gt := fun e => by
      rw [← e, upd_ne npn.symm, upd_same] at hgt
      cases hgt
    refine ⟨_, _, _, by rw [upd_ne npg, upd_same], C.cl, C.n2, (by show 1 < 1000; decide), ?_⟩
    refine q nt gt _ _ (g3.mut rfl fp2) fp2 ?_ ?_ upd_same
    · rw [upd_same]
      rfl
    · rw [upd_ne ngn, upd_same]
def sp_PlanRooms (K : PySem.W.Frag) : Sp := fun vs H Q _ => ∃ (p : Addr) (pl : Pl), vs = [.ref p] ∧ PlC K ∧ PlanAt K H p pl ∧ ∀ L, H L = none → Q (.ref L) (upd H L (.lst (pl.rs.map V.str)))
def t_PlanRooms (K : PySem.W.Frag) : TS := tRet (tCB (rListOf K) (tCons (tFld K (tVar 0) "named") tNil))
theorem len_PlanRooms (h : sp_PlanRooms K vs H Q E) : vs.length = 1 := by
  obtain ⟨p, pl, rfl, _⟩ := h
  rfl
theorem rd_PlanRooms (h : sp_PlanRooms K vs H Q E) : t_PlanRooms K (En Q) (st0' 1 vs) H := by
  obtain ⟨p, pl, rfl, C, ⟨dx, nt, gt, as, h1, h2, h3, h4⟩, q⟩ := h
  unfold t_PlanRooms st0'
  walk_at "rd"
  exact ⟨_, _, _, h1, C.cl, C.n1, _, rfl, nt, rfl, _, .inr (SqT.of h2), q⟩
def sp_PlanDoors (K : PySem.W.Frag) : Sp := fun vs H Q _ => ∃ (F : Hp) (p : Addr) (pl : Pl), vs = [.ref p] ∧ PlC K ∧ Same F H ∧ PlanAt K F p pl ∧ ∀ (L : Addr) (as : List Addr), H L = none → Paired (DoorAt F) as pl.ds → Q (.ref L) (upd H L (.lst (as.map V.ref)))
def t_PlanDoors (K : PySem.W.Frag) : TS := tRet (tCB (rListOf K) (tCons (tFld K (tVar 0) "gates") tNil))
theorem len_PlanDoors (h : sp_PlanDoors K vs H Q E) : vs.length = 1 := by
  obtain ⟨F, p, pl, rfl, _⟩ := h
  rfl
theorem rd_PlanDoors (h : sp_PlanDoors K vs H Q E) : t_PlanDoors K (En Q) (st0' 1 vs) H := by
  obtain ⟨F, p, pl, rfl, C, s, ⟨dx, nt, gt, as, h1, h2, h3, h4⟩, q⟩ := h
  unfold t_PlanDoors st0'
  walk_at "rd"
  exact ⟨_, _, _, s _ _ h1, C.cl, C.n2, _, rfl, gt, rfl, _, .inr (SqT.of (s _ _ h3)), fun L hL => q L as hL h4⟩
def sp_PlanLen (K : PySem.W.Frag) : Sp := fun vs H Q _ => ∃ (p : Addr) (pl : Pl), vs = [.ref p] ∧ PlC K ∧ PlanAt K H p pl ∧ Q (.int pl.ds.length) H
def t_PlanLen (K : PySem.W.Frag) : TS := tRet (tCB (rLenSeq K) (tCons (tFld K (tVar 0) "gates") tNil))
theorem len_PlanLen (h : sp_PlanLen K vs H Q E) : vs.length = 1 := by
  obtain ⟨p, pl, rfl, _⟩ := h
  rfl
theorem rd_PlanLen (h : sp_PlanLen K vs H Q E) : t_PlanLen K (En Q) (st0' 1 vs) H := by
  obtain ⟨p, pl, rfl, C, ⟨dx, nt, gt, as, h1, h2, h3, h4⟩, q⟩ := h
  unfold t_PlanLen st0'
  walk_at "rd"
  refine ⟨_, _, _, h1, C.cl, C.n2, _, rfl, gt, rfl, _, .inr (SqT.of h3), ?_⟩
  rw [List.length_map, Paired.length h4]
  exact q
/-- Plan(a, b): what a maker wants -/
theorem mk_plan {R : Addr → Hp → Prop} {F H : Hp} {a b : Addr} {pl : Pl} {as : List Addr} {M : Addr → Prop} (C : PlC K) (hS : Same F H) (ha : SqL K H a (pl.rs.map V.str)) (hb : SqL K H b (as.map V.ref)) (hpd : Paired (DoorAt F) as pl.ds) (ok : PlanOk pl)
    (k : ∀ x F' H', Go M F H F' H' → PlanAt K F' x pl → H x = none → R x H') :
    ∀ x dx, H x = none → H dx = none → dx ≠ x → sp_PlanI K [.ref x, .ref a, .ref b] (upd (upd H dx (.own x)) x (.ins (He.ga K "Plan") dx [])) (fun v H2 => v = .non ∧ R x H2) E := by
  intro x dx hx hdx hne
  have h1 : (upd H dx (.own x)) x = none := by
    rw [upd_ne hne.symm]
    exact hx
  have g0 := ((Go.refl (M := M1 x) hS).tmp (o := .own x) hdx).tmp (o := .ins (He.ga K "Plan") dx []) h1
  have s0 : Same H (upd (upd H dx (.own x)) x (.ins (He.ga K "Plan") dx [])) := (Same.new hdx).trans (Same.new h1)
  have fx : F x = none := Same.free hS hx
  refine ⟨F, x, dx, a, b, pl, as, rfl, g0.fh, fx, upd_same, s0.seq ha, s0.seq hb, hpd, ok, C, fun nt gt F' H' g f e e1 e2 => ⟨rfl, ?_⟩⟩
  have g1 := g0.trans g
  have g2 : Go M F H F' H' := ⟨g1.ff, g1.fh, fun c o _ z => g1.hh c o (fun m => ne_of_none z hx m) z, g1.oo, g1.th⟩
  have sF : Same F' (upd F' x (.ins (He.ga K "Plan") dx (planFs nt gt))) := Same.new f
  refine k x _ H' (g2.fin hx f e) ⟨dx, nt, gt, as, upd_same, sF _ _ e1, sF _ _ e2, paired_door (fun c o z => sF _ _ (g1.ff c o z)) hpd⟩ hx
theorem PlanAt.ins {p : Addr} {pl : Pl} (h : PlanAt K H p pl) : ∃ dx nt gt, H p = some (.ins (He.ga K "Plan") dx (planFs nt gt)) := by
  obtain ⟨dx, nt, gt, as, h1, _⟩ := h
  exact ⟨dx, nt, gt, h1⟩
theorem planNo {m : Str} (nt gt : Addr) (h1 : (m == ("named" : Str)) = false) (h2 : (m == ("gates" : Str)) = false) : (planFs nt gt).lookup m = none := by
  unfold planFs
  rw [List.lookup_cons, h1, List.lookup_cons, h2]
  rfl
theorem m_rooms {p : Addr} {pl : Pl} (C : PlC K) (hp : PlanAt K H p pl) (k : ∀ L, H L = none → Q (.ref L) (upd H L (.lst (pl.rs.map V.str)))) :
    ∃ x x_1, H p = some (.ins (He.ga K "Plan") x x_1) ∧ x_1.lookup ("rooms" : Str) = none ∧ sp_PlanRooms K [.ref p] H Q E := by
  obtain ⟨dx, nt, gt, e⟩ := hp.ins
  exact ⟨_, _, e, planNo nt gt (by decide +kernel) (by decide +kernel), p, pl, rfl, C, hp, k⟩
theorem m_doors {p : Addr} {pl : Pl} (C : PlC K) (hp : PlanAt K H p pl) (k : ∀ (L : Addr) (as : List Addr), H L = none → Paired (DoorAt H) as pl.ds → Q (.ref L) (upd H L (.lst (as.map V.ref)))) :
    ∃ x x_1, H p = some (.ins (He.ga K "Plan") x x_1) ∧ x_1.lookup ("doors" : Str) = none ∧ sp_PlanDoors K [.ref p] H Q E := by
  obtain ⟨dx, nt, gt, e⟩ := hp.ins
  exact ⟨_, _, e, planNo nt gt (by decide +kernel) (by decide +kernel), H, p, pl, rfl, C, Same.refl H, hp, k⟩
theorem m_doorsF {F : Hp} {p : Addr} {pl : Pl} (C : PlC K) (hp : PlanAt K F p pl) (s : Same F H) (k : ∀ (L : Addr) (as : List Addr), H L = none → Paired (DoorAt F) as pl.ds → Q (.ref L) (upd H L (.lst (as.map V.ref)))) :
    ∃ x x_1, H p = some (.ins (He.ga K "Plan") x x_1) ∧ x_1.lookup ("doors" : Str) = none ∧ sp_PlanDoors K [.ref p] H Q E := by
  obtain ⟨dx, nt, gt, e⟩ := (hp.go s).ins
  exact ⟨_, _, e, planNo nt gt (by decide +kernel) (by decide +kernel), F, p, pl, rfl, C, s, hp, k⟩
theorem m_len {p : Addr} {pl : Pl} (C : PlC K) (hp : PlanAt K H p pl) (k : Q (.int pl.ds.length) H) :
    (∃ x x_1, H p = some (.ins (He.ga K "Plan") x x_1)) ∧ sp_PlanLen K [.ref p] H Q E := by
  obtain ⟨dx, nt, gt, e⟩ := hp.ins
  exact ⟨⟨_, _, e⟩, p, pl, rfl, C, hp, k⟩
end
end Dc

namespace Dc
open PySem PySem.Spec PyProof.Rows L2
/-! ### what was promised of draws and plans, for mirrors -/
instance : Fz Pl := Fz.mk' (fun K F v pl => PlC K ∧ ∃ p, v = .ref p ∧ PlanAt K F p pl) fun s ⟨c, p, e, h⟩ => ⟨c, p, e, h.go s⟩
instance : Fn Pl := ⟨fun h => by obtain ⟨_, _, e, _⟩ := h; exact ref_nn e⟩
theorem reps_doors {K : PySem.W.Frag} {F : Hp} : ∀ {as : List Addr} {ds : List Door}, Paired (DoorAt F) as ds → Reps K F (as.map V.ref) ds
  | _, _, .nil => .nil
  | _, _, .cons (a := a) r t => .cons ⟨a, rfl, r⟩ (reps_doors t)
theorem doors_reps {K : PySem.W.Frag} {F : Hp} : ∀ {vs : List V} {ds : List Door}, Reps K F vs ds → ∃ as : List Addr, vs = as.map V.ref ∧ Paired (DoorAt F) as ds
  | _, _, .nil => ⟨[], rfl, .nil⟩
  | _, _, .cons r t => by
    obtain ⟨a, rfl, h⟩ := r
    obtain ⟨as, rfl, p⟩ := doors_reps t
    exact ⟨a :: as, rfl, .cons h p⟩
section
variable {C : Ctx} {W : WX} {δx : List Sl} {ρ : Type} {R : Rp ρ} {δ : List Sl} {S T : Type} {t t2 : TS} {te ta tb : TE} {i : Nat} {p : Addr} {F H : Hp} {σ : L2.St}
theorem e_named {m : M Pl} (h : JE C W δ te m) : JE C W δ (tFld C.K te "named") (m.bind fun pl => M.pure (Tof.mk pl.rs)) := fun F H σ Q ok q => h F H σ _ ok (m.mono (fun pl q1 v F1 H1 s1 rp ok1 => by
  obtain ⟨c, p, rfl, dx, nt, gt, as, h1, h2, h3, h4⟩ := rp
  exact ⟨p, _, dx, _, .ref nt, rfl, ok1.same _ _ h1, c.cl, c.n1, rfl, q1 _ F1 H1 s1 ⟨nt, _, rfl, h2, reps_strs pl.rs⟩ ok1⟩) (fun _ z => z) q)
theorem e_gates {m : M Pl} (h : JE C W δ te m) : JE C W δ (tFld C.K te "gates") (m.bind fun pl => M.pure (Tof.mk pl.ds)) := fun F H σ Q ok q => h F H σ _ ok (m.mono (fun pl q1 v F1 H1 s1 rp ok1 => by
  obtain ⟨c, p, rfl, dx, nt, gt, as, h1, h2, h3, h4⟩ := rp
  exact ⟨p, _, dx, _, .ref gt, rfl, ok1.same _ _ h1, c.cl, c.n2, rfl, q1 _ F1 H1 s1 ⟨gt, _, rfl, h3, reps_doors h4⟩ ok1⟩) (fun _ z => z) q)
theorem obj_plan {K : PySem.W.Frag} {mt : Str} (h1 : (mt == ("named" : Str)) = false := by decide +kernel) (h2 : (mt == ("gates" : Str)) = false := by decide +kernel) : Obj K Pl (He.ga K "Plan") mt := fun F v pl rp => by
  obtain ⟨_, p, rfl, hp⟩ := rp
  obtain ⟨dx, nt, gt, e⟩ := hp.ins
  exact ⟨p, dx, _, rfl, e, planNo nt gt h1 h2⟩
def roomsM (pl : Pl) : M (List Str) := M.pure pl.rs
def doorsM (pl : Pl) : M (List Door) := M.pure pl.ds
theorem n_rooms {m : M Pl} (h : JE C W δ te m) : JN C W δ (tM (He.ga C.K "Plan") "rooms" (sp_PlanRooms C.K) E0 te tNil) (m.bind fun pl => M.pure pl.rs) := fun F H σ Q ok q => h F H σ _ ok (m.mono (fun pl q1 v F1 H1 s1 rp ok1 => by
  obtain ⟨c, p, rfl, hp⟩ := rp
  obtain ⟨dx, nt, gt, e⟩ := hp.ins
  exact ⟨p, dx, _, rfl, ok1.same _ _ e, planNo nt gt (by decide +kernel) (by decide +kernel), p, pl, rfl, c, hp.go ok1.same, fun L hL => q1 L _ F1 H1 s1 ok1 hL (reps_strs pl.rs)⟩) (fun _ z => z) q)
theorem n_doors {m : M Pl} (h : JE C W δ te m) : JN C W δ (tM (He.ga C.K "Plan") "doors" (sp_PlanDoors C.K) E0 te tNil) (m.bind fun pl => M.pure pl.ds) := fun F H σ Q ok q => h F H σ _ ok (m.mono (fun pl q1 v F1 H1 s1 rp ok1 => by
  obtain ⟨c, p, rfl, hp⟩ := rp
  obtain ⟨dx, nt, gt, e⟩ := hp.ins
  exact ⟨p, dx, _, rfl, ok1.same _ _ e, planNo nt gt (by decide +kernel) (by decide +kernel), F1, p, pl, rfl, c, ok1.same, hp, fun L as hL ha => q1 L _ F1 H1 s1 ok1 hL (reps_doors ha)⟩) (fun _ z => z) q)
theorem e_lenP {m : M Pl} (h : JE C W δ te m) : JE C W δ (tCB (rLenO (He.ga C.K "Plan") (sp_PlanLen C.K) E0) (tCons te tNil)) (m.bind fun pl => M.need (pl.ds.length < 2 ^ 62) (M.pure (pl.ds.length : Int))) := fun F H σ Q ok q => h F H σ _ ok (m.mono (fun pl q1 v F1 H1 s1 rp ok1 => by
  obtain ⟨c, p, rfl, hp⟩ := rp
  obtain ⟨dx, nt, gt, e⟩ := hp.ins
  exact ⟨p, dx, _, rfl, ok1.same _ _ e, p, pl, rfl, c, hp.go ok1.same, _, rfl, q1.1, q1.2 _ F1 H1 s1 rfl ok1⟩) (fun _ z => z) q)
/-- Plan(rooms, doors), where it is one -/
def planM (rs : List Str) (ds : List Door) : M Pl := M.need (PlanOk ⟨rs, ds⟩) (M.pure ⟨rs, ds⟩)
theorem e_plan {ma : M (List Str)} {mb : M (List Door)} (c : PlC C.K) (ha : JE C W δ ta ma) (hb : JE C W δ tb mb) : JE C W δ (tMk (He.ga C.K "Plan") (sp_PlanI C.K) E0 (tCons ta (tCons tb tNil))) (ma.bind fun rs => mb.bind fun ds => planM rs ds) := fun F H σ Q ok q =>
  ha F H σ _ ok (ma.mono (fun rs q1 v F1 H1 s1 r1 ok1 => hb F1 H1 σ _ ok1 (mb.mono (fun ds q2 w F2 H2 s2 r2 ok2 => by
    obtain ⟨l1, vs1, rfl, e1, rr1⟩ := Fz.mono s2 r1
    obtain ⟨l2, vs2, rfl, e2, rr2⟩ := r2
    obtain ⟨as, rfl, pd⟩ := doors_reps rr2
    have ev := strs_ rr1
    subst ev
    refine mk_plan (pl := ⟨rs, ds⟩) (as := as) (M := M0) c ok2.same (SqL.of (ok2.same _ _ e1)) (SqL.of (ok2.same _ _ e2)) pd q2.1 ?_
    intro x F' H' g hp _
    exact q2.2 _ F' H' ((s1.trans s2).trans g.ff) ⟨c, x, rfl, hp⟩ (ok2.step g)) (fun e z => EW.mono s1 z) q1)) (fun _ z => z) q)
theorem e_planH {t : TA} {mm : M (List Str × List Door × Unit)} (c : PlC C.K) (h : JH C W δ (Ag.cons (List Str) (Ag.cons (List Door) Ag.nil)) t mm) : JE C W δ (tMk (He.ga C.K "Plan") (sp_PlanI C.K) E0 t) (mm.bind fun z => planM z.1 z.2.1) := fun F H σ Q ok q =>
  h F H σ _ ok (mm.mono (fun z q2 vs F2 H2 s2 rp ok2 => by
    obtain ⟨v, _, rfl, r1, w, _, rfl, r2, rfl⟩ := rp
    obtain ⟨rs, ds, ⟨⟩⟩ := z
    obtain ⟨l1, vs1, rfl, e1, rr1⟩ := r1
    obtain ⟨l2, vs2, rfl, e2, rr2⟩ := r2
    obtain ⟨as, rfl, pd⟩ := doors_reps rr2
    have ev := strs_ rr1
    subst ev
    refine mk_plan (pl := ⟨rs, ds⟩) (as := as) (M := M0) c ok2.same (SqL.of (ok2.same _ _ e1)) (SqL.of (ok2.same _ _ e2)) pd q2.1 ?_
    intro x F' H' g hp _
    exact q2.2 _ F' H' (s2.trans g.ff) ⟨c, x, rfl, hp⟩ (ok2.step g)) (fun _ z => z) q)
/-! draws -/
theorem e_take {mn : M Int} (h : JE C W δ te mn) (hp : δ[i]? = some (.pt p) := by rfl) : JE C W δ (tF (sp_take C.K) E0 (tCons (tVar i) (tCons te tNil))) (mn.bind fun n => drawM n) := fun F H σ Q ok q => ⟨.ref p, (pot_at ok hp).1, h F H σ _ ok (mn.mono (fun n q1 v F1 H1 s1 rp ok1 => by
  cases rp
  obtain ⟨_, f, t⟩ := pot_at ok1 hp
  exact ⟨F1, p, n, rfl, ok1.same, f, t, q1.1.1, q1.1.2, fun d H' h0 h1 g t' => q1.2 d ⟨h0, h1⟩ _ F1 H' (s1.trans g.ff) rfl (ok1.drawn hp g t')⟩) (fun _ z => z) q)⟩
/-- a new name -/
def nameM (ts : List Str) : M Str := M.need (ts.length < 26) (M.any fun x => IsName x ∧ x ∉ ts)
theorem e_name {mt : M (List Str)} (h : JE C W δ te mt) (hp : δ[i]? = some (.pt p) := by rfl) : JE C W δ (tF (sp_name C.K) E0 (tCons (tVar i) (tCons te tNil))) (mt.bind fun ts => nameM ts) := fun F H σ Q ok q => ⟨.ref p, (pot_at ok hp).1, h F H σ _ ok (mt.mono (fun ts q1 v F1 H1 s1 rp ok1 => by
  obtain ⟨l, vs, rfl, e, r⟩ := rp
  obtain ⟨_, f, t⟩ := pot_at ok1 hp
  exact ⟨F1, p, l, ts, rfl, ok1.same, f, t, SqL.of (by rw [e, strs_ r]), q1.1, fun x H' h0 h1 g t' => q1.2 x ⟨h0, h1⟩ _ F1 H' (s1.trans g.ff) rfl (ok1.drawn hp g t')⟩) (fun _ z => z) q)⟩
def namesM (n : Int) (ts : List Str) : M (List Str) := M.need (0 ≤ n ∧ (ts.length : Int) + n < 26) (M.any fun xs => (xs.length : Int) = n ∧ xs.Nodup ∧ ∀ x ∈ xs, IsName x ∧ x ∉ ts)
theorem e_names {mn : M Int} {mt : M (List Str)} (hn : JE C W δ ta mn) (h : JE C W δ te mt) (hp : δ[i]? = some (.pt p) := by rfl) : JE C W δ (tF (sp_names C.K) E0 (tCons (tVar i) (tCons ta (tCons te tNil)))) (mn.bind fun n => mt.bind fun ts => namesM n ts) := fun F H σ Q ok q => ⟨.ref p, (pot_at ok hp).1, hn F H σ _ ok (mn.mono (fun n q0 u F0 H0 s0 r0 ok0 => h F0 H0 σ _ ok0 (mt.mono (fun ts q1 v F1 H1 s1 rp ok1 => by
  cases r0
  obtain ⟨l, vs, rfl, e, r⟩ := rp
  obtain ⟨_, f, t⟩ := pot_at ok1 hp
  obtain ⟨⟨h0, h1⟩, q1⟩ := q1
  refine ⟨F1, p, l, ts, n.toNat, by rw [show ((n.toNat : Nat) : Int) = n by omega], ok1.same, f, t, by rw [e, strs_ r], by omega, fun L xs F' H' hl nd hx g e' _ t' => q1 xs ⟨by omega, nd, hx⟩ _ F' H' ((s0.trans s1).trans g.ff) ⟨L, _, rfl, e', reps_strs xs⟩ (ok1.drawn hp g t')⟩) (fun e z => EW.mono s0 z) q0)) (fun _ z => z) q)⟩
def drawnDoor (rs : List Str) (wd : Int) (b : Bool) (d : Door) : Prop := DoorOk rs d ∧ -wd ≤ d.lo ∧ d.hi ≤ wd ∧ (b = true → d.lo ≤ 0 ∧ 0 ≤ d.hi)
def doorM (rs : List Str) (wd : Int) (b : Bool) : M Door := M.need (rs.Nodup ∧ 2 ≤ rs.length ∧ rs.length ≤ 8 ∧ 1 ≤ wd ∧ wd ≤ 99) (M.any fun d => drawnDoor rs wd b d)
theorem e_drawDoor {mr : M (List Str)} {mw : M Int} {mb : M Bool} (hr : JE C W δ te mr) (hw : JE C W δ ta mw) (hb : JE C W δ tb mb) (hp : δ[i]? = some (.pt p) := by rfl) : JE C W δ (tF (sp_door C.K) E0 (tCons (tVar i) (tCons te (tCons ta (tCons tb tNil))))) (mr.bind fun rs => mw.bind fun w => mb.bind fun b => doorM rs w b) := fun F H σ Q ok q => ⟨.ref p, (pot_at ok hp).1, hr F H σ _ ok (mr.mono (fun rs q1 v F1 H1 s1 r1 ok1 => hw F1 H1 σ _ ok1 (mw.mono (fun w q2 u F2 H2 s2 r2 ok2 => hb F2 H2 σ _ ok2 (mb.mono (fun b q3 x F3 H3 s3 r3 ok3 => by
  cases r2
  cases r3
  obtain ⟨l, vs, rfl, e, r⟩ := Fz.mono (s2.trans s3) r1
  obtain ⟨_, f, t⟩ := pot_at ok3 hp
  obtain ⟨⟨h0, h1, h2, h3, h4⟩, q3⟩ := q3
  refine ⟨F3, p, l, rs, w, b, rfl, ok3.same, f, t, by rw [e, strs_ r], h0, h1, h2, h3, h4, fun tt d F' H' d1 d2 d3 d4 g e' t' => q3 d ⟨d1, d2, d3, d4⟩ _ F' H' (((s1.trans s2).trans s3).trans g.ff) ⟨tt, rfl, e'⟩ (ok3.drawn hp g t')⟩) (fun e z => EW.mono (s1.trans s2) z) q2)) (fun e z => EW.mono s1 z) q1)) (fun _ z => z) q)⟩
def doorsOf (rs : List Str) (n : Int) (b : Bool) (ds : List Door) : Prop := DoorsOk rs ds ∧ (rs.length < 2 → ds = []) ∧ (2 ≤ rs.length → (ds.length : Int) = n) ∧ (b = true → ∀ d ∈ ds, d.lo ≤ 0 ∧ 0 ≤ d.hi) ∧ ∀ d ∈ ds, -wdMax ≤ d.lo ∧ d.hi ≤ wdMax
def drawDoors (rs : List Str) (n : Int) (b : Bool) : M (List Door) := M.need (RoomsOk rs ∧ 0 ≤ n ∧ n ≤ 12) (M.any fun ds => doorsOf rs n b ds)
theorem e_drawDoors {mr : M (List Str)} {mn : M Int} {mb : M Bool} (hr : JE C W δ te mr) (hw : JE C W δ ta mn) (hb : JE C W δ tb mb) (hp : δ[i]? = some (.pt p) := by rfl) : JE C W δ (tF (sp_doors C.K) E0 (tCons (tVar i) (tCons te (tCons ta (tCons tb tNil))))) (mr.bind fun rs => mn.bind fun n => mb.bind fun b => drawDoors rs n b) := fun F H σ Q ok q => ⟨.ref p, (pot_at ok hp).1, hr F H σ _ ok (mr.mono (fun rs q1 v F1 H1 s1 r1 ok1 => hw F1 H1 σ _ ok1 (mn.mono (fun n q2 u F2 H2 s2 r2 ok2 => hb F2 H2 σ _ ok2 (mb.mono (fun b q3 x F3 H3 s3 r3 ok3 => by
  cases r2
  cases r3
  obtain ⟨l, vs, rfl, e, r⟩ := Fz.mono (s2.trans s3) r1
  obtain ⟨_, f, t⟩ := pot_at ok3 hp
  obtain ⟨⟨h0, h1, h2⟩, q3⟩ := q3
  refine ⟨F3, p, l, rs, n.toNat, b, by rw [show ((n.toNat : Nat) : Int) = n by omega], ok3.same, f, t, by rw [e, strs_ r], h0, by omega, fun L ds F' H' d1 d2 d3 d4 d5 g e' _ t' => ?_⟩
  obtain ⟨as, e1, pd⟩ := e'
  exact q3 ds ⟨d1, d2, fun z => by have := d3 z; omega, d4, d5⟩ _ F' H' (((s1.trans s2).trans s3).trans g.ff) ⟨L, _, rfl, e1, reps_doors pd⟩ (ok3.drawn hp g t')) (fun e z => EW.mono (s1.trans s2) z) q2)) (fun e z => EW.mono s1 z) q1)) (fun _ z => z) q)⟩
def wideM : M Int := M.any fun d => 1 ≤ d ∧ d ≤ wdMax
theorem e_wide (hp : δ[i]? = some (.pt p) := by rfl) : JE C W δ (tF (sp_wide C.K) E0 (tCons (tVar i) tNil)) wideM := fun F H σ Q ok q => by
  obtain ⟨e, f, t⟩ := pot_at ok hp
  exact ⟨.ref p, e, F, p, rfl, ok.same, f, t, fun d H' h0 h1 g t' => q d ⟨h0, h1⟩ _ F H' g.ff rfl (ok.drawn hp g t')⟩
/-- one to eight rooms, none to twelve doors -/
def listsM : M (List Str × List Door) := M.any fun x => RoomsOk x.1 ∧ DoorsOk x.1 x.2
theorem e_lists (hp : δ[i]? = some (.pt p) := by rfl) : JE C W δ (tF (sp_lists C.K) E0 (tCons (tVar i) tNil)) listsM := fun F H σ Q ok q => by
  obtain ⟨e, f, t⟩ := pot_at ok hp
  refine ⟨.ref p, e, F, p, rfl, ok.same, f, t, fun tt L1 L2 rs ds F' H' h0 h1 g e1 e2 ⟨as, e3, pd⟩ t' => q (rs, ds) ⟨h0, h1⟩ _ F' H' g.ff ⟨tt, _, _, rfl, e1, ⟨L1, _, rfl, e2, reps_strs rs⟩, L2, _, rfl, e3, reps_doors pd⟩ (ok.drawn hp g t')⟩
/-- f(pot(script, k)) -/
theorem o_pot {A : Prop} {f : M ρ} {s : Scr} {mk : M Int} (hA : A) (hk : JE C W δ te mk) (hs : δ[i]? = some (.fz s) := by rfl) : JO C W δ R (tF (SpP0 A R f C.K) E0 (tCons (tF (sp_pot C.K) E0 (tCons (tVar i) (tCons te tNil))) tNil)) (mk.bind fun k => M.need (0 ≤ k ∧ k < 64) f.nx) := fun F H σ Q ok q => by
  refine e_var (W := W) hs F H σ _ ok fun v F0 H0 s0 rv ok0 => hk F0 H0 σ _ ok0 (mk.mono (fun k q1 u F1 H1 s1 rp ok1 => ?_) (fun e z => EW.mono s0 z) q)
  cases rp
  obtain ⟨a, rfl, hl⟩ := Fz.mono s1 rv
  refine ⟨F1, a, s.l, k, rfl, ok1.same, hl, q1.1.1, q1.1.2, fun p H' g hp t => ?_⟩
  have g0 : Go M0 F1 H1 F1 H' := g
  have ok2 := ok1.step g0
  have fp : F1 p = none := Same.free ok1.same hp
  refine ⟨hA, F1, p, rfl, ok2.same, fp, t, f.mono (fun r q2 v F' H2 A2 g2 _ rr fr => ?_) (fun e z => z.elim) q1.2⟩
  have g3 : Go M0 F1 H1 F' H2 := by
    have gg := g0.wide (M' := M1 p) (fun _ z => False.elim z) |>.trans g2
    exact ⟨gg.ff, gg.fh, fun b o _ e => gg.hh b o (fun z => by rw [show b = p from z, hp] at e; cases e) e, gg.oo, gg.th⟩
  refine q2 v F' H2 ((s0.trans s1).trans g3.ff) (ok1.push g3 rr fun x m => ⟨(fr x m).1, ?_⟩)
  cases hx : H1 x with
  | none => rfl
  | some o =>
    have := g0.hh x o m0 hx
    rw [(fr x m).2] at this
    cases this
end
end Dc

namespace Dc
open PySem PySem.Spec PyProof.Rows L2
/-! ### any thing, handed to what was read before -/
def wholeM (u : U) (lo hi : Int) : M Bool := match u with
  | .int i => M.pure (decide (lo ≤ i) && decide (i ≤ hi))
  | .ob _ _ => M.bad
  | _ => M.pure false
theorem notTy_of {K : PySem.W.Frag} {H : Hp} {v : V} {u : U} {T : String} (hT : T = "int" ∨ T = "bool" ∨ T = "str" ∨ T = "list" ∨ T = "tuple" ∨ T = "dict") (h : URep K H v u) (e : u.is T = some false) : NotTy K H v T := kit_is hT h e
section
variable {C : Ctx} {W : WX} {δ : List Sl} {ta tb tc : TE}
theorem e_whole {m : M U} {mlo mhi : M Int} (ha : JE C W δ ta m) (hb : JE C W δ tb mlo) (hc : JE C W δ tc mhi) : JE C W δ (tF (sp_is_whole C.K) E0 (tCons ta (tCons tb (tCons tc tNil)))) (m.bind fun u => mlo.bind fun lo => mhi.bind fun hi => wholeM u lo hi) := fun F H σ Q ok q =>
  ha F H σ _ ok (m.mono (fun u q1 v F1 H1 s1 r1 ok1 => hb F1 H1 σ _ ok1 (mlo.mono (fun lo q2 v2 F2 H2 s2 r2 ok2 => hc F2 H2 σ _ ok2 (mhi.mono (fun hi q3 v3 F3 H3 s3 r3 ok3 => by
    cases r2
    cases r3
    have r : URep C.K H3 v u := URep.go (s2.trans (s3.trans ok3.same)) r1
    have s := (s1.trans s2).trans s3
    cases u with
    | int i =>
      cases r1
      exact ⟨_, _, _, rfl, .inl ⟨i, rfl, q3 _ F3 H3 s rfl ok3⟩⟩
    | bl b =>
      cases r1
      exact ⟨_, _, _, rfl, .inr (.inl ⟨⟨b, rfl⟩, q3 _ F3 H3 s rfl ok3⟩)⟩
    | ob c fs => exact q3.elim
    | non => exact ⟨_, _, _, rfl, .inr (.inr ⟨notTy_of (by decide) r rfl, q3 _ F3 H3 s rfl ok3⟩)⟩
    | str x => exact ⟨_, _, _, rfl, .inr (.inr ⟨notTy_of (by decide) r rfl, q3 _ F3 H3 s rfl ok3⟩)⟩
    | lst x => exact ⟨_, _, _, rfl, .inr (.inr ⟨notTy_of (by decide) r rfl, q3 _ F3 H3 s rfl ok3⟩)⟩
    | tup x => exact ⟨_, _, _, rfl, .inr (.inr ⟨notTy_of (by decide) r rfl, q3 _ F3 H3 s rfl ok3⟩)⟩
    | dK x => exact ⟨_, _, _, rfl, .inr (.inr ⟨notTy_of (by decide) r rfl, q3 _ F3 H3 s rfl ok3⟩)⟩) (fun e z => EW.mono (s1.trans s2) z) q2)) (fun e z => EW.mono s1 z) q1)) (fun _ z => z) q)
def boundM (u : U) : M Bool := wholeM u (-99) 99
theorem e_bound {m : M U} (ha : JE C W δ ta m) : JE C W δ (tF (sp_is_bound C.K) E0 (tCons ta tNil)) (m.bind fun u => boundM u) := fun F H σ Q ok q =>
  ha F H σ _ ok (m.mono (fun u q3 v F3 H3 s r1 ok3 => by
    have r : URep C.K H3 v u := URep.go ok3.same r1
    cases u with
    | int i =>
      cases r1
      exact ⟨_, rfl, .inl ⟨i, rfl, q3 _ F3 H3 s rfl ok3⟩⟩
    | bl b =>
      cases r1
      exact ⟨_, rfl, .inr (.inl ⟨⟨b, rfl⟩, q3 _ F3 H3 s rfl ok3⟩)⟩
    | ob c fs => exact q3.elim
    | non => exact ⟨_, rfl, .inr (.inr ⟨notTy_of (by decide) r rfl, q3 _ F3 H3 s rfl ok3⟩)⟩
    | str x => exact ⟨_, rfl, .inr (.inr ⟨notTy_of (by decide) r rfl, q3 _ F3 H3 s rfl ok3⟩)⟩
    | lst x => exact ⟨_, rfl, .inr (.inr ⟨notTy_of (by decide) r rfl, q3 _ F3 H3 s rfl ok3⟩)⟩
    | tup x => exact ⟨_, rfl, .inr (.inr ⟨notTy_of (by decide) r rfl, q3 _ F3 H3 s rfl ok3⟩)⟩
    | dK x => exact ⟨_, rfl, .inr (.inr ⟨notTy_of (by decide) r rfl, q3 _ F3 H3 s rfl ok3⟩)⟩) (fun _ z => z) q)
end
end Dc

namespace Dc
open PySem PySem.Spec PyProof.Rows L2
structure KOk (K : PySem.W.Frag) : Prop where
  plan : PlC K
  exm : ExmOk K xcs xhs
  insPlan : InsC K (He.ga K "Plan")
  isdPlan : InsD K (He.ga K "Plan")
  isx : IxOk K xcs xos xbs
def t_PlanHas (K : PySem.W.Frag) : TS := tRet (tAndV (tCB (rIsi K) (tCons (tVar 1) (tCons (tC (.ty "str")) tNil))) (tOp (rIn K false) (tVar 1) (tFld K (tVar 0) "named")))
def m_PlanHas (self : Pl) (thing : U) : M Bool :=
  (((M.pure thing).bind fun a5 => M.ofOpt (a5.is "str")).bind fun a6 => if a6 then (((M.pure thing).bind fun a2 => M.ofOpt (UV.ofU a2 : Option Str)).bind fun a3 => ((M.pure self).bind fun a1 => M.pure (Tof.mk a1.rs)).bind fun a4 => M.pure (decide (a3 ∈ a4.l))) else M.pure false)
theorem x_PlanHas {K : PySem.W.Frag} (hK : KOk K) {W : WX} {F H : Hp} (self : Pl) (thing : U) : KV (cx0 K F H) W [.no, .no] (oZ Bool) [.fz (self : Pl), .fz (thing : U)] (t_PlanHas K) (m_PlanHas self thing) :=
  (vv_ret (wk_no (wk_no wk_nil)) (JE.o (e_and (e_isU (T := "str") (by decide) (e_var (i := 1) (a := thing) rfl)) (e_op o_inT (JE.r (e_ofU (α := Str) (e_var (i := 1) (a := thing) rfl))) (JE.r (e_named (e_var (i := 0) (a := self) rfl)))))))
def sp_PlanHas (K : PySem.W.Frag) : Sp := Sp2 (KOk K) (oZ Bool) m_PlanHas K
theorem len_PlanHas {vs : List V} {H : Hp} {Q : VK} {E : XK} {K : PySem.W.Frag} (h : sp_PlanHas K vs H Q E) : vs.length = 2 := by
  obtain ⟨hK, F, self, thing, v0, v1, rfl, s, r0, r1, post⟩ := h
  rfl
theorem rd_PlanHas {vs : List V} {H : Hp} {Q : VK} {E : XK} {K : PySem.W.Frag} (h : sp_PlanHas K vs H Q E) : t_PlanHas K (En Q) (st0' 2 vs) H := by
  obtain ⟨hK, F, self, thing, v0, v1, rfl, s, r0, r1, post⟩ := h
  exact fn_V (C := cx0 K F H) (x_PlanHas hK self thing) (okk_fz r0 (okk_fz r1 (okk_0 s))) post
def t_PlanEq (K : PySem.W.Frag) : TS := tRet (tAndV (tCB (rIsi K) (tCons (tVar 1) (tCons (tC (.ref (He.ga K "Plan"))) tNil))) (tAndV (tOp (rEqD K) (tFld K (tVar 0) "named") (tFld K (tVar 1) "named")) (tOp (rEqD K) (tFld K (tVar 0) "gates") (tFld K (tVar 1) "gates"))))
def m_PlanEq (self : Pl) (other : (Alt U Pl)) : M Bool :=
  (((M.pure other).bind fun a12 => M.need (topA a12 = true) (M.pure (isR a12))).bind fun a13 => if a13 then ((((M.pure self).bind fun a6 => M.pure (Tof.mk a6.rs)).bind fun a9 => (((M.pure other).bind fun a7 => M.ofOpt a7.r?).bind fun a8 => M.pure (Tof.mk a8.rs)).bind fun a10 => eqM a9 a10).bind fun a11 => if a11 then (((M.pure self).bind fun a1 => M.pure (Tof.mk a1.ds)).bind fun a4 => (((M.pure other).bind fun a2 => M.ofOpt a2.r?).bind fun a3 => M.pure (Tof.mk a3.ds)).bind fun a5 => eqM a4 a5) else M.pure false) else M.pure false)
theorem x_PlanEq {K : PySem.W.Frag} (hK : KOk K) {W : WX} {F H : Hp} (self : Pl) (other : (Alt U Pl)) : KV (cx0 K F H) W [.no, .no] (oZ Bool) [.fz (self : Pl), .fz (other : (Alt U Pl))] (t_PlanEq K) (m_PlanEq self other) :=
  (vv_ret (wk_no (wk_no wk_nil)) (JE.o (e_and (e_isAO (mt := "rooms") hK.isdPlan hK.insPlan hK.plan.cl (obj_plan) (e_var (i := 1) (a := other) rfl)) (e_and (e_op o_eqD (JE.r (e_named (e_var (i := 0) (a := self) rfl))) (JE.r (e_named (e_outR (e_var (i := 1) (a := other) rfl))))) (e_op o_eqD (JE.r (e_gates (e_var (i := 0) (a := self) rfl))) (JE.r (e_gates (e_outR (e_var (i := 1) (a := other) rfl)))))))))
def sp_PlanEq (K : PySem.W.Frag) : Sp := Sp2 (KOk K) (oZ Bool) m_PlanEq K
theorem len_PlanEq {vs : List V} {H : Hp} {Q : VK} {E : XK} {K : PySem.W.Frag} (h : sp_PlanEq K vs H Q E) : vs.length = 2 := by
  obtain ⟨hK, F, self, other, v0, v1, rfl, s, r0, r1, post⟩ := h
  rfl
theorem rd_PlanEq {vs : List V} {H : Hp} {Q : VK} {E : XK} {K : PySem.W.Frag} (h : sp_PlanEq K vs H Q E) : t_PlanEq K (En Q) (st0' 2 vs) H := by
  obtain ⟨hK, F, self, other, v0, v1, rfl, s, r0, r1, post⟩ := h
  exact fn_V (C := cx0 K F H) (x_PlanEq hK self other) (okk_fz r0 (okk_fz r1 (okk_0 s))) post
def t_PlanRepr (K : PySem.W.Frag) : TS := tRet (tJoin [tC (.str "Plan("), tFmtD K (tCB (rListOf K) (tCons (tFld K (tVar 0) "named") tNil)), tC (.str ", "), tFmtD K (tCB (rListOf K) (tCons (tFld K (tVar 0) "gates") tNil)), tC (.str ")")])
def m_PlanRepr (self : Pl) : M Str :=
  (mjs [(M.pure ("Plan(" : Str)), ((((M.pure self).bind fun a1 => M.pure (Tof.mk a1.rs)).bind fun a2 => M.pure a2.l).bind fun a3 => reprM a3), (M.pure (", " : Str)), ((((M.pure self).bind fun a4 => M.pure (Tof.mk a4.ds)).bind fun a5 => M.pure a5.l).bind fun a6 => reprM a6), (M.pure (")" : Str))] Str.empty)
theorem x_PlanRepr {K : PySem.W.Frag} (hK : KOk K) {W : WX} {F H : Hp} (self : Pl) : KV (cx0 K F H) W [.no] (oZ Str) [.fz (self : Pl)] (t_PlanRepr K) (m_PlanRepr self) :=
  (vv_ret (wk_no wk_nil) (JE.o (e_joinL (.cons e_str (.cons (e_fmtD (JE.r (JN.e (n_cb1 o_listOfT (JE.r (e_named (e_var (i := 0) (a := self) rfl))))))) (.cons e_str (.cons (e_fmtD (JE.r (JN.e (n_cb1 o_listOfT (JE.r (e_gates (e_var (i := 0) (a := self) rfl))))))) (.cons e_str .nil))))))))
def sp_PlanRepr (K : PySem.W.Frag) : Sp := Sp1 (KOk K) (oZ Str) m_PlanRepr K
theorem len_PlanRepr {vs : List V} {H : Hp} {Q : VK} {E : XK} {K : PySem.W.Frag} (h : sp_PlanRepr K vs H Q E) : vs.length = 1 := by
  obtain ⟨hK, F, self, v0, rfl, s, r0, post⟩ := h
  rfl
theorem rd_PlanRepr {vs : List V} {H : Hp} {Q : VK} {E : XK} {K : PySem.W.Frag} (h : sp_PlanRepr K vs H Q E) : t_PlanRepr K (En Q) (st0' 1 vs) H := by
  obtain ⟨hK, F, self, v0, rfl, s, r0, post⟩ := h
  exact fn_V (C := cx0 K F H) (x_PlanRepr hK self) (okk_fz r0 (okk_0 s)) post
end Dc

namespace Dc
open PySem PySem.Spec PyProof.Rows L2
def t_llists (K : PySem.W.Frag) : TS := tSeq (tAsg (tF (sp_names K) E0 (tCons (tVar 0) (tCons (tOp (rI0 fun i j => .int (i + j)) (tC (.int 1)) (tF (sp_take K) E0 (tCons (tVar 0) (tCons (tC (.int 8)) tNil)))) (tCons (tLst tNil) tNil)))) (gName 1))
  (tRet (tTup (tCons (tVar 1) (tCons (tF (sp_doors K) E0 (tCons (tVar 0) (tCons (tVar 1) (tCons (tF (sp_take K) E0 (tCons (tVar 0) (tCons (tC (.int 13)) tNil))) (tCons (tC (.bl false)) tNil))))) tNil))))
def m_llists  : M ((List Str) × (List Door)) :=
  ((((M.pure (1 : Int)).bind fun a2 => ((M.pure (8 : Int)).bind fun a1 => drawM a1).bind fun a3 => M.pure (a2 + a3)).bind fun a4 => (M.pure ([] : List Str)).bind fun a5 => namesM a4 a5).bind fun rooms6 => ((M.pure rooms6).bind fun a11 => ((M.pure rooms6).bind fun a8 => ((M.pure (13 : Int)).bind fun a7 => drawM a7).bind fun a9 => (M.pure false).bind fun a10 => drawDoors a8 a9 a10).bind fun a12 => M.pure ((a11, a12))))
theorem x_llists {K : PySem.W.Frag} (hK : KOk K) {W : WX} {p : Addr} {F H : Hp}  : KV (cxP K p F H) W [.no, .no] (oZ ((List Str) × (List Door))) [.pt p, .no] (t_llists K) (m_llists) :=
  (vv_asg (i := 1) (wk_no (wk_no wk_nil)) (e_names (i := 0) (p := p) (e_op (o_i0 (f := fun i j : Int => i + j) fun _ _ _ _ => rfl) (JE.r e_int) (JE.r (e_take (i := 0) (p := p) e_int rfl))) (JN.e (n_lst a_nil)) rfl) (fun rooms6 => (vv_ret (wk_no (wk_no wk_nil)) (JE.o (e_t2 (e_var (i := 1) (a := rooms6) rfl) (e_drawDoors (i := 0) (p := p) (e_var (i := 1) (a := rooms6) rfl) (e_take (i := 0) (p := p) e_int rfl) e_bl rfl))))))
def sp_llists (K : PySem.W.Frag) : Sp := SpP0 (KOk K) (oZ ((List Str) × (List Door))) m_llists K
theorem len_llists {vs : List V} {H : Hp} {Q : VK} {E : XK} {K : PySem.W.Frag} (h : sp_llists K vs H Q E) : vs.length = 1 := by
  obtain ⟨hK, F, p, rfl, s, f, t, post⟩ := h
  rfl
theorem rd_llists {vs : List V} {H : Hp} {Q : VK} {E : XK} {K : PySem.W.Frag} (h : sp_llists K vs H Q E) : t_llists K (En Q) (st0' 2 vs) H := by
  obtain ⟨hK, F, p, rfl, s, f, t, post⟩ := h
  exact fn_V (C := cxP K p F H) (x_llists hK) (okk_pot s f t (flat_no flat_nil) (okk_no (okk_P s f t))) post
def t_lturned (K : PySem.W.Frag) : TS := tSeq (tAsg (tVar 0) (gTup K 4 (gCons (gName 1) (gCons (gName 2) (gCons (gName 3) (gCons (gName 4) gNil))))))
  (tRet (tTup (tCons (tVar 2) (tCons (tVar 1) (tCons (tVar 3) (tCons (tVar 4) tNil))))))
def m_lturned (door_here : Door) : M Door :=
  ((M.pure door_here).bind fun x1 => ((M.pure x1.far).bind fun a2 => (M.pure x1.near).bind fun a3 => (M.pure x1.lo).bind fun a4 => (M.pure x1.hi).bind fun a5 => M.pure (Door.mk a2 a3 a4 a5)))
theorem x_lturned {K : PySem.W.Frag} (hK : KOk K) {W : WX} {F H : Hp} (door_here : Door) : KV (cx0 K F H) W [.no, .no, .no, .no, .no] (oZ Door) [.fz (door_here : Door), .no, .no, .no, .no] (t_lturned K) (m_lturned door_here) :=
  (vv_unp (wk_no (wk_no (wk_no (wk_no (wk_no wk_nil))))) (e_var (i := 0) (a := door_here) rfl) (g_door (g_name (i := 1)) (fun _ => (g_name (i := 2))) (fun _ _ => (g_name (i := 3))) (fun _ _ _ => (g_name (i := 4)))) (fun x1 => (vv_ret (wk_no (wk_no (wk_no (wk_no (wk_no wk_nil))))) (JE.o (e_door (e_var (i := 2) (a := x1.far) rfl) (e_var (i := 1) (a := x1.near) rfl) (e_var (i := 3) (a := x1.lo) rfl) (e_var (i := 4) (a := x1.hi) rfl))))))
def sp_lturned (K : PySem.W.Frag) : Sp := Sp1 (KOk K) (oZ Door) m_lturned K
theorem len_lturned {vs : List V} {H : Hp} {Q : VK} {E : XK} {K : PySem.W.Frag} (h : sp_lturned K vs H Q E) : vs.length = 1 := by
  obtain ⟨hK, F, door_here, v0, rfl, s, r0, post⟩ := h
  rfl
theorem rd_lturned {vs : List V} {H : Hp} {Q : VK} {E : XK} {K : PySem.W.Frag} (h : sp_lturned K vs H Q E) : t_lturned K (En Q) (st0' 5 vs) H := by
  obtain ⟨hK, F, door_here, v0, rfl, s, r0, post⟩ := h
  exact fn_V (C := cx0 K F H) (x_lturned hK door_here) (okk_fz r0 (okk_no (okk_no (okk_no (okk_no (okk_0 s)))))) post
def t_lwider (K : PySem.W.Frag) : TS := tSeq (tAsg (tVar 0) (gTup K 4 (gCons (gName 1) (gCons (gName 2) (gCons (gName 3) (gCons (gName 4) gNil))))))
  (tRet (tIf (tTest (tOp (rI0 fun i j => .bl (decide (i < j))) (tVar 4) (tC (.int 99)))) (tTup (tCons (tVar 1) (tCons (tVar 2) (tCons (tVar 3) (tCons (tOp (rI0 fun i j => .int (i + j)) (tVar 4) (tC (.int 1))) tNil))))) (tTup (tCons (tVar 1) (tCons (tVar 2) (tCons (tOp (rI0 fun i j => .int (i - j)) (tVar 3) (tC (.int 1))) (tCons (tVar 4) tNil)))))))
def m_lwider (door_here : Door) : M Door :=
  ((M.pure door_here).bind fun x1 => (((M.pure x1.hi).bind fun a2 => (M.pure (99 : Int)).bind fun a3 => M.pure (decide (a2 < a3))).bind fun b4 => if b4 then ((M.pure x1.near).bind fun a7 => (M.pure x1.far).bind fun a8 => (M.pure x1.lo).bind fun a9 => ((M.pure x1.hi).bind fun a5 => (M.pure (1 : Int)).bind fun a6 => M.pure (a5 + a6)).bind fun a10 => M.pure (Door.mk a7 a8 a9 a10)) else ((M.pure x1.near).bind fun a13 => (M.pure x1.far).bind fun a14 => ((M.pure x1.lo).bind fun a11 => (M.pure (1 : Int)).bind fun a12 => M.pure (a11 - a12)).bind fun a15 => (M.pure x1.hi).bind fun a16 => M.pure (Door.mk a13 a14 a15 a16))))
theorem x_lwider {K : PySem.W.Frag} (hK : KOk K) {W : WX} {F H : Hp} (door_here : Door) : KV (cx0 K F H) W [.no, .no, .no, .no, .no] (oZ Door) [.fz (door_here : Door), .no, .no, .no, .no] (t_lwider K) (m_lwider door_here) :=
  (vv_unp (wk_no (wk_no (wk_no (wk_no (wk_no wk_nil))))) (e_var (i := 0) (a := door_here) rfl) (g_door (g_name (i := 1)) (fun _ => (g_name (i := 2))) (fun _ _ => (g_name (i := 3))) (fun _ _ _ => (g_name (i := 4)))) (fun x1 => (vv_ret (wk_no (wk_no (wk_no (wk_no (wk_no wk_nil))))) (JE.o (e_if (t_test (e_op (o_i0 (f := fun i j : Int => decide (i < j)) fun _ _ _ _ => rfl) (JE.r (e_var (i := 4) (a := x1.hi) rfl)) (JE.r e_int))) (e_door (e_var (i := 1) (a := x1.near) rfl) (e_var (i := 2) (a := x1.far) rfl) (e_var (i := 3) (a := x1.lo) rfl) (e_op (o_i0 (f := fun i j : Int => i + j) fun _ _ _ _ => rfl) (JE.r (e_var (i := 4) (a := x1.hi) rfl)) (JE.r e_int))) (e_door (e_var (i := 1) (a := x1.near) rfl) (e_var (i := 2) (a := x1.far) rfl) (e_op (o_i0 (f := fun i j : Int => i - j) fun _ _ _ _ => rfl) (JE.r (e_var (i := 3) (a := x1.lo) rfl)) (JE.r e_int)) (e_var (i := 4) (a := x1.hi) rfl)))))))
def sp_lwider (K : PySem.W.Frag) : Sp := Sp1 (KOk K) (oZ Door) m_lwider K
theorem len_lwider {vs : List V} {H : Hp} {Q : VK} {E : XK} {K : PySem.W.Frag} (h : sp_lwider K vs H Q E) : vs.length = 1 := by
  obtain ⟨hK, F, door_here, v0, rfl, s, r0, post⟩ := h
  rfl
theorem rd_lwider {vs : List V} {H : Hp} {Q : VK} {E : XK} {K : PySem.W.Frag} (h : sp_lwider K vs H Q E) : t_lwider K (En Q) (st0' 5 vs) H := by
  obtain ⟨hK, F, door_here, v0, rfl, s, r0, post⟩ := h
  exact fn_V (C := cx0 K F H) (x_lwider hK door_here) (okk_fz r0 (okk_no (okk_no (okk_no (okk_no (okk_0 s)))))) post
def t_lchanged (K : PySem.W.Frag) : TS := tSeq (tAsg (tF (sp_take K) E0 (tCons (tVar 0) (tCons (tC (.int 7)) tNil))) (gName 3))
  (tSeq (tAsg (tIf (tTest (tOp (rNeD K) (tVar 2) (tLst tNil))) (tF (sp_take K) E0 (tCons (tVar 0) (tCons (tCB (rLenSeq K) (tCons (tVar 2) tNil)) tNil))) (tC (.int 0))) (gName 4))
  (tSeq (tIfS (tAnd (tTest (tOp rEq (tVar 3) (tC (.int 1)))) (tTest (tOp (rI0 fun i j => .bl (decide (i < j))) (tCB (rLenSeq K) (tCons (tVar 1) tNil)) (tC (.int 8))))) (tRet (tTup (tCons (tOp rCat (tVar 1) (tLst (tCons (tF (sp_name K) E0 (tCons (tVar 0) (tCons (tVar 1) tNil))) tNil))) (tCons (tVar 2) tNil)))) tNext)
  (tSeq (tIfS (tTest (tOp rEq (tVar 3) (tC (.int 2)))) (tRet (tTup (tCons (tRevL K (tVar 1)) (tCons (tVar 2) tNil)))) tNext)
  (tSeq (tIfS (tTest (tOp rEq (tVar 3) (tC (.int 3)))) (tRet (tTup (tCons (tVar 1) (tCons (tRevL K (tVar 2)) tNil)))) tNext)
  (tSeq (tIfS (tOr (tTest (tOp (rEqD K) (tVar 2) (tLst tNil))) (tTest (tOp (rI0 fun i j => .bl (decide (i < j))) (tVar 3) (tC (.int 4))))) (tRet (tTup (tCons (tCB (rListOf K) (tCons (tVar 1) tNil)) (tCons (tCB (rListOf K) (tCons (tVar 2) tNil)) tNil)))) tNext)
  (tSeq (tIfS (tTest (tOp rEq (tVar 3) (tC (.int 4)))) (tRet (tTup (tCons (tVar 1) (tCons (tOp rCat (tSl (rSlL K) (tVar 2) tNoPart (tPart (tVar 4))) (tSl (rSlL K) (tVar 2) (tPart (tOp (rI0 fun i j => .int (i + j)) (tVar 4) (tC (.int 1)))) tNoPart)) tNil)))) tNext)
  (tSeq (tAsg (tIf (tTest (tOp rEq (tVar 3) (tC (.int 5)))) (tF (sp_lturned K) E0 (tCons (tOp (rIxL K) (tVar 2) (tVar 4)) tNil)) (tF (sp_lwider K) E0 (tCons (tOp (rIxL K) (tVar 2) (tVar 4)) tNil))) (gName 5))
  (tSeq (tIfS (tTest (tOp (rI0 fun i j => .bl (decide (i < j))) (tOp (rIxT K) (tVar 5) (tC (.int 2))) (tUn (rU fun i => .int (-i)) (tC (.int 99))))) (tAsg (tOp (rIxL K) (tVar 2) (tVar 4)) (gName 5)) tNext)
  (tRet (tTup (tCons (tVar 1) (tCons (tOp rCat (tOp rCat (tSl (rSlL K) (tVar 2) tNoPart (tPart (tVar 4))) (tLst (tCons (tVar 5) tNil))) (tSl (rSlL K) (tVar 2) (tPart (tOp (rI0 fun i j => .int (i + j)) (tVar 4) (tC (.int 1)))) tNoPart)) tNil))))))))))))
def m_lchanged (rooms : (List Str)) (doors_here : (List Door)) : M ((List Str) × (List Door)) :=
  (((M.pure (7 : Int)).bind fun a1 => drawM a1).bind fun way2 => ((((M.pure doors_here).bind fun a3 => (M.pure ([] : List Door)).bind fun a4 => neM a3 a4).bind fun b5 => if b5 then (((M.pure doors_here).bind fun a6 => M.pure (a6.length : Int)).bind fun a7 => drawM a7) else (M.pure (0 : Int))).bind fun at8 => ((((M.pure way2).bind fun a12 => (M.pure (1 : Int)).bind fun a13 => M.pure (decide (a12 = a13))).bind fun b14 => if b14 then (((M.pure rooms).bind fun a9 => M.pure (a9.length : Int)).bind fun a10 => (M.pure (8 : Int)).bind fun a11 => M.pure (decide (a10 < a11))) else M.pure false).bind fun b15 => if b15 then (((M.pure rooms).bind fun a19 => (((M.pure rooms).bind fun a16 => nameM a16).bind fun a17 => (M.pure ([] : List Str)).bind fun r18 => M.pure (a17 :: r18)).bind fun a20 => M.need (a19.length + a20.length ≤ sizeLine) (M.pure (a19 ++ a20))).bind fun a21 => (M.pure doors_here).bind fun a22 => M.pure ((a21, a22))) else (((M.pure way2).bind fun a23 => (M.pure (2 : Int)).bind fun a24 => M.pure (decide (a23 = a24))).bind fun b25 => if b25 then (((M.pure rooms).bind fun a26 => M.pure a26.reverse).bind fun a27 => (M.pure doors_here).bind fun a28 => M.pure ((a27, a28))) else (((M.pure way2).bind fun a29 => (M.pure (3 : Int)).bind fun a30 => M.pure (decide (a29 = a30))).bind fun b31 => if b31 then ((M.pure rooms).bind fun a33 => ((M.pure doors_here).bind fun a32 => M.pure a32.reverse).bind fun a34 => M.pure ((a33, a34))) else ((((M.pure doors_here).bind fun a37 => (M.pure ([] : List Door)).bind fun a38 => eqM a37 a38).bind fun b39 => if b39 then M.pure true else ((M.pure way2).bind fun a35 => (M.pure (4 : Int)).bind fun a36 => M.pure (decide (a35 < a36)))).bind fun b40 => if b40 then (((M.pure rooms).bind fun a41 => M.pure a41).bind fun a43 => ((M.pure doors_here).bind fun a42 => M.pure a42).bind fun a44 => M.pure ((a43, a44))) else (((M.pure way2).bind fun a45 => (M.pure (4 : Int)).bind fun a46 => M.pure (decide (a45 = a46))).bind fun b47 => if b47 then ((M.pure rooms).bind fun a60 => (((M.pure doors_here).bind fun a49 => (M.pure none).bind fun a50 => ((M.pure at8).bind fun a48 => M.pure (some a48)).bind fun a51 => M.pure (cutL a49 a50 a51)).bind fun a58 => ((M.pure doors_here).bind fun a55 => (((M.pure at8).bind fun a52 => (M.pure (1 : Int)).bind fun a53 => M.pure (a52 + a53)).bind fun a54 => M.pure (some a54)).bind fun a56 => (M.pure none).bind fun a57 => M.pure (cutL a55 a56 a57)).bind fun a59 => M.need (a58.length + a59.length ≤ sizeLine) (M.pure (a58 ++ a59))).bind fun a61 => M.pure ((a60, a61))) else ((((M.pure way2).bind fun a62 => (M.pure (5 : Int)).bind fun a63 => M.pure (decide (a62 = a63))).bind fun b64 => if b64 then (((M.pure doors_here).bind fun a65 => (M.pure at8).bind fun a66 => M.ofOpt (atI a65 a66)).bind fun a67 => (m_lturned a67).nx) else (((M.pure doors_here).bind fun a68 => (M.pure at8).bind fun a69 => M.ofOpt (atI a68 a69)).bind fun a70 => (m_lwider a70).nx)).bind fun door_here71 => (M.bind ((((M.pure door_here71).bind fun a72 => (M.pure (2 : Int)).bind fun a73 => M.need (a73 = 2) (M.pure a72.lo)).bind fun a75 => ((M.pure (99 : Int)).bind fun a74 => M.pure (-a74)).bind fun a76 => M.pure (decide (a75 < a76))).bind fun b77 => if b77 then (((M.pure doors_here).bind fun a79 => (M.pure at8).bind fun a80 => M.ofOpt (atI a79 a80)).bind fun door_here81 => (M.pure door_here81)) else (M.pure door_here71)) fun (s78 : Door) => ((M.pure rooms).bind fun a98 => ((((M.pure doors_here).bind fun a83 => (M.pure none).bind fun a84 => ((M.pure at8).bind fun a82 => M.pure (some a82)).bind fun a85 => M.pure (cutL a83 a84 a85)).bind fun a88 => ((M.pure s78).bind fun a86 => (M.pure ([] : List Door)).bind fun r87 => M.pure (a86 :: r87)).bind fun a89 => M.need (a88.length + a89.length ≤ sizeLine) (M.pure (a88 ++ a89))).bind fun a96 => ((M.pure doors_here).bind fun a93 => (((M.pure at8).bind fun a90 => (M.pure (1 : Int)).bind fun a91 => M.pure (a90 + a91)).bind fun a92 => M.pure (some a92)).bind fun a94 => (M.pure none).bind fun a95 => M.pure (cutL a93 a94 a95)).bind fun a97 => M.need (a96.length + a97.length ≤ sizeLine) (M.pure (a96 ++ a97))).bind fun a99 => M.pure ((a98, a99))))))))))))
theorem x_lchanged {K : PySem.W.Frag} (hK : KOk K) {W : WX} {p : Addr} {F H : Hp} (rooms : (List Str)) (doors_here : (List Door)) : KV (cxP K p F H) W [.no, .no, .no, .no, .no, .no] (oZ ((List Str) × (List Door))) [.pt p, .fz (rooms : (List Str)), .fz (doors_here : (List Door)), .no, .no, .no] (t_lchanged K) (m_lchanged rooms doors_here) :=
  (vv_asg (i := 3) (wk_no (wk_no (wk_no (wk_no (wk_no (wk_no wk_nil)))))) (e_take (i := 0) (p := p) e_int rfl) (fun way2 => (vv_asg (i := 4) (wk_no (wk_no (wk_no (wk_no (wk_no (wk_no wk_nil)))))) (e_if (t_test (e_op o_neD (JE.r (e_var (i := 2) (a := doors_here) rfl)) (JE.r (JN.e (n_lst a_nil))))) (e_take (i := 0) (p := p) (e_cb1 o_lenL (JE.r (e_var (i := 2) (a := doors_here) rfl))) rfl) e_int) (fun at8 => (vv_ifr (wk_no (wk_no (wk_no (wk_no (wk_no (wk_no wk_nil)))))) (t_and (t_test (e_op o_eq (JE.r (e_var (i := 3) (a := way2) rfl)) (JE.r e_int))) (t_test (e_op (o_i0 (f := fun i j : Int => decide (i < j)) fun _ _ _ _ => rfl) (JE.r (e_cb1 o_lenL (JE.r (e_var (i := 1) (a := rooms) rfl)))) (JE.r e_int)))) (vv_ret (wk_no (wk_no (wk_no (wk_no (wk_no (wk_no wk_nil)))))) (JE.o (e_t2 (JN.e (n_op o_cat (JE.r (e_var (i := 1) (a := rooms) rfl)) (JE.r (JN.e (n_lst (a_cons (e_name (i := 0) (p := p) (e_var (i := 1) (a := rooms) rfl) rfl) a_nil)))))) (e_var (i := 2) (a := doors_here) rfl)))) (vv_ifr (wk_no (wk_no (wk_no (wk_no (wk_no (wk_no wk_nil)))))) (t_test (e_op o_eq (JE.r (e_var (i := 3) (a := way2) rfl)) (JE.r e_int))) (vv_ret (wk_no (wk_no (wk_no (wk_no (wk_no (wk_no wk_nil)))))) (JE.o (e_t2 (JN.e (n_rev (JE.r (e_var (i := 1) (a := rooms) rfl)))) (e_var (i := 2) (a := doors_here) rfl)))) (vv_ifr (wk_no (wk_no (wk_no (wk_no (wk_no (wk_no wk_nil)))))) (t_test (e_op o_eq (JE.r (e_var (i := 3) (a := way2) rfl)) (JE.r e_int))) (vv_ret (wk_no (wk_no (wk_no (wk_no (wk_no (wk_no wk_nil)))))) (JE.o (e_t2 (e_var (i := 1) (a := rooms) rfl) (JN.e (n_rev (JE.r (e_var (i := 2) (a := doors_here) rfl))))))) (vv_ifr (wk_no (wk_no (wk_no (wk_no (wk_no (wk_no wk_nil)))))) (t_or (t_test (e_op o_eqD (JE.r (e_var (i := 2) (a := doors_here) rfl)) (JE.r (JN.e (n_lst a_nil))))) (t_test (e_op (o_i0 (f := fun i j : Int => decide (i < j)) fun _ _ _ _ => rfl) (JE.r (e_var (i := 3) (a := way2) rfl)) (JE.r e_int)))) (vv_ret (wk_no (wk_no (wk_no (wk_no (wk_no (wk_no wk_nil)))))) (JE.o (e_t2 (JN.e (n_cb1 o_listOf (JE.r (e_var (i := 1) (a := rooms) rfl)))) (JN.e (n_cb1 o_listOf (JE.r (e_var (i := 2) (a := doors_here) rfl))))))) (vv_ifr (wk_no (wk_no (wk_no (wk_no (wk_no (wk_no wk_nil)))))) (t_test (e_op o_eq (JE.r (e_var (i := 3) (a := way2) rfl)) (JE.r e_int))) (vv_ret (wk_no (wk_no (wk_no (wk_no (wk_no (wk_no wk_nil)))))) (JE.o (e_t2 (e_var (i := 1) (a := rooms) rfl) (JN.e (n_op o_cat (JE.r (JN.e (n_sl (JE.r (e_var (i := 2) (a := doors_here) rfl)) p_none (p_some (e_var (i := 4) (a := at8) rfl))))) (JE.r (JN.e (n_sl (JE.r (e_var (i := 2) (a := doors_here) rfl)) (p_some (e_op (o_i0 (f := fun i j : Int => i + j) fun _ _ _ _ => rfl) (JE.r (e_var (i := 4) (a := at8) rfl)) (JE.r e_int))) p_none)))))))) (vv_asg (i := 5) (wk_no (wk_no (wk_no (wk_no (wk_no (wk_no wk_nil)))))) (e_if (t_test (e_op o_eq (JE.r (e_var (i := 3) (a := way2) rfl)) (JE.r e_int))) (JO.z (k_call1 hK (e_op o_ixL (JE.r (e_var (i := 2) (a := doors_here) rfl)) (JE.r (e_var (i := 4) (a := at8) rfl))))) (JO.z (k_call1 hK (e_op o_ixL (JE.r (e_var (i := 2) (a := doors_here) rfl)) (JE.r (e_var (i := 4) (a := at8) rfl)))))) (fun door_here71 => (vv_if (δm := fun s78 : Door => [.pt p, .fz (rooms : (List Str)), .fz (doors_here : (List Door)), .fz (way2 : Int), .fz (at8 : Int), .fz (s78 : Door)]) (wk_no (wk_no (wk_no (wk_no (wk_no (wk_no wk_nil)))))) (t_test (e_op (o_i0 (f := fun i j : Int => decide (i < j)) fun _ _ _ _ => rfl) (JE.r (e_op o_lo (JE.r (e_var (i := 5) (a := door_here71) rfl)) (JE.r e_int))) (JE.r (e_un o_neg (JE.r e_int))))) (bb_end (bb_asg (i := 5) (wk_no (wk_no (wk_no (wk_no (wk_no (wk_no wk_nil)))))) (e_op o_ixL (JE.r (e_var (i := 2) (a := doors_here) rfl)) (JE.r (e_var (i := 4) (a := at8) rfl))) (fun door_here81 => (bb_next (wk_eq (wk_eq (wk_eq (wk_eq (wk_eq (wk_eq wk_nil)))))))))) (bb_next (wk_eq (wk_eq (wk_eq (wk_eq (wk_eq (wk_eq wk_nil))))))) (fun s78 => (vv_ret (wk_no (wk_no (wk_no (wk_no (wk_no (wk_no wk_nil)))))) (JE.o (e_t2 (e_var (i := 1) (a := rooms) rfl) (JN.e (n_op o_cat (JE.r (JN.e (n_op o_cat (JE.r (JN.e (n_sl (JE.r (e_var (i := 2) (a := doors_here) rfl)) p_none (p_some (e_var (i := 4) (a := at8) rfl))))) (JE.r (JN.e (n_lst (a_cons (e_var (i := 5) (a := s78) rfl) a_nil))))))) (JE.r (JN.e (n_sl (JE.r (e_var (i := 2) (a := doors_here) rfl)) (p_some (e_op (o_i0 (f := fun i j : Int => i + j) fun _ _ _ _ => rfl) (JE.r (e_var (i := 4) (a := at8) rfl)) (JE.r e_int))) p_none)))))))))))))))))))))
def sp_lchanged (K : PySem.W.Frag) : Sp := SpP2 (KOk K) (oZ ((List Str) × (List Door))) m_lchanged K
theorem len_lchanged {vs : List V} {H : Hp} {Q : VK} {E : XK} {K : PySem.W.Frag} (h : sp_lchanged K vs H Q E) : vs.length = 3 := by
  obtain ⟨hK, F, p, rooms, doors_here, v0, v1, rfl, s, f, t, r0, r1, post⟩ := h
  rfl
theorem rd_lchanged {vs : List V} {H : Hp} {Q : VK} {E : XK} {K : PySem.W.Frag} (h : sp_lchanged K vs H Q E) : t_lchanged K (En Q) (st0' 6 vs) H := by
  obtain ⟨hK, F, p, rooms, doors_here, v0, v1, rfl, s, f, t, r0, r1, post⟩ := h
  exact fn_V (C := cxP K p F H) (x_lchanged hK rooms doors_here) (okk_pot s f t (flat_fz (flat_fz (flat_no (flat_no (flat_no flat_nil))))) (okk_fz r0 (okk_fz r1 (okk_no (okk_no (okk_no (okk_P s f t))))))) post
def t_has_right (K : PySem.W.Frag) : TS := tSeq (tIfS (tNot (tB (tCB (rAll K) (tCons (tLc (iList K (tVar 2)) (gName 5) tYes (tOp rIsB (tM (He.ga K "Plan") "has" (sp_PlanHas K) E0 (tVar 1) (tCons (tVar 5) tNil)) (tC (.bl true))) [5]) tNil)))) (tRet (tC (.bl false))) tNext)
  (tSeq (tAsg (tLst (tCons (tC .non) (tCons (tC (.int 5)) (tCons (tC (.bl true)) (tCons (tC (.str "")) (tCons (tUp (tOp (rIxL K) (tVar 2) (tC (.int 0)))) (tCons (tOp rAddStr (tOp (rIxL K) (tVar 2) (tC (.int 0))) (tC (.str " "))) (tCons (tLst (tCons (tOp (rIxL K) (tVar 2) (tC (.int 0))) tNil)) (tCons (tTup (tCons (tOp (rIxL K) (tVar 2) (tC (.int 0))) tNil)) (tCons tDNewK (tCons (tDisp [(tOp (rIxL K) (tVar 2) (tC (.int 0)), tC (.int 1))]) tNil))))))))))) (gName 3))
  (tSeq (tAsg (tOp rCat (tVar 3) (tLst (tCons (tF (sp_name K) E0 (tCons (tVar 0) (tCons (tVar 2) tNil))) (tCons (tC (.str "abcdefghi")) (tCons (tC (.int 0)) (tCons (tCB (rListOf K) (tCons (tVar 2) tNil)) tNil)))))) (gName 3))
  (tRet (tCB (rAll K) (tCons (tLc (iList K (tVar 3)) (gName 4) tYes (tOp rIsB (tM (He.ga K "Plan") "has" (sp_PlanHas K) E0 (tVar 1) (tCons (tVar 4) tNil)) (tC (.bl false))) [4]) tNil)))))
def m_has_right (plan : Pl) (rooms : (List Str)) : M Bool :=
  (((((M.pure rooms).bind fun xs2 => M.need (xs2.length < 10000000) (compM (fun (x1 : Str) => (M.pure true).nx.bind fun b4 => if b4 then (((M.pure plan).bind fun a6 => ((M.pure x1).bind fun a5 => M.pure (UV.toU a5)).bind fun a7 => (m_PlanHas a6 a7).nx).bind fun a8 => (M.pure true).bind fun a9 => M.pure (decide (a8 = a9))).nx.bind fun y3 => M.pure (some y3) else M.pure none) xs2)).bind fun a10 => M.pure (a10.all id)).bind fun b11 => M.pure (!b11)).bind fun b12 => if b12 then (M.pure false) else ((((M.pure ()).bind fun a13 => M.pure (UV.toU a13)).bind fun a57 => (((M.pure (5 : Int)).bind fun a14 => M.pure (UV.toU a14)).bind fun a55 => (((M.pure true).bind fun a15 => M.pure (UV.toU a15)).bind fun a53 => (((M.pure ("" : Str)).bind fun a16 => M.pure (UV.toU a16)).bind fun a51 => (((((M.pure rooms).bind fun a17 => (M.pure (0 : Int)).bind fun a18 => M.ofOpt (atI a17 a18)).bind fun a19 => M.need (a19.length ≤ 5592405) (M.pure (Txt.upper a19))).bind fun a20 => M.pure (UV.toU a20)).bind fun a49 => (((((M.pure rooms).bind fun a21 => (M.pure (0 : Int)).bind fun a22 => M.ofOpt (atI a21 a22)).bind fun a23 => (M.pure (" " : Str)).bind fun a24 => M.need (a23.length + a24.length ≤ sizeLine) (M.pure (a23 ++ a24))).bind fun a25 => M.pure (UV.toU a25)).bind fun a47 => (((((M.pure rooms).bind fun a26 => (M.pure (0 : Int)).bind fun a27 => M.ofOpt (atI a26 a27)).bind fun a28 => (M.pure ([] : List Str)).bind fun r29 => M.pure (a28 :: r29)).bind fun a30 => M.pure (UV.toU a30)).bind fun a45 => (((((M.pure rooms).bind fun a31 => (M.pure (0 : Int)).bind fun a32 => M.ofOpt (atI a31 a32)).bind fun a33 => M.pure (T1.mk a33)).bind fun a34 => M.pure (UV.toU a34)).bind fun a43 => ((M.pure (U.dK [])).bind fun a41 => (((((M.pure rooms).bind fun a35 => (M.pure (0 : Int)).bind fun a36 => M.ofOpt (atI a35 a36))).nx.bind fun a37 => ((M.pure (1 : Int))).nx.bind fun a38 => M.pure (U.dK [(Ky.key a37, UV.toU a38)])).bind fun a39 => (M.pure ([] : List U)).bind fun r40 => M.pure (a39 :: r40)).bind fun r42 => M.pure (a41 :: r42)).bind fun r44 => M.pure (a43 :: r44)).bind fun r46 => M.pure (a45 :: r46)).bind fun r48 => M.pure (a47 :: r48)).bind fun r50 => M.pure (a49 :: r50)).bind fun r52 => M.pure (a51 :: r52)).bind fun r54 => M.pure (a53 :: r54)).bind fun r56 => M.pure (a55 :: r56)).bind fun r58 => M.pure (a57 :: r58)).bind fun some59 => (((M.pure some59).bind fun a74 => ((((M.pure rooms).bind fun a60 => nameM a60).bind fun a62 => M.pure (UV.toU a62)).bind fun a72 => (((M.pure ("abcdefghi" : Str)).bind fun a63 => M.pure (UV.toU a63)).bind fun a70 => (((M.pure (0 : Int)).bind fun a64 => M.pure (UV.toU a64)).bind fun a68 => ((((M.pure rooms).bind fun a61 => M.pure a61).bind fun a65 => M.pure (UV.toU a65)).bind fun a66 => (M.pure ([] : List U)).bind fun r67 => M.pure (a66 :: r67)).bind fun r69 => M.pure (a68 :: r69)).bind fun r71 => M.pure (a70 :: r71)).bind fun r73 => M.pure (a72 :: r73)).bind fun a75 => M.need (a74.length + a75.length ≤ sizeLine) (M.pure (a74 ++ a75))).bind fun some76 => (((M.pure some76).bind fun xs78 => M.need (xs78.length < 10000000) (compM (fun (x77 : U) => (M.pure true).nx.bind fun b80 => if b80 then (((M.pure plan).bind fun a81 => (M.pure x77).bind fun a82 => (m_PlanHas a81 a82).nx).bind fun a83 => (M.pure false).bind fun a84 => M.pure (decide (a83 = a84))).nx.bind fun y79 => M.pure (some y79) else M.pure none) xs78)).bind fun a85 => M.pure (a85.all id)))))
theorem x_has_right {K : PySem.W.Frag} (hK : KOk K) {W : WX} {p : Addr} {F H : Hp} (plan : Pl) (rooms : (List Str)) : KV (cxP K p F H) W [.no, .no, .no, .no, .no, .no] (oZ Bool) [.pt p, .fz (plan : Pl), .fz (rooms : (List Str)), .no, .no, .no] (t_has_right K) (m_has_right plan rooms) :=
  (vv_ifr (wk_no (wk_no (wk_no (wk_no (wk_no (wk_no wk_nil)))))) (t_not (t_b (e_cb1 o_all (JE.r (JO.e (oo_comp (ic_list (JE.r (e_var (i := 2) (a := rooms) rfl))) (fun _ => (g_name (i := 5))) (fun _ x1 => t_yes) (fun _ x1 => (e_op o_isB (JE.r (JO.z (k_meth2 hK (obj_plan) (e_var (i := 1) (a := plan) rfl) (e_toU (e_var (i := 5) (a := x1) rfl))))) (JE.r e_bl))) (fun x1 => (wk_eq (wk_eq (wk_eq (wk_no (wk_no (wk_no wk_nil))))))))))))) (vv_ret (wk_no (wk_no (wk_no (wk_no (wk_no (wk_no wk_nil)))))) (JE.o e_bl)) (vv_asg (i := 3) (wk_no (wk_no (wk_no (wk_no (wk_no (wk_no wk_nil)))))) (JN.e (n_lst (a_cons (e_toU e_unit) (a_cons (e_toU e_int) (a_cons (e_toU e_bl) (a_cons (e_toU e_str) (a_cons (e_toU (e_upper (e_op o_ixL (JE.r (e_var (i := 2) (a := rooms) rfl)) (JE.r e_int)))) (a_cons (e_toU (e_op o_addS (JE.r (e_op o_ixL (JE.r (e_var (i := 2) (a := rooms) rfl)) (JE.r e_int))) (JE.r e_str))) (a_cons (e_toU (JN.e (n_lst (a_cons (e_op o_ixL (JE.r (e_var (i := 2) (a := rooms) rfl)) (JE.r e_int)) a_nil)))) (a_cons (e_toU (e_t1 (e_op o_ixL (JE.r (e_var (i := 2) (a := rooms) rfl)) (JE.r e_int)))) (a_cons e_dict0 (a_cons (e_disp1 (fun _ _ => (e_op o_ixL (JE.r (e_var (i := 2) (a := rooms) rfl)) (JE.r e_int))) (fun _ _ => e_int)) a_nil)))))))))))) (fun some59 => (vv_asg (i := 3) (wk_no (wk_no (wk_no (wk_no (wk_no (wk_no wk_nil)))))) (JN.e (n_op o_cat (JE.r (e_var (i := 3) (a := some59) rfl)) (JE.r (JN.e (n_lst (a_cons (e_toU (e_name (i := 0) (p := p) (e_var (i := 2) (a := rooms) rfl) rfl)) (a_cons (e_toU e_str) (a_cons (e_toU e_int) (a_cons (e_toU (JN.e (n_cb1 o_listOf (JE.r (e_var (i := 2) (a := rooms) rfl))))) a_nil))))))))) (fun some76 => (vv_ret (wk_no (wk_no (wk_no (wk_no (wk_no (wk_no wk_nil)))))) (JE.o (e_cb1 o_all (JE.r (JO.e (oo_comp (ic_list (JE.r (e_var (i := 3) (a := some76) rfl))) (fun _ => (g_name (i := 4))) (fun _ x77 => t_yes) (fun _ x77 => (e_op o_isB (JE.r (JO.z (k_meth2 hK (obj_plan) (e_var (i := 1) (a := plan) rfl) (e_var (i := 4) (a := x77) rfl)))) (JE.r e_bl))) (fun x77 => (wk_eq (wk_eq (wk_eq (wk_eq (wk_no (wk_no wk_nil))))))))))))))))))
def sp_has_right (K : PySem.W.Frag) : Sp := SpP2 (KOk K) (oZ Bool) m_has_right K
theorem len_has_right {vs : List V} {H : Hp} {Q : VK} {E : XK} {K : PySem.W.Frag} (h : sp_has_right K vs H Q E) : vs.length = 3 := by
  obtain ⟨hK, F, p, plan, rooms, v0, v1, rfl, s, f, t, r0, r1, post⟩ := h
  rfl
theorem rd_has_right {vs : List V} {H : Hp} {Q : VK} {E : XK} {K : PySem.W.Frag} (h : sp_has_right K vs H Q E) : t_has_right K (En Q) (st0' 6 vs) H := by
  obtain ⟨hK, F, p, plan, rooms, v0, v1, rfl, s, f, t, r0, r1, post⟩ := h
  exact fn_V (C := cxP K p F H) (x_has_right hK plan rooms) (okk_pot s f t (flat_fz (flat_fz (flat_no (flat_no (flat_no flat_nil))))) (okk_fz r0 (okk_fz r1 (okk_no (okk_no (okk_no (okk_P s f t))))))) post
def t_pair_right (K : PySem.W.Frag) : TS := tSeq (tAsg (tF (sp_llists K) E0 (tCons (tVar 0) tNil)) (gTup K 2 (gCons (gName 1) (gCons (gName 2) gNil))))
  (tSeq (tAsg (tF (sp_lchanged K) E0 (tCons (tVar 0) (tCons (tVar 1) (tCons (tVar 2) tNil)))) (gName 3))
  (tSeq (tAsg (tMk (He.ga K "Plan") (sp_PlanI K) E0 (tCons (tVar 1) (tCons (tVar 2) tNil))) (gName 4))
  (tSeq (tAsg (tMk (He.ga K "Plan") (sp_PlanI K) E0 (tCons (tOp (rIxT K) (tVar 3) (tC (.int 0))) (tCons (tOp (rIxT K) (tVar 3) (tC (.int 1))) tNil))) (gName 5))
  (tSeq (tAsg (tAndV (tOp (rEqD K) (tVar 1) (tOp (rIxT K) (tVar 3) (tC (.int 0)))) (tOp (rEqD K) (tVar 2) (tOp (rIxT K) (tVar 3) (tC (.int 1))))) (gName 6))
  (tSeq (tIfS (tTest (tOp rNe (tCB (rReprE K) (tCons (tLst (tCons (tOp (rEqX K (He.ga K "Plan") (sp_PlanEq K) E0) (tVar 4) (tVar 5)) (tCons (tOp (rEqX K (He.ga K "Plan") (sp_PlanEq K) E0) (tVar 5) (tVar 4)) (tCons (tOp (rNeX K (He.ga K "Plan") (sp_PlanEq K) E0) (tVar 4) (tVar 5)) tNil)))) tNil)) (tCB (rReprE K) (tCons (tLst (tCons (tVar 6) (tCons (tVar 6) (tCons (tNotV (tVar 6)) tNil)))) tNil)))) (tRet (tC (.bl false))) tNext)
  (tSeq (tIfS (tNot (tTest (tOp (rEqX K (He.ga K "Plan") (sp_PlanEq K) E0) (tVar 4) (tMk (He.ga K "Plan") (sp_PlanI K) E0 (tCons (tCB (rListOf K) (tCons (tVar 1) tNil)) (tCons (tCB (rListOf K) (tCons (tVar 2) tNil)) tNil)))))) (tRet (tC (.bl false))) tNext)
  (tSeq (tFor (iList K (tLst (tCons (tC .non) (tCons (tC (.int 0)) (tCons (tCB (rLenO (He.ga K "Plan") (sp_PlanLen K) E0) (tCons (tVar 4) tNil)) (tCons (tC (.str "")) (tCons (tCB (rReprO (He.ga K "Plan") (sp_PlanRepr K) E0) (tCons (tVar 4) tNil)) (tCons (tVar 1) (tCons (tVar 2) (tCons (tTup (tCons (tVar 1) (tCons (tVar 2) tNil))) (tCons tDNewK tNil))))))))))) (gName 7) (tIfS (tTest (tOp rNotB (tOp (rEqX K (He.ga K "Plan") (sp_PlanEq K) E0) (tVar 4) (tVar 7)) (tC (.bl false)))) (tRet (tC (.bl false))) tNext))
  (tRet (tAndV (tOp rEq (tCB (rReprO (He.ga K "Plan") (sp_PlanRepr K) E0) (tCons (tVar 4) tNil)) (tOp rAddStr (tOp rAddStr (tOp rAddStr (tOp rAddStr (tC (.str "Plan(")) (tCB (rReprE K) (tCons (tVar 1) tNil))) (tC (.str ", "))) (tCB (rReprE K) (tCons (tVar 2) tNil))) (tC (.str ")")))) (tF (sp_has_right K) E0 (tCons (tVar 0) (tCons (tVar 4) (tCons (tVar 1) tNil)))))))))))))
def m_pair_right  : M Bool :=
  (((m_llists).nx).bind fun x1 => (((M.pure x1.1).bind fun a2 => (M.pure x1.2).bind fun a3 => (m_lchanged a2 a3).nx).bind fun others4 => (((M.pure x1.1).bind fun a5 => (M.pure x1.2).bind fun a6 => planM a5 a6).bind fun plan7 => ((((M.pure others4).bind fun a8 => (M.pure (0 : Int)).bind fun a9 => M.need (a9 = 0) (M.pure a8.1)).bind fun a12 => ((M.pure others4).bind fun a10 => (M.pure (1 : Int)).bind fun a11 => M.need (a11 = 1) (M.pure a10.2)).bind fun a13 => planM a12 a13).bind fun other14 => ((((M.pure x1.1).bind fun a21 => ((M.pure others4).bind fun a19 => (M.pure (0 : Int)).bind fun a20 => M.need (a20 = 0) (M.pure a19.1)).bind fun a22 => eqM a21 a22).bind fun a23 => if a23 then ((M.pure x1.2).bind fun a17 => ((M.pure others4).bind fun a15 => (M.pure (1 : Int)).bind fun a16 => M.need (a16 = 1) (M.pure a15.2)).bind fun a18 => eqM a17 a18) else M.pure false).bind fun is_same24 => ((((((M.pure plan7).bind fun a26 => ((M.pure other14).bind fun a25 => M.pure (Alt.r a25 : (Alt U Pl))).bind fun a27 => M.need (topA a27 = true) (m_PlanEq a26 a27).nx).bind fun a38 => (((M.pure other14).bind fun a29 => ((M.pure plan7).bind fun a28 => M.pure (Alt.r a28 : (Alt U Pl))).bind fun a30 => M.need (topA a30 = true) (m_PlanEq a29 a30).nx).bind fun a36 => (((M.pure plan7).bind fun a32 => ((M.pure other14).bind fun a31 => M.pure (Alt.r a31 : (Alt U Pl))).bind fun a33 => M.need (topA a33 = true) ((m_PlanEq a32 a33).nx.bind fun r => M.pure (!r))).bind fun a34 => (M.pure ([] : List Bool)).bind fun r35 => M.pure (a34 :: r35)).bind fun r37 => M.pure (a36 :: r37)).bind fun r39 => M.pure (a38 :: r39)).bind fun a40 => reprM a40).bind fun a49 => (((M.pure is_same24).bind fun a46 => ((M.pure is_same24).bind fun a44 => (((M.pure is_same24).bind fun a41 => M.pure (!a41)).bind fun a42 => (M.pure ([] : List Bool)).bind fun r43 => M.pure (a42 :: r43)).bind fun r45 => M.pure (a44 :: r45)).bind fun r47 => M.pure (a46 :: r47)).bind fun a48 => reprM a48).bind fun a50 => M.pure (!decide (a49 = a50))).bind fun b51 => if b51 then (M.pure false) else ((((M.pure plan7).bind fun a57 => ((((M.pure x1.1).bind fun a52 => M.pure a52).bind fun a54 => ((M.pure x1.2).bind fun a53 => M.pure a53).bind fun a55 => planM a54 a55).bind fun a56 => M.pure (Alt.r a56 : (Alt U Pl))).bind fun a58 => M.need (topA a58 = true) (m_PlanEq a57 a58).nx).bind fun b59 => M.pure (!b59)).bind fun b60 => if b60 then (M.pure false) else ((((M.pure ()).bind fun a61 => M.pure (UV.toU a61)).bind fun a89 => (((M.pure (0 : Int)).bind fun a62 => M.pure (UV.toU a62)).bind fun a87 => ((((M.pure plan7).bind fun a63 => M.need (a63.ds.length < 2 ^ 62) (M.pure (a63.ds.length : Int))).bind fun a64 => M.pure (UV.toU a64)).bind fun a85 => (((M.pure ("" : Str)).bind fun a65 => M.pure (UV.toU a65)).bind fun a83 => ((((M.pure plan7).bind fun a66 => (m_PlanRepr a66).nx).bind fun a67 => M.pure (UV.toU a67)).bind fun a81 => (((M.pure x1.1).bind fun a68 => M.pure (UV.toU a68)).bind fun a79 => (((M.pure x1.2).bind fun a69 => M.pure (UV.toU a69)).bind fun a77 => ((((M.pure x1.1).bind fun a70 => (M.pure x1.2).bind fun a71 => M.pure ((a70, a71))).bind fun a72 => M.pure (UV.toU a72)).bind fun a75 => ((M.pure (U.dK [])).bind fun a73 => (M.pure ([] : List U)).bind fun r74 => M.pure (a73 :: r74)).bind fun r76 => M.pure (a75 :: r76)).bind fun r78 => M.pure (a77 :: r78)).bind fun r80 => M.pure (a79 :: r80)).bind fun r82 => M.pure (a81 :: r82)).bind fun r84 => M.pure (a83 :: r84)).bind fun r86 => M.pure (a85 :: r86)).bind fun r88 => M.pure (a87 :: r88)).bind fun r90 => M.pure (a89 :: r90)).bind fun xs94 => M.done (forM (fun (x93 : U) (s92 : Unit) => (M.next ((((M.pure plan7).bind fun a96 => ((M.pure x93).bind fun a95 => M.pure (Alt.l a95 : (Alt U Pl))).bind fun a97 => M.need (topA a97 = true) (m_PlanEq a96 a97).nx).bind fun a98 => (M.pure false).bind fun a99 => M.pure (!decide (a98 = a99))).bind fun b100 => if b100 then ((M.pure false).bind fun r102 => M.pure (Fl.rt r102)) else (M.pure (Fl.nx ()))) fun (s101 : Unit) => (M.pure (Fl.nx ())))) xs94 ()) fun s92 => ((((M.pure plan7).bind fun a105 => (m_PlanRepr a105).nx).bind fun a116 => (((((M.pure ("Plan(" : Str)).bind fun a107 => ((M.pure x1.1).bind fun a106 => reprM a106).bind fun a108 => M.need (a107.length + a108.length ≤ sizeLine) (M.pure (a107 ++ a108))).bind fun a109 => (M.pure (", " : Str)).bind fun a110 => M.need (a109.length + a110.length ≤ sizeLine) (M.pure (a109 ++ a110))).bind fun a112 => ((M.pure x1.2).bind fun a111 => reprM a111).bind fun a113 => M.need (a112.length + a113.length ≤ sizeLine) (M.pure (a112 ++ a113))).bind fun a114 => (M.pure (")" : Str)).bind fun a115 => M.need (a114.length + a115.length ≤ sizeLine) (M.pure (a114 ++ a115))).bind fun a117 => M.pure (decide (a116 = a117))).bind fun a118 => if a118 then ((M.pure plan7).bind fun a103 => (M.pure x1.1).bind fun a104 => (m_has_right a103 a104).nx) else M.pure false)))))))))
theorem x_pair_right {K : PySem.W.Frag} (hK : KOk K) {W : WX} {p : Addr} {F H : Hp}  : KV (cxP K p F H) W [.no, .no, .no, .no, .no, .no, .no, .no] (oZ Bool) [.pt p, .no, .no, .no, .no, .no, .no, .no] (t_pair_right K) (m_pair_right) :=
  (vv_unp (wk_no (wk_no (wk_no (wk_no (wk_no (wk_no (wk_no (wk_no wk_nil)))))))) (JO.z (k_pot0 (i := 0) (p := p) hK  rfl)) (g_t2 (g_name (i := 1)) (fun _ => (g_name (i := 2)))) (fun x1 => (vv_asg (i := 3) (wk_no (wk_no (wk_no (wk_no (wk_no (wk_no (wk_no (wk_no wk_nil)))))))) (JO.z (k_pot2 (i := 0) (p := p) hK (e_var (i := 1) (a := x1.1) rfl) (e_var (i := 2) (a := x1.2) rfl) rfl)) (fun others4 => (vv_asg (i := 4) (wk_no (wk_no (wk_no (wk_no (wk_no (wk_no (wk_no (wk_no wk_nil)))))))) (e_plan hK.plan (e_var (i := 1) (a := x1.1) rfl) (e_var (i := 2) (a := x1.2) rfl)) (fun plan7 => (vv_asg (i := 5) (wk_no (wk_no (wk_no (wk_no (wk_no (wk_no (wk_no (wk_no wk_nil)))))))) (e_plan hK.plan (e_op o_fst (JE.r (e_var (i := 3) (a := others4) rfl)) (JE.r e_int)) (e_op o_snd (JE.r (e_var (i := 3) (a := others4) rfl)) (JE.r e_int))) (fun other14 => (vv_asg (i := 6) (wk_no (wk_no (wk_no (wk_no (wk_no (wk_no (wk_no (wk_no wk_nil)))))))) (e_and (e_op o_eqD (JE.r (e_var (i := 1) (a := x1.1) rfl)) (JE.r (e_op o_fst (JE.r (e_var (i := 3) (a := others4) rfl)) (JE.r e_int)))) (e_op o_eqD (JE.r (e_var (i := 2) (a := x1.2) rfl)) (JE.r (e_op o_snd (JE.r (e_var (i := 3) (a := others4) rfl)) (JE.r e_int))))) (fun is_same24 => (vv_ifr (wk_no (wk_no (wk_no (wk_no (wk_no (wk_no (wk_no (wk_no wk_nil)))))))) (t_test (e_op o_ne (JE.r (e_cb1 o_reprE (JE.r (JN.e (n_lst (a_cons (k_eqX (f := m_PlanEq) hK.isdPlan hK.insPlan hK.plan.cl (obj_plan) (fun G H v w a b Q E s r0 r1 post => ⟨hK, G, a, b, v, w, rfl, s, r0, r1, post⟩) (e_var (i := 4) (a := plan7) rfl) (e_altR (e_var (i := 5) (a := other14) rfl))) (a_cons (k_eqX (f := m_PlanEq) hK.isdPlan hK.insPlan hK.plan.cl (obj_plan) (fun G H v w a b Q E s r0 r1 post => ⟨hK, G, a, b, v, w, rfl, s, r0, r1, post⟩) (e_var (i := 5) (a := other14) rfl) (e_altR (e_var (i := 4) (a := plan7) rfl))) (a_cons (k_neX (f := m_PlanEq) hK.isdPlan hK.insPlan hK.plan.cl (obj_plan) (fun G H v w a b Q E s r0 r1 post => ⟨hK, G, a, b, v, w, rfl, s, r0, r1, post⟩) (e_var (i := 4) (a := plan7) rfl) (e_altR (e_var (i := 5) (a := other14) rfl))) a_nil)))))))) (JE.r (e_cb1 o_reprE (JE.r (JN.e (n_lst (a_cons (e_var (i := 6) (a := is_same24) rfl) (a_cons (e_var (i := 6) (a := is_same24) rfl) (a_cons (e_not (e_var (i := 6) (a := is_same24) rfl)) a_nil)))))))))) (vv_ret (wk_no (wk_no (wk_no (wk_no (wk_no (wk_no (wk_no (wk_no wk_nil)))))))) (JE.o e_bl)) (vv_ifr (wk_no (wk_no (wk_no (wk_no (wk_no (wk_no (wk_no (wk_no wk_nil)))))))) (t_not (t_test (k_eqX (f := m_PlanEq) hK.isdPlan hK.insPlan hK.plan.cl (obj_plan) (fun G H v w a b Q E s r0 r1 post => ⟨hK, G, a, b, v, w, rfl, s, r0, r1, post⟩) (e_var (i := 4) (a := plan7) rfl) (e_altR (e_plan hK.plan (JN.e (n_cb1 o_listOf (JE.r (e_var (i := 1) (a := x1.1) rfl)))) (JN.e (n_cb1 o_listOf (JE.r (e_var (i := 2) (a := x1.2) rfl))))))))) (vv_ret (wk_no (wk_no (wk_no (wk_no (wk_no (wk_no (wk_no (wk_no wk_nil)))))))) (JE.o e_bl)) (vv_forR (δL := fun s92 : Unit => [.pt p, .fz (x1.1 : (List Str)), .fz (x1.2 : (List Door)), .fz (others4 : ((List Str) × (List Door))), .fz (plan7 : Pl), .fz (other14 : Pl), .fz (is_same24 : Bool), .no]) (s0 := ()) (wk_no (wk_no (wk_no (wk_no (wk_no (wk_no (wk_no (wk_no wk_nil)))))))) (wk_eq (wk_eq (wk_eq (wk_eq (wk_eq (wk_eq (wk_eq (wk_no wk_nil)))))))) (i_list (JN.e (n_lst (a_cons (e_toU e_unit) (a_cons (e_toU e_int) (a_cons (e_toU (e_lenP (e_var (i := 4) (a := plan7) rfl))) (a_cons (e_toU e_str) (a_cons (e_toU (k_reprO (f := m_PlanRepr) (obj_plan) (fun G H v a Q E s r0 post => ⟨hK, G, a, v, rfl, s, r0, post⟩) (e_var (i := 4) (a := plan7) rfl))) (a_cons (e_toU (e_var (i := 1) (a := x1.1) rfl)) (a_cons (e_toU (e_var (i := 2) (a := x1.2) rfl)) (a_cons (e_toU (e_t2 (e_var (i := 1) (a := x1.1) rfl) (e_var (i := 2) (a := x1.2) rfl))) (a_cons e_dict0 a_nil)))))))))))) (fun s92 => (g_name (i := 7))) (fun s92 x93 => (s_end (s_if (δm := fun s101 : Unit => [.pt p, .fz (x1.1 : (List Str)), .fz (x1.2 : (List Door)), .fz (others4 : ((List Str) × (List Door))), .fz (plan7 : Pl), .fz (other14 : Pl), .fz (is_same24 : Bool), .fz (x93 : U)]) (wk_no (wk_no (wk_no (wk_no (wk_no (wk_no (wk_no (wk_no wk_nil)))))))) (t_test (e_op o_notB (JE.r (k_eqX (f := m_PlanEq) hK.isdPlan hK.insPlan hK.plan.cl (obj_plan) (fun G H v w a b Q E s r0 r1 post => ⟨hK, G, a, b, v, w, rfl, s, r0, r1, post⟩) (e_var (i := 4) (a := plan7) rfl) (e_altL (e_var (i := 7) (a := x93) rfl)))) (JE.r e_bl))) (s_ret (wk_no (wk_no (wk_no (wk_no (wk_no (wk_no (wk_no (wk_no wk_nil)))))))) (JE.o e_bl)) (s_next (wk_eq (wk_eq (wk_eq (wk_eq (wk_eq (wk_eq (wk_eq (wk_eq wk_nil))))))))) (fun s101 => (s_next (wk_eq (wk_eq (wk_eq (wk_eq (wk_eq (wk_eq (wk_eq (wk_no wk_nil))))))))))))) (fun s92 => (vv_ret (wk_no (wk_no (wk_no (wk_no (wk_no (wk_no (wk_no (wk_no wk_nil)))))))) (JE.o (e_and (e_op o_eq (JE.r (k_reprO (f := m_PlanRepr) (obj_plan) (fun G H v a Q E s r0 post => ⟨hK, G, a, v, rfl, s, r0, post⟩) (e_var (i := 4) (a := plan7) rfl))) (JE.r (e_op o_addS (JE.r (e_op o_addS (JE.r (e_op o_addS (JE.r (e_op o_addS (JE.r e_str) (JE.r (e_cb1 o_reprE (JE.r (e_var (i := 1) (a := x1.1) rfl)))))) (JE.r e_str))) (JE.r (e_cb1 o_reprE (JE.r (e_var (i := 2) (a := x1.2) rfl)))))) (JE.r e_str)))) (JO.z (k_pot2 (i := 0) (p := p) hK (e_var (i := 4) (a := plan7) rfl) (e_var (i := 1) (a := x1.1) rfl) rfl)))))))))))))))))))
def sp_pair_right (K : PySem.W.Frag) : Sp := SpP0 (KOk K) (oZ Bool) m_pair_right K
theorem len_pair_right {vs : List V} {H : Hp} {Q : VK} {E : XK} {K : PySem.W.Frag} (h : sp_pair_right K vs H Q E) : vs.length = 1 := by
  obtain ⟨hK, F, p, rfl, s, f, t, post⟩ := h
  rfl
theorem rd_pair_right {vs : List V} {H : Hp} {Q : VK} {E : XK} {K : PySem.W.Frag} (h : sp_pair_right K vs H Q E) : t_pair_right K (En Q) (st0' 8 vs) H := by
  obtain ⟨hK, F, p, rfl, s, f, t, post⟩ := h
  exact fn_V (C := cxP K p F H) (x_pair_right hK) (okk_pot s f t (flat_no (flat_no (flat_no (flat_no (flat_no (flat_no (flat_no flat_nil))))))) (okk_no (okk_no (okk_no (okk_no (okk_no (okk_no (okk_no (okk_P s f t))))))))) post
def t_law (K : PySem.W.Frag) : TS := tRet (tCB (rAll K) (tCons (tLc (iRng1 (tCons (tCB rMax2 (tCons (tC (.int 1)) (tCons (tCB rMin2 (tCons (tCB (rLenSeq K) (tCons (tVar 0) tNil)) (tCons (tC (.int 6)) tNil))) tNil))) tNil)) (gName 1) tYes (tF (sp_pair_right K) E0 (tCons (tF (sp_pot K) E0 (tCons (tVar 0) (tCons (tVar 1) tNil))) tNil)) [1]) tNil))
def m_law (script : Scr) : M Bool :=
  (((((M.pure (1 : Int)).bind fun a4 => (((M.pure script).bind fun a1 => M.pure (a1.l.length : Int)).bind fun a2 => (M.pure (6 : Int)).bind fun a3 => M.pure (min a2 a3)).bind fun a5 => M.pure (max a4 a5)).bind fun a6 => M.need (-(2 ^ 62) ≤ a6 ∧ a6 < 2 ^ 62) (M.pure (rngI 0 a6))).bind fun xs8 => M.need (xs8.length < 10000000) (compM (fun (x7 : Int) => (M.pure true).nx.bind fun b10 => if b10 then ((M.pure x7).bind fun a11 => M.need (0 ≤ a11 ∧ a11 < 64) m_pair_right.nx).nx.bind fun y9 => M.pure (some y9) else M.pure none) xs8)).bind fun a12 => M.pure (a12.all id))
theorem x_law {K : PySem.W.Frag} (hK : KOk K) {W : WX} {F H : Hp} (script : Scr) : KV (cx0 K F H) W [.no, .no] (oZ Bool) [.fz (script : Scr), .no] (t_law K) (m_law script) :=
  (vv_ret (wk_no (wk_no wk_nil)) (JE.o (e_cb1 o_all (JE.r (JO.e (oo_comp (JI.c (i_rng1 (e_cb2 o_max2 (JE.r e_int) (JE.r (e_cb2 o_min2 (JE.r (e_cb1 o_lenScr (JE.r (e_var (i := 0) (a := script) rfl)))) (JE.r e_int)))))) (fun _ => (g_name (i := 1))) (fun _ x7 => t_yes) (fun _ x7 => (JO.z (o_pot (i := 0) (s := script) hK (e_var (i := 1) (a := x7) rfl) rfl))) (fun x7 => (wk_eq (wk_no wk_nil)))))))))
def sp_law (K : PySem.W.Frag) : Sp := Sp1 (KOk K) (oZ Bool) m_law K
theorem len_law {vs : List V} {H : Hp} {Q : VK} {E : XK} {K : PySem.W.Frag} (h : sp_law K vs H Q E) : vs.length = 1 := by
  obtain ⟨hK, F, script, v0, rfl, s, r0, post⟩ := h
  rfl
theorem rd_law {vs : List V} {H : Hp} {Q : VK} {E : XK} {K : PySem.W.Frag} (h : sp_law K vs H Q E) : t_law K (En Q) (st0' 2 vs) H := by
  obtain ⟨hK, F, script, v0, rfl, s, r0, post⟩ := h
  exact fn_V (C := cx0 K F H) (x_law hK script) (okk_fz r0 (okk_no (okk_0 s))) post
end Dc

namespace Dc
open PySem PySem.Spec PyProof.Rows L2 ToD UV
def hasB (rs : List Str) : U → Bool
  | .str r => decide (r ∈ rs)
  | _ => false
theorem has_eq {pl : Pl} {u : U} (h : u.noOb = true) : m_PlanHas pl u = M.pure (hasB pl.rs u) := by
  unfold m_PlanHas
  cases u with
  | str r => walk_at "mi"; rfl
  | ob c fs => cases h
  | _ => rfl
theorem ok_doors {rs : List Str} {ds : List Door} (hr : RoomsOk rs) (hd : DoorsOk rs ds) : Shp.ok ds := fun d m => ⟨strOk_name (hr.2.2.2 _ (hd.2 d m).1), strOk_name (hr.2.2.2 _ (hd.2 d m).2.1)⟩
theorem ok_rooms {rs : List Str} (hr : RoomsOk rs) : Shp.ok rs := ok_names hr.2.2.2
theorem planEq_r {p q : Pl} (hp : PlanOk p) (hq : PlanOk q) : m_PlanEq p (.r q) = M.pure (decide (p.rs = q.rs) && decide (p.ds = q.ds)) := by
  unfold m_PlanEq
  walk_at "mi"
  rw [M.needT (show topA (Alt.r q : Alt U Pl) = true from rfl)]
  show (M.ofOpt (some q)).bind _ = _
  walk_at "mi"
  rw [eqM_is (show Shp.ok (Tof.mk p.rs) from ok_rooms hp.1) (show Shp.ok (Tof.mk q.rs) from ok_rooms hq.1), M.pb, show ((M.ofOpt (Alt.r q : Alt U Pl).r?).bind fun a => eqM (Tof.mk p.ds) (Tof.mk a.ds)) = eqM (Tof.mk p.ds) (Tof.mk q.ds) from rfl, eqM_is (show Shp.ok (Tof.mk p.ds) from ok_doors hp.1 hp.2) (show Shp.ok (Tof.mk q.ds) from ok_doors hq.1 hq.2)]
  have e1 : decide (Tof.mk p.rs = Tof.mk q.rs) = decide (p.rs = q.rs) := decide_eq_decide.mpr ⟨fun z => Tof.mk.inj z, fun z => by rw [z]⟩
  have e2 : decide (Tof.mk p.ds = Tof.mk q.ds) = decide (p.ds = q.ds) := decide_eq_decide.mpr ⟨fun z => Tof.mk.inj z, fun z => by rw [z]⟩
  rw [e1, e2]
  cases decide (p.rs = q.rs) <;> rfl
theorem planEq_l {p : Pl} {u : U} (h : u.top = true) : m_PlanEq p (.l u) = M.pure false := by
  unfold m_PlanEq
  walk_at "mi"
  rw [M.needT (show topA (Alt.l u : Alt U Pl) = true from h)]
  rfl
theorem llists_run : m_llists.run (fun x => PlanOk ⟨x.1, x.2⟩) fun _ => False := by
  unfold m_llists
  walk_at "mi"
  refine draw_run (by decide) (by decide) fun a a0 a1 => ?_
  dsimp only
  unfold namesM
  walk_at "mi"
  refine ⟨⟨by omega, by show (0 : Int) + (1 + a) < 26; omega⟩, fun rs ⟨h1, h2, h3⟩ => ?_⟩
  have hr : RoomsOk rs := ⟨by omega, by omega, h2, fun x m => (h3 x m).1⟩
  refine draw_run (by decide) (by decide) fun b b0 b1 => ?_
  dsimp only
  unfold drawDoors
  walk_at "mi"
  exact ⟨⟨hr, by omega, by omega⟩, fun ds hd => ⟨hr, hd.1⟩⟩
theorem doors_mono {rs rs' : List Str} {ds : List Door} (h : ∀ x ∈ rs, x ∈ rs') (hd : DoorsOk rs ds) : DoorsOk rs' ds := ⟨hd.1, fun d m => ⟨h _ (hd.2 d m).1, h _ (hd.2 d m).2.1, (hd.2 d m).2.2⟩⟩
theorem lchanged_run {rs : List Str} {ds : List Door} (hp : PlanOk ⟨rs, ds⟩) : (m_lchanged rs ds).run (fun x => PlanOk ⟨x.1, x.2⟩) fun _ => False := by
  have sl := sizeLine_eq
  have hr : RoomsOk rs := hp.1
  have hd : DoorsOk rs ds := hp.2
  have h8 : rs.length ≤ 8 := hr.2.1
  have h12 : ds.length ≤ 12 := hd.1
  have okd := ok_doors hr hd
  have okn : Shp.ok ([] : List Door) := fun _ m => nomatch m
  unfold m_lchanged
  walk_at "mi"
  refine draw_run (by decide) (by decide) fun w w0 w1 => ?_
  dsimp only
  rw [neM_is okd okn, eqM_is okd okn]
  walk_at "mi"
  refine M.run_seq (P := fun k : Int => 0 ≤ k ∧ (ds ≠ [] → k < ds.length)) ?_ fun k hk => ?_
  · by_cases z : ds = []
    · rw [decide_eq_true z]
      exact ⟨Int.le_refl 0, fun y => absurd z y⟩
    · rw [decide_eq_false z]
      have : 0 < ds.length := List.length_pos_iff.mpr z
      exact draw_run (by omega) (by omega) fun k k0 k1 => ⟨k0, fun _ => k1⟩
  obtain ⟨k0, k1⟩ := hk
  have e15 : (if decide (w = 1) = true then M.pure (decide ((rs.length : Int) < 8)) else M.pure false) = M.pure (decide (w = 1 ∧ (rs.length : Int) < 8)) := by
    by_cases z : w = 1 <;> simp [z]
  rw [e15, M.pb]
  by_cases c1 : w = 1 ∧ (rs.length : Int) < 8
  · rw [decide_eq_true c1, if_pos rfl]
    unfold nameM
    walk_at "mi"
    refine ⟨by omega, fun a ⟨a1, a2⟩ => ⟨by show rs.length + 1 ≤ _; omega, ?_⟩⟩
    have c8 := c1.2
    refine ⟨⟨?_, ?_, ?_, fun x m => ?_⟩, doors_mono (fun x m => List.mem_append_left _ m) hd⟩
    · show 1 ≤ (rs ++ [a]).length
      rw [List.length_append]
      show 1 ≤ rs.length + 1
      omega
    · show (rs ++ [a]).length ≤ 8
      rw [List.length_append]
      show rs.length + 1 ≤ 8
      omega
    · exact List.nodup_append.mpr ⟨hr.2.2.1, List.pairwise_singleton _ _, fun x m y my e => a2 (by rw [← List.mem_singleton.mp my, ← e]; exact m)⟩
    · rcases List.mem_append.mp m with m | m
      · exact hr.2.2.2 x m
      · rw [List.mem_singleton.mp m]
        exact a1
  rw [decide_eq_false c1, if_neg (by decide)]
  by_cases c2 : w = 2
  · rw [decide_eq_true c2, if_pos rfl]
    exact ⟨⟨by rw [List.length_reverse]; exact hr.1, by rw [List.length_reverse]; exact hr.2.1, List.pairwise_reverse.mpr (hr.2.2.1.imp fun h => h.symm), fun x m => hr.2.2.2 x (List.mem_reverse.mp m)⟩, doors_mono (fun x m => List.mem_reverse.mpr m) hd⟩
  rw [decide_eq_false c2, if_neg (by decide)]
  by_cases c3 : w = 3
  · rw [decide_eq_true c3, if_pos rfl]
    exact ⟨hr, by rw [List.length_reverse]; exact hd.1, fun d m => hd.2 d (List.mem_reverse.mp m)⟩
  rw [decide_eq_false c3, if_neg (by decide)]
  have e40 : (if decide (ds = []) = true then M.pure true else M.pure (decide (w < 4))) = M.pure (decide (ds = [] ∨ w < 4)) := by
    by_cases z : ds = [] <;> simp [z]
  rw [e40, M.pb]
  by_cases c4 : ds = [] ∨ w < 4
  · rw [decide_eq_true c4, if_pos rfl]
    exact hp
  rw [decide_eq_false c4, if_neg (by decide)]
  have hne : ds ≠ [] := fun z => c4 (.inl z)
  have k1 := k1 hne
  have e1 : cutL ds none (some k) = ds.take k.toNat := cut_ti ds k0
  have e2 : cutL ds (some (k + 1)) none = ds.drop (k + 1).toNat := cut_fi ds (by omega)
  rw [e1, e2]
  have lt : (ds.take k.toNat).length ≤ k.toNat := List.length_take_le ..
  have ld : (ds.drop (k + 1).toNat).length = ds.length - (k + 1).toNat := List.length_drop
  by_cases c5 : w = 4
  · rw [decide_eq_true c5, if_pos rfl]
    refine ⟨by omega, hr, by rw [List.length_append]; omega, fun d m => ?_⟩
    rcases List.mem_append.mp m with m | m
    · exact hd.2 d (List.mem_of_mem_take m)
    · exact hd.2 d (List.mem_of_mem_drop m)
  rw [decide_eq_false c5, if_neg (by decide)]
  obtain ⟨d, md, ed, _⟩ := atI_is (xs := ds) (k := k) k0 k1
  rw [ed]
  walk_at "mi"
  have hdd : DoorOk rs d := hd.2 d md
  have near : ∃ x : Door, (if decide (w = 5) = true then (m_lturned d).nx else (m_lwider d).nx) = M.pure x ∧ x.near ∈ rs ∧ x.far ∈ rs ∧ x.near ≠ x.far ∧ x.lo ≤ x.hi ∧ x.hi ≤ 99 := by
    obtain ⟨q1, q2, q3, q4, q5, q6⟩ := hdd
    by_cases c6 : w = 5
    · rw [decide_eq_true c6, if_pos rfl]
      refine ⟨⟨d.far, d.near, d.lo, d.hi⟩, ?_, q2, q1, fun z => q3 z.symm, q5, q6⟩
      unfold m_lturned
      walk_at "mi"
    · rw [decide_eq_false c6, if_neg (by decide)]
      unfold m_lwider
      walk_at "mi"
      by_cases c7 : d.hi < 99
      · refine ⟨⟨d.near, d.far, d.lo, d.hi + 1⟩, by rw [decide_eq_true c7]; rfl, q1, q2, q3, ?_, ?_⟩
        · show d.lo ≤ d.hi + 1
          omega
        · show d.hi + 1 ≤ 99
          omega
      · refine ⟨⟨d.near, d.far, d.lo - 1, d.hi⟩, by rw [decide_eq_false c7]; rfl, q1, q2, q3, ?_, q6⟩
        show d.lo - 1 ≤ d.hi
        omega
  obtain ⟨x, ex, x1, x2, x3, x4, x5⟩ := near
  rw [ex, M.pb]
  have fin : ∃ y : Door, (if decide (x.lo < -99) = true then M.pure d else M.pure x) = M.pure y ∧ DoorOk rs y := by
    by_cases c8 : x.lo < -99
    · exact ⟨d, by rw [decide_eq_true c8]; rfl, hdd⟩
    · exact ⟨x, by rw [decide_eq_false c8]; rfl, x1, x2, x3, by omega, x4, x5⟩
  obtain ⟨y, ey, hy⟩ := fin
  rw [ey, M.pb]
  refine ⟨by show _ + 1 ≤ _; omega, by rw [List.length_append]; show _ + 1 + _ ≤ _; omega, hr, ?_, fun z m => ?_⟩
  · show (ds.take k.toNat ++ [y] ++ ds.drop (k + 1).toNat).length ≤ 12
    rw [List.length_append, List.length_append]
    show (ds.take k.toNat).length + 1 + _ ≤ 12
    omega
  · rcases List.mem_append.mp m with m | m
    · rcases List.mem_append.mp m with m | m
      · exact hd.2 z (List.mem_of_mem_take m)
      · rw [List.mem_singleton.mp m]
        exact hy
    · exact hd.2 z (List.mem_of_mem_drop m)
theorem has_right_run {pl : Pl} {rs : List Str} (hr : RoomsOk rs) (e : pl.rs = rs) : (m_has_right pl rs).run (fun b => b = true) fun _ => False := by
  have sl := sizeLine_eq
  have h8 : rs.length ≤ 8 := hr.2.1
  have hrn := hr.2.2.2
  unfold m_has_right
  walk_at "mi"
  refine ⟨by omega, ?_⟩
  rw [compM_mp (fun _ => true) fun x m => by rw [has_eq (u := U.str x) rfl]; walk_at "mi"; rw [show hasB pl.rs (U.str x) = true from decide_eq_true (by rw [e]; exact m)]; rfl]
  rw [M.pb, all_id (bs := rs.map fun _ => true) fun b m => by obtain ⟨_, _, rfl⟩ := List.mem_map.mp m; rfl, if_neg (by decide)]
  obtain ⟨r, mr, er, _⟩ := atI_is (xs := rs) (k := 0) (by decide) (by have : 1 ≤ rs.length := hr.1; omega)
  rw [er]
  walk_at "mi"
  obtain ⟨u1, u2, u3⟩ := upper_name (hrn r mr)
  have r8 : r.length ≤ 8 := (hrn r mr).2.1
  refine ⟨by omega, by show _ + 1 ≤ _; omega, ?_⟩
  unfold nameM
  walk_at "mi"
  refine ⟨by omega, fun nm ⟨n1, n2⟩ => ⟨by rw [sl]; show 14 ≤ 16777216; decide, by show 14 < 10000000; decide, ?_⟩⟩
  rw [compM_mp (fun _ => true) ?g]
  · walk_at "mi"
    rfl
  case g =>
    have key : ∀ x : U, x.noOb = true → hasB rs x = false → ((m_PlanHas pl x).nx.bind fun a => M.pure (some (decide (a = false)))) = M.pure (some true) := fun x o z => by
      rw [has_eq o, e, z]
      rfl
    have str : ∀ y : Str, ¬ IsName y → hasB rs (.str y) = false := fun y z => decide_eq_false fun m => z (hrn y m)
    have n0 : ¬ IsName (Str.ofString "") := fun z => absurd z.1 (by decide)
    have n9 : ¬ IsName (Str.ofString "abcdefghi") := fun z => absurd z.2.1 (by decide)
    have n_ : ¬ IsName (r ++ Str.ofString " ") := fun z => by
      have := z.2.2 32 (by
        show 32 ∈ (r.cps ++ _).toList
        rw [Array.toList_append]
        exact List.mem_append.mpr (.inr (by decide)))
      exact absurd this (by decide)
    simp only [List.cons_append, List.nil_append, List.forall_mem_cons]
    exact ⟨key _ rfl rfl, key _ rfl rfl, key _ rfl rfl, key _ rfl (str _ n0), key _ rfl (str _ u3), key _ rfl (str _ n_), key _ rfl rfl, key _ rfl rfl, key _ rfl rfl, key _ rfl rfl, key _ rfl (decide_eq_false n2), key _ rfl (str _ n9), key _ rfl rfl, key _ rfl rfl, fun x m => nomatch m⟩
theorem mjs_cons {m : M Str} {ms : List (M Str)} {acc : Str} : mjs (m :: ms) acc = m.bind fun y => M.need ((acc ++ y).length ≤ sizeLine) (mjs ms (acc ++ y)) := rfl
theorem repr_eq {o : Pl} (ho : PlanOk o) : m_PlanRepr o = M.pure (Str.ofString "Plan(" ++ (toD o.rs).shown ++ Str.ofString ", " ++ (toD o.ds).shown ++ Str.ofString ")") ∧ reprM o.rs = M.pure (toD o.rs).shown ∧ reprM o.ds = M.pure (toD o.ds).shown ∧ (toD o.rs).shown.length ≤ 100000 ∧ (toD o.ds).shown.length ≤ 100000 := by
  have sl := sizeLine_eq
  have h1 : Shw 72 1 (toD o.rs) := (shw_strs ho.1.2.2.2).up (by have := ho.1.2.1; omega) (Nat.le_refl _)
  have h2 : Shw 252 2 (toD o.ds) := shw_doors ho.1.2.2.2 ho.2
  have l1 : (toD o.rs).shown.length ≤ 100000 := by
    have := PyData.shown_le_bulk 13 (by decide) _ h1.short
    have := h1.bulk
    omega
  have l2 : (toD o.ds).shown.length ≤ 100000 := by
    have := PyData.shown_le_bulk 13 (by decide) _ h2.short
    have := h2.bulk
    omega
  have f1 : reprM o.rs = M.pure (toD o.rs).shown := reprM_ok h1.fit
  have f2 : reprM o.ds = M.pure (toD o.ds).shown := reprM_ok h2.fit
  refine ⟨?_, f1, f2, l1, l2⟩
  unfold m_PlanRepr
  walk_at "mi"
  rw [f1, f2]
  simp only [mjs_cons, M.pb]
  have e1 : (Str.ofString "Plan(").length = 5 := by decide
  have e2 : (Str.ofString ", ").length = 2 := by decide
  have e3 : (Str.ofString ")").length = 1 := by decide
  rw [show Str.empty ++ Str.ofString "Plan(" = Str.ofString "Plan(" by decide]
  rw [M.needT (by omega), M.needT (by simp only [Str.length_append]; omega), M.needT (by simp only [Str.length_append]; omega), M.needT (by simp only [Str.length_append]; omega), M.needT (by simp only [Str.length_append]; omega)]
  rfl
theorem pair_true : m_pair_right.run (fun b => b = true) fun _ => False := by
  have sl := sizeLine_eq
  unfold m_pair_right
  walk_at "mi"
  refine M.seqX llists_run fun x hp => ?_
  obtain ⟨rs, ds⟩ := x
  have hp : PlanOk ⟨rs, ds⟩ := hp
  dsimp only
  refine M.seqX (lchanged_run hp) fun y hq => ?_
  obtain ⟨rs', ds'⟩ := y
  have hq : PlanOk ⟨rs', ds'⟩ := hq
  dsimp only
  have okr := ok_rooms hp.1
  have okd := ok_doors hp.1 hp.2
  have okr' := ok_rooms hq.1
  have okd' := ok_doors hq.1 hq.2
  have mk : planM rs ds = M.pure ⟨rs, ds⟩ := M.needT hp _
  have mk' : planM rs' ds' = M.pure ⟨rs', ds'⟩ := M.needT hq _
  rw [mk, mk', eqM_is okr okr', eqM_is okd okd']
  walk_at "mi"
  have e24 : (if decide (rs = rs') = true then M.pure (decide (ds = ds')) else M.pure false) = M.pure (decide (rs = rs') && decide (ds = ds')) := by
    cases decide (rs = rs') <;> rfl
  have sym : (decide (rs' = rs) && decide (ds' = ds)) = (decide (rs = rs') && decide (ds = ds')) := by
    congr 1
    · exact decide_eq_decide.mpr eq_comm
    · exact decide_eq_decide.mpr eq_comm
  have tr : ∀ (q : Pl) (m : M Bool), M.need (topA (Alt.r q : Alt U Pl) = true) m = m := fun _ m => M.needT rfl m
  rw [e24]
  walk_at "mi"
  rw [planEq_r hp hq, planEq_r hq hp]
  simp only [tr]
  walk_at "mi"
  rw [sym]
  generalize hb : (decide (rs = rs') && decide (ds = ds')) = b
  have rb : reprM [b, b, !b] = M.pure (toD [b, b, !b]).shown := reprM_ok (Shw.fit (Shw.list_ (ShwA.cons (Shw.bool_ b) (ShwA.cons (Shw.bool_ b) (ShwA.cons (Shw.bool_ (!b)) ShwA.nil)))))
  rw [rb]
  walk_at "mi"
  rw [planEq_r hp hp, show (decide (Pl.rs ⟨rs, ds⟩ = Pl.rs ⟨rs, ds⟩) && decide (Pl.ds ⟨rs, ds⟩ = Pl.ds ⟨rs, ds⟩)) = true by rw [decide_eq_true rfl, decide_eq_true rfl]; rfl]
  walk_at "mi"
  rw [M.needT (show ds.length < 2 ^ 62 by have : ds.length ≤ 12 := hp.2.1; omega)]
  obtain ⟨f, f1, f2, l1, l2⟩ := repr_eq hp
  rw [f]
  walk_at "mi"
  rw [forM_same ?g]
  case g =>
    have key : ∀ u : U, u.top = true → (M.need (topA (Alt.l u : Alt U Pl) = true) (((m_PlanEq ⟨rs, ds⟩ (Alt.l u)).nx.bind fun a => if (!decide (a = false)) = true then M.pure (Fl.rt false) else M.pure (Fl.nx ())).next fun s101 => M.pure (Fl.nx ())) : M (Fl Unit Bool)) = M.pure (Fl.nx ()) := fun u h => by
      rw [M.needT (show topA (Alt.l u : Alt U Pl) = true from h), planEq_l h]
      rfl
    simp only [List.forall_mem_cons]
    exact ⟨key _ rfl, key _ rfl, key _ rfl, key _ rfl, key _ rfl, key _ rfl, key _ rfl, key _ rfl, key _ rfl, fun x m => nomatch m⟩
  walk_at "mi"
  have f1 : reprM rs = _ := f1
  have f2 : reprM ds = _ := f2
  have l1 : (toD rs).shown.length ≤ 100000 := l1
  have l2 : (toD ds).shown.length ≤ 100000 := l2
  have e1 : (Str.ofString "Plan(").length = 5 := by decide
  have e2 : (Str.ofString ", ").length = 2 := by decide
  have e3 : (Str.ofString ")").length = 1 := by decide
  rw [f1, f2]
  walk_at "mi"
  rw [M.needT (by omega), M.needT (by simp only [Str.length_append]; omega), M.needT (by simp only [Str.length_append]; omega), M.needT (by simp only [Str.length_append]; omega)]
  exact M.seqX (has_right_run (pl := ⟨rs, ds⟩) hp.1 rfl) fun b hb => hb
theorem law_true (s : Scr) (h : s.l.length ≤ 63) : (m_law s).run (fun b => b = true) fun _ => False := by
  unfold m_law
  walk_at "mi"
  refine ⟨by omega, by rw [rngI_len]; omega, ?_⟩
  refine M.run_seq (compM_run (fun _ b => b = true) (fun x m => ?_) (fun ys hp => all_id (paired_all hp fun _ _ z => z))) fun bs z => z
  have := rngI_mem.mp m
  exact ⟨by omega, M.mono m_pair_right (fun b z => ⟨b, rfl, z⟩) (fun _ z => z) pair_true⟩
end Dc

namespace Dc
open PySem PySem.Spec PyProof.Rows L2
section
variable {K : PySem.W.Frag} {mg : Str → Option Value}
theorem c_is_name (T : Tx K mg) : Cal K mg "is_name" (He.fAd K ("is_name", none)) (fdAt K ("is_name", none)) ["thing"] := ⟨T.glo 0, (T.def_ 0 (d := d_is_name)).kp, (T.def_ 0 (d := d_is_name)).bindsN fun _ _ _ _ _ _ us hl => match us, hl with | [_], _ => rfl⟩
theorem c_is_whole (T : Tx K mg) : Cal K mg "is_whole" (He.fAd K ("is_whole", none)) (fdAt K ("is_whole", none)) ["thing", "least", "most"] := ⟨T.glo 1, (T.def_ 1 (d := d_is_whole)).kp, (T.def_ 1 (d := d_is_whole)).bindsN fun _ _ _ _ _ _ us hl => match us, hl with | [_, _, _], _ => rfl⟩
theorem c_is_row (T : Tx K mg) : Cal K mg "is_row" (He.fAd K ("is_row", none)) (fdAt K ("is_row", none)) ["thing", "least", "most"] := ⟨T.glo 2, (T.def_ 2 (d := d_is_row)).kp, (T.def_ 2 (d := d_is_row)).bindsN fun _ _ _ _ _ _ us hl => match us, hl with | [_, _, _], _ => rfl⟩
theorem c_want_rooms (T : Tx K mg) : Cal K mg "want_rooms" (He.fAd K ("want_rooms", none)) (fdAt K ("want_rooms", none)) ["named"] := ⟨T.glo 3, (T.def_ 3 (d := d_want_rooms)).kp, (T.def_ 3 (d := d_want_rooms)).bindsN fun _ _ _ _ _ _ us hl => match us, hl with | [_], _ => rfl⟩
theorem c_want_ends (T : Tx K mg) : Cal K mg "want_ends" (He.fAd K ("want_ends", none)) (fdAt K ("want_ends", none)) ["named", "near", "far", "who"] := ⟨T.glo 4, (T.def_ 4 (d := d_want_ends)).kp, (T.def_ 4 (d := d_want_ends)).bindsN fun _ _ _ _ _ _ us hl => match us, hl with | [_, _, _, _], _ => rfl⟩
theorem c_is_bound (T : Tx K mg) : Cal K mg "is_bound" (He.fAd K ("is_bound", none)) (fdAt K ("is_bound", none)) ["thing"] := ⟨T.glo 5, (T.def_ 5 (d := d_is_bound)).kp, (T.def_ 5 (d := d_is_bound)).bindsN fun _ _ _ _ _ _ us hl => match us, hl with | [_], _ => rfl⟩
theorem c_want_range (T : Tx K mg) : Cal K mg "want_range" (He.fAd K ("want_range", none)) (fdAt K ("want_range", none)) ["least", "most", "who"] := ⟨T.glo 6, (T.def_ 6 (d := d_want_range)).kp, (T.def_ 6 (d := d_want_range)).bindsN fun _ _ _ _ _ _ us hl => match us, hl with | [_, _, _], _ => rfl⟩
theorem c_want_doors (T : Tx K mg) : Cal K mg "want_doors" (He.fAd K ("want_doors", none)) (fdAt K ("want_doors", none)) ["named", "gates"] := ⟨T.glo 7, (T.def_ 7 (d := d_want_doors)).kp, (T.def_ 7 (d := d_want_doors)).bindsN fun _ _ _ _ _ _ us hl => match us, hl with | [_, _], _ => rfl⟩
theorem c_PlanU_initU (T : Tx K mg) : CalI K mg (He.ga K "Plan") "Plan" (He.fAd K ("Plan", some "__init__")) (fdAt K ("Plan", some "__init__")) ["self", "rooms", "doors"] := ⟨T.glo 26, T.mkr 51, (T.def_ 8 (d := d_PlanU_initU)).bindsN fun _ _ _ _ _ _ us hl => match us, hl with | [_, _, _], _ => rfl⟩
theorem c_Plan_rooms (T : Tx K mg) : CalM K (He.ga K "Plan") "rooms" (He.fAd K ("Plan", some "rooms")) (fdAt K ("Plan", some "rooms")) ["self"] := ⟨T.cls 48, T.meth 52, (T.def_ 9 (d := d_Plan_rooms)).bindsN fun _ _ _ _ _ _ us hl => match us, hl with | [_], _ => rfl⟩
theorem c_Plan_doors (T : Tx K mg) : CalM K (He.ga K "Plan") "doors" (He.fAd K ("Plan", some "doors")) (fdAt K ("Plan", some "doors")) ["self"] := ⟨T.cls 48, T.meth 53, (T.def_ 10 (d := d_Plan_doors)).bindsN fun _ _ _ _ _ _ us hl => match us, hl with | [_], _ => rfl⟩
theorem c_PlanU_lenU (T : Tx K mg) : CalM K (He.ga K "Plan") "__len__" (He.fAd K ("Plan", some "__len__")) (fdAt K ("Plan", some "__len__")) ["self"] := ⟨T.cls 48, T.meth 54, (T.def_ 11 (d := d_PlanU_lenU)).bindsN fun _ _ _ _ _ _ us hl => match us, hl with | [_], _ => rfl⟩
theorem c_Plan_has (T : Tx K mg) : CalM K (He.ga K "Plan") "has" (He.fAd K ("Plan", some "has")) (fdAt K ("Plan", some "has")) ["self", "thing"] := ⟨T.cls 48, T.meth 55, (T.def_ 12 (d := d_Plan_has)).bindsN fun _ _ _ _ _ _ us hl => match us, hl with | [_, _], _ => rfl⟩
theorem c_PlanU_eqU (T : Tx K mg) : CalM K (He.ga K "Plan") "__eq__" (He.fAd K ("Plan", some "__eq__")) (fdAt K ("Plan", some "__eq__")) ["self", "other"] := ⟨T.cls 48, T.meth 56, (T.def_ 13 (d := d_PlanU_eqU)).bindsN fun _ _ _ _ _ _ us hl => match us, hl with | [_, _], _ => rfl⟩
theorem c_PlanU_reprU (T : Tx K mg) : CalM K (He.ga K "Plan") "__repr__" (He.fAd K ("Plan", some "__repr__")) (fdAt K ("Plan", some "__repr__")) ["self"] := ⟨T.cls 48, T.meth 57, (T.def_ 14 (d := d_PlanU_reprU)).bindsN fun _ _ _ _ _ _ us hl => match us, hl with | [_], _ => rfl⟩
theorem c__law_pot (T : Tx K mg) : Cal K mg "_law_pot" (He.fAd K ("_law_pot", none)) (fdAt K ("_law_pot", none)) ["_law_script", "_law_k"] := ⟨T.glo 8, (T.def_ 15 (d := d__law_pot)).kp, (T.def_ 15 (d := d__law_pot)).bindsN fun _ _ _ _ _ _ us hl => match us, hl with | [_, _], _ => rfl⟩
theorem c__law_take (T : Tx K mg) : Cal K mg "_law_take" (He.fAd K ("_law_take", none)) (fdAt K ("_law_take", none)) ["_law_pot_here", "_law_many"] := ⟨T.glo 9, (T.def_ 16 (d := d__law_take)).kp, (T.def_ 16 (d := d__law_take)).bindsN fun _ _ _ _ _ _ us hl => match us, hl with | [_, _], _ => rfl⟩
theorem c__law_name (T : Tx K mg) : Cal K mg "_law_name" (He.fAd K ("_law_name", none)) (fdAt K ("_law_name", none)) ["_law_pot_here", "_law_taken"] := ⟨T.glo 10, (T.def_ 17 (d := d__law_name)).kp, (T.def_ 17 (d := d__law_name)).bindsN fun _ _ _ _ _ _ us hl => match us, hl with | [_, _], _ => rfl⟩
theorem c__law_names (T : Tx K mg) : Cal K mg "_law_names" (He.fAd K ("_law_names", none)) (fdAt K ("_law_names", none)) ["_law_pot_here", "_law_many", "_law_taken"] := ⟨T.glo 11, (T.def_ 18 (d := d__law_names)).kp, (T.def_ 18 (d := d__law_names)).bindsN fun _ _ _ _ _ _ us hl => match us, hl with | [_, _, _], _ => rfl⟩
theorem c__law_wide (T : Tx K mg) : Cal K mg "_law_wide" (He.fAd K ("_law_wide", none)) (fdAt K ("_law_wide", none)) ["_law_pot_here"] := ⟨T.glo 12, (T.def_ 19 (d := d__law_wide)).kp, (T.def_ 19 (d := d__law_wide)).bindsN fun _ _ _ _ _ _ us hl => match us, hl with | [_], _ => rfl⟩
theorem c__law_range (T : Tx K mg) : Cal K mg "_law_range" (He.fAd K ("_law_range", none)) (fdAt K ("_law_range", none)) ["_law_pot_here", "_law_wide_here", "_law_has_nought"] := ⟨T.glo 13, (T.def_ 20 (d := d__law_range)).kp, (T.def_ 20 (d := d__law_range)).bindsN fun _ _ _ _ _ _ us hl => match us, hl with | [_, _, _], _ => rfl⟩
theorem c__law_door (T : Tx K mg) : Cal K mg "_law_door" (He.fAd K ("_law_door", none)) (fdAt K ("_law_door", none)) ["_law_pot_here", "_law_rooms", "_law_wide_here", "_law_has_nought"] := ⟨T.glo 14, (T.def_ 21 (d := d__law_door)).kp, (T.def_ 21 (d := d__law_door)).bindsN fun _ _ _ _ _ _ us hl => match us, hl with | [_, _, _, _], _ => rfl⟩
theorem c__law_doors (T : Tx K mg) : Cal K mg "_law_doors" (He.fAd K ("_law_doors", none)) (fdAt K ("_law_doors", none)) ["_law_pot_here", "_law_rooms", "_law_many", "_law_has_nought"] := ⟨T.glo 15, (T.def_ 22 (d := d__law_doors)).kp, (T.def_ 22 (d := d__law_doors)).bindsN fun _ _ _ _ _ _ us hl => match us, hl with | [_, _, _, _], _ => rfl⟩
theorem c__law_lists (T : Tx K mg) : Cal K mg "_law_lists" (He.fAd K ("_law_lists", none)) (fdAt K ("_law_lists", none)) ["_law_pot_here"] := ⟨T.glo 16, (T.def_ 23 (d := d__law_lists)).kp, (T.def_ 23 (d := d__law_lists)).bindsN fun _ _ _ _ _ _ us hl => match us, hl with | [_], _ => rfl⟩
theorem c__law_turned (T : Tx K mg) : Cal K mg "_law_turned" (He.fAd K ("_law_turned", none)) (fdAt K ("_law_turned", none)) ["_law_door_here"] := ⟨T.glo 17, (T.def_ 24 (d := d__law_turned)).kp, (T.def_ 24 (d := d__law_turned)).bindsN fun _ _ _ _ _ _ us hl => match us, hl with | [_], _ => rfl⟩
theorem c__law_wider (T : Tx K mg) : Cal K mg "_law_wider" (He.fAd K ("_law_wider", none)) (fdAt K ("_law_wider", none)) ["_law_door_here"] := ⟨T.glo 18, (T.def_ 25 (d := d__law_wider)).kp, (T.def_ 25 (d := d__law_wider)).bindsN fun _ _ _ _ _ _ us hl => match us, hl with | [_], _ => rfl⟩
theorem c__law_changed (T : Tx K mg) : Cal K mg "_law_changed" (He.fAd K ("_law_changed", none)) (fdAt K ("_law_changed", none)) ["_law_pot_here", "_law_rooms", "_law_doors_here"] := ⟨T.glo 19, (T.def_ 26 (d := d__law_changed)).kp, (T.def_ 26 (d := d__law_changed)).bindsN fun _ _ _ _ _ _ us hl => match us, hl with | [_, _, _], _ => rfl⟩
theorem c__law_has_right (T : Tx K mg) : Cal K mg "_law_has_right" (He.fAd K ("_law_has_right", none)) (fdAt K ("_law_has_right", none)) ["_law_pot_here", "_law_plan", "_law_rooms"] := ⟨T.glo 20, (T.def_ 27 (d := d__law_has_right)).kp, (T.def_ 27 (d := d__law_has_right)).bindsN fun _ _ _ _ _ _ us hl => match us, hl with | [_, _, _], _ => rfl⟩
theorem c__law_pair_right (T : Tx K mg) : Cal K mg "_law_pair_right" (He.fAd K ("_law_pair_right", none)) (fdAt K ("_law_pair_right", none)) ["_law_pot_here"] := ⟨T.glo 21, (T.def_ 28 (d := d__law_pair_right)).kp, (T.def_ 28 (d := d__law_pair_right)).bindsN fun _ _ _ _ _ _ us hl => match us, hl with | [_], _ => rfl⟩
theorem c_law (T : Tx K mg) : Cal K mg "law" (He.fAd K ("law", none)) (fdAt K ("law", none)) ["_law_script"] := ⟨T.glo 22, (T.def_ 29 (d := d_law)).kp, (T.def_ 29 (d := d_law)).bindsN fun _ _ _ _ _ _ us hl => match us, hl with | [_], _ => rfl⟩
end
end Dc
namespace Dc
open PySem PySem.Spec PyProof.Rows L2
section
variable {P : Program} {w : World} {K : PySem.W.Frag} {mg : Str → Option Value} {base : Heap}
theorem sc_is_name : FnScope ["thing", "sign"] ["thing"] (defScope s_is_name) := ⟨rfl, rfl, rfl, by decide +kernel, rfl, by decide +kernel, by decide +kernel⟩
theorem ok_is_name (T : Tx K mg) : Ok P w K mg base (L2.CX P w) 1 (He.fAd K ("is_name", none)) (fdAt K ("is_name", none)) ["thing"] (sp_is_name K) := by
  obtain ⟨_tMOST_LETTERS, gMOST_LETTERS⟩ := T.int 36
  obtain ⟨_tLETTERS, gLETTERS⟩ := T.str 37
  refine okD (T.def_ 0 (d := d_is_name)) sc_is_name len_is_name (fun cdv A outer s H vs Q E hr hg h => ⟨t_is_name K, PSs.nox ?_, rd_is_name h⟩)
  exact pss_cons (ps_if (PW.pt (pw_or (pt_not (pt_val (pe_callB call_isi (by rfl) (T.free 28) (by decide +kernel) (pa_cons (pv 0) (pa_cons (pe_bltn (by rfl) (T.free 27) (by decide +kernel) rfl) pa_nil))))) (pw_or1 (pt_not (pt_chain op_le op_le pe_int (pe_callB call_len_str (by rfl) (T.free 32) (by decide +kernel) (pa_cons (pv 0) pa_nil)) (pe_glob (by rfl) gMOST_LETTERS ⟨_, rfl⟩)))))) (pss_one (ps_ret pe_bl)) pss_nil)
      (pss_one (ps_ret (pe_callB (cr_all rfl) (by rfl) (T.free 33) (by decide +kernel) (pa_cons (pe_lc (own := [("sign", 1)]) (g := gName 1) (tt := tYes) (te := tOp rInS (tVar 1) (tC (.str "abcdefghijklmnopqrstuvwxyz"))) rfl sc_is_name.nd (pi_str (pv 0)) (blkOk_by (own := [("sign", 1)]) (N := ["thing", "sign"]) (sc := defScope s_is_name) (by decide +kernel)) (fun _ _ _ _ _ => pg_name (i := 1) sc_is_name.nd rfl (by first | exact Or.inl rfl | exact Or.inr rfl)) (fun _ _ _ _ _ => pts_nil) (fun _ _ _ _ _ => pe_cmpR op_inS (pv 1) (pe_glob (by rfl) gLETTERS ⟨_, rfl⟩) (by rfl))) pa_nil))))
theorem sc_is_whole : FnScope ["thing", "least", "most"] ["thing", "least", "most"] (defScope s_is_whole) := ⟨rfl, rfl, rfl, by decide +kernel, rfl, by decide +kernel, by decide +kernel⟩
theorem ok_is_whole (T : Tx K mg) : Ok P w K mg base (L2.CX P w) 1 (He.fAd K ("is_whole", none)) (fdAt K ("is_whole", none)) ["thing", "least", "most"] (sp_is_whole K) := by
  refine okD (T.def_ 1 (d := d_is_whole)) sc_is_whole len_is_whole (fun cdv A outer s H vs Q E hr hg h => ⟨t_is_whole K, PSs.nox ?_, rd_is_whole h⟩)
  exact pss_one (ps_ret (pe_and (pe_callB call_isi (by rfl) (T.free 28) (by decide +kernel) (pa_cons (pv 0) (pa_cons (pe_bltn (by rfl) (T.free 42) (by decide +kernel) rfl) pa_nil))) (pe_and (pe_not (pe_callB call_isi (by rfl) (T.free 28) (by decide +kernel) (pa_cons (pv 0) (pa_cons (pe_bltn (by rfl) (T.free 41) (by decide +kernel) rfl) pa_nil)))) (pe_one (pe_chain op_le op_le (pv 1) (pv 0) (pv 2))))))
theorem sc_is_row : FnScope ["thing", "least", "most"] ["thing", "least", "most"] (defScope s_is_row) := ⟨rfl, rfl, rfl, by decide +kernel, rfl, by decide +kernel, by decide +kernel⟩
theorem ok_is_row (T : Tx K mg) : Ok P w K mg base (L2.CX P w) 1 (He.fAd K ("is_row", none)) (fdAt K ("is_row", none)) ["thing", "least", "most"] (sp_is_row K) := by
  refine okD (T.def_ 2 (d := d_is_row)) sc_is_row len_is_row (fun cdv A outer s H vs Q E hr hg h => ⟨t_is_row K, PSs.nox ?_, rd_is_row h⟩)
  exact pss_one (ps_ret (pe_and (pe_callB call_isi (by rfl) (T.free 28) (by decide +kernel) (pa_cons (pv 0) (pa_cons (pe_bltn (by rfl) (T.free 29) (by decide +kernel) rfl) pa_nil))) (pe_one (pe_chain op_le op_le (pv 1) (pe_callB call_len_seq (by rfl) (T.free 32) (by decide +kernel) (pa_cons (pv 0) pa_nil)) (pv 2)))))
theorem sc_want_rooms : FnScope ["named", "number", "room"] ["named"] (defScope s_want_rooms) := ⟨rfl, rfl, rfl, by decide +kernel, rfl, by decide +kernel, by decide +kernel⟩
theorem ok_want_rooms (T : Tx K mg) : Ok P w K mg base (L2.CX P w) 2 (He.fAd K ("want_rooms", none)) (fdAt K ("want_rooms", none)) ["named"] (sp_want_rooms K) := by
  obtain ⟨_tMOST_ROOMS, gMOST_ROOMS⟩ := T.int 34
  refine okD (T.def_ 3 (d := d_want_rooms)) sc_want_rooms len_want_rooms (fun cdv A outer s H vs Q E hr hg h => ⟨t_want_rooms K, PSs.nox ?_, rd_want_rooms h⟩)
  exact pss_cons (ps_if (pt_not (pt_val (c_call (ok_is_row T) (c_is_row T) (hr.mono (by decide)) hg passL (pa_cons (pv 0) (pa_cons pe_int (pa_cons (pe_glob (by rfl) gMOST_ROOMS ⟨_, rfl⟩) pa_nil)))))) (pss_one ps_never) pss_nil)
      (pss_one (ps_for PassesOwn.never rfl (pi_enum (by rfl) (T.free 35) (pa_cons (pv 0) pa_nil)) (pg_tup (n := 2) rfl (pgs_cons (pg_name (i := 1) sc_want_rooms.nd rfl (by first | exact Or.inl rfl | exact Or.inr rfl)) (pgs_cons (pg_name (i := 2) sc_want_rooms.nd rfl (by first | exact Or.inl rfl | exact Or.inr rfl)) pgs_nil))) (pss_cons (ps_if (pt_not (pt_val (c_call (ok_is_name T) (c_is_name T) (hr.mono (by decide)) hg passL (pa_cons (pv 2) pa_nil)))) (pss_one ps_never) pss_nil)
      (pss_one (ps_if (pt_cmpR op_in_seq (pv 2) (pe_slice sl_list (pv 0) po_none (po_some (pv 1))) (by rfl)) (pss_one ps_never) pss_nil)))))
theorem sc_want_ends : FnScope ["named", "near", "far", "who"] ["named", "near", "far", "who"] (defScope s_want_ends) := ⟨rfl, rfl, rfl, by decide +kernel, rfl, by decide +kernel, by decide +kernel⟩
theorem ok_want_ends (T : Tx K mg) : Ok P w K mg base (L2.CX P w) 1 (He.fAd K ("want_ends", none)) (fdAt K ("want_ends", none)) ["named", "near", "far", "who"] (sp_want_ends K) := by
  refine okD (T.def_ 4 (d := d_want_ends)) sc_want_ends len_want_ends (fun cdv A outer s H vs Q E hr hg h => ⟨t_want_ends K, PSs.nox ?_, rd_want_ends h⟩)
  exact pss_cons (ps_if (pt_cmpR op_notIn_seq (pv 1) (pv 0) (by rfl)) (pss_one ps_never) pss_nil)
      (pss_cons (ps_if (pt_cmpR op_notIn_seq (pv 2) (pv 0) (by rfl)) (pss_one ps_never) pss_nil)
      (pss_one (ps_if (pt_cmpR op_eq (pv 1) (pv 2) (nomark _)) (pss_one ps_never) pss_nil)))
theorem sc_is_bound : FnScope ["thing"] ["thing"] (defScope s_is_bound) := ⟨rfl, rfl, rfl, by decide +kernel, rfl, by decide +kernel, by decide +kernel⟩
theorem ok_is_bound (T : Tx K mg) : Ok P w K mg base (L2.CX P w) 2 (He.fAd K ("is_bound", none)) (fdAt K ("is_bound", none)) ["thing"] (sp_is_bound K) := by
  obtain ⟨_tWIDEST, gWIDEST⟩ := T.int 43
  refine okD (T.def_ 5 (d := d_is_bound)) sc_is_bound len_is_bound (fun cdv A outer s H vs Q E hr hg h => ⟨t_is_bound K, PSs.nox ?_, rd_is_bound h⟩)
  exact pss_one (ps_ret (c_call (ok_is_whole T) (c_is_whole T) (hr.mono (by decide)) hg passL (pa_cons (pv 0) (pa_cons (pe_un un_neg (pe_glob (by rfl) gWIDEST ⟨_, rfl⟩)) (pa_cons (pe_glob (by rfl) gWIDEST ⟨_, rfl⟩) pa_nil)))))
theorem sc_want_range : FnScope ["least", "most", "who"] ["least", "most", "who"] (defScope s_want_range) := ⟨rfl, rfl, rfl, by decide +kernel, rfl, by decide +kernel, by decide +kernel⟩
theorem ok_want_range (T : Tx K mg) : Ok P w K mg base (L2.CX P w) 3 (He.fAd K ("want_range", none)) (fdAt K ("want_range", none)) ["least", "most", "who"] (sp_want_range K) := by
  refine okD (T.def_ 6 (d := d_want_range)) sc_want_range len_want_range (fun cdv A outer s H vs Q E hr hg h => ⟨t_want_range K, PSs.nox ?_, rd_want_range h⟩)
  exact pss_cons (ps_if (pt_not (pt_val (c_call (ok_is_bound T) (c_is_bound T) (hr.mono (by decide)) hg passL (pa_cons (pv 0) pa_nil)))) (pss_one ps_never) pss_nil)
      (pss_cons (ps_if (pt_not (pt_val (c_call (ok_is_bound T) (c_is_bound T) (hr.mono (by decide)) hg passL (pa_cons (pv 1) pa_nil)))) (pss_one ps_never) pss_nil)
      (pss_one (ps_if (pt_cmpR op_gt (pv 0) (pv 1) (nomark _)) (pss_one ps_never) pss_nil)))
theorem sc_want_doors : FnScope ["named", "gates", "number", "gate", "near", "far", "least", "most"] ["named", "gates"] (defScope s_want_doors) := ⟨rfl, rfl, rfl, by decide +kernel, rfl, by decide +kernel, by decide +kernel⟩
theorem ok_want_doors (T : Tx K mg) : Ok P w K mg base (L2.CX P w) 4 (He.fAd K ("want_doors", none)) (fdAt K ("want_doors", none)) ["named", "gates"] (sp_want_doors K) := by
  obtain ⟨_tMOST_DOORS, gMOST_DOORS⟩ := T.int 38
  obtain ⟨_tIN_DOOR, gIN_DOOR⟩ := T.int 39
  refine okD (T.def_ 7 (d := d_want_doors)) sc_want_doors len_want_doors (fun cdv A outer s H vs Q E hr hg h => ⟨t_want_doors K, PSs.nox ?_, rd_want_doors h⟩)
  exact pss_cons (ps_if (pt_not (pt_val (c_call (ok_is_row T) (c_is_row T) (hr.mono (by decide)) hg passL (pa_cons (pv 1) (pa_cons pe_int (pa_cons (pe_glob (by rfl) gMOST_DOORS ⟨_, rfl⟩) pa_nil)))))) (pss_one ps_never) pss_nil)
      (pss_one (ps_for PassesOwn.never rfl (pi_enum (by rfl) (T.free 35) (pa_cons (pv 1) pa_nil)) (pg_tup (n := 2) rfl (pgs_cons (pg_name (i := 2) sc_want_doors.nd rfl (by first | exact Or.inl rfl | exact Or.inr rfl)) (pgs_cons (pg_name (i := 3) sc_want_doors.nd rfl (by first | exact Or.inl rfl | exact Or.inr rfl)) pgs_nil))) (pss_cons (ps_if (PW.pt (pw_or (pt_not (pt_val (pe_callB call_isi (by rfl) (T.free 28) (by decide +kernel) (pa_cons (pv 3) (pa_cons (pe_bltn (by rfl) (T.free 40) (by decide +kernel) rfl) pa_nil))))) (pw_or1 (pt_cmpR op_ne (pe_callB call_len_seq (by rfl) (T.free 32) (by decide +kernel) (pa_cons (pv 3) pa_nil)) (pe_glob (by rfl) gIN_DOOR ⟨_, rfl⟩) (nomark _))))) (pss_one ps_never) pss_nil)
      (pss_cons (ps_asg (pv 3) (pg_tup (n := 4) rfl (pgs_cons (pg_name (i := 4) sc_want_doors.nd rfl (by first | exact Or.inl rfl | exact Or.inr rfl)) (pgs_cons (pg_name (i := 5) sc_want_doors.nd rfl (by first | exact Or.inl rfl | exact Or.inr rfl)) (pgs_cons (pg_name (i := 6) sc_want_doors.nd rfl (by first | exact Or.inl rfl | exact Or.inr rfl)) (pgs_cons (pg_name (i := 7) sc_want_doors.nd rfl (by first | exact Or.inl rfl | exact Or.inr rfl)) pgs_nil))))))
      (pss_cons (ps_expr (c_call (ok_want_ends T) (c_want_ends T) (hr.mono (by decide)) hg passL (pa_cons (pv 0) (pa_cons (pv 4) (pa_cons (pv 5) (pa_cons (pe_callTy call_str_int (by rfl) (T.free 27) (by decide +kernel) (pa_cons (pv 2) pa_nil)) pa_nil))))))
      (pss_one (ps_expr (c_call (ok_want_range T) (c_want_range T) (hr.mono (by decide)) hg passL (pa_cons (pv 6) (pa_cons (pv 7) (pa_cons (pe_callTy call_str_int (by rfl) (T.free 27) (by decide +kernel) (pa_cons (pv 2) pa_nil)) pa_nil)))))))))))
theorem sc_PlanU_initU : FnScope ["self", "rooms", "doors"] ["self", "rooms", "doors"] (defScope s_PlanU_initU) := ⟨rfl, rfl, rfl, by decide +kernel, rfl, by decide +kernel, by decide +kernel⟩
theorem ok_PlanU_initU (T : Tx K mg) : Ok P w K mg base (L2.CX P w) 5 (He.fAd K ("Plan", some "__init__")) (fdAt K ("Plan", some "__init__")) ["self", "rooms", "doors"] (sp_PlanI K) := by
  refine okD (T.def_ 8 (d := d_PlanU_initU)) sc_PlanU_initU len_PlanI (fun cdv A outer s H vs Q E hr hg h => ⟨t_PlanI K, PSs.nox ?_, rd_PlanI h⟩)
  exact pss_cons (ps_expr (c_call (ok_want_rooms T) (c_want_rooms T) (hr.mono (by decide)) hg passL (pa_cons (pv 1) pa_nil)))
      (pss_cons (ps_expr (c_call (ok_want_doors T) (c_want_doors T) (hr.mono (by decide)) hg passL (pa_cons (pv 1) (pa_cons (pv 2) pa_nil))))
      (pss_cons (ps_fld (pv 0) (pe_callTy call_tupL (by rfl) (T.free 40) (by decide +kernel) (pa_cons (pv 1) pa_nil)) rfl)
      (pss_one (ps_fld (pv 0) (pe_callTy call_tupL (by rfl) (T.free 40) (by decide +kernel) (pa_cons (pv 2) pa_nil)) rfl))))
theorem sc_Plan_rooms : FnScope ["self"] ["self"] (defScope s_Plan_rooms) := ⟨rfl, rfl, rfl, by decide +kernel, rfl, by decide +kernel, by decide +kernel⟩
theorem ok_Plan_rooms (T : Tx K mg) : Ok P w K mg base (L2.CX P w) 1 (He.fAd K ("Plan", some "rooms")) (fdAt K ("Plan", some "rooms")) ["self"] (sp_PlanRooms K) := by
  refine okD (T.def_ 9 (d := d_Plan_rooms)) sc_Plan_rooms len_PlanRooms (fun cdv A outer s H vs Q E hr hg h => ⟨t_PlanRooms K, PSs.nox ?_, rd_PlanRooms h⟩)
  exact pss_one (ps_ret (pe_callTy call_list_of (by rfl) (T.free 29) (by decide +kernel) (pa_cons (pe_fld (pv 0) rfl) pa_nil)))
theorem sc_Plan_doors : FnScope ["self"] ["self"] (defScope s_Plan_doors) := ⟨rfl, rfl, rfl, by decide +kernel, rfl, by decide +kernel, by decide +kernel⟩
theorem ok_Plan_doors (T : Tx K mg) : Ok P w K mg base (L2.CX P w) 1 (He.fAd K ("Plan", some "doors")) (fdAt K ("Plan", some "doors")) ["self"] (sp_PlanDoors K) := by
  refine okD (T.def_ 10 (d := d_Plan_doors)) sc_Plan_doors len_PlanDoors (fun cdv A outer s H vs Q E hr hg h => ⟨t_PlanDoors K, PSs.nox ?_, rd_PlanDoors h⟩)
  exact pss_one (ps_ret (pe_callTy call_list_of (by rfl) (T.free 29) (by decide +kernel) (pa_cons (pe_fld (pv 0) rfl) pa_nil)))
theorem sc_PlanU_lenU : FnScope ["self"] ["self"] (defScope s_PlanU_lenU) := ⟨rfl, rfl, rfl, by decide +kernel, rfl, by decide +kernel, by decide +kernel⟩
theorem ok_PlanU_lenU (T : Tx K mg) : Ok P w K mg base (L2.CX P w) 1 (He.fAd K ("Plan", some "__len__")) (fdAt K ("Plan", some "__len__")) ["self"] (sp_PlanLen K) := by
  refine okD (T.def_ 11 (d := d_PlanU_lenU)) sc_PlanU_lenU len_PlanLen (fun cdv A outer s H vs Q E hr hg h => ⟨t_PlanLen K, PSs.nox ?_, rd_PlanLen h⟩)
  exact pss_one (ps_ret (pe_callB call_len_seq (by rfl) (T.free 32) (by decide +kernel) (pa_cons (pe_fld (pv 0) rfl) pa_nil)))
theorem sc_Plan_has : FnScope ["self", "thing"] ["self", "thing"] (defScope s_Plan_has) := ⟨rfl, rfl, rfl, by decide +kernel, rfl, by decide +kernel, by decide +kernel⟩
theorem ok_Plan_has (T : Tx K mg) : Ok P w K mg base (L2.CX P w) 1 (He.fAd K ("Plan", some "has")) (fdAt K ("Plan", some "has")) ["self", "thing"] (sp_PlanHas K) := by
  refine okD (T.def_ 12 (d := d_Plan_has)) sc_Plan_has len_PlanHas (fun cdv A outer s H vs Q E hr hg h => ⟨t_PlanHas K, PSs.nox ?_, rd_PlanHas h⟩)
  exact pss_one (ps_ret (pe_and (pe_callB call_isi (by rfl) (T.free 28) (by decide +kernel) (pa_cons (pv 1) (pa_cons (pe_bltn (by rfl) (T.free 27) (by decide +kernel) rfl) pa_nil))) (pe_one (pe_cmpR op_in_seq (pv 1) (pe_fld (pv 0) rfl) (by rfl)))))
theorem sc_PlanU_eqU : FnScope ["self", "other"] ["self", "other"] (defScope s_PlanU_eqU) := ⟨rfl, rfl, rfl, by decide +kernel, rfl, by decide +kernel, by decide +kernel⟩
theorem ok_PlanU_eqU (T : Tx K mg) : Ok P w K mg base (L2.CX P w) 1 (He.fAd K ("Plan", some "__eq__")) (fdAt K ("Plan", some "__eq__")) ["self", "other"] (sp_PlanEq K) := by
  refine okD (T.def_ 13 (d := d_PlanU_eqU)) sc_PlanU_eqU len_PlanEq (fun cdv A outer s H vs Q E hr hg h => ⟨t_PlanEq K, PSs.nox ?_, rd_PlanEq h⟩)
  exact pss_one (ps_ret (pe_and (pe_callB call_isi (by rfl) (T.free 28) (by decide +kernel) (pa_cons (pv 1) (pa_cons (pe_glob (by rfl) (T.glo 26) rfl) pa_nil))) (pe_and (pe_cmpR (op_eqD hr.units) (pe_fld (pv 0) rfl) (pe_fld (pv 1) rfl) (nomark _)) (pe_one (pe_cmpR (op_eqD hr.units) (pe_fld (pv 0) rfl) (pe_fld (pv 1) rfl) (nomark _))))))
theorem sc_PlanU_reprU : FnScope ["self"] ["self"] (defScope s_PlanU_reprU) := ⟨rfl, rfl, rfl, by decide +kernel, rfl, by decide +kernel, by decide +kernel⟩
theorem ok_PlanU_reprU (T : Tx K mg) : Ok P w K mg base (L2.CX P w) 1 (He.fAd K ("Plan", some "__repr__")) (fdAt K ("Plan", some "__repr__")) ["self"] (sp_PlanRepr K) := by
  refine okD (T.def_ 14 (d := d_PlanU_reprU)) sc_PlanU_reprU len_PlanRepr (fun cdv A outer s H vs Q E hr hg h => ⟨t_PlanRepr K, PSs.nox ?_, rd_PlanRepr h⟩)
  exact pss_one (ps_ret (pe_joined (PJ.cons pe_str (PJ.cons (pe_fmtD hg hr.units (T.ex 0) (pe_callTy call_list_of (by rfl) (T.free 29) (by decide +kernel) (pa_cons (pe_fld (pv 0) rfl) pa_nil))) (PJ.cons pe_str (PJ.cons (pe_fmtD hg hr.units (T.ex 0) (pe_callTy call_list_of (by rfl) (T.free 29) (by decide +kernel) (pa_cons (pe_fld (pv 0) rfl) pa_nil))) (PJ.cons pe_str PJ.nil)))))))
theorem sc__law_pot : FnScope ["_law_script", "_law_k", "_law_cell", "_law_number"] ["_law_script", "_law_k"] (defScope s__law_pot) := ⟨rfl, rfl, rfl, by decide +kernel, rfl, by decide +kernel, by decide +kernel⟩
theorem ok__law_pot (T : Tx K mg) : Ok P w K mg base (L2.CX P w) 1 (He.fAd K ("_law_pot", none)) (fdAt K ("_law_pot", none)) ["_law_script", "_law_k"] (sp_pot K) := by
  refine okD (T.def_ 15 (d := d__law_pot)) sc__law_pot len_pot (fun cdv A outer s H vs Q E hr hg h => ⟨t_pot K, PSs.nox ?_, rd_pot h⟩)
  exact pss_cons (ps_set (i := 2) sc__law_pot.nd rfl (by first | exact Or.inl rfl | exact Or.inr rfl) (pe_op op_add (pe_op op_mul pe_int (pv 1)) pe_int))
      (pss_cons (ps_if (pt_cmpR op_lt (pv 1) (pe_callB call_len_seq (by rfl) (T.free 32) (by decide +kernel) (pa_cons (pv 0) pa_nil)) (nomark _)) (pss_one (ps_set (i := 2) sc__law_pot.nd rfl (by first | exact Or.inl rfl | exact Or.inr rfl) (pe_callB call_abs (by rfl) (T.free 47) (by decide +kernel) (pa_cons (pe_ix ix_list (pv 0) (pv 1) (fun _ _ => rfl)) pa_nil)))) pss_nil)
      (pss_cons (ps_set (i := 3) sc__law_pot.nd rfl (by first | exact Or.inl rfl | exact Or.inr rfl) (pe_op op_mod (pe_op op_add (pe_op op_add (pv 2) (pe_op op_mul pe_int (pv 1))) pe_int) pe_int))
      (pss_one (ps_ret (pe_lst (pa_cons (pe_callB (call_max2 rfl) (by rfl) (T.free 46) (by decide +kernel) (pa_cons pe_int (pa_cons (pe_op op_sub (pv 2) (pe_op op_pow pe_int pe_int)) pa_nil))) (pa_cons (pe_op op_add (pe_op op_mod (pe_op op_mul (pv 3) (pv 3)) pe_int) pe_int) pa_nil)))))))
theorem sc__law_take : FnScope ["_law_pot_here", "_law_many", "_law_digit"] ["_law_pot_here", "_law_many"] (defScope s__law_take) := ⟨rfl, rfl, rfl, by decide +kernel, rfl, by decide +kernel, by decide +kernel⟩
theorem ok__law_take (T : Tx K mg) : Ok P w K mg base (L2.CX P w) 1 (He.fAd K ("_law_take", none)) (fdAt K ("_law_take", none)) ["_law_pot_here", "_law_many"] (sp_take K) := by
  refine okD (T.def_ 16 (d := d__law_take)) sc__law_take len_take (fun cdv A outer s H vs Q E hr hg h => ⟨t_take K, PSs.nox ?_, rd_take h⟩)
  exact pss_cons (ps_if (pt_cmpR op_gt (pe_ix ix_list (pv 0) pe_int (fun _ _ => rfl)) pe_int (nomark _)) (pss_cons (ps_asg (pe_callB call_divmod (by rfl) (T.free 31) (by decide +kernel) (pa_cons (pe_ix ix_list (pv 0) pe_int (fun _ _ => rfl)) (pa_cons (pv 1) pa_nil))) (pg_tup (n := 2) rfl (pgs_cons (pg_sub (pv 0) pe_int set_list) (pgs_cons (pg_name (i := 2) sc__law_take.nd rfl (by first | exact Or.inl rfl | exact Or.inr rfl)) pgs_nil))))
      (pss_one (ps_ret (pv 2)))) pss_nil)
      (pss_cons (ps_asg (pe_op op_mod (pe_op op_add (pe_op op_mul (pe_ix ix_list (pv 0) pe_int (fun _ _ => rfl)) pe_int) pe_int) pe_int) (pg_sub (pv 0) pe_int set_list))
      (pss_one (ps_ret (pe_op op_mod (pe_op op_fdiv (pe_op op_mod (pe_op op_mul (pe_ix ix_list (pv 0) pe_int (fun _ _ => rfl)) (pe_ix ix_list (pv 0) pe_int (fun _ _ => rfl))) pe_int) pe_int) (pv 1)))))
theorem sc__law_name : FnScope ["_law_pot_here", "_law_taken", "_law_letters", "_law_name_here", "_law_k", "_law_letter"] ["_law_pot_here", "_law_taken"] (defScope s__law_name) := ⟨rfl, rfl, rfl, by decide +kernel, rfl, by decide +kernel, by decide +kernel⟩
theorem ok__law_name (T : Tx K mg) : Ok P w K mg base (L2.CX P w) 2 (He.fAd K ("_law_name", none)) (fdAt K ("_law_name", none)) ["_law_pot_here", "_law_taken"] (sp_name K) := by
  refine okD (T.def_ 17 (d := d__law_name)) sc__law_name len_name (fun cdv A outer s H vs Q E hr hg h => ⟨t_name K, PSs.nox ?_, rd_name h⟩)
  exact pss_cons (ps_set (i := 2) sc__law_name.nd rfl (by first | exact Or.inl rfl | exact Or.inr rfl) pe_str)
      (pss_cons (ps_set (i := 3) sc__law_name.nd rfl (by first | exact Or.inl rfl | exact Or.inr rfl) (pe_join pe_str (pe_lc (own := [("_law_k", 4)]) (g := gName 4) (tt := tYes) (te := tOp rIxS (tVar 2) (tF (sp_take K) E0 (tCons (tVar 0) (tCons (tC (.int 26)) tNil)))) rfl sc__law_name.nd (pi_range1 (by rfl) (T.free 30) (pa_cons (pe_op op_add pe_int (c_call (ok__law_take T) (c__law_take T) (hr.mono (by decide)) hg passL (pa_cons (pv 0) (pa_cons pe_int pa_nil)))) pa_nil)) (blkOk_by (own := [("_law_k", 4)]) (N := ["_law_pot_here", "_law_taken", "_law_letters", "_law_name_here", "_law_k", "_law_letter"]) (sc := defScope s__law_name) (by decide +kernel)) (fun _ _ _ _ _ => pg_name (i := 4) sc__law_name.nd rfl (by first | exact Or.inl rfl | exact Or.inr rfl)) (fun _ _ _ _ _ => pts_nil) (fun _ _ _ _ _ => pe_ix ix_str (pv 2) (c_call (ok__law_take T) (c__law_take T) (hr.mono (by decide)) hg passL (pa_cons (pv 0) (pa_cons pe_int pa_nil))) (fun _ _ => rfl)))))
      (pss_cons (ps_if (pt_cmpR op_in_seq (pv 3) (pv 1) (by rfl)) (pss_one (ps_ret (pe_ix ix_list (pe_lc (own := [("_law_letter", 5)]) (g := gName 5) (tt := tTest (tOp (rIn K true) (tVar 5) (tVar 1))) (te := tVar 5) rfl sc__law_name.nd (pi_str (pv 2)) (blkOk_by (own := [("_law_letter", 5)]) (N := ["_law_pot_here", "_law_taken", "_law_letters", "_law_name_here", "_law_k", "_law_letter"]) (sc := defScope s__law_name) (by decide +kernel)) (fun _ _ _ _ _ => pg_name (i := 5) sc__law_name.nd rfl (by first | exact Or.inl rfl | exact Or.inr rfl)) (fun _ _ _ _ _ => pts_one (pt_cmpR op_notIn_seq (pv 5) (pv 1) (by rfl))) (fun _ _ _ _ _ => pv 5)) pe_int (fun _ _ => rfl)))) pss_nil)
      (pss_one (ps_ret (pv 3)))))
theorem sc__law_names : FnScope ["_law_pot_here", "_law_many", "_law_taken", "_law_found", "_law_k"] ["_law_pot_here", "_law_many", "_law_taken"] (defScope s__law_names) := ⟨rfl, rfl, rfl, by decide +kernel, rfl, by decide +kernel, by decide +kernel⟩
theorem ok__law_names (T : Tx K mg) : Ok P w K mg base (L2.CX P w) 3 (He.fAd K ("_law_names", none)) (fdAt K ("_law_names", none)) ["_law_pot_here", "_law_many", "_law_taken"] (sp_names K) := by
  refine okD (T.def_ 18 (d := d__law_names)) sc__law_names len_names (fun cdv A outer s H vs Q E hr hg h => ⟨t_names K, PSs.nox ?_, rd_names h⟩)
  exact pss_cons (ps_set (i := 3) sc__law_names.nd rfl (by first | exact Or.inl rfl | exact Or.inr rfl) (pe_lst pa_nil))
      (pss_cons (ps_for PassesOwn.never rfl (pi_range1 (by rfl) (T.free 30) (pa_cons (pv 1) pa_nil)) (pg_name (i := 4) sc__law_names.nd rfl (by first | exact Or.inl rfl | exact Or.inr rfl)) (pss_one (ps_expr (pe_bm PySem.F.plainAttrs_list PySem.F.slot_list_append PySem.F.type_list_append mt_append (pv 3) (pa_cons (c_call (ok__law_name T) (c__law_name T) (hr.mono (by decide)) hg passL (pa_cons (pv 0) (pa_cons (pe_op op_cat (pv 2) (pv 3)) pa_nil))) pa_nil)))))
      (pss_one (ps_ret (pv 3))))
theorem sc__law_wide : FnScope ["_law_pot_here"] ["_law_pot_here"] (defScope s__law_wide) := ⟨rfl, rfl, rfl, by decide +kernel, rfl, by decide +kernel, by decide +kernel⟩
theorem ok__law_wide (T : Tx K mg) : Ok P w K mg base (L2.CX P w) 2 (He.fAd K ("_law_wide", none)) (fdAt K ("_law_wide", none)) ["_law_pot_here"] (sp_wide K) := by
  refine okD (T.def_ 19 (d := d__law_wide)) sc__law_wide len_wide (fun cdv A outer s H vs Q E hr hg h => ⟨t_wide K, PSs.nox ?_, rd_wide h⟩)
  exact pss_one (ps_ret (pe_ix ix_list (pe_lst (pa_cons pe_int (pa_cons pe_int (pa_cons pe_int (pa_cons pe_int (pa_cons pe_int (pa_cons pe_int pa_nil))))))) (c_call (ok__law_take T) (c__law_take T) (hr.mono (by decide)) hg passL (pa_cons (pv 0) (pa_cons pe_int pa_nil))) (fun _ _ => rfl)))
theorem sc__law_range : FnScope ["_law_pot_here", "_law_wide_here", "_law_has_nought", "_law_least"] ["_law_pot_here", "_law_wide_here", "_law_has_nought"] (defScope s__law_range) := ⟨rfl, rfl, rfl, by decide +kernel, rfl, by decide +kernel, by decide +kernel⟩
theorem ok__law_range (T : Tx K mg) : Ok P w K mg base (L2.CX P w) 2 (He.fAd K ("_law_range", none)) (fdAt K ("_law_range", none)) ["_law_pot_here", "_law_wide_here", "_law_has_nought"] (sp_range K) := by
  refine okD (T.def_ 20 (d := d__law_range)) sc__law_range len_range (fun cdv A outer s H vs Q E hr hg h => ⟨t_range K, PSs.nox ?_, rd_range h⟩)
  exact pss_cons (ps_if (pt_val (pv 2)) (pss_one (ps_ret (pe_tup (pa_cons (pe_op op_sub pe_int (c_call (ok__law_take T) (c__law_take T) (hr.mono (by decide)) hg passL (pa_cons (pv 0) (pa_cons (pe_op op_add (pv 1) pe_int) pa_nil)))) (pa_cons (c_call (ok__law_take T) (c__law_take T) (hr.mono (by decide)) hg passL (pa_cons (pv 0) (pa_cons (pe_op op_add (pv 1) pe_int) pa_nil))) pa_nil))))) pss_nil)
      (pss_cons (ps_set (i := 3) sc__law_range.nd rfl (by first | exact Or.inl rfl | exact Or.inr rfl) (pe_op op_sub (c_call (ok__law_take T) (c__law_take T) (hr.mono (by decide)) hg passL (pa_cons (pv 0) (pa_cons (pe_op op_add (pe_op op_mul pe_int (pv 1)) pe_int) pa_nil))) (pv 1)))
      (pss_one (ps_ret (pe_tup (pa_cons (pv 3) (pa_cons (pe_op op_add (pv 3) (c_call (ok__law_take T) (c__law_take T) (hr.mono (by decide)) hg passL (pa_cons (pv 0) (pa_cons (pe_op op_add (pe_op op_sub (pv 1) (pv 3)) pe_int) pa_nil)))) pa_nil))))))
theorem sc__law_door : FnScope ["_law_pot_here", "_law_rooms", "_law_wide_here", "_law_has_nought", "_law_near", "_law_far", "_law_least", "_law_most"] ["_law_pot_here", "_law_rooms", "_law_wide_here", "_law_has_nought"] (defScope s__law_door) := ⟨rfl, rfl, rfl, by decide +kernel, rfl, by decide +kernel, by decide +kernel⟩
theorem ok__law_door (T : Tx K mg) : Ok P w K mg base (L2.CX P w) 3 (He.fAd K ("_law_door", none)) (fdAt K ("_law_door", none)) ["_law_pot_here", "_law_rooms", "_law_wide_here", "_law_has_nought"] (sp_door K) := by
  refine okD (T.def_ 21 (d := d__law_door)) sc__law_door len_door (fun cdv A outer s H vs Q E hr hg h => ⟨t_door K, PSs.nox ?_, rd_door h⟩)
  exact pss_cons (ps_set (i := 4) sc__law_door.nd rfl (by first | exact Or.inl rfl | exact Or.inr rfl) (c_call (ok__law_take T) (c__law_take T) (hr.mono (by decide)) hg passL (pa_cons (pv 0) (pa_cons (pe_callB call_len_seq (by rfl) (T.free 32) (by decide +kernel) (pa_cons (pv 1) pa_nil)) pa_nil))))
      (pss_cons (ps_set (i := 5) sc__law_door.nd rfl (by first | exact Or.inl rfl | exact Or.inr rfl) (pe_op op_mod (pe_op op_add (pe_op op_add (pv 4) pe_int) (c_call (ok__law_take T) (c__law_take T) (hr.mono (by decide)) hg passL (pa_cons (pv 0) (pa_cons (pe_op op_sub (pe_callB call_len_seq (by rfl) (T.free 32) (by decide +kernel) (pa_cons (pv 1) pa_nil)) pe_int) pa_nil)))) (pe_callB call_len_seq (by rfl) (T.free 32) (by decide +kernel) (pa_cons (pv 1) pa_nil))))
      (pss_cons (ps_asg (c_call (ok__law_range T) (c__law_range T) (hr.mono (by decide)) hg passL (pa_cons (pv 0) (pa_cons (pv 2) (pa_cons (pv 3) pa_nil)))) (pg_tup (n := 2) rfl (pgs_cons (pg_name (i := 6) sc__law_door.nd rfl (by first | exact Or.inl rfl | exact Or.inr rfl)) (pgs_cons (pg_name (i := 7) sc__law_door.nd rfl (by first | exact Or.inl rfl | exact Or.inr rfl)) pgs_nil))))
      (pss_one (ps_ret (pe_tup (pa_cons (pe_ix ix_list (pv 1) (pv 4) (fun _ _ => rfl)) (pa_cons (pe_ix ix_list (pv 1) (pv 5) (fun _ _ => rfl)) (pa_cons (pv 6) (pa_cons (pv 7) pa_nil)))))))))
theorem sc__law_doors : FnScope ["_law_pot_here", "_law_rooms", "_law_many", "_law_has_nought", "_law_wide_here", "_law_k"] ["_law_pot_here", "_law_rooms", "_law_many", "_law_has_nought"] (defScope s__law_doors) := ⟨rfl, rfl, rfl, by decide +kernel, rfl, by decide +kernel, by decide +kernel⟩
theorem ok__law_doors (T : Tx K mg) : Ok P w K mg base (L2.CX P w) 4 (He.fAd K ("_law_doors", none)) (fdAt K ("_law_doors", none)) ["_law_pot_here", "_law_rooms", "_law_many", "_law_has_nought"] (sp_doors K) := by
  refine okD (T.def_ 22 (d := d__law_doors)) sc__law_doors len_doors (fun cdv A outer s H vs Q E hr hg h => ⟨t_doors K, PSs.nox ?_, rd_doors h⟩)
  exact pss_cons (ps_if (pt_cmpR op_lt (pe_callB call_len_seq (by rfl) (T.free 32) (by decide +kernel) (pa_cons (pv 1) pa_nil)) pe_int (nomark _)) (pss_one (ps_ret (pe_lst pa_nil))) pss_nil)
      (pss_cons (ps_set (i := 4) sc__law_doors.nd rfl (by first | exact Or.inl rfl | exact Or.inr rfl) (c_call (ok__law_wide T) (c__law_wide T) (hr.mono (by decide)) hg passL (pa_cons (pv 0) pa_nil)))
      (pss_one (ps_ret (pe_lc (own := [("_law_k", 5)]) (g := gName 5) (tt := tYes) (te := tF (sp_door K) E0 (tCons (tVar 0) (tCons (tVar 1) (tCons (tVar 4) (tCons (tVar 3) tNil))))) rfl sc__law_doors.nd (pi_range1 (by rfl) (T.free 30) (pa_cons (pv 2) pa_nil)) (blkOk_by (own := [("_law_k", 5)]) (N := ["_law_pot_here", "_law_rooms", "_law_many", "_law_has_nought", "_law_wide_here", "_law_k"]) (sc := defScope s__law_doors) (by decide +kernel)) (fun _ _ _ _ _ => pg_name (i := 5) sc__law_doors.nd rfl (by first | exact Or.inl rfl | exact Or.inr rfl)) (fun _ _ _ _ _ => pts_nil) (fun _ _ _ _ _ => c_call (ok__law_door T) (c__law_door T) (hr.mono (by decide)) hg passL (pa_cons (pv 0) (pa_cons (pv 1) (pa_cons (pv 4) (pa_cons (pv 3) pa_nil)))))))))
theorem sc__law_lists : FnScope ["_law_pot_here", "_law_rooms"] ["_law_pot_here"] (defScope s__law_lists) := ⟨rfl, rfl, rfl, by decide +kernel, rfl, by decide +kernel, by decide +kernel⟩
theorem ok__law_lists (T : Tx K mg) : Ok P w K mg base (L2.CX P w) 5 (He.fAd K ("_law_lists", none)) (fdAt K ("_law_lists", none)) ["_law_pot_here"] (sp_llists K) := by
  refine okD (T.def_ 23 (d := d__law_lists)) sc__law_lists len_llists (fun cdv A outer s H vs Q E hr hg h => ⟨t_llists K, PSs.nox ?_, rd_llists h⟩)
  exact pss_cons (ps_set (i := 1) sc__law_lists.nd rfl (by first | exact Or.inl rfl | exact Or.inr rfl) (c_call (ok__law_names T) (c__law_names T) (hr.mono (by decide)) hg passL (pa_cons (pv 0) (pa_cons (pe_op op_add pe_int (c_call (ok__law_take T) (c__law_take T) (hr.mono (by decide)) hg passL (pa_cons (pv 0) (pa_cons pe_int pa_nil)))) (pa_cons (pe_lst pa_nil) pa_nil)))))
      (pss_one (ps_ret (pe_tup (pa_cons (pv 1) (pa_cons (c_call (ok__law_doors T) (c__law_doors T) (hr.mono (by decide)) hg passL (pa_cons (pv 0) (pa_cons (pv 1) (pa_cons (c_call (ok__law_take T) (c__law_take T) (hr.mono (by decide)) hg passL (pa_cons (pv 0) (pa_cons pe_int pa_nil))) (pa_cons pe_bl pa_nil))))) pa_nil)))))
theorem sc__law_turned : FnScope ["_law_door_here", "_law_near", "_law_far", "_law_least", "_law_most"] ["_law_door_here"] (defScope s__law_turned) := ⟨rfl, rfl, rfl, by decide +kernel, rfl, by decide +kernel, by decide +kernel⟩
theorem ok__law_turned (T : Tx K mg) : Ok P w K mg base (L2.CX P w) 1 (He.fAd K ("_law_turned", none)) (fdAt K ("_law_turned", none)) ["_law_door_here"] (sp_lturned K) := by
  refine okD (T.def_ 24 (d := d__law_turned)) sc__law_turned len_lturned (fun cdv A outer s H vs Q E hr hg h => ⟨t_lturned K, PSs.nox ?_, rd_lturned h⟩)
  exact pss_cons (ps_asg (pv 0) (pg_tup (n := 4) rfl (pgs_cons (pg_name (i := 1) sc__law_turned.nd rfl (by first | exact Or.inl rfl | exact Or.inr rfl)) (pgs_cons (pg_name (i := 2) sc__law_turned.nd rfl (by first | exact Or.inl rfl | exact Or.inr rfl)) (pgs_cons (pg_name (i := 3) sc__law_turned.nd rfl (by first | exact Or.inl rfl | exact Or.inr rfl)) (pgs_cons (pg_name (i := 4) sc__law_turned.nd rfl (by first | exact Or.inl rfl | exact Or.inr rfl)) pgs_nil))))))
      (pss_one (ps_ret (pe_tup (pa_cons (pv 2) (pa_cons (pv 1) (pa_cons (pv 3) (pa_cons (pv 4) pa_nil)))))))
theorem sc__law_wider : FnScope ["_law_door_here", "_law_near", "_law_far", "_law_least", "_law_most"] ["_law_door_here"] (defScope s__law_wider) := ⟨rfl, rfl, rfl, by decide +kernel, rfl, by decide +kernel, by decide +kernel⟩
theorem ok__law_wider (T : Tx K mg) : Ok P w K mg base (L2.CX P w) 1 (He.fAd K ("_law_wider", none)) (fdAt K ("_law_wider", none)) ["_law_door_here"] (sp_lwider K) := by
  refine okD (T.def_ 25 (d := d__law_wider)) sc__law_wider len_lwider (fun cdv A outer s H vs Q E hr hg h => ⟨t_lwider K, PSs.nox ?_, rd_lwider h⟩)
  exact pss_cons (ps_asg (pv 0) (pg_tup (n := 4) rfl (pgs_cons (pg_name (i := 1) sc__law_wider.nd rfl (by first | exact Or.inl rfl | exact Or.inr rfl)) (pgs_cons (pg_name (i := 2) sc__law_wider.nd rfl (by first | exact Or.inl rfl | exact Or.inr rfl)) (pgs_cons (pg_name (i := 3) sc__law_wider.nd rfl (by first | exact Or.inl rfl | exact Or.inr rfl)) (pgs_cons (pg_name (i := 4) sc__law_wider.nd rfl (by first | exact Or.inl rfl | exact Or.inr rfl)) pgs_nil))))))
      (pss_one (ps_ret (pe_ifExp (pt_cmpR op_lt (pv 4) pe_int (nomark _)) (pe_tup (pa_cons (pv 1) (pa_cons (pv 2) (pa_cons (pv 3) (pa_cons (pe_op op_add (pv 4) pe_int) pa_nil))))) (pe_tup (pa_cons (pv 1) (pa_cons (pv 2) (pa_cons (pe_op op_sub (pv 3) pe_int) (pa_cons (pv 4) pa_nil))))))))
theorem sc__law_changed : FnScope ["_law_pot_here", "_law_rooms", "_law_doors_here", "_law_way", "_law_at", "_law_door_here"] ["_law_pot_here", "_law_rooms", "_law_doors_here"] (defScope s__law_changed) := ⟨rfl, rfl, rfl, by decide +kernel, rfl, by decide +kernel, by decide +kernel⟩
theorem ok__law_changed (T : Tx K mg) : Ok P w K mg base (L2.CX P w) 3 (He.fAd K ("_law_changed", none)) (fdAt K ("_law_changed", none)) ["_law_pot_here", "_law_rooms", "_law_doors_here"] (sp_lchanged K) := by
  refine okD (T.def_ 26 (d := d__law_changed)) sc__law_changed len_lchanged (fun cdv A outer s H vs Q E hr hg h => ⟨t_lchanged K, PSs.nox ?_, rd_lchanged h⟩)
  exact pss_cons (ps_set (i := 3) sc__law_changed.nd rfl (by first | exact Or.inl rfl | exact Or.inr rfl) (c_call (ok__law_take T) (c__law_take T) (hr.mono (by decide)) hg passL (pa_cons (pv 0) (pa_cons pe_int pa_nil))))
      (pss_cons (ps_set (i := 4) sc__law_changed.nd rfl (by first | exact Or.inl rfl | exact Or.inr rfl) (pe_ifExp (pt_cmpR (op_neD hr.units) (pv 2) (pe_lst pa_nil) (nomark _)) (c_call (ok__law_take T) (c__law_take T) (hr.mono (by decide)) hg passL (pa_cons (pv 0) (pa_cons (pe_callB call_len_seq (by rfl) (T.free 32) (by decide +kernel) (pa_cons (pv 2) pa_nil)) pa_nil))) pe_int))
      (pss_cons (ps_if (PW.pt (pw_and (pt_cmpR op_eq (pv 3) pe_int (nomark _)) (pw_and1 (pt_cmpR op_lt (pe_callB call_len_seq (by rfl) (T.free 32) (by decide +kernel) (pa_cons (pv 1) pa_nil)) pe_int (nomark _))))) (pss_one (ps_ret (pe_tup (pa_cons (pe_op op_cat (pv 1) (pe_lst (pa_cons (c_call (ok__law_name T) (c__law_name T) (hr.mono (by decide)) hg passL (pa_cons (pv 0) (pa_cons (pv 1) pa_nil))) pa_nil))) (pa_cons (pv 2) pa_nil))))) pss_nil)
      (pss_cons (ps_if (pt_cmpR op_eq (pv 3) pe_int (nomark _)) (pss_one (ps_ret (pe_tup (pa_cons (pe_revL (pv 1)) (pa_cons (pv 2) pa_nil))))) pss_nil)
      (pss_cons (ps_if (pt_cmpR op_eq (pv 3) pe_int (nomark _)) (pss_one (ps_ret (pe_tup (pa_cons (pv 1) (pa_cons (pe_revL (pv 2)) pa_nil))))) pss_nil)
      (pss_cons (ps_if (PW.pt (pw_or (pt_cmpR (op_eqD hr.units) (pv 2) (pe_lst pa_nil) (nomark _)) (pw_or1 (pt_cmpR op_lt (pv 3) pe_int (nomark _))))) (pss_one (ps_ret (pe_tup (pa_cons (pe_callTy call_list_of (by rfl) (T.free 29) (by decide +kernel) (pa_cons (pv 1) pa_nil)) (pa_cons (pe_callTy call_list_of (by rfl) (T.free 29) (by decide +kernel) (pa_cons (pv 2) pa_nil)) pa_nil))))) pss_nil)
      (pss_cons (ps_if (pt_cmpR op_eq (pv 3) pe_int (nomark _)) (pss_one (ps_ret (pe_tup (pa_cons (pv 1) (pa_cons (pe_op op_cat (pe_slice sl_list (pv 2) po_none (po_some (pv 4))) (pe_slice sl_list (pv 2) (po_some (pe_op op_add (pv 4) pe_int)) po_none)) pa_nil))))) pss_nil)
      (pss_cons (ps_set (i := 5) sc__law_changed.nd rfl (by first | exact Or.inl rfl | exact Or.inr rfl) (pe_ifExp (pt_cmpR op_eq (pv 3) pe_int (nomark _)) (c_call (ok__law_turned T) (c__law_turned T) (hr.mono (by decide)) hg passL (pa_cons (pe_ix ix_list (pv 2) (pv 4) (fun _ _ => rfl)) pa_nil)) (c_call (ok__law_wider T) (c__law_wider T) (hr.mono (by decide)) hg passL (pa_cons (pe_ix ix_list (pv 2) (pv 4) (fun _ _ => rfl)) pa_nil))))
      (pss_cons (ps_if (pt_cmpR op_lt (pe_ix ix_tup (pv 5) pe_int (fun _ _ => rfl)) (pe_un un_neg pe_int) (nomark _)) (pss_one (ps_set (i := 5) sc__law_changed.nd rfl (by first | exact Or.inl rfl | exact Or.inr rfl) (pe_ix ix_list (pv 2) (pv 4) (fun _ _ => rfl)))) pss_nil)
      (pss_one (ps_ret (pe_tup (pa_cons (pv 1) (pa_cons (pe_op op_cat (pe_op op_cat (pe_slice sl_list (pv 2) po_none (po_some (pv 4))) (pe_lst (pa_cons (pv 5) pa_nil))) (pe_slice sl_list (pv 2) (po_some (pe_op op_add (pv 4) pe_int)) po_none)) pa_nil)))))))))))))
theorem sc__law_has_right : FnScope ["_law_pot_here", "_law_plan", "_law_rooms", "_law_some", "_law_thing", "_law_room"] ["_law_pot_here", "_law_plan", "_law_rooms"] (defScope s__law_has_right) := ⟨rfl, rfl, rfl, by decide +kernel, rfl, by decide +kernel, by decide +kernel⟩
theorem ok__law_has_right (T : Tx K mg) : Ok P w K mg base (L2.CX P w) 3 (He.fAd K ("_law_has_right", none)) (fdAt K ("_law_has_right", none)) ["_law_pot_here", "_law_plan", "_law_rooms"] (sp_has_right K) := by
  refine okD (T.def_ 27 (d := d__law_has_right)) sc__law_has_right len_has_right (fun cdv A outer s H vs Q E hr hg h => ⟨t_has_right K, PSs.nox ?_, rd_has_right h⟩)
  exact pss_cons (ps_if (pt_not (pt_val (pe_callB (cr_all rfl) (by rfl) (T.free 33) (by decide +kernel) (pa_cons (pe_lc (own := [("_law_room", 5)]) (g := gName 5) (tt := tYes) (te := tOp rIsB (tM (He.ga K "Plan") "has" (sp_PlanHas K) E0 (tVar 1) (tCons (tVar 5) tNil)) (tC (.bl true))) rfl sc__law_has_right.nd (pi_list (pv 2)) (blkOk_by (own := [("_law_room", 5)]) (N := ["_law_pot_here", "_law_plan", "_law_rooms", "_law_some", "_law_thing", "_law_room"]) (sc := defScope s__law_has_right) (by decide +kernel)) (fun _ _ _ _ _ => pg_name (i := 5) sc__law_has_right.nd rfl (by first | exact Or.inl rfl | exact Or.inr rfl)) (fun _ _ _ _ _ => pts_nil) (fun _ _ _ _ _ => pe_cmpR op_isBl (c_meth (ok_Plan_has T) (c_Plan_has T) (hr.mono (by decide)) hg passL (pv 1) (pa_cons (pv 5) pa_nil)) pe_bl (nomark _))) pa_nil)))) (pss_one (ps_ret pe_bl)) pss_nil)
      (pss_cons (ps_set (i := 3) sc__law_has_right.nd rfl (by first | exact Or.inl rfl | exact Or.inr rfl) (pe_lst (pa_cons pe_non (pa_cons pe_int (pa_cons pe_bl (pa_cons pe_str (pa_cons (pe_upper (pe_ix ix_list (pv 2) pe_int (fun _ _ => rfl))) (pa_cons (pe_op op_add_str (pe_ix ix_list (pv 2) pe_int (fun _ _ => rfl)) pe_str) (pa_cons (pe_lst (pa_cons (pe_ix ix_list (pv 2) pe_int (fun _ _ => rfl)) pa_nil)) (pa_cons (pe_tup (pa_cons (pe_ix ix_list (pv 2) pe_int (fun _ _ => rfl)) pa_nil)) (pa_cons pe_dnewK (pa_cons (pe_disp (pps_cons (pe_ix ix_list (pv 2) pe_int (fun _ _ => rfl)) pe_int pps_nil) (by rfl) (by rfl) (List.cons_ne_nil _ _) (by decide)) pa_nil))))))))))))
      (pss_cons (ps_set (i := 3) sc__law_has_right.nd rfl (by first | exact Or.inl rfl | exact Or.inr rfl) (pe_op op_cat (pv 3) (pe_lst (pa_cons (c_call (ok__law_name T) (c__law_name T) (hr.mono (by decide)) hg passL (pa_cons (pv 0) (pa_cons (pv 2) pa_nil))) (pa_cons pe_str (pa_cons pe_int (pa_cons (pe_callTy call_list_of (by rfl) (T.free 29) (by decide +kernel) (pa_cons (pv 2) pa_nil)) pa_nil)))))))
      (pss_one (ps_ret (pe_callB (cr_all rfl) (by rfl) (T.free 33) (by decide +kernel) (pa_cons (pe_lc (own := [("_law_thing", 4)]) (g := gName 4) (tt := tYes) (te := tOp rIsB (tM (He.ga K "Plan") "has" (sp_PlanHas K) E0 (tVar 1) (tCons (tVar 4) tNil)) (tC (.bl false))) rfl sc__law_has_right.nd (pi_list (pv 3)) (blkOk_by (own := [("_law_thing", 4)]) (N := ["_law_pot_here", "_law_plan", "_law_rooms", "_law_some", "_law_thing", "_law_room"]) (sc := defScope s__law_has_right) (by decide +kernel)) (fun _ _ _ _ _ => pg_name (i := 4) sc__law_has_right.nd rfl (by first | exact Or.inl rfl | exact Or.inr rfl)) (fun _ _ _ _ _ => pts_nil) (fun _ _ _ _ _ => pe_cmpR op_isBl (c_meth (ok_Plan_has T) (c_Plan_has T) (hr.mono (by decide)) hg passL (pv 1) (pa_cons (pv 4) pa_nil)) pe_bl (nomark _))) pa_nil))))))
theorem sc__law_pair_right : FnScope ["_law_pot_here", "_law_rooms", "_law_doors_here", "_law_others", "_law_plan", "_law_other", "_law_is_same", "_law_thing"] ["_law_pot_here"] (defScope s__law_pair_right) := ⟨rfl, rfl, rfl, by decide +kernel, rfl, by decide +kernel, by decide +kernel⟩
theorem ok__law_pair_right (T : Tx K mg) : Ok P w K mg base (L2.CX P w) 7 (He.fAd K ("_law_pair_right", none)) (fdAt K ("_law_pair_right", none)) ["_law_pot_here"] (sp_pair_right K) := by
  refine okD (T.def_ 28 (d := d__law_pair_right)) sc__law_pair_right len_pair_right (fun cdv A outer s H vs Q E hr hg h => ⟨t_pair_right K, PSs.nox ?_, rd_pair_right h⟩)
  exact pss_cons (ps_asg (c_call (ok__law_lists T) (c__law_lists T) (hr.mono (by decide)) hg passL (pa_cons (pv 0) pa_nil)) (pg_tup (n := 2) rfl (pgs_cons (pg_name (i := 1) sc__law_pair_right.nd rfl (by first | exact Or.inl rfl | exact Or.inr rfl)) (pgs_cons (pg_name (i := 2) sc__law_pair_right.nd rfl (by first | exact Or.inl rfl | exact Or.inr rfl)) pgs_nil))))
      (pss_cons (ps_set (i := 3) sc__law_pair_right.nd rfl (by first | exact Or.inl rfl | exact Or.inr rfl) (c_call (ok__law_changed T) (c__law_changed T) (hr.mono (by decide)) hg passL (pa_cons (pv 0) (pa_cons (pv 1) (pa_cons (pv 2) pa_nil)))))
      (pss_cons (ps_set (i := 4) sc__law_pair_right.nd rfl (by first | exact Or.inl rfl | exact Or.inr rfl) (c_make (ok_PlanU_initU T) (c_PlanU_initU T) (hr.mono (by decide)) hg passL (pa_cons (pv 1) (pa_cons (pv 2) pa_nil))))
      (pss_cons (ps_set (i := 5) sc__law_pair_right.nd rfl (by first | exact Or.inl rfl | exact Or.inr rfl) (c_make (ok_PlanU_initU T) (c_PlanU_initU T) (hr.mono (by decide)) hg passL (pa_cons (pe_ix ix_tup (pv 3) pe_int (fun _ _ => rfl)) (pa_cons (pe_ix ix_tup (pv 3) pe_int (fun _ _ => rfl)) pa_nil))))
      (pss_cons (ps_set (i := 6) sc__law_pair_right.nd rfl (by first | exact Or.inl rfl | exact Or.inr rfl) (pe_and (pe_cmpR (op_eqD hr.units) (pv 1) (pe_ix ix_tup (pv 3) pe_int (fun _ _ => rfl)) (nomark _)) (pe_one (pe_cmpR (op_eqD hr.units) (pv 2) (pe_ix ix_tup (pv 3) pe_int (fun _ _ => rfl)) (nomark _)))))
      (pss_cons (ps_if (pt_cmpR op_ne (pe_callB (call_reprE hg hr.units (T.ex 0)) (by rfl) (T.free 44) (by decide +kernel) (pa_cons (pe_lst (pa_cons (pe_cmpR (op_eqX (ok_PlanU_eqU T) (c_PlanU_eqU T) (hr.mono (by decide)) hg passL) (pv 4) (pv 5) (nomark _)) (pa_cons (pe_cmpR (op_eqX (ok_PlanU_eqU T) (c_PlanU_eqU T) (hr.mono (by decide)) hg passL) (pv 5) (pv 4) (nomark _)) (pa_cons (pe_cmpR (op_neX (Dc.insD_ok (T.ex 1)) (Dc.insB_ok (T.ex 2)) (ok_PlanU_eqU T) (c_PlanU_eqU T) (hr.mono (by decide)) hg passL) (pv 4) (pv 5) (nomark _)) pa_nil)))) pa_nil)) (pe_callB (call_reprE hg hr.units (T.ex 0)) (by rfl) (T.free 44) (by decide +kernel) (pa_cons (pe_lst (pa_cons (pv 6) (pa_cons (pv 6) (pa_cons (pe_not (pv 6)) pa_nil)))) pa_nil)) (nomark _)) (pss_one (ps_ret pe_bl)) pss_nil)
      (pss_cons (ps_if (pt_not (pt_cmpR (op_eqX (ok_PlanU_eqU T) (c_PlanU_eqU T) (hr.mono (by decide)) hg passL) (pv 4) (c_make (ok_PlanU_initU T) (c_PlanU_initU T) (hr.mono (by decide)) hg passL (pa_cons (pe_callTy call_list_of (by rfl) (T.free 29) (by decide +kernel) (pa_cons (pv 1) pa_nil)) (pa_cons (pe_callTy call_list_of (by rfl) (T.free 29) (by decide +kernel) (pa_cons (pv 2) pa_nil)) pa_nil))) (nomark _))) (pss_one (ps_ret pe_bl)) pss_nil)
      (pss_cons (ps_for PassesOwn.never rfl (pi_list (pe_lst (pa_cons pe_non (pa_cons pe_int (pa_cons (pe_callB (call_lenO (ok_PlanU_lenU T) (c_PlanU_lenU T) (hr.mono (by decide)) hg passL) (by rfl) (T.free 32) (by decide +kernel) (pa_cons (pv 4) pa_nil)) (pa_cons pe_str (pa_cons (pe_callB (call_reprO (ok_PlanU_reprU T) (c_PlanU_reprU T) (hr.mono (by decide)) hg passL) (by rfl) (T.free 44) (by decide +kernel) (pa_cons (pv 4) pa_nil)) (pa_cons (pv 1) (pa_cons (pv 2) (pa_cons (pe_tup (pa_cons (pv 1) (pa_cons (pv 2) pa_nil))) (pa_cons pe_dnewK pa_nil))))))))))) (pg_name (i := 7) sc__law_pair_right.nd rfl (by first | exact Or.inl rfl | exact Or.inr rfl)) (pss_one (ps_if (pt_cmpR op_notBl (pe_cmpR (op_eqX (ok_PlanU_eqU T) (c_PlanU_eqU T) (hr.mono (by decide)) hg passL) (pv 4) (pv 7) (nomark _)) pe_bl (nomark _)) (pss_one (ps_ret pe_bl)) pss_nil)))
      (pss_one (ps_ret (pe_and (pe_cmpR op_eq (pe_callB (call_reprO (ok_PlanU_reprU T) (c_PlanU_reprU T) (hr.mono (by decide)) hg passL) (by rfl) (T.free 44) (by decide +kernel) (pa_cons (pv 4) pa_nil)) (pe_op op_add_str (pe_op op_add_str (pe_op op_add_str (pe_op op_add_str pe_str (pe_callB (call_reprE hg hr.units (T.ex 0)) (by rfl) (T.free 44) (by decide +kernel) (pa_cons (pv 1) pa_nil))) pe_str) (pe_callB (call_reprE hg hr.units (T.ex 0)) (by rfl) (T.free 44) (by decide +kernel) (pa_cons (pv 2) pa_nil))) pe_str) (nomark _)) (pe_one (c_call (ok__law_has_right T) (c__law_has_right T) (hr.mono (by decide)) hg passL (pa_cons (pv 0) (pa_cons (pv 4) (pa_cons (pv 1) pa_nil)))))))))))))))
theorem sc_law : FnScope ["_law_script", "_law_k"] ["_law_script"] (defScope s_law) := ⟨rfl, rfl, rfl, by decide +kernel, rfl, by decide +kernel, by decide +kernel⟩
theorem ok_law (T : Tx K mg) : Ok P w K mg base (L2.CX P w) 8 (He.fAd K ("law", none)) (fdAt K ("law", none)) ["_law_script"] (sp_law K) := by
  refine okD (T.def_ 29 (d := d_law)) sc_law len_law (fun cdv A outer s H vs Q E hr hg h => ⟨t_law K, PSs.nox ?_, rd_law h⟩)
  exact pss_one (ps_ret (pe_callB (cr_all rfl) (by rfl) (T.free 33) (by decide +kernel) (pa_cons (pe_lc (own := [("_law_k", 1)]) (g := gName 1) (tt := tYes) (te := tF (sp_pair_right K) E0 (tCons (tF (sp_pot K) E0 (tCons (tVar 0) (tCons (tVar 1) tNil))) tNil)) rfl sc_law.nd (pi_range1 (by rfl) (T.free 30) (pa_cons (pe_callB (call_max2 rfl) (by rfl) (T.free 46) (by decide +kernel) (pa_cons pe_int (pa_cons (pe_callB (call_min2 rfl) (by rfl) (T.free 45) (by decide +kernel) (pa_cons (pe_callB call_len_seq (by rfl) (T.free 32) (by decide +kernel) (pa_cons (pv 0) pa_nil)) (pa_cons pe_int pa_nil))) pa_nil))) pa_nil)) (blkOk_by (own := [("_law_k", 1)]) (N := ["_law_script", "_law_k"]) (sc := defScope s_law) (by decide +kernel)) (fun _ _ _ _ _ => pg_name (i := 1) sc_law.nd rfl (by first | exact Or.inl rfl | exact Or.inr rfl)) (fun _ _ _ _ _ => pts_nil) (fun _ _ _ _ _ => c_call (ok__law_pair_right T) (c__law_pair_right T) (hr.mono (by decide)) hg passL (pa_cons (c_call (ok__law_pot T) (c__law_pot T) (hr.mono (by decide)) hg passL (pa_cons (pv 0) (pa_cons (pv 1) pa_nil))) pa_nil))) pa_nil)))
end
end Dc
open PySem PySem.W PySem.Calls PyProof.Rows
theorem PySem.Challenge.cw_doorcount_k15_equal_and_shown_holds : PySem.Challenge.rw_doorcount_k15_equal_and_shown.Holds := by
  w_on; o_law
  refine HandSHeadRun.head_any (r := Dc.R) (q := view Dc.R.prog [37]) (H := Dc.hk) (ob := Dc.ob) (M := 20000) (loose := Dc.looseNames) (d := HandSHeadRun.topDef Dc.R.prog 37) (kwd := []) Dc.ob_eq
    (by kernel_rfl) (fun s => by kernel_rfl) Dc.run (by kernel_rfl) (by kernel_rfl) (by kernel_rfl) (by rfl) (by first | assumption | decide +kernel) (by decide +kernel) ⟨rfl, rfl, rfl, rfl, rfl, by decide +kernel⟩ ?hw ?hc
  case hw => w_witness2
  case hc =>
    refine Dc.walkE (l := PySem.Challenge.rw_doorcount_k15_equal_and_shown) (n := 63) (k := 8) (x := "_law_script") (CX := fun w => L2.CX Dc.R.prog w) rfl (by decide) (by kernel_rfl) ⟨rfl, by decide, by decide⟩ ?F (fun _ _ _ _ _ ⟨_, _, _, _, _, _, _, _, _, _, _, _, z⟩ => z)
    intro w mg fa h Y G hmg0
    obtain ⟨K, KX, c, cx⟩ := Y
    have T : Dc.Tx K mg := ⟨⟨c, h, KX, G⟩, cx⟩
    have hmg : mg ("law" : PySem.Str) = some (.ref fa) := by
      have e : (HandSHeadRun.topDef Dc.R.prog 37).name = ("law" : PySem.Str) := by kernel_rfl
      rw [← e]
      exact hmg0
    have e := hmg.symm.trans (T.glo 22)
    cases e
    have b := L2.FunD.bindsA (ps := ["_law_script"]) (T.def_ 29 (d := Dc.d_law)) fun _ _ _ _ _ _ us hl => match us, hl with | [_], _ => rfl
    exact ⟨K, _, Dc.sp_law K, KX, fun s v => b s [v] rfl, fun H a ns hl hS => ⟨⟨⟨T.cls 48, T.noat 49, T.noat 50⟩, Dc.exmB_ok (T.ex 3), Dc.insB_ok (T.ex 2), Dc.insD_ok (T.ex 1), Dc.isxB_ok (T.ex 4)⟩, H, ⟨ns⟩, .ref a, rfl, fun _ _ h => h, ⟨a, rfl, hS⟩, Dc.post_law (Dc.law_true ⟨ns⟩ hl)⟩, fun base _ _ => Dc.ok_law T⟩
