import PyProof.Rows.All
import Wide.All
import OpenK.AllK
import Wide.FinOn
import KE.KStateDown
import Lean
import HandS.ForMost
import HandS.ForExc
import HandS.More
import HandS.RaiseMore
import HandS.Defaults
import HandS.Style
import HandS.IsInst
import HandS.WideBits
import HandS.Flow
import HandS.DeepEq
import HandS.Deep
import HandS.OwnEq
import HandS.Conv
import HandS.Steps
import HandS.Walk
import HandS.Codes
import HandS.TupAny
import HandS.FStr
import HandS.TupLe
import HandS.Head0
import HandS.Head1
import HandS.Head2
import HandS.HeadEnd
import HandS.HeadHook1
import HandS.HeadHook2
import PyProof.ReprBulk
import PyProof.Rows.ReprShort
import KE.SortData
import PySem.Challenge.RW_doorcount_k31_sets_in_order
set_option Elab.async false
set_option linter.all false
set_option maxRecDepth 100000
set_option maxHeartbeats 4000000
namespace Dc
open PySem PySem.Spec PyProof.Rows L2

/-! ## a def's promise, called where nothing is being shown (no repr runs around) -/
structure Ok (P : Program) (w : World) (K : PySem.W.Frag) (mg : Str → Option Value) (base : Heap) (CX : CXT) (k : Nat) (f : Addr) (fd : FuncData) (ps : List Str) (sp : Sp) : Prop where
  len : ∀ {vs H Q E}, sp vs H Q E → vs.length = ps.length
  run : ∀ {A : Around} {outer : List Env} {s : Shared} {H : Hp} {args : Args} {us : List Value} {vs : List V} {Q : VK} {E : XK},
    Room k A → A.guards = some [] → Env0 P w K mg base A outer s H → BindsTo s fd args (ps.zip us) → Vals vs us → sp vs H Q E →
      codeAny (model P w) A (.call (.ref f) args) (CR CX outer P w H s Q E) s
section
variable {P : Program} {w : World} {K : PySem.W.Frag} {mg : Str → Option Value} {base : Heap} {CX : CXT} {k j : Nat} {f : Addr} {fd : FuncData} {ps : List Str} {sp sp' : Sp}
theorem Ok.of (F : FnOk P w K mg base CX k f fd ps sp) : Ok P w K mg base CX k f fd ps sp :=
  ⟨fun h => F.len _ _ _ _ h, fun hr _ e hb hv h => F.run _ _ _ _ _ _ _ _ _ hr e hb hv h⟩
theorem Ok.up (F : Ok P w K mg base CX j f fd ps sp) (h : j ≤ k) : Ok P w K mg base CX k f fd ps sp :=
  ⟨F.len, fun hr g e hb hv q => F.run (hr.mono h) g e hb hv q⟩
theorem Ok.imp (F : Ok P w K mg base CX k f fd ps sp) (h : ∀ {vs H Q E}, sp' vs H Q E → sp vs H Q E) : Ok P w K mg base CX k f fd ps sp' :=
  ⟨fun q => F.len (h q), fun hr g e hb hv q => F.run hr g e hb hv (h q)⟩
/-- THE RULE for a def -/
theorem okD {x qual : Str} {params : Arguments} {body : List Stmt} {scope : Scope} {dvs : List V} {kws : List (Str × V)} {N : List Str}
    (F : FunD K x qual params body scope dvs kws f fd) (S : FnScope N ps scope) (len : ∀ {vs H Q E}, sp vs H Q E → vs.length = ps.length)
    (hbody : ∀ (cdv : Value) (A : Around) (outer : List Env) (s : Shared) (H : Hp) (vs : List V) (Q : VK) (E : XK),
      Room k (A.deeper (envOfC qual scope s.heap.objs.size f cdv)) → A.guards = some [] → sp vs H Q E →
      ∃ t, PSs (cxOf CX P w K mg base N qual scope f cdv A outer s H E) body t ∧
        t { nx := fun _ H' => Q .non H', rt := Q } (start N vs) H) :
    Ok P w K mg base CX (k + 1) f fd ps sp := by
  obtain ⟨oc, od, dV, kV, doc, pm, an, cdv, ct, osl, rfl, lk, hcd, _, _⟩ := F.ex
  refine ⟨len, fun {A outer s H args us vs Q E} hr hg e0 hb r hsp => ?_⟩
  have hl := len hsp
  have KX : K.In s.heap := e0.mod.kin.keeps (fun b o e => (e0.bs b o e).1)
  have lim : s.heap.NoLimit := e0.mod.nolimit.keeps (fun b o e => (e0.bs b o e).1)
  have hkind : ∀ y ∈ ps.zip us, scope.names.lookup y.1 = some .local ∨
      (scope.names.lookup y.1 = some .cell ∧ ((cellsFrom (s.heap.objs.size + 1) scope.names []).lookup y.1).isSome = true) := by
    rintro ⟨n, v⟩ hy
    rcases S.par n (List.of_mem_zip hy).1 with q | q
    · exact .inl q
    · exact .inr ⟨q, PySem.W.cellsFrom_some _ _ _ (.inl q)⟩
  refine codeAny_call_function hr.depth (KX _ _ lk) rfl S.co S.gen rfl (PySem.W.codeRec_of KX hcd) (hb _ _ _ _ ?_)
  refine wpAny_newFunctionEnv_cells S.kind hkind (fun env he s1 x => ?_)
  subst he
  refine ⟨lim.keeps x.toInCall.keep, codeAny_func ?_⟩
  obtain ⟨t, ht, hq⟩ := hbody cdv A outer s H vs Q E (hr.deeper _) hg hsp
  have I := inv_start (CX := CX) (E := E) S hr.hd e0 hl r x
  refine wpAny_mono (ht.run [] s1 (start N vs) H _ I hq) ?_ (fun e s' hs => hs)
  intro fl s' hs
  cases fl with
  | ret u =>
    obtain ⟨v, σ', H', J, rv, q⟩ := hs
    exact ⟨v, H', J.os, J.bare, J.base, J.hok, rv, q⟩
  | next =>
    obtain ⟨σ', H', J, q⟩ := hs
    exact ⟨V.non, H', J.os, J.bare, J.base, J.hok, rfl, q⟩
  | brk =>
    obtain ⟨_, _, _, q⟩ := hs
    cases q
  | cont =>
    obtain ⟨_, _, _, q⟩ := hs
    cases q
end

/-! ## calls -/
section
variable {X : Cx} {CX : CXT} {k n : Nat} {f C : Addr} {fd : FuncData} {ps ks : List Str} {sp : Sp} {E : XK} {x m : Str} {p pos apos : Pos} {e o : Expr} {es : List Expr} {kws : List Keyword} {ta : TE} {t tk : TA}
  {pins : List (Addr × Obj)} {σ : L2.St} {H : Hp} {s : Shared} {Q : VK} {us ws : List Value} {vs zs : List V} {g : List Value → List Value → List Value} {gV : List V → List V → List V}

theorem run_any (F : Ok X.prog X.w X.K X.mg X.base CX k f fd ps sp) (hr : Room k X.A) (hgd : X.A.guards = some []) (hx : Passes CX X E) (I : Inv X pins σ H s)
    {kw : List (Str × Value)} {bs : List Value} {vs : List V} (hb : BindsTo s fd ⟨us, kw⟩ (ps.zip bs)) (r : Vals vs bs) (h : sp vs H Q E) :
    wpAny (model X.prog X.w) X.A (call (.ref f) us kw) (EP X pins σ Q) X.xe s := by
  refine wpAny_call (codeAny_mono (F.run hr hgd I.env0 hb r h) ?_)
  intro r s' hq
  cases r with
  | error e => exact hx pins σ H s e s' I hq
  | ok fl =>
    cases fl with
    | ret u => exact I.after hq
    | next => cases hq
    | brk => cases hq
    | cont => cases hq
theorem run_pos (F : Ok X.prog X.w X.K X.mg X.base CX k f fd ps sp) (hr : Room k X.A) (hgd : X.A.guards = some []) (hb : Binds X.K fd ps []) (hx : Passes CX X E)
    (I : Inv X pins σ H s) (r : Vals vs us) (h : sp vs H Q E) : wpAny (model X.prog X.w) X.A (call (.ref f) us) (EP X pins σ Q) X.xe s := by
  have hl : (us ++ []).length = ps.length := by
    rw [List.append_nil, ← r.length]
    exact F.len h
  have b := hb s us I.kIn hl
  rw [List.append_nil] at b
  exact run_any F hr hgd hx I b r h
/-- f(e, ..) -/
def tF (sp : Sp) (E : XK) (t : TA) : TE := fun σ H Q => t σ H fun vs H1 => sp vs H1 Q E
theorem g_call (F : Ok X.prog X.w X.K X.mg X.base CX k f fd ps sp) (hr : Room k X.A) (hgd : X.A.guards = some []) (hm : X.mg x = some (.ref f)) (hk : PySem.W.keepIn X.K (.ref f) = true) (hb : Binds X.K fd ps []) (hx : Passes CX X E)
    (ha : PA X (e :: es) t) (hg : Gl X x := by rfl) (hdb : (x == ("__debug__" : Str)) = false := by decide)
    (he : starEach (e :: es) X.env = (false, eval e X.env) :: starEach es X.env := by rfl)
    (hpl : (backTo pos (starEach es X.env)).any (·.1) = false := by rfl) : PE X (.Call (.Name x p) (e :: es) [] pos) (tF sp E t) := by
  constructor
  intro pins s σ H Q I h
  refine wpAny_Call_Name_kw (ld_glob I hg hm ?_ hdb)
  refine PySem.W.callWith_K (h₀ := X.base) I.ok.mod.kin hk (thn (ha.run pos pins s σ H _ I h) ?_) he hpl
  rintro us s1 ⟨vs, H1, I1, r, q⟩
  exact ⟨I1.kIn, run_pos F hr hgd hb hx I1 r q⟩
theorem g_call0 (F : Ok X.prog X.w X.K X.mg X.base CX k f fd ps sp) (hr : Room k X.A) (hgd : X.A.guards = some []) (hm : X.mg x = some (.ref f)) (hk : PySem.W.keepIn X.K (.ref f) = true) (hb : Binds X.K fd ps []) (hx : Passes CX X E)
    (hg : Gl X x := by rfl) (hdb : (x == ("__debug__" : Str)) = false := by decide) : PE X (.Call (.Name x p) [] [] pos) (tF sp E tNil) := by
  constructor
  intro pins s σ H Q I h
  refine wpAny_Call_Name_kw (ld_glob I hg hm ?_ hdb)
  exact PySem.W.callWith_K0 I.kIn hk (run_pos (us := []) F hr hgd hb hx I .nil h)
/-- o.m(e, ..) -/
def tM (C : Addr) (m : Str) (sp : Sp) (E : XK) (ta : TE) (t : TA) : TE := fun σ H Q => ta σ H fun x H1 => ∃ a dx fs, x = .ref a ∧ H1 a = some (.ins C dx fs) ∧ fs.lookup m = none ∧ t σ H1 fun vs H2 => sp (x :: vs) H2 Q E
theorem g_meth {pl : Sem Bool} (ho : PE X o ta) (c : Cls X.K C) (hm : Meth X.K C m f) (F : Ok X.prog X.w X.K X.mg X.base CX k f fd ps sp) (hr : Room k X.A) (hgd : X.A.guards = some []) (hb : Binds X.K fd ps []) (hx : Passes CX X E) (ha : PA X (e :: es) t)
    (hst : starEach (e :: es) X.env = (false, eval e X.env) :: starEach es X.env := by rfl)
    (hpl : (backTo pos (starEach es X.env)).any (·.1) = false := by rfl)
    (ht : eval (.Call (.Attribute o m apos) (e :: es) [] pos) X.env = (do
        let ov ← eval o X.env
        standAt apos.atName
        let (f, first) ← holding [ov] (getMethod ov m pl)
        callWith pos f first (backTo pos (starEach (e :: es) X.env)) (backToKw pos (keywordEach [] X.env))) := by rfl) :
    PE X (.Call (.Attribute o m apos) (e :: es) [] pos) (tM C m sp E ta t) := by
  constructor
  intro pins s σ H Q I h
  refine PySem.W.methodCall_KW (pl := pl) (thn (ho.run pins s σ H _ I h) ?_) ht
  rintro u s1 ⟨x, H1, I1, rx, a, dx, fs, rfl, ea, l, q⟩
  obtain rfl : u = Value.ref a := rx
  refine getmeth_ok I1 ea c hm l ?_
  refine PySem.W.callWith_K (first := [.ref a]) (h₀ := X.base) I.ok.mod.kin hm.kp (thn (ha.run pos pins s1 σ H1 _ I1 q) ?_) hst hpl
  rintro us s2 ⟨vs, H2, I2, r, q2⟩
  exact ⟨I2.kIn, run_pos (us := .ref a :: us) (vs := .ref a :: vs) F hr hgd hb hx I2 (.cons rfl r) q2⟩
theorem g_meth0 {pl : Sem Bool} (ho : PE X o ta) (c : Cls X.K C) (hm : Meth X.K C m f) (F : Ok X.prog X.w X.K X.mg X.base CX k f fd ps sp) (hr : Room k X.A) (hgd : X.A.guards = some []) (hb : Binds X.K fd ps []) (hx : Passes CX X E)
    (ht : eval (.Call (.Attribute o m apos) [] [] pos) X.env = (do
        let ov ← eval o X.env
        standAt apos.atName
        let (f, first) ← holding [ov] (getMethod ov m pl)
        callWith pos f first (backTo pos (starEach [] X.env)) (backToKw pos (keywordEach [] X.env))) := by rfl) :
    PE X (.Call (.Attribute o m apos) [] [] pos) (tM C m sp E ta tNil) := by
  constructor
  intro pins s σ H Q I h
  refine PySem.W.methodCall_KW (pl := pl) (thn (ho.run pins s σ H _ I h) ?_) ht
  rintro u s1 ⟨x, H1, I1, rx, a, dx, fs, rfl, ea, l, q⟩
  obtain rfl : u = Value.ref a := rx
  refine getmeth_ok I1 ea c hm l ?_
  exact PySem.W.callWith_K0 (first := [.ref a]) I1.kIn hm.kp (run_pos (us := [.ref a]) (vs := [.ref a]) F hr hgd hb hx I1 (.cons rfl .nil) q)
/-- C(e, ..) -/
def tMk (C : Addr) (sp : Sp) (E : XK) (t : TA) : TE := fun σ H Q => t σ H fun vs H1 => ∀ x dx, H1 x = none → H1 dx = none → dx ≠ x →
  sp (.ref x :: vs) (upd (upd H1 dx (.own x)) x (.ins C dx [])) (fun v H2 => v = .non ∧ Q (.ref x) H2) E
theorem make_guards {A : Around} {us : List Value} {kw : List (Str × Value)} : (A.under (.builtin "type.__call__" ⟨.ref C :: us, kw⟩)).guards = A.guards := by
  simp [Around.under, Code.guards, Code.isGuard, guardIds, pushGuards]
theorem run_mk (M : Mk X.K C f) (F : Ok X.prog X.w X.K X.mg X.base CX k f fd ps sp) (hr : Room (k + 1) X.A) (hgd : X.A.guards = some []) (hx : Passes CX X E) (hb : Binds X.K fd ps []) (I : Inv X pins σ H s) (r : Vals vs us)
    (h : ∀ x dx, H x = none → H dx = none → dx ≠ x → sp (.ref x :: vs) (upd (upd H dx (.own x)) x (.ins C dx [])) (fun v H2 => v = .non ∧ Q (.ref x) H2) E) :
    wpAny (model X.prog X.w) X.A (call (.ref C) us) (EP X pins σ Q) X.xe s := by
  have hq := h (s.heap.objs.size + 1) s.heap.objs.size (I.hok.fresh (Nat.le_succ _)) (I.hok.fresh (Nat.le_refl _)) (Nat.ne_of_lt (Nat.lt_succ_self _))
  have I2 := Inv.made (C := C) I
  have r2 : Vals (V.ref (s.heap.objs.size + 1) :: vs) (Value.ref (s.heap.objs.size + 1) :: us) := .cons rfl r
  have hl : (Value.ref (s.heap.objs.size + 1) :: us ++ []).length = ps.length := by
    rw [List.append_nil, ← r2.length]
    exact F.len hq
  have b := hb _ (Value.ref (s.heap.objs.size + 1) :: us) I2.kIn hl
  rw [List.append_nil] at b
  refine wpAny_call (make_map (f := f) I.kIn M.makes M.init (beq_iff_eq.mp M.fn) (codeAny_mono (F.run (hr.make C us []) (make_guards.trans hgd) (I2.env0.make C us []) b r2 hq) ?_))
  intro r s' hq'
  cases r with
  | error e => exact hx pins σ _ _ e s' I2 hq'
  | ok fl =>
    cases fl with
    | ret u =>
      obtain ⟨v, H', I3, rv, ev, q3⟩ := I2.after hq'
      subst ev
      exact ⟨rv, V.ref (s.heap.objs.size + 1), H', I3, rfl, q3⟩
    | next => cases hq'
    | brk => cases hq'
    | cont => cases hq'
theorem g_make (M : Mk X.K C f) (F : Ok X.prog X.w X.K X.mg X.base CX k f fd ps sp) (hr : Room (k + 1) X.A) (hgd : X.A.guards = some []) (hm : X.mg x = some (.ref C)) (hb : Binds X.K fd ps []) (hx : Passes CX X E)
    (ha : PA X (e :: es) t) (hg : Gl X x := by rfl) (hdb : (x == ("__debug__" : Str)) = false := by decide)
    (he : starEach (e :: es) X.env = (false, eval e X.env) :: starEach es X.env := by rfl)
    (hpl : (backTo pos (starEach es X.env)).any (·.1) = false := by rfl) : PE X (.Call (.Name x p) (e :: es) [] pos) (tMk C sp E t) := by
  constructor
  intro pins s σ H Q I h
  refine wpAny_Call_Name_kw (ld_glob I hg hm ?_ hdb)
  refine PySem.W.callWith_K (h₀ := X.base) I.ok.mod.kin M.kp (thn (ha.run pos pins s σ H _ I h) ?_) he hpl
  rintro us s1 ⟨vs, H1, I1, r, q⟩
  exact ⟨I1.kIn, run_mk M F hr hgd hx hb I1 r q⟩
end

/-! ## repr of data -/
section
variable {X : Cx}
/-- the text of a datum is short enough -/
def rRepr (K : PySem.W.Frag) : List V → Hp → VK → Prop := fun xs H Q => ∃ a d, xs = [.ref a] ∧ Dp K H (.ref a) d ∧ d.showable = true ∧ d.hasDict = false ∧ d.depth ≤ 50 ∧ d.shown.length ≤ sizeLine ∧ Q (.str d.shown) H
theorem call_reprD (hgd : X.A.guards = some []) (hu : X.A.units + 64 < cLine) : CallR X (.builtin "repr") (rRepr X.K) := by
  intro pins s σ H xs us Q I r h
  obtain ⟨a, d, rfl, hd, h1, h2, h3, h4, q⟩ := h
  obtain ⟨u, rfl, ru⟩ := vals1 r
  obtain ⟨as, hr⟩ := Dp.reads I d _ _ hd ru
  cases ru
  refine repr_of_reads' hr h1 (PyData.noDict_hsm h2) hgd (by omega) (fun _ _ e => e) ?_ h4
  intro h' u tk hk
  exact ⟨.str d.shown, H, I.kept hk, ⟨u, rfl⟩, q⟩
end
end Dc

namespace Dc
open PySem PySem.Spec PyProof.Rows L2
/-! ## the law's end -/
section
variable {P : Program} {w : World} {K : PySem.W.Frag} {mg mb : Str → Option Value} {CX : CXT} {k : Nat} {fa a : Addr} {fd : FuncData} {x : Str} {sp : Sp} {s₁ : Shared} {vs : List Value} {ns : List Int}
abbrev LawPost (s₁ : Shared) (r : Result) (s' : Shared) : Prop :=
  r = .ok (.ret (.bool true)) ∧ OldK s₁.heap s'.heap ∧ s'.os = s₁.os ∧ AllBare s'.gens
/-- what is known of the state in which the law is called -/
structure LawAt (K : PySem.W.Frag) (mg mb : Str → Option Value) (a : Addr) (vs : List Value) (s₁ : Shared) : Prop where
  kin : K.In s₁.heap
  ns : s₁.heap.Ns mainGlobals mg
  bl : s₁.heap.Ns builtinsNs mb
  blb : ∀ x : Str, x ≠ "__name__" → mb x = bootBuiltins x
  lim : s₁.heap.NoLimit
  gens : s₁.gens = #[]
  list : s₁.heap.get? a = some { cls := .type "list", data := .seq vs.toArray }
theorem law_core (L : LawAt K mg mb a vs s₁) (hr : Room k callerA)
    (F : ∀ base : Heap, K.In base → base.Ns mainGlobals mg → Ok P w K mg base CX k fa fd [x] sp)
    (hbind : ∀ (s : Shared) (u : Value), BindsTo s fd ⟨[u], []⟩ [(x, u)])
    (hCX : ∀ H e s', CX [] H s₁ (fun _ _ _ => False) e s' → False)
    {H : Hp} (hO : Only H) (hsp : sp [.ref a] H (fun v _ => v = .bl true) fun _ _ _ => False)
    (hok : HOk P w H s₁.heap) (hA : ∀ b, H b ≠ none → b = a) (hK : H a ≠ none → K.lookup a = none) :
    codeAny (model P w) callerA (.call (.ref fa) ⟨[.ref a], []⟩) (LawPost s₁) s₁ := by
  have only : ∀ {b u}, H b = some u → b = a := fun {b u} q => hA b (by rw [q]; exact Option.some_ne_none _)
  have noA : ∀ {b : Addr} {o : Obj} {es : Array DictEntry} {ep : Nat}, s₁.heap.get? b = some o → o.data = .dict es ep → H b = none := by
    intro b o es ep e d
    cases q : H b with
    | none => rfl
    | some u =>
      cases only q
      rw [L.list] at e
      cases e
      cases d
  have nsK : ∀ {b : Addr} {m : Str → Option Value}, s₁.heap.Ns b m → (hidT s₁.heap H).Ns b m := by
    rintro b m ⟨o, es, ep, e, d, r⟩
    exact ⟨o, es, ep, hidT_get e (noA e d), d, r⟩
  have hKb : K.In (hidT s₁.heap H) := by
    intro b o e
    refine hidT_get (L.kin b o e) ?_
    cases q : H b with
    | none => rfl
    | some u =>
      cases only q
      rw [hK (by rw [q]; exact Option.some_ne_none _)] at e
      cases e
  have hl : (hidT s₁.heap H).NoLimit := by
    obtain ⟨mc, h1, h2⟩ := L.lim
    exact ⟨mc, nsK h1, h2⟩
  have e0 : Env0 P w K mg (hidT s₁.heap H) callerA [] s₁ H :=
    ⟨rfl, ⟨hKb, nsK L.ns, ⟨mb, nsK L.bl, L.blb⟩, hl⟩, fun b o e => of_hidT e, Nat.le_of_eq (hidT_size _ _), trivial,
      fun b hb => absurd (show b ∈ ([] : List Addr) from hb) List.not_mem_nil, hok, .of_eq L.gens⟩
  have C := (F _ hKb (nsK L.ns)).run (us := [.ref a]) (vs := [.ref a]) hr rfl e0 (hbind s₁ (.ref a)) (.cons rfl .nil) hsp
  refine codeAny_mono C ?_
  intro r s' h
  cases r with
  | error e => exact (hCX H e s' h).elim
  | ok fl =>
    cases fl with
    | next => cases h
    | brk => cases h
    | cont => cases h
    | ret u =>
      obtain ⟨v, H', os, bare, un, hok', r', q⟩ := h
      cases (show v = .bl true from q)
      obtain rfl : u = Value.bool true := r'
      refine ⟨rfl, OldK.of_keep (fun b o e => ?_), os, bare⟩
      cases q : H b with
      | none => exact un.keep b o e q (fun z => absurd (show b ∈ ([] : List Addr) from z) List.not_mem_nil) List.not_mem_nil
      | some u =>
        rcases hO b with z | ⟨ob, xs, z⟩
        · rw [q] at z
          cases z
        · obtain ⟨e1, _⟩ := hok b _ z
          obtain ⟨e2, _⟩ := hok' b _ (un.frzs b ob _ z)
          rw [e] at e1
          cases e1
          exact e2
theorem law_end (L : LawAt K mg mb a vs s₁) (hi : IntsAre vs ns) (hl : ns.length ≤ sizeLine) (hr : Room k callerA)
    (F : ∀ base : Heap, K.In base → base.Ns mainGlobals mg → Ok P w K mg base CX k fa fd [x] sp)
    (hbind : ∀ (s : Shared) (u : Value), BindsTo s fd ⟨[u], []⟩ [(x, u)])
    (hsp : ∀ H : Hp, Only H → SqL K H a (ns.map V.int) → sp [.ref a] H (fun v _ => v = .bl true) fun _ _ _ => False)
    (hCX : ∀ H e s', CX [] H s₁ (fun _ _ _ => False) e s' → False) :
    codeAny (model P w) callerA (.call (.ref fa) ⟨[.ref a], []⟩) (LawPost s₁) s₁ := by
  have rv := vals_ints hi
  have lenV := hi.length
  cases hk : K.lookup a with
  | some o =>
    have e := L.kin a o hk
    rw [L.list] at e
    cases e
    have only : Only (fun _ => none) := fun _ => .inl rfl
    refine law_core L hr F hbind hCX only (hsp _ only (.inr ⟨_, vs.toArray, _, hk, rfl, rfl, rfl, ?_, ?_⟩)) ?_ ?_ ?_
    · rw [List.size_toArray, lenV]
      exact hl
    · simpa using rv
    · intro b u z
      cases (show (none : Option HO) = some u from z)
    · exact fun b z => absurd rfl z
    · exact fun z => absurd rfl z
  | none =>
    let Hs : Hp := fun b => if b = a then some (.frz { cls := .type "list", data := .seq vs.toArray } (.lst (ns.map V.int))) else none
    have at_ : Hs a = some (.frz { cls := .type "list", data := .seq vs.toArray } (.lst (ns.map V.int))) := if_pos rfl
    have off : ∀ {b}, b ≠ a → Hs b = none := fun h => if_neg h
    have only : Only Hs := by
      intro b
      by_cases hb : b = a
      · exact .inr ⟨_, _, by rw [hb]; exact at_⟩
      · exact .inl (off hb)
    refine law_core L hr F hbind hCX only (hsp _ only (.inl (.inr ⟨_, at_⟩))) ?_ ?_ (fun _ => hk)
    · intro b u z
      by_cases hb : b = a
      · subst hb
        rw [at_] at z
        cases z
        exact ⟨L.list, by rw [List.length_map]; exact hl, vs, _, rv, L.list⟩
      · rw [off hb] at z
        cases z
    · intro b z
      by_cases hb : b = a
      · exact hb
      · exact absurd (off hb) z
end
theorem walkE {l : PySem.W.OpenLaw} {n k : Nat} {q : Program} {loose : List Str} {XP : (Str → Option Value) → Heap → Prop} {YP : World → Heap → Prop} {d : DefRec} {CX : World → CXT} {x : Str}
    (hn : l.most = some n) (hn2 : n ≤ sizeLine) (hdf : d.params.defaults = []) (hr : Room k callerA)
    (F : ∀ (w : World) (mg : Str → Option Value) (fa : Addr) (h : Heap), YP w h → h.Ns mainGlobals mg → mg d.name = some (.ref fa) →
      ∃ (K : PySem.W.Frag) (fd : FuncData) (sp : Sp), K.In h ∧ (∀ (s : Shared) (u : Value), BindsTo s fd ⟨[u], []⟩ [(x, u)]) ∧
        (∀ (H : Hp) (a : Addr) (ns : List Int), ns.length ≤ n → SqL K H a (ns.map V.int) → sp [.ref a] H (fun v _ => v = .bl true) fun _ _ _ => False) ∧
        ∀ base : Heap, K.In base → base.Ns mainGlobals mg → Ok l.prog w K mg base (CX w) k fa fd [x] sp)
    (hCX : ∀ (w : World) (H : Hp) (s : Shared) (e : Value) (s' : Shared), CX w [] H s (fun _ _ _ => False) e s' → False) :
    PySem.W.WalkO q loose XP YP l.row.toRowW d [] (fun f vs => PySem.call f vs) := by
  refine Att.attach_call hn hdf ?_
  intro w s₀ s₁ mg mb fa o pm cd doc a vs ns G Y ho hd hcd hmg hobj hints hlen hg
  obtain ⟨K, fd, sp, KX, hb, hsp, hF⟩ := F w mg fa _ Y G.T.g hmg
  exact law_end ⟨KX, G.T.g, G.T.b, G.T.builtins, G.T.nolimit, hg, hobj⟩ hints (Nat.le_trans hlen hn2) hr hF hb
    (fun H _ hS => hsp H a ns hlen hS) (fun H e s' => hCX w H s₁ e s')
end Dc

namespace Dc
open PySem PySem.Spec PyProof.Rows L2
/-! ## what the top has written, by places in two lists -/
def fdAt (K : PySem.W.Frag) (p : Str × Option Str) : FuncData := match K.lookup (He.fAd K p) with
  | some ⟨_, _, .func fd, _⟩ => fd
  | _ => PySem.W.fnOf "" "" { posonlyargs := [], args := [], vararg := none, kwonlyargs := [], kw_defaults := [], kwarg := none, defaults := [] } [] { kind := .function, names := [], isGenerator := false, isCoroutine := false } .none .none .none .none none .none .none
structure Txt (fa : List He.Fa) (fn : List He.DefD) (K : PySem.W.Frag) (mg : Str → Option Value) : Prop where
  c : He.SaysD fa fn K
  h : ∃ h : Heap, K.In h ∧ h.Ns mainGlobals mg
section
variable {fa : List He.Fa} {fn : List He.DefD} {K : PySem.W.Frag} {mg : Str → Option Value}
variable (T : Txt fa fn K mg)
include T
theorem Txt.glo (i : Nat) {x : Str} (q : fa[i]? = some (.glo x) := by rfl) : mg x = some (.ref (He.ga K x)) := let ⟨_, X, G⟩ := T.h; He.glo_ok X G (T.c.fact i q)
theorem Txt.free (i : Nat) {x : Str} (q : fa[i]? = some (.free x) := by rfl) : mg x = none := let ⟨_, X, G⟩ := T.h; He.free_ok X G (T.c.fact i q)
theorem Txt.int (i : Nat) {x : Str} {n : Int} (q : fa[i]? = some (.int x n) := by rfl) : ∃ t, mg x = some (.int n t) := let ⟨_, X, G⟩ := T.h; He.int_ok X G (T.c.fact i q)
theorem Txt.str (i : Nat) {x y : Str} (q : fa[i]? = some (.str x y) := by rfl) : ∃ t, mg x = some (.str y t) := let ⟨_, X, G⟩ := T.h; He.str_ok X G (T.c.fact i q)
theorem Txt.cls (i : Nat) {x : Str} (h : fa[i]? = some (.cls x) := by rfl) : Cls K (He.ga K x) := He.cls_ok (T.c.fact i h)
theorem Txt.noat (i : Nat) {x f : Str} (h : fa[i]? = some (.noat x f) := by rfl) : NoAttr K (He.ga K x) f := He.noat_ok (T.c.fact i h)
theorem Txt.meth (i : Nat) {x m : Str} (h : fa[i]? = some (.meth x m) := by rfl) : Meth K (He.ga K x) m (He.ma K (He.ga K x) m) := He.meth_ok (T.c.fact i h)
theorem Txt.mkr (i : Nat) {x : Str} (h : fa[i]? = some (.mkr x) := by rfl) : Mk K (He.ga K x) (He.ma K (He.ga K x) "__init__") := He.mkr_ok (T.c.fact i h)
theorem Txt.def_ (i : Nat) {d : He.DefD} (h : fn[i]? = some d := by rfl) : FunD K d.name d.qual d.params d.body d.scope (d.dvs K) (d.kws K) (He.fAd K d.at_) (fdAt K d.at_) := by
  obtain ⟨fd, F⟩ := T.c.def_ i h
  obtain ⟨oc, od, dV, kV, doc, pm, an, cdv, ct, osl, e, lk, r⟩ := F.ex
  have q : fdAt K d.at_ = fd := by
    unfold fdAt
    rw [lk]
  rw [q]
  exact F
end
/-! ## how a def is called: by its name, as a method, as __init__ -/
structure Cal (K : PySem.W.Frag) (mg : Str → Option Value) (x : Str) (f : Addr) (fd : FuncData) (ps : List Str) : Prop where
  m : mg x = some (.ref f)
  k : PySem.W.keepIn K (.ref f) = true
  b : L2.Binds K fd ps []
structure CalM (K : PySem.W.Frag) (C : Addr) (x : Str) (f : Addr) (fd : FuncData) (ps : List Str) : Prop where
  c : Cls K C
  m : Meth K C x f
  b : L2.Binds K fd ps []
structure CalI (K : PySem.W.Frag) (mg : Str → Option Value) (C : Addr) (x : Str) (f : Addr) (fd : FuncData) (ps : List Str) : Prop where
  m : mg x = some (.ref C)
  k : Mk K C f
  b : L2.Binds K fd ps []
section
variable {X : Cx} {CX : CXT} {k n : Nat} {f C : Addr} {fd : FuncData} {ps ks : List Str} {sp : Sp} {E : XK} {x m : Str} {p pos apos : Pos} {e o : Expr} {es : List Expr} {kws : List Keyword} {ta : TE} {t tk : TA}
theorem c_call (F : Ok X.prog X.w X.K X.mg X.base CX k f fd ps sp) (c : Cal X.K X.mg x f fd ps) (hr : Room k X.A) (hgd : X.A.guards = some []) (hx : Passes CX X E)
    (ha : PA X (e :: es) t) (hg : Gl X x := by rfl) (hdb : (x == ("__debug__" : Str)) = false := by decide)
    (he : starEach (e :: es) X.env = (false, eval e X.env) :: starEach es X.env := by rfl)
    (hpl : (backTo pos (starEach es X.env)).any (·.1) = false := by rfl) : PE X (.Call (.Name x p) (e :: es) [] pos) (tF sp E t) :=
  g_call F hr hgd c.m c.k c.b hx ha hg hdb he hpl
theorem c_meth {pl : Sem Bool} (F : Ok X.prog X.w X.K X.mg X.base CX k f fd ps sp) (c : CalM X.K C m f fd ps) (hr : Room k X.A) (hgd : X.A.guards = some []) (hx : Passes CX X E) (ho : PE X o ta) (ha : PA X (e :: es) t)
    (hst : starEach (e :: es) X.env = (false, eval e X.env) :: starEach es X.env := by rfl)
    (hpl : (backTo pos (starEach es X.env)).any (·.1) = false := by rfl)
    (ht : eval (.Call (.Attribute o m apos) (e :: es) [] pos) X.env = (do
        let ov ← eval o X.env
        standAt apos.atName
        let (f, first) ← holding [ov] (getMethod ov m pl)
        callWith pos f first (backTo pos (starEach (e :: es) X.env)) (backToKw pos (keywordEach [] X.env))) := by rfl) :
    PE X (.Call (.Attribute o m apos) (e :: es) [] pos) (tM C m sp E ta t) := g_meth ho c.c c.m F hr hgd c.b hx ha hst hpl ht
theorem c_meth0 {pl : Sem Bool} (F : Ok X.prog X.w X.K X.mg X.base CX k f fd ps sp) (c : CalM X.K C m f fd ps) (hr : Room k X.A) (hgd : X.A.guards = some []) (hx : Passes CX X E) (ho : PE X o ta)
    (ht : eval (.Call (.Attribute o m apos) [] [] pos) X.env = (do
        let ov ← eval o X.env
        standAt apos.atName
        let (f, first) ← holding [ov] (getMethod ov m pl)
        callWith pos f first (backTo pos (starEach [] X.env)) (backToKw pos (keywordEach [] X.env))) := by rfl) :
    PE X (.Call (.Attribute o m apos) [] [] pos) (tM C m sp E ta tNil) := g_meth0 ho c.c c.m F hr hgd c.b hx ht
theorem c_make (F : Ok X.prog X.w X.K X.mg X.base CX k f fd ps sp) (c : CalI X.K X.mg C x f fd ps) (hr : Room (k + 1) X.A) (hgd : X.A.guards = some []) (hx : Passes CX X E)
    (ha : PA X (e :: es) t) (hg : Gl X x := by rfl) (hdb : (x == ("__debug__" : Str)) = false := by decide)
    (he : starEach (e :: es) X.env = (false, eval e X.env) :: starEach es X.env := by rfl)
    (hpl : (backTo pos (starEach es X.env)).any (·.1) = false := by rfl) : PE X (.Call (.Name x p) (e :: es) [] pos) (tMk C sp E t) :=
  g_make c.k F hr hgd c.m c.b hx ha hg hdb he hpl
/-- len(o) by an own __len__ -/
def rLenO (C : Addr) (sp : Sp) (E : XK) : List V → Hp → VK → Prop := fun xs H Q => ∃ a dx fs, xs = [.ref a] ∧ H a = some (.ins C dx fs) ∧
  sp [.ref a] H (fun v H' => ∃ n : Nat, v = .int n ∧ n < 2 ^ 62 ∧ Q (.int n) H') E
theorem call_lenO (F : Ok X.prog X.w X.K X.mg X.base CX k f fd ps sp) (c : CalM X.K C "__len__" f fd ps) (hr : Room (k + 1) X.A) (hgd : X.A.guards = some []) (hx : Passes CX X E) :
    CallR X (.builtin "len") (rLenO C sp E) := by
  intro pins s σ H xs us Q I r h
  obtain ⟨a, dx, fs, rfl, ha, q⟩ := h
  obtain ⟨u, rfl, ru⟩ := vals1 r
  cases ru
  obtain ⟨mA, O, _, _, _, _⟩ := ins_get I.hok ha
  obtain ⟨m, fr⟩ := I.fr
  obtain ⟨od, J, _⟩ := O.look
  have hl : ([.ref a] ++ [] : List Value).length = ps.length := F.len q
  have b := c.b s [.ref a] I.kIn hl
  refine PySem.W.len_K fr I.ok.mod.kin J c.m.at_ c.m.fn (wpAny_call (codeAny_mono (F.run (vs := [.ref a]) (us := [.ref a]) (Room.in1 hr) hgd I.env0.in1 b (.cons rfl .nil) q) ?_))
  intro r s' hq
  cases r with
  | error e => exact hx pins σ H s e s' I hq
  | ok fl =>
    cases fl with
    | next => cases hq
    | brk => cases hq
    | cont => cases hq
    | ret u =>
      obtain ⟨v, H', I', rv, n, rfl, hn, q2⟩ := I.after hq
      obtain ⟨t, rfl⟩ := rv
      exact ⟨⟨by omega, by omega⟩, .int n, H', I'.tok _, ⟨_, rfl⟩, q2⟩
end
end Dc

namespace Dc
open PySem PySem.Spec PyProof.Rows L2
section
variable {CX : CXT} {P : Program} {w : World} {K : PySem.W.Frag} {mg : Str → Option Value} {base : Heap} {N : List Str} {qual : Str} {scope : Scope} {f : Addr} {cd : Value} {A : Around} {outer : List Env} {s : Shared} {H : Hp} {E : XK}
theorem cx_K : (cxOf CX P w K mg base N qual scope f cd A outer s H E).K = K := rfl
theorem cx_nK {X : Cx} : X.nox.K = X.K := rfl
theorem cx_w : (cxOf CX P w K mg base N qual scope f cd A outer s H E).w = w := rfl
theorem cx_nw {X : Cx} : X.nox.w = X.w := rfl
theorem cx_bK {X : Cx} {s : Shared} {H : Hp} {sc : Scope} {ce : Env} {fp : List Addr} : (X.blk s H sc ce fp).K = X.K := rfl
theorem st0 {v : Option V} {r : L2.St} : (v :: r : L2.St)[0]? = some v := rfl
theorem st1 {a v : Option V} {r : L2.St} : (a :: v :: r : L2.St)[1]? = some v := rfl
theorem st2 {a b v : Option V} {r : L2.St} : (a :: b :: v :: r : L2.St)[2]? = some v := rfl
theorem st3 {a b c v : Option V} {r : L2.St} : (a :: b :: c :: v :: r : L2.St)[3]? = some v := rfl
theorem some2 {a b : V} : ((some (some a) : Option (Option V)) = some (some b)) = (a = b) := by
  rw [Option.some.injEq, Option.some.injEq]
end
end Dc
namespace Dc
open PySem PySem.Spec PyProof.Rows L2
/-! readings of built-ins by names -/
def rAddStr : R2 := fun x y H Q => ∃ i j, x = .str i ∧ y = .str j ∧ i.length + j.length ≤ sizeLine ∧ Q (.str (i ++ j)) H
def rLenStr : List V → Hp → VK → Prop := fun xs H Q => ∃ z, xs = [.str z] ∧ z.length ≤ sizeLine ∧ Q (.int z.length) H
def rLenSeq (K : PySem.W.Frag) : List V → Hp → VK → Prop := fun xs H Q => ∃ p ys, xs = [.ref p] ∧ (SqL K H p ys ∨ SqT K H p ys) ∧ Q (.int ys.length) H
def rLenDic : List V → Hp → VK → Prop := fun xs H Q => ∃ a kvs, xs = [V.ref a] ∧ H a = some (.dK kvs) ∧ Q (.int kvs.length) H
def rAbs : List V → Hp → VK → Prop := fun xs H Q => ∃ i, xs = [.int i] ∧ Q (.int (if i < 0 then -i else i)) H
def rMax2 : List V → Hp → VK → Prop := fun xs H Q => ∃ i j, xs = [.int i, .int j] ∧ Q (.int (if j > i then j else i)) H
def rMin2 : List V → Hp → VK → Prop := fun xs H Q => ∃ i j, xs = [.int i, .int j] ∧ Q (.int (if j < i then j else i)) H
def rDivmod : List V → Hp → VK → Prop := fun xs H Q => ∃ i j, xs = [.int i, .int j] ∧ CDiv i j ∧ ∀ p, H p = none → Q (.ref p) (upd H p (.tup [.int (i / j), .int (i % j)]))
def rListOf (K : PySem.W.Frag) : List V → Hp → VK → Prop := fun xs H Q => ∃ p ys, xs = [.ref p] ∧ (SqL K H p ys ∨ SqT K H p ys) ∧ ∀ l, H l = none → Q (.ref l) (upd H l (.lst ys))
def rTupleOf (K : PySem.W.Frag) : List V → Hp → VK → Prop := fun xs H Q => ∃ p ys, xs = [.ref p] ∧ ((SqL K H p ys ∧ ∀ l, H l = none → Q (.ref l) (upd H l (.tup ys))) ∨ (SqT K H p ys ∧ Q (.ref p) H))
def rStrInt : List V → Hp → VK → Prop := fun xs H Q => ∃ i, xs = [.int i] ∧ i.natAbs.log2 < 1920 ∧ Q (.str (toString i)) H
def rReprInt : List V → Hp → VK → Prop := fun xs H Q => ∃ i, xs = [.int i] ∧ i.natAbs.log2 < 1920 ∧ Q (.str (toString i)) H
def rStrStr : List V → Hp → VK → Prop := fun xs H Q => ∃ a, xs = [.str a] ∧ Q (.str a) H
def rIntStr : List V → Hp → VK → Prop := fun xs H Q => ∃ a n, xs = [.str a] ∧ PySem.intText? a = some n ∧ a.length ≤ 640 ∧ Q (.int n) H
abbrev tipAdd : TIp := ipI fun i j => i + j
abbrev tipSub : TIp := ipI fun i j => i - j
def rJoin (K : PySem.W.Frag) : V → List V → Hp → VK → Prop := fun x xs H Q => ∃ a p, ∃ ys : List Str, x = .str a ∧ xs = [.ref p] ∧ (SqL K H p (ys.map V.str) ∨ SqT K H p (ys.map V.str)) ∧ (ys.map (·.length)).sum + ys.length * a.length ≤ 16777216 ∧ Q (.str (Txt.join a ys)) H
def rSplit : V → List V → Hp → VK → Prop := fun x xs H Q => ∃ a b, x = .str a ∧ xs = [.str b] ∧ (b.length == 0) = false ∧ a.length + 2 ≤ sizeLine ∧ rNewStrs (Txt.split a b) H Q
def rTupL (K : PySem.W.Frag) : List V → Hp → VK → Prop := fun xs H Q => ∃ p ys, xs = [.ref p] ∧ SqL K H p ys ∧ ∀ l, H l = none → Q (.ref l) (upd H l (.tup ys))
theorem call_tupL {X : Cx} : CallR X (.type "tuple") (rTupL X.K) := fun pins s σ H xs us Q I r h => by
  obtain ⟨p, ys, e, hs, q⟩ := h
  exact call_tuple_of pins s σ H xs us Q I r ⟨p, ys, e, .inl ⟨hs, q⟩⟩
end Dc

namespace Dc
open PySem PySem.Spec PyProof.Rows L2
/-! ## two heaps: F, what stays for good; H, what stands (F in it) -/
theorem upd_eq {H : Hp} {a b : Addr} {o : HO} : upd H a o b = if b = a then some o else H b := rfl
theorem Same.new {H : Hp} {p : Addr} {o : HO} (h : H p = none) : Same H (upd H p o) := fun b u e => by
  rw [upd_ne (ne_of_none e h)]
  exact e
/-- the addresses in M may change -/
structure Go (M : Addr → Prop) (F H F' H' : Hp) : Prop where
  ff : Same F F'
  fh : Same F' H'
  hh : ∀ b o, ¬ M b → H b = some o → H' b = some o
  oo : ∀ b, F b = none → H b ≠ none → F' b = none
  th : ∀ b, H b ≠ none → H' b ≠ none
section
variable {M M' : Addr → Prop} {F H F1 H1 F2 H2 : Hp} {p q l : Addr} {o u : HO}
theorem Go.refl (s : Same F H) : Go M F H F H := ⟨fun _ _ h => h, s, fun _ _ _ h => h, fun _ h _ => h, fun _ h => h⟩
theorem Go.trans (a : Go M F H F1 H1) (b : Go M F1 H1 F2 H2) : Go M F H F2 H2 :=
  ⟨fun c x h => b.ff c x (a.ff c x h), b.fh, fun c x m h => b.hh c x m (a.hh c x m h), fun c h n => b.oo c (a.oo c h n) (a.th c n), fun c n => b.th c (a.th c n)⟩
theorem Go.wide (g : Go M F H F1 H1) (h : ∀ b, M b → M' b) : Go M' F H F1 H1 := ⟨g.ff, g.fh, fun b x m e => g.hh b x (fun z => m (h b z)) e, g.oo, g.th⟩
/-- a new object, kept -/
theorem Go.new (g : Go M F H F1 H1) (h : H1 q = none) : Go M F H (upd F1 q o) (upd H1 q o) := by
  have f1 : F1 q = none := Same.free g.fh h
  refine ⟨fun b x e => ?_, fun b x e => ?_, fun b x m e => ?_, fun b e n => ?_, fun b n => ?_⟩
  · rw [upd_ne (ne_of_none (g.ff b x e) f1)]
    exact g.ff b x e
  · by_cases hb : b = q
    · rw [hb] at e ⊢
      rw [upd_same] at e ⊢
      exact e
    · rw [upd_ne hb] at e ⊢
      exact g.fh b x e
  · have e1 := g.hh b x m e
    rw [upd_ne (ne_of_none e1 h)]
    exact e1
  · have n1 := g.th b n
    have hb : b ≠ q := fun z => n1 (z ▸ h)
    rw [upd_ne hb]
    exact g.oo b e n
  · have n1 := g.th b n
    have hb : b ≠ q := fun z => n1 (z ▸ h)
    rw [upd_ne hb]
    exact n1
/-- a new object, of no further use (or one that will change) -/
theorem Go.tmp (g : Go M F H F1 H1) (h : H1 q = none) : Go M F H F1 (upd H1 q o) := by
  refine ⟨g.ff, fun b x e => ?_, fun b x m e => ?_, g.oo, fun b n => ?_⟩
  · have e1 := g.fh b x e
    rw [upd_ne (ne_of_none e1 h)]
    exact e1
  · have e1 := g.hh b x m e
    rw [upd_ne (ne_of_none e1 h)]
    exact e1
  · have n1 := g.th b n
    have hb : b ≠ q := fun z => n1 (z ▸ h)
    rw [upd_ne hb]
    exact n1
/-- one that may change does -/
theorem Go.mut (g : Go M F H F1 H1) (m : M p) (f : F1 p = none) : Go M F H F1 (upd H1 p o) := by
  refine ⟨g.ff, fun b x e => ?_, fun b x nm e => ?_, g.oo, fun b n => ?_⟩
  · rw [upd_ne (ne_of_none e f)]
    exact g.fh b x e
  · have hb : b ≠ p := fun z => nm (z ▸ m)
    rw [upd_ne hb]
    exact g.hh b x nm e
  · by_cases hb : b = p
    · rw [hb, upd_same]
      exact Option.some_ne_none _
    · rw [upd_ne hb]
      exact g.th b n
/-- one that is new to H, and not kept, changes -/
theorem Go.loc (g : Go M F H F1 H1) (h : H l = none) (f : F1 l = none) : Go M F H F1 (upd H1 l o) := by
  refine ⟨g.ff, fun b x e => ?_, fun b x nm e => ?_, g.oo, fun b n => ?_⟩
  · rw [upd_ne (ne_of_none e f)]
    exact g.fh b x e
  · rw [upd_ne (ne_of_none e h)]
    exact g.hh b x nm e
  · by_cases hb : b = l
    · rw [hb, upd_same]
      exact Option.some_ne_none _
    · rw [upd_ne hb]
      exact g.th b n
/-- it is kept from now on -/
theorem Go.fin (g : Go M F H F1 H1) (h : H l = none) (f : F1 l = none) (e1 : H1 l = some o) : Go M F H (upd F1 l o) H1 := by
  refine ⟨fun b x e => ?_, fun b x e => ?_, g.hh, fun b e n => ?_, g.th⟩
  · rw [upd_ne (ne_of_none (g.ff b x e) f)]
    exact g.ff b x e
  · by_cases hb : b = l
    · rw [hb] at e ⊢
      rw [upd_same] at e
      rw [← e]
      exact e1
    · rw [upd_ne hb] at e
      exact g.fh b x e
  · have hb : b ≠ l := fun z => n (z ▸ h)
    rw [upd_ne hb]
    exact g.oo b e n
theorem Go.at (g : Go M F H F1 H1) (m : ¬ M b) (e : H b = some o) : H1 b = some o := g.hh b o m e
theorem Go.off (g : Go M F H F1 H1) (f : F b = none) (e : H b = some o) : F1 b = none := g.oo b f (by rw [e]; exact Option.some_ne_none _)
end
theorem Go.of_same {M : Addr → Prop} {F H H' : Hp} (s : Same F H) (k : Same H H') : Go M F H F H' :=
  ⟨fun _ _ h => h, s.trans k, fun _ _ _ h => k _ _ h, fun _ h _ => h, fun b n z => n (Same.free k z)⟩
theorem Go.free {M : Addr → Prop} {F H F1 H1 : Hp} {b : Addr} (g : Go M F H F1 H1) (h : H1 b = none) : H b = none := by
  cases e : H b with
  | none => rfl
  | some o => exact absurd h (g.th b (by rw [e]; exact Option.some_ne_none _))
abbrev M0 : Addr → Prop := fun _ => False
abbrev M1 (p : Addr) : Addr → Prop := fun b => b = p
theorem m0 {b : Addr} : ¬ M0 b := fun h => h
theorem neS {H : Hp} {a b : Addr} {o : HO} (h : H a = some o) (h' : H b = none) : b ≠ a := fun e => (ne_of_none h h') e.symm
/-! ## lists of data -/
theorem paired_mono {α β : Type} {R S : α → β → Prop} (h : ∀ a b, R a b → S a b) : ∀ {l : List α} {m : List β}, Paired R l m → Paired S l m
  | _, _, .nil => .nil
  | _, _, .cons r t => .cons (h _ _ r) (paired_mono h t)
theorem paired_get {α β : Type} {R : α → β → Prop} : ∀ {l : List α} {m : List β} {i : Nat} {b : β}, Paired R l m → m[i]? = some b → ∃ a, l[i]? = some a ∧ R a b
  | _, _, _, _, .nil, h => by cases h
  | _, _, 0, _, .cons r _, h => by
    cases h
    exact ⟨_, rfl, r⟩
  | _, _, i + 1, _, .cons _ t, h => paired_get (i := i) t h
theorem paired_get' {α β : Type} {R : α → β → Prop} : ∀ {l : List α} {m : List β} {i : Nat} {a : α}, Paired R l m → l[i]? = some a → ∃ b, m[i]? = some b ∧ R a b
  | _, _, _, _, .nil, h => by cases h
  | _, _, 0, _, .cons r _, h => by
    cases h
    exact ⟨_, rfl, r⟩
  | _, _, i + 1, _, .cons _ t, h => paired_get' (i := i) t h
theorem paired_snoc {α β : Type} {R : α → β → Prop} {a : α} {b : β} (h : R a b) : ∀ {l : List α} {m : List β}, Paired R l m → Paired R (l ++ [a]) (m ++ [b])
  | _, _, .nil => .cons h .nil
  | _, _, .cons r t => .cons r (paired_snoc h t)
end Dc

namespace Dc
open PySem PySem.Spec PyProof.Rows L2
/-- a for loop over J, from a heap on -/
def ForB (g : TG) (tb : TS) (D : Ends) (σ : L2.St) (J : It) (H1 : Hp) : Prop := ∃ W : Nat → Nat → L2.St → Hp → Prop, (∃ m, W 0 m σ H1) ∧ ∀ i m σ H, W i m σ H →
  (J.stop i H ∧ D.nx σ H) ∨ (J.go i H ∧ ∃ N : L2.St → Hp → Prop, (∀ σ' H', N σ' H' → ∃ m', m' < m ∧ W (i + 1) m' σ' H') ∧
    ∀ x H', J.yld i H x H' → g x σ H' fun σ2 H2 => tb { D with nx := N, ct := N, bk := D.nx } σ2 H2)
theorem tFor_eq {wi : TI} {g : TG} {tb : TS} {D : Ends} {σ : L2.St} {H : Hp} : tFor wi g tb D σ H = wi σ H (ForB g tb D σ) := rfl
/-- a comprehension over J, from a heap on -/
def LcB (g : TG) (tt : TT) (te : TE) (vs : List Nat) (σ : L2.St) (Q : VK) (J : It) (H1 : Hp) : Prop := ∀ L, H1 L = none → ∃ W : Nat → Nat → Hp → Prop, (∃ m, W 0 m (upd H1 L (.lst []))) ∧ ∀ i m H, W i m H →
  (J.stop i H ∧ Q (.ref L) H) ∨ (J.go i H ∧ ∃ Nx : Hp → Prop, (∀ H', Nx H' → ∃ m', m' < m ∧ W (i + 1) m' H') ∧
    ∀ x H', J.yld i H x H' → g x (wipe σ vs) H' fun σ2 H2 => wipe σ2 vs = wipe σ vs ∧ tt σ2 H2 fun b H3 =>
      if b = true then te σ2 H3 fun y H4 => ∃ acc, H4 L = some (.lst acc) ∧ acc.length < sizeLine ∧ Nx (upd H4 L (.lst (acc ++ [y]))) else Nx H3)
theorem tLc_eq {wi : TI} {g : TG} {tt : TT} {te : TE} {vs : List Nat} {σ : L2.St} {H : Hp} {Q : VK} : tLc wi g tt te vs σ H Q = wi σ H (LcB g tt te vs σ Q) := rfl
section
variable {J : It} {n : Nat} {G : Hp → Prop} {Y : Nat → Hp → V → Hp → Prop} {g : TG} {tb : TS} {D : Ends} {σ : L2.St} {F H H1 : Hp} {tt : TT} {te : TE} {vs : List Nat} {Q : VK}
/-- a for loop -/
theorem f_it (w : Walk J n G Y) (Pv : Nat → L2.St → Hp → Prop) (h0 : Pv 0 σ H1) (hG : ∀ i σ H, i ≤ n → Pv i σ H → G H)
    (hs : ∀ i x σ H H' (N : L2.St → Hp → Prop), i < n → Pv i σ H → Y i H x H' → (∀ σ' H', Pv (i + 1) σ' H' → N σ' H') → g x σ H' fun σ2 H2 => tb { D with nx := N, ct := N, bk := D.nx } σ2 H2)
    (hd : ∀ σ H, Pv n σ H → D.nx σ H) : ForB g tb D σ J H1 := for_it w Pv h0 hG (fun i x σ H H' a b c => hs i x σ H H' (Pv (i + 1)) a b c (fun _ _ z => z)) hd
/-- a comprehension -/
theorem l_it (w : Walk J n G Y) (Pv : Addr → Nat → Hp → Prop) (h0 : ∀ L, H1 L = none → Pv L 0 (upd H1 L (.lst []))) (hG : ∀ L i H, i ≤ n → Pv L i H → G H)
    (hs : ∀ L i x H H', i < n → Pv L i H → Y i H x H' → g x (wipe σ vs) H' fun σ2 H2 => wipe σ2 vs = wipe σ vs ∧ tt σ2 H2 fun b H3 =>
      if b = true then te σ2 H3 fun y H4 => ∃ acc, H4 L = some (.lst acc) ∧ acc.length < sizeLine ∧ Pv L (i + 1) (upd H4 L (.lst (acc ++ [y]))) else Pv L (i + 1) H3)
    (hd : ∀ L H', H1 L = none → Pv L n H' → Q (.ref L) H') : LcB g tt te vs σ Q J H1 :=
  fun L hL => lc_it w (Pv L) (h0 L hL) (hG L) (hs L) fun H' p => hd L H' hL p
/-- a comprehension whose list is new, beside what may change (M, told by Z): N, N' are what is wanted behind a turn -/
theorem l_go (w : Walk J n G Y) (S : Same F H) (M : Addr → Prop) (Z : Hp → Prop) (z0 : Z H) (hM : ∀ b, M b → H b ≠ none) (hZ : ∀ H' b o, Z H' → ¬ M b → Z (upd H' b o))
    (I : Nat → Hp → List V → Prop) (i0 : I 0 F []) (hG : ∀ H', Same F H' → G H') (hn : n < 100000)
    (hs : ∀ i x F1 H1 H1' acc (N : VK) (N' : Hp → Prop), i < n → Go M F H F1 H1 → Z H1 → I i F1 acc → Y i H1 x H1' →
      (∀ y F4 H4, Go M F1 H1 F4 H4 → Z H4 → I (i + 1) F4 (acc ++ [y]) → N y H4) → (∀ F3 H3, Go M F1 H1 F3 H3 → Z H3 → I (i + 1) F3 acc → N' H3) →
      g x (wipe σ vs) H1' fun σ2 H2 => wipe σ2 vs = wipe σ vs ∧ tt σ2 H2 fun b H3 => if b = true then te σ2 H3 N else N' H3)
    (hd : ∀ L F' H' acc, Go M F H F' H' → Z H' → H L = none → F' L = none → H' L = some (.lst acc) → I n F' acc → Q (.ref L) H') : LcB g tt te vs σ Q J H := by
  refine l_it w (fun L i H' => H L = none ∧ ∃ F' acc, Go M F H F' H' ∧ Z H' ∧ F' L = none ∧ H' L = some (.lst acc) ∧ acc.length ≤ i ∧ I i F' acc) ?_ ?_ ?_ ?_
  · intro L hL
    refine ⟨hL, F, [], (Go.refl S).tmp hL, hZ _ _ _ z0 (fun m => hM L m hL), Same.free S hL, upd_same, Nat.le_refl _, i0⟩
  · rintro L i H' _ ⟨hL, F', acc, g, _⟩
    exact hG H' (fun b o e => g.fh b o (g.ff b o e))
  · rintro L i x H1 H1' hi ⟨hL, F1, acc, g1, z1, f1, h1, hlen, i1⟩ y
    have nM : ¬ M L := fun m => hM L m hL
    refine hs i x F1 H1 H1' acc _ _ hi g1 z1 i1 y ?_ ?_
    · intro v F4 H4 g4 z4 i4
      have e4 : H4 L = some (.lst acc) := g4.hh _ _ nM h1
      have f4 : F4 L = none := g4.off f1 h1
      refine ⟨acc, e4, Nat.lt_of_le_of_lt hlen (Nat.lt_trans hi (Nat.lt_trans hn (by decide))), hL, F4, acc ++ [v], (g1.trans g4).loc hL f4, hZ _ _ _ z4 nM, f4, upd_same, ?_, i4⟩
      rw [List.length_append, List.length_singleton]
      omega
    · intro F3 H3 g3 z3 i3
      exact ⟨hL, F3, acc, g1.trans g3, z3, g3.off f1 h1, g3.hh _ _ nM h1, Nat.le_succ_of_le hlen, i3⟩
  · rintro L H' hL ⟨_, F', acc, g, z, f, h, _, i⟩
    exact hd L F' H' acc g z hL f h i
end
end Dc

namespace Dc
open PySem PySem.Spec PyProof.Rows L2
abbrev En (Q : VK) : Ends := { nx := fun _ H' => Q .non H', rt := Q }
def st0' (n : Nat) (vs : List V) : L2.St := vs.map some ++ List.replicate (n - vs.length) none
/-- a pot: two numbers -/
def PotAt (H : Hp) (p : Addr) : Prop := ∃ a b : Int, H p = some (.lst [.int a, .int b]) ∧ 0 ≤ a ∧ 0 ≤ b ∧ b < 4294967296
theorem PotAt.some {H : Hp} {p : Addr} (h : PotAt H p) : H p ≠ none := by
  obtain ⟨a, b, e, _⟩ := h
  rw [e]
  exact Option.some_ne_none _
theorem PotAt.ne {H : Hp} {p q : Addr} (h : PotAt H p) (n : H q = none) : p ≠ q := by
  obtain ⟨a, b, e, _⟩ := h
  exact ne_of_none e n
theorem PotAt.go {M : Addr → Prop} {F H F' H' : Hp} {p : Addr} (h : PotAt H p) (g : Go M F H F' H') (m : ¬ M p) : PotAt H' p := by
  obtain ⟨a, b, e, r⟩ := h
  exact ⟨a, b, g.hh _ _ m e, r⟩
theorem PotAt.new {H : Hp} {p q : Addr} {o : HO} (h : PotAt H p) (n : H q = none) : PotAt (upd H q o) p := by
  obtain ⟨a, b, e, r⟩ := h
  exact ⟨a, b, by rw [upd_ne (ne_of_none e n)]; exact e, r⟩
theorem PotAt.upd {H : Hp} {p q : Addr} {o : HO} (h : PotAt H p) (n : p ≠ q) : PotAt (upd H q o) p := by
  obtain ⟨a, b, e, r⟩ := h
  exact ⟨a, b, by rw [upd_ne n]; exact e, r⟩
/-! ### names, ranges, doors: what is drawn -/
def letters26 : Str := "abcdefghijklmnopqrstuvwxyz"
def isLetter (c : Nat) : Bool := decide (97 ≤ c) && decide (c ≤ 122)
/-- a text of one to eight small letters -/
def IsName (x : Str) : Prop := 1 ≤ x.length ∧ x.length ≤ 8 ∧ ∀ c ∈ x.cps.toList, isLetter c = true
structure Door where
  near : Str
  far : Str
  lo : Int
  hi : Int
def Door.vs (d : Door) : List V := [.str d.near, .str d.far, .int d.lo, .int d.hi]
def RoomsOk (rs : List Str) : Prop := 1 ≤ rs.length ∧ rs.length ≤ 8 ∧ rs.Nodup ∧ ∀ r ∈ rs, IsName r
def DoorOk (rs : List Str) (d : Door) : Prop := d.near ∈ rs ∧ d.far ∈ rs ∧ d.near ≠ d.far ∧ -99 ≤ d.lo ∧ d.lo ≤ d.hi ∧ d.hi ≤ 99
def DoorsOk (rs : List Str) (ds : List Door) : Prop := ds.length ≤ 12 ∧ ∀ d ∈ ds, DoorOk rs d
def DoorAt (F : Hp) (a : Addr) (d : Door) : Prop := F a = some (.tup d.vs)
def StrsL (F : Hp) (l : Addr) (xs : List Str) : Prop := F l = some (.lst (xs.map V.str))
def DoorsL (F : Hp) (l : Addr) (ds : List Door) : Prop := ∃ as : List Addr, F l = some (.lst (as.map V.ref)) ∧ Paired (DoorAt F) as ds
section
variable {F F' : Hp} {l a : Addr} {xs : List Str} {ds : List Door} {as : List Addr}
theorem StrsL.go (s : Same F F') (h : StrsL F l xs) : StrsL F' l xs := s _ _ h
theorem paired_door (s : Same F F') (h : Paired (DoorAt F) as ds) : Paired (DoorAt F') as ds := paired_mono (fun _ _ e => s _ _ e) h
theorem DoorsL.go (s : Same F F') (h : DoorsL F l ds) : DoorsL F' l ds := by
  obtain ⟨as, e, p⟩ := h
  exact ⟨as, s _ _ e, paired_door s p⟩
end
/-- a list without equal things, all in another one, is no longer than that -/
theorem nodup_le {α : Type} [DecidableEq α] : ∀ {l m : List α}, l.Nodup → (∀ x ∈ l, x ∈ m) → l.length ≤ m.length
  | [], m, _, _ => Nat.zero_le _
  | x :: l, m, h, s => by
    obtain ⟨h1, h2⟩ := List.nodup_cons.mp h
    have hx : x ∈ m := s x (List.mem_cons_self ..)
    have ih := nodup_le (l := l) (m := m.erase x) h2 (fun y hy => (List.mem_erase_of_ne (fun e => h1 (by rw [← e]; exact hy))).mpr (s y (List.mem_cons_of_mem _ hy)))
    rw [List.length_erase_of_mem hx] at ih
    have : 0 < m.length := List.length_pos_of_mem hx
    rw [List.length_cons]
    omega
def one (c : Nat) : Str := ⟨#[c]⟩
theorem one_name {c : Nat} (h : isLetter c = true) : IsName (one c) := ⟨Nat.le_refl 1, (by show 1 ≤ 8; decide), fun d hd => by
  have : d = c := by simpa [one] using hd
  rw [this]
  exact h⟩
theorem letters_cps : letters26.cps.toList = (List.range 26).map (· + 97) := by decide +kernel
theorem letter_at {i : Nat} (h : i < 26) : letters26.cps[i]? = some (i + 97) := by
  have e : letters26.cps[i]? = letters26.cps.toList[i]? := by rw [Array.getElem?_toList]
  rw [e, letters_cps, List.getElem?_map, List.getElem?_range h]
  rfl
theorem isLetter_at {i : Nat} (h : i < 26) : isLetter (i + 97) = true := by
  unfold isLetter
  rw [decide_eq_true (by omega : 97 ≤ i + 97), decide_eq_true (by omega : i + 97 ≤ 122)]
  rfl
theorem joinOne : ∀ cs : List Nat, TL.joinL [] (cs.map fun c => [c]) = cs
  | [] => rfl
  | [c] => rfl
  | c :: d :: r => by
    have ih := joinOne (d :: r)
    show [c] ++ ([] ++ TL.joinL [] ((d :: r).map fun c => [c])) = c :: d :: r
    rw [ih]
    rfl
/-! ### small helps -/
theorem at_i {α : Type} {xs : List α} {z : Int} {j : Nat} {v : α} (e : z = (j : Int)) (h : xs[j]? = some v) : atI xs z = some v := by
  rw [e]
  exact atI_nat h
theorem at_I {α : Type} {xs : List α} {z : Int} {v : α} (h0 : 0 ≤ z) (h : xs[z.toNat]? = some v) : atI xs z = some v := at_i (by omega) h
theorem inV_strs (x : Str) : ∀ ts : List Str, inV (.str x) (ts.map V.str) = decide (x ∈ ts)
  | [] => rfl
  | t :: ts => by
    have ih := inV_strs x ts
    unfold inV at ih ⊢
    rw [List.map_cons, List.any_cons, ih]
    show ((t == x) || decide (x ∈ ts)) = decide (x ∈ t :: ts)
    by_cases e : t = x
    · subst e
      simp
    · have e2 : ¬ x = t := fun z => e z.symm
      simp [e, e2]
theorem all_flat_str : ∀ ts : List Str, (ts.map V.str).all flatV = true
  | [] => rfl
  | t :: ts => by
    rw [List.map_cons, List.all_cons, all_flat_str ts]
    rfl
theorem get_map {α β : Type} {f : α → β} {xs : List α} {i : Nat} {a : α} (h : xs[i]? = some a) : (xs.map f)[i]? = some (f a) := by
  rw [List.getElem?_map, h]
  rfl
theorem PotAt.m {H : Hp} {p : Addr} (h : PotAt H p) : ∀ b, M1 p b → H b ≠ none := fun b e => by
  rw [show b = p from e]
  exact h.some
theorem pot_z {p : Addr} : ∀ (H' : Hp) (b : Addr) (o : HO), PotAt H' p → ¬ M1 p b → PotAt (upd H' b o) p := fun H' b o h n => h.upd (fun e => n e.symm)
theorem SqL.st {K : PySem.W.Frag} {F : Hp} {l : Addr} {xs : List Str} (h : StrsL F l xs) : SqL K F l (xs.map V.str) := SqL.of h
theorem join_ones (cs : List Nat) : Txt.join (Str.ofString "") (cs.map one) = SX.S cs := by
  have e : cs.map one = (cs.map fun c => [c]).map SX.S := by
    rw [List.map_map]
    rfl
  have h := SX.join_S [] (cs.map fun c => [c])
  rw [joinOne] at h
  rw [e]
  exact h
theorem S_name {cs : List Nat} (h1 : 1 ≤ cs.length) (h2 : cs.length ≤ 8) (h : ∀ c ∈ cs, isLetter c = true) : IsName (SX.S cs) := by
  refine ⟨?_, ?_, h⟩
  · rw [SX.S_len]
    exact h1
  · rw [SX.S_len]
    exact h2
theorem one_lens (cs : List Nat) : ((cs.map one).map (·.length)).sum = cs.length := by
  induction cs with
  | nil => rfl
  | cons c r ih =>
    rw [List.map_cons, List.map_cons, List.sum_cons, ih, List.length_cons]
    show 1 + r.length = r.length + 1
    omega
/-- of 26 letters one is free -/
theorem free_letter {ts : List Str} (h : ts.length < 26) : ∃ i, i < 26 ∧ one (i + 97) ∉ ts := by
  apply Classical.byContradiction
  intro no
  have all : ∀ x ∈ (List.range 26).map (fun i => one (i + 97)), x ∈ ts := by
    intro x hx
    obtain ⟨i, hi, rfl⟩ := List.mem_map.mp hx
    apply Classical.byContradiction
    intro hn
    exact no ⟨i, List.mem_range.mp hi, hn⟩
  have nd : ((List.range 26).map (fun i => one (i + 97))).Nodup := by decide +kernel
  have := nodup_le nd all
  rw [List.length_map, List.length_range] at this
  omega
theorem cut_to (xs : List V) (i : Nat) : cutV xs none (some (i : Int)) = xs.take i := by
  unfold cutV
  rw [HT.sIx_none, show HT.sIx xs.length xs.length (some (i : Int)) = min i xs.length from HT.sIx_nat xs.length _ i]
  show List.take (min i xs.length - 0) (xs.drop 0) = xs.take i
  rw [List.drop_zero, Nat.sub_zero]
  by_cases h : i ≤ xs.length
  · rw [Nat.min_eq_left h]
  · rw [Nat.min_eq_right (by omega), List.take_length, List.take_of_length_le (by omega)]
theorem nodup_take {α : Type} {l : List α} (hN : l.Nodup) {i : Nat} (h : i < l.length) : l[i] ∉ l.take i := by
  intro m
  obtain ⟨j, hj, e⟩ := List.mem_iff_getElem.mp m
  rw [List.getElem_take] at e
  have := (List.getElem_inj hN).mp e
  rw [List.length_take] at hj
  omega
end Dc

namespace Dc
open PySem PySem.Spec PyProof.Rows L2
/-! ### data that is shown and compared: n its bulk at most, k its depth at most -/
structure Shw (n k : Nat) (d : PyData) : Prop where
  show_ : d.showable = true
  lay : d.canLay0 = true
  dep : d.depth ≤ k
  short : d.leavesShort 13 = true
  bulk : d.bulk ≤ n
structure ShwA (n k : Nat) (ds : List PyData) : Prop where
  show_ : PyData.showableAll ds = true
  lay : PyData.canLayAll0 ds = true
  dep : PyData.depthAll ds ≤ k
  short : PyData.leavesShortAll 13 ds = true
  bulk : PyData.bulkAll ds ≤ n
section
variable {n m k : Nat} {d : PyData} {ds : List PyData}
theorem Shw.none_ : Shw 0 0 .none := ⟨rfl, rfl, Nat.le_refl _, rfl, Nat.le_refl _⟩
theorem Shw.bool_ (b : Bool) : Shw 0 0 (.bool b) := ⟨rfl, rfl, Nat.le_refl _, rfl, Nat.le_refl _⟩
theorem Shw.int_ {i : Int} (h1 : -999999999999 ≤ i) (h2 : i ≤ 999999999999) : Shw 0 0 (.int i) := by
  have e := PyData.shown_int_le2 h1 h2
  refine ⟨decide_eq_true ?_, rfl, Nat.le_refl _, decide_eq_true e, Nat.le_refl _⟩
  have : i.natAbs < 2 ^ 1920 := Nat.lt_of_lt_of_le (show i.natAbs < 2 ^ 64 by omega) (Nat.pow_le_pow_right (by decide) (by decide))
  by_cases z : i.natAbs = 0
  · rw [z]
    decide
  · exact (Nat.log2_lt z).mpr this
theorem Shw.str_ {x : Str} (h : x.length ≤ n) (hc : ∀ c ∈ x.cps.toList, c < 1114112) : Shw n 0 (.str x) := by
  refine ⟨rfl, ?_, Nat.zero_le _, ?_, h⟩
  · show x.cps.all (· < 0x110000) = true
    rw [← Array.all_toList, List.all_eq_true]
    exact fun c m => decide_eq_true (hc c m)
  · show x.cps.toList.all (fun c => decide (c < 16 ^ 8)) = true
    rw [List.all_eq_true]
    intro c m
    exact decide_eq_true (Nat.lt_trans (hc c m) (by decide))
theorem ShwA.nil : ShwA 0 0 [] := ⟨rfl, rfl, Nat.le_refl _, rfl, Nat.le_refl _⟩
theorem ShwA.cons (h : Shw n k d) (r : ShwA m k ds) : ShwA (n + 1 + m) k (d :: ds) := by
  refine ⟨?_, ?_, ?_, ?_, ?_⟩
  · show (d.showable && PyData.showableAll ds) = true
    rw [h.show_, r.show_]
    rfl
  · show (d.canLay0 && PyData.canLayAll0 ds) = true
    rw [h.lay, r.lay]
    rfl
  · exact Nat.max_le.mpr ⟨h.dep, r.dep⟩
  · show (d.leavesShort 13 && PyData.leavesShortAll 13 ds) = true
    rw [h.short, r.short]
    rfl
  · have := h.bulk
    have := r.bulk
    show d.bulk + 1 + PyData.bulkAll ds ≤ n + 1 + m
    omega
theorem Shw.up {n' k' : Nat} (h : Shw n k d) (a : n ≤ n') (b : k ≤ k') : Shw n' k' d := ⟨h.show_, h.lay, Nat.le_trans h.dep b, h.short, Nat.le_trans h.bulk a⟩
theorem ShwA.up {n' k' : Nat} (h : ShwA n k ds) (a : n ≤ n') (b : k ≤ k') : ShwA n' k' ds := ⟨h.show_, h.lay, Nat.le_trans h.dep b, h.short, Nat.le_trans h.bulk a⟩
theorem ShwA.all : ∀ {ds : List PyData}, (∀ d ∈ ds, Shw n k d) → ShwA ((n + 1) * ds.length) k ds
  | [], _ => ⟨rfl, rfl, Nat.zero_le _, rfl, Nat.zero_le _⟩
  | d :: ds, h => by
    have := (ShwA.all (ds := ds) fun e m => h e (List.mem_cons_of_mem _ m))
    have c := ShwA.cons (h d (List.mem_cons_self ..)) this
    refine c.up ?_ (Nat.le_refl _)
    rw [List.length_cons, Nat.mul_add]
    omega
theorem Shw.list_ (h : ShwA n k ds) : Shw n (k + 1) (.list ds) := ⟨h.show_, h.lay, Nat.succ_le_succ h.dep, h.short, h.bulk⟩
theorem Shw.tuple_ (h : ShwA n k ds) : Shw n (k + 1) (.tuple ds) := ⟨h.show_, h.lay, Nat.succ_le_succ h.dep, h.short, h.bulk⟩
theorem Shw.shaped (h : Shw n k d) (hk : k ≤ 50) : SeqAt.shaped d = true := by
  unfold SeqAt.shaped
  rw [h.lay, decide_eq_true (Nat.le_trans h.dep (by omega))]
  rfl
theorem Shw.refl_ (h : Shw n k d) : PyData.eqv d d = true := SeqAt.eqv_refl d h.lay
theorem Shw.repr_ {K : PySem.W.Frag} {H : Hp} {Q : VK} {a : Addr} (h : Shw n k d) (hk : k ≤ 50) (hn : n ≤ 1000000) (hd : Dp K H (.ref a) d) (q : Q (.str d.shown) H) : rRepr K [.ref a] H Q :=
  ⟨a, d, rfl, hd, h.show_, PyData.hasDict_of_canLay d h.lay, Nat.le_trans h.dep hk, PyData.shown_fits_bulk (B := 13) (by decide) (by decide) h.short (Nat.le_trans h.bulk (by omega)), q⟩
end
/-! ### the data of rooms and doors -/
def doorD (d : Door) : PyData := .tuple [.str d.near, .str d.far, .int d.lo, .int d.hi]
def roomsD (rs : List Str) : PyData := .list (rs.map .str)
def doorsD (ds : List Door) : PyData := .list (ds.map doorD)
section
variable {K : PySem.W.Frag} {H F : Hp} {l : Addr}
theorem dpAll_strs : ∀ rs : List Str, DpAll K H (rs.map V.str) (rs.map .str)
  | [] => .nil
  | r :: rs => .cons (.str r) (dpAll_strs rs)
theorem dp_rooms {rs : List Str} (h : SqL K H l (rs.map V.str)) : Dp K H (.ref l) (roomsD rs) := .lst h (dpAll_strs rs)
theorem dp_door {a : Addr} {d : Door} (h : DoorAt H a d) : Dp K H (.ref a) (doorD d) := .tup (SqT.of h) (.cons (.str _) (.cons (.str _) (.cons (.int _) (.cons (.int _) .nil))))
theorem dpAll_doors : ∀ {as : List Addr} {ds : List Door}, Paired (DoorAt H) as ds → DpAll K H (as.map V.ref) (ds.map doorD)
  | _, _, .nil => .nil
  | _, _, .cons r t => .cons (dp_door r) (dpAll_doors t)
theorem dp_doors {as : List Addr} {ds : List Door} (h : SqL K H l (as.map V.ref)) (p : Paired (DoorAt H) as ds) : Dp K H (.ref l) (doorsD ds) := .lst h (dpAll_doors p)
theorem name_code {x : Str} (h : IsName x) : ∀ c ∈ x.cps.toList, c < 128 := fun c m => by
  have := h.2.2 c m
  unfold isLetter at this
  rw [Bool.and_eq_true, decide_eq_true_eq, decide_eq_true_eq] at this
  omega
theorem shw_name {x : Str} (h : IsName x) : Shw 8 0 (.str x) := Shw.str_ h.2.1 (fun c m => Nat.lt_trans (name_code h c m) (by decide))
theorem shw_rooms {rs : List Str} (h : RoomsOk rs) : Shw 72 1 (roomsD rs) := by
  have a : ShwA ((8 + 1) * (rs.map PyData.str).length) 0 (rs.map .str) := ShwA.all fun d m => by
    obtain ⟨r, hr, rfl⟩ := List.mem_map.mp m
    exact shw_name (h.2.2.2 r hr)
  refine (Shw.list_ a).up ?_ (Nat.le_refl _)
  rw [List.length_map]
  have := h.2.1
  omega
theorem shw_door {rs : List Str} {d : Door} (hr : ∀ r ∈ rs, IsName r) (h : DoorOk rs d) : Shw 20 1 (doorD d) := by
  obtain ⟨h1, h2, _, h3, h4, h5⟩ := h
  refine (Shw.tuple_ (ShwA.cons (shw_name (hr _ h1)) (ShwA.cons (shw_name (hr _ h2)) (ShwA.cons (Shw.int_ ?_ ?_) (ShwA.cons (Shw.int_ ?_ ?_) ShwA.nil))))).up (by decide) (Nat.le_refl _)
  all_goals omega
theorem shw_doors {rs : List Str} {ds : List Door} (hr : ∀ r ∈ rs, IsName r) (h : DoorsOk rs ds) : Shw 252 2 (doorsD ds) := by
  have a : ShwA ((20 + 1) * (ds.map doorD).length) 1 (ds.map doorD) := ShwA.all fun d m => by
    obtain ⟨r, hm, rfl⟩ := List.mem_map.mp m
    exact shw_door hr (h.2 r hm)
  refine (Shw.list_ a).up ?_ (Nat.le_refl _)
  rw [List.length_map]
  have := h.1
  omega
end
end Dc

namespace Dc
open PySem PySem.Spec PyProof.Rows L2
section
variable {J : It} {n : Nat} {G : Hp → Prop} {Y : Nat → Hp → V → Hp → Prop} {g : TG} {σ : L2.St} {H : Hp} {tt : TT} {te : TE} {vs : List Nat} {Q : VK}
/-- a comprehension of plain values (or of things that stood before), nothing else changed: out tells what comes of each turn -/
theorem l_val (w : Walk J n G Y) (out : Nat → Option V) (hG : ∀ H', Same H H' → G H') (hn : n < 100000)
    (hs : ∀ i x H1 H1' (N : VK) (N' : Hp → Prop), i < n → Same H H1 → Y i H1 x H1' → (∀ y H4, out i = some y → Same H1 H4 → N y H4) → (∀ H3, out i = none → Same H1 H3 → N' H3) →
      g x (wipe σ vs) H1' fun σ2 H2 => wipe σ2 vs = wipe σ vs ∧ tt σ2 H2 fun b H3 => if b = true then te σ2 H3 N else N' H3)
    (hd : ∀ L H', H L = none → Same H H' → H' L = some (.lst ((List.range n).filterMap out)) → Q (.ref L) H') : LcB g tt te vs σ Q J H := by
  refine l_go (F := H) w (Same.refl H) M0 (fun _ => True) trivial (fun _ h => h.elim) (fun _ _ _ _ _ => trivial) (fun i Fx acc => Fx = H ∧ acc = (List.range i).filterMap out) ⟨rfl, rfl⟩ hG hn ?_ ?_
  · rintro i x F1 H1 H1' acc N N' hi g1 _ ⟨rfl, rfl⟩ y hN hN'
    refine hs i x H1 H1' N N' hi g1.fh y (fun v H4 e s => hN v F1 H4 (Go.of_same g1.fh s) trivial ⟨rfl, ?_⟩) (fun H3 e s => hN' F1 H3 (Go.of_same g1.fh s) trivial ⟨rfl, ?_⟩)
    · rw [List.range_succ, List.filterMap_append, List.filterMap_cons, e]
      rfl
    · rw [List.range_succ, List.filterMap_append, List.filterMap_cons, e, List.filterMap_nil, List.append_nil]
  · rintro L F' H' acc g1 _ hL _ eL ⟨rfl, rfl⟩
    exact hd L H' hL g1.fh eL
end
/-! ### lists by their places -/
theorem fm_get {α β : Type} (f : α → Option β) : ∀ xs : List α, (List.range xs.length).filterMap (fun i => xs[i]?.bind f) = xs.filterMap f
  | [] => rfl
  | x :: xs => by
    rw [List.length_cons, List.range_succ_eq_map, List.filterMap_cons, List.filterMap_map, List.filterMap_cons]
    have ih := fm_get f xs
    show (match f x with | none => _ | some b => _) = _
    have e : List.filterMap ((fun i => (x :: xs)[i]?.bind f) ∘ Nat.succ) (List.range xs.length) = List.filterMap f xs := ih
    rw [e]
    cases f x with
    | none => rfl
    | some b => rfl
theorem fm_filter {α : Type} (p : α → Bool) : ∀ xs : List α, xs.filterMap (fun x => if p x then some x else none) = xs.filter p
  | [] => rfl
  | x :: xs => by
    rw [List.filterMap_cons, List.filter_cons, fm_filter p xs]
    cases p x with
    | true => rfl
    | false => rfl
theorem fm_map {α β γ : Type} (f : α → Option β) (h : β → γ) (xs : List α) : xs.filterMap (fun x => (f x).map h) = (xs.filterMap f).map h := by
  rw [List.map_filterMap]
theorem _root_.L2.Same.seqT {K : PySem.W.Frag} {H H' : Hp} {a : Addr} {xs : List V} (e : Same H H') (h : SqT K H a xs) : SqT K H' a xs := by
  rcases h with (h | ⟨o, h⟩) | h
  · exact .inl (.inl (e _ _ h))
  · exact .inl (.inr ⟨o, e _ _ h⟩)
  · exact .inr h
section
variable {α : Type} {K : PySem.W.Frag} {a : Addr} {g : TG} {σ : L2.St} {H : Hp} {tt : TT} {te : TE} {tb : TS} {D : Ends} {vs : List Nat} {Q : VK}
/-- a comprehension over a list -/
theorem l_map (c : α → V) (zs : List α) (ha : SqL K H a (zs.map c)) (out : α → Option V) (hn : zs.length < 100000)
    (hs : ∀ z H1 (N : VK) (N' : Hp → Prop), z ∈ zs → Same H H1 → (∀ y H4, out z = some y → Same H1 H4 → N y H4) → (∀ H3, out z = none → Same H1 H3 → N' H3) →
      g (c z) (wipe σ vs) H1 fun σ2 H2 => wipe σ2 vs = wipe σ vs ∧ tt σ2 H2 fun b H3 => if b = true then te σ2 H3 N else N' H3)
    (hd : ∀ L H', H L = none → Same H H' → H' L = some (.lst (zs.filterMap out)) → Q (.ref L) H') : LcB g tt te vs σ Q (Itl K a) H := by
  refine l_val walk_list (fun i => zs[i]?.bind out) (fun H' s => s.seq ha) (by rw [List.length_map]; exact hn) ?_ ?_
  · rintro i x H1 H1' N N' hi s ⟨rfl, e⟩ hN hN'
    rw [List.length_map] at hi
    rw [List.getElem?_map, List.getElem?_eq_getElem hi] at e
    cases Option.some.inj e
    refine hs zs[i] H1' N N' (List.getElem_mem hi) s (fun y H4 e s4 => hN y H4 (by rw [List.getElem?_eq_getElem hi]; exact e) s4) (fun H3 e s3 => hN' H3 (by rw [List.getElem?_eq_getElem hi]; exact e) s3)
  · intro L H' hL s e
    rw [List.length_map, fm_get] at e
    exact hd L H' hL s e
/-- a comprehension over a tuple -/
theorem l_mapT (c : α → V) (zs : List α) (ha : SqT K H a (zs.map c)) (out : α → Option V) (hn : zs.length < 100000)
    (hs : ∀ z H1 (N : VK) (N' : Hp → Prop), z ∈ zs → Same H H1 → (∀ y H4, out z = some y → Same H1 H4 → N y H4) → (∀ H3, out z = none → Same H1 H3 → N' H3) →
      g (c z) (wipe σ vs) H1 fun σ2 H2 => wipe σ2 vs = wipe σ vs ∧ tt σ2 H2 fun b H3 => if b = true then te σ2 H3 N else N' H3)
    (hd : ∀ L H', H L = none → Same H H' → H' L = some (.lst (zs.filterMap out)) → Q (.ref L) H') : LcB g tt te vs σ Q (Itt K a) H := by
  refine l_val walk_tup (fun i => zs[i]?.bind out) (fun H' s => s.seqT ha) (by rw [List.length_map]; exact hn) ?_ ?_
  · rintro i x H1 H1' N N' hi s ⟨rfl, e⟩ hN hN'
    rw [List.length_map] at hi
    rw [List.getElem?_map, List.getElem?_eq_getElem hi] at e
    cases Option.some.inj e
    refine hs zs[i] H1' N N' (List.getElem_mem hi) s (fun y H4 e s4 => hN y H4 (by rw [List.getElem?_eq_getElem hi]; exact e) s4) (fun H3 e s3 => hN' H3 (by rw [List.getElem?_eq_getElem hi]; exact e) s3)
  · intro L H' hL s e
    rw [List.length_map, fm_get] at e
    exact hd L H' hL s e
/-- a comprehension over a range -/
theorem l_rng {lo : Int} {n : Nat} (out : Nat → Option V) (hn : n < 100000)
    (hs : ∀ i H1 (N : VK) (N' : Hp → Prop), i < n → Same H H1 → (∀ y H4, out i = some y → Same H1 H4 → N y H4) → (∀ H3, out i = none → Same H1 H3 → N' H3) →
      g (.int (lo + i)) (wipe σ vs) H1 fun σ2 H2 => wipe σ2 vs = wipe σ vs ∧ tt σ2 H2 fun b H3 => if b = true then te σ2 H3 N else N' H3)
    (hd : ∀ L H', H L = none → Same H H' → H' L = some (.lst ((List.range n).filterMap out)) → Q (.ref L) H') : LcB g tt te vs σ Q (Itr lo n) H := by
  refine l_val walk_range out (fun _ _ => trivial) hn ?_ hd
  rintro i x H1 H1' N N' hi s ⟨rfl, rfl⟩ hN hN'
  exact hs i _ N N' hi s hN hN'
theorem l_rng0 {n : Nat} (out : Nat → Option V) (hn : n < 100000)
    (hs : ∀ i H1 (N : VK) (N' : Hp → Prop), i < n → Same H H1 → (∀ y H4, out i = some y → Same H1 H4 → N y H4) → (∀ H3, out i = none → Same H1 H3 → N' H3) →
      g (.int (i : Nat)) (wipe σ vs) H1 fun σ2 H2 => wipe σ2 vs = wipe σ vs ∧ tt σ2 H2 fun b H3 => if b = true then te σ2 H3 N else N' H3)
    (hd : ∀ L H', H L = none → Same H H' → H' L = some (.lst ((List.range n).filterMap out)) → Q (.ref L) H') : LcB g tt te vs σ Q (Itr 0 n) H := by
  refine l_rng out hn (fun i H1 N N' hi s hN hN' => ?_) hd
  rw [Int.zero_add]
  exact hs i H1 N N' hi s hN hN'
/-- a for over a list -/
theorem f_map (c : α → V) (zs : List α) (Pv : Nat → L2.St → Hp → Prop) (h0 : Pv 0 σ H) (hG : ∀ i σ H, Pv i σ H → SqL K H a (zs.map c))
    (hs : ∀ i z σ H1 (N : L2.St → Hp → Prop), zs[i]? = some z → Pv i σ H1 → (∀ σ' H', Pv (i + 1) σ' H' → N σ' H') → g (c z) σ H1 fun σ2 H2 => tb { D with nx := N, ct := N, bk := D.nx } σ2 H2)
    (hd : ∀ σ H, Pv zs.length σ H → D.nx σ H) : ForB g tb D σ (Itl K a) H := by
  refine f_it walk_list Pv h0 (fun i σ H _ p => hG i σ H p) ?_ (fun σ H p => hd σ H (by rw [List.length_map] at p; exact p))
  rintro i x σ H1 H1' N hi p ⟨rfl, e⟩ hN
  rw [List.length_map] at hi
  rw [List.getElem?_map, List.getElem?_eq_getElem hi] at e
  cases Option.some.inj e
  exact hs i zs[i] σ _ N (List.getElem?_eq_getElem hi) p hN
/-- a for over enumerate(list): T is the pair -/
theorem f_enum (c : α → V) (zs : List α) (Pv : Nat → L2.St → Hp → Prop) (h0 : Pv 0 σ H) (hG : ∀ i σ H, Pv i σ H → SqL K H a (zs.map c))
    (hs : ∀ i z σ H1 T (N : L2.St → Hp → Prop), zs[i]? = some z → Pv i σ H1 → H1 T = none → (∀ σ' H', Pv (i + 1) σ' H' → N σ' H') → g (.ref T) σ (upd H1 T (.tup [.int (i : Nat), c z])) fun σ2 H2 => tb { D with nx := N, ct := N, bk := D.nx } σ2 H2)
    (hd : ∀ σ H, Pv zs.length σ H → D.nx σ H) : ForB g tb D σ (Ite K a) H := by
  refine f_it walk_enum Pv h0 (fun i σ H _ p => hG i σ H p) ?_ (fun σ H p => hd σ H (by rw [List.length_map] at p; exact p))
  rintro i x σ H1 H1' N hi p ⟨T, x1, x2, rfl, hT, rfl, e1, e2⟩ hN
  cases Option.some.inj e1
  rw [List.length_map] at hi
  replace e2 : (zs.map c)[i]? = some x2 := e2
  rw [List.getElem?_map, List.getElem?_eq_getElem hi] at e2
  cases Option.some.inj e2
  exact hs i zs[i] σ H1 T N (List.getElem?_eq_getElem hi) p hT hN
end
/-! ### equal data -/
theorem eqvAll_map {α : Type} [DecidableEq α] (f : α → PyData) (hf : ∀ x y, PyData.eqv (f x) (f y) = decide (x = y)) : ∀ xs ys : List α, PyData.eqvAll (xs.map f) (ys.map f) = decide (xs = ys)
  | [], [] => by rw [List.map_nil, PyData.eqvAll]; rfl
  | [], y :: ys => by rw [List.map_nil, List.map_cons, PyData.eqvAll]; rfl
  | x :: xs, [] => by rw [List.map_nil, List.map_cons, PyData.eqvAll]; rfl
  | x :: xs, y :: ys => by
    rw [List.map_cons, List.map_cons, PyData.eqvAll, hf, eqvAll_map f hf xs ys]
    by_cases h : x = y
    · by_cases h2 : xs = ys
      · rw [decide_eq_true h, decide_eq_true h2, h, h2, decide_eq_true rfl]
        rfl
      · rw [decide_eq_true h, decide_eq_false h2, decide_eq_false (fun e => h2 (List.cons.inj e).2)]
        rfl
    · rw [decide_eq_false h, decide_eq_false (fun e => h (List.cons.inj e).1)]
      rfl
theorem eqv_str (x y : Str) : PyData.eqv (.str x) (.str y) = decide (x = y) := by
  rw [PyData.eqv]
  by_cases h : x = y
  · rw [h, decide_eq_true rfl]
    exact beq_self_eq_true y
  · rw [decide_eq_false h]
    exact beq_eq_false_iff_ne.mpr h
theorem eqv_int (x y : Int) : PyData.eqv (.int x) (.int y) = decide (x = y) := by
  rw [PyData.eqv]
  by_cases h : x = y
  · rw [h, decide_eq_true rfl]
    exact beq_self_eq_true y
  · rw [decide_eq_false h]
    exact beq_eq_false_iff_ne.mpr h
theorem eqv_rooms (xs ys : List Str) : PyData.eqv (roomsD xs) (roomsD ys) = decide (xs = ys) := by
  unfold roomsD
  rw [PyData.eqv]
  exact eqvAll_map _ eqv_str xs ys
def intsD (ns : List Int) : PyData := .list (ns.map .int)
theorem eqv_ints (xs ys : List Int) : PyData.eqv (intsD xs) (intsD ys) = decide (xs = ys) := by
  unfold intsD
  rw [PyData.eqv]
  exact eqvAll_map _ eqv_int xs ys
section
variable {K : PySem.W.Frag} {H F : Hp} {l : Addr}
theorem dpAll_ints : ∀ rs : List Int, DpAll K H (rs.map V.int) (rs.map .int)
  | [] => .nil
  | r :: rs => .cons (.int r) (dpAll_ints rs)
theorem dp_ints {rs : List Int} (h : SqL K H l (rs.map V.int)) : Dp K H (.ref l) (intsD rs) := .lst h (dpAll_ints rs)
theorem shw_ints {ns : List Int} (h : ∀ n ∈ ns, -999999999999 ≤ n ∧ n ≤ 999999999999) : Shw ns.length 1 (intsD ns) := by
  have a : ShwA ((0 + 1) * (ns.map PyData.int).length) 0 (ns.map .int) := ShwA.all fun d m => by
    obtain ⟨r, hr, rfl⟩ := List.mem_map.mp m
    exact Shw.int_ (h r hr).1 (h r hr).2
  refine (Shw.list_ a).up ?_ (Nat.le_refl _)
  rw [List.length_map]
  omega
theorem shw_strs {rs : List Str} (h : ∀ r ∈ rs, IsName r) : Shw (9 * rs.length) 1 (roomsD rs) := by
  have a : ShwA ((8 + 1) * (rs.map PyData.str).length) 0 (rs.map .str) := ShwA.all fun d m => by
    obtain ⟨r, hr, rfl⟩ := List.mem_map.mp m
    exact shw_name (h r hr)
  refine (Shw.list_ a).up ?_ (Nat.le_refl _)
  rw [List.length_map]
  omega
end
theorem all_bl {α : Type} (f : α → Bool) : ∀ xs : List α, (xs.map f).all id = xs.all f
  | [] => rfl
  | x :: xs => by
    rw [List.map_cons, List.all_cons, List.all_cons, all_bl f xs]
    rfl
theorem fm_some {α β : Type} (f : α → β) : ∀ xs : List α, xs.filterMap (fun x => some (f x)) = xs.map f
  | [] => rfl
  | x :: xs => by
    rw [List.filterMap_cons, List.map_cons, fm_some f xs]
/-- all but p, as what stays -/
theorem pot_frame {H : Hp} {p : Addr} : ∃ F : Hp, Same F H ∧ F p = none ∧ ∀ b o, b ≠ p → H b = some o → F b = some o := by
  refine ⟨fun b => if b = p then none else H b, fun b o e => ?_, if_pos rfl, fun b o nb e => ?_⟩
  · by_cases z : b = p
    · have e' : (if b = p then none else H b) = some o := e
      rw [if_pos z] at e'
      cases e'
    · have e' : (if b = p then none else H b) = some o := e
      rw [if_neg z] at e'
      exact e'
  · exact (if_neg nb).trans e
/-! ### a run with a pot -/
structure Run (p : Addr) (F0 H0 F H : Hp) : Prop where
  g : Go (M1 p) F0 H0 F H
  f : F p = none
  t : PotAt H p
section
variable {p q : Addr} {F0 H0 F H F' H' : Hp} {o : HO}
theorem Run.start (h : PotAt H p) : ∃ F, Run p F H F H ∧ ∀ b o, b ≠ p → H b = some o → F b = some o := by
  obtain ⟨F, s, f, k⟩ := pot_frame (H := H) (p := p)
  exact ⟨F, ⟨Go.refl s, f, h⟩, k⟩
theorem Run.re (r : Run p F0 H0 F H) : Run p F H F H := ⟨Go.refl r.g.fh, r.f, r.t⟩
theorem Run.s (r : Run p F0 H0 F H) : Same F H := r.g.fh
theorem Run.ff (r : Run p F0 H0 F H) : Same F0 F := r.g.ff
theorem Run.trans (r : Run p F0 H0 F H) (k : Run p F H F' H') : Run p F0 H0 F' H' := ⟨r.g.trans k.g, k.f, k.t⟩
theorem Run.new (r : Run p F0 H0 F H) (h : H q = none) : Run p F0 H0 (upd F q o) (upd H q o) := by
  have n := r.t.ne h
  refine ⟨r.g.new h, ?_, r.t.upd n⟩
  rw [upd_ne n]
  exact r.f
theorem Run.tmp (r : Run p F0 H0 F H) (h : H q = none) : Run p F0 H0 F (upd H q o) := ⟨r.g.tmp h, r.f, r.t.upd (r.t.ne h)⟩
theorem Run.same (r : Run p F0 H0 F H) (s : Same H H') : Run p F0 H0 F H' := by
  refine ⟨r.g.trans (Go.of_same r.g.fh s), r.f, ?_⟩
  obtain ⟨a, b, e, k⟩ := r.t
  exact ⟨a, b, s _ _ e, k⟩
theorem Run.step (r : Run p F0 H0 F H) (g : Go (M1 p) F H F' H') (t : PotAt H' p) : Run p F0 H0 F' H' := ⟨r.g.trans g, g.oo _ r.f r.t.some, t⟩
theorem Run.step0 (r : Run p F0 H0 F H) (g : Go M0 F H F' H') : Run p F0 H0 F' H' := ⟨r.g.trans (g.wide fun _ h => h.elim), g.oo _ r.f r.t.some, r.t.go g m0⟩
/-- at the end: all but the pot is as it was -/
theorem Run.fin (r : Run p F0 H0 F H) : ∀ b o, b ≠ p → H0 b = some o → H b = some o := fun b o n e => r.g.hh b o n e
theorem new_s (r : Run p F0 H0 F H) (h : H q = none) : Same F (upd F q o) := Same.new (Same.free r.g.fh h)
theorem Run.keep (r : Run p F0 H0 F H) (h : H q = none) : ∃ F', Run p F0 H0 F' (upd H q o) ∧ Same F F' ∧ F' q = some o := ⟨_, r.new h, new_s r h, upd_same⟩
/-- what has come to be is kept -/
theorem Run.hold (r : Run p F0 H0 F H) (s : Same H H') (h : H q = none) (e : H' q = some o) : ∃ F', Run p F0 H0 F' H' ∧ Same F F' ∧ F' q = some o := by
  have f : F q = none := Same.free r.g.fh h
  have k := r.same s
  exact ⟨upd F q o, ⟨k.g.fin (r.g.free h) f e, by rw [upd_ne (r.t.ne h)]; exact r.f, k.t⟩, Same.new f, upd_same⟩
theorem Run.back (r : Run p F0 H0 F H) {b : Addr} (h : H b = none) : H0 b = none := r.g.free h
end
section
variable {J : It} {n : Nat} {G : Hp → Prop} {Y : Nat → Hp → V → Hp → Prop} {g : TG} {σ : L2.St} {p : Addr} {F0 H0 F H : Hp} {tt : TT} {te : TE} {vs : List Nat} {Q : VK}
/-- a comprehension beside a pot; its list is kept -/
theorem l_run (w : Walk J n G Y) (r : Run p F0 H0 F H) (I : Nat → Hp → List V → Prop) (i0 : I 0 F []) (hG : ∀ H', Same F H' → G H') (hn : n < 100000)
    (hs : ∀ i x F1 H1 H1' acc (N : VK) (N' : Hp → Prop), i < n → Same F F1 → Run p F1 H1 F1 H1 → I i F1 acc → Y i H1 x H1' →
      (∀ y F4 H4, Run p F1 H1 F4 H4 → I (i + 1) F4 (acc ++ [y]) → N y H4) → (∀ F3 H3, Run p F1 H1 F3 H3 → I (i + 1) F3 acc → N' H3) →
      g x (wipe σ vs) H1' fun σ2 H2 => wipe σ2 vs = wipe σ vs ∧ tt σ2 H2 fun b H3 => if b = true then te σ2 H3 N else N' H3)
    (hd : ∀ L F1 F2 H' acc, Run p F0 H0 F2 H' → Run p F H F2 H' → Same F F1 → Same F1 F2 → F2 L = some (.lst acc) → H L = none → I n F1 acc → Q (.ref L) H') : LcB g tt te vs σ Q J H := by
  refine l_go w r.g.fh (M1 p) (PotAt · p) r.t r.t.m pot_z I i0 hG hn ?_ ?_
  · intro i x F1 H1 H1' acc N N' hi g1 z1 i1 y hN hN'
    have f1 : F1 p = none := g1.oo _ r.f r.t.some
    exact hs i x F1 H1 H1' acc N N' hi g1.ff ⟨Go.refl g1.fh, f1, z1⟩ i1 y (fun v F4 H4 r4 i4 => hN v F4 H4 r4.g r4.t i4) (fun F3 H3 r3 i3 => hN' F3 H3 r3.g r3.t i3)
  · intro L F1 H' acc g1 z1 hL fL eL i1
    have n : L ≠ p := (r.t.ne hL).symm
    have k : Run p F H (upd F1 L (.lst acc)) H' := ⟨g1.fin hL fL eL, by rw [upd_ne n.symm]; exact g1.oo _ r.f r.t.some, z1⟩
    exact hd L F1 _ H' acc (r.trans k) k g1.ff (Same.new fL) upd_same hL i1
end
theorem all_true {n : Nat} : (List.replicate n true).all id = true := by
  rw [List.all_eq_true]
  intro x h
  exact (List.eq_of_mem_replicate h)
theorem fm_true {α : Type} : ∀ xs : List α, xs.filterMap (fun _ => some (V.bl true)) = (List.replicate xs.length true).map V.bl
  | [] => rfl
  | x :: xs => by
    rw [List.filterMap_cons, fm_true xs]
    rfl
section
variable {M : Addr → Prop} {q : Addr} {F0 H0 F H H' : Hp} {o : HO}
theorem Go.keep (g : Go M F0 H0 F H) (h : H q = none) : ∃ F', Go M F0 H0 F' (upd H q o) ∧ Same F F' ∧ F' q = some o := ⟨_, g.new h, Same.new (Same.free g.fh h), upd_same⟩
theorem Go.hold (g : Go M F0 H0 F H) (s : Same H H') (h : H q = none) (e : H' q = some o) : ∃ F', Go M F0 H0 F' H' ∧ Same F F' ∧ F' q = some o := by
  have f : F q = none := Same.free g.fh h
  have k := g.trans (Go.of_same (M := M) g.fh s)
  exact ⟨upd F q o, k.fin (g.free h) f e, Same.new f, upd_same⟩
end
/-- a tuple of ints -/
def IntsT (F : Hp) (a : Addr) (ns : List Int) : Prop := F a = some (.tup (ns.map V.int))
def IntsL (F : Hp) (a : Addr) (ns : List Int) : Prop := F a = some (.lst (ns.map V.int))
theorem paired_intsT {F F' : Hp} {as : List Addr} {l : List (List Int)} (s : Same F F') (h : Paired (IntsT F) as l) : Paired (IntsT F') as l := paired_mono (fun _ _ e => s _ _ e) h
theorem paired_intsL {F F' : Hp} {as : List Addr} {l : List (List Int)} (s : Same F F') (h : Paired (IntsL F) as l) : Paired (IntsL F') as l := paired_mono (fun _ _ e => s _ _ e) h
theorem paired_strsL {F F' : Hp} {as : List Addr} {l : List (List Str)} (s : Same F F') (h : Paired (StrsL F) as l) : Paired (StrsL F') as l := paired_mono (fun _ _ e => s _ _ e) h
theorem paired_app {α β : Type} {R : α → β → Prop} : ∀ {l l' : List α} {m m' : List β}, Paired R l m → Paired R l' m' → Paired R (l ++ l') (m ++ m')
  | _, _, _, _, .nil, h => h
  | _, _, _, _, .cons r t, h => .cons r (paired_app t h)
/-- t + (k,), t a tuple of ints -/
theorem cat_one {M : Addr → Prop} {K : PySem.W.Frag} {F0 H0 F H : Hp} {a : Addr} {row : List Int} {k : Int} {N : VK} (g : Go M F0 H0 F H) (hR : F a = some (.tup (row.map V.int))) (hl : row.length ≤ 100)
    (hN : ∀ t F' H', Go M F0 H0 F' H' → Same F F' → IntsT F' t (row ++ [k]) → N (.ref t) H') : 1 ≤ sizeLine ∧ ∀ p, H p = none → rCatA K (.ref a) (.ref p) (upd H p (.tup [.int k])) N := by
  refine ⟨by decide, fun p hp => ?_⟩
  obtain ⟨F1, g1, s1, e1⟩ := g.keep (o := .tup [.int k]) hp
  refine ⟨a, p, row.map V.int, [.int k], rfl, rfl, SqT.of (g1.fh _ _ (s1 _ _ hR)), SqT.of (g1.fh _ _ e1), ?_, fun e => ?_, fun _ z => ?_, fun _ _ q hq => ?_⟩
  · rw [List.length_map]
    exact Nat.le_trans (Nat.add_le_add_right hl 1) (by decide)
  · cases row with
    | nil => exact hN p F1 _ g1 s1 e1
    | cons x r => cases e
  · cases z
  · obtain ⟨F2, g2, s2, e2⟩ := g1.keep (o := .tup (row.map V.int ++ [.int k])) hq
    refine hN q F2 _ g2 (s1.trans s2) ?_
    show F2 q = _
    rw [e2, List.map_append]
    rfl
def tupD (ns : List Int) : PyData := .tuple (ns.map .int)
theorem dp_tup {K : PySem.W.Frag} {H : Hp} {a : Addr} {ns : List Int} (h : SqT K H a (ns.map V.int)) : Dp K H (.ref a) (tupD ns) := .tup h (dpAll_ints ns)
theorem shw_tup {ns : List Int} (h : ∀ n ∈ ns, -999999999999 ≤ n ∧ n ≤ 999999999999) : Shw ns.length 1 (tupD ns) := by
  have a : ShwA ((0 + 1) * (ns.map PyData.int).length) 0 (ns.map .int) := ShwA.all fun d m => by
    obtain ⟨r, hr, rfl⟩ := List.mem_map.mp m
    exact Shw.int_ (h r hr).1 (h r hr).2
  refine (Shw.tuple_ a).up ?_ (Nat.le_refl _)
  rw [List.length_map]
  omega
theorem eqv_tups (xs ys : List Int) : PyData.eqv (tupD xs) (tupD ys) = decide (xs = ys) := by
  unfold tupD
  rw [PyData.eqv]
  exact eqvAll_map _ eqv_int xs ys
theorem atI_end {row : List Int} (h : row ≠ []) : atI (row.map V.int) (-1) = some (.int (row.getLast?.getD 0)) := by
  obtain ⟨r, x, rfl⟩ : ∃ r x, row = r ++ [x] := ⟨row.dropLast, row.getLast h, (List.dropLast_concat_getLast h).symm⟩
  rw [List.map_append, List.getLast?_concat]
  exact L2.atI_last _ _
end Dc

namespace Dc
open PySem PySem.Spec PyProof.Rows L2
/-- the inner loop of a comprehension with two fors -/
def InB (g1 : TG) (tt1 : TT) (te : TE) (vs1 : List Nat) (D : Addr) (Nx : Hp → Prop) (σ2 : L2.St) (J1 : It) (H4 : Hp) : Prop :=
  ∃ W1 : Nat → Nat → Hp → Prop, (∃ m, W1 0 m H4) ∧ ∀ j k H, W1 j k H →
    (J1.stop j H ∧ Nx H) ∨ (J1.go j H ∧ ∃ Nx1 : Hp → Prop, (∀ H', Nx1 H' → ∃ k', k' < k ∧ W1 (j + 1) k' H') ∧
      ∀ x H', J1.yld j H x H' → g1 x (wipe σ2 vs1) H' fun σ3 H5 => wipe σ3 vs1 = wipe σ2 vs1 ∧ tt1 σ3 H5 fun b H6 =>
        if b = true then te σ3 H6 fun y H7 => ∃ acc, H7 D = some (.lst acc) ∧ acc.length < sizeLine ∧ Nx1 (upd H7 D (.lst (acc ++ [y]))) else Nx1 H6)
/-- a comprehension with two fors, over J first -/
def Lc2B (g : TG) (tt : TT) (wi1 : TI) (g1 : TG) (tt1 : TT) (te : TE) (vs vs1 : List Nat) (σ : L2.St) (Q : VK) (J : It) (H1 : Hp) : Prop :=
  ∀ D, H1 D = none → ∃ W : Nat → Nat → Hp → Prop, (∃ m, W 0 m (upd H1 D (.lst []))) ∧ ∀ i m H, W i m H →
    (J.stop i H ∧ Q (.ref D) H) ∨ (J.go i H ∧ ∃ Nx : Hp → Prop, (∀ H', Nx H' → ∃ m', m' < m ∧ W (i + 1) m' H') ∧
      ∀ x H', J.yld i H x H' → g x (wipe σ vs) H' fun σ2 H2 => wipe σ2 vs = wipe σ vs ∧ tt σ2 H2 fun b H3 =>
        if b = true then wi1 σ2 H3 (InB g1 tt1 te vs1 D Nx σ2) else Nx H3)
theorem tLc2_eq {wi wi1 : TI} {g g1 : TG} {tt tt1 : TT} {te : TE} {vs vs1 : List Nat} {σ : L2.St} {H : Hp} {Q : VK} : tLc2 wi g tt wi1 g1 tt1 te vs vs1 σ H Q = wi σ H (Lc2B g tt wi1 g1 tt1 te vs vs1 σ Q) := rfl
section
variable {J : It} {n : Nat} {G : Hp → Prop} {Y : Nat → Hp → V → Hp → Prop} {g g1 : TG} {σ : L2.St} {F H : Hp} {tt tt1 : TT} {te : TE} {wi1 : TI} {vs vs1 : List Nat} {Q : VK}
/-- I: by the turns of both, what stays, and the list as far as it is -/
theorem l2_go (w : Walk J n G Y) (S : Same F H) (M : Addr → Prop) (Z : Hp → Prop) (z0 : Z H) (hM : ∀ b, M b → H b ≠ none) (hZ : ∀ H' b o, Z H' → ¬ M b → Z (upd H' b o))
    (I : Nat → Nat → Hp → List V → Prop) (i0 : I 0 0 F []) (hG : ∀ H', Same F H' → G H') (hl : ∀ i j F acc, I i j F acc → acc.length < 100000)
    (hs : ∀ i x F1 H1 H1' acc (In : L2.St → It → Hp → Prop) (N' : Hp → Prop), i < n → Go M F H F1 H1 → Z H1 → I i 0 F1 acc → Y i H1 x H1' →
      (∀ σ2 lo n1 F4 H4, Go M F1 H1 F4 H4 → Z H4 → I i 0 F4 acc →
        (∀ j F5 H5 acc (N : VK) (N' : Hp → Prop), j < n1 → Go M F H F5 H5 → Same F4 F5 → Z H5 → I i j F5 acc →
          (∀ y F6 H6, Go M F5 H5 F6 H6 → Z H6 → I i (j + 1) F6 (acc ++ [y]) → N y H6) → (∀ F6 H6, Go M F5 H5 F6 H6 → Z H6 → I i (j + 1) F6 acc → N' H6) →
          g1 (.int (lo + (j : Nat))) (wipe σ2 vs1) H5 fun σ3 H6 => wipe σ3 vs1 = wipe σ2 vs1 ∧ tt1 σ3 H6 fun b H7 => if b = true then te σ3 H7 N else N' H7) →
        (∀ F5 acc, I i n1 F5 acc → I (i + 1) 0 F5 acc) → In σ2 (Itr lo n1) H4) →
      (∀ F3 H3, Go M F1 H1 F3 H3 → Z H3 → I (i + 1) 0 F3 acc → N' H3) →
      g x (wipe σ vs) H1' fun σ2 H2 => wipe σ2 vs = wipe σ vs ∧ tt σ2 H2 fun b H3 => if b = true then wi1 σ2 H3 (In σ2) else N' H3)
    (hd : ∀ L F' H' acc, Go M F H F' H' → Z H' → H L = none → F' L = none → H' L = some (.lst acc) → I n 0 F' acc → Q (.ref L) H') : Lc2B g tt wi1 g1 tt1 te vs vs1 σ Q J H := by
  intro D hD
  have nM : ¬ M D := fun m => hM D m hD
  let P (i j : Nat) (H' : Hp) : Prop := ∃ F' acc, Go M F H F' H' ∧ Z H' ∧ F' D = none ∧ H' D = some (.lst acc) ∧ I i j F' acc
  refine ⟨fun i m H' => m = n - i ∧ i ≤ n ∧ P i 0 H', ⟨n, by simp, Nat.zero_le _, F, [], (Go.refl S).tmp hD, hZ _ _ _ z0 nM, Same.free S hD, upd_same, i0⟩, ?_⟩
  rintro i m H1 ⟨rfl, hi, F1, acc, g1', z1, f1, e1, k1⟩
  have gg : G H1 := hG H1 (fun b o e => g1'.fh b o (g1'.ff b o e))
  by_cases hlt : i < n
  · refine .inr ⟨w.goes i H1 hlt gg, P (i + 1) 0, fun H' p' => ⟨n - (i + 1), by omega, rfl, hlt, p'⟩, fun x H1' y => ?_⟩
    refine hs i x F1 H1 H1' acc (fun σ2 => InB g1 tt1 te vs1 D (P (i + 1) 0) σ2) (P (i + 1) 0) hlt g1' z1 k1 (w.yields i H1 x H1' hlt gg y) ?_ ?_
    · intro σ2 lo n1 F4 H4 g4 z4 k4 step last
      have e4 := g4.hh _ _ nM e1
      have f4 : F4 D = none := g4.off f1 e1
      let R (j : Nat) (H' : Hp) : Prop := ∃ F' acc, Go M F H F' H' ∧ Same F4 F' ∧ Z H' ∧ F' D = none ∧ H' D = some (.lst acc) ∧ I i j F' acc
      refine ⟨fun j k H' => k = n1 - j ∧ j ≤ n1 ∧ R j H', ⟨n1, by simp, Nat.zero_le _, F4, acc, g1'.trans g4, Same.refl F4, z4, f4, e4, k4⟩, ?_⟩
      rintro j k H5 ⟨rfl, hj, F5, acc5, g5, g5', z5, f5, e5, k5⟩
      by_cases hjl : j < n1
      · refine .inr ⟨walk_range.goes j H5 hjl trivial, R (j + 1), fun H' p' => ⟨n1 - (j + 1), by omega, rfl, hjl, p'⟩, fun x H5' y => ?_⟩
        obtain ⟨rfl, rfl⟩ := walk_range.yields j H5 x H5' hjl trivial y
        refine step j F5 _ acc5 _ _ hjl g5 g5' z5 k5 ?_ ?_
        · intro y F6 H6 g6 z6 k6
          have e6 : H6 D = some (.lst acc5) := g6.hh _ _ nM e5
          have f6 : F6 D = none := g6.off f5 e5
          exact ⟨acc5, e6, Nat.lt_trans (hl _ _ _ _ k5) (by decide), F6, acc5 ++ [y], (g5.trans g6).loc hD f6, g5'.trans g6.ff, hZ _ _ _ z6 nM, f6, upd_same, k6⟩
        · intro F6 H6 g6 z6 k6
          exact ⟨F6, acc5, g5.trans g6, g5'.trans g6.ff, z6, g6.off f5 e5, g6.hh _ _ nM e5, k6⟩
      · have e : j = n1 := by omega
        subst e
        exact .inl ⟨walk_range.stops H5 trivial, F5, acc5, g5, z5, f5, e5, last _ _ k5⟩
    · intro F3 H3 g3 z3 k3
      exact ⟨F3, acc, g1'.trans g3, z3, g3.off f1 e1, g3.hh _ _ nM e1, k3⟩
  · have e : i = n := by omega
    subst e
    exact .inl ⟨w.stops H1 gg, hd D F1 H1 acc g1' z1 hD f1 e1 k1⟩
end
end Dc

namespace Dc
open PySem PySem.Spec PyProof.Rows L2 PySem.W
/-! ### a list that rises is what sorting gives -/
section
variable {α : Type} {O : KeyOrd} {k : α → O.α}
/-- each lesser than the next -/
def rises (O : KeyOrd) (k : α → O.α) : List α → Bool
  | a :: b :: r => O.blt (k a) (k b) && rises O k (b :: r)
  | _ => true
theorem rises_pw : ∀ {l : List α}, rises O k l = true → l.Pairwise (fun a b => O.blt (k a) (k b) = true)
  | [], _ => .nil
  | [a], _ => .cons (fun _ h => absurd h List.not_mem_nil) .nil
  | a :: b :: r, h => by
    have h' : (O.blt (k a) (k b) && rises O k (b :: r)) = true := h
    rw [Bool.and_eq_true] at h'
    have ih := rises_pw h'.2
    refine .cons (fun c hc => ?_) ih
    rcases List.mem_cons.mp hc with rfl | hc
    · exact h'.1
    · exact O.trans _ _ _ h'.1 ((List.pairwise_cons.mp ih).1 c hc)
theorem rises_sort {l m : List α} (h : rises O k m = true) (p : m.Perm l) : l.mergeSort (sortLe O false k) = m := by
  have pw := rises_pw h
  have T := sortLe_total O false k
  have pw2 : m.Pairwise (fun a b => sortLe O false k a b = true) := pw.imp fun {a b} e => by
    show (!O.blt (k b) (k a)) = true
    cases z : O.blt (k b) (k a) with
    | false => rfl
    | true =>
      have := O.trans _ _ _ e z
      rw [O.irrefl] at this
      cases this
  refine List.Perm.eq_of_pairwise (le := fun a b => sortLe O false k a b = true) ?_ (List.pairwise_mergeSort T.trans (fun a b => by rcases T.total a b with z | z <;> rw [z] <;> simp) l) pw2 ((List.mergeSort_perm _ _).trans p.symm)
  intro a b ha hb e1 e2
  have ha : a ∈ m := p.symm.mem_iff.mp ((List.mergeSort_perm _ _).mem_iff.mp ha)
  have f1 : O.blt (k b) (k a) = false := by
    have z : (!O.blt (k b) (k a)) = true := e1
    simpa using z
  have f2 : O.blt (k a) (k b) = false := by
    have z : (!O.blt (k a) (k b)) = true := e2
    simpa using z
  obtain ⟨i, hi, rfl⟩ := List.mem_iff_getElem.mp ha
  obtain ⟨j, hj, rfl⟩ := List.mem_iff_getElem.mp hb
  rcases Nat.lt_trichotomy i j with c | c | c
  · rw [List.pairwise_iff_getElem.mp pw i j hi hj c] at f2
    cases f2
  · subst c
    rfl
  · rw [List.pairwise_iff_getElem.mp pw j i hj hi c] at f1
    cases f1
end
/-! ### all sets of n places, by how many they have, then by the first places -/
def bitsOf (n m : Nat) : List Int := (List.range n).filterMap fun (k : Nat) => if (m : Int) / 2 ^ k % 2 = 1 then some (k : Int) else none
def rowsL (n : Nat) : List (List Int) := (List.range (2 ^ n)).map fun m => ((bitsOf n m).length : Int) :: bitsOf n m
/-- the sets with one place more -/
def growTo (n : Nat) (row : List Int) : List (List Int) := (List.range n).filterMap fun (k : Nat) => if row = [] ∨ row.getLast?.getD 0 < (k : Int) then some (row ++ [(k : Int)]) else none
def nextL (n : Nat) (lv : List (List Int)) : List (List Int) := lv.flatMap (growTo n)
def levelL (n : Nat) : Nat → List (List Int)
  | 0 => [[]]
  | s + 1 => nextL n (levelL n s)
/-- those of at most m places -/
def setsTo (n m : Nat) : List (List Int) := (List.range (m + 1)).flatMap (levelL n)
def setsIx (n : Nat) : List (List Int) := setsTo n n
theorem setsTo_succ (n m : Nat) : setsTo n (m + 1) = setsTo n m ++ levelL n (m + 1) := by
  unfold setsTo
  rw [List.range_succ, List.flatMap_append, List.flatMap_cons, List.flatMap_nil, List.append_nil]
theorem rows_sorted {n : Nat} (h : n ≤ 8) : (rowsL n).mergeSort (dataLe false intsD) = (setsIx n).map fun r => (r.length : Int) :: r := by
  have key : ∀ n, n < 9 → (rises (listOrd itemOrd) (fun r : List Int => keyToks (intsD r)) ((setsIx n).map fun r => (r.length : Int) :: r) && ((setsIx n).map fun r => (r.length : Int) :: r).isPerm (rowsL n)) = true := by
    decide +kernel
  have := key n (by omega)
  rw [Bool.and_eq_true] at this
  exact rises_sort this.1 (List.isPerm_iff.mp this.2)
/-- no level has more than 70, each place is below n -/
theorem level_ok {n m : Nat} (h : n ≤ 8) (hm : m ≤ 8) : (levelL n m).length ≤ 70 ∧ ∀ r ∈ levelL n m, r.length = m ∧ ∀ i ∈ r, 0 ≤ i ∧ i < (n : Int) := by
  have key : ∀ n, n < 9 → ∀ m, m < 9 → (levelL n m).length ≤ 70 ∧ ∀ r ∈ levelL n m, r.length = m ∧ ∀ i ∈ r, 0 ≤ i ∧ i < (n : Int) := by
    decide +kernel
  exact key n (by omega) m (by omega)
/-! ### sorted(xs), xs a list of lists of ints -/
def rSortLL (K : PySem.W.Frag) : List V → Hp → VK → Prop := fun xs H Q => ∃ (a : Addr) (rows : List (Addr × List Int)), xs = [.ref a] ∧ SqL K H a (rows.map fun r => .ref r.1) ∧ (∀ r ∈ rows, SqL K H r.1 (r.2.map V.int)) ∧
  ∀ p, H p = none → Q (.ref p) (upd H p (.lst ((rows.mergeSort (dataLe false fun r => intsD r.2)).map fun r => .ref r.1)))
theorem ints_alike : ∀ a b : List Int, alikeAll (a.map PyData.int) (b.map PyData.int) = true
  | [], b => by rw [List.map_nil, alikeAll]
  | _ :: _, [] => by rw [List.map_cons, List.map_nil, alikeAll]
  | x :: a, y :: b => by
    rw [List.map_cons, List.map_cons, alikeAll, ints_alike a b, alike]
    rfl
theorem each_of {rows : List (Addr × List Int)} {P : Value → Addr × List Int → Prop} (h : ∀ r ∈ rows, P (.ref r.1) r) : EachIs P (rows.map fun r => Value.ref r.1) rows := by
  induction rows with
  | nil => exact .nil
  | cons r rows ih => exact .cons (h r (List.mem_cons_self ..)) (ih fun q m => h q (List.mem_cons_of_mem _ m))
theorem each_refs : ∀ {out : List Value} {bs : List (Addr × List Int)}, EachIs (fun v b => v = Value.ref b.1) out bs → out = bs.map fun r => Value.ref r.1
  | _, _, .nil => rfl
  | _, _, .cons h t => by
    rw [h, each_refs t]
    rfl
theorem vals_refs : ∀ {rows : List (Addr × List Int)} {vs : List Value}, Vals (rows.map fun r => V.ref r.1) vs → vs = rows.map fun r => Value.ref r.1
  | [], _, h => by
    cases h
    rfl
  | r :: rows, _, h => by
    cases h with
    | cons h1 h2 =>
      rw [vals_refs h2]
      have e : _ = Value.ref r.1 := h1
      rw [e]
      rfl
theorem vals_of : ∀ rows : List (Addr × List Int), Vals (rows.map fun r => V.ref r.1) (rows.map fun r => Value.ref r.1)
  | [] => .nil
  | r :: rows => .cons rfl (vals_of rows)
theorem cr_sortLL {X : Cx} (hu : X.A.units + 64 < cLine) : CallR X (.builtin "sorted") (rSortLL X.K) := by
  intro pins s σ H xs us Q I r h
  obtain ⟨a, rows, rfl, hs, hx, q⟩ := h
  obtain ⟨its, rv, hl, hz⟩ := I.list hs
  obtain ⟨u, rfl, ru⟩ := vals1 r
  obtain rfl : u = Value.ref a := ru
  have ei := vals_refs rv
  subst ei
  rw [List.length_map] at hz
  refine sorted_data (bs := rows) (enc := fun r => intsD r.2) (R := fun v b => v = Value.ref b.1) hl.isList (each_of fun _ _ => rfl) (each_of fun r m => Dp.reads I _ _ _ (dp_ints (hx r m)) rfl) ?_ (.inr fun d m => ?_) hz (fun b m => ?_) (fun out ho eo => ?_)
  · intro d m d' m'
    obtain ⟨r1, _, rfl⟩ := List.mem_map.mp m
    obtain ⟨r2, _, rfl⟩ := List.mem_map.mp m'
    show alike (PyData.list _) (PyData.list _) = true
    rw [alike]
    exact ints_alike _ _
  · obtain ⟨r1, _, rfl⟩ := List.mem_map.mp m
    exact ⟨(fun e => nomatch e), (fun _ e => nomatch e)⟩
  · have e : PyData.depth (intsD b.2) ≤ 1 := by
      have : ∀ l : List Int, PyData.depthAll (l.map PyData.int) ≤ 0 := by
        intro l
        induction l with
        | nil => exact Nat.le_refl _
        | cons x l ih => exact Nat.max_le.mpr ⟨Nat.le_refl _, ih⟩
      exact Nat.succ_le_succ (this b.2)
    show X.A.units + 2 + PyData.depth (intsD b.2) < cLine
    omega
  · have eo' := each_refs eo
    subst eo'
    obtain ⟨n, hn⟩ := sortedAll_at s.heap (rows.map fun r => Value.ref r.1) ((rows.mergeSort (dataLe false fun r => intsD r.2)).map fun r => Value.ref r.1).toArray
    refine ⟨.ref (s.heap.objs.size + 1), upd H (s.heap.objs.size + 1) (.lst ((rows.mergeSort (dataLe false fun r => intsD r.2)).map fun r => .ref r.1)), I.laid (t' := s.toks) (fun _ _ => sortedAll_old) (Nat.le_succ _) ⟨?_, _, n, vals_of _, hn⟩, rfl, q _ (I.hok.fresh (Nat.le_succ _))⟩
    rw [List.length_map, List.length_mergeSort]
    exact hz
theorem sort_rows (rows : List (Addr × List Int)) : (rows.mergeSort (dataLe false fun r => intsD r.2)).map (·.2) = (rows.map (·.2)).mergeSort (dataLe false intsD) := List.map_mergeSort fun _ _ _ _ => rfl
end Dc

open PySem PySem.Spec PyProof.Rows L2 Dc
local macro_rules | `(tactic| walk_at "rd") => `(tactic| simp only [tFor_eq, tLc_eq, tLc2_eq, rSortLL, cx_K, cx_nK, cx_bK, cx_w, cx_nw, tSeq, tIfS, tTest, tB, tOp, tUn, tVar, tC, tAsg, tRet, tRetN, tDrop, tCB, tCons, tNil, tNext, tBreak, tCont, tAnd, tOr, tNot, tAndV, tOrV, tNotV, tIf, tChain, tTup, tLst, tFld, sFld, tF, tM, tMk, tPar, tAug, tBM, tBM0, tSl, tPart, tNoPart, tYes, tNever, wipe, gName, gTup, gCons, gNil, gSub, rI, rI0, rU, rEq, rNe, rIxL, rIxT, rIxS, rSetL, rSlL, rSlS, rSlT, rIndex, rReverse, rMax, rMin, rSorted, iRng3, iRev, tRevL, tDGet, sDPut, tDIn, tDNotIn, tTru, rAppend, rExtend, rPop, rPopAt, rClear, rCat, rRep, rIn, rSum, rAll, rAny, rEqD, rNeD, rIsi, rLenO, rAddStr, rLenStr, rLenSeq, rLenDic, rAbs, Dc.rMax2, rMin2, rDivmod, rListOf, rTupleOf, rTupL, rStrInt, rReprInt, rStrStr, rIntStr, tipAdd, tipSub, ipI, rJoin, rSplit, tM0, tM1, rInS, rNotInS, rIsN, rNotN, rIsB, rNotB, iList, iTup, iRng1, iRng2, iEnum, iZip, iStr, L2.start, List.map, List.length_cons, List.length_nil, List.replicate, List.cons_append, List.nil_append, List.append_nil, List.getElem?_cons_zero, List.getElem?_cons_succ, List.set_cons_zero, List.set_cons_succ, some2, V.int.injEq, V.ref.injEq, V.bl.injEq, V.str.injEq, V.ty.injEq, exists_eq_left, exists_eq_left', exists_eq, exists_eq', exists_eq_right, exists_eq_right', exists_and_left, exists_and_right, List.cons.injEq, and_true, true_and, and_assoc, Nat.reduceAdd, Nat.reduceSub, Nat.zero_add, reduceCtorEq, false_and, and_false, exists_false, Bool.false_eq_true, if_true, if_false, Bool.not_true, Bool.not_false, false_or, or_false, true_or, or_true])
namespace Dc
open PySem PySem.Spec PyProof.Rows L2
section
variable {K : PySem.W.Frag} {H : Hp} {Q : VK} {E : XK} {vs : List V}
def sp_take (K : PySem.W.Frag) : Sp := fun vs H Q _ => ∃ (F : Hp) (p : Addr) (n : Int), vs = [.ref p, .int n] ∧ Same F H ∧ F p = none ∧ PotAt H p ∧ 0 < n ∧ n < 1073741824 ∧
  ∀ (d : Int) (H' : Hp), 0 ≤ d → d < n → Go (M1 p) F H F H' → PotAt H' p → Q (.int d) H'
def t_take (K : PySem.W.Frag) : TS := tSeq (tIfS (tTest (tOp (rI0 fun i j => .bl (decide (j < i))) (tOp (rIxL K) (tVar 0) (tC (.int 0))) (tC (.int 0)))) (tSeq (tAsg (tCB rDivmod (tCons (tOp (rIxL K) (tVar 0) (tC (.int 0))) (tCons (tVar 1) tNil))) (gTup K 2 (gCons (gSub (tVar 0) (tC (.int 0)) rSetL) (gCons (gName 2) gNil))))
  (tRet (tVar 2))) tNext)
  (tSeq (tAsg (tOp (rI (fun _ j => 0 < j) fun i j => .int (i % j)) (tOp (rI0 fun i j => .int (i + j)) (tOp (rI CMul fun i j => .int (i * j)) (tOp (rIxL K) (tVar 0) (tC (.int 1))) (tC (.int 40692))) (tC (.int 12347))) (tC (.int 2147483399))) (gSub (tVar 0) (tC (.int 1)) rSetL))
  (tRet (tOp (rI (fun _ j => 0 < j) fun i j => .int (i % j)) (tOp (rI CDiv fun i j => .int (i / j)) (tOp (rI (fun _ j => 0 < j) fun i j => .int (i % j)) (tOp (rI CMul fun i j => .int (i * j)) (tOp (rIxL K) (tVar 0) (tC (.int 1))) (tOp (rIxL K) (tVar 0) (tC (.int 1)))) (tC (.int 2147483549))) (tC (.int 7))) (tVar 1))))
theorem len_take (h : sp_take K vs H Q E) : vs.length = 2 := by
  obtain ⟨F, p, n, rfl, _⟩ := h
  rfl
theorem rd_take (h : sp_take K vs H Q E) : t_take K (En Q) (st0' 3 vs) H := by
  obtain ⟨F, p, n, rfl, hS, hF, ⟨a, b, hp, ha, hb, hb2⟩, hn, hn2, q⟩ := h
  unfold t_take st0'
  walk_at "rd"
  refine ⟨_, SqL.of hp, _, rfl, _, rfl, ite2 (fun e => ?_) (fun e => ?_)⟩
  · refine ⟨_, SqL.of hp, _, rfl, _, rfl, ⟨hn, hn2⟩, fun t ht => ?_⟩
    have npt : p ≠ t := ne_of_none hp ht
    refine ⟨_, SqT.of upd_same, rfl, _, _, rfl, _, (upd_ne npt).trans hp, _, rfl, _, _, rfl, rfl, ?_⟩
    refine q _ _ (Int.emod_nonneg _ (by omega)) (Int.emod_lt_of_pos _ hn) (((Go.refl hS).tmp ht).mut rfl hF) ⟨a / n, b, upd_same, ?_, hb, hb2⟩
    exact Int.ediv_nonneg ha (by omega)
  · have h1 : 0 ≤ (b * 40692 + 12347) % 2147483399 := Int.emod_nonneg _ (by decide)
    have h2 : (b * 40692 + 12347) % 2147483399 < 2147483399 := Int.emod_lt_of_pos _ (by decide)
    refine ⟨_, SqL.of hp, _, rfl, _, rfl, .inr ⟨by decide, by decide⟩, (by decide), _, hp, _, rfl, ?_⟩
    refine ⟨_, SqL.of upd_same, _, rfl, _, SqL.of upd_same, _, rfl, _, rfl, _, rfl, .inl ⟨by omega, by omega⟩, (by decide), ⟨by decide, by decide⟩, hn, ?_⟩
    exact q _ _ (Int.emod_nonneg _ (by omega)) (Int.emod_lt_of_pos _ hn) ((Go.refl hS).mut rfl hF) ⟨a, _, upd_same, ha, h1, by omega⟩
def sp_pot (K : PySem.W.Frag) : Sp := fun vs H Q _ => ∃ (F : Hp) (a : Addr) (ns : List Int) (k : Int), vs = [.ref a, .int k] ∧ Same F H ∧ SqL K F a (ns.map V.int) ∧ 0 ≤ k ∧ k < 64 ∧
  ∀ (p : Addr) (H' : Hp), Go M0 F H F H' → H p = none → PotAt H' p → Q (.ref p) H'
def t_pot (K : PySem.W.Frag) : TS := tSeq (tAsg (tOp (rI0 fun i j => .int (i + j)) (tOp (rI CMul fun i j => .int (i * j)) (tC (.int 5)) (tVar 1)) (tC (.int 2))) (gName 2))
  (tSeq (tIfS (tTest (tOp (rI0 fun i j => .bl (decide (i < j))) (tVar 1) (tCB (rLenSeq K) (tCons (tVar 0) tNil)))) (tAsg (tCB rAbs (tCons (tOp (rIxL K) (tVar 0) (tVar 1)) tNil)) (gName 2)) tNext)
  (tSeq (tAsg (tOp (rI (fun _ j => 0 < j) fun i j => .int (i % j)) (tOp (rI0 fun i j => .int (i + j)) (tOp (rI0 fun i j => .int (i + j)) (tVar 2) (tOp (rI CMul fun i j => .int (i * j)) (tC (.int 89)) (tVar 1))) (tC (.int 3))) (tC (.int 2147483629))) (gName 3))
  (tRet (tLst (tCons (tCB rMax2 (tCons (tC (.int 0)) (tCons (tOp (rI0 fun i j => .int (i - j)) (tVar 2) (tOp (rI CPow fun i j => .int (i ^ j.toNat)) (tC (.int 10)) (tC (.int 18)))) tNil))) (tCons (tOp (rI0 fun i j => .int (i + j)) (tOp (rI (fun _ j => 0 < j) fun i j => .int (i % j)) (tOp (rI CMul fun i j => .int (i * j)) (tVar 3) (tVar 3)) (tC (.int 2147483563))) (tC (.int 7))) tNil))))))
theorem len_pot (h : sp_pot K vs H Q E) : vs.length = 2 := by
  obtain ⟨F, p, ns, k, rfl, _⟩ := h
  rfl
theorem rd_pot (h : sp_pot K vs H Q E) : t_pot K (En Q) (st0' 4 vs) H := by
  obtain ⟨F, a, ns, k, rfl, hS, hA, hk, hk2, q⟩ := h
  have hA' : SqL K H a (ns.map V.int) := Same.seq hS hA
  have fin : ∀ c : Int, 0 ≤ c → ∀ p, H p = none → ∀ m, m = (c + 89 * k + 3) % 2147483629 → PotAt (upd H p (.lst [.int (if c - 10 ^ 18 > 0 then c - 10 ^ 18 else 0), .int (m * m % 2147483563 + 7)])) p := by
    intro c hc p hp m hm
    refine ⟨_, _, upd_same, ?_, ?_, ?_⟩
    · split
      · omega
      · exact Int.le_refl _
    · have := Int.emod_nonneg (m * m) (b := 2147483563) (by decide)
      omega
    · have := Int.emod_lt_of_pos (m * m) (b := 2147483563) (by decide)
      omega
  have mb : ∀ c : Int, -(2 ^ 64) < (c + 89 * k + 3) % 2147483629 ∧ (c + 89 * k + 3) % 2147483629 < 2 ^ 64 := by
    intro c
    have h1 := Int.emod_nonneg (c + 89 * k + 3) (b := 2147483629) (by decide)
    have h2 := Int.emod_lt_of_pos (c + 89 * k + 3) (b := 2147483629) (by decide)
    omega
  have p18 : CPow 10 18 := ⟨by decide, by decide, by decide⟩
  have done : ∀ c : Int, 0 ≤ c → ∀ p, H p = none → Q (.ref p) (upd H p (.lst [.int (if c - 10 ^ Int.toNat 18 > 0 then c - 10 ^ Int.toNat 18 else 0), .int ((c + 89 * k + 3) % 2147483629 * ((c + 89 * k + 3) % 2147483629) % 2147483563 + 7)])) :=
    fun c hc p hp => q p _ ((Go.refl hS).tmp hp) hp (fin c hc p hp _ rfl)
  unfold t_pot st0'
  walk_at "rd"
  refine ⟨.inl ⟨by decide, by decide⟩, _, .inl hA', ite2 (fun e => ?_) (fun e => ?_)⟩
  · have hlt : k < (ns.length : Int) := by
      have := of_decide_eq_true e
      rwa [List.length_map] at this
    have hj : k.toNat < ns.length := by omega
    refine ⟨_, hA', .int ns[k.toNat], at_of (j := k.toNat) (by omega) (by rw [List.getElem?_map, List.getElem?_eq_getElem hj]; rfl), _, rfl, .inl ⟨by decide, by decide⟩, by decide, p18, .inl (mb _), by decide, by decide, ?_⟩
    refine done _ ?_
    split
    · omega
    · omega
  · exact ⟨.inl ⟨by decide, by decide⟩, by decide, p18, .inl (mb _), by decide, by decide, done _ (by omega)⟩
theorem take_run {p : Addr} {F0 H0 F : Hp} {n : Int} (r : Run p F0 H0 F H) (h1 : 0 < n) (h2 : n < 1073741824) (k : ∀ (d : Int) (H' : Hp), 0 ≤ d → d < n → Run p F0 H0 F H' → Q (.int d) H') : sp_take K [.ref p, .int n] H Q E :=
  ⟨F, p, n, rfl, r.s, r.f, r.t, h1, h2, fun d H' a b g t => k d H' a b (r.step g t)⟩
theorem pot_run {F : Hp} {a : Addr} {ns : List Int} {i : Int} (s : Same F H) (ha : SqL K F a (ns.map V.int)) (h1 : 0 ≤ i) (h2 : i < 64) (k : ∀ (p : Addr) (H' : Hp), Same H H' → H p = none → PotAt H' p → Q (.ref p) H') : sp_pot K [.ref a, .int i] H Q E :=
  ⟨F, a, ns, i, rfl, s, ha, h1, h2, fun p H' g hp t => k p H' (fun b o e => g.hh b o m0 e) hp t⟩
end
end Dc

namespace Dc
open PySem PySem.Spec PyProof.Rows L2
section
variable {K : PySem.W.Frag} {H : Hp} {Q : VK} {E : XK} {vs : List V}
def sp_name (K : PySem.W.Frag) : Sp := fun vs H Q _ => ∃ (F : Hp) (p l : Addr) (ts : List Str), vs = [.ref p, .ref l] ∧ Same F H ∧ F p = none ∧ PotAt H p ∧ SqL K F l (ts.map V.str) ∧ ts.length < 26 ∧
  ∀ (x : Str) (H' : Hp), IsName x → x ∉ ts → Go (M1 p) F H F H' → PotAt H' p → Q (.str x) H'
def t_name (K : PySem.W.Frag) : TS := tSeq (tAsg (tC (.str "abcdefghijklmnopqrstuvwxyz")) (gName 2))
  (tSeq (tAsg (tM1 (rJoin K) (tC (.str "")) (tLc (iRng1 (tCons (tOp (rI0 fun i j => .int (i + j)) (tC (.int 1)) (tF (sp_take K) E0 (tCons (tVar 0) (tCons (tC (.int 8)) tNil)))) tNil)) (gName 4) tYes (tOp rIxS (tVar 2) (tF (sp_take K) E0 (tCons (tVar 0) (tCons (tC (.int 26)) tNil)))) [4])) (gName 3))
  (tSeq (tIfS (tTest (tOp (rIn K false) (tVar 3) (tVar 1))) (tRet (tOp (rIxL K) (tLc (iStr (tVar 2)) (gName 5) (tTest (tOp (rIn K true) (tVar 5) (tVar 1))) (tVar 5) [5]) (tC (.int 0)))) tNext)
  (tRet (tVar 3))))
theorem len_name (h : sp_name K vs H Q E) : vs.length = 2 := by
  obtain ⟨F, p, l, ts, rfl, _⟩ := h
  rfl
theorem rd_name (h : sp_name K vs H Q E) : t_name K (En Q) (st0' 6 vs) H := by
  obtain ⟨F, p, l, ts, rfl, hS, hF, hP, hL, hlen, q⟩ := h
  unfold t_name st0'
  walk_at "rd"
  refine ⟨F, p, 8, rfl, hS, hF, hP, by decide, by decide, fun d H1 hd hd2 g1 p1 => ⟨d, rfl, by omega, by omega, ?_⟩⟩
  refine l_go walk_range g1.fh (M1 p) (PotAt · p) p1 p1.m pot_z (fun i F' acc => F' = F ∧ ∃ cs : List Nat, acc = cs.map (fun c => V.str (one c)) ∧ cs.length = i ∧ ∀ c ∈ cs, isLetter c = true)
    ⟨rfl, [], rfl, rfl, fun c h => absurd h List.not_mem_nil⟩ (fun _ _ => trivial) (by omega) ?_ ?_
  · rintro i x F1 H2 H2' acc N N' hi g2 p2 ⟨rfl, cs, rfl, rfl, hc⟩ ⟨rfl, rfl⟩ hN hN'
    walk_at "rd"
    refine ⟨F1, p, 26, rfl, g2.fh, hF, p2, by decide, by decide, fun e H3 he he2 g3 p3 => ⟨e, rfl, by decide +kernel, e.toNat + 97, at_I he ?_, ?_⟩⟩
    · exact (Array.getElem?_toList ..).trans (letter_at (by omega))
    · refine hN _ F1 H3 g3 p3 ⟨rfl, cs ++ [e.toNat + 97], ?_, by rw [List.length_append]; rfl, fun c h => ?_⟩
      · rw [List.map_append]
        rfl
      · rcases List.mem_append.mp h with h | h
        · exact hc c h
        · rw [List.mem_singleton.mp h]
          exact isLetter_at (by omega)
  · rintro L F' H2 acc g2 p2 hL' fL eL ⟨rfl, cs, rfl, hcl, hc⟩
    walk_at "rd"
    have hB : SqL K H2 l (ts.map V.str) := Same.seq g2.fh hL
    refine ⟨cs.map one, .inl (SqL.of (by rw [eL, List.map_map]; rfl)), ?_, _, .inl hB, rfl, all_flat_str ts, ?_⟩
    · rw [one_lens, List.length_map, show (Str.ofString "").length = 0 from rfl]
      omega
    · rw [join_ones, inV_strs]
      refine ite2 (fun e => ?_) (fun e => ?_)
      · refine l_go walk_str g2.fh (M1 p) (PotAt · p) p2 p2.m pot_z (fun i Fx acc => Fx = F' ∧ ∃ cs : List Nat, acc = cs.map (fun c => V.str (one c)) ∧ (∀ c ∈ cs, isLetter c = true ∧ one c ∉ ts) ∧ ∀ j, j < i → one (j + 97) ∉ ts → cs ≠ [])
          ⟨rfl, [], rfl, fun c h => absurd h List.not_mem_nil, fun j h => absurd h (Nat.not_lt_zero _)⟩ (fun _ _ => trivial) (by decide +kernel) ?_ ?_
        · rintro i x F1 H3 H3' acc N N' hi g3 p3 ⟨rfl, ds, rfl, hds, hne⟩ ⟨rfl, c, hcp, rfl⟩ hN hN'
          have hi' : i < 26 := Nat.lt_of_lt_of_eq hi (by decide +kernel)
          have ec : c = i + 97 := Option.some.inj (hcp.symm.trans (letter_at hi'))
          subst ec
          walk_at "rd"
          refine ⟨_, .inl (Same.seq g3.fh hL), rfl, all_flat_str ts, ?_⟩
          rw [show (⟨#[i + 97]⟩ : Str) = one (i + 97) from rfl, inV_strs]
          refine ite2 (fun e2 => ?_) (fun e2 => ?_)
          · have nm : one (i + 97) ∉ ts := fun m => by
              rw [decide_eq_true m] at e2
              cases e2
            refine hN _ F1 H3' (Go.refl g3.fh) p3 ⟨rfl, ds ++ [i + 97], ?_, fun c h => ?_, fun j _ _ => by simp⟩
            · rw [List.map_append]
              rfl
            · rcases List.mem_append.mp h with h | h
              · exact hds c h
              · rw [List.mem_singleton.mp h]
                exact ⟨isLetter_at hi', nm⟩
          · refine hN' F1 H3' (Go.refl g3.fh) p3 ⟨rfl, ds, rfl, hds, fun j hj hn => ?_⟩
            by_cases ej : j = i
            · subst ej
              rw [decide_eq_false hn] at e2
              exact absurd rfl e2
            · exact hne j (by omega) hn
        · rintro L2 F2 H3 acc g3 p3 hL2 fL2 eL2 ⟨rfl, ds, rfl, hds, hne⟩
          obtain ⟨j, hj, hjn⟩ := free_letter hlen
          have ne : ds ≠ [] := hne j (Nat.lt_of_lt_of_eq hj (by decide +kernel)) hjn
          cases ds with
          | nil => exact absurd rfl ne
          | cons c r =>
            obtain ⟨h1, h2⟩ := hds c (List.mem_cons_self ..)
            exact ⟨L2, rfl, _, SqL.of eL2, _, atI_nat (j := 0) rfl, q _ _ (one_name h1) h2 ((g1.trans g2).trans g3) p3⟩
      · exact q _ _ (S_name (by omega) (by omega) hc) (fun m => e (decide_eq_true m)) (g1.trans g2) p2
end
end Dc

namespace Dc
open PySem PySem.Spec PyProof.Rows L2
section
variable {K : PySem.W.Frag} {H : Hp} {Q : VK} {E : XK} {vs : List V}
def sp_names (K : PySem.W.Frag) : Sp := fun vs H Q _ => ∃ (F : Hp) (p l : Addr) (ts : List Str) (n : Nat), vs = [.ref p, .int n, .ref l] ∧ Same F H ∧ F p = none ∧ PotAt H p ∧ F l = some (.lst (ts.map V.str)) ∧ ts.length + n < 26 ∧
  ∀ (L : Addr) (xs : List Str) (F' H' : Hp), xs.length = n → xs.Nodup → (∀ x ∈ xs, IsName x ∧ x ∉ ts) → Go (M1 p) F H F' H' → StrsL F' L xs → H L = none → PotAt H' p → Q (.ref L) H'
def t_names (K : PySem.W.Frag) : TS := tSeq (tAsg (tLst tNil) (gName 3))
  (tSeq (tFor (iRng1 (tCons (tVar 1) tNil)) (gName 4) (tDrop (tBM K "list" rAppend (tVar 3) (tCons (tF (sp_name K) E0 (tCons (tVar 0) (tCons (tOp rCat (tVar 2) (tVar 3)) tNil))) tNil))))
  (tRet (tVar 3)))
theorem len_names (h : sp_names K vs H Q E) : vs.length = 3 := by
  obtain ⟨F, p, l, ts, n, rfl, _⟩ := h
  rfl
theorem rd_names (h : sp_names K vs H Q E) : t_names K (En Q) (st0' 5 vs) H := by
  obtain ⟨F, p, l, ts, n, rfl, hS, hF, hP, hL, hlen, q⟩ := h
  unfold t_names st0'
  walk_at "rd"
  refine ⟨by decide, fun L hL0 => ⟨by omega, by omega, ?_⟩⟩
  rw [Int.toNat_natCast]
  have nLp : L ≠ p := (hP.ne hL0).symm
  refine f_it walk_range (fun i σ H' => ∃ F' xs v, σ = [some (.ref p), some (.int n), some (.ref l), some (.ref L), v] ∧ Go (M1 p) F H F' H' ∧ F' L = none ∧ H' L = some (.lst (xs.map V.str)) ∧ PotAt H' p ∧ xs.length = i ∧ xs.Nodup ∧ ∀ x ∈ xs, IsName x ∧ x ∉ ts)
    ⟨F, [], none, rfl, (Go.refl hS).tmp hL0, Same.free hS hL0, upd_same, hP.new hL0, rfl, List.nodup_nil, fun x h => absurd h List.not_mem_nil⟩ (fun _ _ _ _ _ => trivial) ?_ ?_
  · rintro i x σ H1 H1' N hi ⟨F1, xs, v, rfl, g1, f1, e1, p1, rfl, nd, hx⟩ ⟨rfl, rfl⟩ hN
    have el : H1' l = some (.lst (ts.map V.str)) := g1.fh _ _ (g1.ff _ _ hL)
    walk_at "rd"
    refine ⟨.inl ⟨rfl, _, SqL.of e1⟩, _, el, _, e1, ?_, fun c hc => ?_⟩
    · rw [List.length_map, List.length_map]
      exact Nat.le_trans (by omega : ts.length + xs.length ≤ 100) (by decide)
    have gc := (Go.refl (M := M1 p) g1.fh).new (o := .lst (ts.map V.str ++ xs.map V.str)) hc
    have pc : PotAt (upd H1' c (.lst (ts.map V.str ++ xs.map V.str))) p := p1.new hc
    have fpc : (upd F1 c (.lst (ts.map V.str ++ xs.map V.str))) p = none := by
      rw [upd_ne (p1.ne hc)]
      exact g1.oo _ hF hP.some
    refine ⟨_, p, c, ts ++ xs, rfl, gc.fh, fpc, pc, SqL.of (by rw [upd_same, List.map_append]), by rw [List.length_append]; omega, fun y H2 hy hyn g2 p2 => ?_⟩
    have g12 := gc.trans g2
    have e2 : H2 L = some (.lst (xs.map V.str)) := g12.hh _ _ nLp e1
    refine ⟨_, e2, ?_, hN _ _ ⟨_, xs ++ [y], _, rfl, (g1.trans g12).loc hL0 (g12.off f1 e1), g12.off f1 e1, ?_, p2.upd nLp.symm, by rw [List.length_append]; rfl, ?_, fun x h => ?_⟩⟩
    · rw [List.length_map]
      exact Nat.lt_of_le_of_lt (by omega : xs.length ≤ 100) (by decide)
    · rw [upd_same, List.map_append]
      rfl
    · rw [List.nodup_append]
      refine ⟨nd, List.nodup_cons.mpr ⟨List.not_mem_nil, List.nodup_nil⟩, fun a ha b hb e => ?_⟩
      rw [List.mem_singleton] at hb
      subst hb
      subst e
      exact hyn (List.mem_append_right _ ha)
    · rcases List.mem_append.mp h with h | h
      · exact hx x h
      · rw [List.mem_singleton.mp h]
        exact ⟨hy, fun m => hyn (List.mem_append_left _ m)⟩
  · rintro σ H1 ⟨F1, xs, v, rfl, g1, f1, e1, p1, hl, nd, hx⟩
    walk_at "rd"
    exact q L xs _ H1 hl nd hx (g1.fin hL0 f1 e1) upd_same hL0 p1
def sp_wide (K : PySem.W.Frag) : Sp := fun vs H Q _ => ∃ (F : Hp) (p : Addr), vs = [.ref p] ∧ Same F H ∧ F p = none ∧ PotAt H p ∧
  ∀ (d : Int) (H' : Hp), 1 ≤ d → d ≤ 99 → Go (M1 p) F H F H' → PotAt H' p → Q (.int d) H'
def t_wide (K : PySem.W.Frag) : TS := tRet (tOp (rIxL K) (tLst (tCons (tC (.int 1)) (tCons (tC (.int 1)) (tCons (tC (.int 2)) (tCons (tC (.int 3)) (tCons (tC (.int 9)) (tCons (tC (.int 99)) tNil))))))) (tF (sp_take K) E0 (tCons (tVar 0) (tCons (tC (.int 6)) tNil))))
theorem len_wide (h : sp_wide K vs H Q E) : vs.length = 1 := by
  obtain ⟨F, p, rfl, _⟩ := h
  rfl
theorem rd_wide (h : sp_wide K vs H Q E) : t_wide K (En Q) (st0' 1 vs) H := by
  obtain ⟨F, p, rfl, hS, hF, hP, q⟩ := h
  unfold t_wide st0'
  walk_at "rd"
  refine ⟨by decide, fun c hc => ?_⟩
  have gc := (Go.refl (M := M1 p) hS).tmp (o := .lst [.int 1, .int 1, .int 2, .int 3, .int 9, .int 99]) hc
  refine ⟨F, p, 6, rfl, gc.fh, hF, hP.new hc, by decide, by decide, fun d H1 hd hd2 g1 p1 => ?_⟩
  have ec : H1 c = some (.lst [.int 1, .int 1, .int 2, .int 3, .int 9, .int 99]) := g1.hh _ _ (fun e => hP.ne hc e.symm) upd_same
  have cs : d = 0 ∨ d = 1 ∨ d = 2 ∨ d = 3 ∨ d = 4 ∨ d = 5 := by omega
  have k : ∀ (z : Int), 1 ≤ z → z ≤ 99 → Q (.int z) H1 := fun z h1 h2 => q z H1 h1 h2 (gc.trans g1) p1
  refine ⟨_, d, rfl, SqL.of ec, ?_⟩
  rcases cs with rfl | rfl | rfl | rfl | rfl | rfl
  · exact ⟨_, rfl, k 1 (by decide) (by decide)⟩
  · exact ⟨_, rfl, k 1 (by decide) (by decide)⟩
  · exact ⟨_, rfl, k 2 (by decide) (by decide)⟩
  · exact ⟨_, rfl, k 3 (by decide) (by decide)⟩
  · exact ⟨_, rfl, k 9 (by decide) (by decide)⟩
  · exact ⟨_, rfl, k 99 (by decide) (by decide)⟩
def sp_range (K : PySem.W.Frag) : Sp := fun vs H Q _ => ∃ (F : Hp) (p : Addr) (wd : Int) (b : Bool), vs = [.ref p, .int wd, .bl b] ∧ Same F H ∧ F p = none ∧ PotAt H p ∧ 1 ≤ wd ∧ wd ≤ 99 ∧
  ∀ (t : Addr) (lo hi : Int) (H' : Hp), -wd ≤ lo → lo ≤ hi → hi ≤ wd → (b = true → lo ≤ 0 ∧ 0 ≤ hi) → Go (M1 p) F H F H' → H' t = some (.tup [.int lo, .int hi]) → PotAt H' p → Q (.ref t) H'
def t_range (K : PySem.W.Frag) : TS := tSeq (tIfS (tB (tVar 2)) (tRet (tTup (tCons (tOp (rI0 fun i j => .int (i - j)) (tC (.int 0)) (tF (sp_take K) E0 (tCons (tVar 0) (tCons (tOp (rI0 fun i j => .int (i + j)) (tVar 1) (tC (.int 1))) tNil)))) (tCons (tF (sp_take K) E0 (tCons (tVar 0) (tCons (tOp (rI0 fun i j => .int (i + j)) (tVar 1) (tC (.int 1))) tNil))) tNil)))) tNext)
  (tSeq (tAsg (tOp (rI0 fun i j => .int (i - j)) (tF (sp_take K) E0 (tCons (tVar 0) (tCons (tOp (rI0 fun i j => .int (i + j)) (tOp (rI CMul fun i j => .int (i * j)) (tC (.int 2)) (tVar 1)) (tC (.int 1))) tNil))) (tVar 1)) (gName 3))
  (tRet (tTup (tCons (tVar 3) (tCons (tOp (rI0 fun i j => .int (i + j)) (tVar 3) (tF (sp_take K) E0 (tCons (tVar 0) (tCons (tOp (rI0 fun i j => .int (i + j)) (tOp (rI0 fun i j => .int (i - j)) (tVar 1) (tVar 3)) (tC (.int 1))) tNil)))) tNil)))))
theorem len_range (h : sp_range K vs H Q E) : vs.length = 3 := by
  obtain ⟨F, p, wd, b, rfl, _⟩ := h
  rfl
theorem rd_range (h : sp_range K vs H Q E) : t_range K (En Q) (st0' 4 vs) H := by
  obtain ⟨F, p, wd, b, rfl, hS, hF, hP, h1, h2, q⟩ := h
  unfold t_range st0'
  walk_at "rd"
  refine ite2 (fun e => ?_) (fun e => ?_)
  · refine ⟨F, p, _, rfl, hS, hF, hP, by omega, by omega, fun d H1 hd hd2 g1 p1 => ⟨d, rfl, ?_⟩⟩
    refine ⟨F, p, _, rfl, g1.fh, hF, p1, by omega, by omega, fun c H2 hc hc2 g2 p2 => ⟨by decide, fun t ht => ?_⟩⟩
    exact q t _ _ _ (by omega) (by omega) (by omega) (fun _ => ⟨by omega, by omega⟩) ((g1.trans g2).tmp ht) upd_same (p2.new ht)
  · refine ⟨.inl ⟨by decide, by decide⟩, F, p, _, rfl, hS, hF, hP, by omega, by omega, fun d H1 hd hd2 g1 p1 => ⟨d, rfl, ?_⟩⟩
    refine ⟨F, p, _, rfl, g1.fh, hF, p1, by omega, by omega, fun c H2 hc hc2 g2 p2 => ⟨c, rfl, by decide, fun t ht => ?_⟩⟩
    exact q t _ _ _ (by omega) (by omega) (by omega) (fun z => absurd z e) ((g1.trans g2).tmp ht) upd_same (p2.new ht)
def sp_door (K : PySem.W.Frag) : Sp := fun vs H Q _ => ∃ (F : Hp) (p l : Addr) (rs : List Str) (wd : Int) (b : Bool), vs = [.ref p, .ref l, .int wd, .bl b] ∧ Same F H ∧ F p = none ∧ PotAt H p ∧ F l = some (.lst (rs.map V.str)) ∧ rs.Nodup ∧ 2 ≤ rs.length ∧ rs.length ≤ 8 ∧ 1 ≤ wd ∧ wd ≤ 99 ∧
  ∀ (t : Addr) (d : Door) (F' H' : Hp), DoorOk rs d → -wd ≤ d.lo → d.hi ≤ wd → (b = true → d.lo ≤ 0 ∧ 0 ≤ d.hi) → Go (M1 p) F H F' H' → DoorAt F' t d → PotAt H' p → Q (.ref t) H'
def t_door (K : PySem.W.Frag) : TS := tSeq (tAsg (tF (sp_take K) E0 (tCons (tVar 0) (tCons (tCB (rLenSeq K) (tCons (tVar 1) tNil)) tNil))) (gName 4))
  (tSeq (tAsg (tOp (rI (fun _ j => 0 < j) fun i j => .int (i % j)) (tOp (rI0 fun i j => .int (i + j)) (tOp (rI0 fun i j => .int (i + j)) (tVar 4) (tC (.int 1))) (tF (sp_take K) E0 (tCons (tVar 0) (tCons (tOp (rI0 fun i j => .int (i - j)) (tCB (rLenSeq K) (tCons (tVar 1) tNil)) (tC (.int 1))) tNil)))) (tCB (rLenSeq K) (tCons (tVar 1) tNil))) (gName 5))
  (tSeq (tAsg (tF (sp_range K) E0 (tCons (tVar 0) (tCons (tVar 2) (tCons (tVar 3) tNil)))) (gTup K 2 (gCons (gName 6) (gCons (gName 7) gNil))))
  (tRet (tTup (tCons (tOp (rIxL K) (tVar 1) (tVar 4)) (tCons (tOp (rIxL K) (tVar 1) (tVar 5)) (tCons (tVar 6) (tCons (tVar 7) tNil))))))))
theorem len_door (h : sp_door K vs H Q E) : vs.length = 4 := by
  obtain ⟨F, p, l, rs, wd, b, rfl, _⟩ := h
  rfl
theorem rd_door (h : sp_door K vs H Q E) : t_door K (En Q) (st0' 8 vs) H := by
  obtain ⟨F, p, l, rs, wd, b, rfl, hS, hF, hP, hL, hN, hl, hl2, h1, h2, q⟩ := h
  unfold t_door st0'
  walk_at "rd"
  have el : ∀ {H' : Hp}, Same F H' → SqL K H' l (rs.map V.str) := fun s => SqL.of (s _ _ hL)
  refine ⟨_, .inl (el hS), F, p, _, rfl, hS, hF, hP, by rw [List.length_map]; omega, by rw [List.length_map]; omega, fun i H1 hi hi2 g1 p1 => ⟨i, rfl, _, .inl (el g1.fh), ?_⟩⟩
  rw [List.length_map] at hi2
  refine ⟨F, p, _, rfl, g1.fh, hF, p1, by rw [List.length_map]; omega, by rw [List.length_map]; omega, fun j H2 hj hj2 g2 p2 => ⟨j, rfl, _, .inl (el g2.fh), by rw [List.length_map]; omega, ?_⟩⟩
  rw [List.length_map] at hj2
  refine ⟨F, p, wd, b, rfl, g2.fh, hF, p2, h1, h2, fun t lo hj' H3 a1 a2 a3 a4 g3 e3 p3 => ?_⟩
  have hm0 : 0 ≤ (i + 1 + j) % (rs.length : Int) := Int.emod_nonneg _ (by omega)
  have hm1 : (i + 1 + j) % (rs.length : Int) < rs.length := Int.emod_lt_of_pos _ (by omega)
  have hne : (i + 1 + j) % (rs.length : Int) ≠ i := by
    intro z
    by_cases c : i + 1 + j < rs.length
    · rw [Int.emod_eq_of_lt (by omega) c] at z
      omega
    · have e : (i + 1 + j) % (rs.length : Int) = (i + 1 + j - rs.length) % (rs.length : Int) := by
        rw [Int.sub_emod_right]
      rw [e, Int.emod_eq_of_lt (by omega) (by omega)] at z
      omega
  have i1 : i.toNat < rs.length := by omega
  have i2 : ((i + 1 + j) % (rs.length : Int)).toNat < rs.length := by omega
  have l2 : ((rs.map V.str).length : Int) = rs.length := by rw [List.length_map]
  rw [l2]
  have g : Go (M1 p) F H F H3 := (g1.trans g2).trans g3
  refine ⟨t, rfl, _, SqT.of e3, rfl, _, _, rfl, _, _, rfl, rfl, _, i, rfl, el g3.fh, .str rs[i.toNat], at_I hi (get_map (List.getElem?_eq_getElem i1)), _, el g3.fh, .str rs[((i + 1 + j) % (rs.length : Int)).toNat], at_I hm0 (get_map (List.getElem?_eq_getElem i2)), by decide, fun u hu => ?_⟩
  refine q u ⟨rs[i.toNat], rs[((i + 1 + j) % (rs.length : Int)).toNat], lo, hj'⟩ _ _ ⟨List.getElem_mem i1, List.getElem_mem i2, fun z => ?_, by show -99 ≤ lo; omega, a2, by show hj' ≤ 99; omega⟩ a1 a3 a4 (g.new hu) upd_same (p3.new hu)
  have := (List.getElem_inj hN).mp z
  omega
def sp_doors (K : PySem.W.Frag) : Sp := fun vs H Q _ => ∃ (F : Hp) (p l : Addr) (rs : List Str) (n : Nat) (b : Bool), vs = [.ref p, .ref l, .int n, .bl b] ∧ Same F H ∧ F p = none ∧ PotAt H p ∧ F l = some (.lst (rs.map V.str)) ∧ RoomsOk rs ∧ n ≤ 12 ∧
  ∀ (L : Addr) (ds : List Door) (F' H' : Hp), DoorsOk rs ds → (rs.length < 2 → ds = []) → (2 ≤ rs.length → ds.length = n) → (b = true → ∀ d ∈ ds, d.lo ≤ 0 ∧ 0 ≤ d.hi) → Go (M1 p) F H F' H' → DoorsL F' L ds → H L = none → PotAt H' p → Q (.ref L) H'
def t_doors (K : PySem.W.Frag) : TS := tSeq (tIfS (tTest (tOp (rI0 fun i j => .bl (decide (i < j))) (tCB (rLenSeq K) (tCons (tVar 1) tNil)) (tC (.int 2)))) (tRet (tLst tNil)) tNext)
  (tSeq (tAsg (tF (sp_wide K) E0 (tCons (tVar 0) tNil)) (gName 4))
  (tRet (tLc (iRng1 (tCons (tVar 2) tNil)) (gName 5) tYes (tF (sp_door K) E0 (tCons (tVar 0) (tCons (tVar 1) (tCons (tVar 4) (tCons (tVar 3) tNil))))) [5])))
theorem len_doors (h : sp_doors K vs H Q E) : vs.length = 4 := by
  obtain ⟨F, p, l, rs, n, b, rfl, _⟩ := h
  rfl
theorem rd_doors (h : sp_doors K vs H Q E) : t_doors K (En Q) (st0' 6 vs) H := by
  obtain ⟨F, p, l, rs, n, b, rfl, hS, hF, hP, hL, hR, hn, q⟩ := h
  unfold t_doors st0'
  walk_at "rd"
  have el : ∀ {H' : Hp}, Same F H' → SqL K H' l (rs.map V.str) := fun s => SqL.of (s _ _ hL)
  obtain ⟨r1, r2, r3, r4⟩ := id hR
  refine ⟨_, .inl (el hS), ite2 (fun e => ?_) (fun e => ?_)⟩
  · have e : (rs.length : Int) < 2 := by
      have := of_decide_eq_true e
      rwa [List.length_map] at this
    refine ⟨by decide, fun L hL0 => q L [] _ _ ⟨Nat.zero_le _, fun d h => absurd h List.not_mem_nil⟩ (fun _ => rfl) (fun h => absurd h (by omega)) (fun _ d h => absurd h List.not_mem_nil) ((Go.refl hS).new hL0) ⟨[], upd_same, .nil⟩ hL0 (hP.new hL0)⟩
  · have e : 2 ≤ rs.length := by
      have : ¬ ((rs.map V.str).length : Int) < 2 := fun z => e (decide_eq_true z)
      rw [List.length_map] at this
      omega
    refine ⟨F, p, rfl, hS, hF, hP, fun wd H1 w1 w2 g1 p1 => ⟨by omega, by omega, ?_⟩⟩
    rw [Int.toNat_natCast]
    refine l_go walk_range g1.fh (M1 p) (PotAt · p) p1 p1.m pot_z (fun i F' acc => ∃ (as : List Addr) (ds : List Door), acc = as.map V.ref ∧ Paired (DoorAt F') as ds ∧ ds.length = i ∧ (∀ d ∈ ds, DoorOk rs d) ∧ (b = true → ∀ d ∈ ds, d.lo ≤ 0 ∧ 0 ≤ d.hi))
      ⟨[], [], rfl, .nil, rfl, fun d h => absurd h List.not_mem_nil, fun _ d h => absurd h List.not_mem_nil⟩ (fun _ _ => trivial) (by omega) ?_ ?_
    · rintro i x F1 H2 H2' acc N N' hi g2 p2 ⟨as, ds, rfl, hpd, rfl, hd, hb⟩ ⟨rfl, rfl⟩ hN hN'
      walk_at "rd"
      refine ⟨F1, p, l, rs, wd, b, rfl, g2.fh, g2.oo _ hF p1.some, p2, g2.ff _ _ hL, r3, e, r2, w1, w2, fun t d F3 H3 d1 d2 d3 d4 g3 e3 p3 => ?_⟩
      refine hN _ F3 H3 g3 p3 ⟨as ++ [t], ds ++ [d], by rw [List.map_append]; rfl, paired_snoc e3 (paired_door g3.ff hpd), by rw [List.length_append]; rfl, fun d' h => ?_, fun z d' h => ?_⟩
      · rcases List.mem_append.mp h with h | h
        · exact hd d' h
        · rw [List.mem_singleton.mp h]
          exact d1
      · rcases List.mem_append.mp h with h | h
        · exact hb z d' h
        · rw [List.mem_singleton.mp h]
          exact d4 z
    · rintro L F2 H2 acc g2 p2 hL' fL eL ⟨as, ds, rfl, hpd, hl, hd, hb⟩
      have hL0 : H L = none := by
        cases hh : H L with
        | none => rfl
        | some o => exact absurd hL' (g1.th L (by rw [hh]; exact Option.some_ne_none _))
      have g := g1.trans g2
      refine q L ds _ H2 ⟨by omega, hd⟩ (fun z => absurd z (by omega)) (fun _ => hl) hb (g.fin hL0 fL eL) ⟨as, upd_same, paired_door (Same.new fL) hpd⟩ hL0 p2
def sp_lists (K : PySem.W.Frag) : Sp := fun vs H Q _ => ∃ (F : Hp) (p : Addr), vs = [.ref p] ∧ Same F H ∧ F p = none ∧ PotAt H p ∧
  ∀ (t L1 L2 : Addr) (rs : List Str) (ds : List Door) (F' H' : Hp), RoomsOk rs → DoorsOk rs ds → Go (M1 p) F H F' H' → F' t = some (.tup [.ref L1, .ref L2]) → StrsL F' L1 rs → DoorsL F' L2 ds → PotAt H' p → Q (.ref t) H'
def t_lists (K : PySem.W.Frag) : TS := tSeq (tAsg (tF (sp_names K) E0 (tCons (tVar 0) (tCons (tOp (rI0 fun i j => .int (i + j)) (tC (.int 1)) (tF (sp_take K) E0 (tCons (tVar 0) (tCons (tC (.int 8)) tNil)))) (tCons (tLst tNil) tNil)))) (gName 1))
  (tRet (tTup (tCons (tVar 1) (tCons (tF (sp_doors K) E0 (tCons (tVar 0) (tCons (tVar 1) (tCons (tF (sp_take K) E0 (tCons (tVar 0) (tCons (tC (.int 13)) tNil))) (tCons (tC (.bl false)) tNil))))) tNil))))
theorem len_lists (h : sp_lists K vs H Q E) : vs.length = 1 := by
  obtain ⟨F, p, rfl, _⟩ := h
  rfl
theorem rd_lists (h : sp_lists K vs H Q E) : t_lists K (En Q) (st0' 2 vs) H := by
  obtain ⟨F, p, rfl, hS, hF, hP, q⟩ := h
  unfold t_lists st0'
  walk_at "rd"
  refine ⟨F, p, 8, rfl, hS, hF, hP, by decide, by decide, fun d H1 hd hd2 g1 p1 => ⟨d, rfl, by decide, fun c hc => ?_⟩⟩
  have gc := (Go.refl (M := M1 p) g1.fh).new (o := .lst []) hc
  have fpc : (upd F c (.lst [])) p = none := by
    rw [upd_ne (p1.ne hc)]
    exact hF
  refine ⟨_, p, c, [], (1 + d).toNat, by rw [show ((1 + d).toNat : Int) = 1 + d by omega], gc.fh, fpc, p1.new hc, upd_same, by show 0 + _ < 26; omega, fun L1 rs F2 H2 hl nd hx g2 e2 hL1 p2 => ?_⟩
  have f2 : F2 p = none := g2.oo _ fpc (p1.new hc).some
  have hR : RoomsOk rs := ⟨by omega, by omega, nd, fun r h => (hx r h).1⟩
  refine ⟨F2, p, 13, rfl, g2.fh, f2, p2, by decide, by decide, fun m H3 hm hm2 g3 p3 => ?_⟩
  refine ⟨F2, p, L1, rs, m.toNat, false, by rw [show ((m.toNat : Nat) : Int) = m by omega], g3.fh, f2, p3, e2, hR, by omega, fun L2 ds F4 H4 hD _ _ _ g4 e4 hL2 p4 => ⟨by decide, fun t ht => ?_⟩⟩
  have g : Go (M1 p) F H F4 H4 := ((g1.trans gc).trans g2).trans (g3.trans g4)
  exact q t L1 L2 rs ds _ _ hR hD (g.new ht) upd_same (StrsL.go (fun b o e => (Same.new (Same.free g4.fh ht)) b o (g4.ff b o e)) e2) (DoorsL.go (Same.new (Same.free g4.fh ht)) e4) (p4.new ht)
theorem lists_run {p : Addr} {F0 H0 F : Hp} (r : Run p F0 H0 F H) (k : ∀ (t L1 L2 : Addr) (rs : List Str) (ds : List Door) (as : List Addr) (F' H' : Hp), RoomsOk rs → DoorsOk rs ds → Run p F0 H0 F' H' → Same F F' → F' t = some (.tup [.ref L1, .ref L2]) → F' L1 = some (.lst (rs.map V.str)) → F' L2 = some (.lst (as.map V.ref)) → Paired (DoorAt F') as ds → Q (.ref t) H') : sp_lists K [.ref p] H Q E :=
  ⟨F, p, rfl, r.s, r.f, r.t, fun t L1 L2 rs ds F' H' a b g e1 e2 ⟨as, e3, e4⟩ t' => k t L1 L2 rs ds as F' H' a b (r.step g t') g.ff e1 e2 e3 e4⟩
end
end Dc

namespace Dc
open PySem PySem.Spec PyProof.Rows L2
/-! ### plans -/
def nameB (x : Str) : Bool := decide (1 ≤ x.length) && decide (x.length ≤ 8) && x.cps.toList.all isLetter
theorem nameB_iff {x : Str} : nameB x = true ↔ IsName x := by
  unfold nameB IsName
  rw [Bool.and_eq_true, Bool.and_eq_true, decide_eq_true_eq, decide_eq_true_eq, List.all_eq_true, and_assoc]
/-- of another class than T, and of none under it -/
def NotTy (K : PySem.W.Frag) (H : Hp) (x : V) (T : String) : Prop := ∃ t, TyX K H x t ∧ PySem.W.kitOne K t (.type T) = some false
theorem sqL_ty {K : PySem.W.Frag} {H : Hp} {a : Addr} {xs : List V} (h : SqL K H a xs) : TyX K H (.ref a) (.type "list") := by
  rcases h with (h | ⟨o, h⟩) | ⟨o, its, n, h, hc, _⟩
  · exact .base (.lst h)
  · exact .base (.frz h)
  · exact .kList h hc
theorem letter_in {c : Nat} : decide (c ∈ letters26.cps.toList) = isLetter c := by
  rw [letters_cps]
  unfold isLetter
  by_cases h : 97 ≤ c ∧ c ≤ 122
  · rw [decide_eq_true h.1, decide_eq_true h.2, decide_eq_true]
    · rfl
    · exact List.mem_map.mpr ⟨c - 97, List.mem_range.mpr (by omega), by omega⟩
  · rw [decide_eq_false]
    · by_cases a : 97 ≤ c
      · rw [decide_eq_true a, decide_eq_false (fun b => h ⟨a, b⟩)]
        rfl
      · rw [decide_eq_false a]
        rfl
    · intro m
      obtain ⟨i, hi, e⟩ := List.mem_map.mp m
      have := List.mem_range.mp hi
      exact h (by omega)
section
variable {K : PySem.W.Frag} {H : Hp} {Q : VK} {E : XK} {vs : List V}
def sp_is_name (K : PySem.W.Frag) : Sp := fun vs H Q _ => ∃ x, vs = [x] ∧ ((∃ s, x = .str s ∧ s.length ≤ 100000 ∧ ∀ H', Same H H' → Q (.bl (nameB s)) H') ∨ (NotTy K H x "str" ∧ Q (.bl false) H))
def t_is_name (K : PySem.W.Frag) : TS := tSeq (tIfS (tOr (tNot (tB (tCB (rIsi K) (tCons (tVar 0) (tCons (tC (.ty "str")) tNil))))) (tNot (tTest (tChain (rI0 fun i j => .bl (decide (i ≤ j))) (rI0 fun i j => .bl (decide (i ≤ j))) (tC (.int 1)) (tCB rLenStr (tCons (tVar 0) tNil)) (tC (.int 8)))))) (tRet (tC (.bl false))) tNext)
  (tRet (tCB (rAll K) (tCons (tLc (iStr (tVar 0)) (gName 1) tYes (tOp rInS (tVar 1) (tC (.str "abcdefghijklmnopqrstuvwxyz"))) [1]) tNil)))
theorem len_is_name (h : sp_is_name K vs H Q E) : vs.length = 1 := by
  obtain ⟨x, rfl, _⟩ := h
  rfl
theorem rd_is_name (h : sp_is_name K vs H Q E) : t_is_name K (En Q) (st0' 2 vs) H := by
  obtain ⟨x, rfl, h⟩ := h
  unfold t_is_name st0'
  walk_at "rd"
  rcases h with ⟨z, rfl, hz, q⟩ | ⟨⟨t, ty, e⟩, q⟩
  · refine ⟨_, _, .ty _, .base (.str z), true, kit_ty (by decide +kernel), ?_⟩
    walk_at "rd"
    refine ⟨Nat.le_trans hz (by decide), ?_⟩
    have q0 := q H (Same.refl H)
    unfold nameB at q q0
    refine ite2 (fun a => ?_) (fun a => ?_)
    · have a' : 1 ≤ z.length := by
        have := of_decide_eq_true a
        omega
      refine ite2 (fun b => ?_) (fun b => ?_)
      · have b' : ¬ z.length ≤ 8 := fun c => by
          rw [decide_eq_true (by omega : (z.length : Int) ≤ 8)] at b
          cases b
        rw [decide_eq_false b', Bool.and_false, Bool.false_and] at q0
        exact q0
      · have b' : z.length ≤ 8 := by
          apply Classical.byContradiction
          intro c
          rw [decide_eq_false (by omega : ¬ (z.length : Int) ≤ 8)] at b
          exact b rfl
        rw [decide_eq_true a', decide_eq_true b', Bool.true_and, Bool.true_and] at q
        refine l_go (F := H) walk_str (Same.refl H) M0 (fun _ => True) trivial (fun _ h => h.elim) (fun _ _ _ _ _ => trivial) (fun i Fx acc => Fx = H ∧ acc = ((z.cps.toList.take i).map isLetter).map V.bl) ⟨rfl, rfl⟩ (fun _ _ => trivial) (by show z.length < _; omega) ?_ ?_
        · rintro i x F1 H1 H1' acc N N' hi g1 _ ⟨rfl, rfl⟩ ⟨rfl, c, hc, rfl⟩ hN hN'
          walk_at "rd"
          refine ⟨c, rfl, hN _ F1 H1' (Go.refl g1.fh) trivial ⟨rfl, ?_⟩⟩
          have hc' : z.cps.toList[i]? = some c := (Array.getElem?_toList ..).trans hc
          rw [List.take_add_one, hc', List.map_append, List.map_append]
          show _ ++ [V.bl (decide (c ∈ letters26.cps.toList))] = _
          rw [letter_in]
          rfl
        · rintro L F' H' acc g _ hL fL eL ⟨rfl, rfl⟩
          refine ⟨L, rfl, _, SqL.of eL, ?_⟩
          have e : z.cps.toList.take z.cps.size = z.cps.toList := List.take_of_length_le (by simp)
          rw [e, List.all_map]
          exact q H' (fun b o h => g.fh b o h)
    · have a' : ¬ 1 ≤ z.length := fun c => a (decide_eq_true (by omega))
      rw [decide_eq_false a', Bool.false_and, Bool.false_and] at q0
      exact q0
  · refine ⟨t, _, .ty _, ty, false, e, ?_⟩
    walk_at "rd"
    exact q
def sp_is_whole (K : PySem.W.Frag) : Sp := fun vs H Q _ => ∃ x lo hi, vs = [x, .int lo, .int hi] ∧
  ((∃ i, x = .int i ∧ Q (.bl (decide (lo ≤ i) && decide (i ≤ hi))) H) ∨ ((∃ b, x = .bl b) ∧ Q (.bl false) H) ∨ (NotTy K H x "int" ∧ Q (.bl false) H))
def t_is_whole (K : PySem.W.Frag) : TS := tRet (tAndV (tCB (rIsi K) (tCons (tVar 0) (tCons (tC (.ty "int")) tNil))) (tAndV (tNotV (tCB (rIsi K) (tCons (tVar 0) (tCons (tC (.ty "bool")) tNil)))) (tChain (rI0 fun i j => .bl (decide (i ≤ j))) (rI0 fun i j => .bl (decide (i ≤ j))) (tVar 1) (tVar 0) (tVar 2))))
theorem len_is_whole (h : sp_is_whole K vs H Q E) : vs.length = 3 := by
  obtain ⟨x, lo, hi, rfl, _⟩ := h
  rfl
theorem rd_is_whole (h : sp_is_whole K vs H Q E) : t_is_whole K (En Q) (st0' 3 vs) H := by
  obtain ⟨x, lo, hi, rfl, h⟩ := h
  unfold t_is_whole st0'
  walk_at "rd"
  rcases h with ⟨i, rfl, q⟩ | ⟨⟨b, rfl⟩, q⟩ | ⟨⟨t, ty, e⟩, q⟩
  · refine ⟨_, _, .ty _, .base (.int i), true, kit_ty (by decide +kernel), ?_⟩
    walk_at "rd"
    refine ⟨_, _, .ty _, .base (.int i), false, kit_ty (by decide +kernel), ?_⟩
    walk_at "rd"
    refine ite2 (fun a => ?_) (fun a => ?_)
    · rw [a, Bool.true_and] at q
      exact q
    · rw [(Bool.not_eq_true _).mp a, Bool.false_and] at q
      exact q
  · refine ⟨_, _, .ty _, .base (.bl b), true, kit_ty (by decide +kernel), ?_⟩
    walk_at "rd"
    refine ⟨_, _, .ty _, .base (.bl b), true, kit_ty (by decide +kernel), ?_⟩
    walk_at "rd"
    exact q
  · refine ⟨t, _, .ty _, ty, false, e, ?_⟩
    walk_at "rd"
    exact q
def sp_is_row (K : PySem.W.Frag) : Sp := fun vs H Q _ => ∃ x lo hi, vs = [x, .int lo, .int hi] ∧
  ((∃ a xs, x = .ref a ∧ SqL K H a xs ∧ Q (.bl (decide (lo ≤ (xs.length : Int)) && decide ((xs.length : Int) ≤ hi))) H) ∨ (NotTy K H x "list" ∧ Q (.bl false) H))
def t_is_row (K : PySem.W.Frag) : TS := tRet (tAndV (tCB (rIsi K) (tCons (tVar 0) (tCons (tC (.ty "list")) tNil))) (tChain (rI0 fun i j => .bl (decide (i ≤ j))) (rI0 fun i j => .bl (decide (i ≤ j))) (tVar 1) (tCB (rLenSeq K) (tCons (tVar 0) tNil)) (tVar 2)))
theorem len_is_row (h : sp_is_row K vs H Q E) : vs.length = 3 := by
  obtain ⟨x, lo, hi, rfl, _⟩ := h
  rfl
theorem rd_is_row (h : sp_is_row K vs H Q E) : t_is_row K (En Q) (st0' 3 vs) H := by
  obtain ⟨x, lo, hi, rfl, h⟩ := h
  unfold t_is_row st0'
  walk_at "rd"
  rcases h with ⟨a, xs, rfl, hs, q⟩ | ⟨⟨t, ty, e⟩, q⟩
  · refine ⟨_, _, .ty _, sqL_ty hs, true, kit_ty (by decide +kernel), ?_⟩
    walk_at "rd"
    refine ⟨xs, .inl hs, ite2 (fun c => ?_) (fun c => ?_)⟩
    · rw [c, Bool.true_and] at q
      exact q
    · rw [(Bool.not_eq_true _).mp c, Bool.false_and] at q
      exact q
  · refine ⟨t, _, .ty _, ty, false, e, ?_⟩
    walk_at "rd"
    exact q
def sp_is_bound (K : PySem.W.Frag) : Sp := fun vs H Q _ => ∃ x, vs = [x] ∧
  ((∃ i, x = .int i ∧ Q (.bl (decide (-99 ≤ i) && decide (i ≤ 99))) H) ∨ ((∃ b, x = .bl b) ∧ Q (.bl false) H) ∨ (NotTy K H x "int" ∧ Q (.bl false) H))
def t_is_bound (K : PySem.W.Frag) : TS := tRet (tF (sp_is_whole K) E0 (tCons (tVar 0) (tCons (tUn (rU fun i => .int (-i)) (tC (.int 99))) (tCons (tC (.int 99)) tNil))))
theorem len_is_bound (h : sp_is_bound K vs H Q E) : vs.length = 1 := by
  obtain ⟨x, rfl, _⟩ := h
  rfl
theorem rd_is_bound (h : sp_is_bound K vs H Q E) : t_is_bound K (En Q) (st0' 1 vs) H := by
  obtain ⟨x, rfl, h⟩ := h
  unfold t_is_bound st0'
  walk_at "rd"
  exact ⟨x, -99, 99, rfl, h⟩
end
end Dc

namespace Dc
open PySem PySem.Spec PyProof.Rows L2
structure Pl where
  rs : List Str
  ds : List Door
def PlanOk (pl : Pl) : Prop := RoomsOk pl.rs ∧ DoorsOk pl.rs pl.ds
def planFs (nt gt : Addr) : List (Str × V) := [("named", .ref nt), ("gates", .ref gt)]
/-- a plan at p -/
def PlanAt (K : PySem.W.Frag) (F : Hp) (p : Addr) (pl : Pl) : Prop := ∃ (dx nt gt : Addr) (as : List Addr), F p = some (.ins (He.ga K "Plan") dx (planFs nt gt)) ∧ F nt = some (.tup (pl.rs.map V.str)) ∧ F gt = some (.tup (as.map V.ref)) ∧ Paired (DoorAt F) as pl.ds
theorem PlanAt.go {K : PySem.W.Frag} {F F' : Hp} {p : Addr} {pl : Pl} (h : PlanAt K F p pl) (s : Same F F') : PlanAt K F' p pl := by
  obtain ⟨dx, nt, gt, as, h1, h2, h3, h4⟩ := h
  exact ⟨dx, nt, gt, as, s _ _ h1, s _ _ h2, s _ _ h3, paired_door s h4⟩
/-- the class's facts that every method wants -/
structure PlC (K : PySem.W.Frag) : Prop where
  cl : Cls K (He.ga K "Plan")
  n1 : NoAttr K (He.ga K "Plan") "named"
  n2 : NoAttr K (He.ga K "Plan") "gates"
section
variable {K : PySem.W.Frag} {H : Hp} {Q : VK} {E : XK} {vs : List V}
def sp_want_rooms (K : PySem.W.Frag) : Sp := fun vs H Q _ => ∃ (a : Addr) (rs : List Str), vs = [.ref a] ∧ SqL K H a (rs.map V.str) ∧ RoomsOk rs ∧ ∀ H', Same H H' → Q .non H'
def t_want_rooms (K : PySem.W.Frag) : TS := tSeq (tIfS (tNot (tB (tF (sp_is_row K) E0 (tCons (tVar 0) (tCons (tC (.int 1)) (tCons (tC (.int 8)) tNil)))))) tNever tNext)
  (tFor (iEnum K (tCons (tVar 0) tNil)) (gTup K 2 (gCons (gName 1) (gCons (gName 2) gNil))) (tSeq (tIfS (tNot (tB (tF (sp_is_name K) E0 (tCons (tVar 2) tNil)))) tNever tNext)
  (tIfS (tTest (tOp (rIn K false) (tVar 2) (tSl (rSlL K) (tVar 0) tNoPart (tPart (tVar 1))))) tNever tNext)))
theorem len_want_rooms (h : sp_want_rooms K vs H Q E) : vs.length = 1 := by
  obtain ⟨x, rs, rfl, _⟩ := h
  rfl
theorem rd_want_rooms (h : sp_want_rooms K vs H Q E) : t_want_rooms K (En Q) (st0' 3 vs) H := by
  obtain ⟨a, rs, rfl, ha, hR, q⟩ := h
  unfold t_want_rooms st0'
  walk_at "rd"
  obtain ⟨r1, r2, r3, r4⟩ := id hR
  refine ⟨.ref a, 1, 8, rfl, .inl ⟨a, _, rfl, ha, ?_⟩⟩
  rw [List.length_map, decide_eq_true (by omega : (1 : Int) ≤ rs.length), decide_eq_true (by omega : (rs.length : Int) ≤ 8)]
  walk_at "rd"
  refine ⟨⟨_, ha⟩, ?_⟩
  refine f_it (walk_enum (xs := rs.map V.str)) (fun i σ H' => ∃ v w, σ = [some (.ref a), v, w] ∧ Same H H') ⟨none, none, rfl, Same.refl H⟩ (fun i σ H' _ ⟨_, _, _, s⟩ => s.seq ha) ?_ ?_
  · rintro i x σ H1 H1' N hi ⟨v, w, rfl, s⟩ ⟨T, x1, x2, rfl, hT, rfl, e1, e2⟩ hN
    cases Option.some.inj e1
    rw [List.length_map] at hi
    have hi2 : (rs.map V.str)[i]? = some (.str rs[i]) := get_map (List.getElem?_eq_getElem hi)
    cases Option.some.inj (hi2.symm.trans e2)
    walk_at "rd"
    have sT : Same H (upd H1 T (.tup [.int i, .str rs[i]])) := s.trans (Same.new hT)
    refine ⟨_, SqT.of upd_same, rfl, _, _, rfl, _, _, rfl, rfl, .str rs[i], rfl, .inl ⟨_, rfl, Nat.le_trans (r4 _ (List.getElem_mem hi)).2.1 (by decide), fun H2 s2 => ?_⟩⟩
    rw [nameB_iff.mpr (r4 _ (List.getElem_mem hi))]
    walk_at "rd"
    refine ⟨_, (sT.trans s2).seq ha, fun L hL => ⟨_, .inl (SqL.of upd_same), rfl, ?_, ?_⟩⟩
    · rw [cut_to, ← List.map_take]
      exact all_flat_str _
    · rw [cut_to, ← List.map_take, inV_strs, decide_eq_false (nodup_take r3 hi)]
      walk_at "rd"
      exact hN _ _ ⟨_, _, rfl, (sT.trans s2).trans (Same.new hL)⟩
  · rintro σ H' ⟨v, w, rfl, s⟩
    exact q H' s
def sp_want_ends (K : PySem.W.Frag) : Sp := fun vs H Q _ => ∃ (a : Addr) (rs : List Str) (x y : Str) (z : V), vs = [.ref a, .str x, .str y, z] ∧ SqL K H a (rs.map V.str) ∧ x ∈ rs ∧ y ∈ rs ∧ x ≠ y ∧ Q .non H
def t_want_ends (K : PySem.W.Frag) : TS := tSeq (tIfS (tTest (tOp (rIn K true) (tVar 1) (tVar 0))) tNever tNext)
  (tSeq (tIfS (tTest (tOp (rIn K true) (tVar 2) (tVar 0))) tNever tNext)
  (tIfS (tTest (tOp rEq (tVar 1) (tVar 2))) tNever tNext))
theorem len_want_ends (h : sp_want_ends K vs H Q E) : vs.length = 4 := by
  obtain ⟨a, rs, x, y, z, rfl, _⟩ := h
  rfl
theorem rd_want_ends (h : sp_want_ends K vs H Q E) : t_want_ends K (En Q) (st0' 4 vs) H := by
  obtain ⟨a, rs, x, y, z, rfl, ha, hx, hy, hne, q⟩ := h
  unfold t_want_ends st0'
  walk_at "rd"
  refine ⟨_, .inl ha, rfl, all_flat_str rs, ?_⟩
  rw [inV_strs, decide_eq_true hx]
  walk_at "rd"
  refine ⟨_, .inl ha, rfl, all_flat_str rs, ?_⟩
  rw [inV_strs, decide_eq_true hy]
  walk_at "rd"
  refine ⟨rfl, ?_⟩
  rw [decide_eq_false hne]
  walk_at "rd"
  exact q
def sp_want_range (K : PySem.W.Frag) : Sp := fun vs H Q _ => ∃ (lo hi : Int) (z : V), vs = [.int lo, .int hi, z] ∧ -99 ≤ lo ∧ lo ≤ hi ∧ hi ≤ 99 ∧ Q .non H
def t_want_range (K : PySem.W.Frag) : TS := tSeq (tIfS (tNot (tB (tF (sp_is_bound K) E0 (tCons (tVar 0) tNil)))) tNever tNext)
  (tSeq (tIfS (tNot (tB (tF (sp_is_bound K) E0 (tCons (tVar 1) tNil)))) tNever tNext)
  (tIfS (tTest (tOp (rI0 fun i j => .bl (decide (j < i))) (tVar 0) (tVar 1))) tNever tNext))
theorem len_want_range (h : sp_want_range K vs H Q E) : vs.length = 3 := by
  obtain ⟨lo, hi, z, rfl, _⟩ := h
  rfl
theorem rd_want_range (h : sp_want_range K vs H Q E) : t_want_range K (En Q) (st0' 3 vs) H := by
  obtain ⟨lo, hi, z, rfl, h1, h2, h3, q⟩ := h
  unfold t_want_range st0'
  walk_at "rd"
  refine ⟨_, rfl, .inl ⟨lo, rfl, ?_⟩⟩
  rw [decide_eq_true h1, decide_eq_true (by omega : lo ≤ 99)]
  walk_at "rd"
  refine ⟨_, rfl, .inl ⟨hi, rfl, ?_⟩⟩
  rw [decide_eq_true (by omega : -99 ≤ hi), decide_eq_true h3]
  walk_at "rd"
  rw [decide_eq_false (by omega : ¬ hi < lo)]
  walk_at "rd"
  exact q
def sp_want_doors (K : PySem.W.Frag) : Sp := fun vs H Q _ => ∃ (a b : Addr) (rs : List Str) (as : List Addr) (ds : List Door), vs = [.ref a, .ref b] ∧ SqL K H a (rs.map V.str) ∧ SqL K H b (as.map V.ref) ∧ Paired (DoorAt H) as ds ∧ DoorsOk rs ds ∧ ∀ H', Same H H' → Q .non H'
def t_want_doors (K : PySem.W.Frag) : TS := tSeq (tIfS (tNot (tB (tF (sp_is_row K) E0 (tCons (tVar 1) (tCons (tC (.int 0)) (tCons (tC (.int 12)) tNil)))))) tNever tNext)
  (tFor (iEnum K (tCons (tVar 1) tNil)) (gTup K 2 (gCons (gName 2) (gCons (gName 3) gNil))) (tSeq (tIfS (tOr (tNot (tB (tCB (rIsi K) (tCons (tVar 3) (tCons (tC (.ty "tuple")) tNil))))) (tTest (tOp rNe (tCB (rLenSeq K) (tCons (tVar 3) tNil)) (tC (.int 4))))) tNever tNext)
  (tSeq (tAsg (tVar 3) (gTup K 4 (gCons (gName 4) (gCons (gName 5) (gCons (gName 6) (gCons (gName 7) gNil))))))
  (tSeq (tDrop (tF (sp_want_ends K) E0 (tCons (tVar 0) (tCons (tVar 4) (tCons (tVar 5) (tCons (tCB rStrInt (tCons (tVar 2) tNil)) tNil))))))
  (tDrop (tF (sp_want_range K) E0 (tCons (tVar 6) (tCons (tVar 7) (tCons (tCB rStrInt (tCons (tVar 2) tNil)) tNil)))))))))
theorem len_want_doors (h : sp_want_doors K vs H Q E) : vs.length = 2 := by
  obtain ⟨a, b, rs, as, ds, rfl, _⟩ := h
  rfl
theorem rd_want_doors (h : sp_want_doors K vs H Q E) : t_want_doors K (En Q) (st0' 8 vs) H := by
  obtain ⟨a, b, rs, as, ds, rfl, ha, hb, hp, hD, q⟩ := h
  unfold t_want_doors st0'
  walk_at "rd"
  obtain ⟨d1, d2⟩ := id hD
  have hl : as.length = ds.length := Paired.length hp
  refine ⟨.ref b, 0, 12, rfl, .inl ⟨b, _, rfl, hb, ?_⟩⟩
  rw [List.length_map, decide_eq_true (by omega : (0 : Int) ≤ as.length), decide_eq_true (by omega : (as.length : Int) ≤ 12)]
  walk_at "rd"
  refine ⟨⟨_, hb⟩, ?_⟩
  refine f_it (walk_enum (xs := as.map V.ref)) (fun i σ H' => ∃ v2 v3 v4 v5 v6 v7, σ = [some (.ref a), some (.ref b), v2, v3, v4, v5, v6, v7] ∧ Same H H') ⟨none, none, none, none, none, none, rfl, Same.refl H⟩ (fun i σ H' _ ⟨_, _, _, _, _, _, _, s⟩ => s.seq hb) ?_ ?_
  · rintro i x σ H1 H1' N hi ⟨v2, v3, v4, v5, v6, v7, rfl, s⟩ ⟨T, x1, x2, rfl, hT, rfl, e1, e2⟩ hN
    cases Option.some.inj e1
    rw [List.length_map] at hi
    have hi2 : (as.map V.ref)[i]? = some (.ref as[i]) := get_map (List.getElem?_eq_getElem hi)
    cases Option.some.inj (hi2.symm.trans e2)
    obtain ⟨d, hd, hda⟩ := paired_get' hp (List.getElem?_eq_getElem hi)
    obtain ⟨k1, k2, k3, k4, k5, k6⟩ := d2 d (List.mem_of_getElem? hd)
    have sT : Same H (upd H1 T (.tup [.int i, .ref as[i]])) := s.trans (Same.new hT)
    have hda' : DoorAt (upd H1 T (.tup [.int i, .ref as[i]])) as[i] d := sT _ _ hda
    walk_at "rd"
    refine ⟨_, SqT.of upd_same, rfl, _, _, rfl, _, _, rfl, rfl, _, _, .ty _, .base (.tup hda'), true, kit_ty (by decide +kernel), ?_⟩
    walk_at "rd"
    refine ⟨_, .inr (SqT.of hda'), rfl, ?_⟩
    rw [show ((d.vs.length : Nat) : Int) = 4 from rfl, decide_eq_true rfl]
    walk_at "rd"
    have il : (i : Int).natAbs.log2 < 1920 := by
      have : i < 2 ^ 11 := by omega
      by_cases z : i = 0
      · subst z
        decide
      · rw [Int.natAbs_natCast]
        exact Nat.lt_trans ((Nat.log2_lt z).mpr this) (by decide)
    refine ⟨_, SqT.of hda', rfl, _, _, rfl, _, _, rfl, _, _, rfl, _, _, rfl, rfl, il, ?_⟩
    refine ⟨a, rs, _, _, _, rfl, sT.seq ha, k1, k2, k3, il, ?_⟩
    refine ⟨_, _, _, rfl, k4, k5, k6, hN _ _ ⟨_, _, _, _, _, _, rfl, sT⟩⟩
  · rintro σ H' ⟨_, _, _, _, _, _, rfl, s⟩
    exact q H' s
def sp_PlanI (K : PySem.W.Frag) : Sp := fun vs H Q _ => ∃ (F : Hp) (p dx a b : Addr) (pl : Pl) (as : List Addr), vs = [.ref p, .ref a, .ref b] ∧ Same F H ∧ F p = none ∧ H p = some (.ins (He.ga K "Plan") dx []) ∧ SqL K H a (pl.rs.map V.str) ∧ SqL K H b (as.map V.ref) ∧ Paired (DoorAt F) as pl.ds ∧ PlanOk pl ∧
  PlC K ∧
  ∀ (nt gt : Addr) (F' H' : Hp), Go (M1 p) F H F' H' → F' p = none → H' p = some (.ins (He.ga K "Plan") dx (planFs nt gt)) → F' nt = some (.tup (pl.rs.map V.str)) → F' gt = some (.tup (as.map V.ref)) → Q .non H'
def t_PlanI (K : PySem.W.Frag) : TS := tSeq (tDrop (tF (sp_want_rooms K) E0 (tCons (tVar 1) tNil)))
  (tSeq (tDrop (tF (sp_want_doors K) E0 (tCons (tVar 1) (tCons (tVar 2) tNil))))
  (tSeq (sFld K (tVar 0) (tCB (rTupL K) (tCons (tVar 1) tNil)) "named")
  (sFld K (tVar 0) (tCB (rTupL K) (tCons (tVar 2) tNil)) "gates")))
theorem len_PlanI (h : sp_PlanI K vs H Q E) : vs.length = 3 := by
  obtain ⟨F, p, dx, a, b, pl, as, rfl, _⟩ := h
  rfl
theorem rd_PlanI (h : sp_PlanI K vs H Q E) : t_PlanI K (En Q) (st0' 3 vs) H := by
  obtain ⟨F, p, dx, a, b, pl, as, rfl, hS, hF, hp, ha, hb, hpd, hok, C, q⟩ := h
  unfold t_PlanI st0'
  walk_at "rd"
  refine ⟨a, _, rfl, ha, hok.1, fun H1 s1 => ?_⟩
  have hpd1 : Paired (DoorAt H1) as pl.ds := paired_door (hS.trans s1) hpd
  refine ⟨a, b, _, as, _, rfl, s1.seq ha, s1.seq hb, hpd1, hok.2, fun H2 s2 => ?_⟩
  have s12 := s1.trans s2
  refine ⟨_, s12.seq ha, fun nt hnt => ?_⟩
  have g0 : Go (M1 p) F H F H2 := ⟨fun _ _ h => h, hS.trans s12, fun _ _ _ h => s12 _ _ h, fun _ h _ => h, fun b h z => by
    cases e : H b with
    | none => exact h e
    | some o =>
      rw [s12 _ _ e] at z
      cases z⟩
  have hp2 := s12 _ _ hp
  have npn : p ≠ nt := ne_of_none hp2 hnt
  have g1 := g0.new (o := .tup (pl.rs.map V.str)) hnt
  have fp1 : (upd F nt (.tup (pl.rs.map V.str))) p = none := by
    rw [upd_ne npn]
    exact hF
  have hp3 : (upd H2 nt (.tup (pl.rs.map V.str))) p = some (.ins (He.ga K "Plan") dx []) := by
    rw [upd_ne npn]
    exact hp2
  refine ⟨_, _, _, hp3, C.cl, C.n1, (by show 0 < 1000; decide), as.map V.ref, ?_, fun gt hgt => ?_⟩
  · rcases hb with (hb | ⟨o, hb⟩) | hb
    · have e := s12 _ _ hb
      exact .inl (.inl (by rw [upd_ne (ne_of e hp2 (by intro z; cases z)), upd_ne (ne_of_none e hnt)]; exact e))
    · have e := s12 _ _ hb
      exact .inl (.inr ⟨o, by rw [upd_ne (ne_of e hp2 (by intro z; cases z)), upd_ne (ne_of_none e hnt)]; exact e⟩)
    · exact .inr hb
  · have g2 := g1.mut (o := .ins (He.ga K "Plan") dx (putF "named" (.ref nt) [])) rfl fp1
    have npg : p ≠ gt := fun e => by
      rw [← e, upd_same] at hgt
      cases hgt
    have g3 := g2.new (o := .tup (as.map V.ref)) hgt
    have fp2 : (upd (upd F nt (.tup (pl.rs.map V.str))) gt (.tup (as.map V.ref))) p = none := by
      rw [upd_ne npg]
      exact fp1
    have ngn : nt ≠ gt := fun e => by
      rw [← e, upd_ne npn.symm, upd_same] at hgt
      cases hgt
    refine ⟨_, _, _, by rw [upd_ne npg, upd_same], C.cl, C.n2, (by show 1 < 1000; decide), ?_⟩
    refine q nt gt _ _ (g3.mut rfl fp2) fp2 ?_ ?_ upd_same
    · rw [upd_same]
      rfl
    · rw [upd_ne ngn, upd_same]
def sp_PlanRooms (K : PySem.W.Frag) : Sp := fun vs H Q _ => ∃ (p : Addr) (pl : Pl), vs = [.ref p] ∧ PlC K ∧ PlanAt K H p pl ∧ ∀ L, H L = none → Q (.ref L) (upd H L (.lst (pl.rs.map V.str)))
def t_PlanRooms (K : PySem.W.Frag) : TS := tRet (tCB (rListOf K) (tCons (tFld K (tVar 0) "named") tNil))
theorem len_PlanRooms (h : sp_PlanRooms K vs H Q E) : vs.length = 1 := by
  obtain ⟨p, pl, rfl, _⟩ := h
  rfl
theorem rd_PlanRooms (h : sp_PlanRooms K vs H Q E) : t_PlanRooms K (En Q) (st0' 1 vs) H := by
  obtain ⟨p, pl, rfl, C, ⟨dx, nt, gt, as, h1, h2, h3, h4⟩, q⟩ := h
  unfold t_PlanRooms st0'
  walk_at "rd"
  exact ⟨_, _, _, h1, C.cl, C.n1, _, rfl, nt, rfl, _, .inr (SqT.of h2), q⟩
def sp_PlanDoors (K : PySem.W.Frag) : Sp := fun vs H Q _ => ∃ (F : Hp) (p : Addr) (pl : Pl), vs = [.ref p] ∧ PlC K ∧ Same F H ∧ PlanAt K F p pl ∧ ∀ (L : Addr) (as : List Addr), H L = none → Paired (DoorAt F) as pl.ds → Q (.ref L) (upd H L (.lst (as.map V.ref)))
def t_PlanDoors (K : PySem.W.Frag) : TS := tRet (tCB (rListOf K) (tCons (tFld K (tVar 0) "gates") tNil))
theorem len_PlanDoors (h : sp_PlanDoors K vs H Q E) : vs.length = 1 := by
  obtain ⟨F, p, pl, rfl, _⟩ := h
  rfl
theorem rd_PlanDoors (h : sp_PlanDoors K vs H Q E) : t_PlanDoors K (En Q) (st0' 1 vs) H := by
  obtain ⟨F, p, pl, rfl, C, s, ⟨dx, nt, gt, as, h1, h2, h3, h4⟩, q⟩ := h
  unfold t_PlanDoors st0'
  walk_at "rd"
  exact ⟨_, _, _, s _ _ h1, C.cl, C.n2, _, rfl, gt, rfl, _, .inr (SqT.of (s _ _ h3)), fun L hL => q L as hL h4⟩
def sp_PlanLen (K : PySem.W.Frag) : Sp := fun vs H Q _ => ∃ (p : Addr) (pl : Pl), vs = [.ref p] ∧ PlC K ∧ PlanAt K H p pl ∧ Q (.int pl.ds.length) H
def t_PlanLen (K : PySem.W.Frag) : TS := tRet (tCB (rLenSeq K) (tCons (tFld K (tVar 0) "gates") tNil))
theorem len_PlanLen (h : sp_PlanLen K vs H Q E) : vs.length = 1 := by
  obtain ⟨p, pl, rfl, _⟩ := h
  rfl
theorem rd_PlanLen (h : sp_PlanLen K vs H Q E) : t_PlanLen K (En Q) (st0' 1 vs) H := by
  obtain ⟨p, pl, rfl, C, ⟨dx, nt, gt, as, h1, h2, h3, h4⟩, q⟩ := h
  unfold t_PlanLen st0'
  walk_at "rd"
  refine ⟨_, _, _, h1, C.cl, C.n2, _, rfl, gt, rfl, _, .inr (SqT.of h3), ?_⟩
  rw [List.length_map, Paired.length h4]
  exact q
/-- Plan(a, b): what a maker wants -/
theorem mk_plan {R : Addr → Hp → Prop} {F H : Hp} {a b : Addr} {pl : Pl} {as : List Addr} {M : Addr → Prop} (C : PlC K) (hS : Same F H) (ha : SqL K H a (pl.rs.map V.str)) (hb : SqL K H b (as.map V.ref)) (hpd : Paired (DoorAt F) as pl.ds) (ok : PlanOk pl)
    (k : ∀ x F' H', Go M F H F' H' → PlanAt K F' x pl → H x = none → R x H') :
    ∀ x dx, H x = none → H dx = none → dx ≠ x → sp_PlanI K [.ref x, .ref a, .ref b] (upd (upd H dx (.own x)) x (.ins (He.ga K "Plan") dx [])) (fun v H2 => v = .non ∧ R x H2) E := by
  intro x dx hx hdx hne
  have h1 : (upd H dx (.own x)) x = none := by
    rw [upd_ne hne.symm]
    exact hx
  have g0 := ((Go.refl (M := M1 x) hS).tmp (o := .own x) hdx).tmp (o := .ins (He.ga K "Plan") dx []) h1
  have s0 : Same H (upd (upd H dx (.own x)) x (.ins (He.ga K "Plan") dx [])) := (Same.new hdx).trans (Same.new h1)
  have fx : F x = none := Same.free hS hx
  refine ⟨F, x, dx, a, b, pl, as, rfl, g0.fh, fx, upd_same, s0.seq ha, s0.seq hb, hpd, ok, C, fun nt gt F' H' g f e e1 e2 => ⟨rfl, ?_⟩⟩
  have g1 := g0.trans g
  have g2 : Go M F H F' H' := ⟨g1.ff, g1.fh, fun c o _ z => g1.hh c o (fun m => ne_of_none z hx m) z, g1.oo, g1.th⟩
  have sF : Same F' (upd F' x (.ins (He.ga K "Plan") dx (planFs nt gt))) := Same.new f
  refine k x _ H' (g2.fin hx f e) ⟨dx, nt, gt, as, upd_same, sF _ _ e1, sF _ _ e2, paired_door (fun c o z => sF _ _ (g1.ff c o z)) hpd⟩ hx
theorem PlanAt.ins {p : Addr} {pl : Pl} (h : PlanAt K H p pl) : ∃ dx nt gt, H p = some (.ins (He.ga K "Plan") dx (planFs nt gt)) := by
  obtain ⟨dx, nt, gt, as, h1, _⟩ := h
  exact ⟨dx, nt, gt, h1⟩
theorem planNo {m : Str} (nt gt : Addr) (h1 : (m == ("named" : Str)) = false) (h2 : (m == ("gates" : Str)) = false) : (planFs nt gt).lookup m = none := by
  unfold planFs
  rw [List.lookup_cons, h1, List.lookup_cons, h2]
  rfl
theorem m_rooms {p : Addr} {pl : Pl} (C : PlC K) (hp : PlanAt K H p pl) (k : ∀ L, H L = none → Q (.ref L) (upd H L (.lst (pl.rs.map V.str)))) :
    ∃ x x_1, H p = some (.ins (He.ga K "Plan") x x_1) ∧ x_1.lookup ("rooms" : Str) = none ∧ sp_PlanRooms K [.ref p] H Q E := by
  obtain ⟨dx, nt, gt, e⟩ := hp.ins
  exact ⟨_, _, e, planNo nt gt (by decide +kernel) (by decide +kernel), p, pl, rfl, C, hp, k⟩
theorem m_doors {p : Addr} {pl : Pl} (C : PlC K) (hp : PlanAt K H p pl) (k : ∀ (L : Addr) (as : List Addr), H L = none → Paired (DoorAt H) as pl.ds → Q (.ref L) (upd H L (.lst (as.map V.ref)))) :
    ∃ x x_1, H p = some (.ins (He.ga K "Plan") x x_1) ∧ x_1.lookup ("doors" : Str) = none ∧ sp_PlanDoors K [.ref p] H Q E := by
  obtain ⟨dx, nt, gt, e⟩ := hp.ins
  exact ⟨_, _, e, planNo nt gt (by decide +kernel) (by decide +kernel), H, p, pl, rfl, C, Same.refl H, hp, k⟩
theorem m_doorsF {F : Hp} {p : Addr} {pl : Pl} (C : PlC K) (hp : PlanAt K F p pl) (s : Same F H) (k : ∀ (L : Addr) (as : List Addr), H L = none → Paired (DoorAt F) as pl.ds → Q (.ref L) (upd H L (.lst (as.map V.ref)))) :
    ∃ x x_1, H p = some (.ins (He.ga K "Plan") x x_1) ∧ x_1.lookup ("doors" : Str) = none ∧ sp_PlanDoors K [.ref p] H Q E := by
  obtain ⟨dx, nt, gt, e⟩ := (hp.go s).ins
  exact ⟨_, _, e, planNo nt gt (by decide +kernel) (by decide +kernel), F, p, pl, rfl, C, s, hp, k⟩
theorem m_len {p : Addr} {pl : Pl} (C : PlC K) (hp : PlanAt K H p pl) (k : Q (.int pl.ds.length) H) :
    (∃ x x_1, H p = some (.ins (He.ga K "Plan") x x_1)) ∧ sp_PlanLen K [.ref p] H Q E := by
  obtain ⟨dx, nt, gt, e⟩ := hp.ins
  exact ⟨⟨_, _, e⟩, p, pl, rfl, C, hp, k⟩
end
end Dc

namespace Dc
open PySem PySem.Spec PyProof.Rows L2
section
variable {K : PySem.W.Frag} {H : Hp} {Q : VK} {E : XK} {vs : List V}
/-- a row of places as rooms -/
def roomsAt (rs : List Str) (row : List Int) : List Str := row.filterMap fun i => rs[i.toNat]?
def allSets (rs : List Str) : List (List Str) := (setsIx rs.length).map (roomsAt rs)
theorem growTo_succ (row : List Int) (j : Nat) : growTo (j + 1) row = growTo j row ++ if row = [] ∨ row.getLast?.getD 0 < (j : Int) then [row ++ [(j : Int)]] else [] := by
  unfold growTo
  rw [List.range_succ, List.filterMap_append, List.filterMap_cons]
  by_cases c : row = [] ∨ row.getLast?.getD 0 < (j : Int)
  · rw [if_pos c, if_pos c]
    rfl
  · rw [if_neg c, if_neg c]
    rfl
theorem sets_len {n m : Nat} (h : n ≤ 8) (hm : m ≤ 8) : (setsTo n m).length ≤ 256 := by
  have key : ∀ n, n < 9 → ∀ m, m < 9 → (setsTo n m).length ≤ 256 := by
    decide +kernel
  exact key n (by omega) m (by omega)
def sp_all_sets (K : PySem.W.Frag) : Sp := fun vs H Q _ => ∃ (p : Addr) (pl : Pl), vs = [.ref p] ∧ PlC K ∧ PlanAt K H p pl ∧ PlanOk pl ∧
  ∀ (L : Addr) (bs : List Addr) (H' : Hp), Same H H' → H L = none → (∀ b ∈ bs, H b = none) → H' L = some (.lst (bs.map V.ref)) → Paired (StrsL H') bs (allSets pl.rs) → Q (.ref L) H'
def t_all_sets (K : PySem.W.Frag) : TS := tSeq (tAsg (tM (He.ga K "Plan") "rooms" (sp_PlanRooms K) E0 (tVar 0) tNil) (gName 1))
  (tSeq (tAsg (tLst (tCons (tLst tNil) tNil)) (gName 2))
  (tSeq (tAsg (tLst (tCons (tTup tNil) tNil)) (gName 3))
  (tSeq (tFor (iRng1 (tCons (tCB (rLenSeq K) (tCons (tVar 1) tNil)) tNil)) (gName 4) (tSeq (tAsg (tLc2 (iList K (tVar 3)) (gName 5) tYes (iRng1 (tCons (tCB (rLenSeq K) (tCons (tVar 1) tNil)) tNil)) (gName 6) (tOr (tTest (tOp (rEqD K) (tVar 5) (tTup tNil))) (tTest (tOp (rI0 fun i j => .bl (decide (j < i))) (tVar 6) (tOp (rIxT K) (tVar 5) (tUn (rU fun i => .int (-i)) (tC (.int 1))))))) (tOp (rCatA K) (tVar 5) (tTup (tCons (tVar 6) tNil))) [5, 6] [6]) (gName 3))
  (tDrop (tBM K "list" rExtend (tVar 2) (tCons (tLc (iList K (tVar 3)) (gName 5) tYes (tLc (iTup K (tVar 5)) (gName 6) tYes (tOp (rIxL K) (tVar 1) (tVar 6)) [6]) [5]) tNil)))))
  (tRet (tVar 2)))))
theorem len_all_sets (h : sp_all_sets K vs H Q E) : vs.length = 1 := by
  obtain ⟨p, pl, rfl, _⟩ := h
  rfl
theorem rd_all_sets (h : sp_all_sets K vs H Q E) : t_all_sets K (En Q) (st0' 7 vs) H := by
  obtain ⟨p, pl, rfl, C, hp, ok, q⟩ := h
  unfold t_all_sets st0'
  walk_at "rd"
  refine m_rooms C hp (fun A hA => ?_)
  have r8 : pl.rs.length ≤ 8 := ok.1.2.1
  obtain ⟨F1, g1, _, eA1⟩ := (Go.refl (M := M0) (Same.refl H)).keep (o := .lst (pl.rs.map V.str)) hA
  refine ⟨by decide, fun b0 h0 => ⟨by decide, fun fnd hf => ⟨by decide, fun t0 ht0 => ⟨by decide, fun lv0 hlv => ?_⟩⟩⟩⟩
  obtain ⟨F2, g2, s2, eb0⟩ := g1.keep (o := .lst []) h0
  have n2 : H b0 = none := g1.free h0
  have nf : H fnd = none := g2.free hf
  have fF : F2 fnd = none := Same.free g2.fh hf
  have eA2 := s2 _ _ eA1
  have sH : Same H F2 := g2.ff
  have b3 : Same F2 (upd (upd (upd H A (.lst (pl.rs.map V.str))) b0 (.lst [])) fnd (.lst [.ref b0])) := g2.fh.trans (Same.new hf)
  have ef : (upd (upd (upd H A (.lst (pl.rs.map V.str))) b0 (.lst [])) fnd (.lst [.ref b0])) fnd = some (.lst [.ref b0]) := upd_same
  generalize upd (upd (upd H A (.lst (pl.rs.map V.str))) b0 (.lst [])) fnd (.lst [.ref b0]) = H3 at *
  have fH : H3 fnd ≠ none := by rw [ef]; exact Option.some_ne_none _
  obtain ⟨F4, g4, s4, et0⟩ := (Go.refl (M := M1 fnd) b3).keep (o := .tup []) ht0
  obtain ⟨F5, g5, s5, elv⟩ := g4.keep (o := .lst [.ref t0]) hlv
  have e5 := (Same.new (o := .lst [.ref t0]) hlv) _ _ ((Same.new (o := .tup []) ht0) _ _ ef)
  generalize upd (upd H3 t0 (.tup [])) lv0 (.lst [.ref t0]) = H5 at *
  have eA5 := s5 _ _ (s4 _ _ eA2)
  refine ⟨A, rfl, _, .inl (SqL.of (g5.fh _ _ eA5)), by rw [List.length_map]; omega, by rw [List.length_map]; omega, ?_⟩
  rw [List.length_map, Int.toNat_natCast]
  refine f_it walk_range (fun i σ H' => ∃ F' Lv lvs bs v4, σ = [some (.ref p), some (.ref A), some (.ref fnd), some (.ref Lv), v4, none, none] ∧ Go (M1 fnd) F2 H3 F' H' ∧ Same F5 F' ∧ H' fnd = some (.lst (bs.map V.ref)) ∧
      F' Lv = some (.lst (lvs.map V.ref)) ∧ Paired (IntsT F') lvs (levelL pl.rs.length i) ∧ Paired (StrsL F') bs ((setsTo pl.rs.length i).map (roomsAt pl.rs)) ∧ ∀ b ∈ bs, H b = none)
    ⟨F5, lv0, [t0], [b0], none, rfl, g5, Same.refl _, e5, elv, .cons (s5 _ _ et0) .nil, .cons (s5 _ _ (s4 _ _ eb0)) .nil, fun b hb => by rw [List.mem_singleton.mp hb]; exact n2⟩ (fun _ _ _ _ _ => trivial) ?_ ?_
  · rintro i x σ H6 H6' N hi ⟨F6, Lv, lvs, bs, v4, rfl, g6, s56, e6, eLv, pL, pB, hb⟩ ⟨rfl, rfl⟩ hN
    have eA6 := s56 _ _ eA5
    obtain ⟨k1, k2⟩ := level_ok r8 (by omega : i ≤ 8)
    have hlv := Paired.length pL
    walk_at "rd"
    refine ⟨⟨_, SqL.of (g6.fh _ _ eLv)⟩, ?_⟩
    refine l2_go (walk_list (xs := lvs.map V.ref)) g6.fh M0 (fun _ => True) trivial (fun _ h => h.elim) (fun _ _ _ _ _ => trivial)
      (fun u j F acc => Same F6 F ∧ u ≤ 70 ∧ j ≤ 8 ∧ acc.length ≤ 9 * u + j ∧ ∃ ts : List Addr, acc = ts.map V.ref ∧ Paired (IntsT F) ts (((levelL pl.rs.length i).take u).flatMap (growTo pl.rs.length) ++ growTo j ((levelL pl.rs.length i)[u]?.getD [])))
      ⟨Same.refl _, by omega, by omega, Nat.le_refl _, [], rfl, .nil⟩ (fun H' s => SqL.of (s _ _ eLv)) (fun u j F acc h => by omega) ?_ ?_
    · rintro u x F7 H7 H7' acc In N' hu g7 _ ⟨s67, hu70, _, hal, ts, rfl, pT⟩ ⟨rfl, ex⟩ hIn _
      rw [List.length_map] at hu
      have ex' : (lvs.map V.ref)[u]? = some (.ref lvs[u]) := get_map (List.getElem?_eq_getElem hu)
      cases Option.some.inj (ex'.symm.trans ex)
      obtain ⟨row, hrow, hR⟩ := paired_get' pL (List.getElem?_eq_getElem hu)
      have hR7 := s67 _ _ hR
      obtain ⟨hrl, hri⟩ := k2 row (List.mem_of_getElem? hrow)
      walk_at "rd"
      refine ⟨_, .inl (SqL.of (g7.fh _ _ (s67 _ _ eA6))), by rw [List.length_map]; omega, by rw [List.length_map]; omega, ?_⟩
      rw [List.length_map, Int.toNat_natCast]
      refine hIn _ 0 _ F7 _ (Go.refl g7.fh) trivial ⟨s67, hu70, by omega, hal, ts, rfl, pT⟩ ?_ ?_
      · rintro j F8 H8 acc N N' hj g8 s78 _ ⟨s68, _, hj8, hal, ts, rfl, pT⟩ hN hN'
        have hR8 := s78 _ _ hR7
        walk_at "rd"
        rw [hrow, Option.getD_some] at pT hN hN'
        refine ⟨by decide, fun c hc => ?_⟩
        have g9 := (Go.refl (M := M0) g8.fh).tmp (o := .tup []) hc
        have ec : (upd H8 c (.tup [])) c = some (.tup []) := upd_same
        generalize upd H8 c (.tup []) = H9 at *
        have small : ∀ n ∈ row, -999999999999 ≤ n ∧ n ≤ 999999999999 := fun n hn => by
          have := hri n hn
          omega
        refine ⟨_, dp_tup (SqT.of (g9.fh _ _ hR8)), _, dp_tup (ns := []) (SqT.of ec), (shw_tup small).shaped (by decide), (shw_tup (ns := []) fun _ h => absurd h List.not_mem_nil).shaped (by decide), ?_⟩
        rw [eqv_tups]
        have hlen : (ts.map V.ref).length ≤ 9 * u + j := hal
        have yes : (row = [] ∨ row.getLast?.getD 0 < (j : Int)) → 1 ≤ sizeLine ∧ ∀ p, H9 p = none → rCatA K (.ref lvs[u]) (.ref p) (upd H9 p (.tup [.int (0 + (j : Int))])) N := fun c => by
          rw [Int.zero_add]
          refine cat_one g9 hR8 (by omega) (fun t F' H' g' s' e' => hN _ F' H' g' trivial ⟨s68.trans s', hu70, by omega, by rw [List.length_append, List.length_singleton]; omega, ts ++ [t], by rw [List.map_append]; rfl, ?_⟩)
          rw [growTo_succ, if_pos c, ← List.append_assoc]
          exact paired_snoc e' (paired_intsT s' pT)
        refine ite2 (fun e => yes (.inl (of_decide_eq_true e))) (fun e => ?_)
        have hne : row ≠ [] := fun z => e (decide_eq_true z)
        refine ⟨_, SqT.of (g9.fh _ _ hR8), _, atI_end hne, _, rfl, ?_⟩
        rw [Int.zero_add] at yes ⊢
        refine ite2 (fun e => yes (.inr (of_decide_eq_true e))) (fun e2 => hN' _ _ g9 trivial ⟨s68, hu70, by omega, by omega, ts, rfl, ?_⟩)
        rw [growTo_succ, if_neg (fun c => c.elim hne (fun z => e2 (decide_eq_true z))), List.append_nil]
        exact pT
      · rintro F8 acc ⟨s68, _, _, hal, ts, rfl, pT⟩
        refine ⟨s68, by omega, by omega, by omega, ts, rfl, ?_⟩
        rw [hrow, Option.getD_some] at pT
        rw [List.take_succ, hrow, List.flatMap_append]
        rw [show growTo 0 _ = [] from rfl, List.append_nil]
        simpa using pT
    · rintro Lv2 F7 H7 acc g7 _ hL2 fL2 eL2 ⟨s67, _, _, _, ts, rfl, pT⟩
      rw [List.length_map, hlv, List.take_length, show growTo 0 _ = [] from rfl, List.append_nil] at pT
      have pT : Paired (IntsT F7) ts (levelL pl.rs.length (i + 1)) := pT
      obtain ⟨k3, k4⟩ := level_ok r8 (by omega : i + 1 ≤ 8)
      have f6 : F6 fnd = none := g6.oo _ fF fH
      have e7 := g7.hh _ _ m0 e6
      have nL2 : fnd ≠ Lv2 := ne_of_none e6 hL2
      have g7' : Go M0 F6 H6' (upd F7 Lv2 (.lst (ts.map V.ref))) H7 := g7.fin hL2 fL2 eL2
      have s78 : Same F7 (upd F7 Lv2 (.lst (ts.map V.ref))) := Same.new fL2
      have eLv2 : (upd F7 Lv2 (.lst (ts.map V.ref))) Lv2 = some (.lst (ts.map V.ref)) := upd_same
      generalize upd F7 Lv2 (.lst (ts.map V.ref)) = F8 at *
      have pT8 := paired_intsT s78 pT
      have s68 := g7'.ff
      have hlt := Paired.length pT
      have eA8 := s68 _ _ eA6
      refine ⟨.inl ⟨rfl, _, SqL.of e7⟩, Lv2, rfl, ⟨_, SqL.of (g7'.fh _ _ eLv2)⟩, ?_⟩
      refine l_go (walk_list (xs := ts.map V.ref)) g7'.fh M0 (fun _ => True) trivial (fun _ h => h.elim) (fun _ _ _ _ _ => trivial)
        (fun u F acc => Same F8 F ∧ ∃ cs : List Addr, acc = cs.map V.ref ∧ Paired (StrsL F) cs (((levelL pl.rs.length (i + 1)).take u).map (roomsAt pl.rs)) ∧ ∀ c ∈ cs, H7 c = none)
        ⟨Same.refl _, [], rfl, .nil, fun c h => absurd h List.not_mem_nil⟩ (fun H' s => SqL.of (s _ _ eLv2)) (by rw [List.length_map]; omega) ?_ ?_
      · rintro u x F9 H9 H9' acc N1 N1' hu g9 _ ⟨s89, cs, rfl, pC, hc⟩ ⟨rfl, ex⟩ hN1 _
        rw [List.length_map] at hu
        have ex' : (ts.map V.ref)[u]? = some (.ref ts[u]) := get_map (List.getElem?_eq_getElem hu)
        cases Option.some.inj (ex'.symm.trans ex)
        obtain ⟨row, hrow, hR⟩ := paired_get' pT8 (List.getElem?_eq_getElem hu)
        obtain ⟨hrl, hri⟩ := k4 row (List.mem_of_getElem? hrow)
        have hR9 := g9.fh _ _ (s89 _ _ hR)
        walk_at "rd"
        refine ⟨⟨_, SqT.of hR9⟩, ?_⟩
        refine l_mapT V.int row (SqT.of hR9) (fun k => (pl.rs[k.toNat]?).map V.str) (by omega) ?_ ?_
        · intro z H10 M1' M2' hz s hM hM'
          have zi := hri z hz
          have hlt : z.toNat < pl.rs.length := by omega
          walk_at "rd"
          exact ⟨_, SqL.of (s _ _ (g9.fh _ _ (s89 _ _ eA8))), _, at_I zi.1 (get_map (List.getElem?_eq_getElem hlt)), hM _ _ (by rw [List.getElem?_eq_getElem hlt]; rfl) (Same.refl _)⟩
        · intro c H10 hc0 s10 e10
          rw [fm_map] at e10
          obtain ⟨F10, g10, s910, ec⟩ := (Go.refl (M := M0) g9.fh).hold s10 hc0 e10
          refine hN1 _ F10 H10 g10 trivial ⟨s89.trans s910, cs ++ [c], by rw [List.map_append]; rfl, ?_, fun d hd => ?_⟩
          · rw [List.take_succ, hrow, List.map_append]
            exact paired_snoc (show StrsL F10 c (roomsAt pl.rs row) from ec) (paired_strsL s910 pC)
          · rcases List.mem_append.mp hd with hd | hd
            · exact hc d hd
            · rw [List.mem_singleton.mp hd]
              exact g9.free hc0
      · rintro L3 F9 H9 acc g9 _ hL3 fL3 eL3 ⟨s89, cs, rfl, pC, hc⟩
        rw [List.length_map, hlt, List.take_length] at pC
        have e9 := g9.hh _ _ m0 e7
        have nl : bs.length ≤ 256 := by
          rw [Paired.length pB, List.length_map]
          exact sets_len r8 (by omega)
        refine ⟨L3, rfl, _, e9, _, eL3, ?_, ?_⟩
        · rw [List.length_map, List.length_map, Paired.length pC, List.length_map]
          exact Nat.le_trans (Nat.add_le_add nl k3) (by decide)
        have g69 : Go (M1 fnd) F2 H3 F9 H9 := g6.trans ((g7'.trans g9).wide fun _ h => h.elim)
        have fF9 : F9 fnd = none := g69.oo _ fF fH
        have s69 := s68.trans s89
        refine hN _ _ ⟨F9, Lv2, ts, bs ++ cs, _, rfl, g69.mut rfl fF9, s56.trans s69, by rw [upd_same, List.map_append], s89 _ _ eLv2, paired_intsT s89 pT8, ?_, fun b hb' => ?_⟩
        · rw [setsTo_succ, List.map_append]
          exact paired_app (paired_strsL s69 pB) pC
        · rcases List.mem_append.mp hb' with h | h
          · exact hb b h
          · exact Same.free (sH.trans (g6.ff.trans g7'.ff)) (Same.free g7'.fh (hc b h))
  · rintro σ H6 ⟨F6, Lv, lvs, bs, v4, rfl, g6, s56, e6, eLv, pL, pB, hb⟩
    walk_at "rd"
    exact q fnd bs H6 (fun b o e => g6.fh _ _ (g6.ff _ _ (sH _ _ e))) nf hb e6 (paired_strsL g6.fh pB)
end
end Dc

namespace Dc
open PySem PySem.Spec PyProof.Rows L2
section
variable {K : PySem.W.Frag} {H : Hp} {Q : VK} {E : XK} {vs : List V}
theorem zip_paired {R : Addr → List Int → Prop} : ∀ {as : List Addr} {l : List (List Int)}, Paired R as l → ∃ rows : List (Addr × List Int), rows.map (·.1) = as ∧ rows.map (·.2) = l
  | _, _, .nil => ⟨[], rfl, rfl⟩
  | a :: _, x :: _, .cons _ t => by
    obtain ⟨rows, e1, e2⟩ := zip_paired t
    exact ⟨(a, x) :: rows, by rw [List.map_cons, e1], by rw [List.map_cons, e2]⟩
theorem paired_zip {R : Addr → List Int → Prop} : ∀ {rows : List (Addr × List Int)} {as : List Addr} {l : List (List Int)}, rows.map (·.1) = as → rows.map (·.2) = l → Paired R as l → ∀ r ∈ rows, R r.1 r.2
  | [], _, _, _, _, _, r, h => absurd h List.not_mem_nil
  | q :: rows, _, _, e1, e2, p, r, h => by
    rw [List.map_cons] at e1 e2
    subst e1
    subst e2
    cases p with
    | cons p1 p2 =>
      rcases List.mem_cons.mp h with rfl | h
      · exact p1
      · exact paired_zip rfl rfl p2 r h
theorem set_bound {n : Nat} (h : n ≤ 8) : ∀ row ∈ setsIx n, ∀ i ∈ row, 0 ≤ i ∧ i < (n : Int) := by
  have key : ∀ n, n < 9 → ∀ row ∈ setsIx n, ∀ i ∈ row, 0 ≤ i ∧ i < (n : Int) := by
    decide +kernel
  exact key n (by omega)
theorem set_len8 {n : Nat} (h : n ≤ 8) : ∀ row ∈ setsIx n, row.length ≤ 8 := by
  have key : ∀ n, n < 9 → ∀ row ∈ setsIx n, row.length ≤ 8 := by
    decide +kernel
  exact key n (by omega)
theorem cut_tail (x : V) (xs : List V) : cutV (x :: xs) (some 1) none = xs := by
  unfold cutV
  rw [HT.sIx_none, show HT.sIx (x :: xs).length 0 (some 1) = min 1 (x :: xs).length from HT.sIx_nat (x :: xs).length 0 1, List.length_cons, Nat.min_eq_left (by omega)]
  show List.take (xs.length + 1 - 1) xs = xs
  rw [Nat.add_sub_cancel, List.take_length]
def sp_lall (K : PySem.W.Frag) : Sp := fun vs H Q _ => ∃ (a : Addr) (rs : List Str), vs = [.ref a] ∧ SqL K H a (rs.map V.str) ∧ rs.length ≤ 8 ∧
  ∀ (L : Addr) (bs : List Addr) (H' : Hp), Same H H' → H' L = some (.lst (bs.map V.ref)) → Paired (StrsL H') bs (allSets rs) → Q (.ref L) H'
def t_lall (K : PySem.W.Frag) : TS := tSeq (tAsg (tLst tNil) (gName 1))
  (tSeq (tFor (iRng1 (tCons (tOp (rI CPow fun i j => .int (i * 2 ^ j.toNat)) (tC (.int 1)) (tCB (rLenSeq K) (tCons (tVar 0) tNil))) tNil)) (gName 2) (tSeq (tAsg (tLc (iRng1 (tCons (tCB (rLenSeq K) (tCons (tVar 0) tNil)) tNil)) (gName 5) (tTest (tOp rEq (tOp (rI0 fun i j => .int (Builtin.bitAnd i j)) (tOp (rI (fun _ j => 0 ≤ j) fun i j => .int (i / 2 ^ j.toNat)) (tVar 2) (tVar 5)) (tC (.int 1))) (tC (.int 1)))) (tVar 5) [5]) (gName 3))
  (tDrop (tBM K "list" rAppend (tVar 1) (tCons (tOp rCat (tLst (tCons (tCB (rLenSeq K) (tCons (tVar 3) tNil)) tNil)) (tVar 3)) tNil)))))
  (tRet (tLc (iList K (tCB (rSortLL K) (tCons (tVar 1) tNil))) (gName 4) tYes (tLc (iList K (tSl (rSlL K) (tVar 4) (tPart (tC (.int 1))) tNoPart)) (gName 5) tYes (tOp (rIxL K) (tVar 0) (tVar 5)) [5]) [4])))
theorem len_lall (h : sp_lall K vs H Q E) : vs.length = 1 := by
  obtain ⟨p, pl, rfl, _⟩ := h
  rfl
theorem rd_lall (h : sp_lall K vs H Q E) : t_lall K (En Q) (st0' 6 vs) H := by
  obtain ⟨a, rs, rfl, ha, h8, q⟩ := h
  unfold t_lall st0'
  walk_at "rd"
  refine ⟨by decide, fun R hR => ⟨_, .inl ((Same.new hR).seq ha), ?_⟩⟩
  rw [List.length_map, Int.toNat_natCast, Int.one_mul]
  have p8 : (2 : Int) ^ rs.length ≤ 256 := by
    have : (2 : Nat) ^ rs.length ≤ 2 ^ 8 := Nat.pow_le_pow_right (by decide) h8
    exact_mod_cast this
  have p0 : (0 : Int) < 2 ^ rs.length := Int.pow_pos (by decide)
  refine ⟨⟨by omega, by omega, by decide⟩, by omega, by omega, ?_⟩
  have fF : H R = none := hR
  have ef : (upd H R (.lst [])) R = some (.lst []) := upd_same
  have b0 : Same H (upd H R (.lst [])) := Same.new hR
  generalize upd H R (.lst []) = H0 at *
  have fH : H0 R ≠ none := by rw [ef]; exact Option.some_ne_none _
  refine f_it walk_range (fun i σ H' => ∃ F' as v2 v3, σ = [some (.ref a), some (.ref R), v2, v3, none, none] ∧ Go (M1 R) H H0 F' H' ∧ H' R = some (.lst (as.map V.ref)) ∧ Paired (IntsL F') as ((List.range i).map fun m => ((bitsOf rs.length m).length : Int) :: bitsOf rs.length m))
    ⟨H, [], none, none, rfl, Go.refl b0, ef, .nil⟩ (fun _ _ _ _ _ => trivial) ?_ ?_
  · rintro i x σ H1 H1' N hi ⟨F1, as, v2, v3, rfl, g1, e1, pA⟩ ⟨rfl, rfl⟩ hN
    have sA : Same H H1' := fun b o e => g1.fh _ _ (g1.ff _ _ e)
    have hi8 : i < 256 := by omega
    walk_at "rd"
    refine ⟨_, .inl (sA.seq ha), by rw [List.length_map]; omega, by rw [List.length_map]; omega, ?_⟩
    rw [List.length_map, Int.toNat_natCast]
    refine l_rng0 (fun k => (if (i : Int) / 2 ^ k % 2 = 1 then some (k : Int) else none).map V.int) (by omega) ?_ ?_
    · intro k H2 M M' hk s hM hM'
      walk_at "rd"
      refine ⟨by omega, rfl, ?_⟩
      rw [Int.zero_add, Int.toNat_natCast, bitAnd_m1]
      refine ite2 (fun e => hM _ _ (by rw [if_pos (of_decide_eq_true e)]; rfl) (Same.refl _)) (fun e => hM' _ (by rw [if_neg (fun z => e (decide_eq_true z))]; rfl) (Same.refl _))
    intro P H2 hP s2 e2
    rw [fm_map] at e2
    have e2 : H2 P = some (.lst ((bitsOf rs.length i).map V.int)) := e2
    have bl : (bitsOf rs.length i).length ≤ 8 := by
      have := List.length_filterMap_le (fun (k : Nat) => if (i : Int) / 2 ^ k % 2 = 1 then some (k : Int) else none) (List.range rs.length)
      rw [List.length_range] at this
      exact Nat.le_trans this h8
    have eR2 := s2 _ _ e1
    have g2 := g1.trans (Go.of_same (M := M1 R) g1.fh s2)
    refine ⟨.inl ⟨rfl, _, SqL.of eR2⟩, P, rfl, _, .inl (SqL.of e2), by decide, fun c hc => ⟨P, rfl, ?_⟩⟩
    rw [List.length_map]
    have sc := Same.new (o := .lst [.int ((bitsOf rs.length i).length : Nat)]) hc
    have g3 := g2.tmp (o := .lst [.int ((bitsOf rs.length i).length : Nat)]) hc
    refine ⟨_, upd_same, _, sc _ _ e2, by rw [List.length_map]; exact Nat.le_trans (Nat.add_le_add_left bl 1) (by decide), fun d hd => ?_⟩
    have eR3 := sc _ _ eR2
    generalize upd H2 c (.lst [.int ((bitsOf rs.length i).length : Nat)]) = H3 at *
    obtain ⟨F4, g4, s4, ed⟩ := g3.keep (o := .lst ([.int ((bitsOf rs.length i).length : Nat)] ++ (bitsOf rs.length i).map V.int)) hd
    have eR4 := (Same.new (o := .lst ([.int ((bitsOf rs.length i).length : Nat)] ++ (bitsOf rs.length i).map V.int)) hd) _ _ eR3
    have al : as.length = i := by
      rw [Paired.length pA, List.length_map, List.length_range]
    refine ⟨_, eR4, by rw [List.length_map, al]; exact Nat.lt_trans hi8 (by decide), hN _ _ ⟨F4, as ++ [d], _, _, rfl, g4.mut rfl (g4.oo _ fF fH), by rw [upd_same, List.map_append]; rfl, ?_⟩⟩
    rw [List.range_succ, List.map_append]
    exact paired_snoc (show IntsL F4 d (((bitsOf rs.length i).length : Int) :: bitsOf rs.length i) from ed) (paired_intsL s4 pA)
  · rintro σ H1 ⟨F1, as, v2, v3, rfl, g1, e1, pA⟩
    have pA : Paired (IntsL F1) as (rowsL rs.length) := by
      have e : ((2 : Int) ^ rs.length).toNat = 2 ^ rs.length := by
        have : ((2 : Int) ^ rs.length) = ((2 ^ rs.length : Nat) : Int) := by push_cast; rfl
        rw [this, Int.toNat_natCast]
      rw [e] at pA
      exact pA
    walk_at "rd"
    obtain ⟨rows, er1, er2⟩ : ∃ rows : List (Addr × List Int), rows.map (·.1) = as ∧ rows.map (·.2) = rowsL rs.length := zip_paired pA
    have eas : as.map V.ref = rows.map fun r => V.ref r.1 := by
      rw [← er1, List.map_map]
      rfl
    have hrow : ∀ r ∈ rows, IntsL F1 r.1 r.2 := paired_zip er1 er2 pA
    rw [eas] at e1
    refine ⟨rows, SqL.of e1, fun r hr => SqL.of (g1.fh _ _ (hrow r hr)), fun S hS => ?_⟩
    have so := sort_rows rows
    rw [er2, rows_sorted h8] at so
    have hsr : ∀ r ∈ rows.mergeSort (W.dataLe false fun r => intsD r.2), IntsL F1 r.1 r.2 := fun r hr => hrow r ((List.mergeSort_perm _ _).mem_iff.mp hr)
    generalize rows.mergeSort (W.dataLe false fun r => intsD r.2) = out at *
    obtain ⟨F2, g2, s2, eS⟩ := g1.keep (o := .lst (out.map fun r => V.ref r.1)) hS
    generalize upd H1 S (.lst (out.map fun r => V.ref r.1)) = H2 at *
    have s02 : Same H F2 := g2.ff
    have ho : ∀ r ∈ out, IntsL F2 r.1 r.2 := fun r hr => s2 _ _ (hsr r hr)
    have hol : out.length ≤ 256 := by
      have := congrArg List.length so
      rw [List.length_map, List.length_map] at this
      rw [this]
      exact sets_len h8 h8
    refine ⟨⟨_, SqL.of (g2.fh _ _ eS)⟩, ?_⟩
    refine l_go (walk_list (xs := out.map fun r => V.ref r.1)) g2.fh M0 (fun _ => True) trivial (fun _ h => h.elim) (fun _ _ _ _ _ => trivial)
      (fun u F acc => Same F2 F ∧ ∃ cs : List Addr, acc = cs.map V.ref ∧ Paired (StrsL F) cs ((out.take u).map fun r => roomsAt rs r.2.tail))
      ⟨Same.refl _, [], rfl, .nil⟩ (fun H' s => SqL.of (s _ _ eS)) (by rw [List.length_map]; omega) ?_ ?_
    · rintro u x F3 H3 H3' acc N1 N1' hu g3 _ ⟨s23, cs, rfl, pC⟩ ⟨rfl, ex⟩ hN1 _
      rw [List.length_map] at hu
      have ex' : (out.map fun r => V.ref r.1)[u]? = some (.ref out[u].1) := get_map (List.getElem?_eq_getElem hu)
      cases Option.some.inj (ex'.symm.trans ex)
      have hR := s23 _ _ (ho out[u] (List.getElem_mem hu))
      obtain ⟨row, hrow, hr8, hri⟩ : ∃ row : List Int, out[u].2 = (row.length : Int) :: row ∧ row.length ≤ 8 ∧ ∀ i ∈ row, 0 ≤ i ∧ i < (rs.length : Int) := by
        have e : out[u].2 ∈ out.map (·.2) := List.mem_map.mpr ⟨_, List.getElem_mem hu, rfl⟩
        rw [so] at e
        obtain ⟨row, hm, e⟩ := List.mem_map.mp e
        exact ⟨row, e.symm, set_len8 h8 row hm, set_bound h8 row hm⟩
      rw [hrow] at hR
      walk_at "rd"
      refine ⟨_, SqL.of (g3.fh _ _ hR), fun c hc => ?_⟩
      have ec : cutV (((row.length : Int) :: row).map V.int) (some 1) none = row.map V.int := cut_tail _ _
      rw [ec]
      have g4 := (Go.refl (M := M0) g3.fh).tmp (o := .lst (row.map V.int)) hc
      have ecc : (upd H3' c (.lst (row.map V.int))) c = some (.lst (row.map V.int)) := upd_same
      have sc := Same.new (o := .lst (row.map V.int)) hc
      generalize upd H3' c (.lst (row.map V.int)) = H4 at *
      refine ⟨⟨_, SqL.of ecc⟩, ?_⟩
      refine l_map V.int row (SqL.of ecc) (fun k => (rs[k.toNat]?).map V.str) (by omega) ?_ ?_
      · intro z H10 M1' M2' hz s hM hM'
        have zi := hri z hz
        have hlt : z.toNat < rs.length := by omega
        walk_at "rd"
        exact ⟨_, (((s02.trans s23).trans g3.fh).trans (sc.trans s)).seq ha, _, at_I zi.1 (get_map (List.getElem?_eq_getElem hlt)), hM _ _ (by rw [List.getElem?_eq_getElem hlt]; rfl) (Same.refl _)⟩
      · intro d H10 hd0 s10 e10
        rw [fm_map] at e10
        obtain ⟨F10, g10, s910, ed⟩ := g4.hold s10 hd0 e10
        refine hN1 _ F10 H10 g10 trivial ⟨s23.trans s910, cs ++ [d], by rw [List.map_append]; rfl, ?_⟩
        rw [List.take_succ, List.getElem?_eq_getElem hu, List.map_append]
        refine paired_snoc (show StrsL F10 d (roomsAt rs out[u].2.tail) from ?_) (paired_strsL s910 pC)
        rw [hrow]
        exact ed
    · rintro L3 F3 H3 acc g3 _ hL3 fL3 eL3 ⟨s23, cs, rfl, pC⟩
      refine q L3 cs H3 ((s02.trans s23).trans g3.fh) eL3 ?_
      rw [List.length_map, List.take_length] at pC
      have e : (out.map fun r => roomsAt rs r.2.tail) = allSets rs := by
        have : (out.map fun r => roomsAt rs r.2.tail) = (out.map (·.2)).map fun r => roomsAt rs r.tail := by
          rw [List.map_map]
          rfl
        rw [this, so, List.map_map]
        rfl
      rw [e] at pC
      exact paired_strsL g3.fh pC
def setsD (ss : List (List Str)) : PyData := .list (ss.map roomsD)
theorem dpAll_sets : ∀ {bs : List Addr} {ss : List (List Str)}, Paired (StrsL H) bs ss → DpAll K H (bs.map V.ref) (ss.map roomsD)
  | _, _, .nil => .nil
  | _, _, .cons h t => .cons (dp_rooms (SqL.of h)) (dpAll_sets t)
theorem dp_sets {L : Addr} {bs : List Addr} {ss : List (List Str)} (h : SqL K H L (bs.map V.ref)) (p : Paired (StrsL H) bs ss) : Dp K H (.ref L) (setsD ss) := .lst h (dpAll_sets p)
theorem sets_mem {rs : List Str} (h : RoomsOk rs) {xs : List Str} (m : xs ∈ allSets rs) : xs.length ≤ 8 ∧ ∀ x ∈ xs, x ∈ rs := by
  obtain ⟨row, hm, rfl⟩ := List.mem_map.mp m
  refine ⟨Nat.le_trans (List.length_filterMap_le _ _) (set_len8 h.2.1 row hm), fun x hx => ?_⟩
  obtain ⟨i, _, e⟩ := List.mem_filterMap.mp hx
  exact List.mem_of_getElem? e
theorem shw_sets {rs : List Str} (h : RoomsOk rs) : Shw 20000 2 (setsD (allSets rs)) := by
  have a : ShwA ((72 + 1) * ((allSets rs).map roomsD).length) 1 ((allSets rs).map roomsD) := ShwA.all fun d m => by
    obtain ⟨xs, hm, rfl⟩ := List.mem_map.mp m
    obtain ⟨h1, h2⟩ := sets_mem h hm
    exact (shw_strs fun r hr => h.2.2.2 r (h2 r hr)).up (by omega) (Nat.le_refl _)
  refine (Shw.list_ a).up ?_ (Nat.le_refl _)
  rw [List.length_map, show (allSets rs).length = (setsIx rs.length).length from List.length_map ..]
  have : (setsIx rs.length).length ≤ 256 := sets_len h.2.1 h.2.1
  omega
theorem sets_ne {rs : List Str} (h : rs.length ≤ 8) : (allSets rs).length ≠ 0 := by
  have key : ∀ n, n < 9 → (setsIx n).length ≠ 0 := by
    decide +kernel
  rw [show (allSets rs).length = (setsIx rs.length).length from List.length_map ..]
  exact key _ (by omega)
def sp_right (K : PySem.W.Frag) : Sp := fun vs H Q _ => ∃ (p : Addr), vs = [.ref p] ∧ PlC K ∧ PotAt H p ∧ ∀ H', (∀ b o, b ≠ p → H b = some o → H' b = some o) → PotAt H' p → Q (.bl true) H'
def t_right (K : PySem.W.Frag) : TS := tSeq (tAsg (tF (sp_lists K) E0 (tCons (tVar 0) tNil)) (gTup K 2 (gCons (gName 1) (gCons (gName 2) gNil))))
  (tSeq (tAsg (tMk (He.ga K "Plan") (sp_PlanI K) E0 (tCons (tVar 1) (tCons (tVar 2) tNil))) (gName 3))
  (tSeq (tAsg (tF (sp_lall K) E0 (tCons (tVar 1) tNil)) (gName 4))
  (tSeq (tAsg (tF (sp_all_sets K) E0 (tCons (tVar 3) tNil)) (gName 5))
  (tSeq (tIfS (tTest (tOp rNe (tCB (rRepr K) (tCons (tVar 5) tNil)) (tCB (rRepr K) (tCons (tVar 4) tNil)))) (tRet (tC (.bl false))) tNext)
  (tSeq (tDrop (tBM K "list" rAppend (tOp (rIxL K) (tVar 5) (tUn (rU fun i => .int (-i)) (tC (.int 1)))) (tCons (tC (.str "late")) tNil)))
  (tSeq (tDrop (tBM K "list" rAppend (tOp (rIxL K) (tVar 5) (tC (.int 0))) (tCons (tC (.str "late")) tNil)))
  (tSeq (tDrop (tBM K "list" rAppend (tVar 5) (tCons (tOp (rIxL K) (tVar 1) (tC (.int 0))) tNil)))
  (tRet (tAndV (tOp rEq (tCB (rRepr K) (tCons (tF (sp_all_sets K) E0 (tCons (tVar 3) tNil)) tNil)) (tCB (rRepr K) (tCons (tVar 4) tNil))) (tOp (rEqD K) (tM (He.ga K "Plan") "rooms" (sp_PlanRooms K) E0 (tVar 3) tNil) (tVar 1)))))))))))
theorem len_right (h : sp_right K vs H Q E) : vs.length = 1 := by
  obtain ⟨p, rfl, _⟩ := h
  rfl
theorem rd_right (h : sp_right K vs H Q E) : t_right K (En Q) (st0' 6 vs) H := by
  obtain ⟨p, rfl, C, hP, q⟩ := h
  unfold t_right st0'
  walk_at "rd"
  obtain ⟨F0, r0, _⟩ := Run.start hP
  refine lists_run r0 (fun t L1 L2 rs ds as F1 H1 hR hD r1 _ e1 eL1 eA pd => ?_)
  have ok : PlanOk ⟨rs, ds⟩ := ⟨hR, hD⟩
  refine ⟨t, rfl, _, SqT.of (r1.s _ _ e1), rfl, _, _, rfl, _, _, rfl, rfl, ?_⟩
  refine mk_plan (M := M0) (pl := ⟨rs, ds⟩) C r1.s (SqL.of (r1.s _ _ eL1)) (SqL.of (r1.s _ _ eA)) pd ok (fun x1 F2 H2 g2 PA hx1 => ?_)
  have r2 := r1.step0 g2
  have eL1 := g2.ff _ _ eL1
  refine ⟨L1, rs, rfl, SqL.of (r2.s _ _ eL1), hR.2.1, fun D ds' H3 s3 eD pD => ?_⟩
  have r3 := r2.same s3
  refine ⟨x1, ⟨rs, ds⟩, rfl, C, PA.go r3.s, ok, fun T ts H4 s4 hT hts eT pT => ?_⟩
  have sh := shw_sets hR
  refine sh.repr_ (by decide) (by decide) (dp_sets (SqL.of eT) pT) (sh.repr_ (by decide) (by decide) (dp_sets (SqL.of (s4 _ _ eD)) (paired_strsL s4 pD)) ⟨rfl, ?_⟩)
  rw [decide_eq_true rfl]
  walk_at "rd"
  have hne : ts ≠ [] := fun z => by
    have := Paired.length pT
    rw [z] at this
    exact sets_ne hR.2.1 this.symm
  have hlast : ts.getLast hne ∈ ts := List.getLast_mem hne
  have hfirst : ts.head hne ∈ ts := List.head_mem hne
  have inS : ∀ b ∈ ts, ∃ xs : List Str, H4 b = some (.lst (xs.map V.str)) ∧ xs.length ≤ 8 := fun b hb => by
    obtain ⟨i, hi, rfl⟩ := List.mem_iff_getElem.mp hb
    obtain ⟨xs, hxs, e⟩ := paired_get' pT (List.getElem?_eq_getElem hi)
    exact ⟨xs, e, (sets_mem hR (List.mem_of_getElem? hxs)).1⟩
  have neT : ∀ b ∈ ts, T ≠ b := fun b hb z => by
    obtain ⟨xs, e, _⟩ := inS b hb
    rw [← z, eT] at e
    cases hts' : ts with
    | nil => exact hne hts'
    | cons c cs =>
      rw [hts', List.map_cons] at e
      cases xs with
      | nil => cases e
      | cons y ys => cases e
  have al : atI (ts.map V.ref) (-1) = some (.ref (ts.getLast hne)) := by
    have e : ts.map V.ref = (ts.dropLast).map V.ref ++ [.ref (ts.getLast hne)] := by
      rw [← List.map_singleton, ← List.map_append, List.dropLast_concat_getLast hne]
    rw [e]
    exact atI_last _ _
  have a0 : atI (ts.map V.ref) 0 = some (.ref (ts.head hne)) := atI_nat (j := 0) (get_map (by rw [List.head_eq_getElem, List.getElem?_eq_getElem]))
  obtain ⟨x1', ex1, lx1⟩ := inS _ hlast
  refine ⟨_, SqL.of eT, _, al, .inl ⟨rfl, _, SqL.of ex1⟩, _, rfl, _, ex1, by rw [List.length_map]; exact Nat.lt_of_le_of_lt lx1 (by decide), ?_⟩
  have nl := neT _ hlast
  have s5 : Same H3 (upd H4 (ts.getLast hne) (.lst (x1'.map V.str ++ [.str (Str.ofString "late")]))) := fun b o e => by
    rw [upd_ne (ne_of_none e (hts _ hlast))]
    exact s4 _ _ e
  have eT5 : (upd H4 (ts.getLast hne) (.lst (x1'.map V.str ++ [.str (Str.ofString "late")]))) T = some (.lst (ts.map V.ref)) := by
    rw [upd_ne nl]
    exact eT
  have ex2 : ∃ ys : List V, (upd H4 (ts.getLast hne) (.lst (x1'.map V.str ++ [.str (Str.ofString "late")]))) (ts.head hne) = some (.lst ys) ∧ ys.length ≤ 9 := by
    by_cases z : ts.head hne = ts.getLast hne
    · refine ⟨_, by rw [z, upd_same], ?_⟩
      rw [List.length_append, List.length_map]
      exact Nat.add_le_add_right lx1 1
    · obtain ⟨xs, e, l⟩ := inS _ hfirst
      exact ⟨_, by rw [upd_ne z]; exact e, by rw [List.length_map]; omega⟩
  generalize upd H4 (ts.getLast hne) (.lst (x1'.map V.str ++ [.str (Str.ofString "late")])) = H5 at *
  obtain ⟨ys, ey, ly⟩ := ex2
  refine ⟨_, SqL.of eT5, _, a0, .inl ⟨rfl, _, SqL.of ey⟩, _, rfl, _, ey, Nat.lt_of_le_of_lt ly (by decide), ?_⟩
  have nf := neT _ hfirst
  have s6 : Same H3 (upd H5 (ts.head hne) (.lst (ys ++ [.str (Str.ofString "late")]))) := fun b o e => by
    rw [upd_ne (ne_of_none e (hts _ hfirst))]
    exact s5 _ _ e
  have eT6 : (upd H5 (ts.head hne) (.lst (ys ++ [.str (Str.ofString "late")]))) T = some (.lst (ts.map V.ref)) := by
    rw [upd_ne nf]
    exact eT5
  generalize upd H5 (ts.head hne) (.lst (ys ++ [.str (Str.ofString "late")])) = H6 at *
  have r1 := hR.1
  have r0' : (rs.map V.str)[0]? = some (.str (rs[0]'(by omega))) := get_map (List.getElem?_eq_getElem (by omega))
  have tl : ts.length ≤ 256 := by
    rw [Paired.length pT, show (allSets rs).length = (setsIx rs.length).length from List.length_map ..]
    exact sets_len hR.2.1 hR.2.1
  refine ⟨.inl ⟨rfl, _, SqL.of eT6⟩, _, SqL.of ((r3.s.trans s6) _ _ eL1), _, atI_nat (j := 0) r0', _, eT6, by rw [List.length_map]; exact Nat.lt_of_le_of_lt tl (by decide), ?_⟩
  have s7 : Same H3 (upd H6 T (.lst (ts.map V.ref ++ [.str (rs[0]'(by omega))]))) := fun b o e => by
    rw [upd_ne (ne_of_none e hT)]
    exact s6 _ _ e
  generalize upd H6 T (.lst (ts.map V.ref ++ [.str (rs[0]'(by omega))])) = H7 at *
  have s27 := r3.s.trans s7
  refine ⟨x1, ⟨rs, ds⟩, rfl, C, PA.go s27, ok, fun T2 ts2 H8 s8 hT2 hts2 eT2 pT2 => ?_⟩
  have s38 := s7.trans s8
  refine sh.repr_ (by decide) (by decide) (dp_sets (SqL.of eT2) pT2) (sh.repr_ (by decide) (by decide) (dp_sets (SqL.of (s38 _ _ eD)) (paired_strsL s38 pD)) ⟨rfl, ?_⟩)
  rw [decide_eq_true rfl]
  walk_at "rd"
  refine m_rooms C (PA.go (r3.s.trans s38)) (fun A hA => ?_)
  have s9 := s38.trans (Same.new (o := .lst (rs.map V.str)) hA)
  refine ⟨_, dp_rooms (SqL.of upd_same), _, dp_rooms (SqL.of ((r3.s.trans s9) _ _ eL1)), (shw_rooms hR).shaped (by decide), (shw_rooms hR).shaped (by decide), ?_⟩
  rw [(shw_rooms hR).refl_]
  have r9 := r3.same s9
  exact q _ r9.fin r9.t
def sp_law (K : PySem.W.Frag) : Sp := fun vs H Q _ => ∃ (a : Addr) (ns : List Int), vs = [.ref a] ∧ SqL K H a (ns.map V.int) ∧ ns.length ≤ 63 ∧ PlC K ∧ ∀ H', Q (.bl true) H'
def t_law (K : PySem.W.Frag) : TS := tRet (tCB (rAll K) (tCons (tLc (iRng1 (tCons (tCB rMax2 (tCons (tC (.int 1)) (tCons (tCB rMin2 (tCons (tCB (rLenSeq K) (tCons (tVar 0) tNil)) (tCons (tC (.int 6)) tNil))) tNil))) tNil)) (gName 1) tYes (tF (sp_right K) E0 (tCons (tF (sp_pot K) E0 (tCons (tVar 0) (tCons (tVar 1) tNil))) tNil)) [1]) tNil))
theorem len_law (h : sp_law K vs H Q E) : vs.length = 1 := by
  obtain ⟨a, ns, rfl, _⟩ := h
  rfl
theorem rd_law (h : sp_law K vs H Q E) : t_law K (En Q) (st0' 2 vs) H := by
  obtain ⟨a, ns, rfl, hA, hl, C, q⟩ := h
  unfold t_law st0'
  walk_at "rd"
  refine ⟨_, .inl hA, ?_⟩
  rw [List.length_map]
  generalize hm : (if (if 6 < (ns.length : Int) then 6 else (ns.length : Int)) > 1 then if 6 < (ns.length : Int) then 6 else (ns.length : Int) else 1) = m
  have m1 : 1 ≤ m ∧ m ≤ 6 := by
    rw [← hm]
    split
    · split
      · omega
      · omega
    · omega
  refine ⟨by omega, by omega, ?_⟩
  refine l_go (F := H) walk_range (Same.refl H) M0 (fun _ => True) trivial (fun _ h => h.elim) (fun _ _ _ _ _ => trivial) (fun i Fx acc => Fx = H ∧ acc = (List.replicate i true).map V.bl) ⟨rfl, rfl⟩ (fun _ _ => trivial) (by omega) ?_ ?_
  · rintro i x F1 H1 H1' acc N N' hi g1 _ ⟨rfl, rfl⟩ ⟨rfl, rfl⟩ hN hN'
    walk_at "rd"
    refine ⟨F1, a, ns, _, rfl, g1.fh, hA, by omega, by omega, fun p H2 g2 hp p2 => ?_⟩
    refine ⟨p, rfl, C, p2, fun H3 k3 p3 => hN _ F1 H3 ?_ trivial ⟨rfl, ?_⟩⟩
    · exact Go.of_same g1.fh (fun b o e => k3 b o (fun z => ne_of_none e hp z) (g2.hh _ _ m0 e))
    · rw [List.replicate_succ', List.map_append]
      rfl
  · rintro L F' H' acc g _ hL fL eL ⟨rfl, rfl⟩
    refine ⟨L, rfl, _, SqL.of eL, ?_⟩
    rw [show (List.replicate m.toNat true).all id = true by
      rw [List.all_eq_true]
      intro x h
      exact (List.eq_of_mem_replicate h)]
    exact q _
end
end Dc

namespace Dc
open PySem PySem.Spec PyProof.Rows L2
def top (i : Nat) : Stmt := PySem.Challenge.pw_doorcount_k31_sets_in_order.main.body.getD i (.Pass ⟨0, 0, 0, 0⟩)
abbrev s__wall : Stmt := top 0
abbrev s_NoSuchU_initU : Stmt := inClass (top 3) 0
abbrev s_NoPlanU_initU : Stmt := inClass (top 4) 0
abbrev s_all_sets : Stmt := top 6
abbrev s_is_name : Stmt := top 14
abbrev s_is_whole : Stmt := top 15
abbrev s_is_row : Stmt := top 16
abbrev s_want_rooms : Stmt := top 17
abbrev s_want_ends : Stmt := top 18
abbrev s_is_bound : Stmt := top 19
abbrev s_want_range : Stmt := top 20
abbrev s_want_doors : Stmt := top 21
abbrev s_PlanU_initU : Stmt := inClass (top 22) 0
abbrev s_Plan_rooms : Stmt := inClass (top 22) 1
abbrev s_Plan_doors : Stmt := inClass (top 22) 2
abbrev s_Plan_has : Stmt := inClass (top 22) 3
abbrev s_Plan_door : Stmt := inClass (top 22) 4
abbrev s_Plan_beside : Stmt := inClass (top 22) 5
abbrev s_Plan_hanging : Stmt := inClass (top 22) 6
abbrev s_Plan_parts : Stmt := inClass (top 22) 7
abbrev s_Plan_ranged : Stmt := inClass (top 22) 8
abbrev s_PlanU_eqU : Stmt := inClass (top 22) 9
abbrev s_PlanU_lenU : Stmt := inClass (top 22) 10
abbrev s_PlanU_reprU : Stmt := inClass (top 22) 11
abbrev s__law_pot : Stmt := top 24
abbrev s__law_take : Stmt := top 25
abbrev s__law_among : Stmt := top 26
abbrev s__law_name : Stmt := top 27
abbrev s__law_names : Stmt := top 28
abbrev s__law_wide : Stmt := top 29
abbrev s__law_range : Stmt := top 30
abbrev s__law_door : Stmt := top 31
abbrev s__law_doors : Stmt := top 32
abbrev s__law_lists : Stmt := top 33
abbrev s__law_all : Stmt := top 34
abbrev s__law_sets_right : Stmt := top 35
abbrev s_law : Stmt := top 36
def d_is_name : He.DefD := ⟨("is_name", none), "is_name", "is_name", defArgs s_is_name, defBody s_is_name, defScope s_is_name, [], []⟩
def d_is_whole : He.DefD := ⟨("is_whole", none), "is_whole", "is_whole", defArgs s_is_whole, defBody s_is_whole, defScope s_is_whole, [], []⟩
def d_is_row : He.DefD := ⟨("is_row", none), "is_row", "is_row", defArgs s_is_row, defBody s_is_row, defScope s_is_row, [], []⟩
def d_want_rooms : He.DefD := ⟨("want_rooms", none), "want_rooms", "want_rooms", defArgs s_want_rooms, defBody s_want_rooms, defScope s_want_rooms, [], []⟩
def d_want_ends : He.DefD := ⟨("want_ends", none), "want_ends", "want_ends", defArgs s_want_ends, defBody s_want_ends, defScope s_want_ends, [], []⟩
def d_is_bound : He.DefD := ⟨("is_bound", none), "is_bound", "is_bound", defArgs s_is_bound, defBody s_is_bound, defScope s_is_bound, [], []⟩
def d_want_range : He.DefD := ⟨("want_range", none), "want_range", "want_range", defArgs s_want_range, defBody s_want_range, defScope s_want_range, [], []⟩
def d_want_doors : He.DefD := ⟨("want_doors", none), "want_doors", "want_doors", defArgs s_want_doors, defBody s_want_doors, defScope s_want_doors, [], []⟩
def d_PlanU_initU : He.DefD := ⟨("Plan", some "__init__"), "__init__", "Plan.__init__", defArgs s_PlanU_initU, defBody s_PlanU_initU, defScope s_PlanU_initU, [], []⟩
def d_Plan_rooms : He.DefD := ⟨("Plan", some "rooms"), "rooms", "Plan.rooms", defArgs s_Plan_rooms, defBody s_Plan_rooms, defScope s_Plan_rooms, [], []⟩
def d_Plan_doors : He.DefD := ⟨("Plan", some "doors"), "doors", "Plan.doors", defArgs s_Plan_doors, defBody s_Plan_doors, defScope s_Plan_doors, [], []⟩
def d_PlanU_lenU : He.DefD := ⟨("Plan", some "__len__"), "__len__", "Plan.__len__", defArgs s_PlanU_lenU, defBody s_PlanU_lenU, defScope s_PlanU_lenU, [], []⟩
def d_all_sets : He.DefD := ⟨("all_sets", none), "all_sets", "all_sets", defArgs s_all_sets, defBody s_all_sets, defScope s_all_sets, [], []⟩
def d__law_pot : He.DefD := ⟨("_law_pot", none), "_law_pot", "_law_pot", defArgs s__law_pot, defBody s__law_pot, defScope s__law_pot, [], []⟩
def d__law_take : He.DefD := ⟨("_law_take", none), "_law_take", "_law_take", defArgs s__law_take, defBody s__law_take, defScope s__law_take, [], []⟩
def d__law_name : He.DefD := ⟨("_law_name", none), "_law_name", "_law_name", defArgs s__law_name, defBody s__law_name, defScope s__law_name, [], []⟩
def d__law_names : He.DefD := ⟨("_law_names", none), "_law_names", "_law_names", defArgs s__law_names, defBody s__law_names, defScope s__law_names, [], []⟩
def d__law_wide : He.DefD := ⟨("_law_wide", none), "_law_wide", "_law_wide", defArgs s__law_wide, defBody s__law_wide, defScope s__law_wide, [], []⟩
def d__law_range : He.DefD := ⟨("_law_range", none), "_law_range", "_law_range", defArgs s__law_range, defBody s__law_range, defScope s__law_range, [], []⟩
def d__law_door : He.DefD := ⟨("_law_door", none), "_law_door", "_law_door", defArgs s__law_door, defBody s__law_door, defScope s__law_door, [], []⟩
def d__law_doors : He.DefD := ⟨("_law_doors", none), "_law_doors", "_law_doors", defArgs s__law_doors, defBody s__law_doors, defScope s__law_doors, [], []⟩
def d__law_lists : He.DefD := ⟨("_law_lists", none), "_law_lists", "_law_lists", defArgs s__law_lists, defBody s__law_lists, defScope s__law_lists, [], []⟩
def d__law_all : He.DefD := ⟨("_law_all", none), "_law_all", "_law_all", defArgs s__law_all, defBody s__law_all, defScope s__law_all, [], []⟩
def d__law_sets_right : He.DefD := ⟨("_law_sets_right", none), "_law_sets_right", "_law_sets_right", defArgs s__law_sets_right, defBody s__law_sets_right, defScope s__law_sets_right, [], []⟩
def d_law : He.DefD := ⟨("law", none), "law", "law", defArgs s_law, defBody s_law, defScope s_law, [], []⟩
def fn : List He.DefD := [d_is_name, d_is_whole, d_is_row, d_want_rooms, d_want_ends, d_is_bound, d_want_range, d_want_doors, d_PlanU_initU, d_Plan_rooms, d_Plan_doors, d_PlanU_lenU, d_all_sets, d__law_pot, d__law_take, d__law_name, d__law_names, d__law_wide, d__law_range, d__law_door, d__law_doors, d__law_lists, d__law_all, d__law_sets_right, d_law]
def fa : List He.Fa := [.glo "is_name", .glo "is_whole", .glo "is_row", .glo "want_rooms", .glo "want_ends", .glo "is_bound", .glo "want_range", .glo "want_doors", .glo "all_sets", .glo "_law_pot", .glo "_law_take", .glo "_law_name", .glo "_law_names", .glo "_law_wide", .glo "_law_range", .glo "_law_door", .glo "_law_doors", .glo "_law_lists", .glo "_law_all", .glo "_law_sets_right", .glo "law", .glo "HouseError", .glo "NoSuch", .glo "NoPlan", .glo "Plan", .free "divmod", .free "len", .free "abs", .free "max", .free "range", .int "MOST_LETTERS" 8, .free "str", .free "isinstance", .str "LETTERS" "abcdefghijklmnopqrstuvwxyz", .free "all", .free "bool", .free "int", .free "list", .int "WIDEST" 99, .int "MOST_ROOMS" 8, .free "enumerate", .int "MOST_DOORS" 12, .int "IN_DOOR" 4, .free "tuple", .free "sorted", .free "repr", .free "min", .cls "Plan", .noat "Plan" "named", .noat "Plan" "gates", .mkr "Plan", .meth "Plan" "rooms", .meth "Plan" "doors", .meth "Plan" "__len__"]
abbrev Tx := Txt fa fn
section
variable {K : PySem.W.Frag} {mg : Str → Option Value}
theorem c_is_name (T : Tx K mg) : Cal K mg "is_name" (He.fAd K ("is_name", none)) (fdAt K ("is_name", none)) ["thing"] := ⟨T.glo 0, (T.def_ 0 (d := d_is_name)).kp, (T.def_ 0 (d := d_is_name)).bindsN fun _ _ _ _ _ _ us hl => match us, hl with | [_], _ => rfl⟩
theorem c_is_whole (T : Tx K mg) : Cal K mg "is_whole" (He.fAd K ("is_whole", none)) (fdAt K ("is_whole", none)) ["thing", "least", "most"] := ⟨T.glo 1, (T.def_ 1 (d := d_is_whole)).kp, (T.def_ 1 (d := d_is_whole)).bindsN fun _ _ _ _ _ _ us hl => match us, hl with | [_, _, _], _ => rfl⟩
theorem c_is_row (T : Tx K mg) : Cal K mg "is_row" (He.fAd K ("is_row", none)) (fdAt K ("is_row", none)) ["thing", "least", "most"] := ⟨T.glo 2, (T.def_ 2 (d := d_is_row)).kp, (T.def_ 2 (d := d_is_row)).bindsN fun _ _ _ _ _ _ us hl => match us, hl with | [_, _, _], _ => rfl⟩
theorem c_want_rooms (T : Tx K mg) : Cal K mg "want_rooms" (He.fAd K ("want_rooms", none)) (fdAt K ("want_rooms", none)) ["named"] := ⟨T.glo 3, (T.def_ 3 (d := d_want_rooms)).kp, (T.def_ 3 (d := d_want_rooms)).bindsN fun _ _ _ _ _ _ us hl => match us, hl with | [_], _ => rfl⟩
theorem c_want_ends (T : Tx K mg) : Cal K mg "want_ends" (He.fAd K ("want_ends", none)) (fdAt K ("want_ends", none)) ["named", "near", "far", "who"] := ⟨T.glo 4, (T.def_ 4 (d := d_want_ends)).kp, (T.def_ 4 (d := d_want_ends)).bindsN fun _ _ _ _ _ _ us hl => match us, hl with | [_, _, _, _], _ => rfl⟩
theorem c_is_bound (T : Tx K mg) : Cal K mg "is_bound" (He.fAd K ("is_bound", none)) (fdAt K ("is_bound", none)) ["thing"] := ⟨T.glo 5, (T.def_ 5 (d := d_is_bound)).kp, (T.def_ 5 (d := d_is_bound)).bindsN fun _ _ _ _ _ _ us hl => match us, hl with | [_], _ => rfl⟩
theorem c_want_range (T : Tx K mg) : Cal K mg "want_range" (He.fAd K ("want_range", none)) (fdAt K ("want_range", none)) ["least", "most", "who"] := ⟨T.glo 6, (T.def_ 6 (d := d_want_range)).kp, (T.def_ 6 (d := d_want_range)).bindsN fun _ _ _ _ _ _ us hl => match us, hl with | [_, _, _], _ => rfl⟩
theorem c_want_doors (T : Tx K mg) : Cal K mg "want_doors" (He.fAd K ("want_doors", none)) (fdAt K ("want_doors", none)) ["named", "gates"] := ⟨T.glo 7, (T.def_ 7 (d := d_want_doors)).kp, (T.def_ 7 (d := d_want_doors)).bindsN fun _ _ _ _ _ _ us hl => match us, hl with | [_, _], _ => rfl⟩
theorem c_PlanU_initU (T : Tx K mg) : CalI K mg (He.ga K "Plan") "Plan" (He.fAd K ("Plan", some "__init__")) (fdAt K ("Plan", some "__init__")) ["self", "rooms", "doors"] := ⟨T.glo 24, T.mkr 50, (T.def_ 8 (d := d_PlanU_initU)).bindsN fun _ _ _ _ _ _ us hl => match us, hl with | [_, _, _], _ => rfl⟩
theorem c_Plan_rooms (T : Tx K mg) : CalM K (He.ga K "Plan") "rooms" (He.fAd K ("Plan", some "rooms")) (fdAt K ("Plan", some "rooms")) ["self"] := ⟨T.cls 47, T.meth 51, (T.def_ 9 (d := d_Plan_rooms)).bindsN fun _ _ _ _ _ _ us hl => match us, hl with | [_], _ => rfl⟩
theorem c_Plan_doors (T : Tx K mg) : CalM K (He.ga K "Plan") "doors" (He.fAd K ("Plan", some "doors")) (fdAt K ("Plan", some "doors")) ["self"] := ⟨T.cls 47, T.meth 52, (T.def_ 10 (d := d_Plan_doors)).bindsN fun _ _ _ _ _ _ us hl => match us, hl with | [_], _ => rfl⟩
theorem c_PlanU_lenU (T : Tx K mg) : CalM K (He.ga K "Plan") "__len__" (He.fAd K ("Plan", some "__len__")) (fdAt K ("Plan", some "__len__")) ["self"] := ⟨T.cls 47, T.meth 53, (T.def_ 11 (d := d_PlanU_lenU)).bindsN fun _ _ _ _ _ _ us hl => match us, hl with | [_], _ => rfl⟩
theorem c_all_sets (T : Tx K mg) : Cal K mg "all_sets" (He.fAd K ("all_sets", none)) (fdAt K ("all_sets", none)) ["plan"] := ⟨T.glo 8, (T.def_ 12 (d := d_all_sets)).kp, (T.def_ 12 (d := d_all_sets)).bindsN fun _ _ _ _ _ _ us hl => match us, hl with | [_], _ => rfl⟩
theorem c__law_pot (T : Tx K mg) : Cal K mg "_law_pot" (He.fAd K ("_law_pot", none)) (fdAt K ("_law_pot", none)) ["_law_script", "_law_k"] := ⟨T.glo 9, (T.def_ 13 (d := d__law_pot)).kp, (T.def_ 13 (d := d__law_pot)).bindsN fun _ _ _ _ _ _ us hl => match us, hl with | [_, _], _ => rfl⟩
theorem c__law_take (T : Tx K mg) : Cal K mg "_law_take" (He.fAd K ("_law_take", none)) (fdAt K ("_law_take", none)) ["_law_pot_here", "_law_many"] := ⟨T.glo 10, (T.def_ 14 (d := d__law_take)).kp, (T.def_ 14 (d := d__law_take)).bindsN fun _ _ _ _ _ _ us hl => match us, hl with | [_, _], _ => rfl⟩
theorem c__law_name (T : Tx K mg) : Cal K mg "_law_name" (He.fAd K ("_law_name", none)) (fdAt K ("_law_name", none)) ["_law_pot_here", "_law_taken"] := ⟨T.glo 11, (T.def_ 15 (d := d__law_name)).kp, (T.def_ 15 (d := d__law_name)).bindsN fun _ _ _ _ _ _ us hl => match us, hl with | [_, _], _ => rfl⟩
theorem c__law_names (T : Tx K mg) : Cal K mg "_law_names" (He.fAd K ("_law_names", none)) (fdAt K ("_law_names", none)) ["_law_pot_here", "_law_many", "_law_taken"] := ⟨T.glo 12, (T.def_ 16 (d := d__law_names)).kp, (T.def_ 16 (d := d__law_names)).bindsN fun _ _ _ _ _ _ us hl => match us, hl with | [_, _, _], _ => rfl⟩
theorem c__law_wide (T : Tx K mg) : Cal K mg "_law_wide" (He.fAd K ("_law_wide", none)) (fdAt K ("_law_wide", none)) ["_law_pot_here"] := ⟨T.glo 13, (T.def_ 17 (d := d__law_wide)).kp, (T.def_ 17 (d := d__law_wide)).bindsN fun _ _ _ _ _ _ us hl => match us, hl with | [_], _ => rfl⟩
theorem c__law_range (T : Tx K mg) : Cal K mg "_law_range" (He.fAd K ("_law_range", none)) (fdAt K ("_law_range", none)) ["_law_pot_here", "_law_wide_here", "_law_has_nought"] := ⟨T.glo 14, (T.def_ 18 (d := d__law_range)).kp, (T.def_ 18 (d := d__law_range)).bindsN fun _ _ _ _ _ _ us hl => match us, hl with | [_, _, _], _ => rfl⟩
theorem c__law_door (T : Tx K mg) : Cal K mg "_law_door" (He.fAd K ("_law_door", none)) (fdAt K ("_law_door", none)) ["_law_pot_here", "_law_rooms", "_law_wide_here", "_law_has_nought"] := ⟨T.glo 15, (T.def_ 19 (d := d__law_door)).kp, (T.def_ 19 (d := d__law_door)).bindsN fun _ _ _ _ _ _ us hl => match us, hl with | [_, _, _, _], _ => rfl⟩
theorem c__law_doors (T : Tx K mg) : Cal K mg "_law_doors" (He.fAd K ("_law_doors", none)) (fdAt K ("_law_doors", none)) ["_law_pot_here", "_law_rooms", "_law_many", "_law_has_nought"] := ⟨T.glo 16, (T.def_ 20 (d := d__law_doors)).kp, (T.def_ 20 (d := d__law_doors)).bindsN fun _ _ _ _ _ _ us hl => match us, hl with | [_, _, _, _], _ => rfl⟩
theorem c__law_lists (T : Tx K mg) : Cal K mg "_law_lists" (He.fAd K ("_law_lists", none)) (fdAt K ("_law_lists", none)) ["_law_pot_here"] := ⟨T.glo 17, (T.def_ 21 (d := d__law_lists)).kp, (T.def_ 21 (d := d__law_lists)).bindsN fun _ _ _ _ _ _ us hl => match us, hl with | [_], _ => rfl⟩
theorem c__law_all (T : Tx K mg) : Cal K mg "_law_all" (He.fAd K ("_law_all", none)) (fdAt K ("_law_all", none)) ["_law_rooms"] := ⟨T.glo 18, (T.def_ 22 (d := d__law_all)).kp, (T.def_ 22 (d := d__law_all)).bindsN fun _ _ _ _ _ _ us hl => match us, hl with | [_], _ => rfl⟩
theorem c__law_sets_right (T : Tx K mg) : Cal K mg "_law_sets_right" (He.fAd K ("_law_sets_right", none)) (fdAt K ("_law_sets_right", none)) ["_law_pot_here"] := ⟨T.glo 19, (T.def_ 23 (d := d__law_sets_right)).kp, (T.def_ 23 (d := d__law_sets_right)).bindsN fun _ _ _ _ _ _ us hl => match us, hl with | [_], _ => rfl⟩
theorem c_law (T : Tx K mg) : Cal K mg "law" (He.fAd K ("law", none)) (fdAt K ("law", none)) ["_law_script"] := ⟨T.glo 20, (T.def_ 24 (d := d_law)).kp, (T.def_ 24 (d := d_law)).bindsN fun _ _ _ _ _ _ us hl => match us, hl with | [_], _ => rfl⟩
end
end Dc
namespace Dc
open PySem PySem.Spec PyProof.Rows L2
section
variable {P : Program} {w : World} {K : PySem.W.Frag} {mg : Str → Option Value} {base : Heap}
theorem sc_is_name : FnScope ["thing", "sign"] ["thing"] (defScope s_is_name) := ⟨rfl, rfl, rfl, by decide +kernel, rfl, by decide +kernel, by decide +kernel⟩
theorem ok_is_name (T : Tx K mg) : Ok P w K mg base CX0 1 (He.fAd K ("is_name", none)) (fdAt K ("is_name", none)) ["thing"] (sp_is_name K) := by
  obtain ⟨_tMOST_LETTERS, gMOST_LETTERS⟩ := T.int 30
  obtain ⟨_tLETTERS, gLETTERS⟩ := T.str 33
  refine okD (T.def_ 0 (d := d_is_name)) sc_is_name len_is_name (fun cdv A outer s H vs Q E hr hg h => ⟨t_is_name K, PSs.nox ?_, rd_is_name h⟩)
  exact pss_cons (ps_if (PW.pt (pw_or (pt_not (pt_val (pe_callB call_isi (by rfl) (T.free 32) (by decide +kernel) (pa_cons (pv 0) (pa_cons (pe_bltn (by rfl) (T.free 31) (by decide +kernel) rfl) pa_nil))))) (pw_or1 (pt_not (pt_chain op_le op_le pe_int (pe_callB call_len_str (by rfl) (T.free 26) (by decide +kernel) (pa_cons (pv 0) pa_nil)) (pe_glob (by rfl) gMOST_LETTERS ⟨_, rfl⟩)))))) (pss_one (ps_ret pe_bl)) pss_nil)
      (pss_one (ps_ret (pe_callB (cr_all rfl) (by rfl) (T.free 34) (by decide +kernel) (pa_cons (pe_lc (own := [("sign", 1)]) (g := gName 1) (tt := tYes) (te := tOp rInS (tVar 1) (tC (.str "abcdefghijklmnopqrstuvwxyz"))) rfl sc_is_name.nd (pi_str (pv 0)) (blkOk_by (own := [("sign", 1)]) (N := ["thing", "sign"]) (sc := defScope s_is_name) (by decide +kernel)) (fun _ _ _ _ _ => pg_name (i := 1) sc_is_name.nd rfl (by first | exact Or.inl rfl | exact Or.inr rfl)) (fun _ _ _ _ _ => pts_nil) (fun _ _ _ _ _ => pe_cmpR op_inS (pv 1) (pe_glob (by rfl) gLETTERS ⟨_, rfl⟩) (by rfl))) pa_nil))))
theorem sc_is_whole : FnScope ["thing", "least", "most"] ["thing", "least", "most"] (defScope s_is_whole) := ⟨rfl, rfl, rfl, by decide +kernel, rfl, by decide +kernel, by decide +kernel⟩
theorem ok_is_whole (T : Tx K mg) : Ok P w K mg base CX0 1 (He.fAd K ("is_whole", none)) (fdAt K ("is_whole", none)) ["thing", "least", "most"] (sp_is_whole K) := by
  refine okD (T.def_ 1 (d := d_is_whole)) sc_is_whole len_is_whole (fun cdv A outer s H vs Q E hr hg h => ⟨t_is_whole K, PSs.nox ?_, rd_is_whole h⟩)
  exact pss_one (ps_ret (pe_and (pe_callB call_isi (by rfl) (T.free 32) (by decide +kernel) (pa_cons (pv 0) (pa_cons (pe_bltn (by rfl) (T.free 36) (by decide +kernel) rfl) pa_nil))) (pe_and (pe_not (pe_callB call_isi (by rfl) (T.free 32) (by decide +kernel) (pa_cons (pv 0) (pa_cons (pe_bltn (by rfl) (T.free 35) (by decide +kernel) rfl) pa_nil)))) (pe_one (pe_chain op_le op_le (pv 1) (pv 0) (pv 2))))))
theorem sc_is_row : FnScope ["thing", "least", "most"] ["thing", "least", "most"] (defScope s_is_row) := ⟨rfl, rfl, rfl, by decide +kernel, rfl, by decide +kernel, by decide +kernel⟩
theorem ok_is_row (T : Tx K mg) : Ok P w K mg base CX0 1 (He.fAd K ("is_row", none)) (fdAt K ("is_row", none)) ["thing", "least", "most"] (sp_is_row K) := by
  refine okD (T.def_ 2 (d := d_is_row)) sc_is_row len_is_row (fun cdv A outer s H vs Q E hr hg h => ⟨t_is_row K, PSs.nox ?_, rd_is_row h⟩)
  exact pss_one (ps_ret (pe_and (pe_callB call_isi (by rfl) (T.free 32) (by decide +kernel) (pa_cons (pv 0) (pa_cons (pe_bltn (by rfl) (T.free 37) (by decide +kernel) rfl) pa_nil))) (pe_one (pe_chain op_le op_le (pv 1) (pe_callB call_len_seq (by rfl) (T.free 26) (by decide +kernel) (pa_cons (pv 0) pa_nil)) (pv 2)))))
theorem sc_want_rooms : FnScope ["named", "number", "room"] ["named"] (defScope s_want_rooms) := ⟨rfl, rfl, rfl, by decide +kernel, rfl, by decide +kernel, by decide +kernel⟩
theorem ok_want_rooms (T : Tx K mg) : Ok P w K mg base CX0 2 (He.fAd K ("want_rooms", none)) (fdAt K ("want_rooms", none)) ["named"] (sp_want_rooms K) := by
  obtain ⟨_tMOST_ROOMS, gMOST_ROOMS⟩ := T.int 39
  refine okD (T.def_ 3 (d := d_want_rooms)) sc_want_rooms len_want_rooms (fun cdv A outer s H vs Q E hr hg h => ⟨t_want_rooms K, PSs.nox ?_, rd_want_rooms h⟩)
  exact pss_cons (ps_if (pt_not (pt_val (c_call (ok_is_row T) (c_is_row T) (hr.mono (by decide)) hg pass0 (pa_cons (pv 0) (pa_cons pe_int (pa_cons (pe_glob (by rfl) gMOST_ROOMS ⟨_, rfl⟩) pa_nil)))))) (pss_one ps_never) pss_nil)
      (pss_one (ps_for PassesOwn.never rfl (pi_enum (by rfl) (T.free 40) (pa_cons (pv 0) pa_nil)) (pg_tup (n := 2) rfl (pgs_cons (pg_name (i := 1) sc_want_rooms.nd rfl (by first | exact Or.inl rfl | exact Or.inr rfl)) (pgs_cons (pg_name (i := 2) sc_want_rooms.nd rfl (by first | exact Or.inl rfl | exact Or.inr rfl)) pgs_nil))) (pss_cons (ps_if (pt_not (pt_val (c_call (ok_is_name T) (c_is_name T) (hr.mono (by decide)) hg pass0 (pa_cons (pv 2) pa_nil)))) (pss_one ps_never) pss_nil)
      (pss_one (ps_if (pt_cmpR op_in_seq (pv 2) (pe_slice sl_list (pv 0) po_none (po_some (pv 1))) (by rfl)) (pss_one ps_never) pss_nil)))))
theorem sc_want_ends : FnScope ["named", "near", "far", "who"] ["named", "near", "far", "who"] (defScope s_want_ends) := ⟨rfl, rfl, rfl, by decide +kernel, rfl, by decide +kernel, by decide +kernel⟩
theorem ok_want_ends (T : Tx K mg) : Ok P w K mg base CX0 1 (He.fAd K ("want_ends", none)) (fdAt K ("want_ends", none)) ["named", "near", "far", "who"] (sp_want_ends K) := by
  refine okD (T.def_ 4 (d := d_want_ends)) sc_want_ends len_want_ends (fun cdv A outer s H vs Q E hr hg h => ⟨t_want_ends K, PSs.nox ?_, rd_want_ends h⟩)
  exact pss_cons (ps_if (pt_cmpR op_notIn_seq (pv 1) (pv 0) (by rfl)) (pss_one ps_never) pss_nil)
      (pss_cons (ps_if (pt_cmpR op_notIn_seq (pv 2) (pv 0) (by rfl)) (pss_one ps_never) pss_nil)
      (pss_one (ps_if (pt_cmpR op_eq (pv 1) (pv 2) (nomark _)) (pss_one ps_never) pss_nil)))
theorem sc_is_bound : FnScope ["thing"] ["thing"] (defScope s_is_bound) := ⟨rfl, rfl, rfl, by decide +kernel, rfl, by decide +kernel, by decide +kernel⟩
theorem ok_is_bound (T : Tx K mg) : Ok P w K mg base CX0 2 (He.fAd K ("is_bound", none)) (fdAt K ("is_bound", none)) ["thing"] (sp_is_bound K) := by
  obtain ⟨_tWIDEST, gWIDEST⟩ := T.int 38
  refine okD (T.def_ 5 (d := d_is_bound)) sc_is_bound len_is_bound (fun cdv A outer s H vs Q E hr hg h => ⟨t_is_bound K, PSs.nox ?_, rd_is_bound h⟩)
  exact pss_one (ps_ret (c_call (ok_is_whole T) (c_is_whole T) (hr.mono (by decide)) hg pass0 (pa_cons (pv 0) (pa_cons (pe_un un_neg (pe_glob (by rfl) gWIDEST ⟨_, rfl⟩)) (pa_cons (pe_glob (by rfl) gWIDEST ⟨_, rfl⟩) pa_nil)))))
theorem sc_want_range : FnScope ["least", "most", "who"] ["least", "most", "who"] (defScope s_want_range) := ⟨rfl, rfl, rfl, by decide +kernel, rfl, by decide +kernel, by decide +kernel⟩
theorem ok_want_range (T : Tx K mg) : Ok P w K mg base CX0 3 (He.fAd K ("want_range", none)) (fdAt K ("want_range", none)) ["least", "most", "who"] (sp_want_range K) := by
  refine okD (T.def_ 6 (d := d_want_range)) sc_want_range len_want_range (fun cdv A outer s H vs Q E hr hg h => ⟨t_want_range K, PSs.nox ?_, rd_want_range h⟩)
  exact pss_cons (ps_if (pt_not (pt_val (c_call (ok_is_bound T) (c_is_bound T) (hr.mono (by decide)) hg pass0 (pa_cons (pv 0) pa_nil)))) (pss_one ps_never) pss_nil)
      (pss_cons (ps_if (pt_not (pt_val (c_call (ok_is_bound T) (c_is_bound T) (hr.mono (by decide)) hg pass0 (pa_cons (pv 1) pa_nil)))) (pss_one ps_never) pss_nil)
      (pss_one (ps_if (pt_cmpR op_gt (pv 0) (pv 1) (nomark _)) (pss_one ps_never) pss_nil)))
theorem sc_want_doors : FnScope ["named", "gates", "number", "gate", "near", "far", "least", "most"] ["named", "gates"] (defScope s_want_doors) := ⟨rfl, rfl, rfl, by decide +kernel, rfl, by decide +kernel, by decide +kernel⟩
theorem ok_want_doors (T : Tx K mg) : Ok P w K mg base CX0 4 (He.fAd K ("want_doors", none)) (fdAt K ("want_doors", none)) ["named", "gates"] (sp_want_doors K) := by
  obtain ⟨_tMOST_DOORS, gMOST_DOORS⟩ := T.int 41
  obtain ⟨_tIN_DOOR, gIN_DOOR⟩ := T.int 42
  refine okD (T.def_ 7 (d := d_want_doors)) sc_want_doors len_want_doors (fun cdv A outer s H vs Q E hr hg h => ⟨t_want_doors K, PSs.nox ?_, rd_want_doors h⟩)
  exact pss_cons (ps_if (pt_not (pt_val (c_call (ok_is_row T) (c_is_row T) (hr.mono (by decide)) hg pass0 (pa_cons (pv 1) (pa_cons pe_int (pa_cons (pe_glob (by rfl) gMOST_DOORS ⟨_, rfl⟩) pa_nil)))))) (pss_one ps_never) pss_nil)
      (pss_one (ps_for PassesOwn.never rfl (pi_enum (by rfl) (T.free 40) (pa_cons (pv 1) pa_nil)) (pg_tup (n := 2) rfl (pgs_cons (pg_name (i := 2) sc_want_doors.nd rfl (by first | exact Or.inl rfl | exact Or.inr rfl)) (pgs_cons (pg_name (i := 3) sc_want_doors.nd rfl (by first | exact Or.inl rfl | exact Or.inr rfl)) pgs_nil))) (pss_cons (ps_if (PW.pt (pw_or (pt_not (pt_val (pe_callB call_isi (by rfl) (T.free 32) (by decide +kernel) (pa_cons (pv 3) (pa_cons (pe_bltn (by rfl) (T.free 43) (by decide +kernel) rfl) pa_nil))))) (pw_or1 (pt_cmpR op_ne (pe_callB call_len_seq (by rfl) (T.free 26) (by decide +kernel) (pa_cons (pv 3) pa_nil)) (pe_glob (by rfl) gIN_DOOR ⟨_, rfl⟩) (nomark _))))) (pss_one ps_never) pss_nil)
      (pss_cons (ps_asg (pv 3) (pg_tup (n := 4) rfl (pgs_cons (pg_name (i := 4) sc_want_doors.nd rfl (by first | exact Or.inl rfl | exact Or.inr rfl)) (pgs_cons (pg_name (i := 5) sc_want_doors.nd rfl (by first | exact Or.inl rfl | exact Or.inr rfl)) (pgs_cons (pg_name (i := 6) sc_want_doors.nd rfl (by first | exact Or.inl rfl | exact Or.inr rfl)) (pgs_cons (pg_name (i := 7) sc_want_doors.nd rfl (by first | exact Or.inl rfl | exact Or.inr rfl)) pgs_nil))))))
      (pss_cons (ps_expr (c_call (ok_want_ends T) (c_want_ends T) (hr.mono (by decide)) hg pass0 (pa_cons (pv 0) (pa_cons (pv 4) (pa_cons (pv 5) (pa_cons (pe_callTy call_str_int (by rfl) (T.free 31) (by decide +kernel) (pa_cons (pv 2) pa_nil)) pa_nil))))))
      (pss_one (ps_expr (c_call (ok_want_range T) (c_want_range T) (hr.mono (by decide)) hg pass0 (pa_cons (pv 6) (pa_cons (pv 7) (pa_cons (pe_callTy call_str_int (by rfl) (T.free 31) (by decide +kernel) (pa_cons (pv 2) pa_nil)) pa_nil)))))))))))
theorem sc_PlanU_initU : FnScope ["self", "rooms", "doors"] ["self", "rooms", "doors"] (defScope s_PlanU_initU) := ⟨rfl, rfl, rfl, by decide +kernel, rfl, by decide +kernel, by decide +kernel⟩
theorem ok_PlanU_initU (T : Tx K mg) : Ok P w K mg base CX0 5 (He.fAd K ("Plan", some "__init__")) (fdAt K ("Plan", some "__init__")) ["self", "rooms", "doors"] (sp_PlanI K) := by
  refine okD (T.def_ 8 (d := d_PlanU_initU)) sc_PlanU_initU len_PlanI (fun cdv A outer s H vs Q E hr hg h => ⟨t_PlanI K, PSs.nox ?_, rd_PlanI h⟩)
  exact pss_cons (ps_expr (c_call (ok_want_rooms T) (c_want_rooms T) (hr.mono (by decide)) hg pass0 (pa_cons (pv 1) pa_nil)))
      (pss_cons (ps_expr (c_call (ok_want_doors T) (c_want_doors T) (hr.mono (by decide)) hg pass0 (pa_cons (pv 1) (pa_cons (pv 2) pa_nil))))
      (pss_cons (ps_fld (pv 0) (pe_callTy call_tupL (by rfl) (T.free 43) (by decide +kernel) (pa_cons (pv 1) pa_nil)) rfl)
      (pss_one (ps_fld (pv 0) (pe_callTy call_tupL (by rfl) (T.free 43) (by decide +kernel) (pa_cons (pv 2) pa_nil)) rfl))))
theorem sc_Plan_rooms : FnScope ["self"] ["self"] (defScope s_Plan_rooms) := ⟨rfl, rfl, rfl, by decide +kernel, rfl, by decide +kernel, by decide +kernel⟩
theorem ok_Plan_rooms (T : Tx K mg) : Ok P w K mg base CX0 1 (He.fAd K ("Plan", some "rooms")) (fdAt K ("Plan", some "rooms")) ["self"] (sp_PlanRooms K) := by
  refine okD (T.def_ 9 (d := d_Plan_rooms)) sc_Plan_rooms len_PlanRooms (fun cdv A outer s H vs Q E hr hg h => ⟨t_PlanRooms K, PSs.nox ?_, rd_PlanRooms h⟩)
  exact pss_one (ps_ret (pe_callTy call_list_of (by rfl) (T.free 37) (by decide +kernel) (pa_cons (pe_fld (pv 0) rfl) pa_nil)))
theorem sc_Plan_doors : FnScope ["self"] ["self"] (defScope s_Plan_doors) := ⟨rfl, rfl, rfl, by decide +kernel, rfl, by decide +kernel, by decide +kernel⟩
theorem ok_Plan_doors (T : Tx K mg) : Ok P w K mg base CX0 1 (He.fAd K ("Plan", some "doors")) (fdAt K ("Plan", some "doors")) ["self"] (sp_PlanDoors K) := by
  refine okD (T.def_ 10 (d := d_Plan_doors)) sc_Plan_doors len_PlanDoors (fun cdv A outer s H vs Q E hr hg h => ⟨t_PlanDoors K, PSs.nox ?_, rd_PlanDoors h⟩)
  exact pss_one (ps_ret (pe_callTy call_list_of (by rfl) (T.free 37) (by decide +kernel) (pa_cons (pe_fld (pv 0) rfl) pa_nil)))
theorem sc_PlanU_lenU : FnScope ["self"] ["self"] (defScope s_PlanU_lenU) := ⟨rfl, rfl, rfl, by decide +kernel, rfl, by decide +kernel, by decide +kernel⟩
theorem ok_PlanU_lenU (T : Tx K mg) : Ok P w K mg base CX0 1 (He.fAd K ("Plan", some "__len__")) (fdAt K ("Plan", some "__len__")) ["self"] (sp_PlanLen K) := by
  refine okD (T.def_ 11 (d := d_PlanU_lenU)) sc_PlanU_lenU len_PlanLen (fun cdv A outer s H vs Q E hr hg h => ⟨t_PlanLen K, PSs.nox ?_, rd_PlanLen h⟩)
  exact pss_one (ps_ret (pe_callB call_len_seq (by rfl) (T.free 26) (by decide +kernel) (pa_cons (pe_fld (pv 0) rfl) pa_nil)))
theorem sc_all_sets : FnScope ["plan", "named", "found", "level", "size", "row", "k"] ["plan"] (defScope s_all_sets) := ⟨rfl, rfl, rfl, by decide +kernel, rfl, by decide +kernel, by decide +kernel⟩
theorem ok_all_sets (T : Tx K mg) : Ok P w K mg base CX0 2 (He.fAd K ("all_sets", none)) (fdAt K ("all_sets", none)) ["plan"] (sp_all_sets K) := by
  refine okD (T.def_ 12 (d := d_all_sets)) sc_all_sets len_all_sets (fun cdv A outer s H vs Q E hr hg h => ⟨t_all_sets K, PSs.nox ?_, rd_all_sets h⟩)
  exact pss_cons (ps_set (i := 1) sc_all_sets.nd rfl (by first | exact Or.inl rfl | exact Or.inr rfl) (c_meth0 (ok_Plan_rooms T) (c_Plan_rooms T) (hr.mono (by decide)) hg pass0 (pv 0)))
      (pss_cons (ps_set (i := 2) sc_all_sets.nd rfl (by first | exact Or.inl rfl | exact Or.inr rfl) (pe_lst (pa_cons (pe_lst pa_nil) pa_nil)))
      (pss_cons (ps_set (i := 3) sc_all_sets.nd rfl (by first | exact Or.inl rfl | exact Or.inr rfl) (pe_lst (pa_cons (pe_tup pa_nil) pa_nil)))
      (pss_cons (ps_for PassesOwn.never rfl (pi_range1 (by rfl) (T.free 29) (pa_cons (pe_callB call_len_seq (by rfl) (T.free 26) (by decide +kernel) (pa_cons (pv 1) pa_nil)) pa_nil)) (pg_name (i := 4) sc_all_sets.nd rfl (by first | exact Or.inl rfl | exact Or.inr rfl)) (pss_cons (ps_setLc2 (i := 3) (own := [("row", 5), ("k", 6)]) (vs1 := [6]) (g := gName 5) (tt := tYes) (wi1 := iRng1 (tCons (tCB (rLenSeq K) (tCons (tVar 1) tNil)) tNil)) (g1 := gName 6) (tt1 := tOr (tTest (tOp (rEqD K) (tVar 5) (tTup tNil))) (tTest (tOp (rI0 fun i j => .bl (decide (j < i))) (tVar 6) (tOp (rIxT K) (tVar 5) (tUn (rU fun i => .int (-i)) (tC (.int 1))))))) (te := tOp (rCatA K) (tVar 5) (tTup (tCons (tVar 6) tNil))) rfl sc_all_sets.nd rfl rfl (sw_true rfl rfl rfl (by decide +kernel)) (pi_list (pv 3)) (blkOk_by (own := [("row", 5), ("k", 6)]) (N := ["plan", "named", "found", "level", "size", "row", "k"]) (sc := defScope s_all_sets) (by decide +kernel)) (by decide) (fun _ _ _ _ _ => pg_name (i := 5) sc_all_sets.nd rfl (by first | exact Or.inl rfl | exact Or.inr rfl)) (fun _ _ _ _ _ => pts_nil) (fun _ _ _ _ _ => pi_range1 (by rfl) (T.free 29) (pa_cons (pe_callB call_len_seq (by rfl) (T.free 26) (by decide +kernel) (pa_cons (pv 1) pa_nil)) pa_nil)) (fun _ _ _ _ _ => pg_name (i := 6) sc_all_sets.nd rfl (by first | exact Or.inl rfl | exact Or.inr rfl)) (fun _ _ _ _ _ => pts_one (PW.pt (pw_or (pt_cmpR (op_eqD hr.units) (pv 5) (pe_tup pa_nil) (nomark _)) (pw_or1 (pt_cmpR op_gt (pv 6) (pe_ix ix_tup (pv 5) (pe_un un_neg pe_int) (fun _ _ => rfl)) (nomark _)))))) (fun _ _ _ _ _ => pe_op op_catA (pv 5) (pe_tup (pa_cons (pv 6) pa_nil))))
      (pss_one (ps_expr (pe_bm PySem.F.plainAttrs_list PySem.F.slot_list_extend PySem.F.type_list_extend mt_extend (pv 2) (pa_cons (pe_lc (own := [("row", 5)]) (g := gName 5) (tt := tYes) (te := tLc (iTup K (tVar 5)) (gName 6) tYes (tOp (rIxL K) (tVar 1) (tVar 6)) [6]) rfl sc_all_sets.nd (pi_list (pv 3)) (blkOk_by (own := [("row", 5)]) (N := ["plan", "named", "found", "level", "size", "row", "k"]) (sc := defScope s_all_sets) (by decide +kernel)) (fun _ _ _ _ _ => pg_name (i := 5) sc_all_sets.nd rfl (by first | exact Or.inl rfl | exact Or.inr rfl)) (fun _ _ _ _ _ => pts_nil) (fun _ _ _ _ _ => pe_lc (own := [("k", 6)]) (g := gName 6) (tt := tYes) (te := tOp (rIxL K) (tVar 1) (tVar 6)) rfl sc_all_sets.nd (pi_tup (pv 5)) (blkOk_by (own := [("k", 6)]) (N := ["plan", "named", "found", "level", "size", "row", "k"]) (by kernel_rfl)) (fun _ _ _ _ _ => pg_name (i := 6) sc_all_sets.nd rfl (by first | exact Or.inl rfl | exact Or.inr rfl)) (fun _ _ _ _ _ => pts_nil) (fun _ _ _ _ _ => pe_ix ix_list (pv 1) (pv 6) (fun _ _ => rfl)))) pa_nil))))))
      (pss_one (ps_ret (pv 2))))))
theorem sc__law_pot : FnScope ["_law_script", "_law_k", "_law_cell", "_law_number"] ["_law_script", "_law_k"] (defScope s__law_pot) := ⟨rfl, rfl, rfl, by decide +kernel, rfl, by decide +kernel, by decide +kernel⟩
theorem ok__law_pot (T : Tx K mg) : Ok P w K mg base CX0 1 (He.fAd K ("_law_pot", none)) (fdAt K ("_law_pot", none)) ["_law_script", "_law_k"] (sp_pot K) := by
  refine okD (T.def_ 13 (d := d__law_pot)) sc__law_pot len_pot (fun cdv A outer s H vs Q E hr hg h => ⟨t_pot K, PSs.nox ?_, rd_pot h⟩)
  exact pss_cons (ps_set (i := 2) sc__law_pot.nd rfl (by first | exact Or.inl rfl | exact Or.inr rfl) (pe_op op_add (pe_op op_mul pe_int (pv 1)) pe_int))
      (pss_cons (ps_if (pt_cmpR op_lt (pv 1) (pe_callB call_len_seq (by rfl) (T.free 26) (by decide +kernel) (pa_cons (pv 0) pa_nil)) (nomark _)) (pss_one (ps_set (i := 2) sc__law_pot.nd rfl (by first | exact Or.inl rfl | exact Or.inr rfl) (pe_callB call_abs (by rfl) (T.free 27) (by decide +kernel) (pa_cons (pe_ix ix_list (pv 0) (pv 1) (fun _ _ => rfl)) pa_nil)))) pss_nil)
      (pss_cons (ps_set (i := 3) sc__law_pot.nd rfl (by first | exact Or.inl rfl | exact Or.inr rfl) (pe_op op_mod (pe_op op_add (pe_op op_add (pv 2) (pe_op op_mul pe_int (pv 1))) pe_int) pe_int))
      (pss_one (ps_ret (pe_lst (pa_cons (pe_callB (call_max2 rfl) (by rfl) (T.free 28) (by decide +kernel) (pa_cons pe_int (pa_cons (pe_op op_sub (pv 2) (pe_op op_pow pe_int pe_int)) pa_nil))) (pa_cons (pe_op op_add (pe_op op_mod (pe_op op_mul (pv 3) (pv 3)) pe_int) pe_int) pa_nil)))))))
theorem sc__law_take : FnScope ["_law_pot_here", "_law_many", "_law_digit"] ["_law_pot_here", "_law_many"] (defScope s__law_take) := ⟨rfl, rfl, rfl, by decide +kernel, rfl, by decide +kernel, by decide +kernel⟩
theorem ok__law_take (T : Tx K mg) : Ok P w K mg base CX0 1 (He.fAd K ("_law_take", none)) (fdAt K ("_law_take", none)) ["_law_pot_here", "_law_many"] (sp_take K) := by
  refine okD (T.def_ 14 (d := d__law_take)) sc__law_take len_take (fun cdv A outer s H vs Q E hr hg h => ⟨t_take K, PSs.nox ?_, rd_take h⟩)
  exact pss_cons (ps_if (pt_cmpR op_gt (pe_ix ix_list (pv 0) pe_int (fun _ _ => rfl)) pe_int (nomark _)) (pss_cons (ps_asg (pe_callB call_divmod (by rfl) (T.free 25) (by decide +kernel) (pa_cons (pe_ix ix_list (pv 0) pe_int (fun _ _ => rfl)) (pa_cons (pv 1) pa_nil))) (pg_tup (n := 2) rfl (pgs_cons (pg_sub (pv 0) pe_int set_list) (pgs_cons (pg_name (i := 2) sc__law_take.nd rfl (by first | exact Or.inl rfl | exact Or.inr rfl)) pgs_nil))))
      (pss_one (ps_ret (pv 2)))) pss_nil)
      (pss_cons (ps_asg (pe_op op_mod (pe_op op_add (pe_op op_mul (pe_ix ix_list (pv 0) pe_int (fun _ _ => rfl)) pe_int) pe_int) pe_int) (pg_sub (pv 0) pe_int set_list))
      (pss_one (ps_ret (pe_op op_mod (pe_op op_fdiv (pe_op op_mod (pe_op op_mul (pe_ix ix_list (pv 0) pe_int (fun _ _ => rfl)) (pe_ix ix_list (pv 0) pe_int (fun _ _ => rfl))) pe_int) pe_int) (pv 1)))))
theorem sc__law_name : FnScope ["_law_pot_here", "_law_taken", "_law_letters", "_law_name_here", "_law_k", "_law_letter"] ["_law_pot_here", "_law_taken"] (defScope s__law_name) := ⟨rfl, rfl, rfl, by decide +kernel, rfl, by decide +kernel, by decide +kernel⟩
theorem ok__law_name (T : Tx K mg) : Ok P w K mg base CX0 2 (He.fAd K ("_law_name", none)) (fdAt K ("_law_name", none)) ["_law_pot_here", "_law_taken"] (sp_name K) := by
  refine okD (T.def_ 15 (d := d__law_name)) sc__law_name len_name (fun cdv A outer s H vs Q E hr hg h => ⟨t_name K, PSs.nox ?_, rd_name h⟩)
  exact pss_cons (ps_set (i := 2) sc__law_name.nd rfl (by first | exact Or.inl rfl | exact Or.inr rfl) pe_str)
      (pss_cons (ps_set (i := 3) sc__law_name.nd rfl (by first | exact Or.inl rfl | exact Or.inr rfl) (pe_join pe_str (pe_lc (own := [("_law_k", 4)]) (g := gName 4) (tt := tYes) (te := tOp rIxS (tVar 2) (tF (sp_take K) E0 (tCons (tVar 0) (tCons (tC (.int 26)) tNil)))) rfl sc__law_name.nd (pi_range1 (by rfl) (T.free 29) (pa_cons (pe_op op_add pe_int (c_call (ok__law_take T) (c__law_take T) (hr.mono (by decide)) hg pass0 (pa_cons (pv 0) (pa_cons pe_int pa_nil)))) pa_nil)) (blkOk_by (own := [("_law_k", 4)]) (N := ["_law_pot_here", "_law_taken", "_law_letters", "_law_name_here", "_law_k", "_law_letter"]) (sc := defScope s__law_name) (by decide +kernel)) (fun _ _ _ _ _ => pg_name (i := 4) sc__law_name.nd rfl (by first | exact Or.inl rfl | exact Or.inr rfl)) (fun _ _ _ _ _ => pts_nil) (fun _ _ _ _ _ => pe_ix ix_str (pv 2) (c_call (ok__law_take T) (c__law_take T) (hr.mono (by decide)) hg pass0 (pa_cons (pv 0) (pa_cons pe_int pa_nil))) (fun _ _ => rfl)))))
      (pss_cons (ps_if (pt_cmpR op_in_seq (pv 3) (pv 1) (by rfl)) (pss_one (ps_ret (pe_ix ix_list (pe_lc (own := [("_law_letter", 5)]) (g := gName 5) (tt := tTest (tOp (rIn K true) (tVar 5) (tVar 1))) (te := tVar 5) rfl sc__law_name.nd (pi_str (pv 2)) (blkOk_by (own := [("_law_letter", 5)]) (N := ["_law_pot_here", "_law_taken", "_law_letters", "_law_name_here", "_law_k", "_law_letter"]) (sc := defScope s__law_name) (by decide +kernel)) (fun _ _ _ _ _ => pg_name (i := 5) sc__law_name.nd rfl (by first | exact Or.inl rfl | exact Or.inr rfl)) (fun _ _ _ _ _ => pts_one (pt_cmpR op_notIn_seq (pv 5) (pv 1) (by rfl))) (fun _ _ _ _ _ => pv 5)) pe_int (fun _ _ => rfl)))) pss_nil)
      (pss_one (ps_ret (pv 3)))))
theorem sc__law_names : FnScope ["_law_pot_here", "_law_many", "_law_taken", "_law_found", "_law_k"] ["_law_pot_here", "_law_many", "_law_taken"] (defScope s__law_names) := ⟨rfl, rfl, rfl, by decide +kernel, rfl, by decide +kernel, by decide +kernel⟩
theorem ok__law_names (T : Tx K mg) : Ok P w K mg base CX0 3 (He.fAd K ("_law_names", none)) (fdAt K ("_law_names", none)) ["_law_pot_here", "_law_many", "_law_taken"] (sp_names K) := by
  refine okD (T.def_ 16 (d := d__law_names)) sc__law_names len_names (fun cdv A outer s H vs Q E hr hg h => ⟨t_names K, PSs.nox ?_, rd_names h⟩)
  exact pss_cons (ps_set (i := 3) sc__law_names.nd rfl (by first | exact Or.inl rfl | exact Or.inr rfl) (pe_lst pa_nil))
      (pss_cons (ps_for PassesOwn.never rfl (pi_range1 (by rfl) (T.free 29) (pa_cons (pv 1) pa_nil)) (pg_name (i := 4) sc__law_names.nd rfl (by first | exact Or.inl rfl | exact Or.inr rfl)) (pss_one (ps_expr (pe_bm PySem.F.plainAttrs_list PySem.F.slot_list_append PySem.F.type_list_append mt_append (pv 3) (pa_cons (c_call (ok__law_name T) (c__law_name T) (hr.mono (by decide)) hg pass0 (pa_cons (pv 0) (pa_cons (pe_op op_cat (pv 2) (pv 3)) pa_nil))) pa_nil)))))
      (pss_one (ps_ret (pv 3))))
theorem sc__law_wide : FnScope ["_law_pot_here"] ["_law_pot_here"] (defScope s__law_wide) := ⟨rfl, rfl, rfl, by decide +kernel, rfl, by decide +kernel, by decide +kernel⟩
theorem ok__law_wide (T : Tx K mg) : Ok P w K mg base CX0 2 (He.fAd K ("_law_wide", none)) (fdAt K ("_law_wide", none)) ["_law_pot_here"] (sp_wide K) := by
  refine okD (T.def_ 17 (d := d__law_wide)) sc__law_wide len_wide (fun cdv A outer s H vs Q E hr hg h => ⟨t_wide K, PSs.nox ?_, rd_wide h⟩)
  exact pss_one (ps_ret (pe_ix ix_list (pe_lst (pa_cons pe_int (pa_cons pe_int (pa_cons pe_int (pa_cons pe_int (pa_cons pe_int (pa_cons pe_int pa_nil))))))) (c_call (ok__law_take T) (c__law_take T) (hr.mono (by decide)) hg pass0 (pa_cons (pv 0) (pa_cons pe_int pa_nil))) (fun _ _ => rfl)))
theorem sc__law_range : FnScope ["_law_pot_here", "_law_wide_here", "_law_has_nought", "_law_least"] ["_law_pot_here", "_law_wide_here", "_law_has_nought"] (defScope s__law_range) := ⟨rfl, rfl, rfl, by decide +kernel, rfl, by decide +kernel, by decide +kernel⟩
theorem ok__law_range (T : Tx K mg) : Ok P w K mg base CX0 2 (He.fAd K ("_law_range", none)) (fdAt K ("_law_range", none)) ["_law_pot_here", "_law_wide_here", "_law_has_nought"] (sp_range K) := by
  refine okD (T.def_ 18 (d := d__law_range)) sc__law_range len_range (fun cdv A outer s H vs Q E hr hg h => ⟨t_range K, PSs.nox ?_, rd_range h⟩)
  exact pss_cons (ps_if (pt_val (pv 2)) (pss_one (ps_ret (pe_tup (pa_cons (pe_op op_sub pe_int (c_call (ok__law_take T) (c__law_take T) (hr.mono (by decide)) hg pass0 (pa_cons (pv 0) (pa_cons (pe_op op_add (pv 1) pe_int) pa_nil)))) (pa_cons (c_call (ok__law_take T) (c__law_take T) (hr.mono (by decide)) hg pass0 (pa_cons (pv 0) (pa_cons (pe_op op_add (pv 1) pe_int) pa_nil))) pa_nil))))) pss_nil)
      (pss_cons (ps_set (i := 3) sc__law_range.nd rfl (by first | exact Or.inl rfl | exact Or.inr rfl) (pe_op op_sub (c_call (ok__law_take T) (c__law_take T) (hr.mono (by decide)) hg pass0 (pa_cons (pv 0) (pa_cons (pe_op op_add (pe_op op_mul pe_int (pv 1)) pe_int) pa_nil))) (pv 1)))
      (pss_one (ps_ret (pe_tup (pa_cons (pv 3) (pa_cons (pe_op op_add (pv 3) (c_call (ok__law_take T) (c__law_take T) (hr.mono (by decide)) hg pass0 (pa_cons (pv 0) (pa_cons (pe_op op_add (pe_op op_sub (pv 1) (pv 3)) pe_int) pa_nil)))) pa_nil))))))
theorem sc__law_door : FnScope ["_law_pot_here", "_law_rooms", "_law_wide_here", "_law_has_nought", "_law_near", "_law_far", "_law_least", "_law_most"] ["_law_pot_here", "_law_rooms", "_law_wide_here", "_law_has_nought"] (defScope s__law_door) := ⟨rfl, rfl, rfl, by decide +kernel, rfl, by decide +kernel, by decide +kernel⟩
theorem ok__law_door (T : Tx K mg) : Ok P w K mg base CX0 3 (He.fAd K ("_law_door", none)) (fdAt K ("_law_door", none)) ["_law_pot_here", "_law_rooms", "_law_wide_here", "_law_has_nought"] (sp_door K) := by
  refine okD (T.def_ 19 (d := d__law_door)) sc__law_door len_door (fun cdv A outer s H vs Q E hr hg h => ⟨t_door K, PSs.nox ?_, rd_door h⟩)
  exact pss_cons (ps_set (i := 4) sc__law_door.nd rfl (by first | exact Or.inl rfl | exact Or.inr rfl) (c_call (ok__law_take T) (c__law_take T) (hr.mono (by decide)) hg pass0 (pa_cons (pv 0) (pa_cons (pe_callB call_len_seq (by rfl) (T.free 26) (by decide +kernel) (pa_cons (pv 1) pa_nil)) pa_nil))))
      (pss_cons (ps_set (i := 5) sc__law_door.nd rfl (by first | exact Or.inl rfl | exact Or.inr rfl) (pe_op op_mod (pe_op op_add (pe_op op_add (pv 4) pe_int) (c_call (ok__law_take T) (c__law_take T) (hr.mono (by decide)) hg pass0 (pa_cons (pv 0) (pa_cons (pe_op op_sub (pe_callB call_len_seq (by rfl) (T.free 26) (by decide +kernel) (pa_cons (pv 1) pa_nil)) pe_int) pa_nil)))) (pe_callB call_len_seq (by rfl) (T.free 26) (by decide +kernel) (pa_cons (pv 1) pa_nil))))
      (pss_cons (ps_asg (c_call (ok__law_range T) (c__law_range T) (hr.mono (by decide)) hg pass0 (pa_cons (pv 0) (pa_cons (pv 2) (pa_cons (pv 3) pa_nil)))) (pg_tup (n := 2) rfl (pgs_cons (pg_name (i := 6) sc__law_door.nd rfl (by first | exact Or.inl rfl | exact Or.inr rfl)) (pgs_cons (pg_name (i := 7) sc__law_door.nd rfl (by first | exact Or.inl rfl | exact Or.inr rfl)) pgs_nil))))
      (pss_one (ps_ret (pe_tup (pa_cons (pe_ix ix_list (pv 1) (pv 4) (fun _ _ => rfl)) (pa_cons (pe_ix ix_list (pv 1) (pv 5) (fun _ _ => rfl)) (pa_cons (pv 6) (pa_cons (pv 7) pa_nil)))))))))
theorem sc__law_doors : FnScope ["_law_pot_here", "_law_rooms", "_law_many", "_law_has_nought", "_law_wide_here", "_law_k"] ["_law_pot_here", "_law_rooms", "_law_many", "_law_has_nought"] (defScope s__law_doors) := ⟨rfl, rfl, rfl, by decide +kernel, rfl, by decide +kernel, by decide +kernel⟩
theorem ok__law_doors (T : Tx K mg) : Ok P w K mg base CX0 4 (He.fAd K ("_law_doors", none)) (fdAt K ("_law_doors", none)) ["_law_pot_here", "_law_rooms", "_law_many", "_law_has_nought"] (sp_doors K) := by
  refine okD (T.def_ 20 (d := d__law_doors)) sc__law_doors len_doors (fun cdv A outer s H vs Q E hr hg h => ⟨t_doors K, PSs.nox ?_, rd_doors h⟩)
  exact pss_cons (ps_if (pt_cmpR op_lt (pe_callB call_len_seq (by rfl) (T.free 26) (by decide +kernel) (pa_cons (pv 1) pa_nil)) pe_int (nomark _)) (pss_one (ps_ret (pe_lst pa_nil))) pss_nil)
      (pss_cons (ps_set (i := 4) sc__law_doors.nd rfl (by first | exact Or.inl rfl | exact Or.inr rfl) (c_call (ok__law_wide T) (c__law_wide T) (hr.mono (by decide)) hg pass0 (pa_cons (pv 0) pa_nil)))
      (pss_one (ps_ret (pe_lc (own := [("_law_k", 5)]) (g := gName 5) (tt := tYes) (te := tF (sp_door K) E0 (tCons (tVar 0) (tCons (tVar 1) (tCons (tVar 4) (tCons (tVar 3) tNil))))) rfl sc__law_doors.nd (pi_range1 (by rfl) (T.free 29) (pa_cons (pv 2) pa_nil)) (blkOk_by (own := [("_law_k", 5)]) (N := ["_law_pot_here", "_law_rooms", "_law_many", "_law_has_nought", "_law_wide_here", "_law_k"]) (sc := defScope s__law_doors) (by decide +kernel)) (fun _ _ _ _ _ => pg_name (i := 5) sc__law_doors.nd rfl (by first | exact Or.inl rfl | exact Or.inr rfl)) (fun _ _ _ _ _ => pts_nil) (fun _ _ _ _ _ => c_call (ok__law_door T) (c__law_door T) (hr.mono (by decide)) hg pass0 (pa_cons (pv 0) (pa_cons (pv 1) (pa_cons (pv 4) (pa_cons (pv 3) pa_nil)))))))))
theorem sc__law_lists : FnScope ["_law_pot_here", "_law_rooms"] ["_law_pot_here"] (defScope s__law_lists) := ⟨rfl, rfl, rfl, by decide +kernel, rfl, by decide +kernel, by decide +kernel⟩
theorem ok__law_lists (T : Tx K mg) : Ok P w K mg base CX0 5 (He.fAd K ("_law_lists", none)) (fdAt K ("_law_lists", none)) ["_law_pot_here"] (sp_lists K) := by
  refine okD (T.def_ 21 (d := d__law_lists)) sc__law_lists len_lists (fun cdv A outer s H vs Q E hr hg h => ⟨t_lists K, PSs.nox ?_, rd_lists h⟩)
  exact pss_cons (ps_set (i := 1) sc__law_lists.nd rfl (by first | exact Or.inl rfl | exact Or.inr rfl) (c_call (ok__law_names T) (c__law_names T) (hr.mono (by decide)) hg pass0 (pa_cons (pv 0) (pa_cons (pe_op op_add pe_int (c_call (ok__law_take T) (c__law_take T) (hr.mono (by decide)) hg pass0 (pa_cons (pv 0) (pa_cons pe_int pa_nil)))) (pa_cons (pe_lst pa_nil) pa_nil)))))
      (pss_one (ps_ret (pe_tup (pa_cons (pv 1) (pa_cons (c_call (ok__law_doors T) (c__law_doors T) (hr.mono (by decide)) hg pass0 (pa_cons (pv 0) (pa_cons (pv 1) (pa_cons (c_call (ok__law_take T) (c__law_take T) (hr.mono (by decide)) hg pass0 (pa_cons (pv 0) (pa_cons pe_int pa_nil))) (pa_cons pe_bl pa_nil))))) pa_nil)))))
theorem sc__law_all : FnScope ["_law_rooms", "_law_rows", "_law_number", "_law_places", "_law_row", "_law_k"] ["_law_rooms"] (defScope s__law_all) := ⟨rfl, rfl, rfl, by decide +kernel, rfl, by decide +kernel, by decide +kernel⟩
theorem ok__law_all (T : Tx K mg) : Ok P w K mg base CX0 1 (He.fAd K ("_law_all", none)) (fdAt K ("_law_all", none)) ["_law_rooms"] (sp_lall K) := by
  refine okD (T.def_ 22 (d := d__law_all)) sc__law_all len_lall (fun cdv A outer s H vs Q E hr hg h => ⟨t_lall K, PSs.nox ?_, rd_lall h⟩)
  exact pss_cons (ps_set (i := 1) sc__law_all.nd rfl (by first | exact Or.inl rfl | exact Or.inr rfl) (pe_lst pa_nil))
      (pss_cons (ps_for PassesOwn.never rfl (pi_range1 (by rfl) (T.free 29) (pa_cons (pe_op op_shl pe_int (pe_callB call_len_seq (by rfl) (T.free 26) (by decide +kernel) (pa_cons (pv 0) pa_nil))) pa_nil)) (pg_name (i := 2) sc__law_all.nd rfl (by first | exact Or.inl rfl | exact Or.inr rfl)) (pss_cons (ps_setLc (i := 3) (own := [("_law_k", 5)]) (g := gName 5) (tt := tTest (tOp rEq (tOp (rI0 fun i j => .int (Builtin.bitAnd i j)) (tOp (rI (fun _ j => 0 ≤ j) fun i j => .int (i / 2 ^ j.toNat)) (tVar 2) (tVar 5)) (tC (.int 1))) (tC (.int 1)))) (te := tVar 5) rfl sc__law_all.nd rfl rfl (sw_true rfl rfl rfl (by decide +kernel)) (pi_range1 (by rfl) (T.free 29) (pa_cons (pe_callB call_len_seq (by rfl) (T.free 26) (by decide +kernel) (pa_cons (pv 0) pa_nil)) pa_nil)) (blkOk_by (own := [("_law_k", 5)]) (N := ["_law_rooms", "_law_rows", "_law_number", "_law_places", "_law_row", "_law_k"]) (sc := defScope s__law_all) (by decide +kernel)) (fun _ _ _ _ _ => pg_name (i := 5) sc__law_all.nd rfl (by first | exact Or.inl rfl | exact Or.inr rfl)) (fun _ _ _ _ _ => pts_one (pt_cmpR op_eq (pe_op op_and (pe_op op_shr (pv 2) (pv 5)) pe_int) pe_int (nomark _))) (fun _ _ _ _ _ => pv 5))
      (pss_one (ps_expr (pe_bm PySem.F.plainAttrs_list PySem.F.slot_list_append PySem.F.type_list_append mt_append (pv 1) (pa_cons (pe_op op_cat (pe_lst (pa_cons (pe_callB call_len_seq (by rfl) (T.free 26) (by decide +kernel) (pa_cons (pv 3) pa_nil)) pa_nil)) (pv 3)) pa_nil))))))
      (pss_one (ps_ret (pe_lc (own := [("_law_row", 4)]) (g := gName 4) (tt := tYes) (te := tLc (iList K (tSl (rSlL K) (tVar 4) (tPart (tC (.int 1))) tNoPart)) (gName 5) tYes (tOp (rIxL K) (tVar 0) (tVar 5)) [5]) rfl sc__law_all.nd (pi_list (pe_callB (cr_sortLL hr.units) (by rfl) (T.free 44) (by decide +kernel) (pa_cons (pv 1) pa_nil))) (blkOk_by (own := [("_law_row", 4)]) (N := ["_law_rooms", "_law_rows", "_law_number", "_law_places", "_law_row", "_law_k"]) (sc := defScope s__law_all) (by decide +kernel)) (fun _ _ _ _ _ => pg_name (i := 4) sc__law_all.nd rfl (by first | exact Or.inl rfl | exact Or.inr rfl)) (fun _ _ _ _ _ => pts_nil) (fun _ _ _ _ _ => pe_lc (own := [("_law_k", 5)]) (g := gName 5) (tt := tYes) (te := tOp (rIxL K) (tVar 0) (tVar 5)) rfl sc__law_all.nd (pi_list (pe_slice sl_list (pv 4) (po_some pe_int) po_none)) (blkOk_by (own := [("_law_k", 5)]) (N := ["_law_rooms", "_law_rows", "_law_number", "_law_places", "_law_row", "_law_k"]) (by kernel_rfl)) (fun _ _ _ _ _ => pg_name (i := 5) sc__law_all.nd rfl (by first | exact Or.inl rfl | exact Or.inr rfl)) (fun _ _ _ _ _ => pts_nil) (fun _ _ _ _ _ => pe_ix ix_list (pv 0) (pv 5) (fun _ _ => rfl)))))))
theorem sc__law_sets_right : FnScope ["_law_pot_here", "_law_rooms", "_law_doors_here", "_law_plan", "_law_due", "_law_told"] ["_law_pot_here"] (defScope s__law_sets_right) := ⟨rfl, rfl, rfl, by decide +kernel, rfl, by decide +kernel, by decide +kernel⟩
theorem ok__law_sets_right (T : Tx K mg) : Ok P w K mg base CX0 7 (He.fAd K ("_law_sets_right", none)) (fdAt K ("_law_sets_right", none)) ["_law_pot_here"] (sp_right K) := by
  refine okD (T.def_ 23 (d := d__law_sets_right)) sc__law_sets_right len_right (fun cdv A outer s H vs Q E hr hg h => ⟨t_right K, PSs.nox ?_, rd_right h⟩)
  exact pss_cons (ps_asg (c_call (ok__law_lists T) (c__law_lists T) (hr.mono (by decide)) hg pass0 (pa_cons (pv 0) pa_nil)) (pg_tup (n := 2) rfl (pgs_cons (pg_name (i := 1) sc__law_sets_right.nd rfl (by first | exact Or.inl rfl | exact Or.inr rfl)) (pgs_cons (pg_name (i := 2) sc__law_sets_right.nd rfl (by first | exact Or.inl rfl | exact Or.inr rfl)) pgs_nil))))
      (pss_cons (ps_set (i := 3) sc__law_sets_right.nd rfl (by first | exact Or.inl rfl | exact Or.inr rfl) (c_make (ok_PlanU_initU T) (c_PlanU_initU T) (hr.mono (by decide)) hg pass0 (pa_cons (pv 1) (pa_cons (pv 2) pa_nil))))
      (pss_cons (ps_set (i := 4) sc__law_sets_right.nd rfl (by first | exact Or.inl rfl | exact Or.inr rfl) (c_call (ok__law_all T) (c__law_all T) (hr.mono (by decide)) hg pass0 (pa_cons (pv 1) pa_nil)))
      (pss_cons (ps_set (i := 5) sc__law_sets_right.nd rfl (by first | exact Or.inl rfl | exact Or.inr rfl) (c_call (ok_all_sets T) (c_all_sets T) (hr.mono (by decide)) hg pass0 (pa_cons (pv 3) pa_nil)))
      (pss_cons (ps_if (pt_cmpR op_ne (pe_callB (call_reprD hg hr.units) (by rfl) (T.free 45) (by decide +kernel) (pa_cons (pv 5) pa_nil)) (pe_callB (call_reprD hg hr.units) (by rfl) (T.free 45) (by decide +kernel) (pa_cons (pv 4) pa_nil)) (nomark _)) (pss_one (ps_ret pe_bl)) pss_nil)
      (pss_cons (ps_expr (pe_bm PySem.F.plainAttrs_list PySem.F.slot_list_append PySem.F.type_list_append mt_append (pe_ix ix_list (pv 5) (pe_un un_neg pe_int) (fun _ _ => rfl)) (pa_cons pe_str pa_nil)))
      (pss_cons (ps_expr (pe_bm PySem.F.plainAttrs_list PySem.F.slot_list_append PySem.F.type_list_append mt_append (pe_ix ix_list (pv 5) pe_int (fun _ _ => rfl)) (pa_cons pe_str pa_nil)))
      (pss_cons (ps_expr (pe_bm PySem.F.plainAttrs_list PySem.F.slot_list_append PySem.F.type_list_append mt_append (pv 5) (pa_cons (pe_ix ix_list (pv 1) pe_int (fun _ _ => rfl)) pa_nil)))
      (pss_one (ps_ret (pe_and (pe_cmpR op_eq (pe_callB (call_reprD hg hr.units) (by rfl) (T.free 45) (by decide +kernel) (pa_cons (c_call (ok_all_sets T) (c_all_sets T) (hr.mono (by decide)) hg pass0 (pa_cons (pv 3) pa_nil)) pa_nil)) (pe_callB (call_reprD hg hr.units) (by rfl) (T.free 45) (by decide +kernel) (pa_cons (pv 4) pa_nil)) (nomark _)) (pe_one (pe_cmpR (op_eqD hr.units) (c_meth0 (ok_Plan_rooms T) (c_Plan_rooms T) (hr.mono (by decide)) hg pass0 (pv 3)) (pv 1) (nomark _)))))))))))))
theorem sc_law : FnScope ["_law_script", "_law_k"] ["_law_script"] (defScope s_law) := ⟨rfl, rfl, rfl, by decide +kernel, rfl, by decide +kernel, by decide +kernel⟩
theorem ok_law (T : Tx K mg) : Ok P w K mg base CX0 8 (He.fAd K ("law", none)) (fdAt K ("law", none)) ["_law_script"] (sp_law K) := by
  refine okD (T.def_ 24 (d := d_law)) sc_law len_law (fun cdv A outer s H vs Q E hr hg h => ⟨t_law K, PSs.nox ?_, rd_law h⟩)
  exact pss_one (ps_ret (pe_callB (cr_all rfl) (by rfl) (T.free 34) (by decide +kernel) (pa_cons (pe_lc (own := [("_law_k", 1)]) (g := gName 1) (tt := tYes) (te := tF (sp_right K) E0 (tCons (tF (sp_pot K) E0 (tCons (tVar 0) (tCons (tVar 1) tNil))) tNil)) rfl sc_law.nd (pi_range1 (by rfl) (T.free 29) (pa_cons (pe_callB (call_max2 rfl) (by rfl) (T.free 28) (by decide +kernel) (pa_cons pe_int (pa_cons (pe_callB (call_min2 rfl) (by rfl) (T.free 46) (by decide +kernel) (pa_cons (pe_callB call_len_seq (by rfl) (T.free 26) (by decide +kernel) (pa_cons (pv 0) pa_nil)) (pa_cons pe_int pa_nil))) pa_nil))) pa_nil)) (blkOk_by (own := [("_law_k", 1)]) (N := ["_law_script", "_law_k"]) (sc := defScope s_law) (by decide +kernel)) (fun _ _ _ _ _ => pg_name (i := 1) sc_law.nd rfl (by first | exact Or.inl rfl | exact Or.inr rfl)) (fun _ _ _ _ _ => pts_nil) (fun _ _ _ _ _ => c_call (ok__law_sets_right T) (c__law_sets_right T) (hr.mono (by decide)) hg pass0 (pa_cons (c_call (ok__law_pot T) (c__law_pot T) (hr.mono (by decide)) hg pass0 (pa_cons (pv 0) (pa_cons (pv 1) pa_nil))) pa_nil))) pa_nil)))
end
end Dc
namespace Dc
open PySem PySem.Spec PyProof.Rows L2
abbrev R : PySem.W.OpenRow := PySem.W.OpenLaw.row PySem.Challenge.rw_doorcount_k31_sets_in_order
abbrev hk : PySem.W.Hook := He.hookD 5 fa fn
def ob (s : PySem.W.SharedT) : He.AlD := He.obsDG 5 fa fn (HandSHeadRun.getT s)
theorem ob_eq (s : PySem.W.SharedT) : ob s = hk.obs s.abs := He.obsDG_eq (HandSHeadRun.getT_eq s)
def looseNames : List PySem.Str := (["_wall", "HouseError", "NoSuch", "NoPlan", "all_sets", "WIDEST", "MOST_ROOMS", "MOST_DOORS", "MOST_LETTERS", "IN_DOOR", "LETTERS", "is_name", "is_whole", "is_row", "want_rooms", "want_ends", "is_bound", "want_range", "want_doors", "Plan"] : List PySem.Str) ++ (["_law_pot", "_law_take", "_law_among", "_law_name", "_law_names", "_law_wide", "_law_range", "_law_door", "_law_doors", "_law_lists", "_law_all", "_law_sets_right"] : List PySem.Str)
theorem run (w : World) : HandSHeadRun.RunEq R (PySem.W.view R.prog [36]) hk ob 20000 looseNames w := by
  intro os
  kernel_rfl
end Dc
open PySem PySem.W PySem.Calls PyProof.Rows
theorem PySem.Challenge.cw_doorcount_k31_sets_in_order_holds : PySem.Challenge.rw_doorcount_k31_sets_in_order.Holds := by
  w_on; o_law
  refine HandSHeadRun.head_any (r := Dc.R) (q := view Dc.R.prog [36]) (H := Dc.hk) (ob := Dc.ob) (M := 20000) (loose := Dc.looseNames) (d := HandSHeadRun.topDef Dc.R.prog 36) (kwd := []) Dc.ob_eq
    (by kernel_rfl) (fun s => by kernel_rfl) Dc.run (by kernel_rfl) (by kernel_rfl) (by kernel_rfl) (by rfl) (by first | assumption | decide +kernel) (by decide +kernel) ⟨rfl, rfl, rfl, rfl, rfl, by decide +kernel⟩ ?hw ?hc
  case hw => w_witness2
  case hc =>
    refine Dc.walkE (l := PySem.Challenge.rw_doorcount_k31_sets_in_order) (n := 63) (k := 8) (x := "_law_script") (CX := fun _ => L2.CX0) rfl (by decide) (by kernel_rfl) ⟨rfl, by decide, by decide⟩ ?F (fun _ _ _ _ _ z => z)
    intro w mg fa h Y G hmg0
    obtain ⟨K, KX, c⟩ := Y
    have T : Dc.Tx K mg := ⟨c, h, KX, G⟩
    have hmg : mg ("law" : PySem.Str) = some (.ref fa) := by
      have e : (HandSHeadRun.topDef Dc.R.prog 36).name = ("law" : PySem.Str) := by kernel_rfl
      rw [← e]
      exact hmg0
    have e := hmg.symm.trans (T.glo 20)
    cases e
    have b := L2.FunD.bindsA (ps := ["_law_script"]) (T.def_ 24 (d := Dc.d_law)) fun _ _ _ _ _ _ us hl => match us, hl with | [_], _ => rfl
    exact ⟨K, _, Dc.sp_law K, KX, fun s v => b s [v] rfl, fun H a ns hl hS => ⟨a, ns, rfl, hS, hl, ⟨T.cls 47, T.noat 48, T.noat 49⟩, fun _ => rfl⟩, fun base _ _ => Dc.ok_law T⟩
