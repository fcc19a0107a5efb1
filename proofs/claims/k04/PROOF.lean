import PyProof.Rows.All
import Wide.All
import OpenK.AllK
import Wide.FinOn
import HandS.Base
import HandS.Call
import HandS.Ends
import HandS.Defaults
import HandS.Lambda
import KE.KStateDown
import HandS.ForMost
import HandS.Walk
import HandS.More
import HandS.Flow
import HandS.Style
import HandS.Wide
import HandS.WideMore
import HandS.IsInst
import HandS.TupAny
import HandS.DictComp
import HandS.Conv
import HandS.SortInts
import KE.SortData
import HandS.Exc
import HandS.RaiseMore
import KE.GoesMore
import HandS.CallSlots
import HandS.ExcOwn
import HandS.SetFor
import HandS.Set
import HandS.SetKeys
import KE.KDictPairs
import HandS.EndBits
import HandS.HeadEnd
import HandS.Head2
import HandS.HeadHook2
import HandS.EndTab
import PyProof.ReprRoads
import PyProof.ReprBulk
import HandS.Codes
import HandS.OwnEq
import PyProof.InstNe
import KE.KOwnIter
import HandS.IterVal
import HandS.HeadHook4
import HandS.ExcInit
import HandS.ExcField
import HandS.ExcIs
import KE.KExcSuper
import HandS.Deep
import HandS.Text
import PySem.Challenge.RW_giftbars_k04_whole_left
set_option Elab.async false
set_option linter.all false
set_option maxRecDepth 100000
set_option maxHeartbeats 4000000
namespace L2
open PySem PySem.Spec PyProof.Rows
/-! ### calls where no repr is under way -/
structure RoomG (k : Nat) (A : Around) : Prop where
  r : Room k A
  g : A.guards = some []
theorem RoomG.mono {j k : Nat} {A : Around} (h : RoomG k A) (l : j ≤ k) : RoomG j A := ⟨h.r.mono l, h.g⟩
theorem RoomG.deeper {k : Nat} {A : Around} (h : RoomG (k + 1) A) (env : Env) : RoomG k (A.deeper env) := ⟨h.r.deeper env, h.g⟩
theorem RoomG.hd {k : Nat} {A : Around} (h : RoomG k A) : A.handled = none := h.r.hd
theorem RoomG.depth {k : Nat} {A : Around} (h : RoomG k A) : A.depth < recursionLimit := h.r.depth
theorem RoomG.units {k : Nat} {A : Around} (h : RoomG k A) : A.units + 64 < cLine := h.r.units
theorem make_guards {A : Around} {C : Addr} {us : List Value} {kw : List (Str × Value)} : (A.under (.builtin "type.__call__" ⟨.ref C :: us, kw⟩)).guards = A.guards := by
  first | rfl | simp [Around.under, Code.weight, Code.isCreation, Code.isGuard, Code.isCaller, Code.frames, Code.isFrame, guardIds]
theorem RoomG.make {k : Nat} {A : Around} (h : RoomG (k + 1) A) (C : Addr) (us : List Value) (kw : List (Str × Value)) : RoomG k (A.under (.builtin "type.__call__" ⟨.ref C :: us, kw⟩)) := ⟨h.r.make C us kw, by rw [make_guards]; exact h.g⟩
structure FnOg (P : Program) (w : World) (K : PySem.W.Frag) (mg : Str → Option Value) (base : Heap) (CX : CXT) (k : Nat) (f : Addr) (fd : FuncData) (ps : List Str) (sp : Sp) : Prop where
  len : ∀ vs H Q E, sp vs H Q E → vs.length = ps.length
  run : ∀ (A : Around) (outer : List Env) (s : Shared) (H : Hp) (args : Args) (us : List Value) (vs : List V) (Q : VK) (E : XK), RoomG k A → Env0 P w K mg base A outer s H → BindsTo s fd args (ps.zip us) → Vals vs us → sp vs H Q E →
    codeAny (model P w) A (.call (.ref f) args) (CR CX outer P w H s Q E) s
theorem FnOg.imp {P : Program} {w : World} {K : PySem.W.Frag} {mg : Str → Option Value} {base : Heap} {CX : CXT} {k : Nat} {f : Addr} {fd : FuncData} {ps : List Str} {sp sp2 : Sp} (F : FnOg P w K mg base CX k f fd ps sp)
    (h : ∀ vs H Q E, sp2 vs H Q E → sp vs H Q E) : FnOg P w K mg base CX k f fd ps sp2 :=
  ⟨fun vs H Q E z => F.len vs H Q E (h vs H Q E z), fun A outer s H args us vs Q E hr e0 hb r z => F.run A outer s H args us vs Q E hr e0 hb r (h vs H Q E z)⟩
theorem FnOk.og {P : Program} {w : World} {K : PySem.W.Frag} {mg : Str → Option Value} {base : Heap} {CX : CXT} {k : Nat} {f : Addr} {fd : FuncData} {ps : List Str} {sp : Sp} (F : FnOk P w K mg base CX k f fd ps sp) : FnOg P w K mg base CX k f fd ps sp :=
  ⟨F.len, fun A outer s H args us vs Q E hr => F.run A outer s H args us vs Q E hr.r⟩
section
variable {X : Cx} {CX : CXT} {k : Nat} {f C : Addr} {fd : FuncData} {ps : List Str} {sp : Sp} {dvs : List V} {ds : List Value} {E : XK} {x m : Str} {p pos apos : Pos} {e o : Expr} {es : List Expr} {ta : TE} {t : TA}
theorem run_fg {pinz : List (Addr × Obj)} {σ : St} {H : Hp} {s : Shared} {Q : VK} {uz : List Value} {vs : List V} (F : FnOg X.prog X.w X.K X.mg X.base CX k f fd ps sp) (hr : RoomG k X.A) (hb : Binds X.K fd ps ds) (hd : Vals dvs ds) (hx : Passes CX X E)
    (I : Inv X pinz σ H s) (r : Vals vs uz) (h : sp (vs ++ dvs) H Q E) : wpAny (model X.prog X.w) X.A (call (.ref f) uz) (EP X pinz σ Q) X.xe s := by
  have rr2 : Vals (vs ++ dvs) (uz ++ ds) := r.append hd
  have hln : (uz ++ ds).length = ps.length := by rw [← rr2.length]; exact F.len _ _ _ _ h
  refine wpAny_call (codeAny_mono (F.run X.A X.stack s H ⟨uz, []⟩ (uz ++ ds) (vs ++ dvs) Q E hr I.env0 (hb s uz I.kIn hln) rr2 h) fun r sz hqq => ?_)
  cases r with
  | error e => exact hx pinz σ H s e sz I hqq
  | ok flw =>
    cases flw with
    | ret u => exact I.after hqq
    | next => exact False.elim hqq
    | brk => exact False.elim hqq
    | cont => exact False.elim hqq

theorem pe_callg (F : FnOg X.prog X.w X.K X.mg X.base CX k f fd ps sp) (hr : RoomG k X.A) (hg : Gl X x) (hm : X.mg x = some (.ref f)) (hk : PySem.W.keepIn X.K (.ref f) = true) (hb : Binds X.K fd ps ds) (hd : Vals dvs ds) (hx : Passes CX X E)
    (ha : PA X (e :: es) t) (hdb : (x == ("__debug__" : Str)) = false := by decide) (he : starEach (e :: es) X.env = (false, eval e X.env) :: starEach es X.env := by rfl) (hpl : (backTo pos (starEach es X.env)).any (·.1) = false := by rfl) :
    PE X (.Call (.Name x p) (e :: es) [] pos) (tCall sp dvs E t) := by
  refine ⟨fun pinz s σ H Q I h => ?_⟩
  refine wpAny_Call_Name_kw (ld_glob I hg hm ?_ hdb)
  refine PySem.W.callWith_K (h₀ := X.base) I.ok.mod.kin hk (thn (ha.run pos pinz s σ H _ I h) fun uz sy ⟨vs, H1, J1, r, q⟩ => ⟨J1.kIn, ?_⟩) he hpl
  exact run_fg F hr hb hd hx J1 r q
theorem pe_callg0 (F : FnOg X.prog X.w X.K X.mg X.base CX k f fd ps sp) (hr : RoomG k X.A) (hg : Gl X x) (hm : X.mg x = some (.ref f)) (hk : PySem.W.keepIn X.K (.ref f) = true) (hb : Binds X.K fd ps ds) (hd : Vals dvs ds) (hx : Passes CX X E)
    (hdb : (x == ("__debug__" : Str)) = false := by decide) : PE X (.Call (.Name x p) [] [] pos) (tCall sp dvs E tNil) := by
  refine ⟨fun pinz s σ H Q I h => ?_⟩
  refine wpAny_Call_Name_kw (ld_glob I hg hm ?_ hdb)
  exact PySem.W.callWith_K0 I.kIn hk (run_fg (uz := []) F hr hb hd hx I .nil h)

theorem pe_methg {pl : Sem Bool} (he : PE X o ta) (c : Cls X.K C) (hm : Meth X.K C m f) (F : FnOg X.prog X.w X.K X.mg X.base CX k f fd ps sp) (hr : RoomG k X.A) (hb : Binds X.K fd ps ds) (hd : Vals dvs ds) (hx : Passes CX X E) (ha : PA X (e :: es) t)
    (hst : starEach (e :: es) X.env = (false, eval e X.env) :: starEach es X.env := by rfl) (hpl : (backTo pos (starEach es X.env)).any (·.1) = false := by rfl)
    (ht : eval (.Call (.Attribute o m apos) (e :: es) [] pos) X.env = (do
      let ov ← eval o X.env
      standAt apos.atName
      let (f, first) ← holding [ov] (getMethod ov m pl)
      callWith pos f first (backTo pos (starEach (e :: es) X.env)) (backToKw pos (keywordEach [] X.env))) := by rfl) :
    PE X (.Call (.Attribute o m apos) (e :: es) [] pos) (tMeth C m sp dvs E ta t) := by
  refine ⟨fun pinz s σ H Q I h => ?_⟩
  refine PySem.W.methodCall_KW (pl := pl) (thn (he.run pinz s σ H _ I h) fun u sy ⟨x, H1, J1, rx, a, dx, fs, ex, ea, l, q⟩ => ?_) ht
  subst ex
  obtain rfl : u = Value.ref a := rx
  refine getmeth_ok J1 ea c hm l ?_
  refine PySem.W.callWith_K (first := [.ref a]) (h₀ := X.base) I.ok.mod.kin hm.kp (thn (ha.run pos pinz sy σ H1 _ J1 q) fun uz s2 ⟨vs, H2, J2, r, qq2⟩ => ⟨J2.kIn, ?_⟩) hst hpl
  exact run_fg (uz := .ref a :: uz) (vs := .ref a :: vs) F hr hb hd hx J2 (.cons rfl r) qq2
/-- o.m() -/
theorem pe_methg0 {pl : Sem Bool} (he : PE X o ta) (c : Cls X.K C) (hm : Meth X.K C m f) (F : FnOg X.prog X.w X.K X.mg X.base CX k f fd ps sp) (hr : RoomG k X.A) (hb : Binds X.K fd ps ds) (hd : Vals dvs ds) (hx : Passes CX X E)
    (ht : eval (.Call (.Attribute o m apos) [] [] pos) X.env = (do
      let ov ← eval o X.env
      standAt apos.atName
      let (f, first) ← holding [ov] (getMethod ov m pl)
      callWith pos f first (backTo pos (starEach [] X.env)) (backToKw pos (keywordEach [] X.env))) := by rfl) :
    PE X (.Call (.Attribute o m apos) [] [] pos) (tMeth C m sp dvs E ta tNil) := by
  refine ⟨fun pinz s σ H Q I h => ?_⟩
  refine PySem.W.methodCall_KW (pl := pl) (thn (he.run pinz s σ H _ I h) fun u sy ⟨x, H1, J1, rx, a, dx, fs, ex, ea, l, q⟩ => ?_) ht
  subst ex
  obtain rfl : u = Value.ref a := rx
  refine getmeth_ok J1 ea c hm l ?_
  exact PySem.W.callWith_K0 (first := [.ref a]) J1.kIn hm.kp (run_fg (uz := [.ref a]) (vs := [.ref a]) F hr hb hd hx J1 (.cons rfl .nil) q)

theorem run_makeg {pinz : List (Addr × Obj)} {σ : St} {H : Hp} {s : Shared} {Q : VK} {uz : List Value} {vs : List V} (M : Mk X.K C f) (F : FnOg X.prog X.w X.K X.mg X.base CX k f fd ps sp) (hr : RoomG (k + 1) X.A) (hb : Binds X.K fd ps ds) (hd : Vals dvs ds)
    (hx : Passes CX X E) (I : Inv X pinz σ H s) (r : Vals vs uz)
    (h : ∀ x dx, H x = none → H dx = none → dx ≠ x → sp (.ref x :: (vs ++ dvs)) (upd (upd H dx (.own x)) x (.ins C dx [])) (fun v H2 => v = .non ∧ Q (.ref x) H2) E) :
    wpAny (model X.prog X.w) X.A (call (.ref C) uz) (EP X pinz σ Q) X.xe s := by
  have hqq := h (s.heap.objs.size + 1) s.heap.objs.size (I.hok.fresh (Nat.le_succ _)) (I.hok.fresh (Nat.le_refl _)) (Nat.ne_of_lt (Nat.lt_succ_self _))
  have J2 := Inv.made (C := C) I
  have rr2 : Vals (V.ref (s.heap.objs.size + 1) :: (vs ++ dvs)) (Value.ref (s.heap.objs.size + 1) :: (uz ++ ds)) := .cons rfl (r.append hd)
  have hln : (Value.ref (s.heap.objs.size + 1) :: uz ++ ds).length = ps.length := by
    have e := rr2.length
    rw [F.len _ _ _ _ hqq] at e
    exact e.symm
  refine wpAny_call (make_map (f := f) I.kIn M.makes M.init (beq_iff_eq.mp M.fn) (codeAny_mono (F.run _ X.stack _ _ ⟨Value.ref (s.heap.objs.size + 1) :: uz, []⟩ (Value.ref (s.heap.objs.size + 1) :: (uz ++ ds)) _ _ E (hr.make C uz [])
    (J2.env0.make C uz []) (hb _ (Value.ref (s.heap.objs.size + 1) :: uz) J2.kIn hln) rr2 hqq) fun r sz hqz => ?_))
  cases r with
  | error e => exact hx pinz σ _ _ e sz J2 hqz
  | ok flw =>
    cases flw with
    | ret u =>
      obtain ⟨v, H', I3, rvl, ev, q3⟩ := J2.after hqz
      subst ev
      exact ⟨rvl, ⟨V.ref (s.heap.objs.size + 1), H', I3, rfl, q3⟩⟩
    | next => exact False.elim hqz
    | brk => exact False.elim hqz
    | cont => exact False.elim hqz
theorem pe_makeg (M : Mk X.K C f) (F : FnOg X.prog X.w X.K X.mg X.base CX k f fd ps sp) (hr : RoomG (k + 1) X.A) (hg : Gl X x) (hm : X.mg x = some (.ref C)) (hb : Binds X.K fd ps ds) (hd : Vals dvs ds) (hx : Passes CX X E)
    (ha : PA X (e :: es) t) (hdb : (x == ("__debug__" : Str)) = false := by decide) (he : starEach (e :: es) X.env = (false, eval e X.env) :: starEach es X.env := by rfl) (hpl : (backTo pos (starEach es X.env)).any (·.1) = false := by rfl) :
    PE X (.Call (.Name x p) (e :: es) [] pos) (tMake C sp dvs E t) := by
  refine ⟨fun pinz s σ H Q I h => ?_⟩
  refine wpAny_Call_Name_kw (ld_glob I hg hm ?_ hdb)
  refine PySem.W.callWith_K (h₀ := X.base) I.ok.mod.kin M.kp (thn (ha.run pos pinz s σ H _ I h) fun uz sy ⟨vs, H1, J1, r, q⟩ => ⟨J1.kIn, ?_⟩) he hpl
  exact run_makeg M F hr hb hd hx J1 r q
theorem pe_makeg0 (M : Mk X.K C f) (F : FnOg X.prog X.w X.K X.mg X.base CX k f fd ps sp) (hr : RoomG (k + 1) X.A) (hg : Gl X x) (hm : X.mg x = some (.ref C)) (hb : Binds X.K fd ps ds) (hd : Vals dvs ds) (hx : Passes CX X E)
    (hdb : (x == ("__debug__" : Str)) = false := by decide) : PE X (.Call (.Name x p) [] [] pos) (tMake C sp dvs E tNil) := by
  refine ⟨fun pinz s σ H Q I h => ?_⟩
  refine wpAny_Call_Name_kw (ld_glob I hg hm ?_ hdb)
  exact PySem.W.callWith_K0 I.kIn M.kp (run_makeg (uz := []) M F hr hb hd hx I .nil h)
end
theorem fn_og {CX : CXT} {P : Program} {w : World} {K : PySem.W.Frag} {mg : Str → Option Value} {base : Heap} {k : Nat} {f : Addr} {name qual : Str} {params : Arguments} {body : List Stmt} {scope : Scope} {dV kV doc pm cdv ct oc : Value} {an od : Option Addr}
    {osl : Array (Option Value)} {N ps : List Str} {sp : Sp} (lk : K.lookup f = some ⟨oc, od, .func (PySem.W.fnOf name qual params body scope dV kV doc pm an cdv ct), osl⟩) (hcd : PySem.W.codeIn K cdv qual = true) (S : FnScope N ps scope)
    (len : ∀ vs H Q E, sp vs H Q E → vs.length = ps.length)
    (hbody : ∀ (A : Around) (outer : List Env) (s : Shared) (H : Hp) (vs : List V) (Q : VK) (E : XK), RoomG k (A.deeper (envOfC qual scope s.heap.objs.size f cdv)) → sp vs H Q E →
      ∃ t, PSs (cxOf CX P w K mg base N qual scope f cdv A outer s H E) body t ∧ t { nx := fun _ H' => Q .non H', rt := Q } (start N vs) H) :
    FnOg P w K mg base CX (k + 1) f (PySem.W.fnOf name qual params body scope dV kV doc pm an cdv ct) ps sp := by
  refine ⟨len, fun A outer s H args uz vs Q E hr e0 hb r hsq => ?_⟩
  have hln := len _ _ _ _ hsq
  have KXX : K.In s.heap := e0.mod.kin.keeps fun b o e => (e0.bs b o e).1
  have limi : s.heap.NoLimit := e0.mod.nolimit.keeps fun b o e => (e0.bs b o e).1
  have hkind : ∀ y ∈ ps.zip uz, scope.names.lookup y.1 = some .local ∨ (scope.names.lookup y.1 = some .cell ∧ ((cellsFrom (s.heap.objs.size + 1) scope.names []).lookup y.1).isSome = true) := fun ⟨n, v⟩ hy => by
    rcases S.par n (List.of_mem_zip hy).1 with q | q
    · exact .inl q
    · exact .inr ⟨q, PySem.W.cellsFrom_some _ _ _ (.inl q)⟩
  refine codeAny_call_function hr.depth (KXX _ _ lk) rfl S.co S.gen rfl (PySem.W.codeRec_of KXX hcd) (hb _ _ _ _ ?_)
  refine wpAny_newFunctionEnv_cells S.kind hkind fun env he sy x => ?_
  subst he
  refine ⟨limi.keeps x.toInCall.keep, codeAny_func ?_⟩
  obtain ⟨t, ht, hqq⟩ := hbody A outer s H vs Q E (hr.deeper _) hsq
  have I : Inv (cxOf CX P w K mg base N qual scope f cdv A outer s H E) [] (start N vs) H sy := inv_start S hr.hd e0 hln r x
  refine wpAny_mono (ht.run [] sy (start N vs) H _ I hqq) (fun flw sz hs => ?_) fun e sz hs => hs
  have fin : ∀ {σ' : St} {H' : Hp} {v : V} {u : Value}, Inv (cxOf CX P w K mg base N qual scope f cdv A outer s H E) [] σ' H' sz → RelV v u → Q v H' → CE outer P w H s Q u sz :=
    fun {σ' H' v u} J rvl q => ⟨v, H', J.os, J.bare, J.base, J.hok, rvl, q⟩
  cases flw with
  | ret u =>
    obtain ⟨v, σ', H', J, rvl, q⟩ := hs
    exact fin J rvl q
  | next =>
    obtain ⟨σ', H', J, q⟩ := hs
    exact fin (v := V.non) (u := Value.none) J rfl q
  | brk =>
    obtain ⟨_, _, _, q⟩ := hs
    exact False.elim q
  | cont =>
    obtain ⟨_, _, _, q⟩ := hs
    exact False.elim q
section
variable {P : Program} {w : World} {K : PySem.W.Frag} {mg : Str → Option Value} {base : Heap} {x qual : Str} {params : Arguments} {body : List Stmt} {scope : Scope} {dvs : List V} {kws : List (Str × V)} {f : Addr} {fd : FuncData}
theorem FunD.okg {CX : CXT} {N ps : List Str} {k : Nat} {sp : Sp} (F : FunD K x qual params body scope dvs kws f fd) (S : FnScope N ps scope) (len : ∀ vs H Q E, sp vs H Q E → vs.length = ps.length)
    (hbody : ∀ (cdv : Value) (A : Around) (outer : List Env) (s : Shared) (H : Hp) (vs : List V) (Q : VK) (E : XK), RoomG k (A.deeper (envOfC qual scope s.heap.objs.size f cdv)) → sp vs H Q E →
      ∃ t, PSs (cxOf CX P w K mg base N qual scope f cdv A outer s H E) body t ∧ t { nx := fun _ H' => Q .non H', rt := Q } (start N vs) H) : FnOg P w K mg base CX (k + 1) f fd ps sp := by
  obtain ⟨oc, od, dV, kV, doc, pm, an, cdv, ct, osl, rfl, lk, hcd, _, _⟩ := F.ex
  exact fn_og lk hcd S len fun A outer s H vs Q E hr hsq => hbody cdv A outer s H vs Q E hr hsq
end
theorem law_callg {P : Program} {w : World} {K : PySem.W.Frag} {mg mb : Str → Option Value} {CX : CXT} {k : Nat} {fa a : Addr} {fd : FuncData} {x : Str} {sp : Sp} {s₁ : Shared} {vs : List Value} {ns : List Int}
    (KXX : K.In s₁.heap) (hns : s₁.heap.Ns mainGlobals mg) (hb : s₁.heap.Ns builtinsNs mb) (hbb : ∀ x : Str, x ≠ "__name__" → mb x = bootBuiltins x) (hlim : s₁.heap.NoLimit) (hg : s₁.gens = #[])
    (ha : s₁.heap.get? a = some { cls := .type "list", data := .seq vs.toArray }) (hi : IntsAre vs ns) (hln : ns.length ≤ sizeLine) (hr : RoomG k callerA)
    (F : ∀ base : Heap, K.In base → base.Ns mainGlobals mg → FnOg P w K mg base CX k fa fd [x] sp) (hbind : ∀ (s : Shared) (u : Value), BindsTo s fd ⟨[u], []⟩ [(x, u)])
    (hsq : ∀ H : Hp, Only H → SqL K H a (ns.map V.int) → sp [.ref a] H (fun v _ => v = .bl true) fun _ _ _ => False)
    (hCX : ∀ H e sz, CX [] H s₁ (fun _ _ _ => False) e sz → False) :
    codeAny (model P w) callerA (.call (.ref fa) ⟨[.ref a], []⟩) (fun r sz => r = .ok (.ret (.bool true)) ∧ OldK s₁.heap sz.heap ∧ sz.os = s₁.os ∧ AllBare sz.gens) s₁ := by
  have rvl := vals_ints hi
  have lenW := hi.length
  -- from an abstract heap in which nothing but the script may be tracked
  have core : ∀ H : Hp, Only H → SqL K H a (ns.map V.int) → HOk P w H s₁.heap → (∀ b, H b ≠ none → b = a) → (H a ≠ none → K.lookup a = none) →
      codeAny (model P w) callerA (.call (.ref fa) ⟨[.ref a], []⟩) (fun r sz => r = .ok (.ret (.bool true)) ∧ OldK s₁.heap sz.heap ∧ sz.os = s₁.os ∧ AllBare sz.gens) s₁ := by
    intro H hO hS hok hA hK
    have baseOf : ∀ {b : Addr} {o : Obj}, s₁.heap.get? b = some o → H b = none → (hidT s₁.heap H).get? b = some o := fun e n => hidT_get e n
    have noB : ∀ {b : Addr} {o : Obj} {es : Array DictEntry} {ep : Nat}, s₁.heap.get? b = some o → o.data = .dict es ep → H b = none := fun {b o es ep} e d => by
      cases q : H b with
      | none => rfl
      | some u =>
        have e' : b = a := hA b (by rw [q]; simp)
        subst e'
        rw [ha] at e; cases e
        have d' : Data.seq vs.toArray _ = Data.dict es ep := d
        cases d'
    have nsL : ∀ {b : Addr} {m : Str → Option Value}, s₁.heap.Ns b m → (hidT s₁.heap H).Ns b m := fun {b m} ⟨o, es, ep, e, d, r⟩ => ⟨o, es, ep, baseOf e (noB e d), d, r⟩
    have hKb : K.In (hidT s₁.heap H) := fun b o e => baseOf (KXX b o e) (by
      cases q : H b with
      | none => rfl
      | some u =>
        have e' : b = a := hA b (by rw [q]; simp)
        subst e'
        rw [hK (by rw [q]; simp)] at e; cases e)
    have hM : Mod K mg (hidT s₁.heap H) := ⟨hKb, nsL hns, ⟨mb, nsL hb, hbb⟩, let ⟨mc, h1, h2⟩ := hlim; ⟨mc, nsL h1, h2⟩⟩
    have e0 : Env0 P w K mg (hidT s₁.heap H) callerA [] s₁ H := ⟨rfl, hM, fun b o e => of_hidT e, Nat.le_of_eq (hidT_size _ _), trivial, fun b hb => absurd (show b ∈ ([] : List Addr) from hb) (by simp), hok, .of_eq hg⟩
    refine codeAny_mono ((F _ hKb (nsL hns)).run callerA [] s₁ H ⟨[.ref a], []⟩ [.ref a] [.ref a] _ _ hr e0 (hbind s₁ (.ref a)) (.cons rfl .nil) (hsq H hO hS)) fun r sz h => ?_
    cases r with
    | error e => exact (hCX H e sz h).elim
    | ok flw =>
      cases flw with
      | next => exact False.elim h
      | brk => exact False.elim h
      | cont => exact False.elim h
      | ret u =>
        obtain ⟨v, H', os, bare, un, hok', r', q⟩ := h
        have q' : v = .bl true := q
        subst q'
        obtain rfl : u = Value.bool true := r'
        refine ⟨rfl, OldK.of_keep fun b o e => ?_, os, bare⟩
        cases q : H b with
        | none => exact un.keep b o e q (by intro z; exact absurd (show b ∈ ([] : List Addr) from z) (by simp)) (by simp)
        | some u =>
          rcases hO b with z | ⟨ob, xs, z⟩
          · rw [q] at z; cases z
          · have z2 := un.frzs b ob _ z
            obtain ⟨e1, _⟩ := hok b _ z
            obtain ⟨e2, _⟩ := hok' b _ z2
            rw [e] at e1; cases e1
            exact e2
  cases hk : K.lookup a with
  | some o =>
    -- the script is one of the module's own objects
    have e := KXX a o hk
    rw [ha] at e
    cases e
    refine core (fun _ => none) (fun _ => .inl rfl) (.inr ⟨_, vs.toArray, _, hk, rfl, rfl, rfl, by rw [List.size_toArray, lenW]; exact hln, by simpa using rvl⟩) (fun b u z => by have z' : (none : Option HO) = some u := z; cases z') (fun b z => absurd rfl z) fun z => absurd rfl z
  | none =>
    refine core (fun b => if b = a then some (.frz { cls := .type "list", data := .seq vs.toArray } (.lst (ns.map V.int))) else none) (fun b => ?_) (.inl (.inr ⟨{ cls := .type "list", data := .seq vs.toArray }, if_pos rfl⟩)) (fun b u z => ?_) (fun b z => ?_) fun _ => hk
    · by_cases hb : b = a
      · exact .inr ⟨_, _, if_pos hb⟩
      · exact .inl (if_neg hb)
    · by_cases hb : b = a
      · have z' := (if_pos hb).symm.trans z
        cases z'
        subst hb
        exact ⟨ha, by rw [List.length_map]; exact hln, vs, _, rvl, ha⟩
      · have z' := (if_neg hb).symm.trans z
        cases z'
    · by_cases hb : b = a
      · exact hb
      · exact absurd (if_neg hb) z
end L2

set_option Elab.async false
set_option linter.all false
set_option maxRecDepth 100000
set_option maxHeartbeats 2000000
namespace LamX
open PySem PySem.Spec PyProof.Rows L2
/-- all but one table stays -/
def ExtP (P : Addr) (H H1 : Hp) : Prop := ∀ b o, H b = some o → b ≠ P → H1 b = some o
def tLamg (P : Addr) (T : List (Addr × Str)) (TT : (XK → Hp → VK → Prop) → Hp → VK → Prop) (t : XK → TE) : TE := fun σ H Q => Tabs T H ∧ ∀ H1, ExtP P H H1 → Tabs T H1 → TT (fun E H' Q' => t E σ H' Q') H1 Q
section
variable {X : Cx} {pinz : List (Addr × Obj)} {σ : L2.St} {H HZ : Hp} {s sy : Shared}
theorem lam_makeg {T : List (Addr × Str)} {c P : Addr} {params : Arguments} {body : Expr} {scope : Scope} {pos : Pos} {E : Value → Shared → Prop} {Q : Value → Shared → Prop} (I : Inv X pinz σ H s) (TB : TabB X.base X.mg c P) (hcode : X.env.code = .ref c)
    (hm : (P, X.env.qual ++ "<lambda>") ∈ T) (hu : ∀ p ∈ T, p.1 = P → p.2 = X.env.qual ++ "<lambda>") (hTb : Tabs T H) (hdef : defaultsOf params X.env = ([], [])) (hfree : ∀ y ∈ scope.names, y.2 = .free → ∃ c, X.env.cells.lookup y.1 = some c)
    (h : ∀ (f c' : Addr) (pm ctv : Value) (H1 : Hp) (sz : Shared), Inv X pinz σ H1 sz → ExtP P H H1 → Tabs T H1 →
      sz.heap.get? f = some (PySem.W.kla_obj "<lambda>" (X.env.qual ++ "<lambda>") params body scope (cloFrom X.env.cells scope.names []) pm c' ctv) → H1 f = none → f ∉ frs X.stack → H1 c' = some (CodeO c' (X.env.qual ++ "<lambda>")) → Q (.ref f) sz) :
    wpAny (model X.prog X.w) X.A (eval (.Lambda params body scope pos) X.env) Q E s := by
  obtain ⟨ps, hP, hty, ha⟩ := hTb _ hm
  refine PySem.W.kla_eval hdef ?_
  have bP : s.heap.BuiltinsAt X.mg P := TB.bm.keeps I.bk
  have hP' : s.heap.get? P = some { cls := .none, data := .fields ps } := I.hok P _ hP
  have nofr : ∀ f, s.heap.objs.size ≤ f → f ∉ frs X.stack := fun f hf z => by
    rcases List.mem_cons.mp (I.stkSub _ z) with e | e
    · have h1 := I.lt
      rw [← e] at h1
      exact Nat.lt_irrefl _ (Nat.lt_of_lt_of_le h1 hf)
    · exact I.nofs hf e
  cases hc : codeAmong pos ps.toList with
  | none =>
    refine PySem.W.kla_makeFunction (mg := X.mg) (c := c) (P := P) (ps := ps) (closure_ok hfree) I.ok.glob (I.mod.glob.keeps I.bk) hcode (TB.code.keeps I.bk) hP' hty hc TB.gP bP fun c' ctv h' tk hxx hge hlt hrec htb => ?_
    obtain ⟨c2, oc, vs, t, e2, hoc, hd, hv⟩ := hrec
    cases e2
    have hsz : s.heap.objs.size ≤ h'.objs.size := Nat.le_trans hge (Nat.le_of_lt hlt)
    have nC : H c' = none := I.hok.fresh hge
    have J1 := inv_table (t' := tk) (more := #[rawInt pos.line, rawInt pos.col, .ref c']) (h' := h'.push (PySem.W.kla_obj "<lambda>" (X.env.qual ++ "<lambda>") params body scope (cloFrom X.env.cells scope.names []) ((X.mg "__name__").getD .none) c' ctv)) I hP
      (fun b o hb e => Heap.get?_push_of_some _ (hxx b o hb e)) (Heap.get?_push_of_some _ htb) hge ⟨oc, vs, t, Heap.get?_push_of_some _ hoc, hd, hv⟩
    have hE : ExtP P H (upd (upd H P (.tbl (ps ++ #[rawInt pos.line, rawInt pos.col, .ref c']))) c' (CodeO c' (X.env.qual ++ "<lambda>"))) := fun b o e n => by
      rw [upd_ne (ne_of_none e nC), upd_ne n]
      exact e
    have eL : (ps ++ #[rawInt pos.line, rawInt pos.col, .ref c']).toList = ps.toList ++ [rawInt pos.line, rawInt pos.col, .ref c'] := by simp
    refine h h'.objs.size c' ((X.mg "__name__").getD .none) ctv _ _ J1 hE (fun p hp => ?_) (Heap.get?_push_size _ rfl) ?_ (nofr _ hsz) upd_same
    · by_cases hb : p.1 = P
      · rw [hu p hp hb, hb]
        refine ⟨_, by rw [upd_ne (ne_of_none hP nC), upd_same], by rw [eL]; exact PySem.TriplesOk_snoc _ _ _ _ hty, fun p' cv hcv => ?_⟩
        rw [eL] at hcv
        rcases among_app _ hty hcv with z | z
        · obtain ⟨c0, e1, e2⟩ := ha p' cv z
          exact ⟨c0, e1, hE _ _ e2 (fun z => codeO_ne ps (Option.some.inj (e2.symm.trans (by rw [z]; exact hP))))⟩
        · exact ⟨c', z, upd_same⟩
      · obtain ⟨ps', a1, a2, a3⟩ := hTb p hp
        refine ⟨ps', by rw [upd_ne (ne_of_none a1 nC), upd_ne hb]; exact a1, a2, fun p' cv hcv => ?_⟩
        obtain ⟨c0, e1, e2⟩ := a3 p' cv hcv
        exact ⟨c0, e1, hE _ _ e2 (fun z => codeO_ne ps (Option.some.inj (e2.symm.trans (by rw [z]; exact hP))))⟩
    · have n1 : h'.objs.size ≠ c' := Nat.ne_of_gt hlt
      have n2 : h'.objs.size ≠ P := Nat.ne_of_gt (Nat.lt_of_lt_of_le (Heap.lt_size hP') hsz)
      rw [upd_ne n1, upd_ne n2]
      exact I.hok.fresh hsz
  | some cv =>
    obtain ⟨c', e, hco⟩ := ha pos cv hc
    subst e
    refine PySem.W.kla_makeFunctionHit (mg := X.mg) (c := c) (P := P) (ps := ps) (closure_ok hfree) I.ok.glob (I.mod.glob.keeps I.bk) hcode (TB.code.keeps I.bk) hP' hty hc bP fun ctv h' tk hxx hsz => ?_
    have J1 : Inv X pinz σ H { s with heap := h'.push (PySem.W.kla_obj "<lambda>" (X.env.qual ++ "<lambda>") params body scope (cloFrom X.env.cells scope.names []) ((X.mg "__name__").getD .none) c' ctv), toks := tk } := I.kept fun b o e => Heap.get?_push_of_some _ (hxx b o e)
    exact h h'.objs.size c' ((X.mg "__name__").getD .none) ctv H _ J1 (fun _ _ e _ => e) hTb (Heap.get?_push_size _ rfl) (I.hok.fresh hsz) (nofr _ hsz) hco
theorem pe_actg {CXg : CXT} {Eg : XK} {Ng : List Str} {qg : Str} {sg : Scope} {g f c' : Addr} {cdg pm ctv : Value} {params : Arguments} {body : Expr} {scope : Scope} {k i : Nat} {a : Str} {pn : List (Addr × Obj)} {xe : Value → Shared → Prop} {W : WX} {E : XK} {tb : TE} {p1 p2 : Pos}
    (I : Inv X pinz σ H s) (L : LamS X.env.scope scope) (hf : s.heap.get? f = some (PySem.W.kla_obj "<lambda>" (X.env.qual ++ "<lambda>") params body scope (cloFrom X.env.cells scope.names []) pm c' ctv)) (hfn : H f = none) (hfr : f ∉ frs X.stack)
    (hbind : bindArgs (PySem.W.kla_fn "<lambda>" (X.env.qual ++ "<lambda>") params body scope (cloFrom X.env.cells scope.names []) pm (.ref c') ctv) ⟨[], []⟩ = pure [])
    (tk : Takes ((cxOf CXg X.prog X.w X.K X.mg X.base Ng qg sg g cdg X.A X.stack s H Eg).tr pn xe) W) (hrm : RoomG (k + 1) (X.A.deeper (envOfC qg sg s.heap.objs.size g cdg)))
    (hbdy : ∀ (A : Around) (outer : List Env) (s : Shared) (H : Hp), RoomG k (A.deeper (lamEnv X scope s.heap.objs.size f c')) → PE (lamCx X A outer s H E scope f c') body tb)
    (hN : Ng[i]? = some a) (hv : Vis sg a) (hd : (a == ("__debug__" : Str)) = false := by decide) (hcd : (a == ("__classdict__" : Str)) = false := by decide) :
    PE ((cxOf CXg X.prog X.w X.K X.mg X.base Ng qg sg g cdg X.A X.stack s H Eg).tr pn xe) (.Call (.Name a p1) [] [] p2)
      (fun σZ HZ Q => σZ[i]? = some (some (.ref f)) ∧ HZ c' = some (CodeO c' (X.env.qual ++ "<lambda>")) ∧ (∀ cls d H', E cls d H' → W cls d σZ H') ∧ tb σ HZ Q) := by
  refine ⟨fun pinzZ sZ σZ HZ Q JZ h => ?_⟩
  obtain ⟨hs, hc, hW, hty⟩ := h
  refine wpAny_Call_Name_kw (thn ((pe_var (pos := p1) (i := i) hN hv hd hcd).run pinzZ sZ σZ HZ (fun v H1 => v = .ref f ∧ H1 = HZ) JZ ⟨.ref f, hs, rfl, rfl⟩) fun u sy ⟨v, H1, J1, ry, qy⟩ => ?_)
  obtain ⟨ev, eH⟩ := qy
  subst ev
  rw [eH] at J1
  obtain rfl : u = Value.ref f := ry
  have ofy : sy.heap.get? f = some (PySem.W.kla_obj "<lambda>" (X.env.qual ++ "<lambda>") params body scope (cloFrom X.env.cells scope.names []) pm c' ctv) := J1.base.keep f _ hf hfn hfr (fun z => nomatch (show f ∈ ([] : List Addr) from z))
  refine PySem.W.callWith_F0 ⟨_, _, _, _, ofy⟩ ?_
  have unn : Un (frs X.stack) [] H HZ s.heap sy.heap := J1.base
  obtain ⟨⟨oc, vs, t, hoc, hdc, hvc⟩, _, _⟩ := J1.hok c' _ hc
  have rcd : codeAny (model X.prog X.w) (X.A.deeper (envOfC qg sg s.heap.objs.size g cdg)) (.call (.ref f) ⟨[], []⟩) (CR (L2.CX X.prog X.w) (envOfC qg sg s.heap.objs.size g cdg :: X.stack) X.prog X.w HZ sy Q E) sy := by
    refine PySem.W.kla_callFunE hrm.depth ofy rfl L.co L.gen rfl ⟨c', oc, vs, t, rfl, hoc, hdc, hvc⟩ ?_
    rw [hbind]
    refine wpAny_pure (wpAny_newFunctionEnv (fun y hy => (L.own y hy).2) (fun y hy => absurd hy (by simp)) (fun h₁ hns hsb => ⟨J1.nolimit.fresh _ hsb, ?_⟩) L.kind)
    show codeAny _ _ (.expr body (lamEnv X scope sy.heap.objs.size f c')) _ _
    have kpp : ∀ b o, sy.heap.get? b = some o → h₁.get? b = some o := fun b o e => hsb.extBut b o (Nat.ne_of_lt (Heap.lt_size e)) (Heap.get?_push_of_some _ e)
    have J : Inv (lamCx X (X.A.deeper (envOfC qg sg s.heap.objs.size g cdg)) (envOfC qg sg s.heap.objs.size g cdg :: X.stack) sy HZ E scope f c') [] σ HZ { sy with heap := h₁, toks := sy.toks + ([] : List (Str × Value)).length } :=
      lam_start2 I L J1.env0 hrm.hd unn hns kpp
    refine PySem.W.kla_codeExpr (wpAny_mono ((hbdy _ _ sy HZ (hrm.deeper _)).run [] _ _ HZ Q J hty) (fun v sz hqq => ?_) fun e sz hqq => hqq)
    obtain ⟨w', H', J', rv, q⟩ := hqq
    exact ⟨w', H', J'.os, J'.bare, J'.base, J'.hok, rv, q⟩
  refine wpAny_call (codeAny_mono rcd fun r sz hqq => ?_)
  cases r with
  | error e => exact tk e sz (XE.of_call J1 (fun cls d H' h => hW cls d H' h) hqq)
  | ok flw =>
    cases flw with
    | ret u => exact J1.after hqq
    | next => exact False.elim hqq
    | brk => exact False.elim hqq
    | cont => exact False.elim hqq
end
theorem run_ofSg {CX : CXT} {P : Program} {w : World} {K : PySem.W.Frag} {mg : Str → Option Value} {base : Heap} {k : Nat} {f : Addr} {name qual : Str} {params : Arguments} {body : List Stmt} {scope : Scope} {dV kV doc pm cdv ct oc : Value} {an od : Option Addr}
    {osl : Array (Option Value)} {N ps : List Str} (lk : K.lookup f = some ⟨oc, od, .func (PySem.W.fnOf name qual params body scope dV kV doc pm an cdv ct), osl⟩) (hcd : PySem.W.codeIn K cdv qual = true) (S : FnScope N ps scope)
    {A : Around} {outer : List Env} {s : Shared} {H : Hp} {args : Args} {uz : List Value} {vs : List V} {Q : VK} {E : XK} (hrm : RoomG (k + 1) A) (e0 : Env0 P w K mg base A outer s H) (hb : BindsTo s (PySem.W.fnOf name qual params body scope dV kV doc pm an cdv ct) args (ps.zip uz)) (r : Vals vs uz) (hln : vs.length = ps.length)
    (hbdy : RoomG k (A.deeper (envOfC qual scope s.heap.objs.size f cdv)) → ∃ t, PSs (cxOf CX P w K mg base N qual scope f cdv A outer s H E) body t ∧ t { nx := fun _ H' => Q .non H', rt := Q } (L2.start N vs) H) :
    codeAny (model P w) A (.call (.ref f) args) (CR CX outer P w H s Q E) s := by
  have KXX : K.In s.heap := e0.mod.kin.keeps fun b o e => (e0.bs b o e).1
  have limi : s.heap.NoLimit := e0.mod.nolimit.keeps fun b o e => (e0.bs b o e).1
  have hkd : ∀ y ∈ ps.zip uz, scope.names.lookup y.1 = some .local ∨ (scope.names.lookup y.1 = some .cell ∧ ((cellsFrom (s.heap.objs.size + 1) scope.names []).lookup y.1).isSome = true) := fun ⟨n, v⟩ hy => by
    rcases S.par n (List.of_mem_zip hy).1 with q | q
    · exact .inl q
    · exact .inr ⟨q, PySem.W.cellsFrom_some _ _ _ (.inl q)⟩
  refine codeAny_call_function hrm.depth (KXX _ _ lk) rfl S.co S.gen rfl (PySem.W.codeRec_of KXX hcd) (hb _ _ _ _ ?_)
  refine wpAny_newFunctionEnv_cells S.kind hkd fun env he sy x => ?_
  subst he
  refine ⟨limi.keeps x.toInCall.keep, codeAny_func ?_⟩
  obtain ⟨t, hty, hqq⟩ := hbdy (hrm.deeper _)
  have I : Inv (cxOf CX P w K mg base N qual scope f cdv A outer s H E) [] (L2.start N vs) H sy := inv_start S hrm.hd e0 hln r x
  refine wpAny_mono (hty.run [] sy (L2.start N vs) H _ I hqq) (fun flw sz hs => ?_) fun e sz hs => hs
  have fini : ∀ {σ' : L2.St} {H' : Hp} {v : V} {u : Value}, Inv (cxOf CX P w K mg base N qual scope f cdv A outer s H E) [] σ' H' sz → L2.RelV v u → Q v H' → CE outer P w H s Q u sz :=
    fun {σ' H' v u} J rv q => ⟨v, H', J.os, J.bare, J.base, J.hok, rv, q⟩
  cases flw with
  | ret u =>
    obtain ⟨v, σ', H', J, rv, q⟩ := hs
    exact fini J rv q
  | next =>
    obtain ⟨σ', H', J, q⟩ := hs
    exact fini (v := V.non) (u := Value.none) J rfl q
  | brk =>
    obtain ⟨_, _, _, q⟩ := hs
    exact False.elim q
  | cont =>
    obtain ⟨_, _, _, q⟩ := hs
    exact False.elim q
def GivesTog (X : Cx) (Ng : List Str) (x : Str) (sg : Scope) (g : Addr) (cdg : Value) (bg : List Stmt) (a : Str) (q : Str) (TT : (XK → Hp → VK → Prop) → Hp → VK → Prop) : Prop :=
  ∀ (f c' : Addr) (s : Shared) (H : Hp) (Q : VK) (tl : XK → Hp → VK → Prop),
    (∀ (W : WX) (pn : List (Addr × Obj)) (xe : Value → Shared → Prop) (E : XK) (p1 p2 : Pos), Takes ((cxOf C8.CX0 X.prog X.w X.K X.mg X.base Ng x sg g cdg X.A X.stack s H C8.E0).tr pn xe) W →
      PE ((cxOf C8.CX0 X.prog X.w X.K X.mg X.base Ng x sg g cdg X.A X.stack s H C8.E0).tr pn xe) (.Call (.Name a p1) [] [] p2) (fun σZ HZ Q => σZ[0]? = some (some (.ref f)) ∧ HZ c' = some (CodeO c' q) ∧ (∀ cls d H', E cls d H' → W cls d σZ H') ∧ tl E HZ Q)) →
    H c' = some (CodeO c' q) → TT tl H Q →
    ∃ t, PSs (cxOf C8.CX0 X.prog X.w X.K X.mg X.base Ng x sg g cdg X.A X.stack s H C8.E0).nox bg t ∧ t { nx := fun _ H' => Q .non H', rt := Q } (L2.start Ng [.ref f]) H
section
variable {X : Cx}
theorem pe_lamcallg {T : List (Addr × Str)} {TT : (XK → Hp → VK → Prop) → Hp → VK → Prop} {x a : Str} {g c P : Addr} {k : Nat} {pg : Arguments} {bg : List Stmt} {sg : Scope} {dV kV doc pm cdv ct oc : Value} {an od : Option Addr} {osl : Array (Option Value)} {Ng : List Str}
    {params : Arguments} {body : Expr} {scope : Scope} {t : XK → TE} {p lpos pos : Pos} (hg : Gl X x) (hm : X.mg x = some (.ref g)) (hk : PySem.W.keepIn X.K (.ref g) = true)
    (lk : X.K.lookup g = some ⟨oc, od, .func (PySem.W.fnOf x x pg bg sg dV kV doc pm an cdv ct), osl⟩) (hcg : PySem.W.codeIn X.K cdv x = true) (hb : L2.Binds X.K (PySem.W.fnOf x x pg bg sg dV kV doc pm an cdv ct) [a] []) (Sg : FnScope Ng [a] sg) (hNg : Ng[0]? = some a) (hva : Vis sg a)
    (hG : GivesTog X Ng x sg g cdv bg a (X.env.qual ++ "<lambda>") TT)
    (TB : TabB X.base X.mg c P) (hcode : X.env.code = .ref c) (hmT : (P, X.env.qual ++ "<lambda>") ∈ T) (hu : ∀ p ∈ T, p.1 = P → p.2 = X.env.qual ++ "<lambda>") (hrm : RoomG (k + 2) X.A) (L : LamS X.env.scope scope) (hdef : defaultsOf params X.env = ([], []))
    (hbind : ∀ (q : Str) (cl : List (Str × Addr)) (pm cv ctv : Value), bindArgs (PySem.W.kla_fn "<lambda>" q params body scope cl pm cv ctv) ⟨[], []⟩ = pure [])
    (hbdy : ∀ (A : Around) (outer : List Env) (s : Shared) (H : Hp) (E : XK) (f c' : Addr), RoomG k (A.deeper (lamEnv X scope s.heap.objs.size f c')) → PE (lamCx X A outer s H E scope f c') body (t E))
    (hdb : (x == ("__debug__" : Str)) = false := by decide) (hd : (a == ("__debug__" : Str)) = false := by decide) (hcd : (a == ("__classdict__" : Str)) = false := by decide) :
    PE X (.Call (.Name x p) [.Lambda params body scope lpos] [] pos) (tLamg P T TT t) := by
  refine ⟨fun pinz s σ H Q I h => ?_⟩
  obtain ⟨hTb, h⟩ := h
  refine wpAny_Call_Name_kw (ld_glob I hg hm ?_ hdb)
  refine PySem.W.callWith_K (h₀ := X.base) I.ok.mod.kin hk ?_ (by rfl) (by rfl)
  show wpAny _ _ (spliced ((false, eval (.Lambda params body scope lpos) X.env) :: backTo pos (starEach [] X.env))) _ _ s
  refine Calls.spliced_cons (lam_makeg I TB hcode hmT hu hTb hdef (L.has I.ok) fun f c' pm' ctv H1 sz J1 eN T1 hf hfn hfr hco => ?_)
  refine Calls.spliced_nil ⟨J1.kIn, ?_⟩
  have rcd : codeAny (model X.prog X.w) X.A (.call (.ref g) ⟨[.ref f], []⟩) (CR C8.CX0 X.stack X.prog X.w H1 sz Q C8.E0) sz := by
    refine run_ofSg (N := Ng) (ps := [a]) (uz := [.ref f]) (vs := [.ref f]) lk hcg Sg hrm J1.env0 (hb sz [.ref f] J1.kIn rfl) (.cons rfl .nil) rfl fun hr' => ?_
    obtain ⟨t', ht', hqz⟩ := hG f c' sz H1 Q (fun E H' Q' => t E σ H' Q') (fun W pn xe E p1 p2 tk => pe_actg (i := 0) J1 L hf hfn hfr (hbind _ _ _ _ _) tk hr' (fun A outer s H hr2 => hbdy A outer s H E f c' hr2) hNg hva hd hcd) hco (h H1 eN T1)
    exact ⟨t', ht'.nox, hqz⟩
  refine wpAny_call (codeAny_mono rcd fun r s2 hqq => ?_)
  cases r with
  | error e => exact (show False from hqq).elim
  | ok flw =>
    cases flw with
    | ret u => exact J1.after hqq
    | next => exact False.elim hqq
    | brk => exact False.elim hqq
    | cont => exact False.elim hqq
end
end LamX

set_option Elab.async false
set_option linter.all false
set_option maxRecDepth 100000
set_option maxHeartbeats 2000000
namespace PP
open PySem PySem.Spec PyProof.Rows L2

/-! ### plain data -/
inductive D where
  | non | bl (b : Bool) | int (i : Int) | str (x : Str)
  | lst (xs : List D) | tup (xs : List D)
  | dct (kvs : List (Key × D)) | dctT (kvs : List (List Key × D))
  | obj (c : Str) (fs : List (Str × D))
  | kt (xs : List D)

abbrev AS := Addr → Prop
/-- what is fixed through a law: the written part, the own classes' addresses -/
structure Gc where
  K : PySem.W.Frag
  ga : Str → Addr
  tb : List (Addr × Str) := []

/-- a tuple that is written in the module -/
def KTup (K : PySem.W.Frag) (a : Addr) (xs : List V) : Prop := ∃ (o : Obj) (its : Array Value) (n : Nat), K.lookup a = some o ∧ o.cls = .type "tuple" ∧ o.data = .seq its n ∧ its.size ≤ sizeLine ∧ Vals xs its.toList
mutual
inductive Fz (G : Gc) (A : AS) (H : Hp) : V → D → Prop
  | non : Fz G A H .non .non
  | bl (b : Bool) : Fz G A H (.bl b) (.bl b)
  | int (i : Int) : Fz G A H (.int i) (.int i)
  | str (x : Str) : Fz G A H (.str x) (.str x)
  | lst {a : Addr} {vs : List V} {xs : List D} : ¬ A a → H a = some (.lst vs) → FzL G A H vs xs → Fz G A H (.ref a) (.lst xs)
  | tup {a : Addr} {vs : List V} {xs : List D} : ¬ A a → H a = some (.tup vs) → FzL G A H vs xs → Fz G A H (.ref a) (.tup xs)
  | dct {a : Addr} {kvs : List (Key × V)} {ds : List (Key × D)} : ¬ A a → Rd H a (.dK kvs) → kvs.map (·.1) = ds.map (·.1) → FzL G A H (kvs.map (·.2)) (ds.map (·.2)) → Fz G A H (.ref a) (.dct ds)
  | dctT {a : Addr} {kvs : List (List Key × V)} {ds : List (List Key × D)} : ¬ A a → Rd H a (.dT kvs) → kvs.map (·.1) = ds.map (·.1) → FzL G A H (kvs.map (·.2)) (ds.map (·.2)) → Fz G A H (.ref a) (.dctT ds)
  | obj {a dx : Addr} {c : Str} {fs : List (Str × V)} {ds : List (Str × D)} : ¬ A a → H a = some (.ins (G.ga c) dx fs) → fs.map (·.1) = ds.map (·.1) → FzL G A H (fs.map (·.2)) (ds.map (·.2)) → Fz G A H (.ref a) (.obj c ds)
  | kt {a : Addr} {vs : List V} {xs : List D} : KTup G.K a vs → FzL G A H vs xs → Fz G A H (.ref a) (.kt xs)
inductive FzL (G : Gc) (A : AS) (H : Hp) : List V → List D → Prop
  | nil : FzL G A H [] []
  | cons {v : V} {vs : List V} {d : D} {ds : List D} : Fz G A H v d → FzL G A H vs ds → FzL G A H (v :: vs) (d :: ds)
end

/-- an object that is as it was, or a dict that a loop has locked -/
def Le (o o' : HO) : Prop := o' = o ∨ (∃ ob kvs, o = .dK kvs ∧ o' = .frz ob (.dK kvs)) ∨ (∃ ob kvs, o = .dT kvs ∧ o' = .frz ob (.dT kvs))
/-- what is not in A stays; what is in Z to the sign -/
def Keep (A Z : AS) (H H' : Hp) : Prop := ∀ a o, H a = some o → ¬ A a → ∃ o', H' a = some o' ∧ Le o o' ∧ (Z a → o' = o)
theorem Le.refl (o : HO) : Le o o := .inl rfl
theorem Le.trans {a b c : HO} (h : Le a b) (k : Le b c) : Le a c := by
  rcases h with rfl | ⟨ob, kvs, rfl, rfl⟩ | ⟨ob, kvs, rfl, rfl⟩
  · exact k
  · rcases k with rfl | ⟨_, _, q, _⟩ | ⟨_, _, q, _⟩
    · exact .inr (.inl ⟨ob, kvs, rfl, rfl⟩)
    · cases q
    · cases q
  · rcases k with rfl | ⟨_, _, q, _⟩ | ⟨_, _, q, _⟩
    · exact .inr (.inr ⟨ob, kvs, rfl, rfl⟩)
    · cases q
    · cases q
theorem Keep.refl (A Z : AS) (H : Hp) : Keep A Z H H := fun _ o h _ => ⟨o, h, .refl o, fun _ => rfl⟩
theorem Keep.trans {A Z : AS} {H H1 H2 : Hp} (h : Keep A Z H H1) (k : Keep A Z H1 H2) : Keep A Z H H2 := fun a o e n => by
  obtain ⟨o1, e1, l1, z1⟩ := h a o e n
  obtain ⟨o2, e2, l2, z2⟩ := k a o1 e1 n
  exact ⟨o2, e2, l1.trans l2, fun z => (z2 z).trans (z1 z)⟩
theorem Keep.mono {A B Z Y : AS} {H H' : Hp} (h : Keep A Z H H') (s : ∀ a, A a → B a) (y : ∀ a, Y a → Z a) : Keep B Y H H' := fun a o e n =>
  let ⟨o', e', l, z⟩ := h a o e fun z => n (s a z)
  ⟨o', e', l, fun q => z (y a q)⟩
theorem Keep.new {A Z : AS} {H : Hp} {p : Addr} {o : HO} (h : H p = none) : Keep A Z H (upd H p o) := fun a u e _ => ⟨u, by rw [upd_ne (ne_of_none e h)]; exact e, .refl u, fun _ => rfl⟩
theorem Keep.at {A Z : AS} {H H' : Hp} {a : Addr} {o : HO} (k : Keep A Z H H') (e : H a = some o) (n : ¬ A a) (h : ∀ o', Le o o' → o' = o) : H' a = some o := by
  obtain ⟨o', e', l, _⟩ := k a o e n
  rw [e', h o' l]
theorem Keep.atZ {A Z : AS} {H H' : Hp} {a : Addr} {o : HO} (k : Keep A Z H H') (e : H a = some o) (n : ¬ A a) (z : Z a) : H' a = some o := by
  obtain ⟨o', e', l, q⟩ := k a o e n
  rw [e', q z]
theorem Keep.upd {A Z : AS} {H H' : Hp} {p : Addr} {o : HO} (k : Keep A Z H H') (h : A p ∨ H p = none) : Keep A Z H (upd H' p o) := fun a u e n => by
  obtain ⟨o', e', l, z⟩ := k a u e n
  have ne : a ≠ p := by
    rintro rfl
    rcases h with h | h
    · exact n h
    · rw [h] at e; cases e
  exact ⟨o', by rw [upd_ne ne]; exact e', l, z⟩
theorem Keep.none {A Z : AS} {H H' : Hp} {p : Addr} (k : Keep A Z H H') (h : H' p = none) (n : ¬ A p) : H p = none := by
  cases e : H p with
  | none => rfl
  | some o =>
    obtain ⟨o', e', _⟩ := k p o e n
    rw [h] at e'; cases e'
theorem Keep.there {A Z : AS} {H H1 : Hp} {p : Addr} (k : Keep A Z H H1) (h : H p ≠ Option.none) (n : ¬ A p) : H1 p ≠ Option.none := fun e => h (k.none e n)
theorem le_lst {xs : List V} : ∀ o', Le (.lst xs) o' → o' = .lst xs := fun o' h => by
  rcases h with h | ⟨_, _, q, _⟩ | ⟨_, _, q, _⟩
  · exact h
  · cases q
  · cases q
theorem le_tup {xs : List V} : ∀ o', Le (.tup xs) o' → o' = .tup xs := fun o' h => by
  rcases h with h | ⟨_, _, q, _⟩ | ⟨_, _, q, _⟩
  · exact h
  · cases q
  · cases q
theorem le_ins {C dx : Addr} {fs : List (Str × V)} : ∀ o', Le (.ins C dx fs) o' → o' = .ins C dx fs := fun o' h => by
  rcases h with h | ⟨_, _, q, _⟩ | ⟨_, _, q, _⟩
  · exact h
  · cases q
  · cases q
theorem Keep.rdK {A Z : AS} {H H' : Hp} {a : Addr} {kvs : List (Key × V)} (k : Keep A Z H H') (e : Rd H a (.dK kvs)) (n : ¬ A a) : Rd H' a (.dK kvs) := by
  rcases e with e | ⟨ob, e⟩
  · obtain ⟨o', e', l, _⟩ := k a _ e n
    rcases l with rfl | ⟨ob, kv, q, rfl⟩ | ⟨_, _, q, _⟩
    · exact .inl e'
    · cases q; exact .inr ⟨ob, e'⟩
    · cases q
  · obtain ⟨o', e', l, _⟩ := k a _ e n
    rcases l with rfl | ⟨_, _, q, _⟩ | ⟨_, _, q, _⟩
    · exact .inr ⟨ob, e'⟩
    · cases q
    · cases q
theorem Keep.rdT {A Z : AS} {H H' : Hp} {a : Addr} {kvs : List (List Key × V)} (k : Keep A Z H H') (e : Rd H a (.dT kvs)) (n : ¬ A a) : Rd H' a (.dT kvs) := by
  rcases e with e | ⟨ob, e⟩
  · obtain ⟨o', e', l, _⟩ := k a _ e n
    rcases l with rfl | ⟨_, _, q, _⟩ | ⟨ob, kv, q, rfl⟩
    · exact .inl e'
    · cases q
    · cases q; exact .inr ⟨ob, e'⟩
  · obtain ⟨o', e', l, _⟩ := k a _ e n
    rcases l with rfl | ⟨_, _, q, _⟩ | ⟨_, _, q, _⟩
    · exact .inr ⟨ob, e'⟩
    · cases q
    · cases q
section
variable {G : Gc} {A B Z : AS} {H H' : Hp}
mutual
/-- data stay while what they stand on stays; B: another set that they keep away from -/
theorem Fz.tr (k : Keep A Z H H') (s : ∀ a, B a → A a ∨ H a = none) : ∀ {v : V} {d : D}, Fz G A H v d → Fz G B H' v d
  | _, _, .non => .non
  | _, _, .bl b => .bl b
  | _, _, .int i => .int i
  | _, _, .str x => .str x
  | _, _, .lst n e l => .lst (fun z => (s _ z).elim n fun q => by rw [q] at e; cases e) (k.at e n le_lst) (FzL.tr k s l)
  | _, _, .tup n e l => .tup (fun z => (s _ z).elim n fun q => by rw [q] at e; cases e) (k.at e n le_tup) (FzL.tr k s l)
  | _, _, .dct n e q l => .dct (fun z => (s _ z).elim n fun q => by rcases e with e | ⟨_, e⟩ <;> (rw [q] at e; cases e)) (k.rdK e n) q (FzL.tr k s l)
  | _, _, .dctT n e q l => .dctT (fun z => (s _ z).elim n fun q => by rcases e with e | ⟨_, e⟩ <;> (rw [q] at e; cases e)) (k.rdT e n) q (FzL.tr k s l)
  | _, _, .obj n e q l => .obj (fun z => (s _ z).elim n fun q => by rw [q] at e; cases e) (k.at e n le_ins) q (FzL.tr k s l)
  | _, _, .kt e l => .kt e (FzL.tr k s l)
theorem FzL.tr (k : Keep A Z H H') (s : ∀ a, B a → A a ∨ H a = none) : ∀ {vs : List V} {ds : List D}, FzL G A H vs ds → FzL G B H' vs ds
  | _, _, .nil => .nil
  | _, _, .cons h t => .cons (Fz.tr k s h) (FzL.tr k s t)
end
theorem Fz.keep {v : V} {d : D} (k : Keep A Z H H') (h : Fz G A H v d) : Fz G A H' v d := h.tr k fun _ z => .inl z
theorem FzL.keep {v : List V} {d : List D} (k : Keep A Z H H') (h : FzL G A H v d) : FzL G A H' v d := h.tr k fun _ z => .inl z
theorem Fz.mono {v : V} {d : D} (s : ∀ a, B a → A a ∨ H a = none) (h : Fz G A H v d) : Fz G B H v d := h.tr (Keep.refl A A H) s
theorem FzL.mono {v : List V} {d : List D} (s : ∀ a, B a → A a ∨ H a = none) (h : FzL G A H v d) : FzL G B H v d := h.tr (Keep.refl A A H) s
theorem FzL.length : ∀ {vs : List V} {ds : List D}, FzL G A H vs ds → vs.length = ds.length
  | _, _, .nil => rfl
  | _, _, .cons _ t => by simp [FzL.length t]
theorem FzL.append : ∀ {vs ws : List V} {ds es : List D}, FzL G A H vs ds → FzL G A H ws es → FzL G A H (vs ++ ws) (ds ++ es)
  | _, _, _, _, .nil, k => k
  | _, _, _, _, .cons h t, k => .cons h (FzL.append t k)
theorem FzL.one {v : V} {d : D} (h : Fz G A H v d) : FzL G A H [v] [d] := .cons h .nil
theorem FzL.get : ∀ {vs : List V} {ds : List D} {i : Nat} {v : V}, FzL G A H vs ds → vs[i]? = some v → ∃ d, ds[i]? = some d ∧ Fz G A H v d
  | _, _, _, _, .nil, e => by simp at e
  | _, _, 0, _, .cons h _, e => by simp at e; subst e; exact ⟨_, rfl, h⟩
  | _, _, i + 1, v, .cons _ t, e => by
    obtain ⟨d, h1, h2⟩ := FzL.get (i := i) (v := v) t (by simpa using e)
    exact ⟨d, by simpa using h1, h2⟩
theorem FzL.getD : ∀ {vs : List V} {ds : List D} {i : Nat} {d : D}, FzL G A H vs ds → ds[i]? = some d → ∃ v, vs[i]? = some v ∧ Fz G A H v d
  | _, _, _, _, .nil, e => by simp at e
  | _, _, 0, _, .cons h _, e => by simp at e; subst e; exact ⟨_, rfl, h⟩
  | _, _, i + 1, v, .cons _ t, e => by
    obtain ⟨d, h1, h2⟩ := FzL.getD (i := i) (d := v) t (by simpa using e)
    exact ⟨d, by simpa using h1, h2⟩
theorem FzL.drop : ∀ {vs : List V} {ds : List D} (n : Nat), FzL G A H vs ds → FzL G A H (vs.drop n) (ds.drop n)
  | _, _, 0, h => h
  | _, _, _ + 1, .nil => .nil
  | _, _, n + 1, .cons _ t => FzL.drop n t
theorem FzL.take : ∀ {vs : List V} {ds : List D} (n : Nat), FzL G A H vs ds → FzL G A H (vs.take n) (ds.take n)
  | _, _, 0, _ => .nil
  | _, _, _ + 1, .nil => .nil
  | _, _, n + 1, .cons h t => .cons h (FzL.take n t)
theorem FzL.set : ∀ {vs : List V} {ds : List D} {v : V} {d : D} (n : Nat), FzL G A H vs ds → Fz G A H v d → FzL G A H (vs.set n v) (ds.set n d)
  | _, _, _, _, _, .nil, _ => .nil
  | _, _, _, _, 0, .cons _ t, k => .cons k t
  | _, _, _, _, n + 1, .cons h t, k => .cons h (FzL.set n t k)
theorem FzL.eraseIdx : ∀ {vs : List V} {ds : List D} (n : Nat), FzL G A H vs ds → FzL G A H (vs.eraseIdx n) (ds.eraseIdx n)
  | _, _, _, .nil => .nil
  | _, _, 0, .cons _ t => t
  | _, _, n + 1, .cons h t => .cons h (FzL.eraseIdx n t)
theorem FzL.reverse : ∀ {vs : List V} {ds : List D}, FzL G A H vs ds → FzL G A H vs.reverse ds.reverse
  | _, _, .nil => .nil
  | _, _, .cons h t => by
    rw [List.reverse_cons, List.reverse_cons]
    exact (FzL.reverse t).append (.one h)
theorem FzL.split : ∀ {ws : List V} {ds es : List D}, FzL G A H ws (ds ++ es) → ∃ v1 v2, ws = v1 ++ v2 ∧ FzL G A H v1 ds ∧ FzL G A H v2 es
  | ws, [], es, h => ⟨[], ws, rfl, .nil, h⟩
  | _, d :: ds, es, .cons h t => by
    obtain ⟨v1, v2, e, a, b⟩ := FzL.split (ds := ds) (es := es) t
    exact ⟨_ :: v1, v2, by rw [e]; rfl, .cons h a, b⟩
end
end PP

set_option Elab.async false
set_option linter.all false
set_option maxRecDepth 100000
set_option maxHeartbeats 2000000
namespace PP
open PySem PySem.Spec PyProof.Rows L2

/-! ### the meaning over plain data -/
/-- a value that an expression has made: data that stay, a new list, a new dict -/
inductive R where
  | fz (d : D) | nl (xs : List D) | nd (kvs : List (Key × D))
def R.d : R → D
  | .fz d => d
  | .nl xs => .lst xs
  | .nd kvs => .dct kvs
/-- what a slot holds: data that stay; a list of one's own; the caller's list that is changed; a dict of one's own; the stream -/
inductive P where
  | fz (d : D) | own (xs : List D) | io (xs : List D) | ownd (kvs : List (Key × D)) | stm
/-- the stream: what is left of the script, the number at hand, the count of draws, the mixed number -/
structure Stm where
  ns : List Int
  x : Int
  c : Nat
  y : Int
structure S where
  sl : List (Option P)
  c : Stm
def gt : List (Option P) → Nat → Option P
  | [], _ => none
  | x :: _, 0 => x
  | _ :: xs, n + 1 => gt xs n
def pt : List (Option P) → Nat → Option P → List (Option P)
  | [], _, _ => []
  | _ :: xs, 0, v => v :: xs
  | x :: xs, n + 1, v => x :: pt xs n v
/-- an error: its class, its fields -/
abbrev Xn := Str × List (Str × D)
abbrev XCc := Xn → Stm → Prop
abbrev XC := Xn → S → Prop
abbrev M (α : Type) := S → (α → S → Prop) → XC → Prop
def ret {α : Type} (a : α) : M α := fun s k _ => k a s
def bnd {α β : Type} (f : M α) (g : α → M β) : M β := fun s k e => f s (fun a s1 => g a s1 k e) e
def fail {α : Type} : M α := fun _ _ _ => False
def need {α : Type} (p : Prop) (f : M α) : M α := fun s k e => p ∧ f s k e
def toD (f : M R) : M D := fun s k e => f s (fun r => k r.d) e
def ofD (f : M D) : M R := fun s k e => f s (fun d => k (.fz d)) e
def rd (d : D) : M R := ret (.fz d)

/-- a contract: arguments (none: the stream), the count of draws, what is wanted of the value, of an error -/
abbrev Con := List (Option D) → Stm → (R → Stm → Prop) → XCc → Prop
/-- one that changes the list at one of its places -/
abbrev ConIO := List (Option D) → List D → Stm → (R → List D → Stm → Prop) → XCc → Prop
inductive FE where
  | pl (con : Con) (scal : Bool) (dfl : List D)
  | io (ix : Nat) (con : ConIO)
/-- a def that calls what it got and tells what came of it: of a value, of an error -/
structure Ask where
  val : D → Option D
  err : Xn → Option D
structure Env where
  fn : Str → Option FE
  mth : Str → Str → Option FE
  cst : Str → Option D
  ask : Str → Option Ask := fun _ => none

inductive Bop where | add | sub | mul | fdiv | mod | pow | rep
inductive Cop where | lt | le | gt | ge | eq | ne | isin | notin | isn | notn | isinD | notinD
inductive Bi where | len | list | tuple | sorted | all | any | sum | max | min | max2 | min2 | int | str | repr | range | enum | zip | dict | setsort | lenset | abs
inductive Ty where | b (n : String) | own (c : Str)
inductive Tg where | one (i : Nat) | tup (ts : List Tg)
inductive Ex where
  | var (i : Nat) | int (i : Int) | str (x : Str) | bl (b : Bool) | non | cst (x : Str)
  | bin (op : Bop) (a b : Ex) | neg (a : Ex)
  | cmp (op : Cop) (a b : Ex) | cmp2 (op op' : Cop) (a b c : Ex)
  | and (a b : Ex) | or (a b : Ex) | not (a : Ex) | ite (t a b : Ex)
  | lst (es : List Ex) | tup (es : List Ex) | dct (ks vs : List Ex)
  | call (f : Str) (es : List Ex) (nd : Nat)
  | bi (f : Bi) (es : List Ex) | isi (e : Ex) (ts : List Ty)
  | mth (c : Str) (o : Ex) (m : Str) (es : List Ex) (nd : Nat) | att (c : Str) (o : Ex) (f : Str)
  | idx (o i : Ex) | sli (o : Ex) (lo hi : Option Ex) | rev (o : Ex)
  | join (o e : Ex) | split (o e : Ex) | index (o e : Ex) | get (o k d : Ex) | items (o : Ex)
  | lc (src : Ex) (tg : Tg) (ifs : List Ex) (elt : Ex)
  | dc (src : Ex) (tg : Tg) (ifs : List Ex) (k v : Ex)
  | pop (i : Nat) (e : Option Ex)
  | lcv (i : Nat) (tg : Tg) (ifs : List Ex) (elt : Ex)
  | oeq (c : Str) (neg : Bool) (a b : Ex) | isO (e : Ex) (c : Str) | itO (c f : Str) (e : Ex)
  | io (f : Str) (es : List Ex)
  | lam (f : Str) (caps : List Nat) (e : Ex)

/-- what is looked at: data, or a slot's own list as it then is -/
inductive VR where | d (d : D) | sl (i : Nat)
def res : VR → M D
  | .d d => ret d
  | .sl i => fun s k _ => match gt s.sl i with
    | some (.fz d) => k d s
    | some (.own xs) => k (.lst xs) s
    | some (.io xs) => k (.lst xs) s
    | some (.ownd kvs) => k (.dct kvs) s
    | _ => False
def qVar (i : Nat) : M R := fun s k _ => match gt s.sl i with
  | some (.fz d) => k (.fz d) s
  | some (.own xs) => k (.fz (.lst xs)) { s with sl := pt s.sl i (some (.fz (.lst xs))) }
  | some (.ownd kvs) => k (.fz (.dct kvs)) { s with sl := pt s.sl i (some (.fz (.dct kvs))) }
  | _ => False
/-- a slot is given a value: a list or a dict that is new is its own -/
def R.p : R → P
  | .fz d => .fz d
  | .nl xs => .own xs
  | .nd kvs => .ownd kvs
def setS (i : Nat) (r : R) (s : S) : S := { s with sl := pt s.sl i (some r.p) }
def isIo : Option P → Bool
  | some (.io _) => true
  | _ => false
def store (i : Nat) (r : R) : M Unit := fun s k _ => isIo (gt s.sl i) = false ∧ k () (setS i r s)
mutual
def bindT : Tg → D → M Unit
  | .one i, x => store i (.fz x)
  | .tup ts, .tup xs => bindTs ts xs
  | .tup _, _ => fail
def bindTs : List Tg → List D → M Unit
  | [], [] => ret ()
  | t :: ts, x :: xs => bnd (bindT t x) fun _ => bindTs ts xs
  | _, _ => fail
end
mutual
def Tg.ix : Tg → List Nat
  | .one i => [i]
  | .tup ts => tgIxs ts
def tgIxs : List Tg → List Nat
  | [] => []
  | t :: ts => t.ix ++ tgIxs ts
end
def wipeS : List Nat → List (Option P) → List (Option P)
  | [], l => l
  | v :: vs, l => pt (wipeS vs l) v none

/-! ### operations -/
def isScalar : D → Bool
  | .non => true | .bl _ => true | .int _ => true | .str _ => true
  | _ => false
def truth : D → Bool
  | .non => false | .bl b => b | .int i => i != 0 | .str x => x.length != 0
  | .lst xs => !xs.isEmpty | .tup xs => !xs.isEmpty | .dct kvs => !kvs.isEmpty | .dctT kvs => !kvs.isEmpty
  | .obj _ _ => true
  | .kt xs => !xs.isEmpty
def qAdd : D → D → M R
  | .int i, .int j => rd (.int (i + j))
  | .str a, .str b => need (a.length + b.length ≤ sizeLine) (rd (.str (a ++ b)))
  | .lst a, .lst b => need (a.length + b.length ≤ sizeLine) (ret (.nl (a ++ b)))
  | .tup a, .tup b => need (a.length + b.length ≤ sizeLine) (rd (.tup (a ++ b)))
  | _, _ => fail
def qBin : Bop → D → D → M R
  | .add, x, y => qAdd x y
  | .sub, .int i, .int j => rd (.int (i - j))
  | .mul, .int i, .int j => need (CMul i j) (rd (.int (i * j)))
  | .fdiv, .int i, .int j => need (CDiv i j) (rd (.int (i / j)))
  | .mod, .int i, .int j => need (0 < j) (rd (.int (i % j)))
  | .rep, .lst xs, .int j => need (-(2 ^ 63) ≤ j ∧ j < 2 ^ 63 ∧ xs.length * j.toNat ≤ sizeLine) (ret (.nl (List.replicate j.toNat xs).flatten))
  | .pow, .int i, .int j => need (CPow i j) (rd (.int (i ^ j.toNat)))
  | _, _, _ => fail
mutual
def pd : D → PyData
  | .non => .none | .bl b => .bool b | .int i => .int i | .str x => .str x
  | .lst xs => .list (pds xs) | .tup xs => .tuple (pds xs)
  | .dct kvs => .dict [] | .dctT _ => .dict [] | .obj _ _ => .dict [] | .kt _ => .dict []
def pds : List D → List PyData
  | [] => []
  | x :: xs => pd x :: pds xs
end
def kyP : Key → PyData
  | .inl i => .int i
  | .inr x => .str x
mutual
/-- as repr tells it -/
def ps : D → PyData
  | .non => .none | .bl b => .bool b | .int i => .int i | .str x => .str x
  | .lst xs => .list (pss xs) | .tup xs => .tuple (pss xs) | .kt xs => .tuple (pss xs)
  | .dct kvs => .dict (psK kvs) | .dctT _ => .none | .obj _ _ => .none
def pss : List D → List PyData
  | [] => []
  | x :: xs => ps x :: pss xs
def psK : List (Key × D) → List (PyData × PyData)
  | [] => []
  | (k, d) :: r => (kyP k, ps d) :: psK r
end
mutual
def psOk : D → Bool
  | .lst xs => psOks xs | .tup xs => psOks xs | .kt xs => psOks xs
  | .dct kvs => psOkK kvs | .dctT _ => false | .obj _ _ => false
  | _ => true
def psOks : List D → Bool
  | [] => true
  | x :: xs => psOk x && psOks xs
def psOkK : List (Key × D) → Bool
  | [] => true
  | (_, d) :: r => psOk d && psOkK r
end
mutual
def noL : D → Bool
  | .lst _ => false | .tup xs => noLs xs | .kt xs => noLs xs
  | .dct kvs => noLK kvs
  | _ => true
def noLs : List D → Bool
  | [] => true
  | x :: xs => noL x && noLs xs
def noLK : List (Key × D) → Bool
  | [] => true
  | (_, d) :: r => noL d && noLK r
end
def reprOk (d : D) : Bool := psOk d && (!(ps d).hasDict || noL d) && ((ps d).showable && decide ((ps d).depth ≤ 60))
/-- sorted, of data that can be compared -/
def srtD (xs : List D) : List D := xs.mergeSort (PySem.W.dataLe false pd)
def srtOk (xs : List D) : Prop := PySem.W.AllAlike (xs.map pd) ∧ PySem.W.Sortable (xs.map pd) ∧ ∀ d ∈ xs, (pd d).canLay0 = true ∧ (pd d).depth ≤ 60
/-- == of data -/
def eqD (x y : D) : Bool := PyData.eqv (pd x) (pd y)
def eqOk (x y : D) : Bool := SeqAt.shaped (pd x) && SeqAt.shaped (pd y)
def toV : D → V
  | .non => .non | .bl b => .bl b | .int i => .int i | .str x => .str x
  | _ => .non
def keyOf : D → Option Key
  | .int i => some (.inl i)
  | .str x => some (.inr x)
  | _ => none
def keyD : Key → D
  | .inl i => .int i
  | .inr x => .str x
def keysOf : List D → Option (List Key)
  | [] => some []
  | x :: xs => match keyOf x, keysOf xs with
    | some k, some ks => some (k :: ks)
    | _, _ => none
def look {κ : Type} [DecidableEq κ] (kvs : List (κ × D)) (k : κ) : Option D := (kvs.find? fun kv => decide (kv.1 = k)).map (·.2)
def putD {κ : Type} [DecidableEq κ] (kvs : List (κ × D)) (k : κ) (v : D) : List (κ × D) :=
  if (kvs.any fun kv => decide (kv.1 = k)) = true then kvs.map (fun kv => if kv.1 = k then (kv.1, v) else kv) else kvs ++ [(k, v)]
/-- the pairs of a list of pairs: keys, tuple keys -/
def asPairK : List D → Option (List (Key × D))
  | [] => some []
  | .tup [a, b] :: xs => match keyOf a, asPairK xs with
    | some k, some r => some ((k, b) :: r)
    | _, _ => none
  | _ :: _ => none
def asPairT : List D → Option (List (List Key × D))
  | [] => some []
  | .tup [.tup ks, b] :: xs => match keysOf ks, asPairT xs with
    | some k, some r => some ((k, b) :: r)
    | _, _ => none
  | _ :: _ => none
def dictOf {κ : Type} [DecidableEq κ] (kvs : List (κ × D)) : List (κ × D) := kvs.foldl (fun acc kv => putD acc kv.1 kv.2) []
def lstT : D → Option (List D)
  | .lst xs => some xs
  | .tup xs => some xs
  | _ => none
def inD (x : D) (xs : List D) : Bool := xs.any fun y => eqV (toV y) (toV x)
def qIn (neg : Bool) : D → D → M R
  | x, .lst xs => need (isScalar x = true ∧ xs.all isScalar = true) (rd (.bl (if neg then !inD x xs else inD x xs)))
  | x, .tup xs => need (isScalar x = true ∧ xs.all isScalar = true) (rd (.bl (if neg then !inD x xs else inD x xs)))
  | .str x, .dct kvs => rd (.bl (if neg then !(look kvs (.inr x)).isSome else (look kvs (.inr x)).isSome))
  | .int x, .dct kvs => rd (.bl (if neg then !(look kvs (.inl x)).isSome else (look kvs (.inl x)).isSome))
  | .str ⟨#[c]⟩, .str z => rd (.bl (if neg then !decide (c ∈ z.cps.toList) else decide (c ∈ z.cps.toList)))
  | _, _ => fail
def qEq (neg : Bool) (x y : D) : M R :=
  if scal (toV x) (toV y) && (isScalar x && isScalar y) then rd (.bl (if neg then !decide (toV x = toV y) else decide (toV x = toV y)))
  else need (eqOk x y = true) (rd (.bl (if neg then !eqD x y else eqD x y)))
/-- x in xs where x is any data: a dict among texts, else data that can be compared -/
def isStr : D → Bool
  | .str _ => true
  | _ => false
def inOkD : D → List D → Bool
  | .dct _, xs => xs.all isStr
  | x, xs => SeqAt.shaped (pd x) && SeqAt.shaped (pd (.lst xs))
def inAnyD : D → List D → Bool
  | .dct _, _ => false
  | x, xs => xs.any fun y => eqD y x
def qInD (neg : Bool) : D → D → M R
  | x, .lst xs => need (inOkD x xs = true) (rd (.bl (if neg then !inAnyD x xs else inAnyD x xs)))
  | _, _ => fail
def qCmp : Cop → D → D → M R
  | .lt, .int i, .int j => rd (.bl (decide (i < j)))
  | .le, .int i, .int j => rd (.bl (decide (i ≤ j)))
  | .gt, .int i, .int j => rd (.bl (decide (j < i)))
  | .ge, .int i, .int j => rd (.bl (decide (j ≤ i)))
  | .lt, .str a, .str b => rd (.bl (decide (a.cps.toList < b.cps.toList)))
  | .eq, x, y => qEq false x y
  | .ne, x, y => qEq true x y
  | .isin, x, y => qIn false x y
  | .notin, x, y => qIn true x y
  | .isn, .non, .non => rd (.bl true)
  | .isn, _, .non => rd (.bl false)
  | .notn, .non, .non => rd (.bl false)
  | .notn, _, .non => rd (.bl true)
  | .isinD, x, y => qInD false x y
  | .notinD, x, y => qInD true x y
  | _, _, _ => fail
def cutD (xs : List D) (lo hi : Option Int) : List D := (xs.drop (HT.sIx xs.length 0 lo)).take (HT.sIx xs.length xs.length hi - HT.sIx xs.length 0 lo)
def cutS (z : Str) (lo hi : Option Int) : Str := ⟨((z.cps.toList.drop (HT.sIx z.length 0 lo)).take (HT.sIx z.length z.length hi - HT.sIx z.length 0 lo)).toArray⟩
def qIdx : D → D → M R
  | .lst xs, .int i => fun s k _ => match atI xs i with
    | some x => k (.fz x) s
    | none => False
  | .tup xs, .int i => fun s k _ => match atI xs i with
    | some x => k (.fz x) s
    | none => False
  | .str z, .int i => fun s k _ => z.length ≤ sizeLine ∧ match atI z.cps.toList i with
    | some c => k (.fz (.str ⟨#[c]⟩)) s
    | none => False
  | .dct kvs, .str x => fun s k _ => match look kvs (.inr x) with
    | some x => k (.fz x) s
    | none => False
  | .dct kvs, .int x => fun s k _ => match look kvs (.inl x) with
    | some x => k (.fz x) s
    | none => False
  | .dctT kvs, .tup xs => fun s k _ => match keysOf xs with
    | some ks => (match look kvs ks with
      | some x => k (.fz x) s
      | none => False)
    | none => False
  | _, _ => fail
def qSli : D → Option Int → Option Int → M R
  | .lst xs, lo, hi => ret (.nl (cutD xs lo hi))
  | .tup xs, lo, hi => rd (.tup (cutD xs lo hi))
  | _, _, _ => fail
def asInts : List D → Option (List Int)
  | [] => some []
  | .int i :: xs => (asInts xs).map (i :: ·)
  | _ :: _ => none
def asStrs : List D → Option (List Str)
  | [] => some []
  | .str i :: xs => (asStrs xs).map (i :: ·)
  | _ :: _ => none
def asBls : List D → Option (List Bool)
  | [] => some []
  | .bl i :: xs => (asBls xs).map (i :: ·)
  | _ :: _ => none
def lstOf : D → Option (List D)
  | .lst xs => some xs
  | .tup xs => some xs
  | _ => none
def lstL : D → Option (List D)
  | .lst xs => some xs
  | _ => none
def qBi : Bi → List D → M R
  | .len, [.lst xs] => rd (.int xs.length)
  | .len, [.tup xs] => rd (.int xs.length)
  | .len, [.str x] => need (x.length ≤ sizeLine) (rd (.int x.length))
  | .len, [.dct kvs] => rd (.int kvs.length)
  | .list, [.lst xs] => ret (.nl xs)
  | .list, [.tup xs] => ret (.nl xs)
  | .list, [.dct kvs] => ret (.nl (kvs.map fun kv => keyD kv.1))
  | .tuple, [.lst xs] => rd (.tup xs)
  | .tuple, [.tup xs] => rd (.tup xs)
  | .all, [.lst xs] => fun s k _ => match asBls xs with
    | some bs => k (.fz (.bl (bs.all id))) s
    | none => False
  | .any, [.lst xs] => fun s k _ => match asBls xs with
    | some bs => k (.fz (.bl (bs.any id))) s
    | none => False
  | .sum, [.lst xs] => fun s k _ => match asInts xs with
    | some ns => k (.fz (.int ns.sum)) s
    | none => False
  | .max, [.lst xs] => fun s k _ => match asInts xs with
    | some ns => 0 < ns.length ∧ ∀ m, m ∈ ns → (∀ y, y ∈ ns → y ≤ m) → k (.fz (.int m)) s
    | none => False
  | .min, [.lst xs] => fun s k _ => match asInts xs with
    | some ns => 0 < ns.length ∧ ∀ m, m ∈ ns → (∀ y, y ∈ ns → m ≤ y) → k (.fz (.int m)) s
    | none => False
  | .max2, [.int i, .int j] => rd (.int (if j > i then j else i))
  | .min2, [.int i, .int j] => rd (.int (if j < i then j else i))
  | .int, [.int i] => rd (.int i)
  | .int, [.bl b] => rd (.int (if b then 1 else 0))
  | .int, [.str x] => fun s k _ => match PySem.intText? x with
    | some n => x.length ≤ 640 ∧ k (.fz (.int n)) s
    | none => False
  | .str, [.int i] => need (i.natAbs.log2 < 1920) (rd (.str (toString i)))
  | .str, [.str x] => rd (.str x)
  | .sorted, [.lst xs] => need (srtOk xs) (ret (.nl (srtD xs)))
  | .dict, [.lst xs] => fun s k _ => match asPairK xs with
    | some kvs => k (.nd (dictOf kvs)) s
    | none => (match asPairT xs with
      | some kvs => k (.fz (.dctT (dictOf kvs))) s
      | none => False)
  | .repr, [d] => need (reprOk d = true ∧ (ps d).shown.length ≤ sizeLine) (rd (.str (ps d).shown))
  | .setsort, [d] => fun s k _ => match (lstT d).bind keysOf with
    | some ks => ks.length + 1 < 4096 ∧ PySem.W.AllAlike (ks.map fun k => pd (keyD k)) ∧ ∀ zs : List Key, zs.Nodup → (∀ x, x ∈ zs ↔ x ∈ ks) → k (.nl (srtD (zs.map keyD))) s
    | none => False
  | _, _ => fail
/-- the kind of a value, as isinstance asks of it -/
def tyD : D → Ty
  | .non => .b "NoneType" | .bl _ => .b "bool" | .int _ => .b "int" | .str _ => .b "str"
  | .lst _ => .b "list" | .tup _ => .b "tuple" | .dct _ => .b "dict" | .dctT _ => .b "dictT"
  | .obj c _ => .own c
  | .kt _ => .b "tuple"
def isTy : Ty → Ty → Bool
  | .b a, .b b => a == b || (a == "bool" && b == "int")
  | .own a, .own b => decide (a = b)
  | _, _ => false
def isAny (t : Ty) (ts : List Ty) : Bool := ts.any (isTy t)
def kindsB : List String := ["NoneType", "bool", "int", "str", "list", "tuple", "dict"]
def bltTy : Ty → Bool
  | .b n => kindsB.contains n
  | .own _ => false
def qIsi (d : D) (ts : List Ty) : M R := need (bltTy (tyD d) = true ∧ ts.all bltTy = true) (rd (.bl (isAny (tyD d) ts)))
def fld (fs : List (Str × D)) (f : Str) : Option D := (fs.find? fun kv => decide (kv.1 = f)).map (·.2)
/-- what a loop over data gives -/
def seqXs : D → M (List D)
  | .lst xs => ret xs
  | .tup xs => ret xs
  | .dct kvs => ret (kvs.map fun kv => keyD kv.1)
  | .dctT kvs => ret (kvs.map fun kv => .tup (kv.1.map keyD))
  | .str z => need (z.length ≤ sizeLine) (ret (z.cps.toList.map fun c => .str ⟨#[c]⟩))
  | _ => fail
def enumD (n : Nat) : List D → List D
  | [] => []
  | x :: xs => .tup [.int n, x] :: enumD (n + 1) xs
def zipD : List D → List D → List D
  | x :: xs, y :: ys => .tup [x, y] :: zipD xs ys
  | _, _ => []
def rangeD (lo : Int) : Nat → List D
  | 0 => []
  | n + 1 => .int lo :: rangeD (lo + 1) n
def noX : XC := fun _ _ => False
def noXc : XCc := fun _ _ => False
/-- what is wanted of an error that a def lets out, the slots as they are -/
def XC.at (e : XC) (s : S) : XCc := fun xn c => e xn { s with c := c }
def noIo (l : List Nat) (sl : List (Option P)) : Bool := l.all fun i => !isIo (gt sl i)
def lcGo {α : Type} (tg : Tg) (test : M Bool) (elt : M α) : List D → List α → M (List α)
  | [], acc => ret acc
  | x :: xs, acc => fun s k e => noIo tg.ix s.sl = true ∧ bindT tg x { s with sl := wipeS tg.ix s.sl } (fun _ s1 => test s1 (fun b s2 => match b with
    | true => elt s2 (fun y s3 => lcGo tg test elt xs (acc ++ [y]) s3 k e) noX
    | false => lcGo tg test elt xs acc s2 k e) noX) noX
inductive Av where | st | v (x : VR)
/-- a slot's own list that is lent -/
def resL : VR → M D
  | .d d => ret d
  | .sl i => fun s k _ => match gt s.sl i with
    | some (.fz d) => k d s
    | some (.own xs) => k (.lst xs) s
    | some (.io xs) => k (.lst xs) s
    | _ => False
def resA : List Av → M (List (Option D))
  | [] => ret []
  | .st :: r => bnd (resA r) fun ds => ret (none :: ds)
  | .v x :: r => bnd (resL x) fun d => bnd (resA r) fun ds => ret (some d :: ds)
def sclR : R → Bool
  | .fz d => isScalar d
  | _ => false
/-- a def by its contract -/
def callC (con : Con) (scal : Bool) (as : List (Option D)) : M R := fun s k e =>
  con as s.c (fun r c' => (scal = true → sclR r = true) ∧ k r { s with c := c' }) (fun xn c' => (scal = true → (xn.2.all fun f => isScalar f.2) = true) ∧ e xn { s with c := c' })
def dflTail (dfl : List D) (nd : Nat) : List (Option D) := (dfl.drop (dfl.length - nd)).map some
def popL (xs : List D) : Option Int → Option (D × List D)
  | none => match xs.reverse with
    | x :: r => some (x, r.reverse)
    | [] => none
  | some i => match (ixN xs.length i) with
    | some j => (xs[j]?).map fun x => (x, xs.eraseIdx j)
    | none => none
def qPop (i : Nat) (o : Option Int) : M R := fun s k _ => match gt s.sl i with
  | some (.own xs) => (match popL xs o with
    | some (x, ys) => k (.fz x) { s with sl := pt s.sl i (some (.own ys)) }
    | none => False)
  | some (.io xs) => (match popL xs o with
    | some (x, ys) => k (.fz x) { s with sl := pt s.sl i (some (.io ys)) }
    | none => False)
  | _ => False
/-- the slot holds a list of one's own -/
def qHas (i : Nat) : M Unit := fun s k _ => match gt s.sl i with
  | some (.own _) => k () s
  | some (.io _) => k () s
  | _ => False
def qJoin : D → D → M R
  | .str a, .lst xs => fun s k _ => match asStrs xs with
    | some ys => (ys.map (·.length)).sum + ys.length * a.length ≤ 16777216 ∧ k (.fz (.str (Txt.join a ys))) s
    | none => False
  | _, _ => fail
def qSplit : D → D → M R
  | .str a, .str b => need ((b.length == 0) = false ∧ a.length + 2 ≤ sizeLine) (ret (.nl ((Txt.split a b).map D.str)))
  | _, _ => fail
def asInt : D → M Int
  | .int i => ret i
  | _ => fail

/-- the readings of an expression: its value, its truth, what a loop over it gives -/
structure Sm where
  r : M R
  t : M Bool
  s : M (List D)
def vwOf : Ex → M R → M VR
  | .var i, _ => fun s k _ => match gt s.sl i with
    | some (.fz d) => k (.d d) s
    | some (.own _) => k (.sl i) s
    | some (.io _) => k (.sl i) s
    | some (.ownd _) => k (.sl i) s
    | _ => False
  | _, f => bnd (toD f) fun d => ret (.d d)
/-- an argument that is lent; one that stays -/
def avOf : Ex → M R → M Av
  | .var i, f => fun s k e => match gt s.sl i with
    | some .stm => k .st s
    | _ => vwOf (.var i) f s (fun x => k (.v x)) e
  | _, f => bnd (toD f) fun d => ret (.v (.d d))
def bvOf : Ex → M R → M (Option D)
  | .var i, f => fun s k e => match gt s.sl i with
    | some .stm => k none s
    | _ => toD f s (fun d => k (some d)) e
  | _, f => bnd (toD f) fun d => ret (some d)
def truOk : D → Prop
  | .str x => x.length ≤ sizeLine
  | .dct _ => False | .dctT _ => False | .obj _ _ => False | .kt _ => False
  | _ => True
def qTru (d : D) : M Bool := need (truOk d) (ret (truth d))
def dfT (e : Ex) (f : M R) : M Bool := bnd (vwOf e f) fun x => bnd (res x) qTru
def dfS (f : M R) : M (List D) := bnd (toD f) seqXs
def sm (e : Ex) (f : M R) : Sm := ⟨f, dfT e f, dfS f⟩
def ress : List VR → M (List D)
  | [] => ret []
  | x :: xs => bnd (res x) fun d => bnd (ress xs) fun ds => ret (d :: ds)
def srcB : Bi → List (M R) → M R → M (List D)
  | .range, [a], _ => bnd (toD a) fun d => bnd (asInt d) fun n => need (-(2 ^ 62) ≤ n ∧ n ≤ 16777216) (ret (rangeD 0 n.toNat))
  | .range, [a, b], _ => bnd (toD a) fun d => bnd (toD b) fun d' => bnd (asInt d) fun m => bnd (asInt d') fun n =>
    need (-(2 ^ 62) ≤ m ∧ m < 2 ^ 62 ∧ -(2 ^ 62) ≤ n ∧ n < 2 ^ 62 ∧ n - m ≤ 16777216) (ret (rangeD m (n - m).toNat))
  | .enum, [a], _ => bnd (toD a) fun d => match d with
    | .lst xs => ret (enumD 0 xs)
    | .tup xs => ret (enumD 0 xs)
    | .kt xs => ret (enumD 0 xs)
    | _ => fail
  | .zip, [a, b], _ => bnd (toD a) fun d => bnd (toD b) fun d' => match d, d' with
    | .lst xs, .lst ys => ret (zipD xs ys)
    | _, _ => fail
  | _, _, f => dfS f
def pair (a : D) (b : D) : M (Key × D) := fun s k _ => match keyOf a with
  | some key => k (key, b) s
  | none => False
def wiped {α : Type} (l : List Nat) (a : α) : M α := fun s k _ => noIo l s.sl = true ∧ k a { s with sl := wipeS l s.sl }
def qAtt (c f : Str) : D → M R
  | .obj c' fs => fun s k _ => c' = c ∧ match fld fs f with
    | some x => k (.fz x) s
    | none => False
  | _ => fail
/-- a list of one's own is walked through; meanwhile nobody has it -/
def lockL (i : Nat) (f : List D → M R) : M R := fun s k e => match gt s.sl i with
  | some (.own xs) => f xs { s with sl := pt s.sl i none } (fun r s' => match r with
    | .nl ys => gt s'.sl i = none ∧ k (.nl ys) { s' with sl := pt s'.sl i (some (.own xs)) }
    | _ => False) e
  | _ => False
/-- isinstance of an own class -/
def qIsO (c : Str) : D → M R
  | .obj c' _ => need (c' = c) (rd (.bl true))
  | _ => fail
/-- what an own __iter__ over a field goes through -/
def qItO (c f : Str) : D → M (List D)
  | .obj c' fs => fun s k _ => c' = c ∧ match fld fs f with
    | some (.tup xs) => k xs s
    | _ => False
  | _ => fail
def qCst (Γ : Env) (x : Str) : M R := fun s k _ => match Γ.cst x with
  | some d => k (.fz d) s
  | none => False
def qNeg : D → M R
  | .int i => rd (.int (-i))
  | _ => fail
def qRev : D → M R
  | .lst xs => ret (.nl xs.reverse)
  | _ => fail
/-- by a truth: one way or the other -/
def byB {α : Type} (a b : M α) : D → M α
  | .bl true => a
  | .bl false => b
  | _ => fail
def byb {α : Type} (a b : M α) : Bool → M α
  | true => a
  | false => b
/-- a def by its contract: what is handed to one that gives a plain value back is lent, else it stays -/
def callE (e : Option FE) (self : List (Option D)) (lent : M (List Av)) (args : M (List (Option D))) (nd : Nat) : M R := match e with
  | some (.pl con true dfl) => bnd lent fun as => bnd (resA as) fun ds => callC con true (self ++ (ds ++ dflTail dfl nd))
  | some (.pl con false dfl) => bnd args fun ds => callC con false (self ++ (ds ++ dflTail dfl nd))
  | _ => fail
def callM (Γ : Env) (c m : Str) (lent : M (List Av)) (args : M (List (Option D))) (nd : Nat) : D → M R
  | .obj c' fs => need (c' = c ∧ fld fs m = none) (callE (Γ.mth c m) [some (.obj c fs)] lent args nd)
  | _ => fail
/-- == by an own __eq__ -/
def notB (neg : Bool) : R → M R
  | .fz (.bl b) => rd (.bl (if neg then !b else b))
  | _ => fail
def qOeq (Γ : Env) (c : Str) (neg : Bool) : D → D → M R
  | .obj c' fs, .obj c'' gs => need (c' = c ∧ c'' = c) (match Γ.mth c "__eq__" with
    | some (.pl con _ _) => fun s k _ => (bnd (callC con false [some (.obj c fs), some (.obj c gs)]) (notB neg)) s k noX
    | _ => fail)
  | _, _ => fail
/-- a call that changes the list in the slot at one place of its arguments -/
def argIO : List Ex → Nat → Option Nat
  | .var i :: _, 0 => some i
  | _ :: es, n + 1 => argIO es n
  | _, _ => none
def hasOf : Ex → M Unit
  | .var i => qHas i
  | _ => fail
def ioIx (Γ : Env) (f : Str) : Nat := match Γ.fn f with
  | some (.io ix _) => ix
  | _ => 0
def callIO (Γ : Env) (f : Str) (es : List Ex) (args : M (List (Option D))) : M R := match Γ.fn f with
  | some (.io ix con) => (match argIO es ix with
    | some i => bnd args fun ds => fun s k e => (match gt s.sl i with
      | some (.own xs) => con ds xs s.c (fun r ys c' => k r { sl := pt s.sl i (some (.own ys)), c := c' }) noXc
      | _ => False)
    | none => fail)
  | _ => fail
def qDct : List Ex → List Ex → M R
  | [], [] => ret (.nd [])
  | _, _ => fail
/-- what a lambda is given of the slots: those that it names are frozen, one's own other ones are hid -/
def frzP : Option P → Option P
  | some (.own xs) => some (.fz (.lst xs))
  | some (.ownd kvs) => some (.fz (.dct kvs))
  | p => p
def frzS : List Nat → List (Option P) → List (Option P)
  | [], l => l
  | i :: is, l => frzS is (pt l i (frzP (gt l i)))
def hideP : Option P → Option P
  | some (.fz d) => some (.fz d)
  | some .stm => some .stm
  | _ => none
def tell (o : Option D) (s : S) (c : Stm) (k : R → S → Prop) : Prop := match o with
  | some d => k (.fz d) { s with c := c }
  | none => False
def askE (a : Option Ask) (caps : List Nat) (f : M R) : M R := match a with
  | some a => fun s k _ => f ⟨(frzS caps s.sl).map hideP, s.c⟩ (fun r s' => tell (a.val r.d) { s with sl := frzS caps s.sl } s'.c k) (fun xn s' => tell (a.err xn) { s with sl := frzS caps s.sl } s'.c k)
  | none => fail
section
variable (Γ : Env)
mutual
def evP : Ex → Sm
  | .var i => sm (.var i) (qVar i)
  | .int i => sm (.int i) (rd (.int i))
  | .str x => sm (.str x) (rd (.str x))
  | .bl b => sm (.bl b) (rd (.bl b))
  | .non => sm .non (rd .non)
  | .cst x => sm (.cst x) (qCst Γ x)
  | .bin op a b => sm .non (bnd (vwOf a (evP a).r) fun x => bnd (vwOf b (evP b).r) fun y => bnd (res x) fun dx => bnd (res y) fun dy => qBin op dx dy)
  | .neg a => sm .non (bnd (toD (evP a).r) qNeg)
  | .cmp op a b => sm .non (bnd (vwOf a (evP a).r) fun x => bnd (vwOf b (evP b).r) fun y => bnd (res x) fun dx => bnd (res y) fun dy => qCmp op dx dy)
  | .cmp2 op op' a b c => sm .non (bnd (toD (evP a).r) fun x => bnd (toD (evP b).r) fun y => bnd (toD (qCmp op x y)) (byB (bnd (toD (evP c).r) fun z => qCmp op' y z) (rd (.bl false))))
  | .and a b => ⟨bnd (toD (evP a).r) (byB (ofD (toD (evP b).r)) (rd (.bl false))), bnd (evP a).t (byb (evP b).t (ret false)), fail⟩
  | .or a b => ⟨bnd (toD (evP a).r) (byB (rd (.bl true)) (ofD (toD (evP b).r))), bnd (evP a).t (byb (ret true) (evP b).t), fail⟩
  | .not a => ⟨bnd (dfT a (evP a).r) fun b => rd (.bl (!b)), bnd (evP a).t fun b => ret (!b), fail⟩
  | .ite t a b => sm .non (bnd (evP t).t (byb (evP a).r (evP b).r))
  | .lst es => sm .non (bnd (evs es) fun ds => need (ds.length ≤ sizeLine) (ret (.nl ds)))
  | .tup es => sm .non (bnd (evs es) fun ds => need (ds.length ≤ sizeLine) (rd (.tup ds)))
  | .dct ks vs => sm .non (qDct ks vs)
  | .call f es nd => sm .non (callE (Γ.fn f) [] (evA es) (evB es) nd)
  | .bi f es => let f' := bnd (vws es) fun xs => bnd (ress xs) fun ds => qBi f ds
    ⟨f', dfT .non f', srcB f (rs es) f'⟩
  | .isi e ts => sm .non (bnd (vwOf e (evP e).r) fun x => bnd (res x) fun d => qIsi d ts)
  | .mth c o m es nd => sm .non (bnd (toD (evP o).r) (callM Γ c m (evA es) (evB es) nd))
  | .att c o f => sm .non (bnd (toD (evP o).r) (qAtt c f))
  | .idx o i => sm .non (bnd (vwOf o (evP o).r) fun x => bnd (vwOf i (evP i).r) fun y => bnd (res x) fun dx => bnd (res y) fun dy => qIdx dx dy)
  | .sli o lo hi => sm .non (bnd (vwOf o (evP o).r) fun x => bnd (evO lo) fun l => bnd (evO hi) fun h => bnd (res x) fun dx => qSli dx l h)
  | .rev o => sm .non (bnd (vwOf o (evP o).r) fun x => bnd (res x) qRev)
  | .join o e => sm .non (bnd (vwOf o (evP o).r) fun x => bnd (vwOf e (evP e).r) fun y => bnd (res x) fun dx => bnd (res y) fun dy => qJoin dx dy)
  | .split o e => sm .non (bnd (vwOf o (evP o).r) fun x => bnd (vwOf e (evP e).r) fun y => bnd (res x) fun dx => bnd (res y) fun dy => qSplit dx dy)
  | .index _ _ => sm .non fail
  | .get _ _ _ => sm .non fail
  | .items _ => sm .non fail
  | .lc src tg ifs elt => sm .non (bnd (evP src).s fun xs => bnd (lcGo tg (evTs ifs) (toD (evP elt).r) xs []) fun ys => wiped tg.ix (.nl ys))
  | .dc src tg ifs kx v => sm .non (bnd (evP src).s fun xs => bnd (lcGo tg (evTs ifs) (bnd (toD (evP kx).r) fun a => bnd (toD (evP v).r) fun b => pair a b) xs []) fun kvs => wiped tg.ix (.nd (dictOf kvs)))
  | .io f es => sm .non (callIO Γ f es (evIO es (ioIx Γ f)))
  | .lam f caps e => sm .non (askE (Γ.ask f) caps (evP e).r)
  | .lcv i tg ifs elt => sm .non (lockL i fun xs => bnd (lcGo tg (evTs ifs) (toD (evP elt).r) xs []) fun ys => wiped tg.ix (.nl ys))
  | .oeq c neg a b => sm .non (bnd (toD (evP a).r) fun x => bnd (toD (evP b).r) fun y => qOeq Γ c neg x y)
  | .isO e c => sm .non (bnd (vwOf e (evP e).r) fun x => bnd (res x) (qIsO c))
  | .itO c f e => ⟨fail, dfT .non fail, bnd (toD (evP e).r) (qItO c f)⟩
  | .pop i none => sm .non (qPop i none)
  | .pop i (some e) => sm .non (bnd (qHas i) fun _ => bnd (toD (evP e).r) fun d => bnd (asInt d) fun j => need (-(2 ^ 63) ≤ j ∧ j < 2 ^ 63) (qPop i (some j)))
def evs : List Ex → M (List D)
  | [] => ret []
  | e :: es => bnd (toD (evP e).r) fun d => bnd (evs es) fun ds => ret (d :: ds)
def rs : List Ex → List (M R)
  | [] => []
  | e :: es => (evP e).r :: rs es
def evO : Option Ex → M (Option Int)
  | none => ret none
  | some e => bnd (toD (evP e).r) fun d => bnd (asInt d) fun i => ret (some i)
def vws : List Ex → M (List VR)
  | [] => ret []
  | e :: es => bnd (vwOf e (evP e).r) fun d => bnd (vws es) fun ds => ret (d :: ds)
def evA : List Ex → M (List Av)
  | [] => ret []
  | e :: es => bnd (avOf e (evP e).r) fun a => bnd (evA es) fun as => ret (a :: as)
def evB : List Ex → M (List (Option D))
  | [] => ret []
  | e :: es => bnd (bvOf e (evP e).r) fun a => bnd (evB es) fun as => ret (a :: as)
/-- arguments; the slot that is changed stands for itself -/
def evIO : List Ex → Nat → M (List (Option D))
  | [], _ => fail
  | e :: es, 0 => bnd (hasOf e) fun _ => bnd (evB es) fun as => ret (none :: as)
  | e :: es, n + 1 => bnd (bvOf e (evP e).r) fun a => bnd (evIO es n) fun as => ret (a :: as)
def evTs : List Ex → M Bool
  | [] => ret true
  | e :: es => bnd (evP e).t (byb (evTs es) (ret false))
end
end

/-! ### statements -/
structure En where
  nx : S → Prop
  rt : R → S → Prop
  bk : S → Prop
  ct : S → Prop
  ex : XC
abbrev QS := En → S → Prop
inductive Sx where
  | asg (i : Nat) (e : Ex) | asgT (t : Tg) (e : Ex) | par (is : List Nat) (es : List Ex) | aug (i : Nat) (op : Bop) (e : Ex)
  | app (i : Nat) (e : Ex) | ext (i : Nat) (e : Ex) | rem (i : Nat) (e : Ex) | put (i : Nat) (k v : Ex)
  | ex (e : Ex) | ret (e : Ex) | retN
  | ite (t : Ex) (a b : List Sx) | for_ (t : Tg) (src : Ex) (body : List Sx) | while_ (t : Ex) (body : List Sx)
  | raise (c : Str) (fs : List Str) (es : List Ex) | pass | brk | cont | never
def qApp (i : Nat) (d : D) : M Unit := fun s k _ => match gt s.sl i with
  | some (.own xs) => xs.length < sizeLine ∧ k () { s with sl := pt s.sl i (some (.own (xs ++ [d]))) }
  | some (.io xs) => xs.length < sizeLine ∧ k () { s with sl := pt s.sl i (some (.io (xs ++ [d]))) }
  | _ => False
def qExt (i : Nat) (d : D) : M Unit := fun s k _ => match gt s.sl i, d with
  | some (.own xs), .lst ys => xs.length + ys.length ≤ sizeLine ∧ k () { s with sl := pt s.sl i (some (.own (xs ++ ys))) }
  | some (.io xs), .lst ys => xs.length + ys.length ≤ sizeLine ∧ k () { s with sl := pt s.sl i (some (.io (xs ++ ys))) }
  | _, _ => False
def qRem (i : Nat) (d : D) : M Unit := fun s k _ => match gt s.sl i, d with
  | some (.own xs), .str x => (match asStrs xs with
    | some ys => x ∈ ys ∧ k () { s with sl := pt s.sl i (some (.own ((ys.erase x).map D.str))) }
    | none => False)
  | _, _ => False
def qPut (i : Nat) (kd v : D) : M Unit := fun s k _ => match gt s.sl i with
  | some (.own xs) => (match kd with
    | .int j => (match ixN xs.length j with
      | some n => k () { s with sl := pt s.sl i (some (.own (xs.set n v))) }
      | none => False)
    | _ => False)
  | some (.ownd kvs) => (match keyOf kd with
    | some key => kvs.length < sizeLine ∧ k () { s with sl := pt s.sl i (some (.ownd (putD kvs key v))) }
    | none => False)
  | _ => False
def forGo (tg : Tg) (body : QS) : List D → QS
  | [], n, s => n.nx s
  | x :: xs, n, s => bindT tg x s (fun _ s1 => body { n with nx := forGo tg body xs n, ct := forGo tg body xs n, bk := n.nx } s1) n.ex
/-- a, b = e1, e2: all are reckoned ahead of the stores -/
def parGo : List Nat → List (M R) → M Unit
  | [], [] => ret ()
  | i :: is, f :: fs => bnd f fun r => bnd (parGo is fs) fun _ => store i r
  | _, _ => fail
def mS (f : M Unit) : QS := fun n s => f s (fun _ s1 => n.nx s1) n.ex
section
variable (Γ : Env)
mutual
def exS : Sx → QS
  | .asg i e => mS (bnd (evP Γ e).r (store i))
  | .asgT t e => mS (bnd (toD (evP Γ e).r) (bindT t))
  | .par is es => mS (parGo is (rs Γ es))
  | .aug i op e => mS (bnd (toD (qVar i)) fun x => bnd (toD (evP Γ e).r) fun y => bnd (toD (qBin op x y)) fun z => store i (.fz z))
  | .app i e => mS (bnd (qHas i) fun _ => bnd (toD (evP Γ e).r) (qApp i))
  | .ext i e => mS (bnd (qHas i) fun _ => bnd (toD (evP Γ e).r) (qExt i))
  | .rem i e => mS (bnd (qHas i) fun _ => bnd (toD (evP Γ e).r) (qRem i))
  | .put i k v => mS (bnd (toD (evP Γ v).r) fun y => bnd (toD (evP Γ k).r) fun x => qPut i x y)
  | .ex e => mS (bnd (evP Γ e).r fun _ => ret ())
  | .ret e => fun n s => (evP Γ e).r s n.rt n.ex
  | .retN => fun n s => n.rt (.fz .non) s
  | .ite t a b => fun n s => (evP Γ t).t s (fun c s1 => match c with
    | true => exSs a n s1
    | false => exSs b n s1) n.ex
  | .for_ t src body => fun n s => (evP Γ src).s s (fun xs s1 => forGo t (exSs body) xs n s1) n.ex
  | .while_ t body => fun n s => ∃ W : Nat → S → Prop, (∃ m, W m s) ∧ ∀ m s, W m s → (evP Γ t).t s (fun c s1 => match c with
    | true => exSs body { n with nx := fun s2 => ∃ m', m' < m ∧ W m' s2, ct := fun s2 => ∃ m', m' < m ∧ W m' s2, bk := n.nx } s1
    | false => n.nx s1) n.ex
  | .raise c fs es => fun n s => (evs Γ es) s (fun ds s1 => n.ex (c, fs.zip ds) s1) n.ex
  | .pass => fun n s => n.nx s
  | .brk => fun n s => n.bk s
  | .cont => fun n s => n.ct s
  | .never => fun _ _ => False
def exSs : List Sx → QS
  | [] => fun n s => n.nx s
  | x :: xs => fun n s => exS x { n with nx := exSs xs n } s
end
end
end PP

set_option Elab.async false
set_option linter.all false
set_option maxRecDepth 100000
set_option maxHeartbeats 2000000
namespace PP
open PySem L2

/-! ### the stream -/
structure SA where
  s : Addr
  l : Addr
  tb : List (Addr × Str) := []
/-- what tables of code objects are made of -/
def TbO (o : HO) : Prop := (∃ ps, o = .tbl ps) ∨ ∃ P, o = .ext P
theorem tabs_keep {T : List (Addr × Str)} {H H' : Hp} (h : LamX.Tabs T H) (k : ∀ b o, H b = some o → TbO o → H' b = some o) : LamX.Tabs T H' := fun p hp => by
  obtain ⟨ps, h1, h2, h3⟩ := h p hp
  refine ⟨ps, k _ _ h1 (.inl ⟨_, rfl⟩), h2, fun pos cv hc => ?_⟩
  obtain ⟨c, e1, e2⟩ := h3 pos cv hc
  exact ⟨c, e1, k _ _ e2 (.inr ⟨_, rfl⟩)⟩
theorem tbk_new {H : Hp} {p : Addr} {o : HO} (h : H p = none) : ∀ b u, H b = some u → TbO u → upd H p o b = some u := fun b u e _ => by rw [upd_ne (ne_of_none e h)]; exact e
theorem tbk_upd {H : Hp} {p : Addr} {o u0 : HO} (h : H p = some u0) (n : ¬ TbO u0) : ∀ b u, H b = some u → TbO u → upd H p o b = some u := fun b u e z => by
  rw [upd_ne (fun q => n (by rw [q, h] at e; cases e; exact z))]; exact e
theorem nt_lst {xs : List V} : ¬ TbO (.lst xs) := fun h => by
  rcases h with ⟨_, q⟩ | ⟨_, q⟩ <;> cases q
theorem nt_dK {xs : List (Key × V)} : ¬ TbO (.dK xs) := fun h => by
  rcases h with ⟨_, q⟩ | ⟨_, q⟩ <;> cases q
theorem nt_dT {xs : List (List Key × V)} : ¬ TbO (.dT xs) := fun h => by
  rcases h with ⟨_, q⟩ | ⟨_, q⟩ <;> cases q
theorem nt_frz {ob : Obj} {u : HO} : ¬ TbO (.frz ob u) := fun h => by
  rcases h with ⟨_, q⟩ | ⟨_, q⟩ <;> cases q
theorem nt_ins {C dx : Addr} {fs : List (Str × V)} : ¬ TbO (.ins C dx fs) := fun h => by
  rcases h with ⟨_, q⟩ | ⟨_, q⟩ <;> cases q
/-- there, and no tuple -/
def NT (o : Option HO) : Prop := o ≠ none ∧ ∀ vs, o ≠ some (.tup vs)
theorem NT.of {o : Option HO} {u : HO} (h : o = some u) (n : ∀ vs, u ≠ .tup vs) : NT o := ⟨by rw [h]; exact nofun, fun vs e => by rw [h] at e; exact n vs (Option.some.inj e)⟩
theorem NT.le {o o' : Option HO} {u u' : HO} (h : NT o) (e : o = some u) (e' : o' = some u') (l : Le u u') : NT o' := by
  refine NT.of e' fun vs q => ?_
  rcases l with rfl | ⟨_, _, _, rfl⟩ | ⟨_, _, _, rfl⟩
  · exact h.2 vs (by rw [e, q])
  · cases q
  · cases q
def StrOk (T : SA) (H : Hp) (t : Stm) : Prop := T.s ≠ T.l ∧ H T.s = some (.lst [.ref T.l, .int t.x, .int (t.c : Int), .int t.y]) ∧ H T.l = some (.lst (t.ns.map V.int)) ∧ t.ns.length ≤ 63 ∧
  (∀ n ∈ t.ns, Builtin.Int.intBits n ≤ 1048576) ∧ 0 ≤ t.x ∧ Builtin.Int.intBits t.x ≤ 1048576 ∧ 0 ≤ t.y ∧ t.y < 2147483647 ∧ LamX.Tabs T.tb H
def SA.A (T : SA) : AS := fun a => a = T.s ∨ a = T.l ∨ ∃ q, (a, q) ∈ T.tb
theorem StrOk.is {T : SA} {H : Hp} {c : Stm} (h : StrOk T H c) : H T.s ≠ none := by
  obtain ⟨_, e, _⟩ := h
  rw [e]; exact nofun
theorem StrOk.il {T : SA} {H : Hp} {c : Stm} (h : StrOk T H c) : H T.l ≠ none := by
  obtain ⟨_, _, e, _⟩ := h
  rw [e]; exact nofun
theorem StrOk.tabs {T : SA} {H : Hp} {c : Stm} (h : StrOk T H c) : LamX.Tabs T.tb H := h.2.2.2.2.2.2.2.2.2
theorem StrOk.it {T : SA} {H : Hp} {c : Stm} (h : StrOk T H c) {a : Addr} (ha : T.A a) : NT (H a) := by
  rcases ha with rfl | rfl | ⟨q, hq⟩
  · exact .of h.2.1 nofun
  · exact .of h.2.2.1 nofun
  · obtain ⟨ps, e, _⟩ := h.tabs _ hq
    exact .of e nofun
theorem StrOk.i {T : SA} {H : Hp} {c : Stm} (h : StrOk T H c) {a : Addr} (ha : T.A a) : H a ≠ none := (h.it ha).1
theorem StrOk.keep {T : SA} {H H' : Hp} {c : Stm} (h : StrOk T H c) (a : H' T.s = H T.s) (b : H' T.l = H T.l) (k : ∀ b o, H b = some o → TbO o → H' b = some o) : StrOk T H' c := by
  obtain ⟨h1, h2, h3, h4, h5, h6, h7, h8, h9, h10⟩ := h
  exact ⟨h1, by rw [a]; exact h2, by rw [b]; exact h3, h4, h5, h6, h7, h8, h9, tabs_keep h10 k⟩
theorem StrOk.new {T : SA} {H : Hp} {c : Stm} {p : Addr} {o : HO} (h : StrOk T H c) (hp : H p = none) : StrOk T (upd H p o) c :=
  h.keep (upd_ne fun e => h.is (by rw [e]; exact hp)) (upd_ne fun e => h.il (by rw [e]; exact hp)) (tbk_new hp)

/-- the frame of a def: the stream, the heap at the entry, what it may change, what it keeps away from, what is wanted of errors -/
structure Fm where
  G : Gc
  T : SA
  H0 : Hp
  md : AS
  Z0 : AS
abbrev Ow := Nat → Option Addr
def add (Z : AS) (p : Addr) : AS := fun a => Z a ∨ a = p
def Av' (Z : AS) (ow : Ow) : AS := fun a => Z a ∨ ∃ i, ow i = some a
def SlOk (F : Fm) (A : AS) (o : Option Addr) (H : Hp) (v : V) : P → Prop
  | .fz d => Fz F.G A H v d ∧ o = none
  | .own xs => ∃ a vs, v = .ref a ∧ o = some a ∧ ¬ F.md a ∧ F.H0 a = none ∧ H a = some (.lst vs) ∧ FzL F.G A H vs xs
  | .io xs => ∃ a vs, v = .ref a ∧ o = some a ∧ F.md a ∧ H a = some (.lst vs) ∧ FzL F.G A H vs xs
  | .ownd ds => ∃ a kvs, v = .ref a ∧ o = some a ∧ ¬ F.md a ∧ F.H0 a = none ∧ H a = some (.dK kvs) ∧ kvs.map (·.1) = ds.map (·.1) ∧ FzL F.G A H (kvs.map (·.2)) (ds.map (·.2))
  | .stm => v = .ref F.T.s ∧ o = none
structure Rep (F : Fm) (Z : AS) (ow : Ow) (σ : St) (H : Hp) (s : S) : Prop where
  keep : Keep F.md F.Z0 F.H0 H
  strm : StrOk F.T H s.c
  mds : ∀ a, F.T.A a → F.md a
  zs : ∀ a, F.T.A a → Z a
  z0 : ∀ a, F.Z0 a → Z a ∨ F.md a
  zin : ∀ a, Z a → NT (H a)
  mdz : ∀ a, F.md a → Av' Z ow a
  oz : ∀ i p, ow i = some p → ¬ Z p
  od : ∀ i j p, ow i = some p → ow j = some p → i = j
  oin : ∀ i p, ow i = some p → ∃ q, gt s.sl i = some q ∧ ∀ d, q ≠ .fz d
  len : s.sl.length = σ.length
  sl : ∀ i p, gt s.sl i = some p → ∃ v, σ[i]? = some (some v) ∧ SlOk F (Av' Z ow) (ow i) H v p
/-- what a part of the code changes: what it may, its own lists; its own lists behind it were its own ahead, or are new -/
structure Eff (F : Fm) (Z : AS) (ow : Ow) (H : Hp) (ow' : Ow) (H' : Hp) : Prop where
  k : Keep (fun a => F.md a ∨ ∃ i, ow i = some a) Z H H'
  o : ∀ i p, ow' i = some p → (∃ j, ow j = some p) ∨ H p = none
  dm : ∀ p, H p ≠ none → H' p ≠ none
section
variable {F : Fm} {Z : AS} {ow ow1 ow2 : Ow} {σ : St} {H H1 H2 : Hp} {s : S}
theorem Eff.refl (F : Fm) (Z : AS) (ow : Ow) (H : Hp) : Eff F Z ow H ow H := ⟨Keep.refl _ _ _, fun i _ h => .inl ⟨i, h⟩, fun _ h => h⟩
theorem Eff.trans (a : Eff F Z ow H ow1 H1) (b : Eff F Z ow1 H1 ow2 H2) : Eff F Z ow H ow2 H2 := by
  refine ⟨fun x o e n => ?_, fun i p h => ?_, fun p h => b.dm p (a.dm p h)⟩
  · obtain ⟨o1, e1, l1, z1⟩ := a.k x o e n
    obtain ⟨o2, e2, l2, z2⟩ := b.k x o1 e1 fun z => n (z.imp id fun ⟨i, q⟩ => (a.o i x q).elim id fun q => by rw [e] at q; cases q)
    exact ⟨o2, e2, l1.trans l2, fun z => (z2 z).trans (z1 z)⟩
  · rcases b.o i p h with ⟨j, q⟩ | q
    · exact a.o j p q
    · right
      cases e : H p with
      | none => rfl
      | some o => exact absurd q (a.dm p (by rw [e]; exact nofun))
theorem Eff.mono {Y : AS} (a : Eff F Z ow H ow1 H1) (y : ∀ a, Y a → Z a) : Eff F Y ow H ow1 H1 := ⟨a.k.mono (fun _ h => h) y, a.o, a.dm⟩
theorem dm_upd {p : Addr} {o : HO} (q : Addr) (h : H q ≠ none) : upd H p o q ≠ none := by
  by_cases e : q = p
  · rw [e, upd_same]; exact nofun
  · rw [upd_ne e]; exact h
theorem Eff.new {p : Addr} {o : HO} (h : H p = none) : Eff F Z ow H ow (upd H p o) := ⟨Keep.new h, fun i _ h => .inl ⟨i, h⟩, fun q => dm_upd q⟩
/-- data that an earlier part has given stay -/
theorem Rep.fz (R : Rep F Z ow σ H s) (e : Eff F Z ow H ow1 H1) {v : V} {d : D} (h : Fz F.G (Av' Z ow) H v d) : Fz F.G (Av' Z ow1) H1 v d :=
  h.tr (e.k.mono (fun a z => z.elim (R.mdz a) fun q => .inr q) fun _ z => z) fun a z => z.elim (fun z => .inl (.inl z)) fun ⟨i, q⟩ => (e.o i a q).imp .inr id
theorem Rep.fzl (R : Rep F Z ow σ H s) (e : Eff F Z ow H ow1 H1) {v : List V} {d : List D} (h : FzL F.G (Av' Z ow) H v d) : FzL F.G (Av' Z ow1) H1 v d :=
  h.tr (e.k.mono (fun a z => z.elim (R.mdz a) fun q => .inr q) fun _ z => z) fun a z => z.elim (fun z => .inl (.inl z)) fun ⟨i, q⟩ => (e.o i a q).imp .inr id
theorem Rep.ojn (R : Rep F Z ow σ H s) {i : Nat} {p : Addr} (h : ow i = some p) : H p ≠ none := by
  obtain ⟨q, hq, hn⟩ := R.oin i p h
  obtain ⟨v, _, ok⟩ := R.sl i q hq
  cases q with
  | fz d => exact absurd rfl (hn d)
  | own xs =>
    obtain ⟨a, vs, _, e, _, _, e2, _⟩ := ok
    rw [h] at e; cases e; rw [e2]; exact nofun
  | io xs =>
    obtain ⟨a, vs, _, e, _, e2, _⟩ := ok
    rw [h] at e; cases e; rw [e2]; exact nofun
  | ownd kvs =>
    obtain ⟨a, vs, _, e, _, _, e2, _⟩ := ok
    rw [h] at e; cases e; rw [e2]; exact nofun
  | stm =>
    obtain ⟨_, e⟩ := ok
    rw [h] at e; cases e
theorem Rep.onT (R : Rep F Z ow σ H s) {i : Nat} {p : Addr} (h : ow i = some p) : NT (H p) := by
  obtain ⟨q, hq, hn⟩ := R.oin i p h
  obtain ⟨v, _, ok⟩ := R.sl i q hq
  cases q with
  | fz d => exact absurd rfl (hn d)
  | own xs =>
    obtain ⟨a, vs, _, e, _, _, e2, _⟩ := ok
    rw [h] at e; cases e; exact .of e2 nofun
  | io xs =>
    obtain ⟨a, vs, _, e, _, e2, _⟩ := ok
    rw [h] at e; cases e; exact .of e2 nofun
  | ownd kvs =>
    obtain ⟨a, vs, _, e, _, _, e2, _⟩ := ok
    rw [h] at e; cases e; exact .of e2 nofun
  | stm =>
    obtain ⟨_, e⟩ := ok
    rw [h] at e; cases e
theorem Rep.onTb (R : Rep F Z ow σ H s) {i : Nat} {p : Addr} (h : ow i = some p) : ∃ u, H p = some u ∧ ¬ TbO u := by
  obtain ⟨q, hq, hn⟩ := R.oin i p h
  obtain ⟨v, _, ok⟩ := R.sl i q hq
  cases q with
  | fz d => exact absurd rfl (hn d)
  | own xs =>
    obtain ⟨a, vs, _, e, _, _, e2, _⟩ := ok
    rw [h] at e; cases e; exact ⟨_, e2, nt_lst⟩
  | io xs =>
    obtain ⟨a, vs, _, e, _, e2, _⟩ := ok
    rw [h] at e; cases e; exact ⟨_, e2, nt_lst⟩
  | ownd kvs =>
    obtain ⟨a, vs, _, e, _, _, e2, _⟩ := ok
    rw [h] at e; cases e; exact ⟨_, e2, nt_dK⟩
  | stm =>
    obtain ⟨_, e⟩ := ok
    rw [h] at e; cases e
theorem Rep.avT (R : Rep F Z ow σ H s) {a : Addr} (h : Av' Z ow a) : NT (H a) := h.elim (R.zin a) fun ⟨_, q⟩ => R.onT q
theorem Rep.avin (R : Rep F Z ow σ H s) {a : Addr} (h : Av' Z ow a) : H a ≠ none := (R.avT h).1
theorem Rep.new0 (R : Rep F Z ow σ H s) {p : Addr} (h : H p = none) : ¬ F.md p ∧ F.H0 p = none ∧ ¬ Av' Z ow p := by
  have n : ¬ Av' Z ow p := fun z => R.avin z h
  have m : ¬ F.md p := fun z => n (R.mdz p z)
  exact ⟨m, R.keep.none h m, n⟩
theorem SlOk.tr {A B Y : AS} {o : Option Addr} {v : V} {p : P} (k : Keep A Y H H1) (s : ∀ a, B a → A a ∨ H a = none) (ho : ∀ a, o = some a → H1 a = H a) (h : SlOk F A o H v p) : SlOk F B o H1 v p := by
  cases p with
  | fz d => exact ⟨h.1.tr k s, h.2⟩
  | own xs =>
    obtain ⟨a, vs, e1, e2, e3, e4, e5, e6⟩ := h
    exact ⟨a, vs, e1, e2, e3, e4, by rw [ho a e2]; exact e5, e6.tr k s⟩
  | io xs =>
    obtain ⟨a, vs, e1, e2, e3, e5, e6⟩ := h
    exact ⟨a, vs, e1, e2, e3, by rw [ho a e2]; exact e5, e6.tr k s⟩
  | ownd ds =>
    obtain ⟨a, vs, e1, e2, e3, e4, e5, e6, e7⟩ := h
    exact ⟨a, vs, e1, e2, e3, e4, by rw [ho a e2]; exact e5, e6, e7.tr k s⟩
  | stm => exact h
/-- a new object -/
theorem Rep.alloc (R : Rep F Z ow σ H s) {p : Addr} {o : HO} (h : H p = none) (ho : ∀ vs, o ≠ .tup vs := by exact nofun) : Rep F (add Z p) ow σ (upd H p o) s := by
  obtain ⟨nm, n0, nz⟩ := R.new0 h
  have ne : ∀ a, H a ≠ none → a ≠ p := fun a q e => q (by rw [e]; exact h)
  refine ⟨R.keep.upd (.inr n0), R.strm.new h, R.mds, fun a z => .inl (R.zs a z), fun a z => (R.z0 a z).imp .inl id, fun a z => ?_, fun a z => (R.mdz a z).imp .inl id, fun i q e z => ?_, R.od, R.oin, R.len, fun i q e => ?_⟩
  · rcases z with z | rfl
    · rw [upd_ne (ne a (R.zin a z).1)]; exact R.zin a z
    · exact .of upd_same ho
  · rcases z with z | rfl
    · exact R.oz i q e z
    · exact nz (.inr ⟨i, e⟩)
  · obtain ⟨v, hv, ok⟩ := R.sl i q e
    refine ⟨v, hv, ok.tr (Keep.new (Z := Z) h) (fun a z => ?_) fun a e => upd_ne (ne a (R.ojn e))⟩
    rcases z with (z | rfl) | z
    · exact .inl (.inl z)
    · exact .inr h
    · exact .inl (.inr z)
/-- .. of any kind -/
theorem Rep.alloc0 (R : Rep F Z ow σ H s) {p : Addr} {o : HO} (h : H p = none) : Rep F Z ow σ (upd H p o) s := by
  obtain ⟨nm, n0, nz⟩ := R.new0 h
  have ne : ∀ a, H a ≠ none → a ≠ p := fun a q e => q (by rw [e]; exact h)
  refine ⟨R.keep.upd (.inr n0), R.strm.new h, R.mds, R.zs, R.z0, fun a z => ?_, R.mdz, R.oz, R.od, R.oin, R.len, fun i q e => ?_⟩
  · rw [upd_ne (ne a (R.zin a z).1)]; exact R.zin a z
  · obtain ⟨v, hv, ok⟩ := R.sl i q e
    exact ⟨v, hv, ok.tr (Keep.new (Z := Z) h) (fun a z => .inl z) fun a e => upd_ne (ne a (R.ojn e))⟩
/-- what was kept away from may be let go -/
theorem Rep.less {Y : AS} (R : Rep F Y ow σ H s) (y : ∀ a, Z a → Y a) (zs : ∀ a, F.T.A a → Z a) (z0 : ∀ a, F.Z0 a → Z a ∨ F.md a) (mdz : ∀ a, F.md a → Av' Z ow a) : Rep F Z ow σ H s :=
  ⟨R.keep, R.strm, R.mds, zs, z0, fun a z => R.zin a (y a z), mdz, fun i p e z => R.oz i p e (y p z), R.od, R.oin, R.len, fun i p e =>
    let ⟨v, hv, ok⟩ := R.sl i p e
    ⟨v, hv, ok.tr (Keep.refl (Av' Y ow) Z H) (fun a z => .inl (z.imp (y a) id)) fun _ _ => rfl⟩⟩
theorem Rep.unadd {p : Addr} (R : Rep F (add Z p) ow σ H s) (zs : ∀ a, F.T.A a → Z a) (z0 : ∀ a, F.Z0 a → Z a ∨ F.md a) (np : ¬ F.md p) : Rep F Z ow σ H s :=
  R.less (fun a z => .inl z) zs z0 fun a z => by
    rcases R.mdz a z with (q | rfl) | q
    · exact .inl q
    · exact absurd z np
    · exact .inr q
end

/-! ### slots -/
theorem gt_pt_same : ∀ {l : List (Option P)} {i : Nat} {v : Option P}, i < l.length → gt (pt l i v) i = v
  | _ :: _, 0, _, _ => rfl
  | _ :: l, i + 1, v, h => gt_pt_same (l := l) (i := i) (Nat.lt_of_succ_lt_succ h)
theorem gt_pt_ne : ∀ {l : List (Option P)} {i j : Nat} {v : Option P}, j ≠ i → gt (pt l i v) j = gt l j
  | [], _, _, _, _ => rfl
  | _ :: _, 0, 0, _, h => absurd rfl h
  | _ :: _, 0, _ + 1, _, _ => rfl
  | _ :: _, _ + 1, 0, _, _ => rfl
  | _ :: l, i + 1, j + 1, v, h => gt_pt_ne (l := l) (i := i) (j := j) fun e => h (by rw [e])
theorem gt_pt_none {l : List (Option P)} {i : Nat} {v : Option P} (h : gt (pt l i v) i = some p) : v = some p := by
  by_cases hl : i < l.length
  · rw [gt_pt_same hl] at h; exact h
  · exfalso
    induction l generalizing i with
    | nil => cases h
    | cons x l ih =>
      cases i with
      | zero => exact hl (Nat.zero_lt_succ _)
      | succ i => exact ih (i := i) h fun q => hl (Nat.succ_lt_succ q)
theorem pt_len : ∀ (l : List (Option P)) (i : Nat) (v : Option P), (pt l i v).length = l.length
  | [], _, _ => rfl
  | _ :: _, 0, _ => rfl
  | _ :: l, i + 1, v => by simp [pt, pt_len l i v]
theorem gt_lt : ∀ {l : List (Option P)} {i : Nat} {p : P}, gt l i = some p → i < l.length
  | _ :: _, 0, _, _ => Nat.zero_lt_succ _
  | _ :: l, i + 1, _, h => Nat.succ_lt_succ (gt_lt (l := l) h)
end PP

set_option Elab.async false
set_option linter.all false
set_option maxRecDepth 100000
set_option maxHeartbeats 2000000
namespace PP
open PySem L2

theorem PEimp {X : Cx} {e : Expr} {t t' : TE} (h : PE X e t) (i : ∀ σ H Q, t' σ H Q → t σ H Q) : PE X e t' := ⟨fun p s σ H Q I w => h.run p s σ H Q I (i σ H Q w)⟩
theorem PTimp {X : Cx} {e : Expr} {t t' : TT} (h : PT X e t) (i : ∀ σ H Q, t' σ H Q → t σ H Q) : PT X e t' := ⟨fun p s σ H Q I w => h.run p s σ H Q I (i σ H Q w)⟩
theorem PWimp {X : Cx} {e : Expr} {t t' : TT} (h : PW X e t) (i : ∀ σ H Q, t' σ H Q → t σ H Q) : PW X e t' := ⟨fun w p s σ H Q I wq => h.run w p s σ H Q I (i σ H Q wq)⟩
theorem PAimp {X : Cx} {e : List Expr} {t t' : TA} (h : PA X e t) (i : ∀ σ H Q, t' σ H Q → t σ H Q) : PA X e t' := ⟨fun q p s σ H Q I w => h.run q p s σ H Q I (i σ H Q w)⟩
theorem PSimp {X : Cx} {e : Stmt} {t t' : TS} (h : PS X e t) (i : ∀ D σ H, t' D σ H → t D σ H) : PS X e t' := ⟨fun p s σ H D I w => h.run p s σ H D I (i D σ H w)⟩
theorem PSsimp {X : Cx} {e : List Stmt} {t t' : TS} (h : PSs X e t) (i : ∀ D σ H, t' D σ H → t D σ H) : PSs X e t' := ⟨fun p s σ H D I w => h.run p s σ H D I (i D σ H w)⟩

/-! ### readings -/
/-- what a value is, made since Hs -/
def RR (F : Fm) (Z : AS) (Hs : Hp) (ow : Ow) (σ : L2.St) (H : Hp) (s : S) (v : V) : R → Prop
  | .fz d => Rep F Z ow σ H s ∧ Fz F.G (Av' Z ow) H v d
  | .nl xs => ∃ p vs, v = .ref p ∧ Hs p = none ∧ ¬ Z p ∧ ¬ F.md p ∧ F.H0 p = none ∧ Rep F (add Z p) ow σ H s ∧ H p = some (.lst vs) ∧ FzL F.G (Av' (add Z p) ow) H vs xs
  | .nd ds => ∃ p kvs, v = .ref p ∧ Hs p = none ∧ ¬ Z p ∧ ¬ F.md p ∧ F.H0 p = none ∧ Rep F (add Z p) ow σ H s ∧ H p = some (.dK kvs) ∧ kvs.map (·.1) = ds.map (·.1) ∧ FzL F.G (Av' (add Z p) ow) H (kvs.map (·.2)) (ds.map (·.2))
theorem RR.back {F : Fm} {Z : AS} {H1 Hs : Hp} {ow : Ow} {σ : L2.St} {H : Hp} {s : S} {v : V} {r : R} (d : ∀ p, Hs p ≠ none → H1 p ≠ none) (h : RR F Z H1 ow σ H s v r) : RR F Z Hs ow σ H s v r := by
  have n : ∀ {p : Addr}, H1 p = none → Hs p = none := fun {p} e => by
    cases q : Hs p with
    | none => rfl
    | some o => exact absurd e (d p (by rw [q]; exact nofun))
  cases r with
  | fz d => exact h
  | nl xs =>
    obtain ⟨p, vs, e, h1, h2⟩ := h
    exact ⟨p, vs, e, n h1, h2⟩
  | nd xs =>
    obtain ⟨p, vs, e, h1, h2⟩ := h
    exact ⟨p, vs, e, n h1, h2⟩
def VOk (F : Fm) (Z : AS) (ow : Ow) (σ : L2.St) (H : Hp) (v : V) : VR → Prop
  | .d d => Fz F.G (Av' Z ow) H v d
  | .sl i => σ[i]? = some (some v)
inductive VOks (F : Fm) (Z : AS) (ow : Ow) (σ : L2.St) (H : Hp) : List V → List VR → Prop
  | nil : VOks F Z ow σ H [] []
  | cons {v : V} {x : VR} {vs : List V} {xs : List VR} : VOk F Z ow σ H v x → VOks F Z ow σ H vs xs → VOks F Z ow σ H (v :: vs) (x :: xs)
def LR (F : Fm) (E : XC) (f : M R) : TE := fun σ H Q => ∃ Z ow s K, Rep F Z ow σ H s ∧ f s K E ∧ ∀ r s' v H' ow', K r s' → RR F Z H ow' σ H' s' v r → Eff F Z ow H ow' H' → Q v H'
def LD (F : Fm) (E : XC) (f : M D) : TE := fun σ H Q => ∃ Z ow s K, Rep F Z ow σ H s ∧ f s K E ∧ ∀ d s' v H' ow', K d s' → Rep F Z ow' σ H' s' → Fz F.G (Av' Z ow') H' v d → Eff F Z ow H ow' H' → Q v H'
def LV (F : Fm) (E : XC) (f : M VR) : TE := fun σ H Q => ∃ Z ow s K, Rep F Z ow σ H s ∧ f s K E ∧ ∀ x s' v H' ow', K x s' → Rep F Z ow' σ H' s' → VOk F Z ow' σ H' v x → Eff F Z ow H ow' H' → Q v H'
def LT (F : Fm) (E : XC) (f : M Bool) : TT := fun σ H Q => ∃ Z ow s K, Rep F Z ow σ H s ∧ f s K E ∧ ∀ b s' H' ow', K b s' → Rep F Z ow' σ H' s' → Eff F Z ow H ow' H' → Q b H'
def LVs (F : Fm) (E : XC) (f : M (List VR)) : TA := fun σ H Q => ∃ Z ow s K, Rep F Z ow σ H s ∧ f s K E ∧ ∀ xs s' vs H' ow', K xs s' → Rep F Z ow' σ H' s' → VOks F Z ow' σ H' vs xs → Eff F Z ow H ow' H' → Q vs H'
def LDs (F : Fm) (E : XC) (f : M (List D)) : TA := fun σ H Q => ∃ Z ow s K, Rep F Z ow σ H s ∧ f s K E ∧ ∀ xs s' vs H' ow', K xs s' → Rep F Z ow' σ H' s' → FzL F.G (Av' Z ow') H' vs xs → Eff F Z ow H ow' H' → Q vs H'
section
variable {F : Fm} {E : XC} {Z : AS} {ow ow' ow1 ow2 : Ow} {σ : L2.St} {H H' H1 H2 : Hp} {s s' : S} {v : V} {r : R}
theorem RR.fz' {Hs : Hp} (R0 : Rep F Z ow σ H s) (h : RR F Z Hs ow' σ H' s' v r) : Rep F Z ow' σ H' s' ∧ Fz F.G (Av' Z ow') H' v r.d := by
  cases r with
  | fz d => exact h
  | nl xs =>
    obtain ⟨p, vs, rfl, _, nz, nm, _, R, e, l⟩ := h
    refine ⟨R.unadd R0.zs R0.z0 nm, .lst (fun z => ?_) e (l.mono fun a z => .inl (z.imp .inl id))⟩
    rcases z with z | ⟨i, q⟩
    · exact nz z
    · exact R.oz i p q (.inr rfl)
  | nd ds =>
    obtain ⟨p, vs, rfl, _, nz, nm, _, R, e, ek, l⟩ := h
    refine ⟨R.unadd R0.zs R0.z0 nm, .dct (fun z => ?_) (.inl e) ek (l.mono fun a z => .inl (z.imp .inl id))⟩
    rcases z with z | ⟨i, q⟩
    · exact nz z
    · exact R.oz i p q (.inr rfl)
theorem ld_of_lr {f : M R} {Q : VK} (h : LD F E (toD f) σ H Q) : LR F E f σ H Q := by
  obtain ⟨Z, ow, s, K, R, hf, hq⟩ := h
  exact ⟨Z, ow, s, _, R, hf, fun r s' v H' ow' k rr e => hq r.d s' v H' ow' k (rr.fz' R).1 (rr.fz' R).2 e⟩
theorem lr_of_ld {f : M D} {Q : VK} (h : LR F E (ofD f) σ H Q) : LD F E f σ H Q := by
  obtain ⟨Z, ow, s, K, R, hf, hq⟩ := h
  exact ⟨Z, ow, s, _, R, hf, fun d s' v H' ow' k R' z e => hq (.fz d) s' v H' ow' k ⟨R', z⟩ e⟩
theorem VOk.tr (R : Rep F Z ow σ H s) (e : Eff F Z ow H ow1 H1) {x : VR} (h : VOk F Z ow σ H v x) : VOk F Z ow1 σ H1 v x := by
  cases x with
  | d d => exact R.fz e h
  | sl i => exact h
theorem VOks.tr (R : Rep F Z ow σ H s) (e : Eff F Z ow H ow1 H1) : ∀ {vs : List V} {xs : List VR}, VOks F Z ow σ H vs xs → VOks F Z ow1 σ H1 vs xs
  | _, _, .nil => .nil
  | _, _, .cons a b => .cons (a.tr R e) (VOks.tr R e b)
/-- what can be read of a value -/
def View (F : Fm) (A : AS) (H : Hp) (v : V) : D → Prop
  | .lst xs => ∃ a vs, v = .ref a ∧ H a = some (.lst vs) ∧ FzL F.G A H vs xs
  | .dct ds => ∃ a kvs, v = .ref a ∧ Rd H a (.dK kvs) ∧ kvs.map (·.1) = ds.map (·.1) ∧ FzL F.G A H (kvs.map (·.2)) (ds.map (·.2))
  | d => Fz F.G A H v d
theorem Fz.view {A : AS} {d : D} (h : Fz F.G A H v d) : View F A H v d := by
  cases h with
  | non => exact .non
  | bl b => exact .bl b
  | int b => exact .int b
  | str b => exact .str b
  | lst a b c => exact ⟨_, _, rfl, b, c⟩
  | tup a b c => exact .tup a b c
  | dct a b c d => exact ⟨_, _, rfl, b, c, d⟩
  | dctT a b c d => exact .dctT a b c d
  | obj a b c d => exact .obj a b c d
  | kt a b => exact .kt a b
theorem res_ok (R : Rep F Z ow σ H s) {x : VR} (h : VOk F Z ow σ H v x) {K : D → S → Prop} (w : res x s K E) : ∃ d, K d s ∧ View F (Av' Z ow) H v d := by
  cases x with
  | d d => exact ⟨d, w, Fz.view h⟩
  | sl i =>
    have w' : (match gt s.sl i with
      | some (.fz d) => K d s
      | some (.own xs) => K (.lst xs) s
      | some (.io xs) => K (.lst xs) s
      | some (.ownd kvs) => K (.dct kvs) s
      | _ => False) := w
    have hv : σ[i]? = some (some v) := h
    cases hg : gt s.sl i with
    | none => rw [hg] at w'; exact w'.elim
    | some q =>
      rw [hg] at w'
      obtain ⟨v', hv', ok⟩ := R.sl i q hg
      rw [hv] at hv'; cases hv'
      cases q with
      | fz d => exact ⟨d, w', Fz.view ok.1⟩
      | own xs =>
        obtain ⟨a, vs, e1, _, _, _, e2, l⟩ := ok
        exact ⟨_, w', a, vs, e1, e2, l⟩
      | io xs =>
        obtain ⟨a, vs, e1, _, _, e2, l⟩ := ok
        exact ⟨_, w', a, vs, e1, e2, l⟩
      | ownd ds =>
        obtain ⟨a, vs, e1, _, _, _, e2, e3, l⟩ := ok
        exact ⟨_, w', a, vs, e1, .inl e2, e3, l⟩
      | stm => exact w'.elim
inductive Views (F : Fm) (A : AS) (H : Hp) : List V → List D → Prop
  | nil : Views F A H [] []
  | cons {v : V} {d : D} {vs : List V} {ds : List D} : View F A H v d → Views F A H vs ds → Views F A H (v :: vs) (d :: ds)
theorem ress_ok (R : Rep F Z ow σ H s) : ∀ {vs : List V} {xs : List VR} {K : List D → S → Prop}, VOks F Z ow σ H vs xs → ress xs s K E → ∃ ds, K ds s ∧ Views F (Av' Z ow) H vs ds
  | _, _, K, .nil, w => ⟨[], w, .nil⟩
  | _, _, K, .cons h t, w => by
    obtain ⟨d, w1, hd⟩ := res_ok R h w
    obtain ⟨ds, w2, hds⟩ := ress_ok R t w1
    exact ⟨d :: ds, w2, .cons hd hds⟩

/-! ### slots changed -/
def dropO (ow : Ow) (i : Nat) : Ow := fun j => if j = i then none else ow j
def setO (ow : Ow) (i : Nat) (p : Addr) : Ow := fun j => if j = i then some p else ow j
theorem dropO_sub {i j : Nat} {p : Addr} (h : dropO ow i j = some p) : j ≠ i ∧ ow j = some p := by
  unfold dropO at h
  split at h
  · cases h
  · exact ⟨by assumption, h⟩
theorem setO_sub {i j : Nat} {p q : Addr} (h : setO ow i p j = some q) : (j = i ∧ q = p) ∨ (j ≠ i ∧ ow j = some q) := by
  unfold setO at h
  split at h
  · exact .inl ⟨by assumption, (Option.some.inj h).symm⟩
  · exact .inr ⟨by assumption, h⟩
theorem Rep.noMd (R : Rep F Z ow σ H s) {i : Nat} {p : Addr} (h : ow i = some p) (n : isIo (gt s.sl i) = false) : ¬ F.md p := by
  obtain ⟨q, hq, _⟩ := R.oin i p h
  obtain ⟨v, _, ok⟩ := R.sl i q hq
  rw [hq] at n
  cases q with
  | fz d => rw [h] at ok; cases ok.2
  | own xs =>
    obtain ⟨a, vs, _, e, m, _⟩ := ok
    rw [h] at e; cases e; exact m
  | io xs => cases n
  | ownd xs =>
    obtain ⟨a, vs, _, e, m, _⟩ := ok
    rw [h] at e; cases e; exact m
  | stm => rw [h] at ok; cases ok.2
/-- a slot's value that stays put in its place -/
theorem Rep.store {i : Nat} {d : D} {σ' : L2.St} (R : Rep F Z ow σ H s) (n : isIo (gt s.sl i) = false) (hl : σ'.length = σ.length) (hi : σ'[i]? = some (some v)) (ho : ∀ j, j ≠ i → σ'[j]? = σ[j]?)
    (h : Fz F.G (Av' Z (dropO ow i)) H v d) : Rep F Z (dropO ow i) σ' H { s with sl := pt s.sl i (some (.fz d)) } := by
  have sub : ∀ a, Av' Z (dropO ow i) a → Av' Z ow a := fun a z => z.imp id fun ⟨j, q⟩ => ⟨j, (dropO_sub q).2⟩
  refine ⟨R.keep, R.strm, R.mds, R.zs, R.z0, R.zin, fun a z => ?_, fun j p e => R.oz j p (dropO_sub e).2, fun j k p e1 e2 => R.od j k p (dropO_sub e1).2 (dropO_sub e2).2, fun j p e => ?_, ?_, fun j q e => ?_⟩
  · rcases R.mdz a z with q | ⟨j, q⟩
    · exact .inl q
    · by_cases hj : j = i
      · subst hj; exact absurd z (R.noMd q n)
      · exact .inr ⟨j, by unfold dropO; rw [if_neg hj]; exact q⟩
  · obtain ⟨q, hq, hn⟩ := R.oin j p (dropO_sub e).2
    exact ⟨q, by show gt (pt s.sl i _) j = _; rw [gt_pt_ne (dropO_sub e).1]; exact hq, hn⟩
  · show (pt s.sl i _).length = _
    rw [pt_len, R.len, hl]
  · have e' : gt (pt s.sl i (some (.fz d))) j = some q := e
    by_cases hj : j = i
    · subst hj
      cases gt_pt_none e'
      exact ⟨v, hi, h, by unfold dropO; rw [if_pos rfl]⟩
    · rw [gt_pt_ne hj] at e'
      obtain ⟨w, hw, ok⟩ := R.sl j q e'
      refine ⟨w, by rw [ho j hj]; exact hw, ?_⟩
      have eo : dropO ow i j = ow j := by unfold dropO; rw [if_neg hj]
      rw [eo]
      exact ok.tr (Keep.refl (Av' Z ow) Z H) (fun a z => .inl (sub a z)) fun _ _ => rfl
/-- a new list in a slot: its own -/
theorem Rep.storeN {i : Nat} {q : P} {p : Addr} {σ' : L2.St} (R : Rep F (add Z p) ow σ H s) (R0 : Rep F Z ow1 σ H1 s') (np : ¬ Z p) (n : isIo (gt s.sl i) = false) (hl : σ'.length = σ.length) (hi : σ'[i]? = some (some (.ref p))) (ho : ∀ j, j ≠ i → σ'[j]? = σ[j]?)
    (nm : ¬ F.md p) (hx : ∀ d, q ≠ .fz d) (h : ∀ A, (∀ a, A a → Av' (add Z p) ow a) → SlOk F A (some p) H (.ref p) q) (hlt : i < s.sl.length) : Rep F Z (setO ow i p) σ' H { s with sl := pt s.sl i (some q) } := by
  have sub : ∀ a, Av' Z (setO ow i p) a → Av' (add Z p) ow a := fun a z => by
    rcases z with z | ⟨j, q⟩
    · exact .inl (.inl z)
    · rcases setO_sub q with ⟨_, rfl⟩ | ⟨_, q⟩
      · exact .inl (.inr rfl)
      · exact .inr ⟨j, q⟩
  refine ⟨R.keep, R.strm, R.mds, R0.zs, R0.z0, fun a z => R.zin a (.inl z), fun a z => ?_, fun j b e => ?_, fun j k b e1 e2 => ?_, fun j b e => ?_, ?_, fun j q' e => ?_⟩
  · rcases R.mdz a z with (q | rfl) | ⟨j, q⟩
    · exact .inl q
    · exact absurd z nm
    · by_cases hj : j = i
      · subst hj; exact absurd z (R.noMd q n)
      · exact .inr ⟨j, by unfold setO; rw [if_neg hj]; exact q⟩
  · rcases setO_sub e with ⟨_, rfl⟩ | ⟨_, q⟩
    · exact np
    · exact fun z => R.oz j b q (.inl z)
  · rcases setO_sub e1 with ⟨h1, r1⟩ | ⟨h1, q1⟩
    · rcases setO_sub e2 with ⟨h2, _⟩ | ⟨h2, q2⟩
      · rw [h1, h2]
      · rw [r1] at q2; exact absurd (.inr rfl) (R.oz k p q2)
    · rcases setO_sub e2 with ⟨h2, r2⟩ | ⟨h2, q2⟩
      · rw [r2] at q1; exact absurd (.inr rfl) (R.oz j p q1)
      · exact R.od j k b q1 q2
  · by_cases hj : j = i
    · subst hj
      exact ⟨q, gt_pt_same hlt, hx⟩
    · rcases setO_sub e with ⟨h1, _⟩ | ⟨_, e⟩
      · exact absurd h1 hj
      · obtain ⟨q', hq, hn⟩ := R.oin j b e
        exact ⟨q', by show gt (pt s.sl i _) j = _; rw [gt_pt_ne hj]; exact hq, hn⟩
  · show (pt s.sl i _).length = _
    rw [pt_len, R.len, hl]
  · have e' : gt (pt s.sl i (some q)) j = some q' := e
    by_cases hj : j = i
    · subst hj
      cases gt_pt_none e'
      exact ⟨_, hi, by rw [show setO ow j p j = some p by unfold setO; rw [if_pos rfl]]; exact h _ sub⟩
    · rw [gt_pt_ne hj] at e'
      obtain ⟨w, hw, ok⟩ := R.sl j q' e'
      refine ⟨w, by rw [ho j hj]; exact hw, ?_⟩
      have eo : setO ow i p j = ow j := by unfold setO; rw [if_neg hj]
      rw [eo]
      exact ok.tr (Keep.refl (Av' (add Z p) ow) Z H) (fun a z => .inl (sub a z)) fun _ _ => rfl
theorem set_len (σ : L2.St) (i : Nat) (v : Option V) : (σ.set i v).length = σ.length := by simp
theorem set_at {σ : L2.St} {i : Nat} {v : V} (h : i < σ.length) : (σ.set i (some v))[i]? = some (some v) := by simp [h]
theorem set_out {σ : L2.St} {i : Nat} {v : Option V} (j : Nat) (h : j ≠ i) : (σ.set i v)[j]? = σ[j]? := by
  rw [List.getElem?_set_ne (fun e => h e.symm)]
/-- any value that an expression gave is put in a slot -/
theorem Rep.put {i : Nat} {Hs : Hp} (R0 : Rep F Z ow σ H s) (h : RR F Z Hs ow' σ H' s' v r) (n : isIo (gt s'.sl i) = false) (hlt : i < σ.length) :
    ∃ ow'', Rep F Z ow'' (σ.set i (some v)) H' (setS i r s') ∧ ∀ j p, ow'' j = some p → (∃ j', ow' j' = some p) ∨ Hs p = none := by
  cases r with
  | fz d => exact ⟨dropO ow' i, h.1.store n (set_len _ _ _) (set_at hlt) (fun j hj => set_out j hj) (h.2.mono fun a z => .inl (z.imp id fun ⟨j, q⟩ => ⟨j, (dropO_sub q).2⟩)), fun j p e => .inl ⟨j, (dropO_sub e).2⟩⟩
  | nl xs =>
    obtain ⟨p, vs, rfl, hs, nz, nm, h0, R, e, l⟩ := h
    exact ⟨setO ow' i p, R.storeN R0 nz n (set_len _ _ _) (set_at hlt) (fun j hj => set_out j hj) nm (by intro d; exact nofun) (fun A hA => ⟨p, vs, rfl, rfl, nm, h0, e, l.mono fun a z => .inl (hA a z)⟩) (by rw [R.len]; exact hlt), fun j q e => (setO_sub e).elim (fun z => .inr (by rw [z.2]; exact hs)) fun z => .inl ⟨j, z.2⟩⟩
  | nd ds =>
    obtain ⟨p, vs, rfl, hs, nz, nm, h0, R, e, ek, l⟩ := h
    exact ⟨setO ow' i p, R.storeN R0 nz n (set_len _ _ _) (set_at hlt) (fun j hj => set_out j hj) nm (by intro d; exact nofun) (fun A hA => ⟨p, vs, rfl, rfl, nm, h0, e, ek, l.mono fun a z => .inl (hA a z)⟩) (by rw [R.len]; exact hlt), fun j q e => (setO_sub e).elim (fun z => .inr (by rw [z.2]; exact hs)) fun z => .inl ⟨j, z.2⟩⟩
end
end PP

set_option Elab.async false
set_option linter.all false
set_option maxRecDepth 100000
set_option maxHeartbeats 2000000
namespace PP
open PySem L2
section
variable {F : Fm} {E : XC} {Z : AS} {ow ow' ow1 ow2 : Ow} {σ : L2.St} {H H' H1 H2 : Hp} {s s' : S} {v : V} {r : R} {Q : VK}
theorem lr_var {i : Nat} (h : LR F E (qVar i) σ H Q) : tVar i σ H Q := by
  obtain ⟨Z, ow, s, K, R, hf, hq⟩ := h
  have w : (match gt s.sl i with
    | some (.fz d) => K (.fz d) s
    | some (.own xs) => K (.fz (.lst xs)) { s with sl := pt s.sl i (some (.fz (.lst xs))) }
    | some (.ownd kvs) => K (.fz (.dct kvs)) { s with sl := pt s.sl i (some (.fz (.dct kvs))) }
    | _ => False) := hf
  cases hg : gt s.sl i with
  | none => rw [hg] at w; exact w.elim
  | some q =>
    rw [hg] at w
    obtain ⟨v, hv, ok⟩ := R.sl i q hg
    have out : ∀ {p : Addr}, ow i = some p → ¬ Av' Z (dropO ow i) p := fun {p} e z => by
      rcases z with z | ⟨j, q⟩
      · exact R.oz i p e z
      · exact (dropO_sub q).1 (R.od j i p (dropO_sub q).2 e)
    have sub : ∀ a, Av' Z (dropO ow i) a → Av' Z ow a ∨ H a = none := fun a z => .inl (z.imp id fun ⟨j, q⟩ => ⟨j, (dropO_sub q).2⟩)
    have eff : Eff F Z ow H (dropO ow i) H := ⟨Keep.refl _ _ _, fun j p e => .inl ⟨j, (dropO_sub e).2⟩, fun _ h => h⟩
    cases q with
    | fz d => exact ⟨v, hv, hq (.fz d) s v H ow w ⟨R, ok.1⟩ (Eff.refl _ _ _ _)⟩
    | own xs =>
      obtain ⟨a, vs, rfl, e1, nm, h0, e2, l⟩ := ok
      have z : Fz F.G (Av' Z (dropO ow i)) H (.ref a) (.lst xs) := .lst (out e1) e2 (l.mono sub)
      exact ⟨_, hv, hq _ _ _ H _ w ⟨R.store (by rw [hg]; rfl) rfl hv (fun _ _ => rfl) z, z⟩ eff⟩
    | ownd ds =>
      obtain ⟨a, kvs, rfl, e1, nm, h0, e2, ek, l⟩ := ok
      have z : Fz F.G (Av' Z (dropO ow i)) H (.ref a) (.dct ds) := .dct (out e1) (.inl e2) ek (l.mono sub)
      exact ⟨_, hv, hq _ _ _ H _ w ⟨R.store (by rw [hg]; rfl) rfl hv (fun _ _ => rfl) z, z⟩ eff⟩
    | io xs => exact w.elim
    | stm => exact w.elim
theorem lv_var {i : Nat} {f : M R} (h : LV F E (vwOf (.var i) f) σ H Q) : tVar i σ H Q := by
  obtain ⟨Z, ow, s, K, R, hf, hq⟩ := h
  have w : (match gt s.sl i with
    | some (.fz d) => K (.d d) s
    | some (.own _) => K (.sl i) s
    | some (.io _) => K (.sl i) s
    | some (.ownd _) => K (.sl i) s
    | _ => False) := hf
  cases hg : gt s.sl i with
  | none => rw [hg] at w; exact w.elim
  | some q =>
    rw [hg] at w
    obtain ⟨v, hv, ok⟩ := R.sl i q hg
    cases q with
    | fz d => exact ⟨v, hv, hq _ _ v H ow w R ok.1 (Eff.refl _ _ _ _)⟩
    | own xs => exact ⟨v, hv, hq _ _ v H ow w R hv (Eff.refl _ _ _ _)⟩
    | io xs => exact ⟨v, hv, hq _ _ v H ow w R hv (Eff.refl _ _ _ _)⟩
    | ownd xs => exact ⟨v, hv, hq _ _ v H ow w R hv (Eff.refl _ _ _ _)⟩
    | stm => exact w.elim
/-- other expressions are looked at by their value -/
theorem lv_val {f : M R} (h : LV F E (bnd (toD f) fun d => ret (.d d)) σ H Q) : LR F E f σ H Q := by
  obtain ⟨Z, ow, s, K, R, hf, hq⟩ := h
  exact ⟨Z, ow, s, _, R, hf, fun r s' v H' ow' k rr e => hq (.d r.d) s' v H' ow' k (rr.fz' R).1 (rr.fz' R).2 e⟩
theorem lr_c {d : D} {v : V} (hz : ∀ A H, Fz F.G A H v d) (h : LR F E (rd d) σ H Q) : tC v σ H Q := by
  obtain ⟨Z, ow, s, K, R, hf, hq⟩ := h
  exact hq (.fz d) s v H ow hf ⟨R, hz _ _⟩ (Eff.refl _ _ _ _)

/-- an operation of two values keeps what the meaning says -/
def OpS (F : Fm) (E : XC) (op : D → D → M R) (r : R2) : Prop := ∀ (Z : AS) (ow : Ow) (σ : L2.St) (H : Hp) (s : S) (K : R → S → Prop) (x y : D) (vx vy : V) (Q : VK), Rep F Z ow σ H s → View F (Av' Z ow) H vx x → View F (Av' Z ow) H vy y → op x y s K E →
  (∀ r s' v H' ow', K r s' → RR F Z H ow' σ H' s' v r → Eff F Z ow H ow' H' → Q v H') → r vx vy H Q
theorem lr_bin {fa fb : M VR} {op : D → D → M R} {r : R2} (ho : OpS F E op r) (h : LR F E (bnd fa fun x => bnd fb fun y => bnd (res x) fun dx => bnd (res y) fun dy => op dx dy) σ H Q) : tOp r (LV F E fa) (LV F E fb) σ H Q := by
  obtain ⟨Z, ow, s, K, R, hf, hq⟩ := h
  refine ⟨Z, ow, s, _, R, hf, fun x s1 v1 H1 ow1 k1 R1 o1 e1 => ⟨Z, ow1, s1, _, R1, k1, fun y s2 v2 H2 ow2 k2 R2 o2 e2 => ?_⟩⟩
  obtain ⟨dx, w1, hx⟩ := res_ok R2 (o1.tr R1 e2) k2
  obtain ⟨dy, w2, hy⟩ := res_ok R2 o2 w1
  exact ho Z ow2 σ H2 s2 K dx dy v1 v2 Q R2 hx hy w2 fun r s' v H' ow' k rr e => hq r s' v H' ow' k (rr.back (e1.trans e2).dm) ((e1.trans e2).trans e)
/-- an operation of a list of values -/
def CallS (F : Fm) (E : XC) (op : List D → M R) (r : List V → Hp → VK → Prop) : Prop := ∀ (Z : AS) (ow : Ow) (σ : L2.St) (H : Hp) (s : S) (K : R → S → Prop) (xs : List D) (vs : List V) (Q : VK), Rep F Z ow σ H s → Views F (Av' Z ow) H vs xs → op xs s K E →
  (∀ r s' v H' ow', K r s' → RR F Z H ow' σ H' s' v r → Eff F Z ow H ow' H' → Q v H') → r vs H Q
theorem lr_call {fs : M (List VR)} {op : List D → M R} {r : List V → Hp → VK → Prop} (ho : CallS F E op r) (h : LR F E (bnd fs fun xs => bnd (ress xs) fun ds => op ds) σ H Q) : tCB r (LVs F E fs) σ H Q := by
  obtain ⟨Z, ow, s, K, R, hf, hq⟩ := h
  refine ⟨Z, ow, s, _, R, hf, fun xs s1 vs H1 ow1 k1 R1 o1 e1 => ?_⟩
  obtain ⟨ds, w1, hx⟩ := ress_ok R1 o1 k1
  exact ho Z ow1 σ H1 s1 K ds vs Q R1 hx w1 fun r s' v H' ow' k rr e => hq r s' v H' ow' k (rr.back e1.dm) (e1.trans e)
theorem lvs_nil {Q : List V → Hp → Prop} (h : LVs F E (ret []) σ H Q) : tNil σ H Q := by
  obtain ⟨Z, ow, s, K, R, hf, hq⟩ := h
  exact hq [] s [] H ow hf R .nil (Eff.refl _ _ _ _)
theorem lvs_cons {Q : List V → Hp → Prop} {f : M VR} {fs : M (List VR)} (h : LVs F E (bnd f fun d => bnd fs fun ds => ret (d :: ds)) σ H Q) : tCons (LV F E f) (LVs F E fs) σ H Q := by
  obtain ⟨Z, ow, s, K, R, hf, hq⟩ := h
  exact ⟨Z, ow, s, _, R, hf, fun x s1 v1 H1 ow1 k1 R1 o1 e1 => ⟨Z, ow1, s1, _, R1, k1, fun y s2 v2 H2 ow2 k2 R2 o2 e2 => hq (x :: y) s2 (v1 :: v2) H2 ow2 k2 R2 (.cons (o1.tr R1 e2) o2) (e1.trans e2)⟩⟩
theorem lds_nil {Q : List V → Hp → Prop} (h : LDs F E (ret []) σ H Q) : tNil σ H Q := by
  obtain ⟨Z, ow, s, K, R, hf, hq⟩ := h
  exact hq [] s [] H ow hf R .nil (Eff.refl _ _ _ _)
theorem lds_cons {Q : List V → Hp → Prop} {f : M R} {fs : M (List D)} (h : LDs F E (bnd (toD f) fun d => bnd fs fun ds => ret (d :: ds)) σ H Q) : tCons (LR F E f) (LDs F E fs) σ H Q := by
  obtain ⟨Z, ow, s, K, R, hf, hq⟩ := h
  exact ⟨Z, ow, s, _, R, hf, fun x s1 v1 H1 ow1 k1 rr e1 => ⟨Z, ow1, s1, _, (rr.fz' R).1, k1, fun y s2 v2 H2 ow2 k2 R2 o2 e2 => hq (x.d :: y) s2 (v1 :: v2) H2 ow2 k2 R2 (.cons ((rr.fz' R).1.fz e2 (rr.fz' R).2) o2) (e1.trans e2)⟩⟩
/-- tests -/
theorem lt_val {e : Ex} {f : M VR} {g : D → M Bool} {Q : Bool → Hp → Prop} {tr : V → Hp → (Bool → Hp → Prop) → Prop}
    (ho : ∀ (Z : AS) (ow : Ow) (σ : L2.St) (H : Hp) (s : S) (K : Bool → S → Prop) (x : D) (vx : V) (Q : Bool → Hp → Prop), Rep F Z ow σ H s → View F (Av' Z ow) H vx x → g x s K E → (∀ b s' H' ow', K b s' → Rep F Z ow' σ H' s' → Eff F Z ow H ow' H' → Q b H') → tr vx H Q)
    (h : LT F E (bnd f fun x => bnd (res x) g) σ H Q) : LV F E f σ H fun v H1 => tr v H1 Q := by
  obtain ⟨Z, ow, s, K, R, hf, hq⟩ := h
  refine ⟨Z, ow, s, _, R, hf, fun x s1 v1 H1 ow1 k1 R1 o1 e1 => ?_⟩
  obtain ⟨dx, w1, hx⟩ := res_ok R1 o1 k1
  exact ho Z ow1 σ H1 s1 K dx v1 Q R1 hx w1 fun b s' H' ow' k r e => hq b s' H' ow' k r (e1.trans e)
theorem lt_and {fa fb : M Bool} {Q : Bool → Hp → Prop} (h : LT F E (bnd fa (byb fb (ret false))) σ H Q) : tAnd (LT F E fa) (LT F E fb) σ H Q := by
  obtain ⟨Z, ow, s, K, R, hf, hq⟩ := h
  refine ⟨Z, ow, s, _, R, hf, fun b s1 H1 ow1 k1 R1 e1 => ?_⟩
  cases b with
  | true =>
    rw [if_pos rfl]
    exact ⟨Z, ow1, s1, _, R1, k1, fun b s2 H2 ow2 k2 R2 e2 => hq b s2 H2 ow2 k2 R2 (e1.trans e2)⟩
  | false =>
    rw [if_neg Bool.false_ne_true]
    exact hq false s1 H1 ow1 k1 R1 e1
theorem lt_or {fa fb : M Bool} {Q : Bool → Hp → Prop} (h : LT F E (bnd fa (byb (ret true) fb)) σ H Q) : tOr (LT F E fa) (LT F E fb) σ H Q := by
  obtain ⟨Z, ow, s, K, R, hf, hq⟩ := h
  refine ⟨Z, ow, s, _, R, hf, fun b s1 H1 ow1 k1 R1 e1 => ?_⟩
  cases b with
  | false =>
    rw [if_neg Bool.false_ne_true]
    exact ⟨Z, ow1, s1, _, R1, k1, fun b s2 H2 ow2 k2 R2 e2 => hq b s2 H2 ow2 k2 R2 (e1.trans e2)⟩
  | true =>
    rw [if_pos rfl]
    exact hq true s1 H1 ow1 k1 R1 e1
theorem lt_not {fa : M Bool} {Q : Bool → Hp → Prop} (h : LT F E (bnd fa fun b => ret (!b)) σ H Q) : tNot (LT F E fa) σ H Q := by
  obtain ⟨Z, ow, s, K, R, hf, hq⟩ := h
  exact ⟨Z, ow, s, _, R, hf, fun b s1 H1 ow1 k1 R1 e1 => hq (!b) s1 H1 ow1 k1 R1 e1⟩
theorem lr_if {ft : M Bool} {fa fb : M R} (h : LR F E (bnd ft (byb fa fb)) σ H Q) : tIf (LT F E ft) (LR F E fa) (LR F E fb) σ H Q := by
  obtain ⟨Z, ow, s, K, R, hf, hq⟩ := h
  refine ⟨Z, ow, s, _, R, hf, fun b s1 H1 ow1 k1 R1 e1 => ?_⟩
  cases b with
  | true =>
    rw [if_pos rfl]
    exact ⟨Z, ow1, s1, K, R1, k1, fun r s2 v2 H2 ow2 k2 rr e2 => hq r s2 v2 H2 ow2 k2 (rr.back e1.dm) (e1.trans e2)⟩
  | false =>
    rw [if_neg Bool.false_ne_true]
    exact ⟨Z, ow1, s1, K, R1, k1, fun r s2 v2 H2 ow2 k2 rr e2 => hq r s2 v2 H2 ow2 k2 (rr.back e1.dm) (e1.trans e2)⟩
/-- values that are truths: and, or, not -/
theorem fz_bl {A : AS} {d : D} {b : Bool} (h : Fz F.G A H v (.bl b)) : v = .bl b := by cases h; rfl
theorem lr_andV {fa fb : M R} (h : LR F E (bnd (toD fa) (byB (ofD (toD fb)) (rd (.bl false)))) σ H Q) : tAndV (LR F E fa) (LR F E fb) σ H Q := by
  obtain ⟨Z, ow, s, K, R, hf, hq⟩ := h
  refine ⟨Z, ow, s, _, R, hf, fun r s1 v1 H1 ow1 k1 rr e1 => ?_⟩
  obtain ⟨R1, z⟩ := rr.fz' R
  cases hd : r.d with
  | bl b =>
    rw [hd] at k1 z
    cases z
    refine ⟨b, rfl, ?_⟩
    cases b with
    | true =>
      rw [if_pos rfl]
      exact ⟨Z, ow1, s1, _, R1, k1, fun r s2 v2 H2 ow2 k2 rr e2 => hq (.fz r.d) s2 v2 H2 ow2 k2 (rr.fz' R1) (e1.trans e2)⟩
    | false =>
      rw [if_neg Bool.false_ne_true]
      exact hq (.fz (.bl false)) s1 _ H1 ow1 k1 ⟨R1, .bl _⟩ e1
  | _ => rw [hd] at k1; exact k1.elim
theorem lr_orV {fa fb : M R} (h : LR F E (bnd (toD fa) (byB (rd (.bl true)) (ofD (toD fb)))) σ H Q) : tOrV (LR F E fa) (LR F E fb) σ H Q := by
  obtain ⟨Z, ow, s, K, R, hf, hq⟩ := h
  refine ⟨Z, ow, s, _, R, hf, fun r s1 v1 H1 ow1 k1 rr e1 => ?_⟩
  obtain ⟨R1, z⟩ := rr.fz' R
  cases hd : r.d with
  | bl b =>
    rw [hd] at k1 z
    cases z
    refine ⟨b, rfl, ?_⟩
    cases b with
    | false =>
      rw [if_neg Bool.false_ne_true]
      exact ⟨Z, ow1, s1, _, R1, k1, fun r s2 v2 H2 ow2 k2 rr e2 => hq (.fz r.d) s2 v2 H2 ow2 k2 (rr.fz' R1) (e1.trans e2)⟩
    | true =>
      rw [if_pos rfl]
      exact hq (.fz (.bl true)) s1 _ H1 ow1 k1 ⟨R1, .bl _⟩ e1
  | _ => rw [hd] at k1; exact k1.elim
/-- a new list, a new tuple -/
theorem rr_newL {p : Addr} {vs : List V} {xs : List D} (R : Rep F Z ow σ H s) (h : H p = none) (l : FzL F.G (Av' Z ow) H vs xs) : RR F Z H ow σ (upd H p (.lst vs)) s (.ref p) (.nl xs) := by
  obtain ⟨nm, n0, nz⟩ := R.new0 h
  exact ⟨p, vs, rfl, h, fun z => nz (.inl z), nm, n0, R.alloc h, upd_same, l.tr (Keep.new (Z := Z) h) fun a z => by
    rcases z with (z | rfl) | z
    · exact .inl (.inl z)
    · exact .inr h
    · exact .inl (.inr z)⟩
theorem rr_newD {p : Addr} {kvs : List (Key × V)} {ds : List (Key × D)} (R : Rep F Z ow σ H s) (h : H p = none) (ek : kvs.map (·.1) = ds.map (·.1)) (l : FzL F.G (Av' Z ow) H (kvs.map (·.2)) (ds.map (·.2))) : RR F Z H ow σ (upd H p (.dK kvs)) s (.ref p) (.nd ds) := by
  obtain ⟨nm, n0, nz⟩ := R.new0 h
  exact ⟨p, kvs, rfl, h, fun z => nz (.inl z), nm, n0, R.alloc h, upd_same, ek, l.tr (Keep.new (Z := Z) h) fun a z => by
    rcases z with (z | rfl) | z
    · exact .inl (.inl z)
    · exact .inr h
    · exact .inl (.inr z)⟩
theorem rr_newT {p : Addr} {vs : List V} {xs : List D} (R : Rep F Z ow σ H s) (h : H p = none) (l : FzL F.G (Av' Z ow) H vs xs) : RR F Z H ow σ (upd H p (.tup vs)) s (.ref p) (.fz (.tup xs)) := by
  obtain ⟨nm, n0, nz⟩ := R.new0 h
  exact ⟨R.alloc0 h, .tup nz upd_same (l.keep (Keep.new (Z := Z) h))⟩
theorem lr_lst {fs : M (List D)} (h : LR F E (bnd fs fun ds => need (ds.length ≤ sizeLine) (ret (.nl ds))) σ H Q) : tLst (LDs F E fs) σ H Q := by
  obtain ⟨Z, ow, s, K, R, hf, hq⟩ := h
  refine ⟨Z, ow, s, _, R, hf, fun xs s1 vs H1 ow1 k1 R1 l e1 => ⟨by rw [l.length]; exact k1.1, fun p hp => ?_⟩⟩
  exact hq (.nl xs) s1 _ _ ow1 k1.2 ((rr_newL R1 hp l).back e1.dm) (e1.trans (Eff.new hp))
theorem lr_tup {fs : M (List D)} (h : LR F E (bnd fs fun ds => need (ds.length ≤ sizeLine) (rd (.tup ds))) σ H Q) : tTup (LDs F E fs) σ H Q := by
  obtain ⟨Z, ow, s, K, R, hf, hq⟩ := h
  refine ⟨Z, ow, s, _, R, hf, fun xs s1 vs H1 ow1 k1 R1 l e1 => ⟨by rw [l.length]; exact k1.1, fun p hp => ?_⟩⟩
  exact hq (.fz (.tup xs)) s1 _ _ ow1 k1.2 ((rr_newT R1 hp l).back e1.dm) (e1.trans (Eff.new hp))
end
end PP

set_option Elab.async false
set_option linter.all false
set_option maxRecDepth 100000
set_option maxHeartbeats 2000000
namespace PP
open PySem PySem.Spec L2
/-! ### rules of HandS joined: an operation by what its operands turn out to be -/
section
open PyProof.Rows
variable {X : Cx}
theorem ix_dict (hu : X.A.units + 1 < cLine) : IxR X (fun x y H Q => ∃ a v, x = .ref a ∧ DGet H a y (some v) ∧ Q v H) := by
  intro value slice pins s σ H x y v u Q I rx ry h hs
  obtain ⟨a, w, rfl, g, q⟩ := h
  obtain rfl : v = Value.ref a := rx
  have hT := dict_typeIs I g
  have h₂ : wpAny (model X.prog X.w) X.A (getItem (.ref a) u) (EP X pins σ Q) X.xe s := d_getItem hu I g ry fun w' s3 I3 rw' => ⟨w, H, I3, rw', q⟩
  unfold subscriptTail
  refine wpAny_bind ?_
  rw [getitemInPython_of_ne hT.not_modules]
  refine wpAny_bind (wpAny_specialOf hT PySem.F.slot_dict_getitem.lookup ?_)
  have fin : wpAny (model X.prog X.w) X.A (subscripted slice false (.ref a) u) (fun r s₃ => wpAny (model X.prog X.w) X.A (letTemporaryGo value (.ref a) r >>= fun _ => pure r) (EP X pins σ Q) X.xe s₃) X.xe s := by
    rw [hs]
    exact wpAny_operating (wpAny_mono h₂ (fun r s₃ h₃ => wpAny_bind (wpAny_letTemporaryGo (wpAny_pure h₃))) fun _ _ x => x)
  first
    | exact wpAny_pure (wpAny_bind fin)
    | exact wpAny_bind (wpAny_pure (wpAny_bind fin))
    | exact wpAny_bind fin
def rInD (neg : Bool) : R2 := fun x y H Q => ∃ a o, y = .ref a ∧ DGet H a x o ∧ Q (.bl (if neg then !o.isSome else o.isSome)) H
theorem op_inD (hu : X.A.units + 1 < cLine) : OpR X (compareOp .In) (rInD false) := by
  intro pins s σ H x y v u Q I rx ry h
  obtain ⟨a, o, rfl, g, q⟩ := h
  obtain rfl : u = Value.ref a := ry
  exact d_in hu I g rx fun s' I' => ⟨.bl _, H, I', rfl, q⟩
theorem op_notInD (hu : X.A.units + 1 < cLine) : OpR X (compareOp .NotIn) (rInD true) := by
  intro pins s σ H x y v u Q I rx ry h
  obtain ⟨a, o, rfl, g, q⟩ := h
  obtain rfl : u = Value.ref a := ry
  exact d_notIn hu I g rx fun s' I' => ⟨.bl _, H, I', rfl, q⟩
def rAddS : R2 := fun x y H Q => ∃ i j, x = .str i ∧ y = .str j ∧ i.length + j.length ≤ sizeLine ∧ Q (.str (i ++ j)) H
def rAddA (K : PySem.W.Frag) : R2 := fun x y H Q => (rI0 (fun i j => .int (i + j)) x y H Q) ∨ (rAddS x y H Q) ∨ (rCat x y H Q) ∨ (rCatA K x y H Q)
theorem op_addA : OpR X (binaryOp .Add) (rAddA X.K) := op_add.or (op_add_str.or (op_cat.or op_catA))
def rLtS : R2 := fun x y H Q => ∃ i j, x = .str i ∧ y = .str j ∧ Q (.bl (decide (i.cps.toList < j.cps.toList))) H
def rSign (neg : Bool) : R2 := fun x y H Q => ∃ (c : Nat) (z : Str), x = .str ⟨#[c]⟩ ∧ y = .str z ∧ Q (.bl (if neg then !decide (c ∈ z.cps.toList) else decide (c ∈ z.cps.toList))) H
def rInA (K : PySem.W.Frag) (neg : Bool) : R2 := fun x y H Q => (rIn K neg x y H Q) ∨ (rInD neg x y H Q) ∨ (rSign neg x y H Q)
theorem op_inA (hu : X.A.units + 1 < cLine) : OpR X (compareOp .In) (rInA X.K false) := op_in_seq.or ((op_inD hu).or op_in_sign)
theorem op_notInA (hu : X.A.units + 1 < cLine) : OpR X (compareOp .NotIn) (rInA X.K true) := op_notIn_seq.or ((op_notInD hu).or op_notIn_sign)
def rEqA (K : PySem.W.Frag) : R2 := fun x y H Q => rEq x y H Q ∨ rEqD K x y H Q
def rNeA (K : PySem.W.Frag) : R2 := fun x y H Q => rNe x y H Q ∨ rNeD K x y H Q
theorem op_eqA (hu : X.A.units + 64 < cLine) : OpR X (compareOp .Eq) (rEqA X.K) := op_eq.or (op_eqD hu)
theorem op_neA (hu : X.A.units + 64 < cLine) : OpR X (compareOp .NotEq) (rNeA X.K) := op_ne.or (op_neD hu)
def rIxA (K : PySem.W.Frag) : R2 := fun x y H Q => rIx K x y H Q ∨ ∃ a v, x = .ref a ∧ DGet H a y (some v) ∧ Q v H
theorem ix_all (hu : X.A.units + 1 < cLine) : IxR X (rIxA X.K) := ix_seq.or (ix_dict hu)
end

/-! ### what data tell of values -/
section
variable {F : Fm} {G : Gc} {E : XC} {A Z : AS} {ow : Ow} {σ : L2.St} {H : Hp} {s : S} {v : V}
theorem view_int {i : Int} (h : View F A H v (.int i)) : v = .int i := by cases (show Fz F.G A H v (.int i) from h); rfl
theorem view_str {i : Str} (h : View F A H v (.str i)) : v = .str i := by cases (show Fz F.G A H v (.str i) from h); rfl
theorem view_bl {i : Bool} (h : View F A H v (.bl i)) : v = .bl i := by cases (show Fz F.G A H v (.bl i) from h); rfl
theorem view_non (h : View F A H v .non) : v = .non := by cases (show Fz F.G A H v .non from h); rfl
theorem view_sc {d : D} (hd : isScalar d = true) (h : View F A H v d) : v = toV d := by
  cases d with
  | non => exact view_non h
  | bl b => exact view_bl h
  | int i => exact view_int h
  | str x => exact view_str h
  | _ => cases hd
theorem fz_sc {d : D} (hd : isScalar d = true) (h : Fz G A H v d) : v = toV d := by
  cases h <;> first | rfl | cases hd
theorem fz_of_sc {d : D} (hd : isScalar d = true) : Fz G A H (toV d) d := by
  cases d with
  | non => exact .non
  | bl b => exact .bl b
  | int i => exact .int i
  | str x => exact .str x
  | _ => cases hd
theorem fzl_sc : ∀ {vs : List V} {ds : List D}, ds.all isScalar = true → FzL G A H vs ds → vs = ds.map toV
  | _, _, _, .nil => rfl
  | _, _, h, .cons a b => by
    rw [List.all_cons, Bool.and_eq_true] at h
    rw [List.map_cons, ← fz_sc h.1 a, ← fzl_sc h.2 b]
theorem flat_sc : ∀ {ds : List D}, ds.all isScalar = true → (ds.map toV).all flatV = true
  | [], _ => rfl
  | d :: ds, h => by
    rw [List.all_cons, Bool.and_eq_true] at h
    rw [List.map_cons, List.all_cons, flat_sc h.2, Bool.and_true]
    cases d <;> first | rfl | cases h.1
theorem flat1 {d : D} (h : isScalar d = true) : flatV (toV d) = true := by cases d <;> first | rfl | cases h
theorem inV_map (x : D) (ds : List D) : inV (toV x) (ds.map toV) = inD x ds := by
  unfold inV inD
  rw [List.any_map]
  rfl
theorem view_tup {xs : List D} (h : View F A H v (.tup xs)) : ∃ a vs, v = .ref a ∧ SqT F.G.K H a vs ∧ FzL F.G A H vs xs := by
  cases (show Fz F.G A H v (.tup xs) from h) with
  | tup n e l => exact ⟨_, _, rfl, SqT.of e, l⟩
/-- the data of lists and tuples: for == -/
theorem view_lst {xs : List D} (h : View F A H v (.lst xs)) : ∃ a vs, v = .ref a ∧ H a = some (.lst vs) ∧ FzL F.G A H vs xs := h
mutual
theorem Fz.dp : ∀ {v : V} {d : D}, (pd d).canLay0 = true → Fz G A H v d → Dp G.K H v (pd d)
  | _, _, _, .non => .non
  | _, _, _, .bl b => .bl b
  | _, _, _, .int b => .int b
  | _, _, _, .str b => .str b
  | _, _, h, .lst n e l => .lst (SqL.of e) (FzL.dp h l)
  | _, _, h, .tup n e l => .tup (SqT.of e) (FzL.dp h l)
  | _, _, h, .dct _ _ _ _ => by cases h
  | _, _, h, .dctT _ _ _ _ => by cases h
  | _, _, h, .obj _ _ _ _ => by cases h
  | _, _, h, .kt _ _ => by cases h
theorem FzL.dp : ∀ {v : List V} {d : List D}, PyData.canLayAll0 (pds d) = true → FzL G A H v d → DpAll G.K H v (pds d)
  | _, _, _, .nil => .nil
  | _, _, h, .cons a b => by
    rw [pds, PyData.canLayAll0, Bool.and_eq_true] at h
    exact .cons (Fz.dp h.1 a) (FzL.dp h.2 b)
end
theorem View.dp {d : D} (hc : (pd d).canLay0 = true) (h : View F A H v d) : Dp F.G.K H v (pd d) := by
  cases d with
  | lst xs =>
    obtain ⟨a, vs, rfl, e, l⟩ := h
    exact .lst (SqL.of e) (l.dp hc)
  | dct kvs => cases hc
  | _ => exact Fz.dp hc h
end

/-! ### operations keep the meaning -/
section
variable {F : Fm} {E : XC}
theorem rr_sc {Z : AS} {ow : Ow} {σ : L2.St} {H : Hp} {s : S} (R : Rep F Z ow σ H s) (d : D) (h : isScalar d = true) : RR F Z H ow σ H s (toV d) (.fz d) := ⟨R, fz_of_sc h⟩
theorem ops_add : OpS F E qAdd (rAddA F.G.K) := by
  intro Z ow σ H s K x y vx vy Q R hx hy w k
  cases x with
  | int i =>
    cases y with
    | int j =>
      cases view_int hx; cases view_int hy
      exact .inl ⟨i, j, rfl, rfl, k _ _ _ _ _ w (rr_sc R (.int (i + j)) rfl) (Eff.refl _ _ _ _)⟩
    | _ => exact w.elim
  | str a =>
    cases y with
    | str b =>
      cases view_str hx; cases view_str hy
      exact .inr (.inl ⟨a, b, rfl, rfl, w.1, k _ _ _ _ _ w.2 (rr_sc R (.str (a ++ b)) rfl) (Eff.refl _ _ _ _)⟩)
    | _ => exact w.elim
  | lst xs =>
    cases y with
    | lst ys =>
      obtain ⟨a, vs, rfl, e1, l1⟩ := hx
      obtain ⟨b, ws, rfl, e2, l2⟩ := hy
      refine .inr (.inr (.inl ⟨a, b, vs, ws, rfl, rfl, e1, e2, by rw [l1.length, l2.length]; exact w.1, fun p hp => ?_⟩))
      exact k _ _ _ _ _ w.2 (rr_newL R hp (l1.append l2)) (Eff.new hp)
    | _ => exact w.elim
  | tup xs =>
    cases y with
    | tup ys =>
      have zx : Fz F.G (Av' Z ow) H vx (.tup xs) := hx
      have zy : Fz F.G (Av' Z ow) H vy (.tup ys) := hy
      obtain ⟨a, vs, rfl, e1, l1⟩ := view_tup hx
      obtain ⟨b, ws, rfl, e2, l2⟩ := view_tup hy
      refine .inr (.inr (.inr ⟨a, b, vs, ws, rfl, rfl, e1, e2, by rw [l1.length, l2.length]; exact w.1, fun h0 => ?_, fun _ h0 => ?_, fun _ _ p hp => ?_⟩))
      · subst h0
        cases l1
        exact k _ _ _ _ _ w.2 ⟨R, zy⟩ (Eff.refl _ _ _ _)
      · subst h0
        cases l2
        have w2 : K (.fz (.tup (xs ++ []))) s := w.2
        rw [List.append_nil] at w2
        exact k _ _ _ _ _ w2 ⟨R, zx⟩ (Eff.refl _ _ _ _)
      · exact k _ _ _ _ _ w.2 (rr_newT R hp (l1.append l2)) (Eff.new hp)
    | _ => exact w.elim
  | _ => exact w.elim
theorem ops_int {op : D → D → M R} {C : Int → Int → Prop} {g : Int → Int → D} {gv : Int → Int → V} (hg : ∀ i j, isScalar (g i j) = true ∧ toV (g i j) = gv i j) (ho : ∀ x y s K, op x y s K E → ∃ i j, x = .int i ∧ y = .int j ∧ C i j ∧ K (.fz (g i j)) s) : OpS F E op (rI C gv) := by
  intro Z ow σ H s K x y vx vy Q R hx hy w k
  obtain ⟨i, j, rfl, rfl, c, w'⟩ := ho x y s K w
  cases view_int hx; cases view_int hy
  refine ⟨i, j, rfl, rfl, c, ?_⟩
  rw [← (hg i j).2]
  exact k _ _ _ _ _ w' (rr_sc R (g i j) (hg i j).1) (Eff.refl _ _ _ _)
theorem ops_int0 {op : D → D → M R} {g : Int → Int → D} {gv : Int → Int → V} (hg : ∀ i j, isScalar (g i j) = true ∧ toV (g i j) = gv i j) (ho : ∀ x y s K, op x y s K E → ∃ i j, x = .int i ∧ y = .int j ∧ K (.fz (g i j)) s) : OpS F E op (rI0 gv) := by
  intro Z ow σ H s K x y vx vy Q R hx hy w k
  obtain ⟨i, j, rfl, rfl, w'⟩ := ho x y s K w
  cases view_int hx; cases view_int hy
  refine ⟨i, j, rfl, rfl, ?_⟩
  rw [← (hg i j).2]
  exact k _ _ _ _ _ w' (rr_sc R (g i j) (hg i j).1) (Eff.refl _ _ _ _)
theorem ops_sub : OpS F E (qBin .sub) (rI0 fun i j => .int (i - j)) := ops_int0 (g := fun i j => .int (i - j)) (fun _ _ => ⟨rfl, rfl⟩) fun x y s K w => by
  cases x <;> try exact w.elim
  cases y <;> first | exact ⟨_, _, rfl, rfl, w⟩ | exact w.elim
theorem ops_mul : OpS F E (qBin .mul) (rI CMul fun i j => .int (i * j)) := ops_int (g := fun i j => .int (i * j)) (fun _ _ => ⟨rfl, rfl⟩) fun x y s K w => by
  cases x <;> try exact w.elim
  cases y <;> first | exact ⟨_, _, rfl, rfl, w.1, w.2⟩ | exact w.elim
theorem ops_fdiv : OpS F E (qBin .fdiv) (rI CDiv fun i j => .int (i / j)) := ops_int (g := fun i j => .int (i / j)) (fun _ _ => ⟨rfl, rfl⟩) fun x y s K w => by
  cases x <;> try exact w.elim
  cases y <;> first | exact ⟨_, _, rfl, rfl, w.1, w.2⟩ | exact w.elim
theorem ops_mod : OpS F E (qBin .mod) (rI (fun _ j => 0 < j) fun i j => .int (i % j)) := ops_int (g := fun i j => .int (i % j)) (fun _ _ => ⟨rfl, rfl⟩) fun x y s K w => by
  cases x <;> try exact w.elim
  cases y <;> first | exact ⟨_, _, rfl, rfl, w.1, w.2⟩ | exact w.elim
theorem ops_pow : OpS F E (qBin .pow) (rI CPow fun i j => .int (i ^ j.toNat)) := ops_int (g := fun i j => .int (i ^ j.toNat)) (fun _ _ => ⟨rfl, rfl⟩) fun x y s K w => by
  cases x <;> try exact w.elim
  cases y <;> first | exact ⟨_, _, rfl, rfl, w.1, w.2⟩ | exact w.elim
theorem ops_le : OpS F E (qCmp .le) (rI0 fun i j => .bl (decide (i ≤ j))) := ops_int0 (g := fun i j => .bl (decide (i ≤ j))) (fun _ _ => ⟨rfl, rfl⟩) fun x y s K w => by
  cases x <;> try exact w.elim
  cases y <;> first | exact ⟨_, _, rfl, rfl, w⟩ | exact w.elim
theorem ops_gt : OpS F E (qCmp .gt) (rI0 fun i j => .bl (decide (j < i))) := ops_int0 (g := fun i j => .bl (decide (j < i))) (fun _ _ => ⟨rfl, rfl⟩) fun x y s K w => by
  cases x <;> try exact w.elim
  cases y <;> first | exact ⟨_, _, rfl, rfl, w⟩ | exact w.elim
theorem ops_ge : OpS F E (qCmp .ge) (rI0 fun i j => .bl (decide (j ≤ i))) := ops_int0 (g := fun i j => .bl (decide (j ≤ i))) (fun _ _ => ⟨rfl, rfl⟩) fun x y s K w => by
  cases x <;> try exact w.elim
  cases y <;> first | exact ⟨_, _, rfl, rfl, w⟩ | exact w.elim
def rLtA : R2 := fun x y H Q => rI0 (fun i j => .bl (decide (i < j))) x y H Q ∨ rLtS x y H Q
theorem ops_lt : OpS F E (qCmp .lt) rLtA := by
  intro Z ow σ H s K x y vx vy Q R hx hy w k
  cases x with
  | int i =>
    cases y with
    | int j =>
      cases view_int hx; cases view_int hy
      exact .inl ⟨i, j, rfl, rfl, k _ _ _ _ _ w (rr_sc R (.bl (decide (i < j))) rfl) (Eff.refl _ _ _ _)⟩
    | _ => exact w.elim
  | str i =>
    cases y with
    | str j =>
      cases view_str hx; cases view_str hy
      exact .inr ⟨i, j, rfl, rfl, k _ _ _ _ _ w (rr_sc R (.bl (decide (i.cps.toList < j.cps.toList))) rfl) (Eff.refl _ _ _ _)⟩
    | _ => exact w.elim
  | _ => exact w.elim
theorem ops_eqN {op : D → D → M R} (neg : Bool) (hop : op = qEq neg) {r : R2} (hr : ∀ x y H Q, (scal x y = true ∧ Q (.bl (if neg then !decide (x = y) else decide (x = y))) H) ∨
    (∃ d e, Dp F.G.K H x d ∧ Dp F.G.K H y e ∧ SeqAt.shaped d = true ∧ SeqAt.shaped e = true ∧ Q (.bl (if neg then !PyData.eqv d e else PyData.eqv d e)) H) → r x y H Q) : OpS F E op r := by
  intro Z ow σ H s K x y vx vy Q R hx hy w k
  subst hop
  apply hr
  unfold qEq at w
  by_cases hs : (scal (toV x) (toV y) && (isScalar x && isScalar y)) = true
  · rw [if_pos hs] at w
    simp only [Bool.and_eq_true] at hs
    left
    rw [view_sc hs.2.1 hx, view_sc hs.2.2 hy]
    exact ⟨hs.1, k _ _ _ _ _ w (rr_sc R (.bl _) rfl) (Eff.refl _ _ _ _)⟩
  · rw [if_neg hs] at w
    right
    obtain ⟨w1, w2⟩ := w
    unfold eqOk at w1
    rw [Bool.and_eq_true] at w1
    have c1 : (pd x).canLay0 = true := by
      have := w1.1; unfold SeqAt.shaped at this; rw [Bool.and_eq_true] at this; exact this.1
    have c2 : (pd y).canLay0 = true := by
      have := w1.2; unfold SeqAt.shaped at this; rw [Bool.and_eq_true] at this; exact this.1
    exact ⟨_, _, hx.dp c1, hy.dp c2, w1.1, w1.2, k _ _ _ _ _ w2 (rr_sc R (.bl _) rfl) (Eff.refl _ _ _ _)⟩
theorem ops_eq : OpS F E (qCmp .eq) (rEqA F.G.K) := ops_eqN (op := qCmp .eq) false rfl fun x y H Q h => h
theorem ops_ne : OpS F E (qCmp .ne) (rNeA F.G.K) := ops_eqN (op := qCmp .ne) true rfl fun x y H Q h => h
theorem kV_of {k : Key} {d : D} (h : keyOf d = some k) : toV d = kV k := by
  cases d with
  | int i => cases h; rfl
  | str x => cases h; rfl
  | _ => cases h
theorem key_sc {k : Key} {d : D} (h : keyOf d = some k) : isScalar d = true := by
  cases d with
  | int i => rfl
  | str x => rfl
  | _ => cases h
theorem look_val {κ : Type} [DecidableEq κ] {G : Gc} {A : AS} {H : Hp} (k : κ) : ∀ {kvs : List (κ × V)} {ds : List (κ × D)}, kvs.map (·.1) = ds.map (·.1) → FzL G A H (kvs.map (·.2)) (ds.map (·.2)) →
    (valV kvs k = none ∧ look ds k = none) ∨ ∃ v d, valV kvs k = some v ∧ look ds k = some d ∧ Fz G A H v d
  | [], [], _, _ => .inl ⟨rfl, rfl⟩
  | [], _ :: _, h, _ => by cases h
  | _ :: _, [], h, _ => by cases h
  | (a, v) :: kvs, (b, d) :: ds, h, l => by
    rw [List.map_cons, List.map_cons, List.cons.injEq] at h
    obtain ⟨h1, h2⟩ := h
    have h1' : a = b := h1
    subst h1'
    rw [List.map_cons, List.map_cons] at l
    cases l with
    | cons l1 l2 =>
      by_cases e : a = k
      · right
        exact ⟨v, d, by simp [valV, e], by simp [look, e], l1⟩
      · rcases look_val k h2 l2 with ⟨q1, q2⟩ | ⟨v', d', q1, q2, q3⟩
        · left
          unfold valV at q1; unfold look at q2
          exact ⟨by simpa [valV, e] using q1, by simpa [look, e] using q2⟩
        · right
          unfold valV at q1; unfold look at q2
          exact ⟨v', d', by simpa [valV, e] using q1, by simpa [look, e] using q2, q3⟩
theorem ops_inN {op : D → D → M R} (neg : Bool) (hop : op = qIn neg) : OpS F E op (rInA F.G.K neg) := by
  intro Z ow σ H s K x y vx vy Q R hx hy w k
  subst hop
  have seq : ∀ (a : Addr) (vs : List V) (xs : List D), vy = .ref a → (SqL F.G.K H a vs ∨ SqT F.G.K H a vs) → FzL F.G (Av' Z ow) H vs xs → isScalar x = true ∧ xs.all isScalar = true → K (.fz (.bl (if neg then !inD x xs else inD x xs))) s → rInA F.G.K neg vx vy H Q := by
    intro a vs xs e1 e2 l hs w
    have ev := fzl_sc hs.2 l
    refine .inl ⟨a, vs, e1, e2, by rw [view_sc hs.1 hx]; exact flat1 hs.1, by rw [ev]; exact flat_sc hs.2, ?_⟩
    rw [ev, view_sc hs.1 hx, inV_map]
    exact k _ _ _ _ _ w (rr_sc R (.bl _) rfl) (Eff.refl _ _ _ _)
  have dict : ∀ (ky : Key) (kvs : List (Key × D)), y = .dct kvs → keyOf x = some ky → K (.fz (.bl (if neg then !(look kvs ky).isSome else (look kvs ky).isSome))) s → rInA F.G.K neg vx vy H Q := by
    intro ky ds ey ek w'
    subst ey
    obtain ⟨a, kvs, rfl, e2, ek2, l⟩ := hy
    have hv : vx = kV ky := by rw [view_sc (key_sc ek) hx]; exact kV_of ek
    refine .inr (.inl ⟨a, valV kvs ky, rfl, .inl ⟨kvs, ky, e2, hv, rfl⟩, ?_⟩)
    have es : (valV kvs ky).isSome = (look ds ky).isSome := by
      rcases look_val ky ek2 l with ⟨q1, q2⟩ | ⟨_, _, q1, q2, _⟩ <;> rw [q1, q2] <;> rfl
    rw [es]
    exact k _ _ _ _ _ w' (rr_sc R (.bl _) rfl) (Eff.refl _ _ _ _)
  cases y with
  | lst ys =>
    obtain ⟨a, vs, rfl, e, l⟩ := hy
    cases x <;> exact seq a vs ys rfl (.inl (SqL.of e)) l w.1 w.2
  | tup ys =>
    obtain ⟨a, vs, rfl, e, l⟩ := view_tup hy
    cases x <;> exact seq a vs ys rfl (.inr e) l w.1 w.2
  | dct kvs =>
    cases x with
    | int i => exact dict (.inl i) kvs rfl rfl w
    | str i => exact dict (.inr i) kvs rfl rfl w
    | _ => exact w.elim
  | str z =>
    cases x with
    | str i =>
      obtain ⟨⟨l⟩⟩ := i
      match l, w with
      | [c], w =>
        cases view_str hx; cases view_str hy
        exact .inr (.inr ⟨c, z, rfl, rfl, k _ _ _ _ _ w (rr_sc R (.bl _) rfl) (Eff.refl _ _ _ _)⟩)
      | [], w => exact w.elim
      | _ :: _ :: _, w => exact w.elim
    | _ => exact w.elim
  | _ => cases x <;> exact w.elim
theorem ops_in : OpS F E (qCmp .isin) (rInA F.G.K false) := ops_inN false rfl
theorem ops_notin : OpS F E (qCmp .notin) (rInA F.G.K true) := ops_inN true rfl
end
end PP

set_option Elab.async false
set_option linter.all false
set_option maxRecDepth 100000
set_option maxHeartbeats 2000000
namespace PP
open PySem L2
/-- an error as data tell it: its class, its fields -/
def XcIs (G : Gc) (A : AS) (H : Hp) (cls : Value) (d : Option Addr) (xn : Xn) : Prop := cls = .ref (G.ga xn.1) ∧ ((d = none ∧ xn.2 = []) ∨ ∃ dx fs, d = some dx ∧ ¬ A dx ∧ H dx = some (.xd fs) ∧ fs.map (·.1) = xn.2.map (·.1) ∧ FzL G A H (fs.map (·.2)) (xn.2.map (·.2)))
/-- what is wished of errors -/
def wx (F : Fm) (E : XC) : WX := fun cls d σ H => ∃ Z ow s xn, Rep F Z ow σ H s ∧ XcIs F.G (Av' Z ow) H cls d xn ∧ E xn s
theorem takes_no {X : Cx} {F : Fm} : Takes X (wx F noX) := fun u s' ⟨_, _, _, _, _, _, _, _, _, _, _, _, _, _, _, _, ⟨_, _, _, _, _, _, w⟩⟩ => w.elim
structure Gd (X : Cx) (F : Fm) (E : XC) : Prop where
  hK : X.K = F.G.K
  calm : X.calm = true
  nd : X.N.Nodup
  u : X.A.units + 64 < cLine
  gs : X.A.guards = some []
  tk : Takes X (wx F E)
  tb : F.T.tb = F.G.tb
abbrev SX (X : Cx) (F : Fm) (E : XC) (Γ : Env) (e : Expr) (ir : Ex) : Prop := PE X e (LR F E (evP Γ ir).r)
abbrev VX (X : Cx) (F : Fm) (E : XC) (Γ : Env) (e : Expr) (ir : Ex) : Prop := PE X e (LV F E (vwOf ir (evP Γ ir).r))
abbrev TX (X : Cx) (F : Fm) (E : XC) (Γ : Env) (e : Expr) (ir : Ex) : Prop := PT X e (LT F E (evP Γ ir).t)
abbrev TWX (X : Cx) (F : Fm) (E : XC) (Γ : Env) (e : Expr) (ir : Ex) : Prop := PW X e (LT F E (evP Γ ir).t)
abbrev AX (X : Cx) (F : Fm) (E : XC) (Γ : Env) (es : List Expr) (irs : List Ex) : Prop := PA X es (LDs F E (evs Γ irs))
abbrev AVX (X : Cx) (F : Fm) (E : XC) (Γ : Env) (es : List Expr) (irs : List Ex) : Prop := PA X es (LVs F E (vws Γ irs))
def notVar : Ex → Bool
  | .var _ => false
  | _ => true
section
variable {X : Cx} {F : Fm} {E : XC} {Γ : Env} {a b c : Expr} {ia ib ic : Ex} {pos : Pos}
theorem Gd.u1 (g : Gd X F E) : X.A.units + 1 < cLine := by have := g.u; omega
theorem sx_var (i : Nat) {x : Str} (hN : X.N[i]? = some x := by rfl) (hv : Vis X.env.scope x := by first | exact Or.inl rfl | exact Or.inr (Or.inl rfl) | exact Or.inr (Or.inr rfl)) (hd : (x == ("__debug__" : Str)) = false := by decide)
    (hcd : (x == ("__classdict__" : Str)) = false := by decide) : SX X F E Γ (.Name x pos) (.var i) := PEimp (pe_var hN hv hd hcd) fun _ _ _ h => lr_var h
theorem vx_var (i : Nat) {x : Str} (hN : X.N[i]? = some x := by rfl) (hv : Vis X.env.scope x := by first | exact Or.inl rfl | exact Or.inr (Or.inl rfl) | exact Or.inr (Or.inr rfl)) (hd : (x == ("__debug__" : Str)) = false := by decide)
    (hcd : (x == ("__classdict__" : Str)) = false := by decide) : VX X F E Γ (.Name x pos) (.var i) := PEimp (pe_var hN hv hd hcd) fun _ _ _ h => lv_var h
theorem vwOf_eq {f : M R} {ir : Ex} (n : notVar ir = true) : vwOf ir f = bnd (toD f) fun d => ret (.d d) := by
  cases ir <;> first | rfl | cases n
theorem vx (h : SX X F E Γ a ia) (n : notVar ia = true := by rfl) : VX X F E Γ a ia := PEimp h fun σ H Q h => lv_val (by rw [← vwOf_eq n]; exact h)
theorem sx_int {i : Int} {k : Nat} : SX X F E Γ (.Constant (.int i) k pos) (.int i) := PEimp pe_int fun _ _ _ h => lr_c (d := .int i) (fun _ _ => .int i) h
theorem sx_str {x : Str} {k : Nat} : SX X F E Γ (.Constant (.str x) k pos) (.str x) := PEimp pe_str fun _ _ _ h => lr_c (d := .str x) (fun _ _ => .str x) h
theorem sx_bl {x : Bool} {k : Nat} : SX X F E Γ (.Constant (.bool x) k pos) (.bl x) := PEimp pe_bl fun _ _ _ h => lr_c (d := .bl x) (fun _ _ => .bl x) h
theorem sx_non {k : Nat} : SX X F E Γ (.Constant .none k pos) .non := PEimp pe_non fun _ _ _ h => lr_c (d := .non) (fun _ _ => .non) h
theorem lr_cst {x : Str} {d : D} {v : V} {σ : L2.St} {H : Hp} {Q : VK} (hc : Γ.cst x = some d) (hz : ∀ A H, Fz F.G A H v d) (h : LR F E (qCst Γ x) σ H Q) : tC v σ H Q := by
  obtain ⟨Z, ow, s, K, R, hf, hq⟩ := h
  unfold qCst at hf
  rw [hc] at hf
  exact hq (.fz d) s v H ow hf ⟨R, hz _ _⟩ (Eff.refl _ _ _ _)
theorem sx_cstS {x z : Str} {t : Tok} (hc : Γ.cst x = some (.str z)) (hm : X.mg x = some (.str z t)) (hg : Gl X x := by rfl) (hd : (x == ("__debug__" : Str)) = false := by decide) : SX X F E Γ (.Name x pos) (.cst x) :=
  PEimp (pe_glob (v := .str z) hg hm ⟨t, rfl⟩ hd) fun _ _ _ h => lr_cst hc (fun _ _ => .str z) h
theorem sx_cstI {x : Str} {z : Int} {t : Tok} (hc : Γ.cst x = some (.int z)) (hm : X.mg x = some (.int z t)) (hg : Gl X x := by rfl) (hd : (x == ("__debug__" : Str)) = false := by decide) : SX X F E Γ (.Name x pos) (.cst x) :=
  PEimp (pe_glob (v := .int z) hg hm ⟨t, rfl⟩ hd) fun _ _ _ h => lr_cst hc (fun _ _ => .int z) h
/-! operators -/
theorem sx_add (g : Gd X F E) (ha : VX X F E Γ a ia) (hb : VX X F E Γ b ib) : SX X F E Γ (.BinOp a .Add b pos) (.bin .add ia ib) := PEimp (pe_op op_addA ha hb) fun _ _ _ h => by rw [g.hK]; exact lr_bin ops_add h
theorem sx_sub (g : Gd X F E) (ha : VX X F E Γ a ia) (hb : VX X F E Γ b ib) : SX X F E Γ (.BinOp a .Sub b pos) (.bin .sub ia ib) := PEimp (pe_op op_sub ha hb) fun _ _ _ h => lr_bin ops_sub h
theorem sx_mul (g : Gd X F E) (ha : VX X F E Γ a ia) (hb : VX X F E Γ b ib) : SX X F E Γ (.BinOp a .Mult b pos) (.bin .mul ia ib) := PEimp (pe_op op_mul ha hb) fun _ _ _ h => lr_bin ops_mul h
theorem sx_fdiv (g : Gd X F E) (ha : VX X F E Γ a ia) (hb : VX X F E Γ b ib) : SX X F E Γ (.BinOp a .FloorDiv b pos) (.bin .fdiv ia ib) := PEimp (pe_op op_fdiv ha hb) fun _ _ _ h => lr_bin ops_fdiv h
theorem sx_mod (g : Gd X F E) (ha : VX X F E Γ a ia) (hb : VX X F E Γ b ib) : SX X F E Γ (.BinOp a .Mod b pos) (.bin .mod ia ib) := PEimp (pe_op op_mod ha hb) fun _ _ _ h => lr_bin ops_mod h
theorem sx_pow (g : Gd X F E) (ha : VX X F E Γ a ia) (hb : VX X F E Γ b ib) : SX X F E Γ (.BinOp a .Pow b pos) (.bin .pow ia ib) := PEimp (pe_op op_pow ha hb) fun _ _ _ h => lr_bin ops_pow h
theorem op_ltA : OpR X (compareOp .Lt) rLtA := op_lt.or op_lt_str
/-- which rule serves which comparison -/
structure CmpOk (X : Cx) (F : Fm) (E : XC) (op : CmpOp) (o : Cop) (r : R2) : Prop where
  x : OpR X (compareOp op) r
  s : OpS F E (qCmp o) r
theorem c_lt (g : Gd X F E) : CmpOk X F E .Lt .lt rLtA := ⟨op_ltA, ops_lt⟩
theorem c_le (g : Gd X F E) : CmpOk X F E .LtE .le (rI0 fun i j => .bl (decide (i ≤ j))) := ⟨op_le, ops_le⟩
theorem c_gt (g : Gd X F E) : CmpOk X F E .Gt .gt (rI0 fun i j => .bl (decide (j < i))) := ⟨op_gt, ops_gt⟩
theorem c_ge (g : Gd X F E) : CmpOk X F E .GtE .ge (rI0 fun i j => .bl (decide (j ≤ i))) := ⟨op_ge, ops_ge⟩
theorem c_eq (g : Gd X F E) : CmpOk X F E .Eq .eq (rEqA F.G.K) := ⟨by rw [← g.hK]; exact op_eqA g.u, ops_eq⟩
theorem c_ne (g : Gd X F E) : CmpOk X F E .NotEq .ne (rNeA F.G.K) := ⟨by rw [← g.hK]; exact op_neA g.u, ops_ne⟩
theorem c_in (g : Gd X F E) : CmpOk X F E .In .isin (rInA F.G.K false) := ⟨by rw [← g.hK]; exact op_inA g.u1, ops_in⟩
theorem c_nin (g : Gd X F E) : CmpOk X F E .NotIn .notin (rInA F.G.K true) := ⟨by rw [← g.hK]; exact op_notInA g.u1, ops_notin⟩
def rIsNn (neg : Bool) : R2 := fun x y H Q => y = .non ∧ Q (.bl (if neg then !decide (x = .non) else decide (x = .non))) H
theorem ref_non {d : D} {A : AS} {H : Hp} {v : V} (h : View F A H v d) : decide (v = .non) = (match d with | .non => true | _ => false) := by
  cases d with
  | non => cases view_non h; rfl
  | bl b => cases view_bl h; rfl
  | int b => cases view_int h; rfl
  | str b => cases view_str h; rfl
  | lst xs => obtain ⟨a, _, rfl, _⟩ := h; rfl
  | dct xs => obtain ⟨a, _, rfl, _⟩ := h; rfl
  | tup xs => obtain ⟨a, _, rfl, _⟩ := view_tup h; rfl
  | dctT xs => cases (show Fz F.G A H v (.dctT xs) from h); rfl
  | obj c xs => cases (show Fz F.G A H v (.obj c xs) from h); rfl
  | kt xs => cases (show Fz F.G A H v (.kt xs) from h); rfl
theorem c_isn (g : Gd X F E) : CmpOk X F E .Is .isn (rIsNn false) := ⟨op_isN, fun Z ow σ H s K x y vx vy Q R hx hy w k => by
  cases y <;> try (cases x <;> exact w.elim)
  cases view_non hy
  refine ⟨rfl, ?_⟩
  rw [ref_non hx]
  cases x <;> exact k _ _ _ _ _ w (rr_sc R (.bl _) rfl) (Eff.refl _ _ _ _)⟩
theorem c_notn (g : Gd X F E) : CmpOk X F E .IsNot .notn (rIsNn true) := ⟨op_notN, fun Z ow σ H s K x y vx vy Q R hx hy w k => by
  cases y <;> try (cases x <;> exact w.elim)
  cases view_non hy
  refine ⟨rfl, ?_⟩
  rw [ref_non hx]
  cases x <;> exact k _ _ _ _ _ w (rr_sc R (.bl _) rfl) (Eff.refl _ _ _ _)⟩
theorem sx_cmp {op : CmpOp} {o : Cop} {r : R2} (h : CmpOk X F E op o r) (ha : VX X F E Γ a ia) (hb : VX X F E Γ b ib) (hm : behindInMarks op b = false := by first | exact nomark _ | rfl) : SX X F E Γ (.Compare a [op] [b] pos) (.cmp o ia ib) :=
  PEimp (pe_cmpR h.x ha hb hm) fun _ _ _ w => lr_bin h.s w
theorem qEq_bl {neg : Bool} {x y : D} {s : S} {K : R → S → Prop} (w : qEq neg x y s K E) : qEq neg x y s (fun r s' => K r s' ∧ ∃ b, r = .fz (.bl b)) E := by
  unfold qEq at w ⊢
  split
  · rename_i h; rw [if_pos h] at w; exact ⟨w, _, rfl⟩
  · rename_i h; rw [if_neg h] at w; exact ⟨w.1, w.2, _, rfl⟩
theorem qIn_bl {neg : Bool} {x y : D} {s : S} {K : R → S → Prop} (w : qIn neg x y s K E) : qIn neg x y s (fun r s' => K r s' ∧ ∃ b, r = .fz (.bl b)) E := by
  cases y with
  | lst ys => cases x <;> exact ⟨w.1, w.2, _, rfl⟩
  | tup ys => cases x <;> exact ⟨w.1, w.2, _, rfl⟩
  | dct ys => cases x <;> first | exact ⟨w, _, rfl⟩ | exact w.elim
  | str z =>
    cases x with
    | str i =>
      obtain ⟨⟨l⟩⟩ := i
      match l, w with
      | [c], w => exact ⟨w, _, rfl⟩
      | [], w => exact w.elim
      | _ :: _ :: _, w => exact w.elim
    | _ => exact w.elim
  | _ => cases x <;> exact w.elim
theorem qInD_bl {neg : Bool} {x y : D} {s : S} {K : R → S → Prop} (w : qInD neg x y s K E) : qInD neg x y s (fun r s' => K r s' ∧ ∃ b, r = .fz (.bl b)) E := by
  cases y with
  | lst ys => exact ⟨w.1, w.2, _, rfl⟩
  | _ => exact w.elim
theorem qCmp_bl {o : Cop} {x y : D} {s : S} {K : R → S → Prop} (w : qCmp o x y s K E) : qCmp o x y s (fun r s' => K r s' ∧ ∃ b, r = .fz (.bl b)) E := by
  cases o with
  | eq => exact qEq_bl w
  | ne => exact qEq_bl w
  | isin => exact qIn_bl w
  | notin => exact qIn_bl w
  | isinD => exact qInD_bl w
  | notinD => exact qInD_bl w
  | isn => cases x <;> cases y <;> first | exact ⟨w, _, rfl⟩ | exact w.elim
  | notn => cases x <;> cases y <;> first | exact ⟨w, _, rfl⟩ | exact w.elim
  | lt => cases x <;> cases y <;> first | exact ⟨w, _, rfl⟩ | exact w.elim
  | le => cases x <;> cases y <;> first | exact ⟨w, _, rfl⟩ | exact w.elim
  | gt => cases x <;> cases y <;> first | exact ⟨w, _, rfl⟩ | exact w.elim
  | ge => cases x <;> cases y <;> first | exact ⟨w, _, rfl⟩ | exact w.elim
theorem tx_cmp {op : CmpOp} {o : Cop} {r : R2} (h : CmpOk X F E op o r) (ha : VX X F E Γ a ia) (hb : VX X F E Γ b ib) (hm : behindInMarks op b = false := by first | exact nomark _ | rfl) : TX X F E Γ (.Compare a [op] [b] pos) (.cmp o ia ib) :=
  PTimp (pt_cmpR h.x ha hb hm) fun σ H Q w => by
    obtain ⟨Z, ow, s, K, R, hf, hq⟩ := w
    refine ⟨Z, ow, s, _, R, hf, fun x s1 v1 H1 ow1 k1 R1 o1 e1 => ⟨Z, ow1, s1, _, R1, k1, fun y s2 v2 H2 ow2 k2 R2 o2 e2 => ?_⟩⟩
    obtain ⟨dx, w1, hx⟩ := res_ok R2 (o1.tr R1 e2) k2
    obtain ⟨dy, w2, hy⟩ := res_ok R2 o2 w1
    refine h.s Z ow2 σ H2 s2 _ dx dy v1 v2 _ R2 hx hy (qCmp_bl w2) fun r s' v H' ow' k rr e => ?_
    obtain ⟨k, bb, rfl⟩ := k
    obtain ⟨R', z⟩ := rr
    cases z
    exact ⟨bb, rfl, hq bb s' H' ow' k.2 R' ((e1.trans e2).trans e)⟩
/-- a < b <= c -/
theorem sx_cmp2 {op op' : CmpOp} {o o' : Cop} {r r' : R2} (h : CmpOk X F E op o r) (h' : CmpOk X F E op' o' r') (ha : SX X F E Γ a ia) (hb : SX X F E Γ b ib) (hc : SX X F E Γ c ic) (hm : lastMarks [op, op'] [b, c] = false := by with_unfolding_all rfl) :
    SX X F E Γ (.Compare a [op, op'] [b, c] pos) (.cmp2 o o' ia ib ic) := PEimp (pe_chain h.x h'.x ha hb hc hm) fun σ H Q w => by
  obtain ⟨Z, ow, s, K, R, hf, hq⟩ := w
  refine ⟨Z, ow, s, _, R, hf, fun x s1 v1 H1 ow1 k1 rr1 e1 => ?_⟩
  obtain ⟨R1, z1⟩ := rr1.fz' R
  refine ⟨Z, ow1, s1, _, R1, k1, fun y s2 v2 H2 ow2 k2 rr2 e2 => ?_⟩
  obtain ⟨R2, z2⟩ := rr2.fz' R1
  refine h.s Z ow2 σ H2 s2 _ x.d y.d v1 v2 _ R2 (R1.fz e2 z1).view z2.view (qCmp_bl k2) fun r s' v H' ow' k rr e => ?_
  obtain ⟨k, bb, rfl⟩ := k
  obtain ⟨R', z⟩ := rr
  cases z
  refine ⟨bb, rfl, ?_⟩
  cases bb with
  | false =>
    rw [if_neg Bool.false_ne_true]
    exact hq (.fz (.bl false)) s' _ H' ow' k ⟨R', .bl _⟩ ((e1.trans e2).trans e)
  | true =>
    rw [if_pos rfl]
    refine ⟨Z, ow', s', _, R', k, fun w s4 v4 H4 ow4 k4 rr4 e4 => ?_⟩
    obtain ⟨R4, z4⟩ := rr4.fz' R'
    exact h'.s Z ow4 σ H4 s4 K y.d w.d v2 v4 Q R4 (R'.fz e4 (R2.fz e z2)).view z4.view k4 fun r s' v H' ow' k rr e5 => hq r s' v H' ow' k (rr.back (((e1.trans e2).trans e).trans e4).dm) ((((e1.trans e2).trans e).trans e4).trans e5)
/-! truth -/
theorem tru_of (hK : X.K = F.G.K) {A : AS} {H : Hp} {v : V} {d : D} (hd : truOk d) (h : View F A H v d) : TruV X.K v H (truth d) := by
  cases d with
  | non => cases view_non h; rfl
  | bl b => cases view_bl h; rfl
  | int b => cases view_int h; rfl
  | str b => cases view_str h; exact ⟨hd, by show (b.length != 0) = _; cases b.length <;> rfl⟩
  | lst xs =>
    obtain ⟨a, vs, rfl, e, l⟩ := h
    refine .inl ⟨vs, SqL.of e, ?_⟩
    cases l <;> rfl
  | tup xs =>
    obtain ⟨a, vs, rfl, e, l⟩ := view_tup h
    refine .inr (.inl ⟨vs, by rw [hK]; exact e, ?_⟩)
    cases l <;> rfl
  | _ => exact hd.elim
theorem pt_dfT (g : Gd X F E) (ha : VX X F E Γ a ia) (he : ∀ whole, isTrue a X.env whole = (do let v ← whole; standAt a.pos; holding [v] (truthy v)) := by intro _; rfl) : PT X a (LT F E (dfT ia (evP Γ ia).r)) :=
  PTimp (pt_truth ha he) fun σ H Q h => lt_val (e := ia) (g := qTru) (tr := fun x H' Q => ∃ k, TruV X.K x H' k ∧ Q k H') (fun Z ow σ H s K x vx Q R hx w k => ⟨_, tru_of g.hK w.1 hx, k _ _ _ _ w.2 R (Eff.refl _ _ _ _)⟩) h
def plainT : Ex → Bool
  | .and _ _ => false
  | .or _ _ => false
  | .not _ => false
  | _ => true
theorem evP_t : ∀ {ia : Ex}, plainT ia = true → notVar ia = true → (evP Γ ia).t = dfT ia (evP Γ ia).r := by
  intro ia h hv
  cases ia with
  | and => cases h
  | or => cases h
  | not => cases h
  | var => cases hv
  | pop i e => cases e <;> rfl
  | dct a b => cases a <;> cases b <;> rfl
  | _ => rfl
/-- any expression as a test -/
theorem tx (g : Gd X F E) (ha : VX X F E Γ a ia) (hp : plainT ia = true := by rfl) (he : ∀ whole, isTrue a X.env whole = (do let v ← whole; standAt a.pos; holding [v] (truthy v)) := by intro _; rfl) : TX X F E Γ a ia := by
  have h := pt_dfT g ha he
  cases ia with
  | and => cases hp
  | or => cases hp
  | not => cases hp
  | var i => exact h
  | _ =>
    rw [← evP_t hp rfl] at h
    exact h
theorem tx_not (ha : TX X F E Γ a ia) : TX X F E Γ (.UnaryOp .Not a pos) (.not ia) := PTimp (pt_not ha) fun _ _ _ h => lt_not h
theorem tw_and1 (ha : TX X F E Γ a ia) : TWX X F E Γ (.BoolOp .And [a] pos) ia := PWimp (pw_and1 ha) fun _ _ _ h => h
theorem tw_or1 (ha : TX X F E Γ a ia) : TWX X F E Γ (.BoolOp .Or [a] pos) ia := PWimp (pw_or1 ha) fun _ _ _ h => h
theorem tw_and {rest : List Expr} (ha : TX X F E Γ a ia) (hb : TWX X F E Γ (.BoolOp .And (b :: rest) pos) ib) : TWX X F E Γ (.BoolOp .And (a :: b :: rest) pos) (.and ia ib) := PWimp (pw_and ha hb) fun _ _ _ h => lt_and h
theorem tw_or {rest : List Expr} (ha : TX X F E Γ a ia) (hb : TWX X F E Γ (.BoolOp .Or (b :: rest) pos) ib) : TWX X F E Γ (.BoolOp .Or (a :: b :: rest) pos) (.or ia ib) := PWimp (pw_or ha hb) fun _ _ _ h => lt_or h
theorem tx_w (h : TWX X F E Γ a ia) : TX X F E Γ a ia := h.pt
theorem sx_not (g : Gd X F E) (ha : VX X F E Γ a ia) : SX X F E Γ (.UnaryOp .Not a pos) (.not ia) := PEimp (pe_notT ha) fun σ H Q h => by
  obtain ⟨Z, ow, s, K, R, hf, hq⟩ := h
  refine ⟨Z, ow, s, _, R, hf, fun x s1 v1 H1 ow1 k1 R1 o1 e1 => ?_⟩
  obtain ⟨dx, w1, hx⟩ := res_ok R1 o1 k1
  exact ⟨_, tru_of g.hK w1.1 hx, hq _ _ _ _ _ w1.2 (rr_sc R1 (.bl _) rfl |>.back e1.dm) e1⟩
theorem sx_one {op} (ha : SX X F E Γ a ia) : SX X F E Γ (.BoolOp op [a] pos) ia := pe_one ha
theorem sx_and {rest : List Expr} (ha : SX X F E Γ a ia) (hb : SX X F E Γ (.BoolOp .And (b :: rest) pos) ib) : SX X F E Γ (.BoolOp .And (a :: b :: rest) pos) (.and ia ib) := PEimp (pe_and ha hb) fun _ _ _ h => lr_andV h
theorem sx_or {rest : List Expr} (ha : SX X F E Γ a ia) (hb : SX X F E Γ (.BoolOp .Or (b :: rest) pos) ib) : SX X F E Γ (.BoolOp .Or (a :: b :: rest) pos) (.or ia ib) := PEimp (pe_or ha hb) fun _ _ _ h => lr_orV h
theorem sx_ite (hc : TX X F E Γ c ic) (ha : SX X F E Γ a ia) (hb : SX X F E Γ b ib) : SX X F E Γ (.IfExp c a b pos) (.ite ic ia ib) := PEimp (pe_ifExp hc ha hb) fun _ _ _ h => lr_if h
/-! displays, arguments -/
theorem ax_nil : AX X F E Γ [] [] := PAimp pa_nil fun _ _ _ h => lds_nil h
theorem ax_cons {es : List Expr} {is : List Ex} (ha : SX X F E Γ a ia) (hr : AX X F E Γ es is) (hs : starEach (a :: es) X.env = (false, eval a X.env) :: starEach es X.env := by rfl) : AX X F E Γ (a :: es) (ia :: is) := PAimp (pa_cons ha hr hs) fun _ _ _ h => lds_cons h
theorem avx_nil : AVX X F E Γ [] [] := PAimp pa_nil fun _ _ _ h => lvs_nil h
theorem avx_cons {es : List Expr} {is : List Ex} (ha : VX X F E Γ a ia) (hr : AVX X F E Γ es is) (hs : starEach (a :: es) X.env = (false, eval a X.env) :: starEach es X.env := by rfl) : AVX X F E Γ (a :: es) (ia :: is) := PAimp (pa_cons ha hr hs) fun _ _ _ h => lvs_cons h
theorem sx_lst {es : List Expr} {is : List Ex} (h : AX X F E Γ es is) : SX X F E Γ (.List es pos) (.lst is) := PEimp (pe_lst h) fun _ _ _ h => lr_lst h
theorem sx_tup {es : List Expr} {is : List Ex} {k : Nat} (h : AX X F E Γ es is) : SX X F E Γ (.Tuple es k pos) (.tup is) := PEimp (pe_tup h) fun _ _ _ h => lr_tup h
end
end PP

set_option Elab.async false
set_option linter.all false
set_option maxRecDepth 100000
set_option maxHeartbeats 2000000
namespace PP
open PySem L2
section
variable {F : Fm} {G : Gc} {E : XC} {A : AS} {H : Hp}
theorem FzL.atI {vs : List V} {ds : List D} {i : Int} {d : D} (l : FzL G A H vs ds) (h : L2.atI ds i = some d) : ∃ v, L2.atI vs i = some v ∧ Fz G A H v d := by
  unfold L2.atI at h ⊢
  rw [l.length]
  cases e : ixN ds.length i with
  | none => rw [e] at h; cases h
  | some j =>
    rw [e] at h
    exact l.getD (show ds[j]? = some d from h)
theorem keys_map : ∀ {xs : List D} {ks : List Key}, keysOf xs = some ks → xs.all isScalar = true ∧ xs.map toV = ks.map kV
  | [], ks, h => by
    cases h; exact ⟨rfl, rfl⟩
  | x :: xs, ks, h => by
    unfold keysOf at h
    cases e : keyOf x with
    | none => rw [e] at h; cases h
    | some k =>
      cases e2 : keysOf xs with
      | none => rw [e, e2] at h; cases h
      | some l =>
        rw [e, e2] at h
        cases h
        obtain ⟨h1, h2⟩ := keys_map e2
        exact ⟨by rw [List.all_cons, key_sc e, h1]; rfl, by rw [List.map_cons, List.map_cons, h2, kV_of e]⟩
theorem ops_idx : OpS F E qIdx (rIxA F.G.K) := by
  intro Z ow σ H s K x y vx vy Q R hx hy w k
  have dict : ∀ (ky : Key) (ds : List (Key × D)), x = .dct ds → keyOf y = some ky → (match look ds ky with
      | some x => K (.fz x) s
      | none => False) → rIxA F.G.K vx vy H Q := by
    intro ky ds ex ek w1
    subst ex
    obtain ⟨a, kvs, rfl, e2, ek2, l⟩ := hx
    have hv : vy = kV ky := by rw [view_sc (key_sc ek) hy]; exact kV_of ek
    rcases look_val ky ek2 l with ⟨_, q2⟩ | ⟨v, d, q1, q2, z⟩
    · rw [q2] at w1; exact w1.elim
    · rw [q2] at w1
      exact .inr ⟨a, v, rfl, .inl ⟨kvs, ky, e2, hv, q1.symm⟩, k _ _ _ _ _ w1 ⟨R, z⟩ (Eff.refl _ _ _ _)⟩
  cases x with
  | lst xs =>
    cases y with
    | int i =>
      obtain ⟨a, vs, rfl, e, l⟩ := hx
      cases view_int hy
      have w' : (match atI xs i with
        | some x => K (.fz x) s
        | none => False) := w
      cases q : atI xs i with
      | none => rw [q] at w'; exact w'.elim
      | some d =>
        rw [q] at w'
        obtain ⟨v, h1, h2⟩ := l.atI q
        exact .inl (.inl ⟨a, vs, i, v, rfl, rfl, SqL.of e, h1, k _ _ _ _ _ w' ⟨R, h2⟩ (Eff.refl _ _ _ _)⟩)
    | _ => exact w.elim
  | tup xs =>
    cases y with
    | int i =>
      obtain ⟨a, vs, rfl, e, l⟩ := view_tup hx
      cases view_int hy
      have w' : (match atI xs i with
        | some x => K (.fz x) s
        | none => False) := w
      cases q : atI xs i with
      | none => rw [q] at w'; exact w'.elim
      | some d =>
        rw [q] at w'
        obtain ⟨v, h1, h2⟩ := l.atI q
        exact .inl (.inr (.inl ⟨a, vs, i, v, rfl, rfl, e, h1, k _ _ _ _ _ w' ⟨R, h2⟩ (Eff.refl _ _ _ _)⟩))
    | _ => exact w.elim
  | str z =>
    cases y with
    | int i =>
      cases view_str hx; cases view_int hy
      have w' : z.length ≤ sizeLine ∧ (match atI z.cps.toList i with
        | some c => K (.fz (.str ⟨#[c]⟩)) s
        | none => False) := w
      obtain ⟨wl, w'⟩ := w'
      cases q : atI z.cps.toList i with
      | none => rw [q] at w'; exact w'.elim
      | some c =>
        rw [q] at w'
        exact .inl (.inr (.inr ⟨z, i, c, rfl, rfl, wl, q, k _ _ _ _ _ w' ⟨R, .str _⟩ (Eff.refl _ _ _ _)⟩))
    | _ => exact w.elim
  | dct kvs =>
    cases y with
    | int i => exact dict (.inl i) kvs rfl rfl w
    | str i => exact dict (.inr i) kvs rfl rfl w
    | _ => exact w.elim
  | dctT ds =>
    cases y with
    | tup ys =>
      cases (show Fz F.G (Av' Z ow) H vx (.dctT ds) from hx) with
      | dctT n e ek l =>
        cases (show Fz F.G (Av' Z ow) H vy (.tup ys) from hy) with
        | tup n2 e2 l2 =>
          have w' : (match keysOf ys with
            | some ks => (match look ds ks with
              | some x => K (.fz x) s
              | none => False)
            | none => False) := w
          cases q : keysOf ys with
          | none => rw [q] at w'; exact w'.elim
          | some ks =>
            rw [q] at w'
            dsimp only at w'
            obtain ⟨h1, h2⟩ := keys_map q
            have ev := fzl_sc h1 l2
            rw [h2] at ev
            rcases look_val ks ek l with ⟨_, q2⟩ | ⟨v, d, q1, q2, z⟩
            · rw [q2] at w'; exact w'.elim
            · rw [q2] at w'
              exact .inr ⟨_, v, rfl, .inr ⟨_, ks, _, e, rfl, by rw [e2, ev], q1.symm⟩, k _ _ _ _ _ w' ⟨R, z⟩ (Eff.refl _ _ _ _)⟩
    | _ => exact w.elim
  | _ => exact w.elim
theorem FzL.cut {vs : List V} {ds : List D} (l : FzL G A H vs ds) (lo hi : Option Int) : FzL G A H (cutV vs lo hi) (cutD ds lo hi) := by
  unfold cutV cutD
  rw [l.length]
  exact (l.drop _).take _
end
section
variable {X : Cx} {F : Fm} {E : XC} {Γ : Env} {a b c : Expr} {ia ib ic : Ex} {pos : Pos}
theorem sx_idx (g : Gd X F E) (ha : VX X F E Γ a ia) (hb : VX X F E Γ b ib) (hs : PlainIx b := by exact fun _ _ => rfl) : SX X F E Γ (.Subscript a b pos) (.idx ia ib) := PEimp (pe_ix (ix_all g.u1) ha hb hs) fun _ _ _ h => by rw [g.hK]; exact lr_bin ops_idx h
/-! slices -/
def LO (F : Fm) (E : XC) (f : M (Option Int)) : TO := fun σ H Q => ∃ Z ow s K, Rep F Z ow σ H s ∧ f s K E ∧ ∀ o s' H' ow', K o s' → Rep F Z ow' σ H' s' → Eff F Z ow H ow' H' → Q o H'
theorem POimp {e : Option Expr} {t t' : TO} (h : PO X e t) (i : ∀ σ H Q, t' σ H Q → t σ H Q) : PO X e t' := ⟨fun p s σ H Q I w => h.run p s σ H Q I (i σ H Q w)⟩
theorem ox_none : PO X none (LO F E (evO Γ none)) := POimp po_none fun σ H Q h => by
  obtain ⟨Z, ow, s, K, R, hf, hq⟩ := h
  exact hq none s H ow hf R (Eff.refl _ _ _ _)
theorem ox_some (ha : SX X F E Γ a ia) : PO X (some a) (LO F E (evO Γ (some ia))) := POimp (po_some ha) fun σ H Q h => by
  obtain ⟨Z, ow, s, K, R, hf, hq⟩ := h
  refine ⟨Z, ow, s, _, R, hf, fun r s1 v1 H1 ow1 k1 rr e1 => ?_⟩
  obtain ⟨R1, z⟩ := rr.fz' R
  cases hd : r.d with
  | int i =>
    rw [hd] at k1 z
    cases z
    exact ⟨i, rfl, hq (some i) s1 H1 ow1 k1 R1 e1⟩
  | _ => rw [hd] at k1; exact k1.elim
def rSlAll (K : PySem.W.Frag) : V → Option Int → Option Int → Hp → VK → Prop := fun x lo hi H Q => rSlL K x lo hi H Q ∨ rSlA K x lo hi H Q
theorem sl_all : SlR X (rSlAll X.K) := sl_list.or sl_tupA
theorem sx_sli (g : Gd X F E) {lo hi : Option Expr} {il ih : Option Ex} {p2 : Pos} (ha : VX X F E Γ a ia) (hl : PO X lo (LO F E (evO Γ il))) (hh : PO X hi (LO F E (evO Γ ih))) : SX X F E Γ (.Subscript a (.Slice lo hi none p2) pos) (.sli ia il ih) :=
  PEimp (pe_slice sl_all ha hl hh) fun σ H Q h => by
    rw [g.hK]
    obtain ⟨Z, ow, s, K, R, hf, hq⟩ := h
    refine ⟨Z, ow, s, _, R, hf, fun x s1 v1 H1 ow1 k1 R1 o1 e1 => ⟨Z, ow1, s1, _, R1, k1, fun l s2 H2 ow2 k2 R2 e2 => ⟨Z, ow2, s2, _, R2, k2, fun u s3 H3 ow3 k3 R3 e3 => ?_⟩⟩⟩
    obtain ⟨dx, w, hx⟩ := res_ok R3 ((o1.tr R1 e2).tr R2 e3) k3
    have e := (e1.trans e2).trans e3
    cases dx with
    | lst xs =>
      obtain ⟨p, vs, rfl, ep, l'⟩ := hx
      refine .inl ⟨p, vs, rfl, SqL.of ep, fun q hq' => ?_⟩
      exact hq _ _ _ _ _ w ((rr_newL R3 hq' (l'.cut l u)).back e.dm) (e.trans (Eff.new hq'))
    | tup xs =>
      have z : Fz F.G (Av' Z ow3) H3 v1 (.tup xs) := hx
      obtain ⟨p, vs, rfl, ep, l'⟩ := view_tup hx
      refine .inr ⟨p, vs, rfl, ep, fun hh => ?_, fun _ q hq' => ?_⟩
      · have eq : cutD xs l u = xs := by
          unfold cutD
          rw [← l'.length, hh.1, hh.2, List.drop_zero, Nat.sub_zero, l'.length, List.take_length]
        have w' : K (.fz (.tup (cutD xs l u))) s3 := w
        rw [eq] at w'
        exact hq _ _ _ _ _ w' ⟨R3, z⟩ e
      · exact hq _ _ _ _ _ w ((rr_newT R3 hq' (l'.cut l u)).back e.dm) (e.trans (Eff.new hq'))
    | _ => exact w.elim
theorem sx_rev (g : Gd X F E) {k : Nat} {p1 p2 p3 : Pos} (ha : VX X F E Γ a ia) : SX X F E Γ (.Subscript a (.Slice none none (some (.UnaryOp .USub (.Constant (.int 1) k p1) p2)) p3) pos) (.rev ia) :=
  PEimp (pe_revL ha) fun σ H Q h => by
    obtain ⟨Z, ow, s, K, R, hf, hq⟩ := h
    refine ⟨Z, ow, s, _, R, hf, fun x s1 v1 H1 ow1 k1 R1 o1 e1 => ?_⟩
    obtain ⟨dx, w, hx⟩ := res_ok R1 o1 k1
    cases dx with
    | lst xs =>
      obtain ⟨p, vs, rfl, ep, l'⟩ := hx
      exact ⟨p, vs, rfl, SqL.of ep, fun q hq' => hq _ _ _ _ _ w ((rr_newL R1 hq' l'.reverse).back e1.dm) (e1.trans (Eff.new hq'))⟩
    | _ => exact w.elim
theorem sx_neg (ha : SX X F E Γ a ia) : SX X F E Γ (.UnaryOp .USub a pos) (.neg ia) := PEimp (pe_un un_neg ha) fun σ H Q h => by
  obtain ⟨Z, ow, s, K, R, hf, hq⟩ := h
  refine ⟨Z, ow, s, _, R, hf, fun r s1 v1 H1 ow1 k1 rr e1 => ?_⟩
  obtain ⟨R1, z⟩ := rr.fz' R
  cases hd : r.d with
  | int i =>
    rw [hd] at k1 z
    cases z
    exact ⟨i, rfl, hq _ _ _ _ _ k1 (rr_sc R1 (.int (-i)) rfl |>.back e1.dm) e1⟩
  | _ => rw [hd] at k1; exact k1.elim
/-! builtins -/
theorem sx_bi {f : Bi} {x : Str} {id : String} {r : List V → Hp → VK → Prop} {es : List Expr} {is : List Ex} {p : Pos} (hc : CallR X (.builtin id) r) (ho : CallS F E (qBi f) r) (hm : X.mg x = none) (hv : bootBuiltins x = some (.builtin id)) (ha : AVX X F E Γ (a :: es) is)
    (hg : Gl X x := by rfl) (hn : x ≠ "__name__" := by decide) (hdb : (x == ("__debug__" : Str)) = false := by decide)
    (he : starEach (a :: es) X.env = (false, eval a X.env) :: starEach es X.env := by rfl) (hpl : (backTo pos (starEach es X.env)).any (·.1) = false := by rfl) : SX X F E Γ (.Call (.Name x p) (a :: es) [] pos) (.bi f is) :=
  PEimp (pe_callB hc hg hm hv ha hn hdb he hpl) fun _ _ _ h => lr_call ho h
theorem sx_ty {f : Bi} {x : Str} {T : String} {r : List V → Hp → VK → Prop} {es : List Expr} {is : List Ex} {p : Pos} (hc : CallR X (.type T) r) (ho : CallS F E (qBi f) r) (hm : X.mg x = none) (hv : bootBuiltins x = some (.type T)) (ha : AVX X F E Γ (a :: es) is)
    (hg : Gl X x := by rfl) (hn : x ≠ "__name__" := by decide) (hdb : (x == ("__debug__" : Str)) = false := by decide)
    (he : starEach (a :: es) X.env = (false, eval a X.env) :: starEach es X.env := by rfl) (hpl : (backTo pos (starEach es X.env)).any (·.1) = false := by rfl) : SX X F E Γ (.Call (.Name x p) (a :: es) [] pos) (.bi f is) :=
  PEimp (pe_callTy hc hg hm hv ha hn hdb he hpl) fun _ _ _ h => lr_call ho h
theorem views1 {A : AS} {H : Hp} {vs : List V} {d : D} (h : Views F A H vs [d]) : ∃ v, vs = [v] ∧ View F A H v d := by
  cases h with
  | cons a b => cases b; exact ⟨_, rfl, a⟩
theorem views2 {A : AS} {H : Hp} {vs : List V} {d d' : D} (h : Views F A H vs [d, d']) : ∃ v v', vs = [v, v'] ∧ View F A H v d ∧ View F A H v' d' := by
  cases h with
  | cons a b => cases b with | cons c d => cases d; exact ⟨_, _, rfl, a, c⟩
def rLenA (K : PySem.W.Frag) : List V → Hp → VK → Prop := fun xs H Q => (∃ p ys, xs = [.ref p] ∧ (SqL K H p ys ∨ SqT K H p ys) ∧ Q (.int ys.length) H) ∨ (∃ z : Str, xs = [.str z] ∧ z.length ≤ sizeLine ∧ Q (.int z.length) H) ∨ (∃ a kvs, xs = [V.ref a] ∧ H a = some (.dK kvs) ∧ Q (.int kvs.length) H)
theorem cr_lenA : CallR X (.builtin "len") (rLenA X.K) := call_len_seq.or (call_len_str.or call_lenD)
theorem asInts_eq : ∀ {xs : List D} {ns : List Int}, asInts xs = some ns → xs = ns.map D.int
  | [], _, h => by cases h; rfl
  | .int i :: xs, ns, h => by
    unfold asInts at h
    obtain ⟨l, h1, rfl⟩ := Option.map_eq_some_iff.mp h
    rw [asInts_eq h1]; rfl
  | .non :: _, _, h => by cases h
  | .bl _ :: _, _, h => by cases h
  | .str _ :: _, _, h => by cases h
  | .lst _ :: _, _, h => by cases h
  | .tup _ :: _, _, h => by cases h
  | .dct _ :: _, _, h => by cases h
  | .dctT _ :: _, _, h => by cases h
  | .obj _ _ :: _, _, h => by cases h
theorem asStrs_eq : ∀ {xs : List D} {ns : List Str}, asStrs xs = some ns → xs = ns.map D.str
  | [], _, h => by cases h; rfl
  | .str i :: xs, ns, h => by
    unfold asStrs at h
    obtain ⟨l, h1, rfl⟩ := Option.map_eq_some_iff.mp h
    rw [asStrs_eq h1]; rfl
  | .non :: _, _, h => by cases h
  | .bl _ :: _, _, h => by cases h
  | .int _ :: _, _, h => by cases h
  | .lst _ :: _, _, h => by cases h
  | .tup _ :: _, _, h => by cases h
  | .dct _ :: _, _, h => by cases h
  | .dctT _ :: _, _, h => by cases h
  | .obj _ _ :: _, _, h => by cases h
theorem asBls_eq : ∀ {xs : List D} {ns : List Bool}, asBls xs = some ns → xs = ns.map D.bl
  | [], _, h => by cases h; rfl
  | .bl i :: xs, ns, h => by
    unfold asBls at h
    obtain ⟨l, h1, rfl⟩ := Option.map_eq_some_iff.mp h
    rw [asBls_eq h1]; rfl
  | .non :: _, _, h => by cases h
  | .int _ :: _, _, h => by cases h
  | .str _ :: _, _, h => by cases h
  | .lst _ :: _, _, h => by cases h
  | .tup _ :: _, _, h => by cases h
  | .dct _ :: _, _, h => by cases h
  | .dctT _ :: _, _, h => by cases h
  | .obj _ _ :: _, _, h => by cases h
theorem fzl_ints {G : Gc} {A : AS} {H : Hp} {vs : List V} {ns : List Int} (l : FzL G A H vs (ns.map D.int)) : vs = ns.map V.int := by
  rw [fzl_sc (by rw [List.all_map, List.all_eq_true]; intro x _; rfl) l, List.map_map]; rfl
theorem fzl_strs {G : Gc} {A : AS} {H : Hp} {vs : List V} {ns : List Str} (l : FzL G A H vs (ns.map D.str)) : vs = ns.map V.str := by
  rw [fzl_sc (by rw [List.all_map, List.all_eq_true]; intro x _; rfl) l, List.map_map]; rfl
theorem fzl_bls {G : Gc} {A : AS} {H : Hp} {vs : List V} {ns : List Bool} (l : FzL G A H vs (ns.map D.bl)) : vs = ns.map V.bl := by
  rw [fzl_sc (by rw [List.all_map, List.all_eq_true]; intro x _; rfl) l, List.map_map]; rfl
theorem fzl_of_strs {G : Gc} {A : AS} {H : Hp} : ∀ ns : List Str, FzL G A H (ns.map V.str) (ns.map D.str)
  | [] => .nil
  | n :: ns => .cons (.str n) (fzl_of_strs ns)
theorem fzl_of_ints {G : Gc} {A : AS} {H : Hp} : ∀ ns : List Int, FzL G A H (ns.map V.int) (ns.map D.int)
  | [] => .nil
  | n :: ns => .cons (.int n) (fzl_of_ints ns)
end
end PP

set_option Elab.async false
set_option linter.all false
set_option maxRecDepth 100000
set_option maxHeartbeats 2000000
namespace PP
open PySem L2
section
variable {X : Cx}
theorem call_lenR : CallR X (.builtin "len") (fun xs H Q => ∃ a kvs, xs = [V.ref a] ∧ Rd H a (.dK kvs) ∧ Q (.int kvs.length) H) := by
  intro pins s σ H xs us Q I r h
  obtain ⟨a, kvs, rfl, ha, q⟩ := h
  obtain ⟨u, rfl, ru⟩ := vals1 r
  cases ru
  exact d_len I ha fun t s' I' => ⟨.int kvs.length, H, I', ⟨t, rfl⟩, q⟩
def rListR : List V → Hp → VK → Prop := fun xs H Q => ∃ p kvs, xs = [.ref p] ∧ Rd H p (.dK kvs) ∧ ∀ q, H q = none → Q (.ref q) (upd H q (.lst (kvs.map fun kv => kV kv.1)))
theorem call_listR (hc : X.calm = true) : CallR X (.type "list") rListR := by
  intro pins s σ H xs us Q I r h
  obtain ⟨p, kvs, e, hk, q⟩ := h
  subst e
  obtain ⟨u, eu, rx⟩ := vals1 r
  subst eu
  obtain rfl : u = Value.ref p := rx
  obtain ⟨z, lo, vs, rk, hd⟩ := dk_rd I.hok hk
  obtain ⟨ep, hat⟩ := hd.dictAt
  have hl : kvs.length = vs.length := Paired.length rk
  refine PySem.W.kdl_call (PySem.W.kdl_dict (knd := mixKind X.prog X.w) (kvs := vs) (ep := ep) lo) (I.ok.hd hc) hat (by rw [← hl]; exact z) fun h' tk acc' c' hkeep hS hacc => ?_
  refine ⟨.ref s.heap.objs.size, upd H s.heap.objs.size (.lst (kvs.map fun kv => kV kv.1)), I.laid hkeep (Nat.le_refl _) (show ObjOk X.prog X.w _ _ _ (.lst (kvs.map fun kv => kV kv.1)) from ⟨?_, acc'.toList, c', ?_, ?_⟩), rfl, q _ (I.hok.fresh (Nat.le_refl _))⟩
  · rw [List.length_map]; exact z
  · have el : acc'.toList.length = acc'.size := by simp
    refine vals_of_at (by rw [List.length_map, el, hacc.1, hl]) fun j x w h1 h2 => ?_
    obtain ⟨k, y, hky, hi⟩ := hacc.2 j w (by rw [← Array.getElem?_toList]; exact h2)
    have e1 : (kvs.map (·.1))[j]? = some k := by
      rw [KV.keys rk, List.getElem?_map, hky] <;> rfl
    have e2 : (kvs.map fun kv => kV kv.1)[j]? = some (kV k) := by
      have e3 : (kvs.map fun kv => kV kv.1) = (kvs.map (·.1)).map kV := by rw [List.map_map] <;> rfl
      rw [e3, List.getElem?_map, e1] <;> rfl
    rw [e2] at h1
    cases h1
    exact keyIs_rel hi
  · rw [Array.toArray_toList]; exact hS
end
/-! sorted, of any data -/
def rSortB (K : PySem.W.Frag) : List V → Hp → VK → Prop := fun xs H Q => ∃ (a : Addr) (bs : List (V × PyData)), xs = [.ref a] ∧ SqL K H a (bs.map (·.1)) ∧ (∀ b ∈ bs, Dp K H b.1 b.2 ∧ b.2.depth ≤ 60) ∧ PySem.W.AllAlike (bs.map (·.2)) ∧ PySem.W.Sortable (bs.map (·.2)) ∧
  ∀ p, H p = none → Q (.ref p) (upd H p (.lst ((bs.mergeSort (PySem.W.dataLe false (·.2))).map (·.1))))
theorem each_vals : ∀ {us : List Value} {bs : List (V × PyData)}, PySem.W.EachIs (fun u b => RelV b.1 u) us bs → Vals (bs.map (·.1)) us
  | _, _, .nil => .nil
  | _, _, .cons h t => .cons h (each_vals t)
theorem vals_each : ∀ {us : List Value} (bs : List (V × PyData)), Vals (bs.map (·.1)) us → PySem.W.EachIs (fun u b => RelV b.1 u) us bs
  | _, [], h => by cases h; exact .nil
  | _, b :: bs, h => by
    cases h with
    | cons h t => exact .cons h (vals_each bs t)
theorem each_reads {X : Cx} {pins : List (Addr × Obj)} {σ : L2.St} {H : Hp} {s : Shared} (I : Inv X pins σ H s) : ∀ {us : List Value} {bs : List (V × PyData)}, (∀ b ∈ bs, Dp X.K H b.1 b.2) → PySem.W.EachIs (fun u b => RelV b.1 u) us bs → PySem.W.EachIs (fun u b => ∃ as, PySem.Reads s.heap u b.2 as) us bs
  | _, _, _, .nil => .nil
  | _, b :: bs, hd, .cons h t => .cons (Dp.reads I _ _ _ (hd b List.mem_cons_self) h) (each_reads I (fun b hb => hd b (List.mem_cons_of_mem _ hb)) t)
theorem cr_sortB {X : Cx} (hu : X.A.units + 64 < cLine) : CallR X (.builtin "sorted") (rSortB X.K) := by
  intro pins s σ H xs us Q I r h
  obtain ⟨a, bs, rfl, hq, hd, hal, hs, q⟩ := h
  obtain ⟨u, rfl, ru⟩ := vals1 r
  cases ru
  obtain ⟨its, rv, hl, hz⟩ := I.list hq
  have ev := vals_each bs rv
  refine PySem.W.sorted_data (R := fun u (b : V × PyData) => RelV b.1 u) (enc := fun b => b.2) (bs := bs) hl.isList ev (each_reads I (fun b hb => (hd b hb).1) ev) hal hs (by rw [List.length_map] at hz; exact hz) (fun b hb => by have := (hd b hb).2; omega) fun out ho hE => ?_
  obtain ⟨ep, he⟩ := PyProof.Rows.sortedAll_at s.heap its out.toArray
  refine ⟨.ref _, upd H (s.heap.objs.size + 1) (.lst _), I.laid (t' := s.toks) (fun _ _ => PyProof.Rows.sortedAll_old) (Nat.le_succ _) ⟨?_, out, ep, each_vals hE, he⟩, rfl, q _ (I.hok.fresh (Nat.le_succ _))⟩
  rw [List.length_map, List.length_mergeSort]
  rw [List.length_map] at hz
  exact hz
section
variable {X : Cx} {F : Fm} {E : XC} {Γ : Env} {a b c : Expr} {ia ib ic : Ex} {pos : Pos} {A : AS} {H : Hp}
def rLenB (K : PySem.W.Frag) : List V → Hp → VK → Prop := fun xs H Q => (∃ p ys, xs = [.ref p] ∧ (SqL K H p ys ∨ SqT K H p ys) ∧ Q (.int ys.length) H) ∨ (∃ z : Str, xs = [.str z] ∧ z.length ≤ sizeLine ∧ Q (.int z.length) H) ∨ (∃ a kvs, xs = [V.ref a] ∧ Rd H a (.dK kvs) ∧ Q (.int kvs.length) H)
theorem keys_len {κ : Type} {kvs : List (κ × V)} {ds : List (κ × D)} (h : kvs.map (·.1) = ds.map (·.1)) : kvs.length = ds.length := by
  have := congrArg List.length h; simpa using this
theorem cs_len : CallS F E (qBi .len) (rLenB F.G.K) := by
  intro Z ow σ H s K xs vs Q R hx w k
  match xs, hx, w with
  | [.lst xs], hx, w =>
    obtain ⟨v, rfl, h⟩ := views1 hx
    obtain ⟨a, us, rfl, e, l⟩ := h
    exact .inl ⟨a, us, rfl, .inl (SqL.of e), by rw [l.length]; exact k _ _ _ _ _ w (rr_sc R (.int xs.length) rfl) (Eff.refl _ _ _ _)⟩
  | [.tup xs], hx, w =>
    obtain ⟨v, rfl, h⟩ := views1 hx
    obtain ⟨a, us, rfl, e, l⟩ := view_tup h
    exact .inl ⟨a, us, rfl, .inr e, by rw [l.length]; exact k _ _ _ _ _ w (rr_sc R (.int xs.length) rfl) (Eff.refl _ _ _ _)⟩
  | [.str x], hx, w =>
    obtain ⟨v, rfl, h⟩ := views1 hx
    cases view_str h
    exact .inr (.inl ⟨x, rfl, w.1, k _ _ _ _ _ w.2 (rr_sc R (.int x.length) rfl) (Eff.refl _ _ _ _)⟩)
  | [.dct ds], hx, w =>
    obtain ⟨v, rfl, h⟩ := views1 hx
    obtain ⟨a, kvs, rfl, e, ek, l⟩ := h
    exact .inr (.inr ⟨a, kvs, rfl, e, by rw [keys_len ek]; exact k _ _ _ _ _ w (rr_sc R (.int ds.length) rfl) (Eff.refl _ _ _ _)⟩)
theorem sx_len (g : Gd X F E) {p : Pos} (hm : X.mg "len" = none) (ha : AVX X F E Γ [a] [ia]) (hg : Gl X "len" := by rfl) (he : starEach [a] X.env = (false, eval a X.env) :: starEach [] X.env := by rfl) : SX X F E Γ (.Call (.Name "len" p) [a] [] pos) (.bi .len [ia]) :=
  sx_bi (r := rLenB F.G.K) (by rw [← g.hK]; exact call_len_seq.or (call_len_str.or call_lenR)) cs_len hm PySem.boot_len ha hg (by decide) (by decide) he rfl
def rListA (K : PySem.W.Frag) : List V → Hp → VK → Prop := fun xs H Q => (∃ p ys, xs = [.ref p] ∧ (SqL K H p ys ∨ SqT K H p ys) ∧ ∀ l, H l = none → Q (.ref l) (upd H l (.lst ys))) ∨ rListR xs H Q
theorem fzl_keys {G : Gc} {A : AS} {H : Hp} {kvs : List (Key × V)} : ∀ {ds : List (Key × D)}, kvs.map (·.1) = ds.map (·.1) → FzL G A H (kvs.map fun kv => kV kv.1) (ds.map fun kv => keyD kv.1) := by
  induction kvs with
  | nil =>
    intro ds h
    cases ds with
    | nil => exact .nil
    | cons _ _ => cases h
  | cons a kvs ih =>
    intro ds h
    cases ds with
    | nil => cases h
    | cons b ds =>
      rw [List.map_cons, List.map_cons, List.cons.injEq] at h
      rw [List.map_cons, List.map_cons]
      refine .cons ?_ (ih h.2)
      rw [h.1]
      cases b.1 with
      | inl i => exact .int i
      | inr x => exact .str x
theorem cs_list : CallS F E (qBi .list) (rListA F.G.K) := by
  intro Z ow σ H s K xs vs Q R hx w k
  match xs, hx, w with
  | [.lst xs], hx, w =>
    obtain ⟨v, rfl, h⟩ := views1 hx
    obtain ⟨a, us, rfl, e, l⟩ := h
    exact .inl ⟨a, us, rfl, .inl (SqL.of e), fun p hp => k _ _ _ _ _ w (rr_newL R hp l) (Eff.new hp)⟩
  | [.tup xs], hx, w =>
    obtain ⟨v, rfl, h⟩ := views1 hx
    obtain ⟨a, us, rfl, e, l⟩ := view_tup h
    exact .inl ⟨a, us, rfl, .inr e, fun p hp => k _ _ _ _ _ w (rr_newL R hp l) (Eff.new hp)⟩
  | [.dct ds], hx, w =>
    obtain ⟨v, rfl, h⟩ := views1 hx
    obtain ⟨a, kvs, rfl, e, ek, l⟩ := h
    exact .inr ⟨a, kvs, rfl, e, fun p hp => k _ _ _ _ _ w (rr_newL R hp (fzl_keys ek)) (Eff.new hp)⟩
theorem sx_list (g : Gd X F E) {p : Pos} (hm : X.mg "list" = none) (ha : AVX X F E Γ [a] [ia]) (hg : Gl X "list" := by rfl) (he : starEach [a] X.env = (false, eval a X.env) :: starEach [] X.env := by rfl) : SX X F E Γ (.Call (.Name "list" p) [a] [] pos) (.bi .list [ia]) :=
  sx_ty (r := rListA F.G.K) (by rw [← g.hK]; exact call_list_of.or (call_listR g.calm)) cs_list hm (by decide +kernel) ha hg (by decide) (by decide) he rfl
theorem cs_tuple : CallS F E (qBi .tuple) (fun xs H Q => ∃ p ys, xs = [.ref p] ∧ ((SqL F.G.K H p ys ∧ ∀ l, H l = none → Q (.ref l) (upd H l (.tup ys))) ∨ (SqT F.G.K H p ys ∧ Q (.ref p) H))) := by
  intro Z ow σ H s K xs vs Q R hx w k
  match xs, hx, w with
  | [.lst xs], hx, w =>
    obtain ⟨v, rfl, h⟩ := views1 hx
    obtain ⟨a, us, rfl, e, l⟩ := h
    exact ⟨a, us, rfl, .inl ⟨SqL.of e, fun p hp => k _ _ _ _ _ w (rr_newT R hp l) (Eff.new hp)⟩⟩
  | [.tup xs], hx, w =>
    obtain ⟨v, rfl, h⟩ := views1 hx
    have z : Fz F.G (Av' Z ow) H v (.tup xs) := h
    obtain ⟨a, us, rfl, e, l⟩ := view_tup h
    exact ⟨a, us, rfl, .inr ⟨e, k _ _ _ _ _ w ⟨R, z⟩ (Eff.refl _ _ _ _)⟩⟩
theorem sx_tuple (g : Gd X F E) {p : Pos} (hm : X.mg "tuple" = none) (ha : AVX X F E Γ [a] [ia]) (hg : Gl X "tuple" := by rfl) (he : starEach [a] X.env = (false, eval a X.env) :: starEach [] X.env := by rfl) : SX X F E Γ (.Call (.Name "tuple" p) [a] [] pos) (.bi .tuple [ia]) :=
  sx_ty (by rw [← g.hK]; exact call_tuple_of) cs_tuple hm (by decide +kernel) ha hg (by decide) (by decide) he rfl
theorem cs_all : CallS F E (qBi .all) (rAll F.G.K) := by
  intro Z ow σ H s K xs vs Q R hx w k
  match xs, hx, w with
  | [.lst xs], hx, w =>
    obtain ⟨v, rfl, h⟩ := views1 hx
    obtain ⟨a, us, rfl, e, l⟩ := h
    have w' : (match asBls xs with
      | some bs => K (.fz (.bl (bs.all id))) s
      | none => False) := w
    cases q : asBls xs with
    | none => rw [q] at w'; exact w'.elim
    | some bs =>
      rw [q] at w'
      rw [asBls_eq q] at l
      rw [fzl_bls l] at e
      exact ⟨a, bs, rfl, SqL.of e, k _ _ _ _ _ w' (rr_sc R (.bl _) rfl) (Eff.refl _ _ _ _)⟩
theorem cs_any : CallS F E (qBi .any) (rAny F.G.K) := by
  intro Z ow σ H s K xs vs Q R hx w k
  match xs, hx, w with
  | [.lst xs], hx, w =>
    obtain ⟨v, rfl, h⟩ := views1 hx
    obtain ⟨a, us, rfl, e, l⟩ := h
    have w' : (match asBls xs with
      | some bs => K (.fz (.bl (bs.any id))) s
      | none => False) := w
    cases q : asBls xs with
    | none => rw [q] at w'; exact w'.elim
    | some bs =>
      rw [q] at w'
      rw [asBls_eq q] at l
      rw [fzl_bls l] at e
      exact ⟨a, bs, rfl, SqL.of e, k _ _ _ _ _ w' (rr_sc R (.bl _) rfl) (Eff.refl _ _ _ _)⟩
theorem cs_sum : CallS F E (qBi .sum) (rSum F.G.K) := by
  intro Z ow σ H s K xs vs Q R hx w k
  match xs, hx, w with
  | [.lst xs], hx, w =>
    obtain ⟨v, rfl, h⟩ := views1 hx
    obtain ⟨a, us, rfl, e, l⟩ := h
    have w' : (match asInts xs with
      | some ns => K (.fz (.int ns.sum)) s
      | none => False) := w
    cases q : asInts xs with
    | none => rw [q] at w'; exact w'.elim
    | some bs =>
      rw [q] at w'
      rw [asInts_eq q] at l
      rw [fzl_ints l] at e
      exact ⟨a, bs, rfl, SqL.of e, k _ _ _ _ _ w' (rr_sc R (.int _) rfl) (Eff.refl _ _ _ _)⟩
theorem cs_max2 : CallS F E (qBi .max2) (fun xs H Q => ∃ i j, xs = [.int i, .int j] ∧ Q (.int (if j > i then j else i)) H) := by
  intro Z ow σ H s K xs vs Q R hx w k
  match xs, hx, w with
  | [.int i, .int j], hx, w =>
    obtain ⟨v, v', rfl, h1, h2⟩ := views2 hx
    cases view_int h1; cases view_int h2
    exact ⟨i, j, rfl, k _ _ _ _ _ w (rr_sc R (.int _) rfl) (Eff.refl _ _ _ _)⟩
theorem cs_min2 : CallS F E (qBi .min2) (fun xs H Q => ∃ i j, xs = [.int i, .int j] ∧ Q (.int (if j < i then j else i)) H) := by
  intro Z ow σ H s K xs vs Q R hx w k
  match xs, hx, w with
  | [.int i, .int j], hx, w =>
    obtain ⟨v, v', rfl, h1, h2⟩ := views2 hx
    cases view_int h1; cases view_int h2
    exact ⟨i, j, rfl, k _ _ _ _ _ w (rr_sc R (.int _) rfl) (Eff.refl _ _ _ _)⟩
theorem cs_max : CallS F E (qBi .max) (rMax F.G.K) := by
  intro Z ow σ H s K xs vs Q R hx w k
  match xs, hx, w with
  | [.lst xs], hx, w =>
    obtain ⟨v, rfl, h⟩ := views1 hx
    obtain ⟨a, us, rfl, e, l⟩ := h
    have w' : (match asInts xs with
      | some ns => 0 < ns.length ∧ ∀ m, m ∈ ns → (∀ y, y ∈ ns → y ≤ m) → K (.fz (.int m)) s
      | none => False) := w
    cases q : asInts xs with
    | none => rw [q] at w'; exact w'.elim
    | some bs =>
      rw [q] at w'
      rw [asInts_eq q] at l
      rw [fzl_ints l] at e
      exact ⟨a, bs, rfl, SqL.of e, w'.1, fun m h1 h2 => k _ _ _ _ _ (w'.2 m h1 h2) (rr_sc R (.int _) rfl) (Eff.refl _ _ _ _)⟩
theorem cs_min : CallS F E (qBi .min) (rMin F.G.K) := by
  intro Z ow σ H s K xs vs Q R hx w k
  match xs, hx, w with
  | [.lst xs], hx, w =>
    obtain ⟨v, rfl, h⟩ := views1 hx
    obtain ⟨a, us, rfl, e, l⟩ := h
    have w' : (match asInts xs with
      | some ns => 0 < ns.length ∧ ∀ m, m ∈ ns → (∀ y, y ∈ ns → m ≤ y) → K (.fz (.int m)) s
      | none => False) := w
    cases q : asInts xs with
    | none => rw [q] at w'; exact w'.elim
    | some bs =>
      rw [q] at w'
      rw [asInts_eq q] at l
      rw [fzl_ints l] at e
      exact ⟨a, bs, rfl, SqL.of e, w'.1, fun m h1 h2 => k _ _ _ _ _ (w'.2 m h1 h2) (rr_sc R (.int _) rfl) (Eff.refl _ _ _ _)⟩
theorem FzL.zip : ∀ {us : List V} {xs : List D}, FzL F.G A H us xs → ∀ z ∈ us.zip xs, Fz F.G A H z.1 z.2
  | _, _, .nil, z, h => by simp at h
  | _, _, .cons a b, z, h => by
    rw [List.zip_cons_cons] at h
    rcases List.mem_cons.mp h with rfl | h
    · exact a
    · exact FzL.zip b z h
theorem FzL.ofAll : ∀ {zs : List (V × D)}, (∀ z ∈ zs, Fz F.G A H z.1 z.2) → FzL F.G A H (zs.map (·.1)) (zs.map (·.2))
  | [], _ => .nil
  | z :: zs, h => .cons (h z List.mem_cons_self) (FzL.ofAll fun y hy => h y (List.mem_cons_of_mem _ hy))
theorem cs_sorted : CallS F E (qBi .sorted) (rSortB F.G.K) := by
  intro Z ow σ H s K xs vs Q R hx w k
  match xs, hx, w with
  | [.lst xs], hx, w =>
    obtain ⟨v, rfl, h⟩ := views1 hx
    obtain ⟨a, us, rfl, e, l⟩ := h
    obtain ⟨⟨hal, hs, hd⟩, w⟩ := w
    let f : V × D → V × PyData := fun z => (z.1, pd z.2)
    have e1 : ((us.zip xs).map f).map (·.1) = us := by
      rw [List.map_map]; exact List.map_fst_zip (by rw [l.length]; exact Nat.le_refl _)
    have e2 : ((us.zip xs).map f).map (·.2) = xs.map pd := by
      rw [List.map_map]
      have q : ((fun z : V × PyData => z.2) ∘ f) = pd ∘ Prod.snd := rfl
      rw [q, ← List.map_map, List.map_snd_zip (by rw [l.length]; exact Nat.le_refl _)]
    refine ⟨a, (us.zip xs).map f, rfl, by rw [e1]; exact SqL.of e, fun b hb => ?_, by rw [e2]; exact hal, by rw [e2]; exact hs, fun p hp => ?_⟩
    · obtain ⟨z, hz, rfl⟩ := List.mem_map.mp hb
      have hz2 : z.2 ∈ xs := by
        have q : z.2 ∈ (us.zip xs).map Prod.snd := List.mem_map.mpr ⟨z, hz, rfl⟩
        rw [List.map_snd_zip (by rw [l.length]; exact Nat.le_refl _)] at q
        exact q
      exact ⟨Fz.dp (hd _ hz2).1 (l.zip z hz), (hd _ hz2).2⟩
    · let zs := (us.zip xs).mergeSort fun p q => PySem.W.dataLe false pd p.2 q.2
      have m1 : ((us.zip xs).map f).mergeSort (PySem.W.dataLe false (·.2)) = zs.map f := (PySem.W.sort_maps f fun _ _ _ _ => rfl).symm
      have m2 : srtD xs = zs.map (·.2) := by
        rw [PySem.W.sort_maps (s := PySem.W.dataLe false pd) Prod.snd fun _ _ _ _ => rfl, List.map_snd_zip (by rw [l.length]; exact Nat.le_refl _)]
        rfl
      have m3 : (zs.map f).map (·.1) = zs.map (·.1) := by rw [List.map_map]; rfl
      rw [m1, m3]
      refine k _ _ _ _ _ w (rr_newL R hp ?_) (Eff.new hp)
      rw [m2]
      exact FzL.ofAll fun z hz => l.zip z (List.mem_mergeSort.mp hz)
def rIntA : List V → Hp → VK → Prop := fun xs H Q => ((∃ i, xs = [.int i] ∧ Q (.int i) H) ∨ ∃ k : Bool, xs = [.bl k] ∧ Q (.int (if k then 1 else 0)) H) ∨ ∃ a n, xs = [.str a] ∧ PySem.intText? a = some n ∧ a.length ≤ 640 ∧ Q (.int n) H
theorem cs_int : CallS F E (qBi .int) rIntA := by
  intro Z ow σ H s K xs vs Q R hx w k
  match xs, hx, w with
  | [.int i], hx, w =>
    obtain ⟨v, rfl, h⟩ := views1 hx
    cases view_int h
    exact .inl (.inl ⟨i, rfl, k _ _ _ _ _ w (rr_sc R (.int _) rfl) (Eff.refl _ _ _ _)⟩)
  | [.bl i], hx, w =>
    obtain ⟨v, rfl, h⟩ := views1 hx
    cases view_bl h
    exact .inl (.inr ⟨i, rfl, k _ _ _ _ _ w (rr_sc R (.int _) rfl) (Eff.refl _ _ _ _)⟩)
  | [.str x], hx, w =>
    obtain ⟨v, rfl, h⟩ := views1 hx
    cases view_str h
    have w' : (match PySem.intText? x with
      | some n => x.length ≤ 640 ∧ K (.fz (.int n)) s
      | none => False) := w
    cases q : PySem.intText? x with
    | none => rw [q] at w'; exact w'.elim
    | some n =>
      rw [q] at w'
      exact .inr ⟨x, n, rfl, q, w'.1, k _ _ _ _ _ w'.2 (rr_sc R (.int _) rfl) (Eff.refl _ _ _ _)⟩
def rStrA : List V → Hp → VK → Prop := fun xs H Q => (∃ i : Int, xs = [.int i] ∧ i.natAbs.log2 < 1920 ∧ Q (.str (toString i)) H) ∨ ∃ a, xs = [.str a] ∧ Q (.str a) H
theorem cs_str : CallS F E (qBi .str) rStrA := by
  intro Z ow σ H s K xs vs Q R hx w k
  match xs, hx, w with
  | [.int i], hx, w =>
    obtain ⟨v, rfl, h⟩ := views1 hx
    cases view_int h
    exact .inl ⟨i, rfl, w.1, k _ _ _ _ _ w.2 (rr_sc R (.str _) rfl) (Eff.refl _ _ _ _)⟩
  | [.str x], hx, w =>
    obtain ⟨v, rfl, h⟩ := views1 hx
    cases view_str h
    exact .inr ⟨x, rfl, k _ _ _ _ _ w (rr_sc R (.str _) rfl) (Eff.refl _ _ _ _)⟩
section
variable {es : List Expr} {is : List Ex} {p : Pos}
theorem sx_all (g : Gd X F E) (hm : X.mg "all" = none) (ha : AVX X F E Γ [a] [ia]) (hg : Gl X "all" := by rfl) (he : starEach [a] X.env = (false, eval a X.env) :: starEach [] X.env := by rfl) : SX X F E Γ (.Call (.Name "all" p) [a] [] pos) (.bi .all [ia]) :=
  sx_bi (r := rAll F.G.K) (by rw [← g.hK]; exact cr_all g.calm) cs_all hm (by decide +kernel) ha hg (by decide) (by decide) he rfl
theorem sx_any (g : Gd X F E) (hm : X.mg "any" = none) (ha : AVX X F E Γ [a] [ia]) (hg : Gl X "any" := by rfl) (he : starEach [a] X.env = (false, eval a X.env) :: starEach [] X.env := by rfl) : SX X F E Γ (.Call (.Name "any" p) [a] [] pos) (.bi .any [ia]) :=
  sx_bi (r := rAny F.G.K) (by rw [← g.hK]; exact cr_any g.calm) cs_any hm (by decide +kernel) ha hg (by decide) (by decide) he rfl
theorem sx_sum (g : Gd X F E) (hm : X.mg "sum" = none) (ha : AVX X F E Γ [a] [ia]) (hg : Gl X "sum" := by rfl) (he : starEach [a] X.env = (false, eval a X.env) :: starEach [] X.env := by rfl) : SX X F E Γ (.Call (.Name "sum" p) [a] [] pos) (.bi .sum [ia]) :=
  sx_bi (r := rSum F.G.K) (by rw [← g.hK]; exact cr_sum g.calm) cs_sum hm (by decide +kernel) ha hg (by decide) (by decide) he rfl
theorem sx_max (g : Gd X F E) (hm : X.mg "max" = none) (ha : AVX X F E Γ [a] [ia]) (hg : Gl X "max" := by rfl) (he : starEach [a] X.env = (false, eval a X.env) :: starEach [] X.env := by rfl) : SX X F E Γ (.Call (.Name "max" p) [a] [] pos) (.bi .max [ia]) :=
  sx_bi (r := rMax F.G.K) (by rw [← g.hK]; exact cr_max g.calm) cs_max hm (by decide +kernel) ha hg (by decide) (by decide) he rfl
theorem sx_min (g : Gd X F E) (hm : X.mg "min" = none) (ha : AVX X F E Γ [a] [ia]) (hg : Gl X "min" := by rfl) (he : starEach [a] X.env = (false, eval a X.env) :: starEach [] X.env := by rfl) : SX X F E Γ (.Call (.Name "min" p) [a] [] pos) (.bi .min [ia]) :=
  sx_bi (r := rMin F.G.K) (by rw [← g.hK]; exact cr_min g.calm) cs_min hm (by decide +kernel) ha hg (by decide) (by decide) he rfl
theorem sx_max2 (g : Gd X F E) (hm : X.mg "max" = none) (ha : AVX X F E Γ [a, b] [ia, ib]) (hg : Gl X "max" := by rfl) (he : starEach [a, b] X.env = (false, eval a X.env) :: starEach [b] X.env := by rfl) (hpl : (backTo pos (starEach [b] X.env)).any (·.1) = false := by rfl) : SX X F E Γ (.Call (.Name "max" p) [a, b] [] pos) (.bi .max2 [ia, ib]) :=
  sx_bi (call_max2 g.calm) cs_max2 hm (by decide +kernel) ha hg (by decide) (by decide) he hpl
theorem sx_min2 (g : Gd X F E) (hm : X.mg "min" = none) (ha : AVX X F E Γ [a, b] [ia, ib]) (hg : Gl X "min" := by rfl) (he : starEach [a, b] X.env = (false, eval a X.env) :: starEach [b] X.env := by rfl) (hpl : (backTo pos (starEach [b] X.env)).any (·.1) = false := by rfl) : SX X F E Γ (.Call (.Name "min" p) [a, b] [] pos) (.bi .min2 [ia, ib]) :=
  sx_bi (call_min2 g.calm) cs_min2 hm (by decide +kernel) ha hg (by decide) (by decide) he hpl
theorem sx_sorted (g : Gd X F E) (hm : X.mg "sorted" = none) (ha : AVX X F E Γ [a] [ia]) (hg : Gl X "sorted" := by rfl) (he : starEach [a] X.env = (false, eval a X.env) :: starEach [] X.env := by rfl) : SX X F E Γ (.Call (.Name "sorted" p) [a] [] pos) (.bi .sorted [ia]) :=
  sx_bi (r := rSortB F.G.K) (by rw [← g.hK]; exact cr_sortB g.u) cs_sorted hm (by decide +kernel) ha hg (by decide) (by decide) he rfl
theorem sx_toInt (g : Gd X F E) (hm : X.mg "int" = none) (ha : AVX X F E Γ [a] [ia]) (hg : Gl X "int" := by rfl) (he : starEach [a] X.env = (false, eval a X.env) :: starEach [] X.env := by rfl) : SX X F E Γ (.Call (.Name "int" p) [a] [] pos) (.bi .int [ia]) :=
  sx_ty (r := rIntA) (call_int1.or call_int_str) cs_int hm (by decide +kernel) ha hg (by decide) (by decide) he rfl
theorem sx_toStr (g : Gd X F E) (hm : X.mg "str" = none) (ha : AVX X F E Γ [a] [ia]) (hg : Gl X "str" := by rfl) (he : starEach [a] X.env = (false, eval a X.env) :: starEach [] X.env := by rfl) : SX X F E Γ (.Call (.Name "str" p) [a] [] pos) (.bi .str [ia]) :=
  sx_ty (r := rStrA) (call_str_int.or SkE.call_str_str) cs_str hm (by decide +kernel) ha hg (by decide) (by decide) he rfl
end
/-! isinstance with built-in kinds -/
theorem kit_tab : ∀ a ∈ kindsB, ∀ b ∈ kindsB, kitB a b = some (isTy (.b a) (.b b)) := by decide +kernel
theorem tyx_of {A : AS} {H : Hp} {v : V} {d : D} {K : PySem.W.Frag} (hKG : F.G.K = K) (h : View F A H v d) (hd : bltTy (tyD d) = true) : ∃ n, tyD d = .b n ∧ n ∈ kindsB ∧ TyX K H v (.type n) := by
  cases d with
  | non => cases view_non h; exact ⟨_, rfl, by decide, .base .non⟩
  | bl b => cases view_bl h; exact ⟨_, rfl, by decide, .base (.bl b)⟩
  | int b => cases view_int h; exact ⟨_, rfl, by decide, .base (.int b)⟩
  | str b => cases view_str h; exact ⟨_, rfl, by decide, .base (.str b)⟩
  | lst xs => obtain ⟨a, vs, rfl, e, l⟩ := h; exact ⟨_, rfl, by decide, .base (.lst e)⟩
  | tup xs =>
    cases (show Fz F.G A H v (.tup xs) from h) with
    | tup n e l => exact ⟨_, rfl, by decide, .base (.tup e)⟩
  | dct xs =>
    obtain ⟨a, vs, rfl, e, _, l⟩ := h
    rcases e with e | ⟨ob, e⟩
    · exact ⟨_, rfl, by decide, .base (.dK e)⟩
    · exact ⟨_, rfl, by decide, .fDict e⟩
  | kt xs =>
    cases (show Fz F.G A H v (.kt xs) from h) with
    | kt e l =>
      obtain ⟨o, its, n, e, c, _⟩ := e
      exact ⟨_, rfl, by decide, .kTuple (hKG ▸ e) c⟩
  | _ => cases hd
theorem sx_isi1 (g : Gd X F E) {T : String} {x : Str} {p pt : Pos} (hm : X.mg "isinstance" = none) (hmT : X.mg x = none) (hT : bootBuiltins x = some (.type T)) (hk : T ∈ kindsB) (ha : VX X F E Γ a ia) (hg : Gl X "isinstance" := by rfl) (hgT : Gl X x := by rfl)
    (hn : x ≠ "__name__" := by decide) (hd : (x == ("__debug__" : Str)) = false := by decide) (hs : starEach [a, .Name x pt] X.env = (false, eval a X.env) :: starEach [.Name x pt] X.env := by rfl) (hs2 : starEach [.Name x pt] X.env = (false, eval (.Name x pt) X.env) :: starEach [] X.env := by rfl)
    (hpl : (backTo pos (starEach [.Name x pt] X.env)).any (·.1) = false := by rfl) :
    SX X F E Γ (.Call (.Name "isinstance" p) [a, .Name x pt] [] pos) (.isi ia [.b T]) :=
  PEimp (pe_callB call_isi hg hm (by decide +kernel) (pa_cons ha (pa_cons (pe_bltn (v := .ty T) hgT hmT hT rfl hn hd) pa_nil hs2) hs) (by decide) (by decide) hs hpl) fun σ H Q h => by
    obtain ⟨Z, ow, s, K, R, hf, hq⟩ := h
    refine ⟨Z, ow, s, _, R, hf, fun r s1 v1 H1 ow1 k1 R1 o1 e1 => ?_⟩
    obtain ⟨d, w, hx⟩ := res_ok R1 o1 k1
    obtain ⟨n, e, hn, ty⟩ := tyx_of (K := X.K) g.hK.symm hx w.1.1
    have w2 := w.2
    rw [e] at w2
    refine ⟨v1, .ty T, .type n, .type T, _, rfl, .ty T, ty, kit_ty (kit_tab n hn T hk), ?_⟩
    have e3 : isTy (.b n) (.b T) = isAny (.b n) [.b T] := by simp [isAny]
    rw [e3]
    exact hq _ _ _ _ _ w2 (rr_sc R1 (.bl _) rfl |>.back e1.dm) e1
/-- isinstance(x, (S, T)) -/
theorem sx_isi2 (g : Gd X F E) {S T : String} {x y : Str} {p pt py px : Pos} {kk : Nat} (hm : X.mg "isinstance" = none) (hmS : X.mg x = none) (hS : bootBuiltins x = some (.type S)) (hkS : S ∈ kindsB) (hmT : X.mg y = none) (hT : bootBuiltins y = some (.type T)) (hkT : T ∈ kindsB) (ha : VX X F E Γ a ia) (hg : Gl X "isinstance" := by rfl) (hgS : Gl X x := by rfl) (hgT : Gl X y := by rfl)
    (hn : x ≠ "__name__" := by decide) (hd : (x == ("__debug__" : Str)) = false := by decide) (hn2 : y ≠ "__name__" := by decide) (hd2 : (y == ("__debug__" : Str)) = false := by decide)
    (hs : starEach [a, .Tuple [.Name x px, .Name y py] kk pt] X.env = (false, eval a X.env) :: starEach [.Tuple [.Name x px, .Name y py] kk pt] X.env := by rfl) (hs2 : starEach [.Tuple [.Name x px, .Name y py] kk pt] X.env = (false, eval (.Tuple [.Name x px, .Name y py] kk pt) X.env) :: starEach [] X.env := by rfl)
    (hpl : (backTo pos (starEach [.Tuple [.Name x px, .Name y py] kk pt] X.env)).any (·.1) = false := by rfl) :
    SX X F E Γ (.Call (.Name "isinstance" p) [a, .Tuple [.Name x px, .Name y py] kk pt] [] pos) (.isi ia [.b S, .b T]) :=
  PEimp (pe_callB call_isiT hg hm (by decide +kernel) (pa_cons ha (pa_cons (pe_tup (pa_cons (pe_bltn (v := .ty S) hgS hmS hS rfl hn hd) (pa_cons (pe_bltn (v := .ty T) hgT hmT hT rfl hn2 hd2) pa_nil))) pa_nil hs2) hs) (by decide) (by decide) hs hpl) fun σ H Q h => by
    obtain ⟨Z, ow, s, K, R, hf, hq⟩ := h
    refine ⟨Z, ow, s, _, R, hf, fun r s1 v1 H1 ow1 k1 R1 o1 e1 => ⟨(by show 2 ≤ sizeLine; decide), fun tp htp => ?_⟩⟩
    obtain ⟨d, w, hx⟩ := res_ok R1 o1 k1
    have hx2 : View F (Av' (add Z tp) ow1) (upd H1 tp (.tup [.ty S, .ty T])) v1 d := by
      cases d with
      | lst xs =>
        obtain ⟨a, vs, rfl, e, l⟩ := hx
        exact ⟨a, vs, rfl, by rw [upd_ne (ne_of_none e htp)]; exact e, l.tr (Keep.new (Z := Z) htp) fun q z => by rcases z with (z | rfl) | z <;> first | exact .inl (.inl z) | exact .inr htp | exact .inl (.inr z)⟩
      | dct xs =>
        obtain ⟨a, vs, rfl, e, ek, l⟩ := hx
        refine ⟨a, vs, rfl, ?_, ek, l.tr (Keep.new (Z := Z) htp) fun q z => by rcases z with (z | rfl) | z <;> first | exact .inl (.inl z) | exact .inr htp | exact .inl (.inr z)⟩
        rcases e with e | ⟨ob, e⟩
        · exact .inl (by rw [upd_ne (ne_of_none e htp)]; exact e)
        · exact .inr ⟨ob, by rw [upd_ne (ne_of_none e htp)]; exact e⟩
      | _ => exact Fz.tr (Keep.new (Z := Z) htp) (fun q z => by rcases z with (z | rfl) | z <;> first | exact .inl (.inl z) | exact .inr htp | exact .inl (.inr z)) hx
    obtain ⟨n, e, hn, ty⟩ := tyx_of (K := X.K) g.hK.symm hx2 w.1.1
    have w2 := w.2
    rw [e] at w2
    refine ⟨v1, tp, [.ty S, .ty T], .type n, [.type S, .type T], isAny (.b n) [.b S, .b T], rfl, upd_same, .cons (.ty S) (.cons (.ty T) .nil), ty, ?_, ?_⟩
    · refine kitAny_cons (kit_ty (kit_tab n hn S hkS)) (fun hb => kitAny_cons (kit_ty (kit_tab n hn T hkT)) (r := isAny (.b n) [.b S, .b T]) (fun hb2 => ?_) fun hb2 => ?_) fun hb => ?_
      · rw [kitAny_nil]; simp [isAny, hb, hb2]
      · simp [isAny, hb2]
      · simp [isAny, hb]
    · obtain ⟨nm, n0, nz⟩ := R1.new0 htp
      exact hq _ _ _ _ _ w2 (rr_sc (R1.alloc0 htp) (.bl _) rfl |>.back (e1.trans (Eff.new (F := F) (Z := Z) (ow := ow1) htp)).dm) (e1.trans (Eff.new htp))
end
end PP

set_option Elab.async false
set_option linter.all false
set_option maxRecDepth 100000
set_option maxHeartbeats 2000000
namespace PP
open PySem L2
/-! ### what a loop walks -/
structure SizeOk (K : PySem.W.Frag) (H : Hp) : Prop where
  l : ∀ a xs, SqL K H a xs → xs.length ≤ sizeLine
  t : ∀ a xs, SqT K H a xs → xs.length ≤ sizeLine
  d : ∀ a kvs, Rd H a (.dK kvs) → kvs.length ≤ sizeLine
  dt : ∀ a kvs, Rd H a (.dT kvs) → kvs.length ≤ sizeLine
section
variable {X : Cx}
theorem sizeOk {pins : List (Addr × Obj)} {σ : L2.St} {H : Hp} {s : Shared} (I : Inv X pins σ H s) : SizeOk X.K H :=
  ⟨fun a xs h => let ⟨_, _, _, z⟩ := I.list h; z, fun a xs h => let ⟨_, _, _, z⟩ := I.tuple h; z, fun a kvs h => (dk_rd I.hok h).1, fun a kvs h => (dt_rd I.hok h).1⟩
theorem pi_sz {tg e : Expr} {wi : TI} (h : PI X tg e wi) : PI X tg e (fun σ H R => wi σ H fun J H1 => SizeOk X.K H1 → R J H1) := ⟨fun pins s σ H R I w =>
  thn (h.run pins s σ H _ I w) fun v s1 hv => thn hv fun u s2 ⟨it, fp, tn, J, H', a, b, c, d, e, f⟩ => ⟨it, fp, tn, J, H', a, b, c, d, e, f (sizeOk b)⟩⟩
theorem PIimp {tg e : Expr} {t t' : TI} (h : PI X tg e t) (i : ∀ σ H R, t' σ H R → t σ H R) : PI X tg e t' := ⟨fun p s σ H R I w => h.run p s σ H R I (i σ H R w)⟩
def iAny (K : PySem.W.Frag) (te : TE) : TI := fun σ H R => te σ H fun x H1 => (∃ a xs, x = .ref a ∧ SqL K H1 a xs ∧ R (Itl K a) H1) ∨ (∃ a xs, x = .ref a ∧ SqT K H1 a xs ∧ R (Itt K a) H1) ∨ (∃ z, x = .str z ∧ R (Its z) H1) ∨
  (∃ d kvs, x = .ref d ∧ H1 d = some (.dK kvs) ∧ ∀ o, R (Itk d o kvs) (upd H1 d (.frz o (.dK kvs)))) ∨ (∃ d o kvs, x = .ref d ∧ H1 d = some (.frz o (.dK kvs)) ∧ R (Itk d o kvs) H1) ∨
  (∃ d kvs, x = .ref d ∧ H1 d = some (.dT kvs) ∧ ∀ o, R (Itkt d o kvs) (upd H1 d (.frz o (.dT kvs)))) ∨ (∃ d o kvs, x = .ref d ∧ H1 d = some (.frz o (.dT kvs)) ∧ R (Itkt d o kvs) H1)
theorem pi_any {tg e : Expr} {te : TE} (he : PE X e te) : PI X tg e (iAny X.K te) := by
  refine ⟨fun pins s σ H R I h => ?_⟩
  refine thn (he.run pins s σ H _ I h) fun v s1 ⟨x, H1, I1, r1, q1⟩ => ?_
  have lockK : ∀ (d : Addr) (o : Obj) (kvs : List (Key × V)) (H2 : Hp), Inv X pins σ H2 s1 → H2 d = some (.frz o (.dK kvs)) → R (Itk d o kvs) H2 → wpAny (model X.prog X.w) X.A (pyIter (.ref d)) (PIE X pins σ tg R) X.xe s1 := by
    intro d o kvs H2 I2 hd q
    obtain ⟨hs, hgd, hx, es, ep, vs, hdt, hsz, kv, hm⟩ := I2.frzK hd
    refine iter_keys hs hgd hx hdt (pi_one (tk := s1.toks) I2 _ (turn_keys _ hdt) ⟨_, Heap.get?_push_size _ rfl, rfl, ?_⟩ q)
    rw [hsz] <;> rfl
  have lockT : ∀ (d : Addr) (o : Obj) (kvs : List (List Key × V)) (H2 : Hp), Inv X pins σ H2 s1 → H2 d = some (.frz o (.dT kvs)) → R (Itkt d o kvs) H2 → wpAny (model X.prog X.w) X.A (pyIter (.ref d)) (PIE X pins σ tg R) X.xe s1 := by
    intro d o kvs H2 I2 hd q
    obtain ⟨hs, hgd, hx, es, ep, hdt, hsz, ent⟩ := I2.frzT hd
    refine iter_keys hs hgd hx hdt (pi_one (tk := s1.toks) I2 _ (turn_keysT _ hdt) ⟨_, Heap.get?_push_size _ rfl, rfl, ?_⟩ q)
    rw [hsz] <;> rfl
  rcases q1 with ⟨a, xs, e, hq, q⟩ | ⟨a, xs, e, hq, q⟩ | ⟨z, e, q⟩ | ⟨d, kvs, e, hd, q⟩ | ⟨d, o, kvs, e, hd, q⟩ | ⟨d, kvs, e, hd, q⟩ | ⟨d, o, kvs, e, hd, q⟩
  · subst e
    cases r1
    obtain ⟨its, rv, p, hz⟩ := I1.list hq
    refine wpAny_pyIter_list p.isList ?_
    refine ⟨s1.heap.objs.size, [s1.heap.objs.size], _, _, H1, rfl, I1.kept (t' := s1.toks) fun b o e => Heap.get?_push_of_some _ e, turn_list a _, ⟨_, Heap.get?_push_size _ rfl, rfl, rfl⟩, fun b hb => ?_, q⟩
    have e : b = s1.heap.objs.size := by simpa using hb
    subst e
    exact I1.fpOk (Nat.le_refl _) (I1.hok.fresh (Nat.le_refl _))
  · subst e
    cases r1
    obtain ⟨its, rv, p, hz⟩ := I1.tuple hq
    refine wpAny_pyIter_tuple (show s1.heap.IsTuple a its.toArray from p) ?_
    refine ⟨s1.heap.objs.size, [s1.heap.objs.size], _, _, H1, rfl, I1.kept (t' := s1.toks) fun b o e => Heap.get?_push_of_some _ e, turn_tuple a _, ⟨_, Heap.get?_push_size _ rfl, rfl, rfl⟩, fun b hb => ?_, q⟩
    have e : b = s1.heap.objs.size := by simpa using hb
    subst e
    exact I1.fpOk (Nat.le_refl _) (I1.hok.fresh (Nat.le_refl _))
  · subst e
    obtain ⟨t, rfl⟩ := r1
    cases ha : z.cps.all (· < 128)
    · exact wpAny_pyIter_wide ha (pi_one (tk := s1.toks) I1 _ (turn_str _ z t "str_iterator" (.inr rfl)) ⟨_, Heap.get?_push_size _ rfl, rfl, rfl⟩ q)
    · exact wpAny_pyIter_ascii ha (pi_one (tk := s1.toks) I1 _ (turn_str _ z t "str_ascii_iterator" (.inl rfl)) ⟨_, Heap.get?_push_size _ rfl, rfl, rfl⟩ q)
  · subst e
    cases r1
    obtain ⟨od, I2⟩ := I1.lock hd trivial
    exact lockK d od kvs _ I2 upd_same (q od)
  · subst e
    cases r1
    exact lockK d o kvs H1 I1 hd q
  · subst e
    cases r1
    obtain ⟨od, I2⟩ := I1.lock hd trivial
    exact lockT d od kvs _ I2 upd_same (q od)
  · subst e
    cases r1
    exact lockT d o kvs H1 I1 hd q
end
/-- J walks over the data xs, from the heap H on -/
structure Src (F : Fm) (Z : AS) (ow : Ow) (H : Hp) (J : It) (xs : List D) : Prop where
  len : xs.length ≤ sizeLine
  go : ∀ i ow1 H1, i < xs.length → Eff F Z ow H ow1 H1 → J.go i H1
  stop : ∀ ow1 H1, Eff F Z ow H ow1 H1 → J.stop xs.length H1
  yld : ∀ i d Y σ s ow1 H1 v H2, xs[i]? = some d → Eff F Z ow H ow1 H1 → (∀ a, Y a → Z a ∨ H a = none) → Rep F Y ow1 σ H1 s → J.yld i H1 v H2 → Rep F Y ow1 σ H2 s ∧ Eff F Y ow1 H1 ow1 H2 ∧ Fz F.G (Av' Y ow1) H2 v d
def LI (F : Fm) (E : XC) (f : M (List D)) : TI := fun σ H R => ∃ Z ow s K, Rep F Z ow σ H s ∧ f s K E ∧ ∀ xs s' J H' ow', K xs s' → Rep F Z ow' σ H' s' → Eff F Z ow H ow' H' → Src F Z ow' H' J xs → R J H'
section
variable {F : Fm} {E : XC} {Z : AS} {ow ow1 : Ow} {σ : L2.St} {H H1 : Hp} {s : S}
theorem Rep.at (R : Rep F Z ow σ H s) (e : Eff F Z ow H ow1 H1) {a : Addr} {o : HO} (h : H a = some o) (n : ¬ Av' Z ow a) (hl : ∀ o', Le o o' → o' = o) : H1 a = some o :=
  e.k.at h (fun z => n (z.elim (R.mdz a) fun q => .inr q)) hl
theorem Rep.fzlZ {Y : AS} (R : Rep F Z ow σ H s) (e : Eff F Z ow H ow1 H1) (y : ∀ a, Y a → Z a ∨ H a = none) {v : List V} {d : List D} (h : FzL F.G (Av' Z ow) H v d) : FzL F.G (Av' Y ow1) H1 v d :=
  h.tr (e.k.mono (fun a z => z.elim (R.mdz a) fun q => .inr q) fun _ z => z) fun a z => z.elim (fun z => (y a z).imp .inl id) fun ⟨i, q⟩ => (e.o i a q).imp .inr id
theorem src_list {a : Addr} {vs : List V} {xs : List D} (R : Rep F Z ow σ H s) (n : ¬ Av' Z ow a) (h : H a = some (.lst vs)) (l : FzL F.G (Av' Z ow) H vs xs) (hz : vs.length ≤ sizeLine) : Src F Z ow H (Itl F.G.K a) xs := by
  refine ⟨by rw [← l.length]; exact hz, fun i ow1 H1 hi e => ?_, fun ow1 H1 e => ?_, fun i d Y σ1 s1 ow1 H1 v H2 hd e hY R1 hy => ?_⟩
  · exact ⟨vs, vs[i]'(by rw [l.length]; exact hi), SqL.of (R.at e h n le_lst), by simp [l.length, hi]⟩
  · exact ⟨vs, SqL.of (R.at e h n le_lst), by rw [l.length]; exact Nat.le_refl _⟩
  · obtain ⟨rfl, hv⟩ := hy
    obtain ⟨v', hv', z⟩ := (R.fzlZ e hY l).getD hd
    have := hv vs (SqL.of (R.at e h n le_lst))
    rw [hv'] at this
    cases this
    exact ⟨R1, Eff.refl _ _ _ _, z⟩
theorem src_tup {a : Addr} {vs : List V} {xs : List D} (R : Rep F Z ow σ H s) (n : ¬ Av' Z ow a) (h : H a = some (.tup vs)) (l : FzL F.G (Av' Z ow) H vs xs) (hz : vs.length ≤ sizeLine) : Src F Z ow H (Itt F.G.K a) xs := by
  refine ⟨by rw [← l.length]; exact hz, fun i ow1 H1 hi e => ?_, fun ow1 H1 e => ?_, fun i d Y σ1 s1 ow1 H1 v H2 hd e hY R1 hy => ?_⟩
  · exact ⟨vs, vs[i]'(by rw [l.length]; exact hi), SqT.of (R.at e h n le_tup), by simp [l.length, hi]⟩
  · exact ⟨vs, SqT.of (R.at e h n le_tup), by rw [l.length]; exact Nat.le_refl _⟩
  · obtain ⟨rfl, hv⟩ := hy
    obtain ⟨v', hv', z⟩ := (R.fzlZ e hY l).getD hd
    have := hv vs (SqT.of (R.at e h n le_tup))
    rw [hv'] at this
    cases this
    exact ⟨R1, Eff.refl _ _ _ _, z⟩
theorem src_str {z : Str} (hz : z.length ≤ sizeLine) : Src F Z ow H (Its z) (z.cps.toList.map fun c => .str ⟨#[c]⟩) := by
  have el : (z.cps.toList.map fun c => D.str ⟨#[c]⟩).length = z.cps.size := by simp
  refine ⟨by rw [el]; exact hz, fun i ow1 H1 hi e => by rw [el] at hi; exact hi, fun ow1 H1 e => by rw [el]; exact Nat.le_refl _, fun i d Y σ1 s1 ow1 H1 v H2 hd e hY R1 hy => ?_⟩
  obtain ⟨rfl, c, hc, rfl⟩ := hy
  have hd' : d = .str ⟨#[c]⟩ := by
    rw [List.getElem?_map, Array.getElem?_toList, hc] at hd
    exact (Option.some.inj hd).symm
  subst hd'
  exact ⟨R1, Eff.refl _ _ _ _, .str _⟩
theorem rangeD_len (lo : Int) : ∀ n : Nat, (rangeD lo n).length = n
  | 0 => rfl
  | n + 1 => by rw [rangeD, List.length_cons, rangeD_len (lo + 1) n]
theorem rangeD_get : ∀ (n i : Nat) (lo : Int) (d : D), (rangeD lo n)[i]? = some d → d = .int (lo + i)
  | 0, _, _, _, h => by simp [rangeD] at h
  | n + 1, 0, lo, d, h => by
    simp [rangeD] at h
    subst h; simp
  | n + 1, i + 1, lo, d, h => by
    have h' : (rangeD (lo + 1) n)[i]? = some d := by simpa [rangeD] using h
    rw [rangeD_get n i (lo + 1) d h']
    congr 1
    push_cast
    omega
theorem src_range {lo : Int} {n : Nat} (hz : n ≤ sizeLine) : Src F Z ow H (Itr lo n) (rangeD lo n) := by
  refine ⟨by rw [rangeD_len]; exact hz, fun i ow1 H1 hi e => by rw [rangeD_len] at hi; exact hi, fun ow1 H1 e => by rw [rangeD_len]; exact Nat.le_refl _, fun i d Y σ1 s1 ow1 H1 v H2 hd e hY R1 hy => ?_⟩
  obtain ⟨rfl, rfl⟩ := hy
  rw [rangeD_get n i lo d hd]
  exact ⟨R1, Eff.refl _ _ _ _, .int _⟩
theorem enumD_len : ∀ (xs : List D) (n : Nat), (enumD n xs).length = xs.length
  | [], _ => rfl
  | _ :: xs, n => by rw [enumD, List.length_cons, List.length_cons, enumD_len xs]
theorem enumD_get : ∀ (xs : List D) (n i : Nat) (d : D), (enumD n xs)[i]? = some d → ∃ x, xs[i]? = some x ∧ d = .tup [.int ((n + i : Nat) : Int), x]
  | [], _, _, _, h => by simp [enumD] at h
  | x :: xs, n, 0, d, h => by
    simp [enumD] at h
    subst h; exact ⟨x, rfl, by simp⟩
  | x :: xs, n, i + 1, d, h => by
    obtain ⟨y, h1, h2⟩ := enumD_get xs (n + 1) i d (by simpa [enumD] using h)
    exact ⟨y, by simpa using h1, by rw [h2]; congr 3; congr 1; omega⟩
/-- a new pair -/
theorem src_pair {T : Addr} {v w : V} {a b : D} (R : Rep F Z ow σ H s) (hT : H T = none) (ha : Fz F.G (Av' Z ow) H v a) (hb : Fz F.G (Av' Z ow) H w b) :
    Rep F Z ow σ (upd H T (.tup [v, w])) s ∧ Eff F Z ow H ow (upd H T (.tup [v, w])) ∧ Fz F.G (Av' Z ow) (upd H T (.tup [v, w])) (.ref T) (.tup [a, b]) := by
  have r := rr_newT R hT (.cons ha (.cons hb .nil))
  exact ⟨r.1, Eff.new hT, r.2⟩
theorem src_enum {a : Addr} {vs : List V} {xs : List D} (R : Rep F Z ow σ H s) (n : ¬ Av' Z ow a) (h : H a = some (.lst vs)) (l : FzL F.G (Av' Z ow) H vs xs) (hz : vs.length ≤ sizeLine) : Src F Z ow H (Ite F.G.K a) (enumD 0 xs) := by
  refine ⟨by rw [enumD_len, ← l.length]; exact hz, fun i ow1 H1 hi e => ?_, fun ow1 H1 e => ?_, fun i d Y σ1 s1 ow1 H1 v H2 hd e hY R1 hy => ?_⟩
  · rw [enumD_len] at hi
    exact ⟨vs, vs[i]'(by rw [l.length]; exact hi), SqL.of (R.at e h n le_lst), by simp [l.length, hi]⟩
  · exact ⟨vs, SqL.of (R.at e h n le_lst), by rw [enumD_len, l.length]; exact Nat.le_refl _⟩
  · obtain ⟨T, x, rfl, hT, rfl, hv⟩ := hy
    obtain ⟨y, hy, rfl⟩ := enumD_get xs 0 i d hd
    obtain ⟨v', hv', z⟩ := (R.fzlZ e hY l).getD hy
    have := hv vs (SqL.of (R.at e h n le_lst))
    rw [hv'] at this
    cases this
    rw [Nat.zero_add]
    exact src_pair R1 hT (.int _) z
theorem zipD_len : ∀ (xs ys : List D), (zipD xs ys).length = min xs.length ys.length
  | [], _ => by simp [zipD]
  | _ :: _, [] => by simp [zipD]
  | x :: xs, y :: ys => by simp [zipD, zipD_len xs ys, Nat.add_min_add_right]
theorem zipD_get : ∀ (xs ys : List D) (i : Nat) (d : D), (zipD xs ys)[i]? = some d → ∃ x y, xs[i]? = some x ∧ ys[i]? = some y ∧ d = .tup [x, y]
  | [], _, _, _, h => by simp [zipD] at h
  | _ :: _, [], _, _, h => by simp [zipD] at h
  | x :: xs, y :: ys, 0, d, h => by
    simp [zipD] at h
    subst h; exact ⟨x, y, rfl, rfl, rfl⟩
  | x :: xs, y :: ys, i + 1, d, h => by
    obtain ⟨a, b, h1, h2, h3⟩ := zipD_get xs ys i d (by simpa [zipD] using h)
    exact ⟨a, b, by simpa using h1, by simpa using h2, h3⟩
theorem src_zip {a b : Addr} {vs ws : List V} {xs ys : List D} (R : Rep F Z ow σ H s) (n : ¬ Av' Z ow a) (h : H a = some (.lst vs)) (l : FzL F.G (Av' Z ow) H vs xs) (hz : vs.length ≤ sizeLine)
    (n2 : ¬ Av' Z ow b) (h2 : H b = some (.lst ws)) (l2 : FzL F.G (Av' Z ow) H ws ys) : Src F Z ow H (Itz F.G.K a b) (zipD xs ys) := by
  refine ⟨by rw [zipD_len, ← l.length]; exact Nat.le_trans (Nat.min_le_left _ _) hz, fun i ow1 H1 hi e => ?_, fun ow1 H1 e => ?_, fun i d Y σ1 s1 ow1 H1 v H2 hd e hY R1 hy => ?_⟩
  · rw [zipD_len] at hi
    have h3 : i < vs.length := by rw [l.length]; omega
    have h4 : i < ws.length := by rw [l2.length]; omega
    exact ⟨vs, ws, vs[i], ws[i], SqL.of (R.at e h n le_lst), SqL.of (R.at e h2 n2 le_lst), by simp [h3], by simp [h4]⟩
  · refine ⟨vs, ws, SqL.of (R.at e h n le_lst), SqL.of (R.at e h2 n2 le_lst), ?_⟩
    rw [zipD_len, l.length, l2.length]; omega
  · obtain ⟨T, x, y, rfl, hT, rfl, hv, hw⟩ := hy
    obtain ⟨x', y', hx, hy, rfl⟩ := zipD_get xs ys i d hd
    obtain ⟨v', hv', z⟩ := (R.fzlZ e hY l).getD hx
    obtain ⟨w', hw', z'⟩ := (R.fzlZ e hY l2).getD hy
    have q := hv vs (SqL.of (R.at e h n le_lst))
    rw [hv'] at q
    cases q
    have q := hw ws (SqL.of (R.at e h2 n2 le_lst))
    rw [hw'] at q
    cases q
    exact src_pair R1 hT z z'
end
end PP

set_option Elab.async false
set_option linter.all false
set_option maxRecDepth 100000
set_option maxHeartbeats 2000000
/-! enumerate of a tuple -/
namespace PySem
theorem meets_enumerate_newTp (l : Addr) (items : Array Value) (n : Nat) (dct : Option Addr) (sl : Array (Option Value)) :
    Meets (Builtin.«enumerate.__new__» ⟨[.type "enumerate", .ref l], []⟩) (fun _ R s => s.heap.get? l = some { cls := .type "tuple", dict := dct, data := .seq items n, slots := sl } ∧
      R (.ok (.ret (.ref (s.heap.push { cls := .type "tuple_iterator", data := .fields #[.ref l, .int 0 0] }).objs.size)))
        { s with heap := (s.heap.push { cls := .type "tuple_iterator", data := .fields #[.ref l, .int 0 0] }).push { cls := .type "enumerate", data := .fields #[.none, .bool false, .ref s.heap.objs.size, rawInt 0, .none, .none] } }) :=
  .of_wp fun prog w A R s h => by
    obtain ⟨hp, g, d, tk, os⟩ := s; obtain ⟨hl, h⟩ := h
    have hsub := sub_enumerate
    have hL : Heap.IsTuple (Shared.heap ⟨hp, g, d, tk, os⟩) l items := ⟨_, hl, rfl, n, rfl⟩
    wp_walk using AutoSeq1.wpAny_loadPart' hl
    refine wpAny_stack_any fun st => wpAny_pure ?_
    split
    · rename_i c _ _ _ _ _
      cases (c == Value.type "enumerate")
      · wp_walk using AutoSeq1.wpAny_loadPart' hl, wpAny_pyIter_tuple hL
        exact ⟨_, rfl, h⟩
      · wp_walk using AutoSeq1.wpAny_loadPart' hl, wpAny_pyIter_tuple hL
        exact ⟨_, rfl, h⟩
    · wp_walk using AutoSeq1.wpAny_loadPart' hl, wpAny_pyIter_tuple hL
      exact ⟨_, rfl, h⟩
theorem call_enumerate_tuple {prog : Program} {w : World} {A : Around} {E : Value → Shared → Prop} {s : Shared} {l : Addr} {items : Array Value} {Q : Value → Shared → Prop} (hL : s.heap.IsTuple l items)
    (h : ∀ h', IsEnum h' (s.heap.objs.size + 1) s.heap.objs.size 0 .none → h'.IsTupleIter s.heap.objs.size l 0 → h'.objs.size = s.heap.objs.size + 2 →
      (∀ b o, s.heap.get? b = some o → h'.get? b = some o) → Q (.ref (s.heap.objs.size + 1)) { s with heap := h' }) :
    wpAny (model prog w) A (call (.type "enumerate") [.ref l]) Q E s := by
  obtain ⟨⟨c, dct, dt, sl⟩, hl, hc, n, hd⟩ := hL
  replace hc : c = .type "tuple" := hc
  replace hd : dt = .seq items n := hd
  subst hc hd
  refine callType_new F.called_enumerate (by decide) (F.typeCall_enumerate_1 _) (F.newCall_enumerate_1 _) (fun obj => F.args_object_init_2 obj _) F.entry_enumerate_new
    (meets_enumerate_newTp l items n dct sl) ⟨hl, ?_⟩
  have hz : (s.heap.push { cls := .type "tuple_iterator", data := .fields #[.ref l, .int 0 0] }).objs.size = s.heap.objs.size + 1 := Heap.size_push ..
  show _ ∧ _
  rw [hz]
  have he : IsEnum ((s.heap.push { cls := .type "tuple_iterator", data := .fields #[.ref l, .int 0 0] }).push
      { cls := .type "enumerate", data := .fields #[.none, .bool false, .ref s.heap.objs.size, rawInt 0, .none, .none] }) (s.heap.objs.size + 1) s.heap.objs.size 0 .none := by
    have := Heap.get?_push_size (s.heap.push { cls := .type "tuple_iterator", data := .fields #[.ref l, .int 0 0] })
      (o := { cls := .type "enumerate", data := .fields #[.none, .bool false, .ref s.heap.objs.size, rawInt 0, .none, .none] }) rfl
    rw [hz] at this; exact this
  refine ⟨⟨_, he, rfl⟩, h _ he ⟨_, Heap.get?_push_of_some _ (Heap.get?_push_size _ rfl), rfl, rfl⟩ (by rw [Heap.size_push, hz]) fun b o x => Heap.get?_push_of_some _ (Heap.get?_push_of_some _ x)⟩
end PySem
namespace PP
open PySem PySem.Spec PyProof.Rows L2
def IteT (K : PySem.W.Frag) (a : Addr) : It :=
  ⟨fun i H => ∃ (xs : List V) (x : V), SqT K H a xs ∧ xs[i]? = some x, fun i H v H' => ∃ T x, v = .ref T ∧ H T = none ∧ H' = upd H T (.tup [.int (i : Nat), x]) ∧ ∀ xs, SqT K H a xs → xs[i]? = some x, fun i H => ∃ xs : List V, SqT K H a xs ∧ xs.length = i⟩
theorem turn_enumT {P : Program} {w : World} {K : PySem.W.Frag} {elts : List Expr} {kk : Nat} {tpos : Pos} (a e it : Addr) :
    Turn P w K (.Tuple elts kk tpos) (IteT K a) [e, it] e (fun i h => (∃ old, IsEnum h e it ((i : Nat) : Int) old) ∧ h.IsTupleIter it a i ∧ e ≠ it ∧ a ≠ it ∧ a ≠ e) where
  mem := by simp
  obj := fun i h st b hb => by
    obtain ⟨⟨old, he⟩, ⟨o, ho, hc, hd⟩, _⟩ := st
    have e' : b = e ∨ b = it := by simpa using hb
    rcases e' with z | z
    · rw [z]; exact ⟨_, he, fun v q => nomatch q⟩
    · rw [z]; exact ⟨o, ho, fun v q => by rw [hd] at q; cases q⟩
  keep := fun i h h' st k => let ⟨⟨old, he⟩, hi, hne⟩ := st; ⟨⟨old, k e (by simp) _ he⟩, hi.at fun o q => k it (by simp) o q, hne⟩
  item := by
    intro X hP hw hK hc i pins s σ H E I hf st hg
    subst hP hw hK
    obtain ⟨⟨old, he⟩, hit, hne, hai, hae⟩ := st
    obtain ⟨xs, x, hq, hx⟩ := hg
    obtain ⟨its, rv, p, hz⟩ := I.tuple hq
    obtain ⟨u, hu, ru⟩ := rv.get hx
    have hel : e < s.heap.objs.size := Heap.lt_size he
    have hil : it < s.heap.objs.size := by obtain ⟨_, q, _⟩ := hit; exact Heap.lt_size q
    have hlt : i < its.toArray.size := by simpa using (List.getElem?_eq_some_iff.mp hu).1
    refine wpAny_pyNext_enum_itemD (Draws.tuple (show X.A.in1.handled = none from I.ok.hd hc) it a hai its.toArray) he ⟨hit, p⟩ hlt hne (by simp [hne, Ne.symm hae]) fun u' h' tk hu' ho hit' hT hsz hk => ?_
    have eu : u' = u := by
      have : its[i]? = some u' := by simpa using hu'
      rw [hu] at this; exact (Option.some.inj this).symm
    subst eu
    refine ⟨_, rfl, wpAny_letOwnedTupleGo_enum (s := { s with heap := h', toks := tk + 1 }) ho fun h'' he' sb => ?_⟩
    have hT2 : h''.get? s.heap.objs.size = some { cls := .type "tuple", data := .seq #[.int i tk, u'] } := (sb.2 _ (Nat.ne_of_gt hel)).trans hT
    have new : ObjOk X.prog X.w (upd H s.heap.objs.size (.tup [.int (i : Nat), x])) h'' s.heap.objs.size (.tup [.int (i : Nat), x]) :=
      ⟨by show 2 ≤ sizeLine; decide, [.int i tk, u'], .cons ⟨_, rfl⟩ (.cons ru .nil), ⟨_, hT2, rfl, _, rfl⟩⟩
    have I1 : Inv X pins σ (upd H s.heap.objs.size (.tup [.int (i : Nat), x])) { s with heap := h'', toks := tk + 1 } :=
      I.turnedNew (ch := [e, it]) (fun b ob hb q => (sb.2 b (fun z => hb (by simp [z]))).trans (hk b ob (fun z => hb (by simp [z])) (fun z => hb (by simp [z])) q)) hf (Nat.le_refl _) new
    refine ⟨.ref s.heap.objs.size, _, I1, rfl, ⟨_, x, rfl, I.hok.fresh (Nat.le_refl _), rfl, fun ys hy => by rw [I.tuple_inj hy hq]; exact hx⟩, ⟨⟨u', ?_⟩, hit'.1.at fun o q => (sb.2 it (Ne.symm hne)).trans q, hne, hai, hae⟩, fun b hb => ?_⟩
    · have e1 : ((i + 1 : Nat) : Int) = (i : Int) + 1 := by omega
      rw [e1]; exact he'
    · have hb' : b < s.heap.objs.size := by
        have e' : b = e ∨ b = it := by simpa using hb
        rcases e' with z | z
        · rw [z]; exact hel
        · rw [z]; exact hil
      rw [upd_ne (Nat.ne_of_lt hb')]
      exact (hf b hb).1
  done := by
    intro X hP hw hK hc i pins s σ H E I hf st hg
    subst hP hw hK
    obtain ⟨⟨old, he⟩, hit, hne, hai, hae⟩ := st
    obtain ⟨xs, hq, hx⟩ := hg
    obtain ⟨its, rv, p, hz⟩ := I.tuple hq
    obtain ⟨f0, f1, f2, f3, f4, f5⟩ := hf it (by simp)
    have hl : its.toArray.size = i := by simp [← hx, rv.length]
    subst hl
    exact wpAny_pyNext_enum_endD (Draws.tuple (show X.A.in1.handled = none from I.ok.hd hc) it a hai its.toArray) he ⟨hit, p⟩ fun h' eb => ⟨rfl, I.turned (t' := s.toks) (fun b o hb q => eb b o hb q) f0 f1 f3 f4 f5⟩
  self := fun A i s Q E st h => let ⟨⟨_, he⟩, _⟩ := st; wpAny_pyIter_enum he h
def iEnumA (K : PySem.W.Frag) (ta : TA) : TI := fun σ H R => ta σ H fun vs H1 => (∃ a xs, vs = [.ref a] ∧ SqL K H1 a xs ∧ R (Ite K a) H1) ∨ (∃ a xs, vs = [.ref a] ∧ SqT K H1 a xs ∧ R (IteT K a) H1)
theorem pi_enumA {X : Cx} {e : Expr} {ta : TA} {p pos tpos : Pos} {elts : List Expr} {kk : Nat} (hg : Gl X "enumerate") (hm : X.mg "enumerate" = none) (ha : PA X [e] ta) (hs : starEach [e] X.env = [(false, eval e X.env)] := by rfl) :
    PI X (.Tuple elts kk tpos) (.Call (.Name "enumerate" p) [e] [] pos) (iEnumA X.K ta) := by
  refine ⟨fun pins s σ H R I h => ?_⟩
  refine Call_ (ld_blt I hg hm boot_enumerate (PyProof.Rows.callWith_type1 (thn (ha.run pos pins s σ H _ I h) fun us s1 ⟨vs, H1, I1, r1, q1⟩ => ?_) hs rfl))
  rcases q1 with ⟨a, xs, ex, hq, q⟩ | ⟨a, xs, ex, hq, q⟩
  · subst ex
    cases r1 with
    | cons r rr =>
      cases rr
      cases r
      obtain ⟨its, rv, p', hz⟩ := I1.list hq
      refine call_enumerate_list p'.isList fun h' he hit hsz hk => wpAny_pyIter_enum he ?_
      have I2 : Inv X pins σ H1 { s1 with heap := h' } := I1.kept (t' := s1.toks) hk
      refine ⟨s1.heap.objs.size + 1, [s1.heap.objs.size + 1, s1.heap.objs.size], _, _, H1, rfl, I2, turn_enum a (s1.heap.objs.size + 1) s1.heap.objs.size, ⟨⟨.none, he⟩, hit, Nat.succ_ne_self _⟩, fun b hb => ?_, q⟩
      have e' : b = s1.heap.objs.size + 1 ∨ b = s1.heap.objs.size := by simpa using hb
      have hle : s1.heap.objs.size ≤ b := by
        rcases e' with z | z
        · rw [z]; exact Nat.le_add_right _ _
        · rw [z]; exact Nat.le_refl _
      exact I1.fpOk hle (I1.hok.fresh hle)
  · subst ex
    cases r1 with
    | cons r rr =>
      cases rr
      cases r
      obtain ⟨its, rv, p', hz⟩ := I1.tuple hq
      have hal : a < s1.heap.objs.size := by obtain ⟨o, ho, _⟩ := p'; exact Heap.lt_size ho
      refine call_enumerate_tuple (show s1.heap.IsTuple a its.toArray from p') fun h' he hit hsz hk => wpAny_pyIter_enum he ?_
      have I2 : Inv X pins σ H1 { s1 with heap := h' } := I1.kept (t' := s1.toks) hk
      refine ⟨s1.heap.objs.size + 1, [s1.heap.objs.size + 1, s1.heap.objs.size], _, _, H1, rfl, I2, turn_enumT a (s1.heap.objs.size + 1) s1.heap.objs.size, ⟨⟨.none, he⟩, hit, Nat.succ_ne_self _, Nat.ne_of_lt hal, Nat.ne_of_lt (Nat.lt_succ_of_lt hal)⟩, fun b hb => ?_, q⟩
      have e' : b = s1.heap.objs.size + 1 ∨ b = s1.heap.objs.size := by simpa using hb
      have hle : s1.heap.objs.size ≤ b := by
        rcases e' with z | z
        · rw [z]; exact Nat.le_add_right _ _
        · rw [z]; exact Nat.le_refl _
      exact I1.fpOk hle (I1.hok.fresh hle)
end PP

set_option Elab.async false
set_option linter.all false
set_option maxRecDepth 100000
set_option maxHeartbeats 2000000
namespace PP
open PySem L2
section
variable {F : Fm} {E : XC} {Z : AS} {ow ow1 : Ow} {σ : L2.St} {H H1 : Hp} {s : S}
theorem keep_lock {A : AS} {d : Addr} {u u' : HO} (h : H d = some u) (l : Le u u') (n : ¬ Z d) : Keep A Z H (upd H d u') := fun a o e _ => by
  by_cases ha : a = d
  · subst ha
    rw [h] at e; cases e
    exact ⟨u', upd_same, l, fun z => absurd z n⟩
  · exact ⟨o, by rw [upd_ne ha]; exact e, .refl o, fun _ => rfl⟩
theorem Rep.lock {d : Addr} {u u' : HO} (R : Rep F Z ow σ H s) (h : H d = some u) (l : Le u u') (n : ¬ Av' Z ow d) : Rep F Z ow σ (upd H d u') s ∧ Eff F Z ow H ow (upd H d u') := by
  have nz : ¬ Z d := fun z => n (.inl z)
  have n0 : ¬ F.Z0 d ∨ F.md d := by
    by_cases q : F.Z0 d
    · exact (R.z0 d q).elim (fun z => absurd z nz) .inr
    · exact .inl q
  refine ⟨⟨R.keep.trans (fun a o e m => ?_), R.strm.keep (upd_ne fun e => nz (e ▸ R.zs _ (.inl rfl))) (upd_ne fun e => nz (e ▸ R.zs _ (.inr (.inl rfl)))) (by
    rcases l with rfl | ⟨_, _, rfl, rfl⟩ | ⟨_, _, rfl, rfl⟩
    · intro b o e _
      by_cases hb : b = d
      · rw [hb, upd_same, ← h, ← hb]; exact e
      · rw [upd_ne hb]; exact e
    · exact tbk_upd h nt_dK
    · exact tbk_upd h nt_dT), R.mds, R.zs, R.z0, fun a z => by rw [upd_ne (by rintro rfl; exact nz z)]; exact R.zin a z, R.mdz, R.oz, R.od, R.oin, R.len, fun i p e => ?_⟩, ⟨keep_lock h l nz, fun i p e => .inl ⟨i, e⟩, fun q => dm_upd q⟩⟩
  · by_cases ha : a = d
    · subst ha
      rw [h] at e; cases e
      exact ⟨u', upd_same, l, fun z => n0.elim (fun q => absurd z q) fun q => absurd q m⟩
    · exact ⟨o, by rw [upd_ne ha]; exact e, .refl o, fun _ => rfl⟩
  · obtain ⟨v, hv, ok⟩ := R.sl i p e
    exact ⟨v, hv, ok.tr (keep_lock (A := Av' Z ow) h l nz) (fun a z => .inl z) fun a e => upd_ne fun q => n (.inr ⟨i, q ▸ e⟩)⟩
theorem src_keys {d : Addr} {o : Obj} {kvs : List (Key × V)} {ds : List (Key × D)} (R : Rep F Z ow σ H s) (n : ¬ Av' Z ow d) (h : H d = some (.frz o (.dK kvs))) (ek : kvs.map (·.1) = ds.map (·.1)) (hz : kvs.length ≤ sizeLine) : Src F Z ow H (Itk d o kvs) (ds.map fun kv => keyD kv.1) := by
  have el : (ds.map fun kv => keyD kv.1).length = kvs.length := by rw [List.length_map, keys_len ek]
  have st : ∀ {ow1 H1}, Eff F Z ow H ow1 H1 → H1 d = some (.frz o (.dK kvs)) := fun e => R.at e h n fun o' l => by
    rcases l with l | ⟨_, _, q, _⟩ | ⟨_, _, q, _⟩
    · exact l
    · cases q
    · cases q
  refine ⟨by rw [el]; exact hz, fun i ow1 H1 hi e => ⟨st e, by rw [← el]; exact hi⟩, fun ow1 H1 e => ⟨st e, by rw [el]; exact Nat.le_refl _⟩, fun i dd Y σ1 s1 ow1 H1 v H2 hd e hY R1 hy => ?_⟩
  obtain ⟨rfl, k, w, hk, rfl⟩ := hy
  obtain ⟨v', hv', z⟩ := (fzl_keys (G := F.G) (A := Av' Y ow1) (H := H2) ek).getD hd
  rw [List.getElem?_map, hk] at hv'
  cases hv'
  exact ⟨R1, Eff.refl _ _ _ _, z⟩
theorem fzl_kds {G : Gc} {A : AS} {H : Hp} : ∀ ks : List Key, FzL G A H (ks.map kV) (ks.map keyD)
  | [] => .nil
  | .inl i :: ks => .cons (.int i) (fzl_kds ks)
  | .inr x :: ks => .cons (.str x) (fzl_kds ks)
theorem src_keysT {d : Addr} {o : Obj} {kvs : List (List Key × V)} {ds : List (List Key × D)} (R : Rep F Z ow σ H s) (n : ¬ Av' Z ow d) (h : H d = some (.frz o (.dT kvs))) (ek : kvs.map (·.1) = ds.map (·.1)) (hz : kvs.length ≤ sizeLine) : Src F Z ow H (Itkt d o kvs) (ds.map fun kv => .tup (kv.1.map keyD)) := by
  have el : (ds.map fun kv => D.tup (kv.1.map keyD)).length = kvs.length := by rw [List.length_map, keys_len ek]
  have st : ∀ {ow1 H1}, Eff F Z ow H ow1 H1 → H1 d = some (.frz o (.dT kvs)) := fun e => R.at e h n fun o' l => by
    rcases l with l | ⟨_, _, q, _⟩ | ⟨_, _, q, _⟩
    · exact l
    · cases q
    · cases q
  refine ⟨by rw [el]; exact hz, fun i ow1 H1 hi e => ⟨st e, by rw [← el]; exact hi⟩, fun ow1 H1 e => ⟨st e, by rw [el]; exact Nat.le_refl _⟩, fun i dd Y σ1 s1 ow1 H1 v H2 hd e hY R1 hy => ?_⟩
  obtain ⟨rfl, k, w, q, hk, rfl, hq⟩ := hy
  have hk1 : (ds.map (·.1))[i]? = some k := by rw [← ek, List.getElem?_map, hk]; rfl
  have e2 : (ds.map fun kv => D.tup (kv.1.map keyD)) = (ds.map (·.1)).map fun k => D.tup (k.map keyD) := by rw [List.map_map]; rfl
  rw [e2, List.getElem?_map, hk1] at hd
  cases hd
  exact ⟨R1, Eff.refl _ _ _ _, .tup (fun z => (R1.avT z).2 _ hq) hq (fzl_kds k)⟩
theorem fz_dctT {A : AS} {v : V} {ds : List (List Key × D)} (h : Fz F.G A H v (.dctT ds)) : ∃ a kvs, v = .ref a ∧ ¬ A a ∧ Rd H a (.dT kvs) ∧ kvs.map (·.1) = ds.map (·.1) ∧ FzL F.G A H (kvs.map (·.2)) (ds.map (·.2)) := by
  cases h with
  | dctT n e ek l => exact ⟨_, _, rfl, n, e, ek, l⟩
theorem fz_dct {A : AS} {v : V} {ds : List (Key × D)} (h : Fz F.G A H v (.dct ds)) : ∃ a kvs, v = .ref a ∧ ¬ A a ∧ Rd H a (.dK kvs) ∧ kvs.map (·.1) = ds.map (·.1) ∧ FzL F.G A H (kvs.map (·.2)) (ds.map (·.2)) := by
  cases h with
  | dct n e ek l => exact ⟨_, _, rfl, n, e, ek, l⟩
theorem fz_lst {A : AS} {v : V} {xs : List D} (h : Fz F.G A H v (.lst xs)) : ∃ a vs, v = .ref a ∧ ¬ A a ∧ H a = some (.lst vs) ∧ FzL F.G A H vs xs := by
  cases h with
  | lst n e l => exact ⟨_, _, rfl, n, e, l⟩
end
abbrev IX (X : Cx) (F : Fm) (E : XC) (Γ : Env) (tg e : Expr) (ir : Ex) : Prop := PI X tg e (LI F E (evP Γ ir).s)
section
variable {X : Cx} {F : Fm} {E : XC} {Γ : Env} {a b c tg : Expr} {ia ib ic : Ex} {pos : Pos}
theorem pi_dfS (g : Gd X F E) {f : M R} (ha : PE X a (LR F E f)) : PI X tg a (LI F E (dfS f)) := PIimp (pi_sz (pi_any ha)) fun σ H R' h => by
  obtain ⟨Z, ow, s, K, R, hf, hq⟩ := h
  refine ⟨Z, ow, s, _, R, hf, fun r s1 v1 H1 ow1 k1 rr e1 => ?_⟩
  obtain ⟨R1, z⟩ := rr.fz' R
  rw [g.hK]
  cases hd : r.d with
  | lst xs =>
    rw [hd] at k1 z
    obtain ⟨p, vs, rfl, n, e, l⟩ := fz_lst z
    exact .inl ⟨p, vs, rfl, SqL.of e, fun sz => hq xs s1 _ H1 ow1 k1 R1 e1 (src_list R1 n e l (sz.l p vs (SqL.of e)))⟩
  | tup xs =>
    rw [hd] at k1 z
    cases z with
    | tup n e l => exact .inr (.inl ⟨_, _, rfl, SqT.of e, fun sz => hq xs s1 _ H1 ow1 k1 R1 e1 (src_tup R1 n e l (sz.t _ _ (SqT.of e)))⟩)
  | str x =>
    rw [hd] at k1 z
    cases z
    exact .inr (.inr (.inl ⟨x, rfl, fun sz => hq _ s1 _ H1 ow1 k1.2 R1 e1 (src_str k1.1)⟩))
  | dct ds =>
    rw [hd] at k1 z
    obtain ⟨d, kvs, rfl, n, e, ek, l⟩ := fz_dct z
    rcases e with e | ⟨o, e⟩
    · refine .inr (.inr (.inr (.inl ⟨d, kvs, rfl, e, fun o sz => ?_⟩)))
      have q := R1.lock (u' := .frz o (.dK kvs)) e (.inr (.inl ⟨o, kvs, rfl, rfl⟩)) n
      exact hq _ s1 _ _ ow1 k1 q.1 (e1.trans q.2) (src_keys q.1 n upd_same ek (sz.d d kvs (.inr ⟨o, upd_same⟩)))
    · exact .inr (.inr (.inr (.inr (.inl ⟨d, o, kvs, rfl, e, fun sz => hq _ s1 _ _ ow1 k1 R1 e1 (src_keys R1 n e ek (sz.d d kvs (.inr ⟨o, e⟩)))⟩))))
  | dctT ds =>
    rw [hd] at k1 z
    obtain ⟨d, kvs, rfl, n, e, ek, l⟩ := fz_dctT z
    rcases e with e | ⟨o, e⟩
    · refine .inr (.inr (.inr (.inr (.inr (.inl ⟨d, kvs, rfl, e, fun o sz => ?_⟩)))))
      have q := R1.lock (u' := .frz o (.dT kvs)) e (.inr (.inr ⟨o, kvs, rfl, rfl⟩)) n
      exact hq _ s1 _ _ ow1 k1 q.1 (e1.trans q.2) (src_keysT q.1 n upd_same ek (sz.dt d kvs (.inr ⟨o, upd_same⟩)))
    · exact .inr (.inr (.inr (.inr (.inr (.inr ⟨d, o, kvs, rfl, e, fun sz => hq _ s1 _ _ ow1 k1 R1 e1 (src_keysT R1 n e ek (sz.dt d kvs (.inr ⟨o, e⟩)))⟩)))))
  | _ => rw [hd] at k1; exact k1.elim
def plainS : Ex → Bool
  | .and _ _ => false
  | .or _ _ => false
  | .not _ => false
  | .bi .range _ => false
  | .bi .enum _ => false
  | .bi .zip _ => false
  | .itO _ _ _ => false
  | _ => true
theorem evP_s : ∀ {ia : Ex}, plainS ia = true → (evP Γ ia).s = dfS (evP Γ ia).r := by
  intro ia h
  cases ia with
  | and => cases h
  | or => cases h
  | not => cases h
  | itO => cases h
  | pop i e => cases e <;> rfl
  | bi f es => cases f <;> first | rfl | cases h
  | _ => rfl
theorem ix (g : Gd X F E) (ha : SX X F E Γ a ia) (hp : plainS ia = true := by rfl) : IX X F E Γ tg a ia := by
  show PI X tg a (LI F E (evP Γ ia).s)
  rw [evP_s hp]
  exact pi_dfS g ha
theorem ix_range1 (g : Gd X F E) {p : Pos} (hm : X.mg "range" = none) (ha : SX X F E Γ a ia) (hg : Gl X "range" := by rfl) (hs : starEach [a] X.env = [(false, eval a X.env)] := by rfl) : IX X F E Γ tg (.Call (.Name "range" p) [a] [] pos) (.bi .range [ia]) :=
  PIimp (pi_range1 hg hm (pa_cons ha pa_nil hs) hs) fun σ H R' h => by
    obtain ⟨Z, ow, s, K, R, hf, hq⟩ := h
    refine ⟨Z, ow, s, _, R, hf, fun r s1 v1 H1 ow1 k1 rr e1 => ?_⟩
    obtain ⟨R1, z⟩ := rr.fz' R
    cases hd : r.d with
    | int i =>
      rw [hd] at k1 z
      cases z
      obtain ⟨⟨w1, w2⟩, w3⟩ := (show ((-(2 ^ 62) ≤ i ∧ i ≤ 16777216) ∧ K (rangeD 0 i.toNat) s1) from k1)
      exact ⟨i, rfl, w1, by omega, hq _ s1 _ H1 ow1 w3 R1 e1 (src_range (by show i.toNat ≤ 16777216; omega))⟩
    | _ => rw [hd] at k1; exact k1.elim
theorem ix_range2 (g : Gd X F E) {p : Pos} (hm : X.mg "range" = none) (ha : SX X F E Γ a ia) (hb : SX X F E Γ b ib) (hg : Gl X "range" := by rfl) (hs : starEach [a, b] X.env = [(false, eval a X.env), (false, eval b X.env)] := by rfl) (hs2 : starEach [b] X.env = [(false, eval b X.env)] := by rfl) : IX X F E Γ tg (.Call (.Name "range" p) [a, b] [] pos) (.bi .range [ia, ib]) :=
  PIimp (pi_range2 hg hm (pa_cons ha (pa_cons hb pa_nil hs2) (by rw [hs, hs2])) hs hs2) fun σ H R' h => by
    obtain ⟨Z, ow, s, K, R, hf, hq⟩ := h
    refine ⟨Z, ow, s, _, R, hf, fun r s1 v1 H1 ow1 k1 rr e1 => ?_⟩
    obtain ⟨R1, z⟩ := rr.fz' R
    refine ⟨Z, ow1, s1, _, R1, k1, fun r2 s2 v2 H2 ow2 k2 rr2 e2 => ?_⟩
    obtain ⟨R2, z2⟩ := rr2.fz' R1
    cases hd : r.d with
    | int i =>
      cases hd2 : r2.d with
      | int j =>
        rw [hd] at k2 z
        rw [hd2] at k2 z2
        cases z; cases z2
        obtain ⟨⟨w1, w2, w3, w4, w5⟩, w6⟩ := (show ((-(2 ^ 62) ≤ i ∧ i < 2 ^ 62 ∧ -(2 ^ 62) ≤ j ∧ j < 2 ^ 62 ∧ j - i ≤ 16777216) ∧ K (rangeD i (j - i).toNat) s2) from k2)
        exact ⟨i, j, rfl, ⟨w1, w2, w3, w4⟩, hq _ s2 _ H2 ow2 w6 R2 (e1.trans e2) (src_range (by show (j - i).toNat ≤ 16777216; omega))⟩
      | _ => rw [hd, hd2] at k2; exact k2.elim
    | _ => rw [hd] at k2; exact k2.elim
theorem src_enumT {Z : AS} {ow : Ow} {σ : L2.St} {H : Hp} {s : S} {a : Addr} {vs : List V} {xs : List D} (l : FzL F.G (Av' Z ow) H vs xs) (hs : ∀ {ow1 H1}, Eff F Z ow H ow1 H1 → SqT F.G.K H1 a vs) (R : Rep F Z ow σ H s) (hz : vs.length ≤ sizeLine) : Src F Z ow H (IteT F.G.K a) (enumD 0 xs) := by
  refine ⟨by rw [enumD_len, ← l.length]; exact hz, fun i ow1 H1 hi e => ?_, fun ow1 H1 e => ?_, fun i d Y σ1 s1 ow1 H1 v H2 hd e hY R1 hy => ?_⟩
  · rw [enumD_len] at hi
    exact ⟨vs, vs[i]'(by rw [l.length]; exact hi), hs e, by simp [l.length, hi]⟩
  · exact ⟨vs, hs e, by rw [enumD_len, l.length]⟩
  · obtain ⟨T, x, rfl, hT, rfl, hv⟩ := hy
    obtain ⟨y, hy, rfl⟩ := enumD_get xs 0 i d hd
    obtain ⟨v', hv', z⟩ := (R.fzlZ e hY l).getD hy
    have := hv vs (hs e)
    rw [hv'] at this
    cases this
    rw [Nat.zero_add]
    exact src_pair R1 hT (.int _) z
theorem ix_enum (g : Gd X F E) {p tpos : Pos} {elts : List Expr} {kk : Nat} (hm : X.mg "enumerate" = none) (ha : SX X F E Γ a ia) (hg : Gl X "enumerate" := by rfl) (hs : starEach [a] X.env = [(false, eval a X.env)] := by rfl) : IX X F E Γ (.Tuple elts kk tpos) (.Call (.Name "enumerate" p) [a] [] pos) (.bi .enum [ia]) :=
  PIimp (pi_sz (pi_enumA hg hm (pa_cons ha pa_nil hs) hs)) fun σ H R' h => by
    obtain ⟨Z, ow, s, K, R, hf, hq⟩ := h
    refine ⟨Z, ow, s, _, R, hf, fun r s1 v1 H1 ow1 k1 rr e1 => ?_⟩
    obtain ⟨R1, z⟩ := rr.fz' R
    cases hd : r.d with
    | lst xs =>
      rw [hd] at k1 z
      obtain ⟨p, vs, rfl, n, e, l⟩ := fz_lst z
      exact .inl ⟨p, vs, rfl, SqL.of e, fun sz => by rw [g.hK]; exact hq _ s1 _ H1 ow1 k1 R1 e1 (src_enum R1 n e l (sz.l p vs (SqL.of e)))⟩
    | tup xs =>
      rw [hd] at k1 z
      cases z with
      | tup n e l =>
        rename_i p vs
        exact .inr ⟨p, vs, rfl, SqT.of e, fun sz => by rw [g.hK]; exact hq _ s1 _ H1 ow1 k1 R1 e1 (src_enumT l (fun e2 => SqT.of (R1.at e2 e n le_tup)) R1 (sz.t p vs (SqT.of e)))⟩
    | kt xs =>
      rw [hd] at k1 z
      cases z with
      | kt e l =>
        rename_i p vs
        have e' : SqT F.G.K H1 p vs := .inr e
        exact .inr ⟨p, vs, rfl, by rw [g.hK]; exact e', fun sz => by rw [g.hK]; exact hq _ s1 _ H1 ow1 k1 R1 e1 (src_enumT l (fun _ => .inr e) R1 (sz.t p vs (by rw [g.hK]; exact e')))⟩
    | _ => rw [hd] at k1; exact k1.elim
theorem ix_zip (g : Gd X F E) {p tpos : Pos} {elts : List Expr} {kk : Nat} (hm : X.mg "zip" = none) (ha : SX X F E Γ a ia) (hb : SX X F E Γ b ib) (hg : Gl X "zip" := by rfl) (hs : starEach [a, b] X.env = (false, eval a X.env) :: starEach [b] X.env := by rfl) (hs2 : starEach [b] X.env = [(false, eval b X.env)] := by rfl)
    (hpl : (backTo pos (starEach [b] X.env)).any (·.1) = false := by rfl) : IX X F E Γ (.Tuple elts kk tpos) (.Call (.Name "zip" p) [a, b] [] pos) (.bi .zip [ia, ib]) :=
  PIimp (pi_sz (pi_zip hg hm (pa_cons ha (pa_cons hb pa_nil hs2) hs) hs hpl)) fun σ H R' h => by
    obtain ⟨Z, ow, s, K, R, hf, hq⟩ := h
    refine ⟨Z, ow, s, _, R, hf, fun r s1 v1 H1 ow1 k1 rr e1 => ?_⟩
    obtain ⟨R1, z⟩ := rr.fz' R
    refine ⟨Z, ow1, s1, _, R1, k1, fun r2 s2 v2 H2 ow2 k2 rr2 e2 => ?_⟩
    obtain ⟨R2, z2⟩ := rr2.fz' R1
    have z' := R1.fz e2 z
    cases hd : r.d with
    | lst xs =>
      cases hd2 : r2.d with
      | lst ys =>
        rw [hd] at k2 z'
        rw [hd2] at k2 z2
        obtain ⟨p, vs, rfl, n, e, l⟩ := fz_lst z'
        obtain ⟨p2, vs2, rfl, n2, e3, l2⟩ := fz_lst z2
        exact ⟨p, p2, vs, vs2, rfl, SqL.of e, SqL.of e3, fun sz => by rw [g.hK]; exact hq _ s2 _ H2 ow2 k2 R2 (e1.trans e2) (src_zip R2 n e l (sz.l p vs (SqL.of e)) n2 e3 l2)⟩
      | _ => rw [hd, hd2] at k2; exact k2.elim
    | _ => rw [hd] at k2; exact k2.elim
end
/-! ### targets -/
/-- the reading g of a target keeps bindT's meaning; only its own slots change -/
def TgS (F : Fm) (t : Tg) (g : TG) : Prop := ∀ (Z : AS) (ow : Ow) (σ : L2.St) (H : Hp) (s : S) (e : XC) (v : V) (d : D) (K : Unit → S → Prop) (Q : L2.St → Hp → Prop), (∀ i ∈ t.ix, i < σ.length) → Rep F Z ow σ H s → Fz F.G (Av' Z ow) H v d → bindT t d s K e →
  (∀ s' σ' ow', K () s' → Rep F Z ow' σ' H s' → Eff F Z ow H ow' H → σ'.length = σ.length → (∀ j, j ∉ t.ix → σ'[j]? = σ[j]?) → Q σ' H) → g v σ H Q
def TgsS (F : Fm) (ts : List Tg) (g : TGs) : Prop := ∀ (Z : AS) (ow : Ow) (σ : L2.St) (H : Hp) (s : S) (e : XC) (v : List V) (d : List D) (K : Unit → S → Prop) (Q : L2.St → Hp → Prop), (∀ i ∈ tgIxs ts, i < σ.length) → Rep F Z ow σ H s → FzL F.G (Av' Z ow) H v d → bindTs ts d s K e →
  (∀ s' σ' ow', K () s' → Rep F Z ow' σ' H s' → Eff F Z ow H ow' H → σ'.length = σ.length → (∀ j, j ∉ tgIxs ts → σ'[j]? = σ[j]?) → Q σ' H) → g v σ H Q
section
variable {F : Fm}
theorem tgs_one (i : Nat) : TgS F (.one i) (gName i) := by
  intro Z ow σ H s e v d K Q hi R z w k
  obtain ⟨n, w⟩ := (show isIo (gt s.sl i) = false ∧ K () (setS i (.fz d) s) from w)
  obtain ⟨ow', R', ho⟩ := R.put (r := .fz d) (Hs := H) (i := i) ⟨R, z⟩ n (hi i (by simp [Tg.ix]))
  exact k _ _ ow' w R' ⟨Keep.refl _ _ _, ho, fun _ h => h⟩ (set_len _ _ _) fun j hj => set_out j (by simpa [Tg.ix] using hj)
theorem tgss_nil : TgsS F [] gNil := by
  intro Z ow σ H s e v d K Q hi R z w k
  cases z with
  | nil => exact ⟨rfl, k _ _ ow w R (Eff.refl _ _ _ _) rfl fun _ _ => rfl⟩
  | cons _ _ => exact w.elim
theorem tgss_cons {t : Tg} {ts : List Tg} {g : TG} {gs : TGs} (h : TgS F t g) (hs : TgsS F ts gs) : TgsS F (t :: ts) (gCons g gs) := by
  intro Z ow σ H s e v d K Q hi R z w k
  cases z with
  | nil => exact w.elim
  | cons z1 z2 =>
    refine ⟨_, _, rfl, h Z ow σ H s e _ _ _ _ (fun i q => hi i (by simp [tgIxs, q])) R z1 w fun s1 σ1 ow1 w1 R1 e1 l1 o1 => ?_⟩
    refine hs Z ow1 σ1 H s1 e _ _ _ _ (fun i q => by rw [l1]; exact hi i (by simp [tgIxs, q])) R1 (R.fzl e1 z2) w1 fun s2 σ2 ow2 w2 R2 e2 l2 o2 => ?_
    exact k s2 σ2 ow2 w2 R2 (e1.trans e2) (l2.trans l1) fun j hj => by
      have : j ∉ t.ix ∧ j ∉ tgIxs ts := by simpa [tgIxs] using hj
      rw [o2 j this.2, o1 j this.1]
theorem tgs_tup {ts : List Tg} {gs : TGs} {K0 : PySem.W.Frag} (hK : K0 = F.G.K) (hs : TgsS F ts gs) {n : Nat} (hn : ts.length = n) : TgS F (.tup ts) (gTup K0 n gs) := by
  intro Z ow σ H s e v d K Q hi R z w k
  cases z with
  | tup nn eh l =>
    rename_i xs
    have hl : xs.length = ts.length := by
      have aux : ∀ (ts : List Tg) (xs : List D) (s : S) (K : Unit → S → Prop), bindTs ts xs s K e → xs.length = ts.length := by
        intro ts
        induction ts with
        | nil => intro xs s K w; cases xs with
          | nil => rfl
          | cons _ _ => exact w.elim
        | cons t ts ih => intro xs s K w; cases xs with
          | nil => exact w.elim
          | cons x xs =>
            have : ∀ (t : Tg) (x : D) (s : S) (P : Prop), bindT t x s (fun _ _ => P) e → P := by
              intro t x s P
              have both : (∀ t : Tg, ∀ (x : D) (s : S) (P : Prop), bindT t x s (fun _ _ => P) e → P) := by
                intro t
                refine Tg.rec (motive_1 := fun t => ∀ (x : D) (s : S) (P : Prop), bindT t x s (fun _ _ => P) e → P) (motive_2 := fun ts => ∀ (xs : List D) (s : S) (P : Prop), bindTs ts xs s (fun _ _ => P) e → P) ?_ ?_ ?_ ?_ t
                · intro i x s P h; exact h.2
                · intro ts ih x s P h
                  cases x with
                  | tup xs => exact ih xs s P h
                  | _ => exact h.elim
                · intro xs s P h
                  cases xs with
                  | nil => exact h
                  | cons _ _ => exact h.elim
                · intro t ts ih1 ih2 xs s P h
                  cases xs with
                  | nil => exact h.elim
                  | cons x xs =>
                    refine ih1 x s P ?_
                    have mono : ∀ (t : Tg), ∀ (x : D) (s : S) (K K' : Unit → S → Prop), (∀ u s, K u s → K' u s) → bindT t x s K e → bindT t x s K' e := by
                      intro t
                      refine Tg.rec (motive_1 := fun t => ∀ (x : D) (s : S) (K K' : Unit → S → Prop), (∀ u s, K u s → K' u s) → bindT t x s K e → bindT t x s K' e) (motive_2 := fun ts => ∀ (xs : List D) (s : S) (K K' : Unit → S → Prop), (∀ u s, K u s → K' u s) → bindTs ts xs s K e → bindTs ts xs s K' e) ?_ ?_ ?_ ?_ t
                      · intro i x s K K' hk h; exact ⟨h.1, hk _ _ h.2⟩
                      · intro ts ih x s K K' hk h
                        cases x with
                        | tup xs => exact ih xs s K K' hk h
                        | _ => exact h.elim
                      · intro xs s K K' hk h
                        cases xs with
                        | nil => exact hk _ _ h
                        | cons _ _ => exact h.elim
                      · intro t ts ih1 ih2 xs s K K' hk h
                        cases xs with
                        | nil => exact h.elim
                        | cons x xs => exact ih1 x s _ _ (fun u s h => ih2 xs s K K' hk h) h
                    exact mono t x s _ _ (fun u s h => ih2 xs s P h) h
              exact both t x s P
            have mono : ∀ (t : Tg), ∀ (x : D) (s : S) (K K' : Unit → S → Prop), (∀ u s, K u s → K' u s) → bindT t x s K e → bindT t x s K' e := by
              intro t
              refine Tg.rec (motive_1 := fun t => ∀ (x : D) (s : S) (K K' : Unit → S → Prop), (∀ u s, K u s → K' u s) → bindT t x s K e → bindT t x s K' e) (motive_2 := fun ts => ∀ (xs : List D) (s : S) (K K' : Unit → S → Prop), (∀ u s, K u s → K' u s) → bindTs ts xs s K e → bindTs ts xs s K' e) ?_ ?_ ?_ ?_ t
              · intro i x s K K' hk h; exact ⟨h.1, hk _ _ h.2⟩
              · intro ts ih x s K K' hk h
                cases x with
                | tup xs => exact ih xs s K K' hk h
                | _ => exact h.elim
              · intro xs s K K' hk h
                cases xs with
                | nil => exact hk _ _ h
                | cons _ _ => exact h.elim
              · intro t ts ih1 ih2 xs s K K' hk h
                cases xs with
                | nil => exact h.elim
                | cons x xs => exact ih1 x s _ _ (fun u s h => ih2 xs s K K' hk h) h
            have q := this t x s (xs.length = ts.length) (mono t x s _ _ (fun u s h => ih xs s K h) w)
            rw [List.length_cons, List.length_cons, q]
      exact aux ts xs s K w
    refine ⟨_, _, rfl, by rw [hK]; exact SqT.of eh, by rw [l.length, hl, hn], hs Z ow σ H s e _ _ K Q hi R l w k⟩
  | _ => exact w.elim
end
end PP

set_option Elab.async false
set_option linter.all false
set_option maxRecDepth 100000
set_option maxHeartbeats 2000000
namespace PP
open PySem L2
/-! ### comprehensions -/
theorem gt_wipe_in : ∀ {ix : List Nat} {l : List (Option P)} {i : Nat}, i ∈ ix → gt (wipeS ix l) i = none
  | v :: vs, l, i, h => by
    unfold wipeS
    by_cases e : i = v
    · subst e
      cases q : gt (pt (wipeS vs l) i none) i with
      | none => rfl
      | some p => cases gt_pt_none q
    · rw [gt_pt_ne e]
      exact gt_wipe_in (by rcases List.mem_cons.mp h with z | z; exact absurd z e; exact z)
theorem gt_wipe_out : ∀ {ix : List Nat} {l : List (Option P)} {i : Nat}, i ∉ ix → gt (wipeS ix l) i = gt l i
  | [], _, _, _ => rfl
  | v :: vs, l, i, h => by
    unfold wipeS
    have hh : i ≠ v ∧ i ∉ vs := by simpa using h
    rw [gt_pt_ne hh.1, gt_wipe_out hh.2]
theorem wipeS_len : ∀ (ix : List Nat) (l : List (Option P)), (wipeS ix l).length = l.length
  | [], _ => rfl
  | v :: vs, l => by unfold wipeS; rw [pt_len, wipeS_len vs l]
def wipeO (ix : List Nat) (ow : Ow) : Ow := fun i => if i ∈ ix then none else ow i
theorem wipeO_sub {ix : List Nat} {ow : Ow} {i : Nat} {p : Addr} (h : wipeO ix ow i = some p) : i ∉ ix ∧ ow i = some p := by
  unfold wipeO at h
  split at h
  · cases h
  · exact ⟨by assumption, h⟩
section
variable {F : Fm} {Z : AS} {ow ow1 : Ow} {σ σ' : L2.St} {H H1 : Hp} {s : S}
theorem Rep.wipe {ix : List Nat} (R : Rep F Z ow σ H s) (n : noIo ix s.sl = true) (hl : σ'.length = σ.length) (ho : ∀ j, j ∉ ix → σ'[j]? = σ[j]?) : Rep F Z (wipeO ix ow) σ' H { s with sl := wipeS ix s.sl } := by
  have sub : ∀ a, Av' Z (wipeO ix ow) a → Av' Z ow a := fun a z => z.imp id fun ⟨j, q⟩ => ⟨j, (wipeO_sub q).2⟩
  have nn : ∀ i ∈ ix, isIo (gt s.sl i) = false := fun i hi => by
    have := List.all_eq_true.mp n i hi
    simpa using this
  refine ⟨R.keep, R.strm, R.mds, R.zs, R.z0, R.zin, fun a z => ?_, fun j p e => R.oz j p (wipeO_sub e).2, fun j k p e1 e2 => R.od j k p (wipeO_sub e1).2 (wipeO_sub e2).2, fun j p e => ?_, ?_, fun j q e => ?_⟩
  · rcases R.mdz a z with q | ⟨j, q⟩
    · exact .inl q
    · by_cases hj : j ∈ ix
      · exact absurd z (R.noMd q (nn j hj))
      · exact .inr ⟨j, by unfold wipeO; rw [if_neg hj]; exact q⟩
  · obtain ⟨q, hq, hn⟩ := R.oin j p (wipeO_sub e).2
    exact ⟨q, by show gt (wipeS ix s.sl) j = _; rw [gt_wipe_out (wipeO_sub e).1]; exact hq, hn⟩
  · show (wipeS ix s.sl).length = _
    rw [wipeS_len, R.len, hl]
  · have e' : gt (wipeS ix s.sl) j = some q := e
    by_cases hj : j ∈ ix
    · rw [gt_wipe_in hj] at e'; cases e'
    · rw [gt_wipe_out hj] at e'
      obtain ⟨v, hv, ok⟩ := R.sl j q e'
      have eo : wipeO ix ow j = ow j := by unfold wipeO; rw [if_neg hj]
      exact ⟨v, by rw [ho j hj]; exact hv, by rw [eo]; exact ok.tr (Keep.refl (Av' Z ow) Z H) (fun a z => .inl (sub a z)) fun _ _ => rfl⟩
theorem Eff.wipe {ix : List Nat} (e : Eff F Z ow H ow1 H1) : Eff F Z ow H (wipeO ix ow1) H1 := ⟨e.k, fun i p h => e.o i p (wipeO_sub h).2, e.dm⟩
theorem Rep.atZ (R : Rep F Z ow σ H s) (e : Eff F Z ow H ow1 H1) {a : Addr} {o : HO} (z : Z a) (nm : ¬ F.md a) (h : H a = some o) : H1 a = some o :=
  e.k.atZ h (fun q => q.elim nm fun ⟨i, q⟩ => R.oz i a q z) z
/-- a thing that is held apart changes -/
theorem Rep.updZ {a : Addr} {o : HO} (R : Rep F Z ow σ H s) (z : Z a) (nm : ¬ F.md a) (h0 : F.H0 a = none) (ns : a ≠ F.T.s) (nl : a ≠ F.T.l) (nb : ∀ u, H a = some u → ¬ TbO u) (ho : ∀ vs, o ≠ .tup vs := by exact nofun) : Rep F Z ow σ (upd H a o) s := by
  have k : Keep (Av' Z ow) Z H (upd H a o) := fun b u e n => ⟨u, (upd_ne (fun q => n (.inl (by rw [q]; exact z)))).trans e, .refl u, fun _ => rfl⟩
  exact ⟨R.keep.upd (.inr h0), R.strm.keep (upd_ne ns.symm) (upd_ne nl.symm) (fun b u e z => by
      rw [upd_ne (fun q => nb u (by rw [← q]; exact e) z)]; exact e), R.mds, R.zs, R.z0, fun b q => by
    by_cases e : b = a
    · subst e; exact .of upd_same ho
    · rw [upd_ne e]; exact R.zin b q, R.mdz, R.oz, R.od, R.oin, R.len, fun i p e =>
    let ⟨v, hv, ok⟩ := R.sl i p e
    ⟨v, hv, ok.tr k (fun b q => .inl q) fun b e => upd_ne fun q => R.oz i b e (q ▸ z)⟩⟩
end
theorem wipe_in {σ : L2.St} {i : Nat} : ∀ {vs : List Nat}, i ∈ vs → i < σ.length → (L2.wipe σ vs)[i]? = some none
  | v :: vs, h, hl => by
    unfold L2.wipe
    by_cases e : v = i
    · subst e
      rw [List.getElem?_set_self (by rw [L2.wipe_length]; exact hl)]
    · rw [List.getElem?_set_ne e]
      exact wipe_in (by rcases List.mem_cons.mp h with z | z; exact absurd z.symm e; exact z) hl
theorem wipe_eq {σ σ2 : L2.St} {vs : List Nat} (hl : σ2.length = σ.length) (ho : ∀ j, j ∉ vs → σ2[j]? = σ[j]?) : L2.wipe σ2 vs = L2.wipe σ vs := by
  refine List.ext_getElem? fun i => ?_
  by_cases hi : i ∈ vs
  · by_cases h : i < σ.length
    · rw [wipe_in hi h, wipe_in hi (by rw [hl]; exact h)]
    · rw [List.getElem?_eq_none (by rw [L2.wipe_length]; omega), List.getElem?_eq_none (by rw [L2.wipe_length]; omega)]
  · rw [L2.wipe_out hi, L2.wipe_out hi, ho i hi]
theorem pe_len {X : Cx} {e : Expr} {t : TE} (h : PE X e t) : PE X e (fun σ H Q => σ.length = X.N.length → t σ H Q) := ⟨fun p s σ H Q I w => h.run p s σ H Q I (w I.len)⟩
theorem ps_len {X : Cx} {e : Stmt} {t : TS} (h : PS X e t) : PS X e (fun D σ H => σ.length = X.N.length → t D σ H) := ⟨fun p s σ H D I w => h.run p s σ H D I (w I.len)⟩
theorem PTsimp {X : Cx} {e : List Expr} {t t' : TT} (h : PTs X e t) (i : ∀ σ H Q, t' σ H Q → t σ H Q) : PTs X e t' := ⟨fun p s σ H Q I w => h.run p s σ H Q I (i σ H Q w)⟩
section
variable {X : Cx} {F : Fm} {E : XC} {Γ : Env} {pos : Pos}
theorem tsx_nil : PTs X [] (LT F E (evTs Γ [])) := PTsimp pts_nil fun σ H Q h => by
  obtain ⟨Z, ow, s, K, R, hf, hq⟩ := h
  exact hq true s H ow hf R (Eff.refl _ _ _ _)
theorem tsx_one {c : Expr} {ic : Ex} (h : TX X F E Γ c ic) : PTs X [c] (LT F E (evTs Γ [ic])) := PTsimp (pts_one h) fun σ H Q h => by
  obtain ⟨Z, ow, s, K, R, hf, hq⟩ := h
  refine ⟨Z, ow, s, _, R, hf, fun b s1 H1 ow1 k1 R1 e1 => ?_⟩
  cases b with
  | true => exact hq true s1 H1 ow1 k1 R1 e1
  | false => exact hq false s1 H1 ow1 k1 R1 e1
theorem drop_get {α : Type} {xs : List α} {i : Nat} (h : i < xs.length) : xs.drop i = xs[i] :: xs.drop (i + 1) := List.drop_eq_getElem_cons h
theorem lr_lc {src : M (List D)} {t : Tg} {g : TG} {tests : M Bool} {elt : M R} {σ : L2.St} {H : Hp} {Q : VK} (hn : ∀ i ∈ t.ix, i < σ.length) (ht : TgS F t g)
    (h : LR F E (bnd src fun xs => bnd (lcGo t tests (toD elt) xs []) fun ys => wiped t.ix (.nl ys)) σ H Q) : tLc (LI F E src) g (LT F noX tests) (LR F noX elt) t.ix σ H Q := by
  obtain ⟨Z, ow, s, K, R, hf, hq⟩ := h
  refine ⟨Z, ow, s, _, R, hf, fun xs s1 J H1 ow1 k1 R1 e1 src D hD => ?_⟩
  obtain ⟨nmD, n0D, nzD⟩ := R1.new0 hD
  have RD := R1.alloc (o := .lst []) hD
  have zD : add Z D D := .inr rfl
  have nsD : D ≠ F.T.s := fun e => nmD (e ▸ R1.mds _ (.inl rfl))
  have nlD : D ≠ F.T.l := fun e => nmD (e ▸ R1.mds _ (.inr (.inl rfl)))
  let Kw : List PP.D → S → Prop := fun ys s2 => wiped t.ix (.nl ys) s2 K E
  let W0 : Nat → Hp → Prop := fun i H' => i ≤ xs.length ∧ ∃ σ2 ow2 s2 vs acc, σ2.length = σ.length ∧ (∀ j, j ∉ t.ix → σ2[j]? = σ[j]?) ∧ Rep F (add Z D) ow2 σ2 H' s2 ∧ Eff F Z ow1 H1 ow2 H' ∧ H' D = some (.lst vs) ∧ FzL F.G (Av' (add Z D) ow2) H' vs acc ∧ acc.length ≤ i ∧ lcGo t tests (toD elt) (xs.drop i) acc s2 Kw E
  refine ⟨fun i m H' => m = xs.length - i ∧ W0 i H', ⟨xs.length, by simp, Nat.zero_le _, σ, ow1, s1, [], [], rfl, fun _ _ => rfl, RD, Eff.new hD, upd_same, .nil, Nat.zero_le _, k1⟩, ?_⟩
  rintro i m H' ⟨rfl, hi, σ2, ow2, s2, vs, acc, hl2, ho2, R2, e2, hDv, lacc, hacc, w⟩
  by_cases hlt : i < xs.length
  · rw [drop_get hlt] at w
    obtain ⟨nio, w⟩ := w
    have Rw := R2.wipe (σ' := L2.wipe σ t.ix) nio (by rw [L2.wipe_length, hl2]) (fun j hj => by rw [L2.wipe_out hj, ho2 j hj])
    refine .inr ⟨src.go i ow2 H' hlt e2, W0 (i + 1), fun H'' p' => ⟨xs.length - (i + 1), by omega, rfl, p'⟩, fun x H3 hy => ?_⟩
    obtain ⟨R3, e3, z3⟩ := src.yld i xs[i] (add Z D) _ _ (wipeO t.ix ow2) H' x H3 (by simp [hlt]) e2.wipe (fun a z => z.imp id fun q => by rw [q]; exact hD) Rw hy
    refine ht (add Z D) _ _ H3 _ noX x _ _ _ (fun j hj => by rw [L2.wipe_length]; exact hn j hj) R3 z3 w fun s4 σ4 ow4 w4 R4 e4 l4 o4 => ?_
    have hl4 : σ4.length = σ.length := by rw [l4, L2.wipe_length]
    have ho4 : ∀ j, j ∉ t.ix → σ4[j]? = σ[j]? := fun j hj => by rw [o4 j hj, L2.wipe_out hj]
    refine ⟨wipe_eq (by rw [hl4]) ho4, ⟨add Z D, ow4, s4, _, R4, w4, fun b s5 H5 ow5 w5 R5 e5 => ?_⟩⟩
    have eZ : ∀ {a b : Ow} {h1 h2 : Hp}, Eff F (add Z D) a h1 b h2 → Eff F Z a h1 b h2 := fun e => e.mono fun _ z => .inl z
    have hD3 : H3 D = some (.lst vs) := Rw.atZ e3 zD nmD hDv
    have hD5 : H5 D = some (.lst vs) := R4.atZ e5 zD nmD hD3
    have eall : Eff F Z ow1 H1 ow5 H5 := ((e2.wipe.trans (eZ e3)).trans (eZ e4)).trans (eZ e5)
    have l2 : FzL F.G (Av' (add Z D) (wipeO t.ix ow2)) H' vs acc := lacc.mono fun a z => .inl (z.imp id fun ⟨j, q⟩ => ⟨j, (wipeO_sub q).2⟩)
    have l5 : FzL F.G (Av' (add Z D) ow5) H5 vs acc := R4.fzl e5 (R3.fzl e4 (Rw.fzl e3 l2))
    cases b with
    | false =>
      refine iteF ?_
      exact ⟨hlt, σ4, ow5, s5, vs, acc, hl4, ho4, R5, eall, hD5, l5, Nat.le_succ_of_le hacc, w5⟩
    | true =>
      refine iteT ?_
      refine ⟨add Z D, ow5, s5, _, R5, w5, fun r s6 v6 H6 ow6 w6 rr6 e6 => ?_⟩
      obtain ⟨R6, z6⟩ := rr6.fz' R5
      have hD6 : H6 D = some (.lst vs) := R5.atZ e6 zD nmD hD5
      have l6 := R5.fzl e6 l5
      have kup : Keep (Av' (add Z D) ow6) (add Z D) H6 (upd H6 D (.lst (vs ++ [v6]))) := fun b u e n => ⟨u, (upd_ne (fun q => n (.inl (by rw [q]; exact zD)))).trans e, .refl u, fun _ => rfl⟩
      refine ⟨vs, hD6, ?_, hlt, σ4, ow6, s6, vs ++ [v6], acc ++ [r.d], hl4, ho4, R6.updZ zD nmD n0D nsD nlD (fun u e => by rw [hD6] at e; cases e; exact nt_lst), ?_, upd_same, (l6.append (.one z6)).keep kup, by rw [List.length_append]; exact Nat.succ_le_succ hacc, w6⟩
      · rw [l6.length]
        exact Nat.lt_of_le_of_lt hacc (Nat.lt_of_lt_of_le hlt src.len)
      · have e61 := eall.trans (eZ e6)
        exact ⟨e61.k.upd (.inr hD), e61.o, fun p hp => dm_upd p (e61.dm p hp)⟩
  · have ei : i = xs.length := by omega
    subst ei
    rw [List.drop_length] at w
    obtain ⟨nio, w⟩ := (show noIo t.ix s2.sl = true ∧ K (.nl acc) { s2 with sl := wipeS t.ix s2.sl } from w)
    have Rw := R2.wipe (σ' := σ) nio hl2.symm (fun j hj => (ho2 j hj).symm)
    refine .inl ⟨src.stop ow2 H' e2, ?_⟩
    have hH : H D = none := by
      cases q : H D with
      | none => rfl
      | some o => exact absurd hD (e1.dm D (by rw [q]; exact nofun))
    exact hq (.nl acc) _ _ H' (wipeO t.ix ow2) w ⟨D, vs, rfl, hH, fun z => nzD (.inl z), nmD, n0D, Rw, hDv, lacc.mono fun a z => .inl (z.imp id fun ⟨j, q⟩ => ⟨j, (wipeO_sub q).2⟩)⟩ (e1.trans e2.wipe)
theorem ix_lt {N : List Str} {own : List (Str × Nat)} {sc scope : Scope} (ok : BlkOk N sc scope own) {ix : List Nat} (ho : own.map (·.2) = ix) : ∀ i ∈ ix, i < N.length := fun i hi => by
  rw [← ho] at hi
  obtain ⟨p, hp, rfl⟩ := List.mem_map.mp hi
  exact (List.getElem?_eq_some_iff.mp (ok.ix p hp)).1
theorem sx_lc (g : Gd X F E) {elt tg iter : Expr} {ifs : List Expr} {scope : Scope} {own : List (Str × Nat)} {isrc ielt : Ex} {iifs : List Ex} {t : Tg} {gr : TG} (hi : IX X F E Γ tg iter isrc) (ok : BlkOk X.N X.env.scope scope own) (ho : own.map (·.2) = t.ix) (hs : TgS F t gr)
    (hg : ∀ (s : Shared) (H : Hp) (C : Addr) (cl : List (Str × Addr)) (fp : List Addr), PG (X.blk s H scope (compEnvC scope cl C X.env) fp) tg gr)
    (ht : ∀ (s : Shared) (H : Hp) (C : Addr) (cl : List (Str × Addr)) (fp : List Addr), PTs (X.blk s H scope (compEnvC scope cl C X.env) fp) ifs (LT F noX (evTs Γ iifs)))
    (he : ∀ (s : Shared) (H : Hp) (C : Addr) (cl : List (Str × Addr)) (fp : List Addr), SX (X.blk s H scope (compEnvC scope cl C X.env) fp) F noX Γ elt ielt) (hf : ∀ x, foldedSetIterable iter X.env x = pure x := by intro _; rfl) :
    SX X F E Γ (.ListComp elt [⟨tg, iter, ifs, 0⟩] scope pos) (.lc isrc t iifs ielt) :=
  PEimp (pe_len (pe_lc g.calm g.nd hi ok hg ht he hf)) fun σ H Q h hl => by
    rw [ho]
    exact lr_lc (fun i hi => by rw [hl]; exact ix_lt ok ho i hi) hs h
end
end PP

set_option Elab.async false
set_option linter.all false
set_option maxRecDepth 100000
set_option maxHeartbeats 2000000
namespace PP
open PySem L2
/-! ### statements -/
structure CT (F : Fm) (L : Nat) (ow : Ow) (H : Hp) (n : En) (D : Ends) : Prop where
  nx : ∀ s' σ' H' ow', n.nx s' → Rep F F.Z0 ow' σ' H' s' → Eff F F.Z0 ow H ow' H' → σ'.length = L → D.nx σ' H'
  bk : ∀ s' σ' H' ow', n.bk s' → Rep F F.Z0 ow' σ' H' s' → Eff F F.Z0 ow H ow' H' → σ'.length = L → D.bk σ' H'
  ct : ∀ s' σ' H' ow', n.ct s' → Rep F F.Z0 ow' σ' H' s' → Eff F F.Z0 ow H ow' H' → σ'.length = L → D.ct σ' H'
  rt : ∀ r s' v σ' H' ow', n.rt r s' → RR F F.Z0 H ow' σ' H' s' v r → Eff F F.Z0 ow H ow' H' → D.rt v H'
def LS (F : Fm) (E : XC) (q : QS) : TS := fun D σ H => ∃ ow s n, Rep F F.Z0 ow σ H s ∧ q n s ∧ n.ex = E ∧ CT F σ.length ow H n D
section
variable {F : Fm} {E : XC} {ow ow' : Ow} {H H' : Hp} {n : En} {D : Ends}
theorem CT.shift {L : Nat} (c : CT F L ow H n D) (e : Eff F F.Z0 ow H ow' H') : CT F L ow' H' n D :=
  ⟨fun s σ H2 o w R e2 l => c.nx s σ H2 o w R (e.trans e2) l, fun s σ H2 o w R e2 l => c.bk s σ H2 o w R (e.trans e2) l, fun s σ H2 o w R e2 l => c.ct s σ H2 o w R (e.trans e2) l, fun r s v σ H2 o w R e2 => c.rt r s v σ H2 o w (R.back e.dm) (e.trans e2)⟩
end
abbrev SSX (X : Cx) (F : Fm) (E : XC) (Γ : Env) (st : Stmt) (ir : Sx) : Prop := PS X st (LS F E (exS Γ ir))
abbrev SBX (X : Cx) (F : Fm) (E : XC) (Γ : Env) (st : List Stmt) (ir : List Sx) : Prop := PSs X st (LS F E (exSs Γ ir))
def setAll (σ : L2.St) : List Nat → List V → L2.St
  | i :: is, v :: vs => (setAll σ is vs).set i (some v)
  | _, _ => σ
theorem setAll_len (σ : L2.St) : ∀ (is : List Nat) (vs : List V), (setAll σ is vs).length = σ.length
  | [], _ => rfl
  | _ :: _, [] => rfl
  | i :: is, v :: vs => by rw [setAll, List.length_set, setAll_len σ is vs]
def parR (F : Fm) (E : XC) : List (M R) → TA
  | [] => tNil
  | f :: fs => tCons (LR F E f) (parR F E fs)
section
variable {F : Fm} {E : XC}
theorem Eff.put {Z : AS} {ow ow2 ow3 : Ow} {H H2 : Hp} (e : Eff F Z ow H ow2 H2) (o3 : ∀ j p, ow3 j = some p → (∃ j', ow2 j' = some p) ∨ H p = none) : Eff F Z ow H ow3 H2 :=
  ⟨e.k, fun j p h => (o3 j p h).elim (fun ⟨j', q⟩ => e.o j' p q) .inr, e.dm⟩
theorem par_ok : ∀ {fs : List (M R)} {is : List Nat} {Z : AS} {ow : Ow} {σ : L2.St} {H : Hp} {s : S} {K : Unit → S → Prop} {Q : List V → Hp → Prop}, Rep F Z ow σ H s → parGo is fs s K E → (∀ i ∈ is, i < σ.length) →
    (∀ s' vs H' ow', vs.length = is.length → K () s' → Rep F Z ow' (setAll σ is vs) H' s' → Eff F Z ow H ow' H' → Q vs H') → parR F E fs σ H Q
  | [], [], Z, ow, σ, H, s, K, Q, R, w, _, k => k s [] H ow rfl w R (Eff.refl _ _ _ _)
  | [], _ :: _, _, _, _, _, _, _, _, _, w, _, _ => w.elim
  | _ :: _, [], _, _, _, _, _, _, _, _, w, _, _ => w.elim
  | f :: fs, i :: is, Z, ow, σ, H, s, K, Q, R, w, hi, k => by
    refine ⟨Z, ow, s, _, R, w, fun r s1 v1 H1 ow1 w1 rr1 e1 => ?_⟩
    have hil : ∀ vs, i < (setAll σ is vs).length := fun vs => by rw [setAll_len]; exact hi i (by simp)
    have hi' : ∀ j ∈ is, j < σ.length := fun j hj => hi j (by simp [hj])
    cases r with
    | fz d =>
      obtain ⟨R1, z1⟩ := rr1
      refine par_ok R1 w1 hi' fun s2 vs H2 ow2 hl w2 R2 e2 => ?_
      obtain ⟨n, w2⟩ := (show isIo (gt s2.sl i) = false ∧ K () (setS i (.fz d) s2) from w2)
      obtain ⟨ow3, R3, o3⟩ := R2.put (r := .fz d) (Hs := H) ⟨R2, R1.fz e2 z1⟩ n (hil vs)
      exact k _ (v1 :: vs) H2 ow3 (by simp [hl]) w2 R3 ((e1.trans e2).put o3)
    | nl xs =>
      obtain ⟨p, us, rfl, hs, nz, nm, h0, R1, ep, l1⟩ := rr1
      refine par_ok R1 w1 hi' fun s2 vs H2 ow2 hl w2 R2 e2 => ?_
      obtain ⟨n, w2⟩ := (show isIo (gt s2.sl i) = false ∧ K () (setS i (.nl xs) s2) from w2)
      have eZ : Eff F Z ow1 H1 ow2 H2 := e2.mono fun _ z => .inl z
      have R2' : Rep F Z ow2 (setAll σ is vs) H2 s2 := R2.unadd R.zs R.z0 nm
      obtain ⟨ow3, R3, o3⟩ := R2'.put (r := .nl xs) (Hs := H) ⟨p, us, rfl, hs, nz, nm, h0, R2, R1.atZ e2 (.inr rfl) nm ep, R1.fzl e2 l1⟩ n (hil vs)
      exact k _ (.ref p :: vs) H2 ow3 (by simp [hl]) w2 R3 ((e1.trans eZ).put o3)
    | nd xs =>
      obtain ⟨p, us, rfl, hs, nz, nm, h0, R1, ep, ek, l1⟩ := rr1
      refine par_ok R1 w1 hi' fun s2 vs H2 ow2 hl w2 R2 e2 => ?_
      obtain ⟨n, w2⟩ := (show isIo (gt s2.sl i) = false ∧ K () (setS i (.nd xs) s2) from w2)
      have eZ : Eff F Z ow1 H1 ow2 H2 := e2.mono fun _ z => .inl z
      have R2' : Rep F Z ow2 (setAll σ is vs) H2 s2 := R2.unadd R.zs R.z0 nm
      obtain ⟨ow3, R3, o3⟩ := R2'.put (r := .nd xs) (Hs := H) ⟨p, us, rfl, hs, nz, nm, h0, R2, R1.atZ e2 (.inr rfl) nm ep, ek, R1.fzl e2 l1⟩ n (hil vs)
      exact k _ (.ref p :: vs) H2 ow3 (by simp [hl]) w2 R3 ((e1.trans eZ).put o3)
end
section
variable {X : Cx} {F : Fm} {E : XC} {Γ : Env} {a b c tg : Expr} {ia ib ic : Ex} {pos : Pos}
theorem sb_nil : SBX X F E Γ [] [] := PSsimp pss_nil fun D σ H h => by
  obtain ⟨ow, s, n, R, w, _, c⟩ := h
  exact c.nx s σ H ow w R (Eff.refl _ _ _ _) rfl
theorem sb_cons {st : Stmt} {sts : List Stmt} {x : Sx} {xs : List Sx} (h : SSX X F E Γ st x) (hs : SBX X F E Γ sts xs) : SBX X F E Γ (st :: sts) (x :: xs) := PSsimp (pss_cons h hs) fun D σ H h => by
  obtain ⟨ow, s, n, R, w, he, c⟩ := h
  exact ⟨ow, s, _, R, w, he, ⟨fun s1 σ1 H1 ow1 w1 R1 e1 l1 => ⟨ow1, s1, n, R1, w1, he, l1 ▸ c.shift e1⟩, c.bk, c.ct, c.rt⟩⟩
theorem ss_ret (ha : SX X F E Γ a ia) : SSX X F E Γ (.Return (some a) pos) (.ret ia) := PSimp (ps_ret ha) fun D σ H h => by
  obtain ⟨ow, s, n, R, w, he, c⟩ := h
  subst he
  exact ⟨F.Z0, ow, s, _, R, w, fun r s1 v1 H1 ow1 w1 rr e1 => c.rt r s1 v1 σ H1 ow1 w1 rr e1⟩
theorem ss_retN : SSX X F E Γ (.Return none pos) .retN := PSimp ps_retN fun D σ H h => by
  obtain ⟨ow, s, n, R, w, he, c⟩ := h
  exact c.rt (.fz .non) s _ σ H ow w ⟨R, .non⟩ (Eff.refl _ _ _ _)
theorem ss_pass : SSX X F E Γ (.Pass pos) .pass := PSimp ps_pass fun D σ H h => by
  obtain ⟨ow, s, n, R, w, he, c⟩ := h
  exact c.nx s σ H ow w R (Eff.refl _ _ _ _) rfl
theorem ss_brk : SSX X F E Γ (.Break pos) .brk := PSimp ps_break fun D σ H h => by
  obtain ⟨ow, s, n, R, w, he, c⟩ := h
  exact c.bk s σ H ow w R (Eff.refl _ _ _ _) rfl
theorem ss_cont : SSX X F E Γ (.Continue pos) .cont := PSimp ps_continue fun D σ H h => by
  obtain ⟨ow, s, n, R, w, he, c⟩ := h
  exact c.ct s σ H ow w R (Eff.refl _ _ _ _) rfl
theorem ss_if {xs ys : List Stmt} {ix iy : List Sx} (hc : TX X F E Γ c ic) (ha : SBX X F E Γ xs ix) (hb : SBX X F E Γ ys iy) : SSX X F E Γ (.If c xs ys pos) (.ite ic ix iy) := PSimp (ps_if hc ha hb) fun D σ H h => by
  obtain ⟨ow, s, n, R, w, he, ct⟩ := h
  subst he
  refine ⟨F.Z0, ow, s, _, R, w, fun b s1 H1 ow1 w1 R1 e1 => ?_⟩
  cases b with
  | true => exact iteT ⟨ow1, s1, n, R1, w1, rfl, ct.shift e1⟩
  | false => exact iteF ⟨ow1, s1, n, R1, w1, rfl, ct.shift e1⟩
theorem asg_ok {i : Nat} {f : M R} {D : Ends} {σ : L2.St} {H : Hp} (hi : i < σ.length) (h : LS F E (mS (bnd f (store i))) D σ H) : tAsg (LR F E f) (gName i) D σ H := by
  obtain ⟨ow, s, n, R, w, he, ct⟩ := h
  subst he
  refine ⟨F.Z0, ow, s, _, R, w, fun r s1 v1 H1 ow1 w1 rr e1 => ?_⟩
  obtain ⟨nio, w1⟩ := (show isIo (gt s1.sl i) = false ∧ n.nx (setS i r s1) from w1)
  obtain ⟨ow2, R2, o2⟩ := R.put rr nio hi
  exact ct.nx _ _ _ ow2 w1 R2 (e1.put o2) (set_len _ _ _)
theorem ss_asg (g : Gd X F E) (i : Nat) {x : Str} {pos' : Pos} (ha : SX X F E Γ a ia) (hi : X.N[i]? = some x := by rfl) (hx : Loc X.env.scope x := by first | exact Or.inl rfl | exact Or.inr rfl) (hs : swapsWith a (some (.Name x pos')) pos.line X.env = pure false := by rfl) (hf : X.fn x = true ∨ X.env.scope.names.lookup x = some .local := by first | exact .inl rfl | exact .inr rfl) :
    SSX X F E Γ (.Assign [.Name x pos'] a pos) (.asg i ia) := PSimp (ps_len (ps_set (i := i) g.nd hi hx ha hs hf)) fun D σ H h hl => asg_ok (by rw [hl]; exact (List.getElem?_eq_some_iff.mp hi).1) h
/-- name = [..] on one line, the name a local -/
theorem ss_asgLc (g : Gd X F E) (i : Nat) {y : Str} {py : Pos} {elt tg iter : Expr} {ifs : List Expr} {scope : Scope} {own : List (Str × Nat)} {isrc ielt : Ex} {iifs : List Ex} {t : Tg} {gr : TG} {spos : Pos} (hy : X.N[i]? = some y) (hyl : X.env.scope.names.lookup y = some .local)
    (hsw : swapsWith (.ListComp elt [⟨tg, iter, ifs, 0⟩] scope pos) (some (.Name y py)) spos.line X.env = pure true) (hi : IX X F E Γ tg iter isrc) (ok : BlkOk X.N X.env.scope scope own) (ho : own.map (·.2) = t.ix) (hs : TgS F t gr)
    (hg : ∀ (s : Shared) (H : Hp) (C : Addr) (cl : List (Str × Addr)) (fp : List Addr), PG (X.blk s H scope (compEnvC scope cl C X.env) fp) tg gr)
    (ht : ∀ (s : Shared) (H : Hp) (C : Addr) (cl : List (Str × Addr)) (fp : List Addr), PTs (X.blk s H scope (compEnvC scope cl C X.env) fp) ifs (LT F noX (evTs Γ iifs)))
    (he : ∀ (s : Shared) (H : Hp) (C : Addr) (cl : List (Str × Addr)) (fp : List Addr), SX (X.blk s H scope (compEnvC scope cl C X.env) fp) F noX Γ elt ielt) (hf : ∀ x, foldedSetIterable iter X.env x = pure x := by intro _; rfl) :
    SSX X F E Γ (.Assign [.Name y py] (.ListComp elt [⟨tg, iter, ifs, 0⟩] scope pos) spos) (.asg i (.lc isrc t iifs ielt)) := PSimp (ps_len (ps_setLc g.calm g.nd hy hyl hsw hi ok hg ht he hf)) fun D σ H h hl => by
  rw [ho]
  have q := asg_ok (by rw [hl]; exact (List.getElem?_eq_some_iff.mp hy).1) h
  exact lr_lc (fun i hi => by rw [hl]; exact ix_lt ok ho i hi) hs q
theorem ss_asgT (g : Gd X F E) {tg : Expr} {t : Tg} {gr : TG} (ha : SX X F E Γ a ia) (ht : TgS F t gr) (hg : PG X tg gr) (hx' : (t.ix.all fun i => decide (i < X.N.length)) = true := by rfl) (hs : swapsWithSole [tg] a pos.line X.env = pure false := by rfl) (hw : swappedStores [tg] a X.env = pure none := by rfl)
    (h1 : (assignEach [tg] X.env).map (·.2) = [assign tg X.env] := by rfl) : SSX X F E Γ (.Assign [tg] a pos) (.asgT t ia) := PSimp (ps_len (ps_asg ha hg hs hw h1)) fun D σ H h hl => by
  obtain ⟨ow, s, n, R, w, he, ct⟩ := h
  subst he
  refine ⟨F.Z0, ow, s, _, R, w, fun r s1 v1 H1 ow1 w1 rr e1 => ?_⟩
  obtain ⟨R1, z1⟩ := rr.fz' R
  exact ht F.Z0 ow1 σ H1 s1 n.ex v1 r.d _ _ (fun i hi => by rw [hl]; exact of_decide_eq_true (List.all_eq_true.mp hx' i hi)) R1 z1 w1 fun s2 σ2 ow2 w2 R2 e2 l2 _ => ct.nx s2 σ2 H1 ow2 w2 R2 (e1.trans e2) l2
theorem set_comm2 {σ : L2.St} {i j : Nat} {v w : V} (h : i ≠ j) : setAll σ [i, j] [v, w] = (σ.set i (some v)).set j (some w) := by
  show (σ.set j (some w)).set i (some v) = _
  rw [List.set_comm _ _ h.symm]
theorem ss_par2 (g : Gd X F E) (i j : Nat) {x y : Str} {px py pt : Pos} {kt k2 : Nat} {pt2 : Pos} (ha : SX X F E Γ a ia) (hb : SX X F E Γ b ib) (hij : i ≠ j := by decide) (hi : X.N[i]? = some x := by rfl) (hj : X.N[j]? = some y := by rfl) (hx : X.env.scope.names.lookup x = some .local := by rfl) (hy : X.env.scope.names.lookup y = some .local := by rfl)
    (hs1 : starEach [a, b] X.env = (false, eval a X.env) :: starEach [b] X.env := by rfl) (hs2 : starEach [b] X.env = (false, eval b X.env) :: starEach [] X.env := by rfl)
    (hw : swappedStores [.Tuple [.Name x px, .Name y py] kt pt] (.Tuple [a, b] k2 pt2) X.env = pure (some [x, y]) := by rfl)
    (hs : swapsWithSole [.Tuple [.Name x px, .Name y py] kt pt] (.Tuple [a, b] k2 pt2) pos.line X.env = pure false := by rfl) : SSX X F E Γ (.Assign [.Tuple [.Name x px, .Name y py] kt pt] (.Tuple [a, b] k2 pt2) pos) (.par [i, j] [ia, ib]) :=
  PSimp (ps_len (ps_par g.calm g.nd hi hj hij hx hy (pa_cons ha (pa_cons hb pa_nil hs2) hs1) hw hs)) fun D σ H h hl => by
    obtain ⟨ow, s, n, R, w, he, ct⟩ := h
    subst he
    have li : i < σ.length := by rw [hl]; exact (List.getElem?_eq_some_iff.mp hi).1
    have lj : j < σ.length := by rw [hl]; exact (List.getElem?_eq_some_iff.mp hj).1
    refine par_ok (fs := [(evP Γ ia).r, (evP Γ ib).r]) (is := [i, j]) R w (fun z hz => by rcases List.mem_cons.mp hz with rfl | hz; exact li; rw [List.mem_singleton.mp hz]; exact lj) fun s1 vs H1 ow1 hv w1 R1 e1 => ?_
    match vs, hv with
    | [v, u], _ => exact ⟨v, u, rfl, ct.nx s1 _ H1 ow1 w1 (by rw [← set_comm2 hij]; exact R1) e1 (by simp)⟩
theorem set_comm3 {σ : L2.St} {i j l : Nat} {v w u : V} (h : i ≠ j) (h2 : i ≠ l) (h3 : j ≠ l) : setAll σ [i, j, l] [v, w, u] = ((σ.set i (some v)).set j (some w)).set l (some u) := by
  show ((σ.set l (some u)).set j (some w)).set i (some v) = _
  rw [List.set_comm _ _ h3.symm, List.set_comm _ _ h2.symm, List.set_comm _ _ h.symm]
theorem ss_par3 (g : Gd X F E) (i j l : Nat) {x y z : Str} {px py pz pt : Pos} {kt k2 : Nat} {pt2 : Pos} (ha : SX X F E Γ a ia) (hb : SX X F E Γ b ib) (hc : SX X F E Γ c ic) (hij : i ≠ j := by decide) (hil : i ≠ l := by decide) (hjl : j ≠ l := by decide) (hi : X.N[i]? = some x := by rfl) (hj : X.N[j]? = some y := by rfl) (hl : X.N[l]? = some z := by rfl)
    (hx : X.env.scope.names.lookup x = some .local := by rfl) (hy : X.env.scope.names.lookup y = some .local := by rfl) (hz : X.env.scope.names.lookup z = some .local := by rfl)
    (hs1 : starEach [a, b, c] X.env = (false, eval a X.env) :: starEach [b, c] X.env := by rfl) (hs2 : starEach [b, c] X.env = (false, eval b X.env) :: starEach [c] X.env := by rfl) (hs3 : starEach [c] X.env = (false, eval c X.env) :: starEach [] X.env := by rfl)
    (hw : swappedStores [.Tuple [.Name x px, .Name y py, .Name z pz] kt pt] (.Tuple [a, b, c] k2 pt2) X.env = pure (some [x, y, z]) := by rfl)
    (hs : swapsWithSole [.Tuple [.Name x px, .Name y py, .Name z pz] kt pt] (.Tuple [a, b, c] k2 pt2) pos.line X.env = pure false := by rfl) : SSX X F E Γ (.Assign [.Tuple [.Name x px, .Name y py, .Name z pz] kt pt] (.Tuple [a, b, c] k2 pt2) pos) (.par [i, j, l] [ia, ib, ic]) :=
  PSimp (ps_len (ps_par3 g.calm g.nd hi hj hl hij hil hjl hx hy hz (pa_cons ha (pa_cons hb (pa_cons hc pa_nil hs3) hs2) hs1) hw hs)) fun D σ H h hl' => by
    obtain ⟨ow, s, n, R, w, he, ct⟩ := h
    subst he
    have li : i < σ.length := by rw [hl']; exact (List.getElem?_eq_some_iff.mp hi).1
    have lj : j < σ.length := by rw [hl']; exact (List.getElem?_eq_some_iff.mp hj).1
    have ll : l < σ.length := by rw [hl']; exact (List.getElem?_eq_some_iff.mp hl).1
    refine par_ok (fs := [(evP Γ ia).r, (evP Γ ib).r, (evP Γ ic).r]) (is := [i, j, l]) R w (fun z hz => by rcases List.mem_cons.mp hz with rfl | hz; exact li; rcases List.mem_cons.mp hz with rfl | hz; exact lj; rw [List.mem_singleton.mp hz]; exact ll) fun s1 vs H1 ow1 hv w1 R1 e1 => ?_
    match vs, hv with
    | [v, u, t], _ => exact ⟨v, u, t, rfl, ct.nx s1 _ H1 ow1 w1 (by rw [← set_comm3 hij hil hjl]; exact R1) e1 (by simp)⟩
end
end PP

set_option Elab.async false
set_option linter.all false
set_option maxRecDepth 100000
set_option maxHeartbeats 2000000
namespace PP
open PySem L2
section
variable {F : Fm} {E : XC} {Z : AS} {ow : Ow} {σ : L2.St} {H : Hp} {s : S}
theorem Rep.kOw (R : Rep F Z ow σ H s) {i : Nat} {a : Addr} {o : HO} (h : ow i = some a) : Keep (Av' Z ow) Z H (upd H a o) := fun b u e n =>
  ⟨u, (upd_ne (fun q => n (.inr ⟨i, by rw [q]; exact h⟩))).trans e, .refl u, fun _ => rfl⟩
/-- the thing in a slot of one's own changes -/
theorem Rep.mut {i : Nat} {a : Addr} {o : HO} {q : P} (R : Rep F Z ow σ H s) (ho : ow i = some a) (hm : F.md a ∨ F.H0 a = none) (hi : i < s.sl.length) (hv : σ[i]? = some (some (.ref a))) (hq : ∀ d, q ≠ .fz d) (ok : SlOk F (Av' Z ow) (some a) (upd H a o) (.ref a) q) :
    Rep F Z ow σ (upd H a o) { s with sl := pt s.sl i (some q) } ∧ Eff F Z ow H ow (upd H a o) := by
  have nz : ¬ Z a := R.oz i a ho
  have k : Keep (Av' Z ow) Z H (upd H a o) := R.kOw ho
  refine ⟨⟨R.keep.upd hm, R.strm.keep (upd_ne fun e => nz (e ▸ R.zs _ (.inl rfl))) (upd_ne fun e => nz (e ▸ R.zs _ (.inr (.inl rfl)))) (by
    obtain ⟨u, hu, nu⟩ := R.onTb ho
    exact tbk_upd hu nu), R.mds, R.zs, R.z0, fun b z => by rw [upd_ne (by rintro rfl; exact nz z)]; exact R.zin b z, R.mdz, R.oz, R.od, fun j p e => ?_, by show (pt s.sl i _).length = _; rw [pt_len]; exact R.len, fun j p e => ?_⟩, ⟨fun b u e n => ⟨u, (upd_ne (fun q => n (.inr ⟨i, by rw [q]; exact ho⟩))).trans e, .refl u, fun _ => rfl⟩, fun i p h => .inl ⟨i, h⟩, fun b h => dm_upd b h⟩⟩
  · by_cases hj : j = i
    · subst hj; exact ⟨q, gt_pt_same hi, hq⟩
    · obtain ⟨q', h1, h2⟩ := R.oin j p e
      exact ⟨q', by show gt (pt s.sl i _) j = _; rw [gt_pt_ne hj]; exact h1, h2⟩
  · have e' : gt (pt s.sl i (some q)) j = some p := e
    by_cases hj : j = i
    · subst hj
      cases gt_pt_none e'
      exact ⟨_, hv, by rw [ho]; exact ok⟩
    · rw [gt_pt_ne hj] at e'
      obtain ⟨v, h1, ok'⟩ := R.sl j p e'
      exact ⟨v, h1, ok'.tr k (fun b z => .inl z) fun b e => upd_ne fun q => hj (R.od j i b e (by rw [q]; exact ho))⟩
/-- a slot that holds a list of one's own: where it stands; how it is changed -/
theorem Rep.ownL {i : Nat} (R : Rep F Z ow σ H s) (h : (∃ xs, gt s.sl i = some (.own xs)) ∨ ∃ xs, gt s.sl i = some (.io xs)) : ∃ a vs xs, σ[i]? = some (some (.ref a)) ∧ H a = some (.lst vs) ∧ FzL F.G (Av' Z ow) H vs xs ∧ (gt s.sl i = some (.own xs) ∨ gt s.sl i = some (.io xs)) ∧
    ∀ (vs' : List V) (xs' : List D), FzL F.G (Av' Z ow) H vs' xs' → ∀ q, (gt s.sl i = some (.own xs) → q = .own xs') → (gt s.sl i = some (.io xs) → q = .io xs') → Rep F Z ow σ (upd H a (.lst vs')) { s with sl := pt s.sl i (some q) } ∧ Eff F Z ow H ow (upd H a (.lst vs')) := by
  rcases h with ⟨xs, h⟩ | ⟨xs, h⟩
  · obtain ⟨v, hv, ok⟩ := R.sl i _ h
    obtain ⟨a, vs, rfl, e1, e2, e3, e4, l⟩ := ok
    refine ⟨a, vs, xs, hv, e4, l, .inl h, fun vs' xs' l' q hq _ => ?_⟩
    cases hq h
    exact R.mut e1 (.inr e3) (gt_lt h) hv (fun d => nofun) ⟨a, vs', rfl, rfl, e2, e3, upd_same, l'.keep (R.kOw e1)⟩
  · obtain ⟨v, hv, ok⟩ := R.sl i _ h
    obtain ⟨a, vs, rfl, e1, e2, e4, l⟩ := ok
    refine ⟨a, vs, xs, hv, e4, l, .inr h, fun vs' xs' l' q _ hq => ?_⟩
    cases hq h
    exact R.mut e1 (.inl e2) (gt_lt h) hv (fun d => nofun) ⟨a, vs', rfl, rfl, e2, upd_same, l'.keep (R.kOw e1)⟩
theorem has_own {i : Nat} {K : Unit → S → Prop} (w : qHas i s K E) : ((∃ xs, gt s.sl i = some (.own xs)) ∨ ∃ xs, gt s.sl i = some (.io xs)) ∧ K () s := by
  have w' : (match gt s.sl i with
    | some (.own _) => K () s
    | some (.io _) => K () s
    | _ => False) := w
  cases h : gt s.sl i with
  | none => rw [h] at w'; exact w'.elim
  | some q =>
    rw [h] at w'
    cases q with
    | own xs => exact ⟨.inl ⟨xs, rfl⟩, w'⟩
    | io xs => exact ⟨.inr ⟨xs, rfl⟩, w'⟩
    | fz _ => exact w'.elim
    | ownd _ => exact w'.elim
    | stm => exact w'.elim
end
section
variable {X : Cx} {F : Fm} {E : XC} {Γ : Env} {a b c tg : Expr} {ia ib ic : Ex} {pos : Pos}
theorem lr_pe_var {i : Nat} {σ : L2.St} {H : Hp} {v : V} {Q : VK} (h : σ[i]? = some (some v)) (q : Q v H) : tVar i σ H Q := ⟨v, h, q⟩
/-- xs.append(e), xs a slot -/
theorem ss_app (g : Gd X F E) (i : Nat) {x : Str} {px apos cpos : Pos} (ha : SX X F E Γ a ia) (hi : X.N[i]? = some x := by rfl) (hv : Vis X.env.scope x := by first | exact Or.inl rfl | exact Or.inr (Or.inl rfl) | exact Or.inr (Or.inr rfl)) (hd : (x == ("__debug__" : Str)) = false := by decide) (hcd : (x == ("__classdict__" : Str)) = false := by decide)
    (hbase : attributeBase (.Name x px) "append" X.env (eval (.Name x px) X.env) = eval (.Name x px) X.env := by rfl)
    (hfew : ((backTo cpos (starEach [a] X.env)).all (fun x => !x.1) && (backToKw cpos (keywordEach [] X.env)).all (fun x => x.1.isSome)
      && decide (([a] : List Expr).length + ([] : List Keyword).length + (if ([] : List Keyword).isEmpty then 0 else 1) < 30)) = true := by rfl)
    (hline : (apos.endLine == cpos.line) = true := by rfl) (hs : starEach [a] X.env = (false, eval a X.env) :: starEach [] X.env := by rfl) (hsw : swapsWith (.Call (.Attribute (.Name x px) "append" apos) [a] [] cpos) none pos.line X.env = pure false := by rfl) :
    SSX X F E Γ (.Expr (.Call (.Attribute (.Name x px) "append" apos) [a] [] cpos) pos) (.app i ia) :=
  PSimp (ps_expr (pe_bm PySem.F.plainAttrs_list PySem.F.slot_list_append PySem.F.type_list_append mt_append (pe_var hi hv hd hcd) (pa_cons ha pa_nil hs) hbase hfew hline hs rfl) hsw) fun D σ H h => by
    obtain ⟨ow, s, n, R, w, he, ct⟩ := h
    subst he
    obtain ⟨ho, w⟩ := has_own (show qHas i s (fun _ s => bnd (toD (evP Γ ia).r) (qApp i) s (fun _ s1 => n.nx s1) n.ex) n.ex from w)
    obtain ⟨p, vs, xs, hp, hH, l, hk, mu⟩ := R.ownL ho
    refine ⟨.ref p, hp, .inl ⟨rfl, _, SqL.of hH⟩, F.Z0, ow, s, _, R, w, fun r s1 v1 H1 ow1 w1 rr e1 => ?_⟩
    obtain ⟨R1, z1⟩ := rr.fz' R
    have w1' : (match gt s1.sl i with
      | some (.own xs) => xs.length < sizeLine ∧ n.nx { s1 with sl := pt s1.sl i (some (.own (xs ++ [r.d]))) }
      | some (.io xs) => xs.length < sizeLine ∧ n.nx { s1 with sl := pt s1.sl i (some (.io (xs ++ [r.d]))) }
      | _ => False) := w1
    have ho1 : (∃ xs, gt s1.sl i = some (.own xs)) ∨ ∃ xs, gt s1.sl i = some (.io xs) := by
      cases q : gt s1.sl i with
      | none => rw [q] at w1'; exact w1'.elim
      | some q' => cases q' with
        | own xs => exact .inl ⟨xs, rfl⟩
        | io xs => exact .inr ⟨xs, rfl⟩
        | fz _ => rw [q] at w1'; exact w1'.elim
        | ownd _ => rw [q] at w1'; exact w1'.elim
        | stm => rw [q] at w1'; exact w1'.elim
    obtain ⟨p1, vs1, xs1, hp1, hH1, l1, hk1, mu1⟩ := R1.ownL ho1
    rw [hp] at hp1; cases hp1
    rcases hk1 with hk1 | hk1
    · rw [hk1] at w1'
      refine ⟨p, vs1, v1, rfl, rfl, hH1, by rw [l1.length]; exact w1'.1, ?_⟩
      obtain ⟨R2, e2⟩ := mu1 (vs1 ++ [v1]) (xs1 ++ [r.d]) (l1.append (.one z1)) (.own (xs1 ++ [r.d])) (fun _ => rfl) (fun q => by rw [hk1] at q; cases q)
      exact ct.nx _ σ _ ow1 w1'.2 R2 (e1.trans e2) rfl
    · rw [hk1] at w1'
      refine ⟨p, vs1, v1, rfl, rfl, hH1, by rw [l1.length]; exact w1'.1, ?_⟩
      obtain ⟨R2, e2⟩ := mu1 (vs1 ++ [v1]) (xs1 ++ [r.d]) (l1.append (.one z1)) (.io (xs1 ++ [r.d])) (fun q => by rw [hk1] at q; cases q) (fun _ => rfl)
      exact ct.nx _ σ _ ow1 w1'.2 R2 (e1.trans e2) rfl
/-- for -/
theorem ss_for (g : Gd X F E) {iter : Expr} {body : List Stmt} {isrc : Ex} {ib : List Sx} {t : Tg} {gr : TG} (hp : PassesOwn (model X.prog X.w) X.A X.env X.xe) (hi : IX X F E Γ tg iter isrc) (ht : TgS F t gr) (hg : PG X tg gr) (hb : SBX X F E Γ body ib) (hx' : (t.ix.all fun i => decide (i < X.N.length)) = true := by rfl)
    (hf : ∀ x, foldedSetIterable iter X.env x = pure x := by intro _; rfl) : SSX X F E Γ (.For tg iter body [] pos) (.for_ t isrc ib) := PSimp (ps_len (ps_for hp g.calm hi hg hb hf)) fun D σ H h hl => by
  obtain ⟨ow, s, n, R, w, he, ct⟩ := h
  subst he
  refine ⟨F.Z0, ow, s, _, R, w, fun xs s1 J H1 ow1 w1 R1 e1 src => ?_⟩
  let W0 : Nat → L2.St → Hp → Prop := fun i σ' H' => i ≤ xs.length ∧ σ'.length = σ.length ∧ ∃ ow2 s2, Rep F F.Z0 ow2 σ' H' s2 ∧ Eff F F.Z0 ow1 H1 ow2 H' ∧ forGo t (exSs Γ ib) (xs.drop i) n s2
  refine ⟨fun i m σ' H' => m = xs.length - i ∧ W0 i σ' H', ⟨xs.length, by simp, Nat.zero_le _, rfl, ow1, s1, R1, Eff.refl _ _ _ _, w1⟩, ?_⟩
  rintro i m σ' H' ⟨rfl, hi, hl', ow2, s2, R2, e2, w2⟩
  by_cases hlt : i < xs.length
  · rw [drop_get hlt] at w2
    refine .inr ⟨src.go i ow2 H' hlt e2, W0 (i + 1), fun σ'' H'' p' => ⟨xs.length - (i + 1), by omega, rfl, p'⟩, fun x H3 hy => ?_⟩
    obtain ⟨R3, e3, z3⟩ := src.yld i xs[i] F.Z0 _ _ ow2 H' x H3 (by simp [hlt]) e2 (fun a z => .inl z) R2 hy
    refine ht F.Z0 ow2 σ' H3 s2 n.ex x _ _ _ (fun j hj => by rw [hl', hl]; exact of_decide_eq_true (List.all_eq_true.mp hx' j hj)) R3 z3 w2 fun s4 σ4 ow4 w4 R4 e4 l4 _ => ?_
    have hl4 : σ4.length = σ.length := l4.trans hl'
    have e24 := (e2.trans e3).trans e4
    refine ⟨ow4, s4, _, R4, w4, rfl, ⟨fun s5 σ5 H5 ow5 w5 R5 e5 l5 => ⟨hlt, l5.trans hl4, ow5, s5, R5, e24.trans e5, w5⟩, fun s5 σ5 H5 ow5 w5 R5 e5 l5 => ct.nx s5 σ5 H5 ow5 w5 R5 (e1.trans (e24.trans e5)) (l5.trans hl4),
      fun s5 σ5 H5 ow5 w5 R5 e5 l5 => ⟨hlt, l5.trans hl4, ow5, s5, R5, e24.trans e5, w5⟩, fun r s5 v5 σ5 H5 ow5 w5 R5 e5 => ct.rt r s5 v5 σ5 H5 ow5 w5 (R5.back (e1.trans e24).dm) (e1.trans (e24.trans e5))⟩⟩
  · have ei : i = xs.length := by omega
    subst ei
    rw [List.drop_length] at w2
    exact .inl ⟨src.stop ow2 H' e2, ct.nx s2 σ' H' ow2 w2 R2 (e1.trans e2) hl'⟩
end
end PP

set_option Elab.async false
set_option linter.all false
set_option maxRecDepth 100000
set_option maxHeartbeats 2000000
namespace PP
open PySem L2
/-! ### defs by contracts -/
inductive ArgsOk (G : Gc) (T : SA) (A : AS) (H : Hp) : List V → List (Option D) → Prop
  | nil : ArgsOk G T A H [] []
  | st {vs : List V} {as : List (Option D)} : ArgsOk G T A H vs as → ArgsOk G T A H (.ref T.s :: vs) (none :: as)
  | d {v : V} {d : D} {vs : List V} {as : List (Option D)} : Fz G A H v d → ArgsOk G T A H vs as → ArgsOk G T A H (v :: vs) (some d :: as)
theorem ArgsOk.length {G : Gc} {T : SA} {A : AS} {H : Hp} : ∀ {vs : List V} {as : List (Option D)}, ArgsOk G T A H vs as → vs.length = as.length
  | _, _, .nil => rfl
  | _, _, .st h => by simp [h.length]
  | _, _, .d _ h => by simp [h.length]
theorem ArgsOk.mono {G : Gc} {T : SA} {A B : AS} {H : Hp} (s : ∀ a, B a → A a) : ∀ {vs : List V} {as : List (Option D)}, ArgsOk G T A H vs as → ArgsOk G T B H vs as
  | _, _, .nil => .nil
  | _, _, .st h => .st (h.mono s)
  | _, _, .d z h => .d (z.mono fun a q => .inl (s a q)) (h.mono s)
theorem ArgsOk.append {G : Gc} {T : SA} {A : AS} {H : Hp} : ∀ {vs ws : List V} {as bs : List (Option D)}, ArgsOk G T A H vs as → ArgsOk G T A H ws bs → ArgsOk G T A H (vs ++ ws) (as ++ bs)
  | _, _, _, _, .nil, k => k
  | _, _, _, _, .st h, k => .st (h.append k)
  | _, _, _, _, .d z h, k => .d z (h.append k)
def RRc (G : Gc) (A : AS) (H H' : Hp) (v : V) : R → Prop
  | .fz d => Fz G A H' v d
  | .nl xs => ∃ p vs, v = .ref p ∧ H p = none ∧ H' p = some (.lst vs) ∧ FzL G (add A p) H' vs xs
  | .nd ds => ∃ p kvs, v = .ref p ∧ H p = none ∧ H' p = some (.dK kvs) ∧ kvs.map (·.1) = ds.map (·.1) ∧ FzL G (add A p) H' (kvs.map (·.2)) (ds.map (·.2))
def liftSp (G : Gc) (np : Nat) (con : Con) : Sp := fun vs H Q Ex => vs.length = np ∧ ∃ (T : SA) (A : AS) (as : List (Option D)) (c : Stm) (K : R → Stm → Prop) (e : XCc), StrOk T H c ∧ (∀ a, T.A a → A a) ∧ T.tb = G.tb ∧ (∀ a, A a → NT (H a)) ∧ ArgsOk G T A H vs as ∧ con as c K e ∧
  (∀ r c' v H', K r c' → Keep T.A A H H' → StrOk T H' c' → RRc G A H H' v r → Q v H') ∧ ∀ xn c' cls d H', e xn c' → Keep T.A A H H' → StrOk T H' c' → XcIs G A H' cls d xn → Ex cls d H'
theorem XcIs.mono {G : Gc} {A B : AS} {H : Hp} {cls : Value} {d : Option Addr} {xn : Xn} (s : ∀ a, B a → A a) (h : XcIs G A H cls d xn) : XcIs G B H cls d xn :=
  ⟨h.1, h.2.imp id fun ⟨dx, fs, e, n, hd, ek, l⟩ => ⟨dx, fs, e, fun z => n (s _ z), hd, ek, l.mono fun a z => .inl (s a z)⟩⟩
def slotOf : Option D → Option P
  | none => some .stm
  | some d => some (.fz d)
def startS (n : Nat) (as : List (Option D)) : List (Option P) := as.map slotOf ++ List.replicate (n - as.length) none
/-- the code keeps the contract -/
def ImplX (Γ : Env) (n : Nat) (con : Con) (code : List Sx) : Prop := ∀ as c K (e : XCc), con as c K e → exSs Γ code ⟨fun s => K (.fz .non) s.c, fun r s => K r s.c, fun _ => False, fun _ => False, fun xn s => e xn s.c⟩ ⟨startS n as, c⟩
/-- a contract that lets no error out -/
def NoErr (con : Con) : Prop := ∀ as c K e, con as c K e → con as c K noXc
def Impl (Γ : Env) (n : Nat) (con : Con) (code : List Sx) : Prop := ∀ as c K, con as c K noXc → exSs Γ code ⟨fun s => K (.fz .non) s.c, fun r s => K r s.c, fun _ => False, fun _ => False, noX⟩ ⟨startS n as, c⟩
theorem gt_eq : ∀ (l : List (Option P)) (i : Nat), gt l i = (l[i]?).join
  | [], i => by simp [gt]
  | x :: l, 0 => by simp [gt]
  | x :: l, i + 1 => by simp [gt, gt_eq l i]
theorem args_slot {G : Gc} {T : SA} {A : AS} {H : Hp} : ∀ {vs : List V} {as : List (Option D)} {i : Nat} {p : P} {n : Nat}, ArgsOk G T A H vs as → gt (startS n as) i = some p → ∃ v, vs[i]? = some v ∧ ((p = .stm ∧ v = .ref T.s) ∨ ∃ d, p = .fz d ∧ Fz G A H v d)
  | vs, as, i, p, n, h, e => by
    rw [gt_eq] at e
    unfold startS at e
    by_cases hi : i < as.length
    · rw [List.getElem?_append_left (by simpa using hi), List.getElem?_map] at e
      clear n
      induction h generalizing i with
      | nil => simp at hi
      | st h ih =>
        cases i with
        | zero => simp [slotOf] at e; subst e; exact ⟨_, rfl, .inl ⟨rfl, rfl⟩⟩
        | succ i => simpa using ih (i := i) (by simpa using e) (by simpa using hi)
      | d z h ih =>
        cases i with
        | zero => simp [slotOf] at e; subst e; exact ⟨_, rfl, .inr ⟨_, rfl, z⟩⟩
        | succ i => simpa using ih (i := i) (by simpa using e) (by simpa using hi)
    · rw [List.getElem?_append_right (by simpa using hi), List.getElem?_replicate] at e
      split at e <;> simp at e
theorem rep_start {G : Gc} {T : SA} {A : AS} {H : Hp} {vs : List V} {as : List (Option D)} {c : Stm} {N : List Str} (hs : StrOk T H c) (h1 : ∀ a, T.A a → A a) (h2 : T.tb = G.tb) (hA : ∀ a, A a → NT (H a)) (h : ArgsOk G T A H vs as) (hl : vs.length ≤ N.length) :
    Rep ⟨G, T, H, T.A, A⟩ A (fun _ => none) (start N vs) H ⟨startS N.length as, c⟩ := by
  refine ⟨Keep.refl _ _ _, hs, fun _ z => z, h1, fun a z => .inl z, hA, fun a z => .inl (h1 a z), fun _ _ e => (by cases e), fun _ _ _ e => (by cases e), fun _ _ e => (by cases e), ?_, fun i p e => ?_⟩
  · show (startS N.length as).length = (start N vs).length
    unfold startS L2.start
    simp [h.length]
  · obtain ⟨v, hv, q⟩ := args_slot h e
    refine ⟨v, ?_, ?_⟩
    · have hi : i < vs.length := (List.getElem?_eq_some_iff.mp hv).1
      unfold L2.start
      rw [List.getElem?_append_left (by simpa using hi), List.getElem?_map, hv]
      rfl
    · have sub : ∀ a, Av' A (fun _ => none) a → A a ∨ H a = none := fun a z => by
        rcases z with z | ⟨_, z⟩
        · exact .inl z
        · cases z
      rcases q with ⟨rfl, rfl⟩ | ⟨d, rfl, z⟩
      · exact ⟨rfl, rfl⟩
      · exact ⟨z.mono sub, rfl⟩
section
variable {P : Program} {w : World} {K : PySem.W.Frag} {mg : Str → Option Value} {base : Heap} {x qual : Str} {params : Arguments} {body : List Stmt} {scope : Scope} {dvs : List V} {kws : List (Str × V)} {f : Addr} {fd : FuncData}
theorem fn_end {G : Gc} {T : SA} {A' : AS} {H : Hp} {Q : VK} {K' : R → Stm → Prop} {N : List Str} {ex : XC} (kq : ∀ r c' v H', K' r c' → Keep T.A A' H H' → StrOk T H' c' → RRc G A' H H' v r → Q v H') {L : Nat} {D0 : Ends} (hD : D0 = { nx := fun _ H' => Q .non H', rt := Q }) :
    CT ⟨G, T, H, T.A, A'⟩ L (fun _ => none) H ⟨fun s => K' (.fz .non) s.c, fun r s => K' r s.c, fun _ => False, fun _ => False, ex⟩ D0 := by
  subst hD
  refine ⟨fun s' σ' H' ow' w R e _ => ?_, fun _ _ _ _ w => w.elim, fun _ _ _ _ w => w.elim, fun r s' v σ' H' ow' w R e => ?_⟩
  · exact kq (.fz .non) s'.c _ H' w R.keep R.strm .non
  · have sub : ∀ a, A' a → Av' A' ow' a ∨ H' a = none := fun a z => .inl (.inl z)
    cases r with
    | fz d => exact kq _ s'.c _ H' w R.1.keep R.1.strm (R.2.mono sub)
    | nl xs =>
      obtain ⟨p, us, rfl, _, nz, nm, h0, R, ep, l⟩ := R
      exact kq _ s'.c _ H' w R.keep R.strm ⟨p, us, rfl, h0, ep, l.mono fun a z => .inl (.inl z)⟩
    | nd xs =>
      obtain ⟨p, us, rfl, _, nz, nm, h0, R, ep, ek, l⟩ := R
      exact kq _ s'.c _ H' w R.keep R.strm ⟨p, us, rfl, h0, ep, ek, l.mono fun a z => .inl (.inl z)⟩
/-- a def keeps its contract: its text means the code, the code keeps it; no error -/
theorem fn_pure {G : Gc} {Γ : Env} {N ps : List Str} {k : Nat} {con : Con} {code : List Sx} (F : FunD K x qual params body scope dvs kws f fd) (S : FnScope N ps scope) (hN : ps.length ≤ N.length) (hK : K = G.K)
    (hd : ∀ (cdv : Value) (A : Around) (outer : List PySem.Env) (s : Shared) (H : Hp) (E : XK) (Fm : Fm), Fm.G = G → Gd (cxOf CX0 P w K mg base N qual scope f cdv A outer s H E).nox Fm noX → RoomG k (A.deeper (PyProof.Rows.envOfC qual scope s.heap.objs.size f cdv)) →
      SBX (cxOf CX0 P w K mg base N qual scope f cdv A outer s H E).nox Fm noX Γ body code)
    (hp : Impl Γ N.length con code) (hI : NoErr con) : FnOg P w K mg base CX0 (k + 1) f fd ps (liftSp G ps.length con) := by
  refine F.okg S (fun vs H Q E h => h.1) fun cdv A outer s H vs Q E hr h => ?_
  obtain ⟨hl, T, A', as, c, K', e, hs, h1, h2, hA, ha, hc, kq, _⟩ := h
  refine ⟨_, PSs.nox (hd cdv A outer s H E ⟨G, T, H, T.A, A'⟩ rfl ⟨hK, rfl, S.nd, hr.units, hr.g, takes_no, h2⟩ hr), ?_⟩
  have R0 := rep_start (N := N) hs h1 h2 hA ha (by rw [hl]; exact hN)
  exact ⟨fun _ => none, _, _, R0, hp as c K' (hI _ _ _ _ hc), rfl, fn_end (N := N) kq rfl⟩
/-- .. errors come out -/
theorem fn_pureX {G : Gc} {Γ : Env} {N ps : List Str} {k : Nat} {con : Con} {code : List Sx} (F : FunD K x qual params body scope dvs kws f fd) (S : FnScope N ps scope) (hN : ps.length ≤ N.length) (hK : K = G.K)
    (hd : ∀ (cdv : Value) (A : Around) (outer : List PySem.Env) (s : Shared) (H : Hp) (E : XK) (Fm : Fm) (Ex : XC), Fm.G = G → Gd (cxOf (CX P w) P w K mg base N qual scope f cdv A outer s H E) Fm Ex → RoomG k (A.deeper (PyProof.Rows.envOfC qual scope s.heap.objs.size f cdv)) →
      SBX (cxOf (CX P w) P w K mg base N qual scope f cdv A outer s H E) Fm Ex Γ body code)
    (hp : ImplX Γ N.length con code) : FnOg P w K mg base (CX P w) (k + 1) f fd ps (liftSp G ps.length con) := by
  refine F.okg S (fun vs H Q E h => h.1) fun cdv A outer s H vs Q E hr h => ?_
  obtain ⟨hl, T, A', as, c, K', e, hs, h1, h2, hA, ha, hc, kq, kx⟩ := h
  have tk : Takes (cxOf (CX P w) P w K mg base N qual scope f cdv A outer s H E) (wx ⟨G, T, H, T.A, A'⟩ fun xn s => e xn s.c) :=
    Takes.imp (takes_of (X := cxOf (CX P w) P w K mg base N qual scope f cdv A outer s H E) (E := E) rfl rfl rfl rfl) fun cls d σ' H' ⟨Z, ow, s', xn, R, xi, w⟩ => kx xn s'.c cls d H' w R.keep R.strm (xi.mono fun a z => by
      rcases R.z0 a z with q | q
      · exact .inl q
      · exact R.mdz a q)
  refine ⟨_, hd cdv A outer s H E ⟨G, T, H, T.A, A'⟩ (fun xn s => e xn s.c) rfl ⟨hK, rfl, S.nd, hr.units, hr.g, tk, h2⟩ hr, ?_⟩
  have R0 := rep_start (N := N) hs h1 h2 hA ha (by rw [hl]; exact hN)
  exact ⟨fun _ => none, _, _, R0, hp as c K' e hc, rfl, fn_end (N := N) kq rfl⟩
end
/-! ### a call -/
inductive AvOk (F : Fm) (Z : AS) (ow : Ow) (σ : L2.St) (H : Hp) : V → Av → Prop
  | st : AvOk F Z ow σ H (.ref F.T.s) .st
  | v {v : V} {x : VR} : VOk F Z ow σ H v x → AvOk F Z ow σ H v (.v x)
inductive AvOks (F : Fm) (Z : AS) (ow : Ow) (σ : L2.St) (H : Hp) : List V → List Av → Prop
  | nil : AvOks F Z ow σ H [] []
  | cons {v : V} {x : Av} {vs : List V} {xs : List Av} : AvOk F Z ow σ H v x → AvOks F Z ow σ H vs xs → AvOks F Z ow σ H (v :: vs) (x :: xs)
def LAv (F : Fm) (E : XC) (f : M Av) : TE := fun σ H Q => ∃ Z ow s K, Rep F Z ow σ H s ∧ f s K E ∧ ∀ x s' v H' ow', K x s' → Rep F Z ow' σ H' s' → AvOk F Z ow' σ H' v x → Eff F Z ow H ow' H' → Q v H'
def LAvs (F : Fm) (E : XC) (f : M (List Av)) : TA := fun σ H Q => ∃ Z ow s K, Rep F Z ow σ H s ∧ f s K E ∧ ∀ xs s' vs H' ow', K xs s' → Rep F Z ow' σ H' s' → AvOks F Z ow' σ H' vs xs → Eff F Z ow H ow' H' → Q vs H'
section
variable {F : Fm} {E : XC} {Z : AS} {ow ow1 : Ow} {σ : L2.St} {H H1 H' : Hp} {s : S} {v : V}
theorem AvOk.tr (R : Rep F Z ow σ H s) (e : Eff F Z ow H ow1 H1) {x : Av} (h : AvOk F Z ow σ H v x) : AvOk F Z ow1 σ H1 v x := by
  cases h with
  | st => exact .st
  | v h => exact .v (h.tr R e)
theorem lav_var {i : Nat} {Q : VK} (h : LAv F E (avOf (.var i) (qVar i)) σ H Q) : tVar i σ H Q := by
  obtain ⟨Z, ow, s, K, R, hf, hq⟩ := h
  have other : vwOf (.var i) (qVar i) s (fun x => K (.v x)) E → tVar i σ H Q := fun w =>
    lv_var (F := F) (E := E) (f := qVar i) ⟨Z, ow, s, fun x => K (.v x), R, w, fun x s' v H' ow' k R' o e => hq _ s' v H' ow' k R' (.v o) e⟩
  have w : (match gt s.sl i with
    | some .stm => K .st s
    | _ => vwOf (.var i) (qVar i) s (fun x => K (.v x)) E) := hf
  cases hg : gt s.sl i with
  | none => rw [hg] at w; exact other w
  | some q =>
    rw [hg] at w
    cases q with
    | stm =>
      obtain ⟨v, hv, rfl, _⟩ := R.sl i _ hg
      exact ⟨_, hv, hq _ s _ H ow w R .st (Eff.refl _ _ _ _)⟩
    | _ => exact other w
/-- arguments that stay -/
inductive BOk (F : Fm) (Z : AS) (ow : Ow) (H : Hp) : V → Option D → Prop
  | st : BOk F Z ow H (.ref F.T.s) none
  | d {v : V} {d : D} : Fz F.G (Av' Z ow) H v d → BOk F Z ow H v (some d)
def LB (F : Fm) (E : XC) (f : M (Option D)) : TE := fun σ H Q => ∃ Z ow s K, Rep F Z ow σ H s ∧ f s K E ∧ ∀ x s' v H' ow', K x s' → Rep F Z ow' σ H' s' → BOk F Z ow' H' v x → Eff F Z ow H ow' H' → Q v H'
def LBs (F : Fm) (E : XC) (f : M (List (Option D))) : TA := fun σ H Q => ∃ Z ow s K, Rep F Z ow σ H s ∧ f s K E ∧ ∀ xs s' vs H' ow', K xs s' → Rep F Z ow' σ H' s' → ArgsOk F.G F.T (Av' Z ow') H' vs xs → Eff F Z ow H ow' H' → Q vs H'
theorem ArgsOk.tr (R : Rep F Z ow σ H s) (e : Eff F Z ow H ow1 H1) : ∀ {vs : List V} {as : List (Option D)}, ArgsOk F.G F.T (Av' Z ow) H vs as → ArgsOk F.G F.T (Av' Z ow1) H1 vs as
  | _, _, .nil => .nil
  | _, _, .st h => .st (ArgsOk.tr R e h)
  | _, _, .d z h => .d (R.fz e z) (ArgsOk.tr R e h)
theorem lb_var {i : Nat} {Q : VK} (h : LB F E (bvOf (.var i) (qVar i)) σ H Q) : tVar i σ H Q := by
  obtain ⟨Z, ow, s, K, R, hf, hq⟩ := h
  have other : toD (qVar i) s (fun d => K (some d)) E → tVar i σ H Q := fun w =>
    lr_var (F := F) (E := E) ⟨Z, ow, s, fun r => K (some r.d), R, w, fun r s' v H' ow' k rr e => hq (some r.d) s' v H' ow' k (rr.fz' R).1 (.d (rr.fz' R).2) e⟩
  have w : (match gt s.sl i with
    | some .stm => K none s
    | _ => toD (qVar i) s (fun d => K (some d)) E) := hf
  cases hg : gt s.sl i with
  | none => rw [hg] at w; exact other w
  | some q =>
    rw [hg] at w
    cases q with
    | stm =>
      obtain ⟨v, hv, rfl, _⟩ := R.sl i _ hg
      exact ⟨_, hv, hq _ s _ H ow w R .st (Eff.refl _ _ _ _)⟩
    | _ => exact other w
theorem lb_val {f : M R} {Q : VK} (h : LB F E (bnd (toD f) fun d => ret (some d)) σ H Q) : LR F E f σ H Q := by
  obtain ⟨Z, ow, s, K, R, hf, hq⟩ := h
  exact ⟨Z, ow, s, _, R, hf, fun r s' v H' ow' k rr e => hq (some r.d) s' v H' ow' k (rr.fz' R).1 (.d (rr.fz' R).2) e⟩
theorem lbs_nil {Q : List V → Hp → Prop} (h : LBs F E (ret []) σ H Q) : tNil σ H Q := by
  obtain ⟨Z, ow, s, K, R, hf, hq⟩ := h
  exact hq [] s [] H ow hf R .nil (Eff.refl _ _ _ _)
theorem lbs_cons {Q : List V → Hp → Prop} {f : M (Option D)} {fs : M (List (Option D))} (h : LBs F E (bnd f fun a => bnd fs fun as => ret (a :: as)) σ H Q) : tCons (LB F E f) (LBs F E fs) σ H Q := by
  obtain ⟨Z, ow, s, K, R, hf, hq⟩ := h
  refine ⟨Z, ow, s, _, R, hf, fun x s1 v1 H1 ow1 k1 R1 o1 e1 => ⟨Z, ow1, s1, _, R1, k1, fun y s2 v2 H2 ow2 k2 R2 o2 e2 => hq (x :: y) s2 (v1 :: v2) H2 ow2 k2 R2 ?_ (e1.trans e2)⟩⟩
  cases o1 with
  | st => exact .st o2
  | d z => exact .d (R1.fz e2 z) o2
theorem lav_val {f : M R} {Q : VK} (h : LAv F E (bnd (toD f) fun d => ret (.v (.d d))) σ H Q) : LR F E f σ H Q := by
  obtain ⟨Z, ow, s, K, R, hf, hq⟩ := h
  exact ⟨Z, ow, s, _, R, hf, fun r s' v H' ow' k rr e => hq (.v (.d r.d)) s' v H' ow' k (rr.fz' R).1 (.v (rr.fz' R).2) e⟩
theorem lavs_nil {Q : List V → Hp → Prop} (h : LAvs F E (ret []) σ H Q) : tNil σ H Q := by
  obtain ⟨Z, ow, s, K, R, hf, hq⟩ := h
  exact hq [] s [] H ow hf R .nil (Eff.refl _ _ _ _)
theorem lavs_cons {Q : List V → Hp → Prop} {f : M Av} {fs : M (List Av)} (h : LAvs F E (bnd f fun a => bnd fs fun as => ret (a :: as)) σ H Q) : tCons (LAv F E f) (LAvs F E fs) σ H Q := by
  obtain ⟨Z, ow, s, K, R, hf, hq⟩ := h
  exact ⟨Z, ow, s, _, R, hf, fun x s1 v1 H1 ow1 k1 R1 o1 e1 => ⟨Z, ow1, s1, _, R1, k1, fun y s2 v2 H2 ow2 k2 R2 o2 e2 => hq (x :: y) s2 (v1 :: v2) H2 ow2 k2 R2 (.cons (o1.tr R1 e2) o2) (e1.trans e2)⟩⟩
/-- what is lent: lists of one's own -/
def lentA (Z : AS) (ow : Ow) (L : List Nat) : AS := fun a => Av' Z ow a ∧ ¬ ∃ i ∈ L, ow i = some a
def Lent (ow : Ow) (H : Hp) (L : List Nat) : Prop := ∀ i ∈ L, ∀ a, ow i = some a → ∃ us, H a = some (.lst us)
theorem resL_ok (R : Rep F Z ow σ H s) {x : VR} (h : VOk F Z ow σ H v x) {K : D → S → Prop} (w : resL x s K E) : ∃ d L, K d s ∧ Lent ow H L ∧ (∀ d' : D, x = .d d' → L = []) ∧ Fz F.G (lentA Z ow L) H v d := by
  cases x with
  | d d => exact ⟨d, [], w, fun _ h => (by cases h), fun _ _ => rfl, Fz.mono (fun a z => .inl z.1) h⟩
  | sl i =>
    have w' : (match gt s.sl i with
      | some (.fz d) => K d s
      | some (.own xs) => K (.lst xs) s
      | some (.io xs) => K (.lst xs) s
      | _ => False) := w
    have hv : σ[i]? = some (some v) := h
    cases hg : gt s.sl i with
    | none => rw [hg] at w'; exact w'.elim
    | some q =>
      rw [hg] at w'
      obtain ⟨v', hv', ok⟩ := R.sl i q hg
      rw [hv] at hv'; cases hv'
      cases q with
      | fz d => exact ⟨d, [], w', fun _ h => (by cases h), fun _ e => (by cases e), ok.1.mono fun a z => .inl z.1⟩
      | own xs =>
        obtain ⟨a, vs, rfl, e1, _, _, e2, l⟩ := ok
        refine ⟨_, [i], w', fun j hj b e => ?_, fun _ e => (by cases e), .lst (fun z => z.2 ⟨i, by simp, e1⟩) e2 (l.mono fun a z => .inl z.1)⟩
        rw [List.mem_singleton.mp hj, e1] at e; cases e; exact ⟨vs, e2⟩
      | io xs =>
        obtain ⟨a, vs, rfl, e1, _, e2, l⟩ := ok
        refine ⟨_, [i], w', fun j hj b e => ?_, fun _ e => (by cases e), .lst (fun z => z.2 ⟨i, by simp, e1⟩) e2 (l.mono fun a z => .inl z.1)⟩
        rw [List.mem_singleton.mp hj, e1] at e; cases e; exact ⟨vs, e2⟩
      | ownd ds => exact w'.elim
      | stm => exact w'.elim
theorem lentA_app {L L' : List Nat} : (∀ a, lentA Z ow (L ++ L') a → lentA Z ow L a) ∧ ∀ a, lentA Z ow (L ++ L') a → lentA Z ow L' a :=
  ⟨fun a z => ⟨z.1, fun ⟨i, hi, e⟩ => z.2 ⟨i, by simp [hi], e⟩⟩, fun a z => ⟨z.1, fun ⟨i, hi, e⟩ => z.2 ⟨i, by simp [hi], e⟩⟩⟩
def plainAv : Av → Bool
  | .st => true
  | .v (.d _) => true
  | _ => false
theorem resA_ok (R : Rep F Z ow σ H s) : ∀ {vs : List V} {as : List Av} {K : List (Option D) → S → Prop}, AvOks F Z ow σ H vs as → resA as s K E → ∃ ds L, K ds s ∧ Lent ow H L ∧ (as.all plainAv = true → L = []) ∧ ArgsOk F.G F.T (lentA Z ow L) H vs ds
  | _, _, K, .nil, w => ⟨[], [], w, fun _ h => (by cases h), fun _ => rfl, .nil⟩
  | _, _, K, .cons .st t, w => by
    obtain ⟨ds, L, w1, h1, h2, h3⟩ := resA_ok R t w
    exact ⟨none :: ds, L, w1, h1, fun h => h2 (by simpa [plainAv] using h), .st h3⟩
  | _, _, K, .cons (.v (x := x) hx) t, w => by
    obtain ⟨d, L, w1, h1, h2, h3⟩ := resL_ok R hx w
    obtain ⟨ds, L', w2, h1', h2', h3'⟩ := resA_ok R t w1
    refine ⟨some d :: ds, L ++ L', w2, fun i hi => ?_, fun h => ?_, .d (h3.mono fun a z => .inl (lentA_app.1 a z)) (h3'.mono fun a z => lentA_app.2 a z)⟩
    · rcases List.mem_append.mp hi with q | q
      · exact h1 i q
      · exact h1' i q
    · rw [List.all_cons, Bool.and_eq_true] at h
      cases x with
      | d d => rw [h2 d rfl, h2' h.2]; rfl
      | sl i => cases h.1
/-- behind a call -/
theorem Rep.called {Y : AS} {L : List Nat} {c' : Stm} (R : Rep F Z ow σ H s) (hL : Lent ow H L) (k : Keep F.T.A (lentA Z ow L) H H') (hs : StrOk F.T H' c') (y1 : ∀ a, Z a → Y a) (y2 : ∀ a, Y a → Z a ∨ (H a = none ∧ NT (H' a) ∧ ¬ F.md a)) :
    Rep F Y ow σ H' { s with c := c' } := by
  have tz : ∀ a, F.T.A a → Z a := R.zs
  have ztl : ∀ a, Z a → lentA Z ow L a := fun a z => ⟨.inl z, fun ⟨i, _, e⟩ => R.oz i a e z⟩
  have dm : ∀ a, H a ≠ none → H' a ≠ none := fun a h e => by
    by_cases q : F.T.A a
    · exact hs.i q e
    · exact h (k.none e q)
  have dmT : ∀ a, NT (H a) → NT (H' a) := fun a h => by
    by_cases q : F.T.A a
    · exact hs.it q
    · cases e : H a with
      | none => exact absurd e h.1
      | some o =>
        obtain ⟨o', e', l, _⟩ := k a o e q
        exact h.le e e' l
  have oeq : ∀ i a, ow i = some a → H' a = H a := fun i a e => by
    have na : ¬ F.T.A a := fun z => R.oz i a e (tz a z)
    cases q : H a with
    | none => exact absurd q (R.ojn e)
    | some o =>
      by_cases hl : ∃ j ∈ L, ow j = some a
      · obtain ⟨j, hj, ej⟩ := hl
        obtain ⟨us, hu⟩ := hL j hj a ej
        rw [q] at hu; cases hu
        exact k.at q na le_lst
      · exact k.atZ q na ⟨.inr ⟨i, e⟩, hl⟩
  refine ⟨R.keep.trans fun a o e m => ?_, hs, R.mds, fun a z => y1 a (R.zs a z), fun a z => (R.z0 a z).imp (y1 a) id, fun a z => ?_, fun a z => (R.mdz a z).imp (y1 a) id, fun i p e z => ?_, R.od, R.oin, R.len, fun i p e => ?_⟩
  · obtain ⟨o', e', l, zz⟩ := k a o e (fun z => m (R.mds a z))
    exact ⟨o', e', l, fun z0 => zz (ztl a ((R.z0 a z0).elim id fun q => absurd q m))⟩
  · rcases y2 a z with q | q
    · exact dmT a (R.zin a q)
    · exact q.2.1
  · rcases y2 p z with q | q
    · exact R.oz i p e q
    · exact R.ojn e q.1
  · obtain ⟨v, hv, ok⟩ := R.sl i p e
    exact ⟨v, hv, ok.tr (k.mono (fun a z => .inl (tz a z)) fun _ z => z : Keep (Av' Z ow) (lentA Z ow L) H H') (fun a z => z.elim (fun z => (y2 a z).imp .inl fun q => q.1) fun z => .inl (.inr z)) fun a e => oeq i a e⟩
theorem Eff.called {L : List Nat} {c' : Stm} (R : Rep F Z ow σ H s) (hL : Lent ow H L) (k : Keep F.T.A (lentA Z ow L) H H') (hs : StrOk F.T H' c') : Eff F Z ow H ow H' := by
  refine ⟨fun a o e m => ?_, fun i p h => .inl ⟨i, h⟩, fun a h e => ?_⟩
  · obtain ⟨o', e', l, zz⟩ := k a o e (fun z => m (.inl (R.mds a z)))
    exact ⟨o', e', l, fun z => zz ⟨.inl z, fun ⟨i, _, e⟩ => R.oz i a e z⟩⟩
  · by_cases q : F.T.A a
    · exact hs.i q e
    · exact h (k.none e q)
/-- the value of a call -/
theorem rr_called {L : List Nat} {c' : Stm} {r : R} (R : Rep F Z ow σ H s) (hL : Lent ow H L) (k : Keep F.T.A (lentA Z ow L) H H') (hs : StrOk F.T H' c') (h : RRc F.G (lentA Z ow L) H H' v r) (hp : L = [] ∨ sclR r = true) : RR F Z H ow σ H' { s with c := c' } v r := by
  have R' : Rep F Z ow σ H' { s with c := c' } := R.called hL k hs (fun _ z => z) fun a z => .inl z
  have l0 : L = [] → ∀ a, Av' Z ow a → lentA Z ow L a := fun e a z => by subst e; exact ⟨z, fun ⟨_, h, _⟩ => by cases h⟩
  cases r with
  | fz d =>
    rcases hp with e | e
    · exact ⟨R', Fz.mono (fun a z => .inl (l0 e a z)) h⟩
    · have hd : isScalar d = true := e
      rw [fz_sc hd h]
      exact ⟨R', fz_of_sc hd⟩
  | nl xs =>
    obtain ⟨p, us, rfl, hp0, ep, l⟩ := h
    rcases hp with e | e
    · obtain ⟨nm, n0, nz⟩ := R.new0 hp0
      refine ⟨p, us, rfl, hp0, fun z => nz (.inl z), nm, n0, R.called hL k hs (fun a z => .inl z) (fun a z => ?_), ep, l.mono fun a z => .inl ?_⟩
      · rcases z with z | rfl
        · exact .inl z
        · exact .inr ⟨hp0, .of ep nofun, nm⟩
      · rcases z with (z | rfl) | z
        · exact .inl (l0 e a (.inl z))
        · exact .inr rfl
        · exact .inl (l0 e a (.inr z))
    · cases e
  | nd xs =>
    obtain ⟨p, us, rfl, hp0, ep, ek, l⟩ := h
    rcases hp with e | e
    · obtain ⟨nm, n0, nz⟩ := R.new0 hp0
      refine ⟨p, us, rfl, hp0, fun z => nz (.inl z), nm, n0, R.called hL k hs (fun a z => .inl z) (fun a z => ?_), ep, ek, l.mono fun a z => .inl ?_⟩
      · rcases z with z | rfl
        · exact .inl z
        · exact .inr ⟨hp0, .of ep nofun, nm⟩
      · rcases z with (z | rfl) | z
        · exact .inl (l0 e a (.inl z))
        · exact .inr rfl
        · exact .inl (l0 e a (.inr z))
    · cases e
end
end PP

set_option Elab.async false
set_option linter.all false
set_option maxRecDepth 100000
set_option maxHeartbeats 4000000
namespace L2
open PySem PySem.Spec PyProof.Rows
theorem FnOg.cx {P : Program} {w : World} {K : PySem.W.Frag} {mg : Str → Option Value} {base : Heap} {k : Nat} {f : Addr} {fd : FuncData} {ps : List Str} {sp : Sp} (F : FnOg P w K mg base (fun _ _ _ _ _ _ => False) k f fd ps sp) : FnOg P w K mg base (CX P w) k f fd ps sp :=
  ⟨F.len, fun A outer s H args us vs Q E hr e0 hb r z => codeAny_mono (F.run A outer s H args us vs Q E hr e0 hb r z) fun r s' h => by
    cases r with
    | error e => exact h.elim
    | ok fl => cases fl <;> exact h⟩
/-- a def, its code object known -/
theorem FunD.okgC {P : Program} {w : World} {K : PySem.W.Frag} {mg : Str → Option Value} {base : Heap} {x qual : Str} {params : Arguments} {body : List Stmt} {scope : Scope} {dvs : List V} {kws : List (Str × V)} {f : Addr} {fd : FuncData} {CX : CXT} {N ps : List Str} {k : Nat} {sp : Sp} (F : FunD K x qual params body scope dvs kws f fd) (S : FnScope N ps scope) (len : ∀ vs H Q E, sp vs H Q E → vs.length = ps.length)
    (hbody : ∀ (cdv : Value) (A : Around) (outer : List Env) (s : Shared) (H : Hp) (vs : List V) (Q : VK) (E : XK), fd.code = cdv → RoomG k (A.deeper (envOfC qual scope s.heap.objs.size f cdv)) → sp vs H Q E →
      ∃ t, PSs (cxOf CX P w K mg base N qual scope f cdv A outer s H E) body t ∧ t { nx := fun _ H' => Q .non H', rt := Q } (start N vs) H) : FnOg P w K mg base CX (k + 1) f fd ps sp := by
  obtain ⟨oc, od, dV, kV, doc, pm, an, cdv, ct, osl, rfl, lk, hcd, _, _⟩ := F.ex
  exact fn_og lk hcd S len fun A outer s H vs Q E hr z => hbody cdv A outer s H vs Q E rfl hr z
/-! ### calls whose errors are wished of by the slots -/
def tMethx (C : Addr) (m : Str) (sp : Sp) (dvs : List V) (E : St → XK) (ta : TE) (t : TA) : TE := fun σ H Q => ta σ H fun x H1 => ∃ a dx fs, x = .ref a ∧ H1 a = some (.ins C dx fs) ∧ fs.lookup m = none ∧
  t σ H1 fun vs H2 => sp (x :: (vs ++ dvs)) H2 Q (E σ)
def tMakex (C : Addr) (sp : Sp) (dvs : List V) (E : St → XK) (t : TA) : TE := fun σ H Q => t σ H fun vs H1 => ∀ x dx, H1 x = none → H1 dx = none → dx ≠ x →
  sp (.ref x :: (vs ++ dvs)) (upd (upd H1 dx (.own x)) x (.ins C dx [])) (fun v H2 => v = .non ∧ Q (.ref x) H2) (E σ)
section
variable {X : Cx} {CX : CXT} {k : Nat} {f C : Addr} {fd : FuncData} {ps : List Str} {sp : Sp} {dvs : List V} {ds : List Value} {E : St → XK} {x m : Str} {p pos apos : Pos} {e o : Expr} {es : List Expr} {ta : TE} {t : TA}
theorem run_fx {pinz : List (Addr × Obj)} {σ : St} {H : Hp} {s : Shared} {Q : VK} {uz : List Value} {vs : List V} (F : FnOg X.prog X.w X.K X.mg X.base CX k f fd ps sp) (hr : RoomG k X.A) (hb : Binds X.K fd ps ds) (hd : Vals dvs ds) (hx : ∀ σ, PassesAt CX X σ (E σ))
    (I : Inv X pinz σ H s) (r : Vals vs uz) (h : sp (vs ++ dvs) H Q (E σ)) : wpAny (model X.prog X.w) X.A (call (.ref f) uz) (EP X pinz σ Q) X.xe s := by
  have rr2 : Vals (vs ++ dvs) (uz ++ ds) := r.append hd
  have hln : (uz ++ ds).length = ps.length := by rw [← rr2.length]; exact F.len _ _ _ _ h
  refine wpAny_call (codeAny_mono (F.run X.A X.stack s H ⟨uz, []⟩ (uz ++ ds) (vs ++ dvs) Q (E σ) hr I.env0 (hb s uz I.kIn hln) rr2 h) fun r sz hqq => ?_)
  cases r with
  | error e => exact hx σ pinz H s e sz I hqq
  | ok flw =>
    cases flw with
    | ret u => exact I.after hqq
    | next => exact False.elim hqq
    | brk => exact False.elim hqq
    | cont => exact False.elim hqq

theorem pe_callx (F : FnOg X.prog X.w X.K X.mg X.base CX k f fd ps sp) (hr : RoomG k X.A) (hg : Gl X x) (hm : X.mg x = some (.ref f)) (hk : PySem.W.keepIn X.K (.ref f) = true) (hb : Binds X.K fd ps ds) (hd : Vals dvs ds) (hx : ∀ σ, PassesAt CX X σ (E σ))
    (ha : PA X (e :: es) t) (hdb : (x == ("__debug__" : Str)) = false := by decide) (he : starEach (e :: es) X.env = (false, eval e X.env) :: starEach es X.env := by rfl) (hpl : (backTo pos (starEach es X.env)).any (·.1) = false := by rfl) :
    PE X (.Call (.Name x p) (e :: es) [] pos) (tCallSD sp dvs E t) := by
  refine ⟨fun pinz s σ H Q I h => ?_⟩
  refine wpAny_Call_Name_kw (ld_glob I hg hm ?_ hdb)
  refine PySem.W.callWith_K (h₀ := X.base) I.ok.mod.kin hk (thn (ha.run pos pinz s σ H _ I h) fun uz sy ⟨vs, H1, J1, r, q⟩ => ⟨J1.kIn, ?_⟩) he hpl
  exact run_fx F hr hb hd hx J1 r q
theorem pe_callx0 (F : FnOg X.prog X.w X.K X.mg X.base CX k f fd ps sp) (hr : RoomG k X.A) (hg : Gl X x) (hm : X.mg x = some (.ref f)) (hk : PySem.W.keepIn X.K (.ref f) = true) (hb : Binds X.K fd ps ds) (hd : Vals dvs ds) (hx : ∀ σ, PassesAt CX X σ (E σ))
    (hdb : (x == ("__debug__" : Str)) = false := by decide) : PE X (.Call (.Name x p) [] [] pos) (tCallSD sp dvs E tNil) := by
  refine ⟨fun pinz s σ H Q I h => ?_⟩
  refine wpAny_Call_Name_kw (ld_glob I hg hm ?_ hdb)
  exact PySem.W.callWith_K0 I.kIn hk (run_fx (uz := []) F hr hb hd hx I .nil h)

theorem pe_methx {pl : Sem Bool} (he : PE X o ta) (c : Cls X.K C) (hm : Meth X.K C m f) (F : FnOg X.prog X.w X.K X.mg X.base CX k f fd ps sp) (hr : RoomG k X.A) (hb : Binds X.K fd ps ds) (hd : Vals dvs ds) (hx : ∀ σ, PassesAt CX X σ (E σ)) (ha : PA X (e :: es) t)
    (hst : starEach (e :: es) X.env = (false, eval e X.env) :: starEach es X.env := by rfl) (hpl : (backTo pos (starEach es X.env)).any (·.1) = false := by rfl)
    (ht : eval (.Call (.Attribute o m apos) (e :: es) [] pos) X.env = (do
      let ov ← eval o X.env
      standAt apos.atName
      let (f, first) ← holding [ov] (getMethod ov m pl)
      callWith pos f first (backTo pos (starEach (e :: es) X.env)) (backToKw pos (keywordEach [] X.env))) := by rfl) :
    PE X (.Call (.Attribute o m apos) (e :: es) [] pos) (tMethx C m sp dvs E ta t) := by
  refine ⟨fun pinz s σ H Q I h => ?_⟩
  refine PySem.W.methodCall_KW (pl := pl) (thn (he.run pinz s σ H _ I h) fun u sy ⟨x, H1, J1, rx, a, dx, fs, ex, ea, l, q⟩ => ?_) ht
  subst ex
  obtain rfl : u = Value.ref a := rx
  refine getmeth_ok J1 ea c hm l ?_
  refine PySem.W.callWith_K (first := [.ref a]) (h₀ := X.base) I.ok.mod.kin hm.kp (thn (ha.run pos pinz sy σ H1 _ J1 q) fun uz s2 ⟨vs, H2, J2, r, qq2⟩ => ⟨J2.kIn, ?_⟩) hst hpl
  exact run_fx (uz := .ref a :: uz) (vs := .ref a :: vs) F hr hb hd hx J2 (.cons rfl r) qq2
/-- o.m() -/
theorem pe_methx0 {pl : Sem Bool} (he : PE X o ta) (c : Cls X.K C) (hm : Meth X.K C m f) (F : FnOg X.prog X.w X.K X.mg X.base CX k f fd ps sp) (hr : RoomG k X.A) (hb : Binds X.K fd ps ds) (hd : Vals dvs ds) (hx : ∀ σ, PassesAt CX X σ (E σ))
    (ht : eval (.Call (.Attribute o m apos) [] [] pos) X.env = (do
      let ov ← eval o X.env
      standAt apos.atName
      let (f, first) ← holding [ov] (getMethod ov m pl)
      callWith pos f first (backTo pos (starEach [] X.env)) (backToKw pos (keywordEach [] X.env))) := by rfl) :
    PE X (.Call (.Attribute o m apos) [] [] pos) (tMethx C m sp dvs E ta tNil) := by
  refine ⟨fun pinz s σ H Q I h => ?_⟩
  refine PySem.W.methodCall_KW (pl := pl) (thn (he.run pinz s σ H _ I h) fun u sy ⟨x, H1, J1, rx, a, dx, fs, ex, ea, l, q⟩ => ?_) ht
  subst ex
  obtain rfl : u = Value.ref a := rx
  refine getmeth_ok J1 ea c hm l ?_
  exact PySem.W.callWith_K0 (first := [.ref a]) J1.kIn hm.kp (run_fx (uz := [.ref a]) (vs := [.ref a]) F hr hb hd hx J1 (.cons rfl .nil) q)

theorem run_makex {pinz : List (Addr × Obj)} {σ : St} {H : Hp} {s : Shared} {Q : VK} {uz : List Value} {vs : List V} (M : Mk X.K C f) (F : FnOg X.prog X.w X.K X.mg X.base CX k f fd ps sp) (hr : RoomG (k + 1) X.A) (hb : Binds X.K fd ps ds) (hd : Vals dvs ds)
    (hx : ∀ σ, PassesAt CX X σ (E σ)) (I : Inv X pinz σ H s) (r : Vals vs uz)
    (h : ∀ x dx, H x = none → H dx = none → dx ≠ x → sp (.ref x :: (vs ++ dvs)) (upd (upd H dx (.own x)) x (.ins C dx [])) (fun v H2 => v = .non ∧ Q (.ref x) H2) (E σ)) :
    wpAny (model X.prog X.w) X.A (call (.ref C) uz) (EP X pinz σ Q) X.xe s := by
  have hqq := h (s.heap.objs.size + 1) s.heap.objs.size (I.hok.fresh (Nat.le_succ _)) (I.hok.fresh (Nat.le_refl _)) (Nat.ne_of_lt (Nat.lt_succ_self _))
  have J2 := Inv.made (C := C) I
  have rr2 : Vals (V.ref (s.heap.objs.size + 1) :: (vs ++ dvs)) (Value.ref (s.heap.objs.size + 1) :: (uz ++ ds)) := .cons rfl (r.append hd)
  have hln : (Value.ref (s.heap.objs.size + 1) :: uz ++ ds).length = ps.length := by
    have e := rr2.length
    rw [F.len _ _ _ _ hqq] at e
    exact e.symm
  refine wpAny_call (make_map (f := f) I.kIn M.makes M.init (beq_iff_eq.mp M.fn) (codeAny_mono (F.run _ X.stack _ _ ⟨Value.ref (s.heap.objs.size + 1) :: uz, []⟩ (Value.ref (s.heap.objs.size + 1) :: (uz ++ ds)) _ _ (E σ) (hr.make C uz [])
    (J2.env0.make C uz []) (hb _ (Value.ref (s.heap.objs.size + 1) :: uz) J2.kIn hln) rr2 hqq) fun r sz hqz => ?_))
  cases r with
  | error e => exact hx σ pinz _ _ e sz J2 hqz
  | ok flw =>
    cases flw with
    | ret u =>
      obtain ⟨v, H', I3, rvl, ev, q3⟩ := J2.after hqz
      subst ev
      exact ⟨rvl, ⟨V.ref (s.heap.objs.size + 1), H', I3, rfl, q3⟩⟩
    | next => exact False.elim hqz
    | brk => exact False.elim hqz
    | cont => exact False.elim hqz
theorem pe_makex (M : Mk X.K C f) (F : FnOg X.prog X.w X.K X.mg X.base CX k f fd ps sp) (hr : RoomG (k + 1) X.A) (hg : Gl X x) (hm : X.mg x = some (.ref C)) (hb : Binds X.K fd ps ds) (hd : Vals dvs ds) (hx : ∀ σ, PassesAt CX X σ (E σ))
    (ha : PA X (e :: es) t) (hdb : (x == ("__debug__" : Str)) = false := by decide) (he : starEach (e :: es) X.env = (false, eval e X.env) :: starEach es X.env := by rfl) (hpl : (backTo pos (starEach es X.env)).any (·.1) = false := by rfl) :
    PE X (.Call (.Name x p) (e :: es) [] pos) (tMakex C sp dvs E t) := by
  refine ⟨fun pinz s σ H Q I h => ?_⟩
  refine wpAny_Call_Name_kw (ld_glob I hg hm ?_ hdb)
  refine PySem.W.callWith_K (h₀ := X.base) I.ok.mod.kin M.kp (thn (ha.run pos pinz s σ H _ I h) fun uz sy ⟨vs, H1, J1, r, q⟩ => ⟨J1.kIn, ?_⟩) he hpl
  exact run_makex M F hr hb hd hx J1 r q
theorem pe_makex0 (M : Mk X.K C f) (F : FnOg X.prog X.w X.K X.mg X.base CX k f fd ps sp) (hr : RoomG (k + 1) X.A) (hg : Gl X x) (hm : X.mg x = some (.ref C)) (hb : Binds X.K fd ps ds) (hd : Vals dvs ds) (hx : ∀ σ, PassesAt CX X σ (E σ))
    (hdb : (x == ("__debug__" : Str)) = false := by decide) : PE X (.Call (.Name x p) [] [] pos) (tMakex C sp dvs E tNil) := by
  refine ⟨fun pinz s σ H Q I h => ?_⟩
  refine wpAny_Call_Name_kw (ld_glob I hg hm ?_ hdb)
  exact PySem.W.callWith_K0 I.kIn M.kp (run_makex (uz := []) M F hr hb hd hx I .nil h)
end
end L2

set_option Elab.async false
set_option linter.all false
set_option maxRecDepth 100000
set_option maxHeartbeats 2000000
namespace PP
open PySem L2
/-- a def that the module's name x stands for -/
structure FnE (P : Program) (w : World) (K : PySem.W.Frag) (mg : Str → Option Value) (base : Heap) (G : Gc) (k : Nat) (x : Str) (con : Con) (dfl : List D) (nd : Nat) : Prop where
  ok : ∃ f fd ps dvs ds, FnOg P w K mg base (L2.CX P w) k f fd ps (liftSp G ps.length con) ∧ mg x = some (.ref f) ∧ PySem.W.keepIn K (.ref f) = true ∧ Binds K fd ps ds ∧ Vals dvs ds ∧ (∀ as c K e, con as c K e → as.length = ps.length) ∧ ∀ T A H, ArgsOk G T A H dvs (dflTail dfl nd)
/-- a method of the class c -/
structure MtE (P : Program) (w : World) (K : PySem.W.Frag) (mg : Str → Option Value) (base : Heap) (G : Gc) (k : Nat) (c m : Str) (con : Con) (dfl : List D) (nd : Nat) : Prop where
  ok : ∃ f fd ps dvs ds, FnOg P w K mg base (L2.CX P w) k f fd ps (liftSp G ps.length con) ∧ Cls K (G.ga c) ∧ Meth K (G.ga c) m f ∧ Binds K fd ps ds ∧ Vals dvs ds ∧ (∀ as c K e, con as c K e → as.length = ps.length) ∧ ∀ T A H, ArgsOk G T A H dvs (dflTail dfl nd)
/-- a class c, made by its __init__ -/
structure MkE (P : Program) (w : World) (K : PySem.W.Frag) (mg : Str → Option Value) (base : Heap) (G : Gc) (k : Nat) (c : Str) (con : Con) (dfl : List D) (nd : Nat) : Prop where
  ok : ∃ f fd ps spI dvs ds, FnOg P w K mg base (L2.CX P w) k f fd ps spI ∧ Mk K (G.ga c) f ∧ mg c = some (.ref (G.ga c)) ∧ Binds K fd ps ds ∧ Vals dvs ds ∧
    ∀ (vs : List V) (H : Hp) (Q : VK) (Ex : XK), (∃ T A as n K' e, StrOk T H n ∧ (∀ a, T.A a → A a) ∧ T.tb = G.tb ∧ (∀ a, A a → NT (H a)) ∧ ArgsOk G T A H vs as ∧ con (as ++ dflTail dfl nd) n K' e ∧ (∀ r c' v H', K' r c' → Keep T.A A H H' → StrOk T H' c' → RRc G A H H' v r → Q v H') ∧
        ∀ xn c' cls d H', e xn c' → Keep T.A A H H' → StrOk T H' c' → XcIs G A H' cls d xn → Ex cls d H') →
      ∀ x dx, H x = none → H dx = none → dx ≠ x → spI (.ref x :: (vs ++ dvs)) (upd (upd H dx (.own x)) x (.ins (G.ga c) dx [])) (fun v H2 => v = .non ∧ Q (.ref x) H2) Ex
abbrev AAX (X : Cx) (F : Fm) (E : XC) (Γ : Env) (es : List Expr) (irs : List Ex) : Prop := PA X es (LAvs F E (evA Γ irs))
abbrev ABX (X : Cx) (F : Fm) (E : XC) (Γ : Env) (es : List Expr) (irs : List Ex) : Prop := PA X es (LBs F E (evB Γ irs))
abbrev AA1 (X : Cx) (F : Fm) (E : XC) (Γ : Env) (e : Expr) (ir : Ex) : Prop := PE X e (LAv F E (avOf ir (evP Γ ir).r))
abbrev AB1 (X : Cx) (F : Fm) (E : XC) (Γ : Env) (e : Expr) (ir : Ex) : Prop := PE X e (LB F E (bvOf ir (evP Γ ir).r))
section
variable {X : Cx} {F : Fm} {E : XC} {Γ : Env} {a b c tg : Expr} {ia ib ic : Ex} {pos : Pos}
theorem ax1_var (i : Nat) {x : Str} (hN : X.N[i]? = some x := by rfl) (hv : Vis X.env.scope x := by first | exact Or.inl rfl | exact Or.inr (Or.inl rfl) | exact Or.inr (Or.inr rfl)) (hd : (x == ("__debug__" : Str)) = false := by decide)
    (hcd : (x == ("__classdict__" : Str)) = false := by decide) : AA1 X F E Γ (.Name x pos) (.var i) := PEimp (pe_var hN hv hd hcd) fun _ _ _ h => lav_var h
theorem bx1_var (i : Nat) {x : Str} (hN : X.N[i]? = some x := by rfl) (hv : Vis X.env.scope x := by first | exact Or.inl rfl | exact Or.inr (Or.inl rfl) | exact Or.inr (Or.inr rfl)) (hd : (x == ("__debug__" : Str)) = false := by decide)
    (hcd : (x == ("__classdict__" : Str)) = false := by decide) : AB1 X F E Γ (.Name x pos) (.var i) := PEimp (pe_var hN hv hd hcd) fun _ _ _ h => lb_var h
theorem avOf_eq {f : M R} {ir : Ex} (n : notVar ir = true) : avOf ir f = bnd (toD f) fun d => ret (.v (.d d)) := by
  cases ir <;> first | rfl | cases n
theorem bvOf_eq {f : M R} {ir : Ex} (n : notVar ir = true) : bvOf ir f = bnd (toD f) fun d => ret (some d) := by
  cases ir <;> first | rfl | cases n
theorem ax1 (h : SX X F E Γ a ia) (n : notVar ia = true := by rfl) : AA1 X F E Γ a ia := PEimp h fun σ H Q h => lav_val (by rw [← avOf_eq n]; exact h)
theorem bx1 (h : SX X F E Γ a ia) (n : notVar ia = true := by rfl) : AB1 X F E Γ a ia := PEimp h fun σ H Q h => lb_val (by rw [← bvOf_eq n]; exact h)
theorem aax_nil : AAX X F E Γ [] [] := PAimp pa_nil fun _ _ _ h => lavs_nil h
theorem abx_nil : ABX X F E Γ [] [] := PAimp pa_nil fun _ _ _ h => lbs_nil h
theorem aax_cons {es : List Expr} {is : List Ex} (ha : AA1 X F E Γ a ia) (hr : AAX X F E Γ es is) (hs : starEach (a :: es) X.env = (false, eval a X.env) :: starEach es X.env := by rfl) : AAX X F E Γ (a :: es) (ia :: is) := PAimp (pa_cons ha hr hs) fun _ _ _ h => lavs_cons h
theorem abx_cons {es : List Expr} {is : List Ex} (ha : AB1 X F E Γ a ia) (hr : ABX X F E Γ es is) (hs : starEach (a :: es) X.env = (false, eval a X.env) :: starEach es X.env := by rfl) : ABX X F E Γ (a :: es) (ia :: is) := PAimp (pa_cons ha hr hs) fun _ _ _ h => lbs_cons h
theorem fzl_any {G : Gc} {A B : AS} {H : Hp} : ∀ {vs : List V} {ds : List D}, ds.all isScalar = true → FzL G A H vs ds → FzL G B H vs ds
  | _, _, _, .nil => .nil
  | _, _, h, .cons a b => by
    rw [List.all_cons, Bool.and_eq_true] at h
    rw [fz_sc h.1 a]
    exact .cons (fz_of_sc h.1) (fzl_any h.2 b)
/-- an error that came out of a call -/
theorem err_called {Z : AS} {ow : Ow} {σ : L2.St} {H H' : Hp} {s : S} {L : List Nat} {scal : Bool} {c' : Stm} {xn : Xn} {cls : Value} {d : Option Addr} (R : Rep F Z ow σ H s) (hL : Lent ow H L) (hl : L = [] ∨ scal = true) (w : (scal = true → (xn.2.all fun f => isScalar f.2) = true) ∧ E xn { s with c := c' })
    (kp : Keep F.T.A (lentA Z ow L) H H') (st : StrOk F.T H' c') (xi : XcIs F.G (lentA Z ow L) H' cls d xn) : wx F E cls d σ H' := by
  obtain ⟨R', _⟩ := rr_called (r := .fz .non) (v := .non) R hL kp st .non (.inr rfl)
  refine ⟨Z, ow, _, xn, R', ?_, w.2⟩
  rcases hl with rfl | hsc
  · exact xi.mono fun a z => ⟨z, fun ⟨_, h, _⟩ => (by cases h)⟩
  · have hs := w.1 hsc
    refine ⟨xi.1, xi.2.imp id fun ⟨dx, fs, e, n, hd, ek, l⟩ => ⟨dx, fs, e, fun z => ?_, hd, ek, ?_⟩⟩
    · by_cases hlent : ∃ i, i ∈ L ∧ ow i = some dx
      · obtain ⟨i, hi, ho⟩ := hlent
        obtain ⟨us, hu⟩ := hL i hi dx ho
        obtain ⟨o', h', le, _⟩ := kp dx _ hu fun q => R.oz i dx ho (R.zs _ q)
        rw [le_lst o' le, hd] at h'
        cases h'
      · exact n ⟨z, hlent⟩
    · have h2 : (xn.2.map (·.2)).all isScalar = true := by rw [List.all_map]; exact hs
      exact fzl_any h2 l
/-- the callee's promise out of its contract -/
theorem lift_of (hT : F.T.tb = F.G.tb) {con : Con} {np : Nat} {Z : AS} {ow : Ow} {σ : L2.St} {H : Hp} {s : S} {L : List Nat} {vs : List V} {as : List (Option D)} {K : R → S → Prop} {Q : VK} {scal : Bool} (R : Rep F Z ow σ H s) (hL : Lent ow H L) (hl : L = [] ∨ scal = true) (ha : ArgsOk F.G F.T (lentA Z ow L) H vs as)
    (hn : ∀ as c K e, con as c K e → as.length = np) (w : callC con scal as s K E) (hq : ∀ r s' v H' ow', K r s' → RR F Z H ow' σ H' s' v r → Eff F Z ow H ow' H' → Q v H') : liftSp F.G np con vs H Q (WE (wx F E) σ) := by
  refine ⟨by rw [ha.length]; exact hn _ _ _ _ w, F.T, lentA Z ow L, as, s.c, _, _, R.strm, fun a z => ⟨.inl (R.zs a z), fun ⟨i, _, e⟩ => R.oz i _ e (R.zs a z)⟩, hT, fun a z => R.avT z.1, ha, w, fun r c' v H' k kp st rr => ?_, fun xn c' cls d H' k kp st xi => err_called R hL hl k kp st xi⟩
  exact hq r _ v H' ow k.2 (rr_called R hL kp st rr (hl.imp id fun e => k.1 e)) (Eff.called R hL kp st)
theorem lent0 (ow : Ow) (H : Hp) : Lent ow H [] := fun _ h => (by cases h)
theorem lentA0 {Z : AS} {ow : Ow} {a : Addr} (h : lentA Z ow [] a) : Av' Z ow a := h.1
/-- f(e, ..), what is handed over stays -/
theorem sx_call (g : Gd X F E) {k : Nat} {x : Str} {con : Con} {dfl : List D} {nd : Nat} {es : List Expr} {is : List Ex} {p : Pos} (e : FnE X.prog X.w X.K X.mg X.base F.G k x con dfl nd) (hr : RoomG k X.A) (hΓ : Γ.fn x = some (.pl con false dfl)) (ha : ABX X F E Γ (a :: es) is)
    (hg : Gl X x := by rfl) (hdb : (x == ("__debug__" : Str)) = false := by decide) (he : starEach (a :: es) X.env = (false, eval a X.env) :: starEach es X.env := by rfl) (hpl : (backTo pos (starEach es X.env)).any (·.1) = false := by rfl) :
    SX X F E Γ (.Call (.Name x p) (a :: es) [] pos) (.call x is nd) := by
  obtain ⟨f, fd, ps, dvs, ds, ok, hm, hk, hb, hd, hlen, hdf⟩ := e.ok
  refine PEimp (pe_callx ok hr hg hm hk hb hd (fun σ => passAt g.tk σ) ha hdb he hpl) fun σ H Q h => ?_
  obtain ⟨Z, ow, s, K, R, hf, hq⟩ := h
  have hf : (callE (Γ.fn x) [] (evA Γ is) (evB Γ is) nd) s K E := hf
  rw [hΓ] at hf
  exact ⟨Z, ow, s, _, R, hf, fun xs s1 vs H1 ow1 w1 R1 a1 e1 => lift_of g.tb R1 (lent0 _ _) (.inl rfl) ((a1.append (hdf _ _ _)).mono fun _ z => lentA0 z) hlen w1 fun r s' v H' ow' k rr e => hq r s' v H' ow' k (rr.back e1.dm) (e1.trans e)⟩
/-- f(e, ..), what is handed over is lent: a plain value comes back -/
theorem sx_callS (g : Gd X F E) {k : Nat} {x : Str} {con : Con} {dfl : List D} {nd : Nat} {es : List Expr} {is : List Ex} {p : Pos} (e : FnE X.prog X.w X.K X.mg X.base F.G k x con dfl nd) (hr : RoomG k X.A) (hΓ : Γ.fn x = some (.pl con true dfl)) (ha : AAX X F E Γ (a :: es) is)
    (hg : Gl X x := by rfl) (hdb : (x == ("__debug__" : Str)) = false := by decide) (he : starEach (a :: es) X.env = (false, eval a X.env) :: starEach es X.env := by rfl) (hpl : (backTo pos (starEach es X.env)).any (·.1) = false := by rfl) :
    SX X F E Γ (.Call (.Name x p) (a :: es) [] pos) (.call x is nd) := by
  obtain ⟨f, fd, ps, dvs, ds, ok, hm, hk, hb, hd, hlen, hdf⟩ := e.ok
  refine PEimp (pe_callx ok hr hg hm hk hb hd (fun σ => passAt g.tk σ) ha hdb he hpl) fun σ H Q h => ?_
  obtain ⟨Z, ow, s, K, R, hf, hq⟩ := h
  have hf : (callE (Γ.fn x) [] (evA Γ is) (evB Γ is) nd) s K E := hf
  rw [hΓ] at hf
  refine ⟨Z, ow, s, _, R, hf, fun xs s1 vs H1 ow1 w1 R1 a1 e1 => ?_⟩
  obtain ⟨ds', L, w2, hL, _, ha2⟩ := resA_ok R1 a1 w1
  exact lift_of g.tb R1 hL (.inr rfl) (ha2.append (hdf _ _ _)) hlen w2 fun r s' v H' ow' k rr e => hq r s' v H' ow' k (rr.back e1.dm) (e1.trans e)
/-- f() -/
theorem sx_call0 (g : Gd X F E) {k : Nat} {x : Str} {con : Con} {dfl : List D} {nd : Nat} {p : Pos} (e : FnE X.prog X.w X.K X.mg X.base F.G k x con dfl nd) (hr : RoomG k X.A) (hΓ : Γ.fn x = some (.pl con false dfl))
    (hg : Gl X x := by rfl) (hdb : (x == ("__debug__" : Str)) = false := by decide) : SX X F E Γ (.Call (.Name x p) [] [] pos) (.call x [] nd) := by
  obtain ⟨f, fd, ps, dvs, ds, ok, hm, hk, hb, hd, hlen, hdf⟩ := e.ok
  refine PEimp (pe_callx0 ok hr hg hm hk hb hd (fun σ => passAt g.tk σ) hdb) fun σ H Q h => ?_
  obtain ⟨Z, ow, s, K, R, hf, hq⟩ := h
  have hf : (callE (Γ.fn x) [] (evA Γ []) (evB Γ []) nd) s K E := hf
  rw [hΓ] at hf
  show liftSp F.G ps.length con ([] ++ dvs) H Q (WE (wx F E) σ)
  exact lift_of g.tb R (lent0 _ _) (.inl rfl) (show ArgsOk F.G F.T (lentA Z ow []) H ([] ++ dvs) ([] ++ dflTail dfl nd) from ArgsOk.append .nil (hdf _ _ _)) hlen hf hq
/-! fields, methods -/
theorem fld_lookup {G : Gc} {A : AS} {H : Hp} (f : Str) : ∀ {fs : List (Str × V)} {ds : List (Str × D)}, fs.map (·.1) = ds.map (·.1) → FzL G A H (fs.map (·.2)) (ds.map (·.2)) → (fs.lookup f = none ∧ fld ds f = none) ∨ ∃ v d, fs.lookup f = some v ∧ fld ds f = some d ∧ Fz G A H v d
  | [], [], _, _ => .inl ⟨rfl, rfl⟩
  | [], _ :: _, h, _ => by cases h
  | _ :: _, [], h, _ => by cases h
  | (a, v) :: fs, (b, d) :: ds, h, l => by
    rw [List.map_cons, List.map_cons, List.cons.injEq] at h
    obtain ⟨h1, h2⟩ := h
    have h1' : a = b := h1
    subst h1'
    rw [List.map_cons, List.map_cons] at l
    cases l with
    | cons l1 l2 =>
      by_cases e : f = a
      · subst e
        right
        exact ⟨v, d, by simp [List.lookup], by simp [fld], l1⟩
      · have e1 : (f == a) = false := by simpa using e
        have e2 : ¬ a = f := fun q => e q.symm
        have q1 : List.lookup f ((a, v) :: fs) = List.lookup f fs := by simp [List.lookup, e1]
        have q2 : fld ((a, d) :: ds) f = fld ds f := by simp [fld, e2]
        rw [q1, q2]
        exact fld_lookup f h2 l2
theorem fz_obj {A : AS} {H : Hp} {v : V} {cn : Str} {ds : List (Str × D)} (h : Fz F.G A H v (.obj cn ds)) : ∃ a dx fs, v = .ref a ∧ ¬ A a ∧ H a = some (.ins (F.G.ga cn) dx fs) ∧ fs.map (·.1) = ds.map (·.1) ∧ FzL F.G A H (fs.map (·.2)) (ds.map (·.2)) := by
  cases h with
  | obj n e ek l => exact ⟨_, _, _, rfl, n, e, ek, l⟩
theorem sx_att (g : Gd X F E) (cn : Str) {f : Str} (hc : Cls X.K (F.G.ga cn)) (hn : NoAttr X.K (F.G.ga cn) f) (ha : SX X F E Γ a ia) (hb : attributeBase a f X.env (eval a X.env) = eval a X.env := by rfl) : SX X F E Γ (.Attribute a f pos) (.att cn ia f) :=
  PEimp (pe_fld ha hb) fun σ H Q h => by
    obtain ⟨Z, ow, s, K, R, hf, hq⟩ := h
    refine ⟨Z, ow, s, _, R, hf, fun r s1 v1 H1 ow1 k1 rr e1 => ?_⟩
    obtain ⟨R1, z⟩ := rr.fz' R
    cases hd : r.d with
    | obj c' ds =>
      rw [hd] at k1 z
      have k1' : c' = cn ∧ (match fld ds f with
        | some x => K (.fz x) s1
        | none => False) := k1
      obtain ⟨rfl, k1'⟩ := k1'
      obtain ⟨p, dx, fs, rfl, np, e, ek, l⟩ := fz_obj z
      rcases fld_lookup f ek l with ⟨_, q⟩ | ⟨v, d, q1, q2, z2⟩
      · rw [q] at k1'; exact k1'.elim
      · rw [q2] at k1'
        exact ⟨p, _, dx, fs, v, rfl, e, hc, hn, q1, hq _ s1 _ H1 ow1 k1' ⟨R1, z2⟩ e1⟩
    | _ => rw [hd] at k1; exact k1.elim
/-- o.m(e, ..) -/
theorem sx_mth (g : Gd X F E) (cn : Str) {k : Nat} {m : Str} {con : Con} {dfl : List D} {nd : Nat} {o : Expr} {io : Ex} {es : List Expr} {is : List Ex} {apos : Pos} (e : MtE X.prog X.w X.K X.mg X.base F.G k cn m con dfl nd) (hr : RoomG k X.A) (hΓ : Γ.mth cn m = some (.pl con false dfl)) (ho : SX X F E Γ o io) (ha : ABX X F E Γ (a :: es) is)
    (hpe : ∀ {f fd ps dvs ds} (c : Cls X.K (F.G.ga cn)) (hm : Meth X.K (F.G.ga cn) m f) (ok : FnOg X.prog X.w X.K X.mg X.base (L2.CX X.prog X.w) k f fd ps (liftSp F.G ps.length con)) (hb : Binds X.K fd ps ds) (hd : Vals dvs ds), PE X (.Call (.Attribute o m apos) (a :: es) [] pos) (tMethx (F.G.ga cn) m (liftSp F.G ps.length con) dvs (WE (wx F E)) (LR F E (evP Γ io).r) (LBs F E (evB Γ is)))) :
    SX X F E Γ (.Call (.Attribute o m apos) (a :: es) [] pos) (.mth cn io m is nd) := by
  obtain ⟨f, fd, ps, dvs, ds, ok, hcl, hmt, hb, hd, hlen, hdf⟩ := e.ok
  refine PEimp (hpe hcl hmt ok hb hd) fun σ H Q h => ?_
  obtain ⟨Z, ow, s, K, R, hf, hq⟩ := h
  refine ⟨Z, ow, s, _, R, hf, fun r s1 v1 H1 ow1 k1 rr e1 => ?_⟩
  obtain ⟨R1, z⟩ := rr.fz' R
  cases hd : r.d with
  | obj c' ds =>
    rw [hd] at k1 z
    obtain ⟨⟨rfl, hfl⟩, k1⟩ := (show (c' = cn ∧ fld ds m = none) ∧ callE (Γ.mth cn m) [some (.obj cn ds)] (evA Γ is) (evB Γ is) nd s1 K E from k1)
    rw [hΓ] at k1
    obtain ⟨p, dx, fs, e0, np, e, ek, l⟩ := fz_obj z
    have hlk : fs.lookup m = none := by
      rcases fld_lookup m ek l with ⟨q, _⟩ | ⟨_, _, _, q, _⟩
      · exact q
      · rw [hfl] at q; cases q
    refine ⟨p, dx, fs, e0, e, hlk, Z, ow1, s1, _, R1, k1, fun xs s2 vs H2 ow2 w2 R2 a2 e2 => ?_⟩
    exact lift_of g.tb R2 (lent0 _ _) (.inl rfl) ((ArgsOk.d (R1.fz e2 z) (a2.append (hdf _ _ _))).mono fun _ z => lentA0 z) hlen w2 fun r s' v H' ow' k rr e => hq r s' v H' ow' k (rr.back (e1.trans e2).dm) ((e1.trans e2).trans e)
  | _ => rw [hd] at k1; exact k1.elim
end
end PP

set_option Elab.async false
set_option linter.all false
set_option maxRecDepth 100000
set_option maxHeartbeats 2000000
namespace PP
open PySem L2
theorem Gd.blk {X : Cx} {F : Fm} {E : XC} (g : Gd X F E) {s : Shared} {H : Hp} {scope : Scope} {cenv : PySem.Env} {fp : List Addr} : Gd (X.blk s H scope cenv fp) F noX := ⟨g.hK, g.calm, g.nd, g.u, g.gs, takes_no, g.tb⟩
section
variable {X : Cx} {F : Fm} {E : XC} {Γ : Env} {a b c tg : Expr} {ia ib ic : Ex} {pos : Pos}
theorem ss_never {st : Stmt} : SSX X F E Γ st .never := PSimp ps_never fun D σ H h => by
  obtain ⟨ow, s, n, R, w, _⟩ := h
  exact w.elim
/-- o.join(e), o a text that is written -/
theorem sx_join (g : Gd X F E) {z : Str} {k : Nat} {zp apos : Pos} (hb : VX X F E Γ b ib) (hs : starEach [b] X.env = [(false, eval b X.env)] := by rfl) (hbase : attributeBase (.Constant (.str z) k zp) "join" X.env (eval (.Constant (.str z) k zp) X.env) = eval (.Constant (.str z) k zp) X.env := by rfl) (hline : (apos.endLine == pos.line) = true := by rfl) :
    SX X F E Γ (.Call (.Attribute (.Constant (.str z) k zp) "join" apos) [b] [] pos) (.join (.str z) ib) := PEimp (pe_join pe_str hb hs hbase hline) fun σ H Q h => by
  obtain ⟨Z, ow, s, K, R, hf, hq⟩ := h
  refine ⟨⟨z, rfl⟩, Z, ow, s, _, R, hf, fun x s1 v1 H1 ow1 k1 R1 o1 e1 => ?_⟩
  obtain ⟨d, w, hx⟩ := res_ok R1 o1 k1
  cases d with
  | lst xs =>
    obtain ⟨p, vs, rfl, e, l⟩ := hx
    have w' : (match asStrs xs with
      | some ys => (ys.map (·.length)).sum + ys.length * z.length ≤ 16777216 ∧ K (.fz (.str (Txt.join z ys))) s1
      | none => False) := w
    cases q : asStrs xs with
    | none => rw [q] at w'; exact w'.elim
    | some ys =>
      rw [q] at w'
      rw [asStrs_eq q] at l
      rw [fzl_strs l] at e
      exact ⟨z, p, ys, rfl, rfl, .inl (SqL.of e), w'.1, hq _ _ _ _ _ w'.2 (rr_sc R1 (.str _) rfl |>.back e1.dm) e1⟩
  | _ => exact w.elim
/-- o.split(s), s a text that is written -/
theorem sx_split (g : Gd X F E) {z : Str} {k : Nat} {zp apos : Pos} (ha : VX X F E Γ a ia) (hs : starEach [.Constant (.str z) k zp] X.env = [(false, eval (.Constant (.str z) k zp) X.env)] := by rfl)
    (hbase : attributeBase a "split" X.env (eval a X.env) = eval a X.env := by rfl) (hline : (apos.endLine == pos.line) = true := by rfl) :
    SX X F E Γ (.Call (.Attribute a "split" apos) [.Constant (.str z) k zp] [] pos) (.split ia (.str z)) := PEimp (pe_split ha pe_str hs hbase hline) fun σ H Q h => by
  obtain ⟨Z, ow, s, K, R, hf, hq⟩ := h
  refine ⟨Z, ow, s, _, R, hf, fun x s1 v1 H1 ow1 k1 R1 o1 e1 => ?_⟩
  obtain ⟨d, w, hx⟩ := res_ok (K := fun dx s => qSplit dx (.str z) s K E) R1 o1 k1
  cases d with
  | str x =>
    cases view_str hx
    exact ⟨⟨x, rfl⟩, x, z, rfl, rfl, w.1.1, w.1.2, fun p hp => hq _ _ _ _ _ w.2 ((rr_newL R1 hp (fzl_of_strs _)).back e1.dm) (e1.trans (Eff.new hp))⟩
  | _ => exact w.elim
theorem ownL_of {s : S} {i : Nat} {o : Option Int} {K : R → S → Prop} (w : qPop i o s K E) : (∃ xs, gt s.sl i = some (.own xs)) ∨ ∃ xs, gt s.sl i = some (.io xs) := by
  have w' : (match gt s.sl i with
    | some (.own xs) => (match popL xs o with
      | some (x, ys) => K (.fz x) { s with sl := pt s.sl i (some (.own ys)) }
      | none => False)
    | some (.io xs) => (match popL xs o with
      | some (x, ys) => K (.fz x) { s with sl := pt s.sl i (some (.io ys)) }
      | none => False)
    | _ => False) := w
  cases h : gt s.sl i with
  | none => rw [h] at w'; exact w'.elim
  | some q => cases q with
    | own xs => exact .inl ⟨xs, rfl⟩
    | io xs => exact .inr ⟨xs, rfl⟩
    | fz _ => rw [h] at w'; exact w'.elim
    | ownd _ => rw [h] at w'; exact w'.elim
    | stm => rw [h] at w'; exact w'.elim
/-- xs.pop(e), xs a slot -/
theorem sx_pop (g : Gd X F E) (i : Nat) {x : Str} {px apos : Pos} (ha : SX X F E Γ a ia) (hi : X.N[i]? = some x := by rfl) (hv : Vis X.env.scope x := by first | exact Or.inl rfl | exact Or.inr (Or.inl rfl) | exact Or.inr (Or.inr rfl)) (hd : (x == ("__debug__" : Str)) = false := by decide) (hcd : (x == ("__classdict__" : Str)) = false := by decide)
    (hbase : attributeBase (.Name x px) "pop" X.env (eval (.Name x px) X.env) = eval (.Name x px) X.env := by rfl)
    (hfew : ((backTo pos (starEach [a] X.env)).all (fun x => !x.1) && (backToKw pos (keywordEach [] X.env)).all (fun x => x.1.isSome)
      && decide (([a] : List Expr).length + ([] : List Keyword).length + (if ([] : List Keyword).isEmpty then 0 else 1) < 30)) = true := by rfl)
    (hline : (apos.endLine == pos.line) = true := by rfl) (hs : starEach [a] X.env = (false, eval a X.env) :: starEach [] X.env := by rfl) :
    SX X F E Γ (.Call (.Attribute (.Name x px) "pop" apos) [a] [] pos) (.pop i (some ia)) :=
  PEimp (pe_bm PySem.F.plainAttrs_list PySem.F.slot_list_pop PySem.F.type_list_pop mt_popAt (pe_var hi hv hd hcd) (pa_cons ha pa_nil hs) hbase hfew hline hs rfl) fun σ H Q h => by
    obtain ⟨Z, ow, s, K, R, hf, hq⟩ := h
    obtain ⟨ho, w⟩ := has_own (show qHas i s (fun _ s => (bnd (toD (evP Γ ia).r) fun d => bnd (asInt d) fun j => need (-(2 ^ 63) ≤ j ∧ j < 2 ^ 63) (qPop i (some j))) s K E) E from hf)
    obtain ⟨p, vs, xs, hp, hH, l, hk, mu⟩ := R.ownL ho
    refine ⟨.ref p, hp, .inl ⟨rfl, _, SqL.of hH⟩, Z, ow, s, _, R, w, fun r s1 v1 H1 ow1 w1 rr e1 => ?_⟩
    obtain ⟨R1, z1⟩ := rr.fz' R
    cases hd : r.d with
    | int j =>
      rw [hd] at w1 z1
      cases z1
      obtain ⟨⟨b1, b2⟩, w1⟩ := (show (-(2 ^ 63) ≤ j ∧ j < 2 ^ 63) ∧ qPop i (some j) s1 K E from w1)
      obtain ⟨p1, vs1, xs1, hp1, hH1, l1, hk1, mu1⟩ := R1.ownL (ownL_of w1)
      rw [hp] at hp1; cases hp1
      have step : ∀ (q : List D → PP.P), (match popL xs1 (some j) with
          | some (x, ys) => K (.fz x) { s1 with sl := pt s1.sl i (some (q ys)) }
          | none => False) → ∃ n x v, ixN xs1.length j = some n ∧ xs1[n]? = some x ∧ vs1[n]? = some v ∧ Fz F.G (Av' Z ow1) H1 v x ∧ K (.fz x) { s1 with sl := pt s1.sl i (some (q (xs1.eraseIdx n))) } := by
        intro q w
        unfold popL at w
        dsimp only at w
        cases hx : ixN xs1.length j with
        | none => rw [hx] at w; exact w.elim
        | some n =>
          rw [hx] at w
          dsimp only at w
          cases hn : xs1[n]? with
          | none => rw [hn] at w; exact w.elim
          | some x =>
            rw [hn] at w
            obtain ⟨v, hv, z⟩ := l1.getD hn
            exact ⟨n, x, v, rfl, hn, hv, z, w⟩
      have w1' : (match gt s1.sl i with
        | some (.own xs) => (match popL xs (some j) with
          | some (x, ys) => K (.fz x) { s1 with sl := pt s1.sl i (some (.own ys)) }
          | none => False)
        | some (.io xs) => (match popL xs (some j) with
          | some (x, ys) => K (.fz x) { s1 with sl := pt s1.sl i (some (.io ys)) }
          | none => False)
        | _ => False) := w1
      rcases hk1 with hk1 | hk1
      · rw [hk1] at w1'
        obtain ⟨n, x, v, hn, _, hv, z, w2⟩ := step .own w1'
        have q := ixN_seq (n := vs1.length) (by rw [l1.length]; exact hn)
        refine ⟨p, vs1, j, n, v, rfl, rfl, hH1, b1, b2, q.1, hv, ?_⟩
        obtain ⟨R2, e2⟩ := mu1 (vs1.eraseIdx n) (xs1.eraseIdx n) (l1.eraseIdx n) (.own (xs1.eraseIdx n)) (fun _ => rfl) (fun q => by rw [hk1] at q; cases q)
        exact hq _ _ _ _ _ w2 ⟨R2, R1.fz e2 z⟩ (e1.trans e2)
      · rw [hk1] at w1'
        obtain ⟨n, x, v, hn, _, hv, z, w2⟩ := step .io w1'
        have q := ixN_seq (n := vs1.length) (by rw [l1.length]; exact hn)
        refine ⟨p, vs1, j, n, v, rfl, rfl, hH1, b1, b2, q.1, hv, ?_⟩
        obtain ⟨R2, e2⟩ := mu1 (vs1.eraseIdx n) (xs1.eraseIdx n) (l1.eraseIdx n) (.io (xs1.eraseIdx n)) (fun q => by rw [hk1] at q; cases q) (fun _ => rfl)
        exact hq _ _ _ _ _ w2 ⟨R2, R1.fz e2 z⟩ (e1.trans e2)
    | _ => rw [hd] at w1; exact w1.elim
/-- xs.extend(e), xs a slot -/
theorem ss_ext (g : Gd X F E) (i : Nat) {x : Str} {px apos cpos : Pos} (ha : SX X F E Γ a ia) (hi : X.N[i]? = some x := by rfl) (hv : Vis X.env.scope x := by first | exact Or.inl rfl | exact Or.inr (Or.inl rfl) | exact Or.inr (Or.inr rfl)) (hd : (x == ("__debug__" : Str)) = false := by decide) (hcd : (x == ("__classdict__" : Str)) = false := by decide)
    (hbase : attributeBase (.Name x px) "extend" X.env (eval (.Name x px) X.env) = eval (.Name x px) X.env := by rfl)
    (hfew : ((backTo cpos (starEach [a] X.env)).all (fun x => !x.1) && (backToKw cpos (keywordEach [] X.env)).all (fun x => x.1.isSome)
      && decide (([a] : List Expr).length + ([] : List Keyword).length + (if ([] : List Keyword).isEmpty then 0 else 1) < 30)) = true := by rfl)
    (hline : (apos.endLine == cpos.line) = true := by rfl) (hs : starEach [a] X.env = (false, eval a X.env) :: starEach [] X.env := by rfl) (hsw : swapsWith (.Call (.Attribute (.Name x px) "extend" apos) [a] [] cpos) none pos.line X.env = pure false := by rfl) :
    SSX X F E Γ (.Expr (.Call (.Attribute (.Name x px) "extend" apos) [a] [] cpos) pos) (.ext i ia) :=
  PSimp (ps_expr (pe_bm PySem.F.plainAttrs_list PySem.F.slot_list_extend PySem.F.type_list_extend mt_extend (pe_var hi hv hd hcd) (pa_cons ha pa_nil hs) hbase hfew hline hs rfl) hsw) fun D σ H h => by
    obtain ⟨ow, s, n, R, w, he, ct⟩ := h
    subst he
    obtain ⟨ho, w⟩ := has_own (show qHas i s (fun _ s => bnd (toD (evP Γ ia).r) (qExt i) s (fun _ s1 => n.nx s1) n.ex) n.ex from w)
    obtain ⟨p, vs, xs, hp, hH, l, hk, mu⟩ := R.ownL ho
    refine ⟨.ref p, hp, .inl ⟨rfl, _, SqL.of hH⟩, F.Z0, ow, s, _, R, w, fun r s1 v1 H1 ow1 w1 rr e1 => ?_⟩
    obtain ⟨R1, z1⟩ := rr.fz' R
    have w1' : (match gt s1.sl i, r.d with
      | some (.own xs), .lst ys => xs.length + ys.length ≤ sizeLine ∧ n.nx { s1 with sl := pt s1.sl i (some (.own (xs ++ ys))) }
      | some (.io xs), .lst ys => xs.length + ys.length ≤ sizeLine ∧ n.nx { s1 with sl := pt s1.sl i (some (.io (xs ++ ys))) }
      | _, _ => False) := w1
    have ho1 : ((∃ xs, gt s1.sl i = some (.own xs)) ∨ ∃ xs, gt s1.sl i = some (.io xs)) ∧ ∃ ys, r.d = .lst ys := by
      cases q : gt s1.sl i with
      | none => rw [q] at w1'; exact w1'.elim
      | some q' =>
        rw [q] at w1'
        cases q' with
        | own xs =>
          cases hr : r.d with
          | lst ys => exact ⟨.inl ⟨xs, rfl⟩, ys, rfl⟩
          | _ => rw [hr] at w1'; exact w1'.elim
        | io xs =>
          cases hr : r.d with
          | lst ys => exact ⟨.inr ⟨xs, rfl⟩, ys, rfl⟩
          | _ => rw [hr] at w1'; exact w1'.elim
        | fz _ => exact w1'.elim
        | ownd _ => exact w1'.elim
        | stm => exact w1'.elim
    obtain ⟨ho1, ys, hr⟩ := ho1
    rw [hr] at w1' z1
    obtain ⟨b, us, rfl, nb, hb, lb⟩ := fz_lst z1
    obtain ⟨p1, vs1, xs1, hp1, hH1, l1, hk1, mu1⟩ := R1.ownL ho1
    rw [hp] at hp1; cases hp1
    rcases hk1 with hk1 | hk1
    · rw [hk1] at w1'
      refine ⟨p, b, vs1, us, rfl, rfl, hH1, hb, by rw [l1.length, lb.length]; exact w1'.1, ?_⟩
      obtain ⟨R2, e2⟩ := mu1 (vs1 ++ us) (xs1 ++ ys) (l1.append lb) (.own (xs1 ++ ys)) (fun _ => rfl) (fun q => by rw [hk1] at q; cases q)
      exact ct.nx _ σ _ ow1 w1'.2 R2 (e1.trans e2) rfl
    · rw [hk1] at w1'
      refine ⟨p, b, vs1, us, rfl, rfl, hH1, hb, by rw [l1.length, lb.length]; exact w1'.1, ?_⟩
      obtain ⟨R2, e2⟩ := mu1 (vs1 ++ us) (xs1 ++ ys) (l1.append lb) (.io (xs1 ++ ys)) (fun q => by rw [hk1] at q; cases q) (fun _ => rfl)
      exact ct.nx _ σ _ ow1 w1'.2 R2 (e1.trans e2) rfl
/-- o.m() -/
theorem sx_mth0 (g : Gd X F E) (cn : Str) {k : Nat} {m : Str} {con : Con} {dfl : List D} {nd : Nat} {o : Expr} {io : Ex} {apos : Pos} (e : MtE X.prog X.w X.K X.mg X.base F.G k cn m con dfl nd) (hr : RoomG k X.A) (hΓ : Γ.mth cn m = some (.pl con false dfl)) (ho : SX X F E Γ o io)
    (hpe : ∀ {f fd ps dvs ds} (c : Cls X.K (F.G.ga cn)) (hm : Meth X.K (F.G.ga cn) m f) (ok : FnOg X.prog X.w X.K X.mg X.base (L2.CX X.prog X.w) k f fd ps (liftSp F.G ps.length con)) (hb : Binds X.K fd ps ds) (hd : Vals dvs ds), PE X (.Call (.Attribute o m apos) [] [] pos) (tMethx (F.G.ga cn) m (liftSp F.G ps.length con) dvs (WE (wx F E)) (LR F E (evP Γ io).r) tNil)) :
    SX X F E Γ (.Call (.Attribute o m apos) [] [] pos) (.mth cn io m [] nd) := by
  obtain ⟨f, fd, ps, dvs, ds, ok, hcl, hmt, hb, hd, hlen, hdf⟩ := e.ok
  refine PEimp (hpe hcl hmt ok hb hd) fun σ H Q h => ?_
  obtain ⟨Z, ow, s, K, R, hf, hq⟩ := h
  refine ⟨Z, ow, s, _, R, hf, fun r s1 v1 H1 ow1 k1 rr e1 => ?_⟩
  obtain ⟨R1, z⟩ := rr.fz' R
  cases hd : r.d with
  | obj c' ds =>
    rw [hd] at k1 z
    obtain ⟨⟨rfl, hfl⟩, k1⟩ := (show (c' = cn ∧ fld ds m = none) ∧ callE (Γ.mth cn m) [some (.obj cn ds)] (evA Γ []) (evB Γ []) nd s1 K E from k1)
    rw [hΓ] at k1
    obtain ⟨p, dx, fs, e0, np, e, ek, l⟩ := fz_obj z
    have hlk : fs.lookup m = none := by
      rcases fld_lookup m ek l with ⟨q, _⟩ | ⟨_, _, _, q, _⟩
      · exact q
      · rw [hfl] at q; cases q
    refine ⟨p, dx, fs, e0, e, hlk, ?_⟩
    exact lift_of g.tb R1 (lent0 _ _) (.inl rfl) ((ArgsOk.d z (ArgsOk.append .nil (hdf _ _ _))).mono fun _ z => lentA0 z) hlen k1 fun r s' v H' ow' k rr e => hq r s' v H' ow' k (rr.back e1.dm) (e1.trans e)
  | _ => rw [hd] at k1; exact k1.elim
/-- C(e, ..) -/
theorem sx_mk (g : Gd X F E) {k : Nat} {x : Str} {con : Con} {dfl : List D} {nd : Nat} {es : List Expr} {is : List Ex} {p : Pos} (e : MkE X.prog X.w X.K X.mg X.base F.G k x con dfl nd) (hr : RoomG (k + 1) X.A) (hΓ : Γ.fn x = some (.pl con false dfl)) (ha : ABX X F E Γ (a :: es) is)
    (hpe : ∀ {f fd ps spI dvs ds} (M : Mk X.K (F.G.ga x) f) (ok : FnOg X.prog X.w X.K X.mg X.base (L2.CX X.prog X.w) k f fd ps spI) (hm : X.mg x = some (.ref (F.G.ga x))) (hb : Binds X.K fd ps ds) (hd : Vals dvs ds), PE X (.Call (.Name x p) (a :: es) [] pos) (tMakex (F.G.ga x) spI dvs (WE (wx F E)) (LBs F E (evB Γ is)))) :
    SX X F E Γ (.Call (.Name x p) (a :: es) [] pos) (.call x is nd) := by
  obtain ⟨f, fd, ps, spI, dvs, ds, ok, M, hm, hb, hd, imp⟩ := e.ok
  refine PEimp (hpe M ok hm hb hd) fun σ H Q h => ?_
  obtain ⟨Z, ow, s, K, R, hf, hq⟩ := h
  have hf : (callE (Γ.fn x) [] (evA Γ is) (evB Γ is) nd) s K E := hf
  rw [hΓ] at hf
  refine ⟨Z, ow, s, _, R, hf, fun xs s1 vs H1 ow1 w1 R1 a1 e1 => ?_⟩
  refine imp vs H1 Q _ ⟨F.T, lentA Z ow1 [], xs, s1.c, _, _, R1.strm, fun a z => ⟨.inl (R1.zs a z), fun ⟨_, h, _⟩ => (by cases h)⟩, g.tb, fun a z => R1.avT z.1, a1.mono fun _ z => lentA0 z, w1, fun r c' v H' k kp st rr => ?_, fun xn c' cls d H' k kp st xi => err_called R1 (lent0 _ _) (.inl rfl) k kp st xi⟩
  exact hq r _ v H' ow1 k.2 ((rr_called R1 (lent0 _ _) kp st rr (.inl rfl)).back e1.dm) (e1.trans (Eff.called R1 (lent0 _ _) kp st))
end
end PP

set_option Elab.async false
set_option linter.all false
set_option maxRecDepth 100000
set_option maxHeartbeats 2000000
namespace PP
open PySem L2
/-! ### defs that change a list of their caller's -/
inductive ArgsAt (G : Gc) (T : SA) (A : AS) (H : Hp) (v0 : V) : Nat → List V → List (Option D) → Prop
  | here {vs : List V} {as : List (Option D)} : ArgsOk G T A H vs as → ArgsAt G T A H v0 0 (v0 :: vs) (none :: as)
  | st {n : Nat} {vs : List V} {as : List (Option D)} : ArgsAt G T A H v0 n vs as → ArgsAt G T A H v0 (n + 1) (.ref T.s :: vs) (none :: as)
  | d {n : Nat} {v : V} {d : D} {vs : List V} {as : List (Option D)} : Fz G A H v d → ArgsAt G T A H v0 n vs as → ArgsAt G T A H v0 (n + 1) (v :: vs) (some d :: as)
section
variable {G : Gc} {T : SA} {A B : AS} {H : Hp} {v0 : V}
theorem ArgsAt.length : ∀ {n : Nat} {vs : List V} {as : List (Option D)}, ArgsAt G T A H v0 n vs as → vs.length = as.length
  | _, _, _, .here h => by simp [h.length]
  | _, _, _, .st h => by simp [h.length]
  | _, _, _, .d _ h => by simp [h.length]
theorem ArgsAt.at : ∀ {n : Nat} {vs : List V} {as : List (Option D)}, ArgsAt G T A H v0 n vs as → vs[n]? = some v0
  | _, _, _, .here h => rfl
  | _, _, _, .st h => by simpa using h.at
  | _, _, _, .d _ h => by simpa using h.at
theorem ArgsAt.mono (s : ∀ a, B a → A a) : ∀ {n : Nat} {vs : List V} {as : List (Option D)}, ArgsAt G T A H v0 n vs as → ArgsAt G T B H v0 n vs as
  | _, _, _, .here h => .here (h.mono s)
  | _, _, _, .st h => .st (h.mono s)
  | _, _, _, .d z h => .d (z.mono fun a q => .inl (s a q)) (h.mono s)
theorem at_slot0 : ∀ {n : Nat} {vs : List V} {as : List (Option D)} {i : Nat} {p : P}, ArgsAt G T A H v0 n vs as → i ≠ n → ((as.map slotOf)[i]?).join = some p → ∃ v, vs[i]? = some v ∧ ((p = .stm ∧ v = .ref T.s) ∨ ∃ d, p = .fz d ∧ Fz G A H v d)
  | _, _, _, i, p, .here (vs := vs) (as := as) h, hi, e => by
    cases i with
    | zero => exact absurd rfl hi
    | succ i =>
      have e' : gt (startS as.length as) i = some p := by
        rw [gt_eq]
        unfold startS
        rw [Nat.sub_self, List.replicate_zero, List.append_nil]
        simpa using e
      simpa using args_slot h e'
  | _, _, _, i, p, .st h, hi, e => by
    cases i with
    | zero => simp [slotOf] at e; subst e; exact ⟨_, rfl, .inl ⟨rfl, rfl⟩⟩
    | succ i => simpa using at_slot0 (i := i) h (fun q => hi (by rw [q])) (by simpa using e)
  | _, _, _, i, p, .d z h, hi, e => by
    cases i with
    | zero => simp [slotOf] at e; subst e; exact ⟨_, rfl, .inr ⟨_, rfl, z⟩⟩
    | succ i => simpa using at_slot0 (i := i) h (fun q => hi (by rw [q])) (by simpa using e)
theorem at_slot {n m : Nat} {vs : List V} {as : List (Option D)} {i : Nat} {p : P} (h : ArgsAt G T A H v0 n vs as) (hi : i ≠ n) (e : gt (startS m as) i = some p) : ∃ v, vs[i]? = some v ∧ ((p = .stm ∧ v = .ref T.s) ∨ ∃ d, p = .fz d ∧ Fz G A H v d) := by
  rw [gt_eq] at e
  unfold startS at e
  by_cases hl : i < as.length
  · rw [List.getElem?_append_left (by simpa using hl)] at e
    exact at_slot0 h hi e
  · rw [List.getElem?_append_right (by simpa using hl), List.getElem?_replicate] at e
    split at e <;> simp at e
end
/-- a value that is new -/
def nwA (v : V) : R → AS
  | .fz _ => fun _ => False
  | _ => fun a => v = .ref a
def liftIO (G : Gc) (np ix : Nat) (con : ConIO) : Sp := fun vs H Q _ => vs.length = np ∧ ∃ (T : SA) (A : AS) (as : List (Option D)) (c : Stm) (K : R → List D → Stm → Prop) (b : Addr) (us : List V) (xs : List D), StrOk T H c ∧ (∀ a, T.A a → A a) ∧ T.tb = G.tb ∧ (∀ a, A a → NT (H a)) ∧ ¬ A b ∧ H b = some (.lst us) ∧ FzL G (add A b) H us xs ∧
  ArgsAt G T (add A b) H (.ref b) ix vs as ∧ con as xs c K noXc ∧
  ∀ r ys c' v H' us', K r ys c' → Keep (add T.A b) A H H' → StrOk T H' c' → H' b = some (.lst us') → FzL G (fun a => add A b a ∨ nwA v r a) H' us' ys → RRc G (add A b) H H' v r → Q v H'
def atIO (ix : Nat) (s : S) (k : List D → Prop) : Prop := match gt s.sl ix with
  | some (.io ys) => k ys
  | _ => False
def ImplIO (Γ : Env) (n ix : Nat) (con : ConIO) (code : List Sx) : Prop := ∀ as xs c K, con as xs c K noXc →
  exSs Γ code ⟨fun s => atIO ix s fun ys => K (.fz .non) ys s.c, fun r s => atIO ix s fun ys => K r ys s.c, fun _ => False, fun _ => False, noX⟩ ⟨pt (startS n as) ix (some (.io xs)), c⟩
theorem start_get {N : List Str} {vs : List V} {i : Nat} {v : V} (hv : vs[i]? = some v) : (start N vs)[i]? = some (some v) := by
  have hi : i < vs.length := (List.getElem?_eq_some_iff.mp hv).1
  unfold L2.start
  rw [List.getElem?_append_left (by simpa using hi), List.getElem?_map, hv]
  rfl
theorem rep_startIO {G : Gc} {T : SA} {A : AS} {H : Hp} {vs us : List V} {as : List (Option D)} {c : Stm} {ix : Nat} {N : List Str} {b : Addr} {xs : List D} (hs : StrOk T H c) (h1 : ∀ a, T.A a → A a) (h2 : T.tb = G.tb) (hA : ∀ a, A a → NT (H a)) (hb : ¬ A b) (eb : H b = some (.lst us)) (l : FzL G (add A b) H us xs) (h : ArgsAt G T (add A b) H (.ref b) ix vs as) (hl : vs.length ≤ N.length) :
    Rep ⟨G, T, H, add T.A b, A⟩ A (setO (fun _ => none) ix b) (start N vs) H ⟨pt (startS N.length as) ix (some (.io xs)), c⟩ := by
  have lix : ix < (startS N.length as).length := by
    have : ix < vs.length := (List.getElem?_eq_some_iff.mp h.at).1
    unfold startS
    rw [h.length] at this
    simp; omega
  have sub : ∀ a, Av' A (setO (fun _ => none) ix b) a → add A b a := fun a z => by
    rcases z with z | ⟨i, z⟩
    · exact .inl z
    · rcases setO_sub z with ⟨_, rfl⟩ | ⟨_, q⟩
      · exact .inr rfl
      · cases q
  refine ⟨Keep.refl _ _ _, hs, fun _ z => .inl z, h1, fun a z => .inl z, hA, fun a z => ?_, fun i p e => ?_, fun i j p e1 e2 => ?_, fun i p e => ?_, ?_, fun i p e => ?_⟩
  · rcases z with z | rfl
    · exact .inl (h1 a z)
    · exact .inr ⟨ix, by unfold setO; rw [if_pos rfl]⟩
  · rcases setO_sub e with ⟨_, rfl⟩ | ⟨_, q⟩
    · exact hb
    · cases q
  · rcases setO_sub e1 with ⟨q1, _⟩ | ⟨_, q⟩
    · rcases setO_sub e2 with ⟨q2, _⟩ | ⟨_, q⟩
      · rw [q1, q2]
      · cases q
    · cases q
  · rcases setO_sub e with ⟨rfl, _⟩ | ⟨_, q⟩
    · exact ⟨_, gt_pt_same lix, nofun⟩
    · cases q
  · show (pt (startS N.length as) ix _).length = (start N vs).length
    rw [pt_len]
    unfold startS L2.start
    simp [h.length]
  · have e' : gt (pt (startS N.length as) ix (some (.io xs))) i = some p := e
    by_cases hi : i = ix
    · subst hi
      cases gt_pt_none e'
      refine ⟨.ref b, start_get h.at, ?_⟩
      exact ⟨b, us, rfl, by unfold setO; rw [if_pos rfl], .inr rfl, eb, l.mono fun a z => .inl (sub a z)⟩
    · rw [gt_pt_ne hi] at e'
      obtain ⟨v, hv, q⟩ := at_slot h hi e'
      refine ⟨v, start_get hv, ?_⟩
      have on : setO (fun _ => none) ix b i = none := by unfold setO; rw [if_neg hi]
      rw [on]
      rcases q with ⟨rfl, rfl⟩ | ⟨d, rfl, z⟩
      · exact ⟨rfl, rfl⟩
      · exact ⟨z.mono fun a z => .inl (sub a z), rfl⟩
section
variable {P : Program} {w : World} {K : PySem.W.Frag} {mg : Str → Option Value} {base : Heap} {x qual : Str} {params : Arguments} {body : List Stmt} {scope : Scope} {dvs : List V} {kws : List (Str × V)} {f : Addr} {fd : FuncData}
theorem atIO_ok {G : Gc} {T : SA} {A Y : AS} {H H' : Hp} {b : Addr} {ow : Ow} {σ : L2.St} {s : S} {ix : Nat} {k : List D → Prop} (R : Rep ⟨G, T, H, add T.A b, A⟩ Y ow σ H' s) (yt : ∀ a, A a → Y a) (h : ∀ a, T.A a → A a) (hb : ¬ A b) (w : atIO ix s k) : ∃ us ys, k ys ∧ ow ix = some b ∧ H' b = some (.lst us) ∧ FzL G (Av' Y ow) H' us ys := by
  have w' : (match gt s.sl ix with
    | some (.io ys) => k ys
    | _ => False) := w
  cases q : gt s.sl ix with
  | none => rw [q] at w'; exact w'.elim
  | some p =>
    rw [q] at w'
    cases p with
    | io ys =>
      obtain ⟨v, hv, a, us, _, ho, hm, e, l⟩ := R.sl ix _ q
      have ha : a = b := by
        rcases hm with hm | rfl
        · exact absurd (yt _ (h _ hm)) (R.oz ix _ ho)
        · rfl
      subst ha
      exact ⟨us, ys, w', ho, e, l⟩
    | own _ => exact w'.elim
    | fz _ => exact w'.elim
    | ownd _ => exact w'.elim
    | stm => exact w'.elim
theorem fn_pureIO {G : Gc} {Γ : Env} {N ps : List Str} {k ix : Nat} {con : ConIO} {code : List Sx} (F : FunD K x qual params body scope dvs kws f fd) (S : FnScope N ps scope) (hN : ps.length ≤ N.length) (hK : K = G.K)
    (hd : ∀ (cdv : Value) (A : Around) (outer : List PySem.Env) (s : Shared) (H : Hp) (E : XK) (Fm : Fm), Fm.G = G → Gd (cxOf CX0 P w K mg base N qual scope f cdv A outer s H E).nox Fm noX → RoomG k (A.deeper (PyProof.Rows.envOfC qual scope s.heap.objs.size f cdv)) →
      SBX (cxOf CX0 P w K mg base N qual scope f cdv A outer s H E).nox Fm noX Γ body code)
    (hp : ImplIO Γ N.length ix con code) : FnOg P w K mg base CX0 (k + 1) f fd ps (liftIO G ps.length ix con) := by
  refine F.okg S (fun vs H Q E h => h.1) fun cdv A outer s H vs Q E hr h => ?_
  obtain ⟨hl, T, A', as, c, K', b, us, xs, hs, h1, h2, hA, hb, eb, l, ha, hc, kq⟩ := h
  refine ⟨_, PSs.nox (hd cdv A outer s H E ⟨G, T, H, add T.A b, A'⟩ rfl ⟨hK, rfl, S.nd, hr.units, hr.g, takes_no, h2⟩ hr), ?_⟩
  have R0 := rep_startIO (N := N) hs h1 h2 hA hb eb l ha (by rw [hl]; exact hN)
  refine ⟨setO (fun _ => none) ix b, _, _, R0, hp as xs c K' hc, rfl, ⟨fun s' σ' H' ow' w R e _ => ?_, fun _ _ _ _ w => w.elim, fun _ _ _ _ w => w.elim, fun r s' v σ' H' ow' w R e => ?_⟩⟩
  · obtain ⟨us', ys, w, ho, e1, l1⟩ := atIO_ok R (fun _ z => z) h1 hb w
    have sub : ∀ a, add A' b a → Av' A' ow' a ∨ H' a = none := fun a z => .inl (by rcases z with z | rfl; exact .inl z; exact .inr ⟨ix, ho⟩)
    exact kq (.fz .non) ys s'.c _ H' us' w R.keep R.strm e1 (l1.mono fun a z => sub a (z.elim id fun q => q.elim)) .non
  · cases r with
    | fz d =>
      obtain ⟨us', ys, w, ho, e1, l1⟩ := atIO_ok R.1 (fun _ z => z) h1 hb w
      have sub : ∀ a, add A' b a → Av' A' ow' a ∨ H' a = none := fun a z => .inl (by rcases z with z | rfl; exact .inl z; exact .inr ⟨ix, ho⟩)
      exact kq _ ys s'.c _ H' us' w R.1.keep R.1.strm e1 (l1.mono fun a z => sub a (z.elim id fun q => q.elim)) (R.2.mono sub)
    | nl zs =>
      obtain ⟨p, vs', rfl, _, nz, nm, h0, R, ep, l'⟩ := R
      obtain ⟨us', ys, w, ho, e1, l1⟩ := atIO_ok R (fun _ z => .inl z) h1 hb w
      have sub : ∀ a, add A' b a → Av' (add A' p) ow' a := fun a z => by
        rcases z with z | rfl
        · exact .inl (.inl z)
        · exact .inr ⟨ix, ho⟩
      exact kq _ ys s'.c _ H' us' w R.keep R.strm e1 (l1.mono fun a z => .inl (z.elim (sub a) fun q => by cases q; exact .inl (.inr rfl))) ⟨p, vs', rfl, h0, ep, l'.mono fun a z => .inl (by rcases z with z | rfl; exact sub a z; exact .inl (.inr rfl))⟩
    | nd zs =>
      obtain ⟨p, vs', rfl, _, nz, nm, h0, R, ep, ek, l'⟩ := R
      obtain ⟨us', ys, w, ho, e1, l1⟩ := atIO_ok R (fun _ z => .inl z) h1 hb w
      have sub : ∀ a, add A' b a → Av' (add A' p) ow' a := fun a z => by
        rcases z with z | rfl
        · exact .inl (.inl z)
        · exact .inr ⟨ix, ho⟩
      exact kq _ ys s'.c _ H' us' w R.keep R.strm e1 (l1.mono fun a z => .inl (z.elim (sub a) fun q => by cases q; exact .inl (.inr rfl))) ⟨p, vs', rfl, h0, ep, ek, l'.mono fun a z => .inl (by rcases z with z | rfl; exact sub a z; exact .inl (.inr rfl))⟩
end
/-! ### such a call -/
structure IoE (P : Program) (w : World) (K : PySem.W.Frag) (mg : Str → Option Value) (base : Heap) (G : Gc) (k : Nat) (x : Str) (ix : Nat) (con : ConIO) : Prop where
  ok : ∃ f fd ps, FnOg P w K mg base CX0 k f fd ps (liftIO G ps.length ix con) ∧ mg x = some (.ref f) ∧ PySem.W.keepIn K (.ref f) = true ∧ Binds K fd ps [] ∧ (∀ as xs c K, con as xs c K noXc → as.length = ps.length)
def LIOs (F : Fm) (E : XC) (f : M (List (Option D))) (i n : Nat) : TA := fun σ H Q => ∃ Z ow s K, Rep F Z ow σ H s ∧ f s K E ∧ ∀ xs s' vs H' ow', K xs s' → Rep F Z ow' σ H' s' → (∃ v0, σ[i]? = some (some v0) ∧ ArgsAt F.G F.T (Av' Z ow') H' v0 n vs xs) → Eff F Z ow H ow' H' → Q vs H'
abbrev AIX (X : Cx) (F : Fm) (E : XC) (Γ : Env) (i n : Nat) (es : List Expr) (irs : List Ex) : Prop := PA X es (LIOs F E (evIO Γ irs n) i n)
section
variable {X : Cx} {F : Fm} {E : XC} {Γ : Env} {a b c tg : Expr} {ia ib ic : Ex} {pos : Pos}
theorem aix_here (i : Nat) {x : Str} {es : List Expr} {is : List Ex} (hr : ABX X F E Γ es is) (hN : X.N[i]? = some x := by rfl) (hv : Vis X.env.scope x := by first | exact Or.inl rfl | exact Or.inr (Or.inl rfl) | exact Or.inr (Or.inr rfl)) (hd : (x == ("__debug__" : Str)) = false := by decide)
    (hcd : (x == ("__classdict__" : Str)) = false := by decide) (hs : starEach (.Name x pos :: es) X.env = (false, eval (.Name x pos) X.env) :: starEach es X.env := by rfl) : AIX X F E Γ i 0 (.Name x pos :: es) (.var i :: is) :=
  PAimp (pa_cons (pe_var hN hv hd hcd) hr hs) fun σ H Q h => by
    obtain ⟨Z, ow, s, K, R, hf, hq⟩ := h
    obtain ⟨ho, w⟩ := has_own (show qHas i s (fun _ s => bnd (evB Γ is) (fun as => ret (none :: as)) s K E) E from hf)
    obtain ⟨p, vs, xs, hp, hH, l, hk, mu⟩ := R.ownL ho
    exact ⟨.ref p, hp, Z, ow, s, _, R, w, fun as s1 vs1 H1 ow1 k1 R1 a1 e1 => hq _ s1 _ H1 ow1 k1 R1 ⟨_, hp, .here a1⟩ e1⟩
theorem aix_cons (i : Nat) {n : Nat} {es : List Expr} {is : List Ex} (ha : AB1 X F E Γ a ia) (hr : AIX X F E Γ i n es is) (hs : starEach (a :: es) X.env = (false, eval a X.env) :: starEach es X.env := by rfl) : AIX X F E Γ i (n + 1) (a :: es) (ia :: is) :=
  PAimp (pa_cons ha hr hs) fun σ H Q h => by
    obtain ⟨Z, ow, s, K, R, hf, hq⟩ := h
    refine ⟨Z, ow, s, _, R, hf, fun x s1 v1 H1 ow1 k1 R1 o1 e1 => ⟨Z, ow1, s1, _, R1, k1, fun y s2 v2 H2 ow2 k2 R2 o2 e2 => hq (x :: y) s2 (v1 :: v2) H2 ow2 k2 R2 ?_ (e1.trans e2)⟩⟩
    obtain ⟨v0, h0, o2⟩ := o2
    refine ⟨v0, h0, ?_⟩
    cases o1 with
    | st => exact .st o2
    | d z => exact .d (R1.fz e2 z) o2
/-- behind such a call -/
theorem Rep.calledIO {Z Y : AS} {ow : Ow} {σ : L2.St} {H H' : Hp} {s : S} {i : Nat} {p : Addr} {us' : List V} {ys : List D} {c' : Stm} (R : Rep F Z ow σ H s) (ho : ow i = some p) (nm : ¬ F.md p) (n0 : F.H0 p = none) (hv : σ[i]? = some (some (.ref p))) (hlt : i < s.sl.length) (k : Keep (add F.T.A p) (lentA Z ow [i]) H H') (hs : StrOk F.T H' c') (e' : H' p = some (.lst us'))
    (l' : FzL F.G (Av' Y ow) H' us' ys) (y1 : ∀ a, Z a → Y a) (y2 : ∀ a, Y a → Z a ∨ (H a = none ∧ NT (H' a) ∧ ¬ F.md a)) : Rep F Y ow σ H' { sl := pt s.sl i (some (.own ys)), c := c' } := by
  have tz : ∀ a, F.T.A a → Z a := R.zs
  have ztl : ∀ a, Z a → lentA Z ow [i] a := fun a z => ⟨.inl z, fun ⟨i, _, e⟩ => R.oz i a e z⟩
  have dm : ∀ a, H a ≠ none → H' a ≠ none := fun a h e => by
    by_cases q : add F.T.A p a
    · rcases q with q | rfl
      · exact hs.i q e
      · rw [e'] at e; cases e
    · exact h (k.none e q)
  have dmT : ∀ a, NT (H a) → NT (H' a) := fun a h => by
    by_cases q : add F.T.A p a
    · rcases q with q | rfl
      · exact hs.it q
      · exact .of e' nofun
    · cases e : H a with
      | none => exact absurd e h.1
      | some o =>
        obtain ⟨o', e', l, _⟩ := k a o e q
        exact h.le e e' l
  have np : ∀ j a, j ≠ i → ow j = some a → a ≠ p := fun j a hj e q => hj (R.od j i p (by rw [e, q]) ho)
  have oeq : ∀ j a, j ≠ i → ow j = some a → H' a = H a := fun j a hj e => by
    have na : ¬ add F.T.A p a := fun z => z.elim (fun z => R.oz j a e (tz a z)) fun z => np j a hj e z
    cases q : H a with
    | none => exact absurd q (R.ojn e)
    | some o => exact k.atZ q na ⟨.inr ⟨j, e⟩, fun ⟨j', hj', e2⟩ => by rw [List.mem_singleton.mp hj'] at e2; exact hj (R.od j i a e e2)⟩
  refine ⟨fun a o e m => ?_, hs, R.mds, fun a z => y1 a (R.zs a z), fun a z => (R.z0 a z).imp (y1 a) id, fun a z => ?_, fun a z => (R.mdz a z).imp (y1 a) id, fun i p e z => ?_, R.od, fun j q e => ?_, ?_, fun j q e => ?_⟩
  · obtain ⟨o1, e1, l1, z1⟩ := R.keep a o e m
    obtain ⟨o2, e2, l2, z2⟩ := k a o1 e1 (fun z => by
      rcases z with z | rfl
      · exact m (R.mds a z)
      · rw [n0] at e; cases e)
    exact ⟨o2, e2, l1.trans l2, fun z0 => (z2 (ztl a ((R.z0 a z0).elim id fun q => absurd q m))).trans (z1 z0)⟩
  · rcases y2 a z with q | q
    · exact dmT a (R.zin a q)
    · exact q.2.1
  · rcases y2 p z with q | q
    · exact R.oz i p e q
    · exact R.ojn e q.1
  · by_cases hj : j = i
    · subst hj; exact ⟨_, gt_pt_same hlt, nofun⟩
    · obtain ⟨q', hq, hn⟩ := R.oin j q e
      exact ⟨q', by show gt (pt s.sl i _) j = _; rw [gt_pt_ne hj]; exact hq, hn⟩
  · show (pt s.sl i _).length = _
    rw [pt_len]; exact R.len
  · have e2 : gt (pt s.sl i (some (.own ys))) j = some q := e
    by_cases hj : j = i
    · subst hj
      cases gt_pt_none e2
      exact ⟨_, hv, p, us', rfl, ho, nm, n0, e', l'⟩
    · rw [gt_pt_ne hj] at e2
      obtain ⟨v, hv, ok⟩ := R.sl j q e2
      exact ⟨v, hv, ok.tr (k.mono (fun a z => z.elim (fun z => .inl (tz a z)) fun z => .inr ⟨i, by rw [z]; exact ho⟩) fun _ z => z : Keep (Av' Z ow) (lentA Z ow [i]) H H') (fun a z => z.elim (fun z => (y2 a z).imp .inl fun q => q.1) fun z => .inl (.inr z)) fun a e => oeq j a hj e⟩
/-- f(e, .., x, ..): the slot's own list is changed -/
theorem sx_io (g : Gd X F E) {k ix i : Nat} {x : Str} {con : ConIO} {es : List Expr} {is : List Ex} {p : Pos} (e : IoE X.prog X.w X.K X.mg X.base F.G k x ix con) (hr : RoomG k X.A) (hΓ : Γ.fn x = some (.io ix con)) (ha : AIX X F noX Γ i ix (a :: es) is) (hi : argIO is ix = some i := by rfl)
    (hg : Gl X x := by rfl) (hdb : (x == ("__debug__" : Str)) = false := by decide) (he : starEach (a :: es) X.env = (false, eval a X.env) :: starEach es X.env := by rfl) (hpl : (backTo pos (starEach es X.env)).any (·.1) = false := by rfl) :
    SX X F noX Γ (.Call (.Name x p) (a :: es) [] pos) (.io x is) := by
  obtain ⟨f, fd, ps, ok, hm, hk, hb, hlen⟩ := e.ok
  refine PEimp (pe_callg ok hr hg hm hk hb .nil pass0 ha hdb he hpl) fun σ H Q h => ?_
  obtain ⟨Z, ow, s, K, R, hf, hq⟩ := h
  have hf : callIO Γ x is (evIO Γ is (ioIx Γ x)) s K noX := hf
  unfold callIO ioIx at hf
  rw [hΓ] at hf
  dsimp only at hf
  rw [hi] at hf
  refine ⟨Z, ow, s, _, R, hf, fun as s1 vs H1 ow1 w1 R1 a1 e1 => ?_⟩
  obtain ⟨v0, hv0, a1⟩ := a1
  dsimp only at w1
  cases hgt : gt s1.sl i with
  | none => rw [hgt] at w1; exact w1.elim
  | some q =>
    rw [hgt] at w1
    cases q with
    | own xs =>
      obtain ⟨v, hv, b, us, rfl, ho, nm, n0, eb, l⟩ := R1.sl i _ hgt
      rw [hv0] at hv; cases hv
      have s1' : ∀ a, add (lentA Z ow1 [i]) b a → Av' Z ow1 a := fun a z => by
        rcases z with z | rfl
        · exact z.1
        · exact .inr ⟨i, ho⟩
      have s2' : ∀ a, Av' Z ow1 a → add (lentA Z ow1 [i]) b a := fun a z => by
        by_cases q : a = b
        · exact .inr q
        · exact .inl ⟨z, fun ⟨j, hj, ej⟩ => by rw [List.mem_singleton.mp hj, ho] at ej; exact q (Option.some.inj ej).symm⟩
      show liftIO F.G ps.length ix con (vs ++ []) H1 Q E0
      rw [List.append_nil]
      refine ⟨by rw [a1.length]; exact hlen _ _ _ _ w1, F.T, lentA Z ow1 [i], as, s1.c, _, b, us, xs, R1.strm, fun a z => ⟨.inl (R1.zs a z), fun ⟨i, _, e⟩ => R1.oz i _ e (R1.zs a z)⟩, g.tb, fun a z => R1.avT z.1, fun z => z.2 ⟨i, by simp, ho⟩, eb, l.mono fun a z => .inl (s1' a z), a1.mono s1', w1, fun r ys c' v H2 us' kk kp st e2 l2 rr => ?_⟩
      have ef : Eff F Z ow1 H1 ow1 H2 := by
        refine ⟨fun a o e m => ?_, fun i p h => .inl ⟨i, h⟩, fun a h e => ?_⟩
        · obtain ⟨o', e', l, zz⟩ := kp a o e (fun z => m (by
            rcases z with z | rfl
            · exact .inl (R1.mds a z)
            · exact .inr ⟨i, ho⟩))
          exact ⟨o', e', l, fun z => zz ⟨.inl z, fun ⟨i, _, e⟩ => R1.oz i a e z⟩⟩
        · by_cases q : add F.T.A b a
          · rcases q with q | rfl
            · exact st.i q e
            · rw [e2] at e; cases e
          · exact h (kp.none e q)
      refine hq r _ v H2 ow1 kk ?_ (e1.trans ef)
      refine RR.back e1.dm ?_
      cases r with
      | fz d => exact ⟨R1.calledIO ho nm n0 hv0 (gt_lt hgt) kp st e2 (l2.mono fun a z => .inl (.inl (s2' a z))) (fun _ z => z) (fun _ z => .inl z), Fz.mono (fun a z => .inl (s2' a z)) rr⟩
      | nl zs =>
        obtain ⟨q, vs', rfl, hq0, eq, l'⟩ := rr
        obtain ⟨nmq, nq0, nzq⟩ := R1.new0 hq0
        have sq : ∀ a, Av' (add Z q) ow1 a → add (lentA Z ow1 [i]) b a ∨ a = q := fun a z => by
          rcases z with (z | rfl) | z
          · exact .inl (s2' a (.inl z))
          · exact .inr rfl
          · exact .inl (s2' a (.inr z))
        refine ⟨q, vs', rfl, hq0, fun z => nzq (.inl z), nmq, nq0, R1.calledIO ho nm n0 hv0 (gt_lt hgt) kp st e2 (l2.mono fun a z => .inl ((sq a z).imp id fun h => by rw [h]; rfl)) (fun a z => .inl z) (fun a z => ?_), eq, l'.mono fun a z => .inl (sq a z)⟩
        rcases z with z | rfl
        · exact .inl z
        · exact .inr ⟨hq0, .of eq nofun, nmq⟩
      | nd zs =>
        obtain ⟨q, vs', rfl, hq0, eq, ek, l'⟩ := rr
        obtain ⟨nmq, nq0, nzq⟩ := R1.new0 hq0
        have sq : ∀ a, Av' (add Z q) ow1 a → add (lentA Z ow1 [i]) b a ∨ a = q := fun a z => by
          rcases z with (z | rfl) | z
          · exact .inl (s2' a (.inl z))
          · exact .inr rfl
          · exact .inl (s2' a (.inr z))
        refine ⟨q, vs', rfl, hq0, fun z => nzq (.inl z), nmq, nq0, R1.calledIO ho nm n0 hv0 (gt_lt hgt) kp st e2 (l2.mono fun a z => .inl ((sq a z).imp id fun h => by rw [h]; rfl)) (fun a z => .inl z) (fun a z => ?_), eq, ek, l'.mono fun a z => .inl (sq a z)⟩
        rcases z with z | rfl
        · exact .inl z
        · exact .inr ⟨hq0, .of eq nofun, nmq⟩
    | io _ => exact w1.elim
    | fz _ => exact w1.elim
    | ownd _ => exact w1.elim
    | stm => exact w1.elim
end
end PP

set_option Elab.async false
set_option linter.all false
set_option maxRecDepth 100000
set_option maxHeartbeats 2000000
namespace PP
open PySem L2
/-! ### the law's stream: one draw -/
abbrev qS (K : PySem.W.Frag) (i : Int) : TE := tOp (rIx K) (tVar 0) (tC (.int i))
abbrev qPut' (te : TE) (i : Int) : TS := tAsg te (gSub (tVar 0) (tC (.int i)) rSetL)
abbrev qA : R2 := rI0 fun i j => .int (i + j)
abbrev qMu : R2 := rI CMul fun i j => .int (i * j)
abbrev qPw : R2 := rI CPow fun i j => .int (i ^ j.toNat)
abbrev qMo : R2 := rI (fun _ j => 0 < j) fun i j => .int (i % j)
abbrev qI (t : TE) : TE := tCB (fun xs H Q => (∃ i, xs = [V.int i] ∧ Q (V.int i) H) ∨ ∃ k : Bool, xs = [V.bl k] ∧ Q (V.int (if k = true then 1 else 0)) H) (tCons t tNil)
def t_draw1 (K : PySem.W.Frag) : TS := qPut' (tOp qA (qS K 2) (tC (.int 1))) 2
def t_draw2c (K : PySem.W.Frag) : TS := tSeq (qPut' (tOp qMo (qI (tOp qA (tOp qA (tOp qMu (qS K 3) (tC (.int 31))) (qS K 1)) (tC (.int 7)))) (tC (.int 2147483647))) 3) (tSeq (qPut' (tC (.int 0)) 1) tNext)
def t_draw2b (K : PySem.W.Frag) : TS := tSeq (qPut' (tBM K "list" rPopAt (qS K 0) (tCons (tC (.int 0)) tNil)) 1)
    (tSeq (tIfS (tTest (tOp (rI0 fun i j => .bl (decide (i < j))) (qS K 1) (tOp qPw (tC (.int 10)) (tC (.int 18))))) (t_draw2c K) tNext) tNext)
def t_draw2 (K : PySem.W.Frag) : TS := tIfS (tAnd (tTest (tOp rEq (qS K 1) (tC (.int 0)))) (tTest (tOp (rNeA K) (qS K 0) (tLst tNil)))) (t_draw2b K) tNext
def t_draw3b (K : PySem.W.Frag) : TS := tSeq (tAsg (tOp qMo (qI (qS K 1)) (tVar 1)) (gName 2)) (tSeq (qPut' (tOp (rI CDivW fun i j => .int (i / j)) (qS K 1) (tVar 1)) 1) (tSeq (tRet (tVar 2)) tNext))
def t_draw3 (K : PySem.W.Frag) : TS := tIfS (tTest (tOp (rI0 fun i j => .bl (decide (j < i))) (qS K 1) (tC (.int 0)))) (t_draw3b K) tNext
def t_draw4 (K : PySem.W.Frag) : TS := tAsg (tOp qMo (tOp qPw (tOp qA (tOp qA (qS K 3) (tOp qMu (tC (.int 104729)) (qS K 2))) (tC (.int 17))) (tC (.int 5))) (tC (.int 2147483629))) (gName 3)
def t_draw5 (K : PySem.W.Frag) : TS := tRet (tOp qMo (tOp qMo (tOp qPw (tOp qA (tOp qA (tOp qMu (tVar 3) (tC (.int 48271))) (tOp qMu (tOp qMu (tC (.int 40503)) (qS K 2)) (qS K 2))) (tC (.int 13))) (tC (.int 3))) (tC (.int 1000000007))) (tVar 1))
def t_draw (K : PySem.W.Frag) : TS := tSeq (t_draw1 K) (tSeq (t_draw2 K) (tSeq (t_draw3 K) (tSeq (t_draw4 K) (tSeq (t_draw5 K) tNext))))
def N_draw : List Str := ["_law_stream", "_law_many", "_law_digit", "_law_mixed"]
/-- the stream behind a look at the script -/
def Stm.fill (t : Stm) : Stm := if t.x = 0 then (match t.ns with
  | [] => t
  | n :: ns => if n < 1000000000000000000 then ⟨ns, 0, t.c, (t.y * 31 + n + 7) % 2147483647⟩ else ⟨ns, n, t.c, t.y⟩) else t
def Stm.up (t : Stm) : Stm := ⟨t.ns, t.x, t.c + 1, t.y⟩
def mixA (t : Stm) : Int := (t.y + 104729 * t.c + 17) ^ 5 % 2147483629
def mixB (t : Stm) : Int := (mixA t * 48271 + 40503 * t.c * t.c + 13) ^ 3 % 1000000007
/-- a draw: the number, the stream behind it -/
def drawF (t : Stm) (m : Int) : Int × Stm := if 0 < t.up.fill.x then (t.up.fill.x % m, ⟨t.up.fill.ns, t.up.fill.x / m, t.up.fill.c, t.up.fill.y⟩) else (mixB t.up.fill % m, t.up.fill)
theorem fill_c (t : Stm) : t.fill.c = t.c := by
  unfold Stm.fill
  split
  · split
    · rfl
    · split <;> rfl
  · rfl
theorem draw_c (t : Stm) (m : Int) : (drawF t m).2.c = t.c + 1 := by
  unfold drawF
  split
  · show t.up.fill.c = _; rw [fill_c]; rfl
  · show t.up.fill.c = _; rw [fill_c]; rfl
theorem draw_lo (t : Stm) {m : Int} (h : 1 ≤ m) : 0 ≤ (drawF t m).1 := by
  unfold drawF
  split
  · exact Int.emod_nonneg _ (by omega)
  · exact Int.emod_nonneg _ (by omega)
theorem draw_hi (t : Stm) {m : Int} (h : 1 ≤ m) : (drawF t m).1 < m := by
  unfold drawF
  split
  · exact Int.emod_lt_of_pos _ (by omega)
  · exact Int.emod_lt_of_pos _ (by omega)
def conDraw : Con := fun as c K _ => ∃ m : Int, as = [none, some (.int m)] ∧ 1 ≤ m ∧ m ≤ 10 ^ 100 ∧ c.c < 1000000 ∧ K (.fz (.int (drawF c m).1)) (drawF c m).2
section
variable {K : PySem.W.Frag} {σ : L2.St} {H : Hp} {s : Addr}
theorem s_ix {Q : VK} {xs : List V} {i : Int} {v : V} (h0 : σ[0]? = some (some (.ref s))) (hH : H s = some (.lst xs)) (ha : atI xs i = some v) (q : Q v H) : qS K i σ H Q := ⟨_, h0, .inl ⟨s, xs, i, v, rfl, rfl, SqL.of hH, ha, q⟩⟩
theorem s_set {v : V} {xs : List V} {i : Int} {j : Nat} {Q : L2.St → Hp → Prop} (h0 : σ[0]? = some (some (.ref s))) (hH : H s = some (.lst xs)) (hj : ixN xs.length i = some j) (q : Q σ (upd H s (.lst (xs.set j v)))) : gSub (tVar 0) (tC (.int i)) rSetL v σ H Q := ⟨_, h0, s, xs, i, j, rfl, rfl, hH, hj, q⟩

theorem s_put {te : TE} {D : Ends} {xs : List V} {i : Int} {j : Nat} (h0 : σ[0]? = some (some (.ref s))) (hj : ixN xs.length i = some j) (h : te σ H fun v H1 => H1 s = some (.lst xs) ∧ D.nx σ (upd H1 s (.lst (xs.set j v)))) (hm : ∀ Q Q' : VK, (∀ v H, Q v H → Q' v H) → te σ H Q → te σ H Q') : qPut' te i D σ H :=
  hm _ _ (fun v H1 ⟨e, q⟩ => s_set h0 e hj q) h
end
/-- the stream's two lists -/
structure P4 (T : SA) (H : Hp) (x c y : Int) (ns : List Int) : Prop where
  s : H T.s = some (.lst [.ref T.l, .int x, .int c, .int y])
  l : H T.l = some (.lst (ns.map V.int))
  ne : T.s ≠ T.l
  len : ns.length ≤ 63
  bits : ∀ n ∈ ns, Builtin.Int.intBits n ≤ 1048576
  x0 : 0 ≤ x
  xb : Builtin.Int.intBits x ≤ 1048576
  y0 : 0 ≤ y
  y1 : y < 2147483647
  tb : LamX.Tabs T.tb H
section
variable {K : PySem.W.Frag} {σ : L2.St} {H : Hp} {T : SA} {A : AS} {x c y m : Int} {ns : List Int} {Dn : Ends}
theorem P4.upS (h : P4 T H x c y ns) {x' c' y' : Int} (hx : 0 ≤ x') (hb : Builtin.Int.intBits x' ≤ 1048576) (hy : 0 ≤ y') (hy1 : y' < 2147483647) : P4 T (upd H T.s (.lst [.ref T.l, .int x', .int c', .int y'])) x' c' y' ns :=
  ⟨upd_same, by rw [upd_ne h.ne.symm]; exact h.l, h.ne, h.len, h.bits, hx, hb, hy, hy1, tabs_keep h.tb (tbk_upd h.s nt_lst)⟩
theorem keepS {o : HO} {Z : AS} : Keep T.A Z H (upd H T.s o) := (Keep.refl _ _ _).upd (.inl (.inl rfl))
theorem keepL {o : HO} {Z : AS} : Keep T.A Z H (upd H T.l o) := (Keep.refl _ _ _).upd (.inl (.inr (.inl rfl)))
theorem draw1 (h : P4 T H x c y ns) (h0 : σ[0]? = some (some (.ref T.s))) (k : ∀ H', P4 T H' x (c + 1) y ns → Keep T.A A H H' → Dn.nx σ H') : t_draw1 K Dn σ H :=
  s_ix h0 h.s rfl ⟨c, 1, rfl, rfl, s_set h0 h.s rfl (k _ (h.upS h.x0 h.xb h.y0 h.y1) keepS)⟩
theorem bits0 : Builtin.Int.intBits 0 ≤ 1048576 := by decide
theorem nil_eqv (ns : List Int) : PyData.eqv (.list (pds (ns.map D.int))) (.list []) = ns.isEmpty := by
  cases ns with
  | nil => rfl
  | cons n ns => rfl
theorem pow18 : ((10 : Int) ^ (18 : Int).toNat) = 1000000000000000000 := by decide
theorem fzl_mkI {G : Gc} : ∀ ns : List Int, FzL G A H (ns.map V.int) (ns.map D.int)
  | [] => .nil
  | n :: ns => .cons (.int n) (fzl_mkI ns)
theorem lay_all : ∀ ns : List Int, PyData.canLayAll0 (pds (ns.map D.int)) = true
  | [] => rfl
  | n :: ns => by
    have := lay_all ns
    simpa [pds, pd, PyData.canLayAll0, PyData.canLay0] using this
theorem lay_ints (ns : List Int) : (pd (.lst (ns.map D.int))).canLay0 = true := lay_all ns
theorem shp_ints (ns : List Int) : SeqAt.shaped (pd (.lst (ns.map D.int))) = true := by
  unfold SeqAt.shaped
  rw [lay_ints]
  have : (pd (.lst (ns.map D.int))).depth ≤ 64 := by
    have h : ∀ ns : List Int, PyData.depthAll (pds (ns.map D.int)) ≤ 1 := fun ns => by
      induction ns with
      | nil => decide
      | cons n ns ih =>
        simp only [List.map_cons, pds, pd, PyData.depthAll, PyData.depth]
        omega
    have := h ns
    simp only [pd, PyData.depth]
    omega
  simp [this]
theorem draw2b {n : Int} (h : P4 T H x c y (n :: ns)) (h0 : σ[0]? = some (some (.ref T.s))) (k : ∀ H' x' y' ns', P4 T H' x' c y' ns' → ((n < 1000000000000000000 ∧ x' = 0 ∧ y' = (y * 31 + n + 7) % 2147483647 ∧ ns' = ns) ∨ (¬ n < 1000000000000000000 ∧ x' = n ∧ y' = y ∧ ns' = ns)) → Keep T.A A H H' → Dn.nx σ H') : t_draw2b K Dn σ H := by
  refine s_ix h0 h.s rfl ⟨.inl ⟨rfl, _, SqL.of h.l⟩, T.l, _, 0, 0, .int n, rfl, rfl, h.l, by decide, by decide, by simp [seqIndex?], rfl, ?_⟩
  have e1 : upd H T.l (.lst ((List.map V.int (n :: ns)).eraseIdx 0)) T.s = some (.lst [.ref T.l, .int x, .int c, .int y]) := by rw [upd_ne h.ne]; exact h.s
  refine s_set h0 e1 rfl ?_
  have hb : Builtin.Int.intBits n ≤ 1048576 := h.bits n (List.mem_cons_self ..)
  have hl : P4 T (upd H T.l (.lst (ns.map V.int))) x c y ns := ⟨e1, upd_same, h.ne, by have := h.len; simp at this; omega, fun z hz => h.bits z (List.mem_cons_of_mem _ hz), h.x0, h.xb, h.y0, h.y1, tabs_keep h.tb (tbk_upd h.l nt_lst)⟩
  have e2 : upd (upd H T.l (.lst (ns.map V.int))) T.s (.lst [.ref T.l, .int n, .int c, .int y]) T.s = some (.lst [.ref T.l, .int n, .int c, .int y]) := upd_same
  show tTest (tOp (rI0 fun i j => .bl (decide (i < j))) (qS K 1) (tOp qPw (tC (.int 10)) (tC (.int 18)))) σ (upd (upd H T.l (.lst (ns.map V.int))) T.s (.lst [.ref T.l, .int n, .int c, .int y])) _
  refine s_ix h0 e2 rfl ⟨10, 18, rfl, rfl, ⟨by decide, by decide, by decide⟩, n, _, rfl, rfl, _, rfl, ?_⟩
  rw [pow18]
  by_cases hn : n < 1000000000000000000
  · rw [decide_eq_true hn]
    show t_draw2c K Dn σ _
    refine s_ix h0 e2 rfl ⟨y, 31, rfl, rfl, .inr ⟨by decide, by decide⟩, s_ix h0 e2 rfl ⟨_, n, rfl, rfl, ⟨_, 7, rfl, rfl, .inl ⟨_, rfl, _, 2147483647, rfl, rfl, (by decide : (0 : Int) < 2147483647), s_set h0 e2 rfl ?_⟩⟩⟩⟩
    refine s_set h0 upd_same rfl ?_
    have hm : P4 T (upd (upd (upd (upd H T.l (.lst (ns.map V.int))) T.s (.lst [.ref T.l, .int n, .int c, .int y])) T.s (.lst [.ref T.l, .int n, .int c, .int ((y * 31 + n + 7) % 2147483647)])) T.s (.lst [.ref T.l, .int 0, .int c, .int ((y * 31 + n + 7) % 2147483647)])) 0 c ((y * 31 + n + 7) % 2147483647) ns :=
      ⟨upd_same, by rw [upd_ne h.ne.symm, upd_ne h.ne.symm, upd_ne h.ne.symm]; exact upd_same, h.ne, hl.len, hl.bits, Int.le_refl 0, bits0, Int.emod_nonneg _ (by decide), Int.emod_lt_of_pos _ (by decide), tabs_keep (tabs_keep (tabs_keep hl.tb (tbk_upd hl.s nt_lst)) (tbk_upd upd_same nt_lst)) (tbk_upd upd_same nt_lst)⟩
    exact k _ _ _ _ hm (.inl ⟨hn, rfl, rfl, rfl⟩) (((keepL.trans keepS).trans keepS).trans keepS)
  · rw [decide_eq_false hn]
    exact k _ _ _ _ (hl.upS (by omega) hb hl.y0 hl.y1) (.inr ⟨hn, rfl, rfl, rfl⟩) (keepL.trans keepS)
theorem draw2 (h : P4 T H x c y ns) (h0 : σ[0]? = some (some (.ref T.s))) (hn : ∀ a, T.A a → H a ≠ none) (k : ∀ H' x' y' ns', P4 T H' x' c y' ns' → (∀ cc : Nat, (⟨ns', x', cc, y'⟩ : Stm) = Stm.fill ⟨ns, x, cc, y⟩) → Keep T.A A H H' → Dn.nx σ H') : t_draw2 K Dn σ H := by
  refine s_ix h0 h.s rfl ⟨rfl, _, rfl, ?_⟩
  by_cases hx : x = 0
  · have e : decide (V.int x = V.int 0) = true := by rw [hx]; rfl
    rw [e]
    show tTest (tOp (rNeA K) (qS K 0) (tLst tNil)) σ H _
    refine s_ix h0 h.s rfl ⟨Nat.zero_le _, fun p hp => ?_⟩
    have k1 : Keep T.A A H (upd H p (.lst [])) := Keep.new hp
    have ns1 : T.s ≠ p := fun e => hn _ (.inl rfl) (by rw [e]; exact hp)
    have nl1 : T.l ≠ p := fun e => hn _ (.inr (.inl rfl)) (by rw [e]; exact hp)
    have h1 : P4 T (upd H p (.lst [])) x c y ns := ⟨by rw [upd_ne ns1]; exact h.s, by rw [upd_ne nl1]; exact h.l, h.ne, h.len, h.bits, h.x0, h.xb, h.y0, h.y1, tabs_keep h.tb (tbk_new hp)⟩
    have z1 : Fz ⟨K, fun _ => 0, []⟩ (fun _ => False) (upd H p (.lst [])) (.ref T.l) (.lst (ns.map D.int)) := .lst (fun z => z) h1.l (fzl_mkI ns)
    have z2 : Fz ⟨K, fun _ => 0, []⟩ (fun _ => False) (upd H p (.lst [])) (.ref p) (.lst []) := .lst (fun z => z) upd_same .nil
    refine .inr ⟨_, _, z1.dp (lay_ints ns), z2.dp rfl, shp_ints ns, rfl, _, rfl, ?_⟩
    have ee : PyData.eqv (pd (.lst (ns.map D.int))) (pd (.lst [])) = ns.isEmpty := nil_eqv ns
    rw [ee]
    cases ns with
    | nil => exact k _ _ _ _ h1 (fun cc => by simp [Stm.fill]) k1
    | cons n ns => exact draw2b h1 h0 fun H' x' y' ns' hp hs kp => k H' x' y' ns' hp (fun cc => by
      rcases hs with ⟨a, rfl, rfl, rfl⟩ | ⟨a, rfl, rfl, rfl⟩
      · simp [Stm.fill, hx, a]
      · simp [Stm.fill, hx, a]) (k1.trans kp)
  · have e : decide (V.int x = V.int 0) = false := by rw [decide_eq_false_iff_not]; intro e; cases e; exact hx rfl
    rw [e]
    exact k H x y ns h (fun cc => by simp [Stm.fill, hx]) (Keep.refl _ _ _)
theorem bits_mono {a b : Int} (h0 : 0 ≤ a) (h : a ≤ b) : Builtin.Int.intBits a ≤ Builtin.Int.intBits b := by
  unfold Builtin.Int.intBits
  by_cases ha : a = 0
  · simp [ha]
  · have hb : b ≠ 0 := by omega
    have ea : (a == 0) = false := by simpa using ha
    have eb : (b == 0) = false := by simpa using hb
    rw [ea, eb]
    show a.natAbs.log2 + 1 ≤ b.natAbs.log2 + 1
    have h1 : b.natAbs < 2 ^ (b.natAbs.log2 + 1) := (Nat.log2_lt (by omega)).mp (Nat.lt_succ_self _)
    have h2 : a.natAbs < 2 ^ (b.natAbs.log2 + 1) := Nat.lt_of_le_of_lt (by omega) h1
    have h3 := (Nat.log2_lt (n := a.natAbs) (by omega)).mpr h2
    omega
theorem draw3 (h : P4 T H x c y ns) (h0 : σ[0]? = some (some (.ref T.s))) (h1 : σ[1]? = some (some (.int m))) (hl : σ.length = 4) (hm : 1 ≤ m) (hm2 : m ≤ 10 ^ 100) (k : ¬ 0 < x → Dn.nx σ H) (kr : 0 < x → ∀ H', P4 T H' (x / m) c y ns → Keep T.A A H H' → Dn.rt (.int (x % m)) H') : t_draw3 K Dn σ H := by
  refine s_ix h0 h.s rfl ⟨x, 0, rfl, rfl, _, rfl, ?_⟩
  by_cases hx : 0 < x
  · rw [decide_eq_true hx]
    show t_draw3b K Dn σ H
    have h0' : (σ.set 2 (some (.int (x % m))))[0]? = some (some (.ref T.s)) := by rw [List.getElem?_set_ne (by decide)]; exact h0
    have h1' : (σ.set 2 (some (.int (x % m))))[1]? = some (some (.int m)) := by rw [List.getElem?_set_ne (by decide)]; exact h1
    have h2' : (σ.set 2 (some (V.int (x % m))))[2]? = some (some (.int (x % m))) := by simp [hl]
    refine s_ix h0 h.s rfl (.inl ⟨x, rfl, .int m, h1, x, m, rfl, rfl, (by omega : (0 : Int) < m), ?_⟩)
    refine s_ix h0' h.s rfl ⟨.int m, h1', x, m, rfl, rfl, ⟨by omega, ?_⟩, s_set h0' h.s rfl ⟨_, h2', ?_⟩⟩
    · have : m.natAbs < 2 ^ 9000 := by
        have h3 : m.natAbs ≤ 10 ^ 100 := by omega
        exact Nat.lt_of_le_of_lt h3 (by decide +kernel)
      exact (Nat.log2_lt (by omega)).mpr this
    · refine kr hx _ (h.upS (Int.ediv_nonneg h.x0 (by omega)) ?_ h.y0 h.y1) keepS
      exact Nat.le_trans (bits_mono (Int.ediv_nonneg h.x0 (by omega)) (Int.ediv_le_self m h.x0)) h.xb
  · rw [decide_eq_false hx]
    exact k hx
theorem draw4 (h : P4 T H x c y ns) (h0 : σ[0]? = some (some (.ref T.s))) (hc : 0 ≤ c) (hc1 : c ≤ 1000000) (k : ∀ z : Int, z = (y + 104729 * c + 17) ^ 5 % 2147483629 → 0 ≤ z → z < 2147483629 → Dn.nx (σ.set 3 (some (.int z))) H) : t_draw4 K Dn σ H := by
  refine s_ix h0 h.s rfl (s_ix h0 h.s rfl ⟨104729, c, rfl, rfl, .inl ⟨by decide, by decide⟩, y, _, rfl, rfl, ⟨_, 17, rfl, rfl, ⟨_, 5, rfl, rfl, ⟨by decide, by decide, ?_⟩, _, 2147483629, rfl, rfl, (by decide : (0 : Int) < 2147483629), k _ rfl (Int.emod_nonneg _ (by decide)) (Int.emod_lt_of_pos _ (by decide))⟩⟩⟩)
  have a := h.y0
  have b := h.y1
  show (y + 104729 * c + 17).natAbs < 18446744073709551616
  omega
theorem draw5 (h : P4 T H x c y ns) {z : Int} (h0 : σ[0]? = some (some (.ref T.s))) (h1 : σ[1]? = some (some (.int m))) (h3 : σ[3]? = some (some (.int z))) (hm : 1 ≤ m) (hz : 0 ≤ z) (hz1 : z < 2147483629) (hc : 0 ≤ c) (hc1 : c ≤ 1000000) (k : Dn.rt (.int ((z * 48271 + 40503 * c * c + 13) ^ 3 % 1000000007 % m)) H) : t_draw5 K Dn σ H := by
  have hcc : c * c ≤ 1000000 * 1000000 := Int.mul_le_mul hc1 hc1 hc (by decide)
  have hcc0 : 0 ≤ c * c := Int.mul_nonneg hc hc
  refine ⟨_, h3, z, 48271, rfl, rfl, .inr ⟨by decide, by decide⟩, s_ix h0 h.s rfl ⟨40503, c, rfl, rfl, .inl ⟨by decide, by decide⟩, s_ix h0 h.s rfl ⟨_, c, rfl, rfl, .inr ⟨by omega, by omega⟩, _, _, rfl, rfl, _, 13, rfl, rfl, _, 3, rfl, rfl, ⟨by decide, by decide, ?_⟩, _, 1000000007, rfl, rfl, (by decide : (0 : Int) < 1000000007), _, h1, _, m, rfl, rfl, (by omega : (0 : Int) < m), k⟩⟩⟩
  show (z * 48271 + 40503 * c * c + 13).natAbs < 18446744073709551616
  have e : 40503 * c * c = 40503 * (c * c) := Int.mul_assoc _ _ _
  rw [e]
  omega
theorem draw_run {t : Stm} (hs : StrOk T H t) (hm : 1 ≤ m) (hm2 : m ≤ 10 ^ 100) (hc : t.c < 1000000) (k : ∀ H', Keep T.A A H H' → StrOk T H' (drawF t m).2 → Dn.rt (.int (drawF t m).1) H') : t_draw K Dn (start N_draw [.ref T.s, .int m]) H := by
  obtain ⟨ne, e1, e2, hl, hb, x0, xb, y0, y1, tb⟩ := hs
  have h : P4 T H t.x t.c t.y t.ns := ⟨e1, e2, ne, hl, hb, x0, xb, y0, y1, tb⟩
  refine draw1 (A := A) h rfl fun H1 p1 k1 => ?_
  have nn : ∀ a, T.A a → H1 a ≠ none := fun a z => by
    rcases z with rfl | rfl | ⟨q, hq⟩
    · rw [p1.s]; exact nofun
    · rw [p1.l]; exact nofun
    · obtain ⟨ps, e, _⟩ := p1.tb _ hq
      rw [e]; exact nofun
  refine draw2 (A := A) p1 rfl nn fun H2 x2 y2 ns2 p2 hf k2 => ?_
  have hf' : (⟨ns2, x2, t.c + 1, y2⟩ : Stm) = t.up.fill := hf (t.c + 1)
  have ec : ((t.c + 1 : Nat) : Int) = (t.c : Int) + 1 := by omega
  refine draw3 (A := A) (m := m) p2 rfl rfl rfl hm hm2 (fun hx => ?_) fun hx H3 p3 k3 => ?_
  · refine draw4 p2 rfl (by omega) (by omega) fun z hz z0 z1 => ?_
    refine draw5 p2 rfl rfl rfl hm z0 z1 (by omega) (by omega) ?_
    have e : drawF t m = ((z * 48271 + 40503 * ((t.c : Int) + 1) * ((t.c : Int) + 1) + 13) ^ 3 % 1000000007 % m, ⟨ns2, x2, t.c + 1, y2⟩) := by
      unfold drawF
      rw [← hf', if_neg hx]
      unfold mixB mixA
      rw [hz]
      simp only [ec]
    have hk := k H2 (k1.trans k2)
    rw [e] at hk
    exact hk ⟨p2.ne, by rw [show ((⟨ns2, x2, t.c + 1, y2⟩ : Stm).c : Int) = (t.c : Int) + 1 from ec]; exact p2.s, p2.l, p2.len, p2.bits, p2.x0, p2.xb, p2.y0, p2.y1, p2.tb⟩
  · have e : drawF t m = (x2 % m, ⟨ns2, x2 / m, t.c + 1, y2⟩) := by
      unfold drawF
      rw [← hf', if_pos hx]
    have hk := k H3 ((k1.trans k2).trans k3)
    rw [e] at hk
    exact hk ⟨p3.ne, by rw [show ((⟨ns2, x2 / m, t.c + 1, y2⟩ : Stm).c : Int) = (t.c : Int) + 1 from ec]; exact p3.s, p3.l, p3.len, p3.bits, p3.x0, p3.xb, p3.y0, p3.y1, p3.tb⟩
end
/-- the text of a draw -/
theorem draw_ok {P : Program} {w : World} {K : PySem.W.Frag} {mg : Str → Option Value} {base : Heap} {params : Arguments} {body : List Stmt} {scope : Scope} {kws : List (Str × V)} {f : Addr} {fd : FuncData} {G : Gc}
    (F : FunD K "_law_draw" "_law_draw" params body scope [] kws f fd) (S : FnScope N_draw ["_law_stream", "_law_many"] scope)
    (hd : ∀ (cdv : Value) (A : Around) (outer : List PySem.Env) (s : Shared) (H : Hp) (E : XK), RoomG 0 (A.deeper (PyProof.Rows.envOfC "_law_draw" scope s.heap.objs.size f cdv)) → PSs (cxOf CX0 P w K mg base N_draw "_law_draw" scope f cdv A outer s H E).nox body (t_draw K)) :
    FnOg P w K mg base CX0 1 f fd ["_law_stream", "_law_many"] (liftSp G 2 conDraw) := by
  refine F.okg S (fun vs H Q E h => h.1) fun cdv A outer s H vs Q E hr h => ?_
  obtain ⟨hl, T, A', as, c, K', _, hs, h1, h2, hA, ha, ⟨m, rfl, m1, m2, hc, hk⟩, kq, _⟩ := h
  refine ⟨_, PSs.nox (hd cdv A outer s H E hr), ?_⟩
  cases ha with
  | st ha =>
    cases ha with
    | d z ha =>
      cases ha
      cases z
      exact draw_run (A := A') hs m1 m2 hc fun H' kp st => kq _ _ _ H' hk kp st (.int _)
end PP

set_option Elab.async false
set_option linter.all false
set_option maxRecDepth 100000
set_option maxHeartbeats 2000000
namespace PP
open PySem L2
/-! ### accounts over plain data -/
inductive Deed where | op (m : Str) (n : Int) | days (n : Int) | pause (n : Int) | back (m : Str)
deriving DecidableEq
def Deed.d : Deed → D
  | .op m n => .tup [.str "open", .str m, .int n]
  | .days n => .tup [.str "days", .int n]
  | .pause n => .tup [.str "pause", .int n]
  | .back m => .tup [.str "back", .str m]
def Deed.v : Deed → List V
  | .op m n => [.str "open", .str m, .int n]
  | .days n => [.str "days", .int n]
  | .pause n => [.str "pause", .int n]
  | .back m => [.str "back", .str m]
structure Ac where
  given : List (Str × Int)
  since : List (Str × Int)
def Ac.step (a : Ac) : Deed → Ac
  | .op m n => ⟨a.given ++ [(m, n)], a.since ++ [(m, 0)]⟩
  | .days n => ⟨a.given, a.since.map fun p => (p.1, p.2 + n)⟩
  | .pause _ => a
  | .back m => ⟨a.given.filter fun p => decide (p.1 ≠ m), a.since.filter fun p => decide (p.1 ≠ m)⟩
/-- a deed that can stand there -/
def Ac.ok (a : Ac) : Deed → Prop
  | .op m _ => m ∉ a.given.map (·.1)
  | .back m => m ∈ a.given.map (·.1)
  | _ => True
def Ac.run (a : Ac) : List Deed → Ac
  | [] => a
  | d :: ds => (a.step d).run ds
def Ac.oks (a : Ac) : List Deed → Prop
  | [] => True
  | d :: ds => a.ok d ∧ (a.step d).oks ds
/-- both dicts have the same keys, each once -/
structure Ac.good (a : Ac) : Prop where
  keys : a.since.map (·.1) = a.given.map (·.1)
  nodup : (a.given.map (·.1)).Nodup
theorem Ac.good.step {a : Ac} (g : a.good) {d : Deed} (h : a.ok d) : (a.step d).good := by
  cases d with
  | op m n =>
    refine ⟨by simp [Ac.step, g.keys], ?_⟩
    simp only [Ac.step, List.map_append, List.map_cons, List.map_nil]
    rw [List.nodup_append]
    refine ⟨g.nodup, by simp, fun x hx y hy e => h ?_⟩
    simp at hy
    rw [← hy, ← e]; exact hx
  | days n => exact ⟨by simp only [Ac.step, List.map_map]; rw [← g.keys]; rfl, g.nodup⟩
  | pause n => exact g
  | back m =>
    have e : ∀ l : List (Str × Int), (l.filter fun p => decide (p.1 ≠ m)).map (·.1) = (l.map (·.1)).filter fun x => decide (x ≠ m) := fun l => by rw [List.filter_map]; rfl
    refine ⟨by simp only [Ac.step]; rw [e, e, g.keys], by simp only [Ac.step]; rw [e]; exact g.nodup.filter _⟩
def kvI (l : List (Str × Int)) : List (Key × V) := l.map fun p => (Sum.inr p.1, V.int p.2)
def dI (l : List (Str × Int)) : List (Key × D) := l.map fun p => (Sum.inr p.1, D.int p.2)
def accD (row : List Deed) : D := .obj "Account" [("deeds", .tup (row.map Deed.d)), ("given", .dct (dI ((Ac.run ⟨[], []⟩ row).given))), ("since", .dct (dI ((Ac.run ⟨[], []⟩ row).since)))]
theorem kvI_len (l : List (Str × Int)) : (kvI l).length = l.length := by simp [kvI]
theorem put_new {l : List (Str × Int)} {m : Str} {n : Int} (h : m ∉ l.map (·.1)) : putK (kvI l) (.inr m) (.int n) = kvI (l ++ [(m, n)]) := by
  unfold putK
  rw [if_neg]
  · simp [kvI]
  · intro z
    rw [List.any_eq_true] at z
    obtain ⟨q, hq, e⟩ := z
    unfold kvI at hq
    obtain ⟨p, hp, rfl⟩ := List.mem_map.mp hq
    have e := of_decide_eq_true e
    have : p.1 = m := by simpa using e
    exact h (List.mem_map.mpr ⟨p, hp, this⟩)
theorem val_in {l : List (Str × Int)} {m : Str} (h : m ∈ l.map (·.1)) : ∃ n, valV (kvI l) (.inr m) = some (.int n) := by
  induction l with
  | nil => cases h
  | cons p l ih =>
    by_cases e : p.1 = m
    · exact ⟨p.2, by simp [valV, kvI, e]⟩
    · obtain ⟨n, hn⟩ := ih (by rcases List.mem_cons.mp h with q | q; exact absurd q.symm e; exact q)
      refine ⟨n, ?_⟩
      rw [← hn]
      simp [valV, kvI, e]
theorem drop_kv (l : List (Str × Int)) (m : Str) : dropK (kvI l) (.inr m) = kvI (l.filter fun p => decide (p.1 ≠ m)) := by
  unfold dropK kvI
  rw [List.filter_map]
  congr 1
  apply List.filter_congr
  intro p _
  simp
theorem deed_fz {G : Gc} {A : AS} {H : Hp} {v : V} (d : Deed) (h : Fz G A H v d.d) : ∃ t, v = .ref t ∧ H t = some (.tup d.v) := by
  cases d <;> (cases h with
    | tup n e l =>
      rw [fzl_sc (by rfl) l] at e
      exact ⟨_, rfl, e⟩)
section
variable (K : PySem.W.Frag)
abbrev qD (i : Int) : TE := tOp (rIx K) (tVar 2) (tC (.int i))
abbrev qF (f : Str) : TE := tFld K (tVar 0) f
abbrev qIs (w : Str) : TT := tTest (tOp rEq (qD K 0) (tC (.str w)))
def t_dc : TE := tDc (iAny K (qF K "since")) (gName 3) tYes (tVar 3) (tOp qA (tDGet (qF K "since") (tVar 3)) (qD K 1)) [3]
def t_acOpen : TS := tSeq (sDPut (qF K "given") (qD K 1) (qD K 2)) (tSeq (sDPut (qF K "since") (qD K 1) (tC (.int 0))) tNext)
def t_acBack : TS := tSeq (tDrop (tDPop1 (qF K "given") (qD K 1))) (tSeq (tDrop (tDPop1 (qF K "since") (qD K 1))) tNext)
def t_acDays : TS := tSeq (sFld K (tVar 0) (t_dc K) "since") tNext
def t_acBody : TS := tSeq (tIfS (qIs K "open") (t_acOpen K) (tSeq (tIfS (qIs K "back") (t_acBack K) (tSeq (tIfS (qIs K "days") (t_acDays K) tNext) tNext)) tNext)) tNext
end
/-- the object under way: all else as at H1 -/
structure AcAt (C x dx t g sn : Addr) (H1 : Hp) (a : Ac) (H : Hp) : Prop where
  ex : H x = some (.ins C dx [("deeds", .ref t), ("given", .ref g), ("since", .ref sn)])
  eg : H g = some (.dK (kvI a.given))
  es : H sn = some (.dK (kvI a.since))
  old : ∀ b o, H1 b = some o → b ≠ x → H b = some o
  g0 : H1 g = none
  s0 : H1 sn = none
  gx : g ≠ x
  sx : sn ≠ x
  gs : g ≠ sn
section
variable {K : PySem.W.Frag} {C x dx t g sn : Addr} {H1 H : Hp} {a : Ac} {σ : L2.St} {Dn : Ends} {d : Deed} {td : Addr}
theorem q_d {Q : VK} {xs : List V} {i : Int} {v : V} (h2 : σ[2]? = some (some (.ref td))) (hH : H td = some (.tup xs)) (ha : atI xs i = some v) (q : Q v H) : qD K i σ H Q := ⟨_, h2, .inr (.inl ⟨td, xs, i, v, rfl, rfl, SqT.of hH, ha, q⟩)⟩
theorem q_f {Q : VK} {f : Str} {fs : List (Str × V)} {v : V} (hc : Cls K C) (hn : NoAttr K C f) (h0 : σ[0]? = some (some (.ref x))) (hH : H x = some (.ins C dx fs)) (hl : fs.lookup f = some v) (q : Q v H) : qF K f σ H Q := ⟨_, h0, x, C, dx, fs, v, rfl, hH, hc, hn, hl, q⟩
theorem AcAt.setG (h : AcAt C x dx t g sn H1 a H) (l : List (Str × Int)) : AcAt C x dx t g sn H1 ⟨l, a.since⟩ (upd H g (.dK (kvI l))) :=
  ⟨by rw [upd_ne h.gx.symm]; exact h.ex, upd_same, by rw [upd_ne h.gs.symm]; exact h.es, fun b o e n => by rw [upd_ne (ne_of_none e h.g0)]; exact h.old b o e n, h.g0, h.s0, h.gx, h.sx, h.gs⟩
theorem AcAt.setS (h : AcAt C x dx t g sn H1 a H) (l : List (Str × Int)) : AcAt C x dx t g sn H1 ⟨a.given, l⟩ (upd H sn (.dK (kvI l))) :=
  ⟨by rw [upd_ne h.sx.symm]; exact h.ex, by rw [upd_ne h.gs]; exact h.eg, upd_same, fun b o e n => by rw [upd_ne (ne_of_none e h.s0)]; exact h.old b o e n, h.g0, h.s0, h.gx, h.sx, h.gs⟩
structure AcK (K : PySem.W.Frag) (C : Addr) : Prop where
  c : Cls K C
  d : NoAttr K C "deeds"
  g : NoAttr K C "given"
  s : NoAttr K C "since"
theorem ac_open (kc : AcK K C) (h : AcAt C x dx t g sn H1 a H) (ga : a.good) {m : Str} {n : Int} (ok : a.ok (.op m n)) (hz : a.given.length < 1000000) (h0 : σ[0]? = some (some (.ref x))) (h2 : σ[2]? = some (some (.ref td))) (ht : H1 td = some (.tup (Deed.op m n).v)) (tx : td ≠ x)
    (k : ∀ H', AcAt C x dx t g sn H1 (a.step (.op m n)) H' → Dn.nx σ H') : t_acOpen K Dn σ H := by
  have hs : m ∉ a.since.map (·.1) := by rw [ga.keys]; exact ok
  have hl : a.since.length < 1000000 := by
    have := congrArg List.length ga.keys
    simp at this; omega
  have big : (1000000 : Nat) ≤ sizeLine := by decide
  refine q_d h2 (h.old td _ ht tx) rfl (q_f kc.c kc.g h0 h.ex rfl (q_d h2 (h.old td _ ht tx) rfl ⟨g, _, rfl, .inl ⟨_, .inr m, h.eg, rfl, by rw [kvI_len]; omega, rfl⟩, ?_⟩))
  rw [put_new ok]
  have b := h.setG (a.given ++ [(m, n)])
  dsimp only [tSeq, sDPut, tC]
  refine q_f kc.c kc.s h0 b.ex rfl ?_
  refine q_d h2 (b.old td _ ht tx) rfl ?_
  refine ⟨sn, _, rfl, .inl ⟨_, .inr m, b.es, rfl, by rw [kvI_len]; show a.since.length < _; omega, rfl⟩, ?_⟩
  show Dn.nx σ (upd _ sn (.dK (putK (kvI a.since) (.inr m) (.int 0))))
  rw [put_new hs]
  exact k _ (b.setS (a.since ++ [(m, 0)]))
theorem ac_back (kc : AcK K C) (h : AcAt C x dx t g sn H1 a H) (ga : a.good) {m : Str} (ok : a.ok (.back m)) (h0 : σ[0]? = some (some (.ref x))) (h2 : σ[2]? = some (some (.ref td))) (ht : H1 td = some (.tup (Deed.back m).v)) (tx : td ≠ x)
    (k : ∀ H', AcAt C x dx t g sn H1 (a.step (.back m)) H' → Dn.nx σ H') : t_acBack K Dn σ H := by
  have hs : m ∈ a.since.map (·.1) := by rw [ga.keys]; exact ok
  obtain ⟨n, hn⟩ := val_in (show m ∈ a.given.map (·.1) from ok)
  obtain ⟨n', hn'⟩ := val_in hs
  dsimp only [t_acBack, tSeq, tDrop, tDPop1]
  refine q_f kc.c kc.g h0 h.ex rfl ?_
  refine ⟨g, rfl, .inl ⟨_, .inl h.eg⟩, ?_⟩
  refine q_d h2 (h.old td _ ht tx) rfl ?_
  refine ⟨_, .inr m, _, h.eg, rfl, hn, ?_⟩
  rw [drop_kv]
  have b := h.setG (a.given.filter fun p => decide (p.1 ≠ m))
  refine q_f kc.c kc.s h0 b.ex rfl ?_
  refine ⟨sn, rfl, .inl ⟨_, .inl b.es⟩, ?_⟩
  refine q_d h2 (b.old td _ ht tx) rfl ?_
  refine ⟨_, .inr m, _, b.es, rfl, hn', ?_⟩
  show Dn.nx σ (upd _ sn (.dK (dropK (kvI a.since) (.inr m))))
  rw [drop_kv]
  exact k _ (b.setS (a.since.filter fun p => decide (p.1 ≠ m)))
theorem upd2 {H : Hp} {p : Addr} {o o' : HO} : upd (upd H p o) p o' = upd H p o' := by
  funext b
  by_cases e : b = p
  · rw [e, upd_same, upd_same]
  · rw [upd_ne e, upd_ne e, upd_ne e]
theorem val_at {l : List (Str × Int)} (hn : (l.map (·.1)).Nodup) {i : Nat} {p : Str × Int} (h : l[i]? = some p) : valV (kvI l) (.inr p.1) = some (.int p.2) := by
  induction l generalizing i with
  | nil => simp at h
  | cons q l ih =>
    rw [List.map_cons, List.nodup_cons] at hn
    cases i with
    | zero => simp at h; subst h; simp [valV, kvI]
    | succ i =>
      have h' : l[i]? = some p := by simpa using h
      have ne : ¬ q.1 = p.1 := fun e => hn.1 (by rw [e]; exact List.mem_map.mpr ⟨p, List.mem_of_getElem? h', rfl⟩)
      rw [← ih hn.2 h']
      simp [valV, kvI, ne]
def addI (n : Int) (l : List (Str × Int)) : List (Str × Int) := l.map fun p => (p.1, p.2 + n)
theorem ac_days (kc : AcK K C) (h : AcAt C x dx t g sn H1 a H) (ga : a.good) {n : Int} (hz : a.given.length < 1000000) (h0 : σ[0]? = some (some (.ref x))) (h2 : σ[2]? = some (some (.ref td))) (h4 : σ.length = 4) (ht : H1 td = some (.tup (Deed.days n).v)) (tx : td ≠ x)
    (k : ∀ sn' H', AcAt C x dx t g sn' H1 (a.step (.days n)) H' → Dn.nx σ H') : t_acDays K Dn σ H := by
  have hl : a.since.length = a.given.length := by
    have := congrArg List.length ga.keys
    simpa using this
  have hnd : (a.since.map (·.1)).Nodup := by rw [ga.keys]; exact ga.nodup
  have big : (1000000 : Nat) ≤ sizeLine := by decide
  dsimp only [t_acDays, tSeq, sFld, t_dc, tDc, iAny]
  refine q_f kc.c kc.s h0 h.ex rfl ?_
  refine .inr (.inr (.inr (.inl ⟨sn, _, rfl, h.es, fun o Dd hD => ?_⟩)))
  have nD : Dd ≠ sn := fun e => by rw [e, upd_same] at hD; cases hD
  have hDH : H Dd = none := by rw [upd_ne nD] at hD; exact hD
  have xD : x ≠ Dd := fun e => by rw [← e, h.ex] at hDH; cases hDH
  have gD : g ≠ Dd := fun e => by rw [← e, h.eg] at hDH; cases hDH
  have tdH : H td = some (.tup (Deed.days n).v) := h.old td _ ht tx
  have tD : td ≠ Dd := fun e => by rw [← e, tdH] at hDH; cases hDH
  have ts : td ≠ sn := ne_of_none ht h.s0
  have h1D : H1 Dd = none := by
    cases q : H1 Dd with
    | none => rfl
    | some o => rw [h.old Dd o q xD.symm] at hDH; cases hDH
  let Hw : Nat → Hp := fun i => upd (upd H sn (.frz o (.dK (kvI a.since)))) Dd (.dK (kvI ((addI n a.since).take i)))
  have wx : ∀ i, Hw i x = some (.ins C dx [("deeds", .ref t), ("given", .ref g), ("since", .ref sn)]) := fun i => by show upd (upd _ _ _) _ _ x = _; rw [upd_ne xD, upd_ne h.sx.symm]; exact h.ex
  have ws : ∀ i, Hw i sn = some (.frz o (.dK (kvI a.since))) := fun i => by show upd (upd _ _ _) _ _ sn = _; rw [upd_ne nD.symm, upd_same]
  have wt : ∀ i, Hw i td = some (.tup (Deed.days n).v) := fun i => by show upd (upd _ _ _) _ _ td = _; rw [upd_ne tD, upd_ne ts]; exact tdH
  have wg : ∀ i, Hw i g = some (.dK (kvI a.given)) := fun i => by show upd (upd _ _ _) _ _ g = _; rw [upd_ne gD, upd_ne h.gs]; exact h.eg
  refine ⟨fun i m H' => m = a.since.length - i ∧ i ≤ a.since.length ∧ H' = Hw i, ⟨a.since.length, rfl, Nat.zero_le _, rfl⟩, ?_⟩
  rintro i m H' ⟨rfl, hi, rfl⟩
  by_cases hlt : i < a.since.length
  · refine .inr ⟨⟨ws i, by rw [kvI_len]; exact hlt⟩, fun H' => i + 1 ≤ a.since.length ∧ H' = Hw (i + 1), fun H' q => ⟨a.since.length - (i + 1), by omega, rfl, q.1, q.2⟩, fun y H' hy => ?_⟩
    obtain ⟨rfl, ky, vy, hk, rfl⟩ := hy
    have hp : a.since[i]? = some a.since[i] := by simp [hlt]
    have ek : ky = .inr a.since[i].1 ∧ vy = .int a.since[i].2 := by
      unfold kvI at hk
      rw [List.getElem?_map, hp] at hk
      simp at hk
      exact ⟨hk.1.symm, hk.2.symm⟩
    obtain ⟨rfl, rfl⟩ := ek
    have ew : L2.wipe σ [3] = σ.set 3 none := rfl
    have s3 : ((L2.wipe σ [3]).set 3 (some (kV (.inr a.since[i].1))))[3]? = some (some (kV (.inr a.since[i].1))) := by rw [ew]; simp [h4]
    have s0 : ((L2.wipe σ [3]).set 3 (some (kV (.inr a.since[i].1))))[0]? = some (some (.ref x)) := by rw [ew, List.getElem?_set_ne (by decide), List.getElem?_set_ne (by decide)]; exact h0
    have s2 : ((L2.wipe σ [3]).set 3 (some (kV (.inr a.since[i].1))))[2]? = some (some (.ref td)) := by rw [ew, List.getElem?_set_ne (by decide), List.getElem?_set_ne (by decide)]; exact h2
    refine ⟨?_, ?_⟩
    · show (((σ.set 3 none).set 3 _).set 3 none) = σ.set 3 none
      rw [List.set_set, List.set_set]
    · dsimp only [tYes]
      rw [if_pos rfl]
      refine ⟨_, s3, ?_⟩
      dsimp only [tOp, tDGet]
      refine q_f kc.c kc.s s0 (wx i) rfl ?_
      refine ⟨_, s3, sn, .int a.since[i].2, rfl, .inl ⟨_, _, .inr ⟨o, ws i⟩, rfl, (val_at hnd hp).symm⟩, ?_⟩
      refine q_d s2 (wt i) rfl ?_
      refine ⟨_, n, rfl, rfl, _, .inr a.since[i].1, rfl, upd_same, ?_, hlt, ?_⟩
      · rw [kvI_len, List.length_take]
        unfold addI
        rw [List.length_map]; omega
      · show upd (upd _ Dd _) Dd _ = upd _ Dd _
        rw [upd2, put_new]
        · congr 3
          rw [List.take_add_one]
          congr 1
          unfold addI
          rw [List.getElem?_map, hp]
          rfl
        · intro q
          have : ((addI n a.since).take i).map (·.1) = (a.since.map (·.1)).take i := by
            unfold addI
            rw [List.map_take, List.map_map]; rfl
          rw [this] at q
          obtain ⟨j, hj⟩ := List.mem_iff_getElem?.mp q
          rw [List.getElem?_take] at hj
          split at hj
          · rename_i hji
            have hi' : (a.since.map (·.1))[i]? = some a.since[i].1 := by rw [List.getElem?_map, hp]; rfl
            have := (List.getElem?_inj (by simp; omega) hnd).mp (hj.trans hi'.symm)
            omega
          · cases hj
  · have ei : i = a.since.length := by omega
    subst ei
    refine .inl ⟨⟨ws _, by rw [kvI_len]; exact Nat.le_refl _⟩, ?_⟩
    refine ⟨_, h0, x, C, dx, _, rfl, wx _, kc.c, kc.s, (by show 3 < 1000; decide), ?_⟩
    have et : (addI n a.since).take a.since.length = addI n a.since := List.take_of_length_le (by unfold addI; simp)
    have ep : putF (Str.ofString "since") (V.ref Dd) [(Str.ofString "deeds", V.ref t), (Str.ofString "given", V.ref g), (Str.ofString "since", V.ref sn)] = [(Str.ofString "deeds", V.ref t), (Str.ofString "given", V.ref g), (Str.ofString "since", V.ref Dd)] := rfl
    rw [ep]
    refine k Dd _ ⟨upd_same, by rw [upd_ne h.gx]; exact wg _, ?_, fun b o e nb => ?_, h.g0, h1D, h.gx, xD.symm, gD⟩
    · rw [upd_ne xD.symm]
      show upd (upd _ _ _) Dd _ Dd = _
      rw [upd_same, et]
      rfl
    · rw [upd_ne nb]
      show upd (upd _ _ _) Dd _ b = _
      rw [upd_ne (ne_of_none e h1D), upd_ne (ne_of_none e h.s0)]
      exact h.old b o e nb
theorem q_is {w : Str} {Q : Bool → Hp → Prop} {xs : List V} {v : Str} (h2 : σ[2]? = some (some (.ref td))) (hH : H td = some (.tup xs)) (ha : atI xs 0 = some (.str v)) (q : Q (decide (v = w)) H) : qIs K w σ H Q := by
  refine q_d h2 hH ha ⟨rfl, _, rfl, ?_⟩
  have e : decide (V.str v = V.str w) = decide (v = w) := by
    by_cases h : v = w
    · subst h; simp
    · simp [h]
  rw [e]; exact q
theorem ac_body (kc : AcK K C) (h : AcAt C x dx t g sn H1 a H) (ga : a.good) (ok : a.ok d) (hz : a.given.length < 1000000) (h0 : σ[0]? = some (some (.ref x))) (h2 : σ[2]? = some (some (.ref td))) (h4 : σ.length = 4) (ht : H1 td = some (.tup d.v)) (tx : td ≠ x)
    (k : ∀ sn' H', AcAt C x dx t g sn' H1 (a.step d) H' → Dn.nx σ H') : t_acBody K Dn σ H := by
  have htH := h.old td _ ht tx
  dsimp only [t_acBody, tSeq, tIfS]
  cases d with
  | op m n =>
    refine q_is h2 htH rfl ?_
    rw [if_pos (by decide)]
    exact ac_open (Dn := { Dn with nx := tNext Dn }) kc h ga ok hz h0 h2 ht tx fun H' q => k sn H' q
  | back m =>
    refine q_is h2 htH rfl ?_
    rw [if_neg (by decide)]
    refine q_is h2 htH rfl ?_
    rw [if_pos (by decide)]
    exact ac_back (Dn := { Dn with nx := tNext Dn }) kc h ga ok h0 h2 ht tx fun H' q => k sn H' q
  | days n =>
    refine q_is h2 htH rfl ?_
    rw [if_neg (by decide)]
    refine q_is h2 htH rfl ?_
    rw [if_neg (by decide)]
    refine q_is h2 htH rfl ?_
    rw [if_pos (by decide)]
    exact ac_days (Dn := { Dn with nx := tNext Dn }) kc h ga hz h0 h2 h4 ht tx k
  | pause n =>
    refine q_is h2 htH rfl ?_
    rw [if_neg (by decide)]
    refine q_is h2 htH rfl ?_
    rw [if_neg (by decide)]
    refine q_is h2 htH rfl ?_
    rw [if_neg (by decide)]
    exact k sn H h
end
end PP

set_option Elab.async false
set_option linter.all false
set_option maxRecDepth 100000
set_option maxHeartbeats 2000000
namespace PP
open PySem L2
def Deed.ds : Deed → List D
  | .op m n => [.str "open", .str m, .int n]
  | .days n => [.str "days", .int n]
  | .pause n => [.str "pause", .int n]
  | .back m => [.str "back", .str m]
theorem Deed.d_eq (d : Deed) : d.d = .tup d.ds := by cases d <;> rfl
def DeedIs (x : D) (d : Deed) : Prop := x = .tup d.ds ∨ x = .lst d.ds
inductive DsAre : List D → List Deed → Prop
  | nil : DsAre [] []
  | cons {x : D} {d : Deed} {xs : List D} {ds : List Deed} : DeedIs x d → DsAre xs ds → DsAre (x :: xs) (d :: ds)
theorem DsAre.of : ∀ row : List Deed, DsAre (row.map Deed.d) row
  | [] => .nil
  | d :: r => .cons (.inl (d.d_eq)) (DsAre.of r)
def RowIs (x : D) (row : List Deed) : Prop := ∃ xs, (x = .lst xs ∨ x = .tup xs ∨ x = .kt xs) ∧ DsAre xs row
def letters : Str := "abcdefghijklmnopqrstuvwxyz"
def MarkOk (m : Str) : Prop := 1 ≤ m.length ∧ m.length ≤ 8 ∧ ∀ c ∈ m.cps.toList, c ∈ letters.cps.toList
def okD : Deed → Prop
  | .op m n => MarkOk m ∧ 0 < n
  | .days n => 0 < n
  | .pause n => 0 < n
  | .back m => MarkOk m
def opens : Deed → List Str
  | .op m _ => [m]
  | _ => []
def newOp (opened : List Str) : Deed → Prop
  | .op m _ => m ∉ opened
  | _ => True
def vd (opened : List Str) (a : Ac) : List Deed → Prop
  | [] => True
  | d :: r => newOp opened d ∧ a.ok d ∧ vd (opened ++ opens d) (a.step d) r
def ac0 : Ac := ⟨[], []⟩
structure ValidRow (row : List Deed) : Prop where
  ok : ∀ d ∈ row, okD d
  len : row.length ≤ 100000
  vd : vd [] ac0 row
theorem good0 : ac0.good := ⟨rfl, List.nodup_nil⟩
theorem vd_oks : ∀ {row : List Deed} {op : List Str} {a : Ac}, vd op a row → a.oks row
  | [], _, _, _ => trivial
  | _ :: _, _, _, h => ⟨h.2.1, vd_oks h.2.2⟩
def conChecked : Con := fun as c K _ => ∃ row rowD, as = [some rowD] ∧ RowIs rowD row ∧ ValidRow row ∧ K (.fz (.lst (row.map Deed.d))) c
def conMk : Con := fun as c K _ => ∃ row rowD, as = [some rowD] ∧ RowIs rowD row ∧ ValidRow row ∧ K (.fz (accD row)) c
def t_acInit (K : PySem.W.Frag) (tv : TE) : TS := tSeq (sFld K (tVar 0) tv "deeds") (tSeq (sFld K (tVar 0) tDNewK "given") (tSeq (sFld K (tVar 0) tDNewK "since") (tSeq (tFor (iTup K (qF K "deeds")) (gName 2) (t_acBody K)) tNext)))
def N_acInit : List Str := ["self", "row", "deed", "mark"]
def i_acDeeds : Ex := .bi .tuple [.call "checked_row" [.var 1] 0]
def spInit (G : Gc) : Sp := fun vs H Q _ => ∃ (x dx : Addr) (H0 : Hp) (T : SA) (A : AS) (row : List Deed) (rowD : D) (c : Stm) (v : V), vs = [.ref x, v] ∧ H = upd (upd H0 dx (.own x)) x (.ins (G.ga "Account") dx []) ∧ H0 x = none ∧ H0 dx = none ∧ dx ≠ x ∧ StrOk T H0 c ∧ (∀ a, T.A a → A a) ∧ T.tb = G.tb ∧ (∀ a, A a → NT (H0 a)) ∧
  Fz G A H0 v rowD ∧ RowIs rowD row ∧ ValidRow row ∧ ∀ H', Keep T.A A H0 H' → StrOk T H' c → Fz G A H' (.ref x) (accD row) → Q .non H'
theorem Ac.step_len (a : Ac) (d : Deed) : (a.step d).given.length ≤ a.given.length + 1 := by
  cases d with
  | op m n => simp [Ac.step]
  | days n => simp [Ac.step]
  | pause n => simp [Ac.step]
  | back m => simp only [Ac.step]; exact Nat.le_succ_of_le (List.length_filter_le _ _)
section
variable {K : PySem.W.Frag} {C x dx t g sn : Addr} {H1 H : Hp} {a : Ac} {σ : L2.St} {Dn : Ends}
/-- the loop over the deeds -/
theorem ac_loop {G : Gc} {A : AS} {vs1 : List V} {row : List Deed} (hK : K = G.K) (kc : AcK K C) (h : AcAt C x dx t g sn H1 ac0 H) (ht : H1 t = some (.tup vs1)) (tx : t ≠ x) (ax : A x) (l : FzL G A H1 vs1 (row.map Deed.d)) (hv : ValidRow row) (h0 : σ[0]? = some (some (.ref x))) (h4 : σ.length = 4)
    (k : ∀ sn' σ' H', AcAt C x dx t g sn' H1 (ac0.run row) H' → Dn.nx σ' H') : tFor (iTup K (qF K "deeds")) (gName 2) (t_acBody K) Dn σ H := by
  have htH : ∀ {sn' a' H'}, AcAt C x dx t g sn' H1 a' H' → SqT K H' t vs1 := fun q => SqT.of (q.old t _ ht tx)
  have hlen : vs1.length = row.length := by rw [l.length, List.length_map]
  dsimp only [tFor, iTup]
  refine q_f kc.c kc.d h0 h.ex rfl ?_
  refine ⟨t, rfl, ⟨_, htH h⟩, ?_⟩
  let W0 : Nat → L2.St → Hp → Prop := fun i σ' H' => i ≤ row.length ∧ σ'[0]? = some (some (.ref x)) ∧ σ'.length = 4 ∧ ∃ sn' a', AcAt C x dx t g sn' H1 a' H' ∧ a'.good ∧ a'.oks (row.drop i) ∧ a'.run (row.drop i) = ac0.run row ∧ a'.given.length ≤ i
  refine ⟨fun i m σ' H' => m = row.length - i ∧ W0 i σ' H', ⟨row.length, rfl, Nat.zero_le _, h0, h4, sn, ac0, h, good0, vd_oks hv.vd, rfl, Nat.le_refl _⟩, ?_⟩
  rintro i m σ' H' ⟨rfl, hi, s0, s4, sn', a', q, ga, oks, er, gl⟩
  by_cases hlt : i < row.length
  · refine .inr ⟨⟨vs1, vs1[i]'(by omega), htH q, by simp [hlen, hlt]⟩, W0 (i + 1), fun σ'' H'' p => ⟨row.length - (i + 1), by omega, rfl, p⟩, fun v H'' hy => ?_⟩
    obtain ⟨rfl, hy⟩ := hy
    have hvi := hy vs1 (htH q)
    have hdi : (row.map Deed.d)[i]? = some row[i].d := by simp [hlt]
    obtain ⟨v', hv', z⟩ := l.getD hdi
    rw [hvi] at hv'; cases hv'
    obtain ⟨td, rfl, htd⟩ := deed_fz row[i] z
    have tdx : td ≠ x := by
      intro e
      rw [row[i].d_eq] at z
      cases z with
      | tup n _ _ => exact n (e ▸ ax)
    rw [drop_get hlt] at oks er
    dsimp only [gName]
    have hl1 := hv.len
    refine ac_body kc q ga oks.1 (by omega) (by rw [List.getElem?_set_ne (by decide)]; exact s0) (by simp [s4]) (by simp [s4]) htd tdx fun sn'' H'' q' => ?_
    exact ⟨hlt, by rw [List.getElem?_set_ne (by decide)]; exact s0, by simp [s4], sn'', _, q', ga.step oks.1, oks.2, er, Nat.le_trans (a'.step_len _) (by omega)⟩
  · have ei : i = row.length := by omega
    subst ei
    rw [List.drop_length] at er
    refine .inl ⟨⟨vs1, htH q, by omega⟩, k sn' σ' H' ?_⟩
    rw [← er]; exact q
end
theorem fzl_mkv {G : Gc} {A : AS} {H : Hp} : ∀ l : List (Str × Int), FzL G A H ((kvI l).map (·.2)) ((dI l).map (·.2))
  | [] => .nil
  | p :: l => .cons (.int p.2) (fzl_mkv l)
theorem kv_keys (l : List (Str × Int)) : (kvI l).map (·.1) = (dI l).map (·.1) := by simp [kvI, dI, List.map_map]
theorem dm0 {H0 : Hp} {x dx : Addr} {o1 o2 : HO} {b : Addr} {o : HO} (hx : H0 x = none) (hdx : H0 dx = none) (h : H0 b = some o) : upd (upd H0 dx o1) x o2 b = some o := by
  rw [upd_ne (ne_of_none h hx), upd_ne (ne_of_none h hdx)]; exact h
section
variable {P : Program} {w : World} {K : PySem.W.Frag} {mg : Str → Option Value} {base : Heap} {qual : Str} {params : Arguments} {body : List Stmt} {scope : Scope} {dvs : List V} {kws : List (Str × V)} {f : Addr} {fd : FuncData}
theorem init_ok {G : Gc} {Γ : Env} {k : Nat} {nm : Str} (F : FunD K nm qual params body scope dvs kws f fd) (S : FnScope N_acInit ["self", "row"] scope) (hK : K = G.K) (hΓ : Γ.fn "checked_row" = some (.pl conChecked false [])) (kc : AcK K (G.ga "Account"))
    (hd : ∀ (cdv : Value) (A : Around) (outer : List PySem.Env) (s : Shared) (H : Hp) (E : XK) (Fm : Fm), Fm.G = G → Gd (cxOf CX0 P w K mg base N_acInit qual scope f cdv A outer s H E).nox Fm noX → RoomG k (A.deeper (PyProof.Rows.envOfC qual scope s.heap.objs.size f cdv)) →
      PSs (cxOf CX0 P w K mg base N_acInit qual scope f cdv A outer s H E).nox body (t_acInit K (LR Fm noX (evP Γ i_acDeeds).r))) :
    FnOg P w K mg base CX0 (k + 1) f fd ["self", "row"] (spInit G) := by
  refine F.okg S (fun vs H Q E h => ?_) fun cdv A outer s H vs Q E hr h => ?_
  · obtain ⟨x, dx, H0, T, A, row, rowD, c, v, rfl, _⟩ := h
    rfl
  obtain ⟨x, dx, H0, T, A', row, rowD, c, v, rfl, rfl, hx, hdx, hne, hs, h1, h2, hA, hz, hrow, hv, kq⟩ := h
  let C := G.ga "Account"
  let Hp0 : Hp := upd (upd H0 dx (.own x)) x (.ins C dx [])
  let A2 : AS := fun a => A' a ∨ a = x ∨ a = dx
  let Fr : Fm := ⟨G, T, Hp0, T.A, A2⟩
  refine ⟨_, PSs.nox (hd cdv A outer s Hp0 E Fr rfl ⟨hK, rfl, S.nd, hr.units, hr.g, takes_no, h2⟩ hr), ?_⟩
  have nx : x ≠ T.s := fun e => hs.is (by rw [← e]; exact hx)
  have nx2 : x ≠ T.l := fun e => hs.il (by rw [← e]; exact hx)
  have nd : dx ≠ T.s := fun e => hs.is (by rw [← e]; exact hdx)
  have nd2 : dx ≠ T.l := fun e => hs.il (by rw [← e]; exact hdx)
  have hst : StrOk T Hp0 c := (hs.new hdx).new (by rw [upd_ne hne.symm]; exact hx)
  have zx : Hp0 x = some (.ins C dx []) := upd_same
  have hz2 : Fz G A2 Hp0 v rowD := by
    refine hz.tr (A := A') (Z := A') (fun b o e n => ⟨o, dm0 hx hdx e, .refl o, fun _ => rfl⟩) fun a z => ?_
    rcases z with z | rfl | rfl
    · exact .inl z
    · exact .inr hx
    · exact .inr hdx
  have av : ∀ a, Av' A2 (fun _ => none) a → A2 a := fun a z => by
    rcases z with z | ⟨_, z⟩
    · exact z
    · cases z
  have R0 : Rep Fr A2 (fun _ => none) (start N_acInit [.ref x, v]) Hp0 ⟨[none, some (.fz rowD), none, none], c⟩ := by
    refine ⟨Keep.refl _ _ _, hst, fun _ z => z, fun a z => .inl (h1 a z), fun a z => .inl z, fun a z => ?_, fun a z => .inl (.inl (h1 a z)), fun _ _ e => (by cases e), fun _ _ _ e => (by cases e), fun _ _ e => (by cases e), rfl, fun i p e => ?_⟩
    · rcases z with z | rfl | rfl
      · cases q : H0 a with
        | none => exact absurd q (hA a z).1
        | some o => exact (hA a z).le q (show Hp0 a = some o from dm0 hx hdx q) (.refl o)
      · exact .of zx nofun
      · refine .of (u := .own x) ?_ nofun
        show upd (upd _ _ _) _ _ _ = _
        rw [upd_ne hne, upd_same]
    · match i, e with
      | 1, e => cases e; exact ⟨v, rfl, hz2.mono fun a z => .inl (av a z), rfl⟩
      | n + 4, e => cases e
  dsimp only [t_acInit, tSeq, sFld]
  refine ⟨A2, fun _ => none, _, fun r s1 => r = .fz (.tup (row.map Deed.d)) ∧ s1.c = c, R0, ?_, fun r s1 v1 H1 ow1 k1 rr e1 => ?_⟩
  · show (callE (Γ.fn "checked_row") [] (evA Γ [.var 1]) (evB Γ [.var 1]) 0) _ _ _
    rw [hΓ]
    exact ⟨row, rowD, rfl, hrow, hv, ⟨fun e => (by cases e), rfl, rfl⟩⟩
  obtain ⟨rfl, hc⟩ := k1
  obtain ⟨R1, z1⟩ := rr
  have z1' : Fz G (Av' A2 ow1) H1 v1 (.tup (row.map Deed.d)) := z1
  cases z1' with
  | tup nt et l1 =>
    rename_i t vs1
    have ax : Av' A2 ow1 x := .inl (.inr (.inl rfl))
    have tx : t ≠ x := fun e => nt (e ▸ ax)
    have mx : ¬ Fr.md x := fun z => hs.i z hx
    have hx1 : H1 x = some (.ins C dx []) := R0.atZ e1 (.inr (.inl rfl)) mx zx
    refine ⟨_, rfl, x, C, dx, [], rfl, hx1, kc.c, kc.d, (by decide), ?_⟩
    intro g hg
    have gx : g ≠ x := fun e => by rw [e, upd_same] at hg; cases hg
    have g0 : H1 g = none := by rw [upd_ne gx] at hg; exact hg
    refine ⟨_, rfl, x, C, dx, [("deeds", .ref t)], rfl, by rw [upd_ne gx.symm, upd_same]; rfl, kc.c, kc.g, (by show 1 < 1000; decide), ?_⟩
    intro sn hsn
    have sx : sn ≠ x := fun e => by rw [e, upd_same] at hsn; cases hsn
    have sg : sn ≠ g := fun e => by rw [e, upd_ne gx, upd_same] at hsn; cases hsn
    have s0 : H1 sn = none := by rw [upd_ne sx, upd_ne sg, upd_ne sx] at hsn; exact hsn
    refine ⟨_, rfl, x, C, dx, [("deeds", .ref t), ("given", .ref g)], rfl, by rw [upd_ne sx.symm, upd_same]; rfl, kc.c, kc.s, (by show 2 < 1000; decide), ?_⟩
    refine ac_loop (G := G) (A := Av' A2 ow1) (row := row) hK kc ⟨upd_same, ?_, ?_, fun b o e n => ?_, g0, s0, gx, sx, sg.symm⟩ et tx ax l1 hv rfl rfl fun sn' σ' H' q => ?_
    · rw [upd_ne gx, upd_ne sg.symm, upd_ne gx, upd_same]; rfl
    · rw [upd_ne sx, upd_same]; rfl
    · rw [upd_ne n, upd_ne (ne_of_none e s0), upd_ne n, upd_ne (ne_of_none e g0), upd_ne n]; exact e
    · refine kq H' (fun b o e n => ?_) ?_ ?_
      · have e' : Hp0 b = some o := dm0 hx hdx e
        obtain ⟨o', e2, le, zz⟩ := R1.keep b o e' n
        exact ⟨o', q.old b o' e2 (ne_of_none e hx), le, fun z => zz (.inl z)⟩
      · have st : StrOk T H1 c := by have := R1.strm; rw [hc] at this; exact this
        refine st.keep ?_ ?_ (fun b o e z => q.old b o e (fun q => by rw [q, hx1] at e; cases e; exact nt_ins z))
        · cases e : H1 T.s with
          | none => exact absurd e st.is
          | some o => exact q.old _ _ e nx.symm
        · cases e : H1 T.l with
          | none => exact absurd e st.il
          | some o => exact q.old _ _ e nx2.symm
      · have kp : Keep (Av' A2 ow1) (Av' A2 ow1) H1 H' := fun b o e n => ⟨o, q.old b o e (fun e => n (e ▸ ax)), .refl o, fun _ => rfl⟩
        have ng : ¬ A' g := fun z => R1.avin (.inl (.inl z)) g0
        have nsn : ¬ A' sn' := fun z => R1.avin (.inl (.inl z)) q.s0
        have zt : Fz G A' H' (.ref t) (.tup (row.map Deed.d)) := Fz.tr kp (fun a z => .inl (.inl (.inl z))) (Fz.tup nt et l1)
        exact .obj (fun z => (hA x z).1 hx) q.ex rfl (.cons zt (.cons (.dct ng (.inl q.eg) (kv_keys _) (fzl_mkv _)) (.cons (.dct nsn (.inl q.es) (kv_keys _) (fzl_mkv _)) .nil)))
/-- the class by its __init__ -/
theorem mk_ok {G : Gc} {k : Nat} (ok : FnOg P w K mg base CX0 k f fd ["self", "row"] (spInit G)) (hm : Mk K (G.ga "Account") f) (hg : mg "Account" = some (.ref (G.ga "Account"))) (hb : Binds K fd ["self", "row"] []) : MkE P w K mg base G k "Account" conMk [.kt []] 0 := by
  refine ⟨f, fd, _, _, [], [], ok.cx, hm, hg, hb, .nil, fun vs H Q Ex h x dx hx hdx hne => ?_⟩
  obtain ⟨T, A, as, n, K', _, hs, h1, h2, hA, ha, ⟨row, rowD, e, hrow, hv, hk⟩, kq, _⟩ := h
  cases ha with
  | nil => cases e
  | st ha => cases e
  | d z ha =>
    cases ha with
    | nil =>
      simp [dflTail] at e
      subst e
      exact ⟨x, dx, H, T, A, row, _, n, _, rfl, rfl, hx, hdx, hne, hs, h1, h2, hA, z, hrow, hv, fun H' kp st fz => ⟨rfl, kq _ _ _ H' hk kp st fz⟩⟩
    | st _ => simp [dflTail] at e
    | d _ _ => simp [dflTail] at e
end
end PP

set_option Elab.async false
set_option linter.all false
set_option maxRecDepth 100000
set_option maxHeartbeats 2000000
namespace PP
open PySem PySem.Spec PyProof.Rows L2
/-! ### list.remove of texts -/
def eqs (k : Str) (v : Value) : Bool := match v with
  | .str n _ => n.cps.toList == k.cps.toList
  | _ => false
theorem str_ne {a b : Str} (h : a ≠ b) : (a.cps.toList == b.cps.toList) = false := by
  rw [beq_eq_false_iff_ne]
  intro e
  apply h
  cases a; cases b
  congr 1
  exact Array.toList_inj.mp e
theorem eqs_gives {k : Str} {t : Tok} : ∀ {us : List Value} {ns : List Str}, StrsAre us ns → ∀ y ∈ us, MeetsSeq.EqGives y (.str k t) (eqs k y)
  | _, _, .nil => fun y hy => by cases hy
  | _, _, .cons n t' h => fun y hy => by
    rcases List.mem_cons.mp hy with e | e
    · rw [e]
      exact SeqRoads2.EqGives.str n k t' t
    · exact eqs_gives h y e
theorem strs_get : ∀ {us : List Value} {ns : List Str}, StrsAre us ns → ∀ (j : Nat) (k : Str), ns[j]? = some k → ∃ t, us[j]? = some (.str k t)
  | _, _, .nil, j, k, h => by simp at h
  | _, _, .cons n t' h, 0, k, e => by simp at e; subst e; exact ⟨t', rfl⟩
  | _, _, .cons n t' h, j + 1, k, e => by
    obtain ⟨t, q⟩ := strs_get h j k (by simpa using e)
    exact ⟨t, by simpa using q⟩
theorem erase_mapS : ∀ (l : List Str) (j : Nat), (l.map V.str).eraseIdx j = (l.eraseIdx j).map V.str
  | [], j => by simp
  | a :: r, 0 => by simp
  | a :: r, j + 1 => by
    have ih := erase_mapS r j
    simp [ih]
section
variable {X : Cx}
def rRemS : V → List V → Hp → VK → Prop := fun x xs H Q => ∃ (l : Addr) (ns : List Str) (k : Str) (j : Nat), x = .ref l ∧ xs = [.str k] ∧ H l = some (.lst (ns.map V.str)) ∧ ns[j]? = some k ∧ (∀ m : Nat, m < j → ns[m]? ≠ some k) ∧ Q .non (upd H l (.lst ((ns.eraseIdx j).map V.str)))
theorem mt_removeS : MtM X "list.remove" rRemS := by
  intro pins s σ H x xs v us Q I rx rxs h
  obtain ⟨l, ns, k, j, rfl, rfl, hH, hj, hno, q⟩ := h
  cases rx
  obtain ⟨u, rfl, ru⟩ := rxs.one
  obtain ⟨t, rfl⟩ := ru
  obtain ⟨z, its, n, r, hl, e⟩ := I.lstM hH
  have hi := strs_of_vals r
  rw [List.length_map] at hl z
  have hjn : j < ns.length := (List.getElem?_eq_some_iff.mp hj).1
  have hjl : j < its.toArray.size := by rw [List.size_toArray]; omega
  refine call_meets PySem.F.slot_list_remove ⟨_, e, rfl⟩ PySem.F.entry_list_remove (PySem.F.args_list_remove_2 _ _)
    (MeetsSeq.list_remove l its.toArray n (.str k t) (eqs k) (fun y hy => eqs_gives hi y (by simpa using hy)) j hjl ?_ ?_ (by rw [List.size_toArray]; omega)) ⟨e, ?_⟩
  · obtain ⟨tj, hjt⟩ := strs_get hi j k hj
    obtain ⟨h1, h2⟩ := List.getElem?_eq_some_iff.mp hjt
    have e1 : its.toArray[j] = .str k tj := by simpa using h2
    rw [e1]
    show (k.cps.toList == k.cps.toList) = true
    exact beq_self_eq_true _
  · intro m hm hmj
    have hmn : m < ns.length := by omega
    obtain ⟨tm, hmt⟩ := strs_get hi m _ (List.getElem?_eq_getElem hmn)
    obtain ⟨h1, h2⟩ := List.getElem?_eq_some_iff.mp hmt
    have e1 : its.toArray[m] = .str ns[m] tm := by simpa using h2
    rw [e1]
    refine str_ne fun e2 => hno m hmj ?_
    rw [List.getElem?_eq_getElem hmn, e2]
  · have rr := r.eraseIdx j
    rw [erase_mapS] at rr
    refine ⟨.non, _, I.lset (its' := its.eraseIdx j) (t' := s.toks) hH e ?_ rr ?_, rfl, q⟩
    · show its.toArray.eraseIdxIfInBounds j = (its.eraseIdx j).toArray
      rw [List.eraseIdxIfInBounds_toArray]
    · have z2 := len_erase ns j
      rw [List.length_map]
      omega
end
theorem first_atS : ∀ {ns : List Str} {k : Str}, k ∈ ns → ∃ j, ns[j]? = some k ∧ (∀ i, i < j → ns[i]? ≠ some k) ∧ ns.eraseIdx j = ns.erase k
  | n :: ns, k, h => by
    by_cases e : n = k
    · subst e
      exact ⟨0, rfl, fun i hi => absurd hi (Nat.not_lt_zero _), by simp⟩
    · obtain ⟨j, h1, h2, h3⟩ := first_atS (ns := ns) (k := k) (by rcases List.mem_cons.mp h with q | q; exact absurd q.symm e; exact q)
      refine ⟨j + 1, by simpa using h1, fun i hi => ?_, ?_⟩
      · cases i with
        | zero => simpa using e
        | succ i => simpa using h2 i (Nat.lt_of_succ_lt_succ hi)
      · rw [List.erase_cons_tail (by simpa using e), ← h3]; rfl
section
variable {X : Cx} {F : Fm} {E : XC} {Γ : PP.Env} {a b c tg : Expr} {ia ib ic : Ex} {pos : Pos}
/-- xs.remove(e), xs a slot, a list of texts -/
theorem ss_rem (g : Gd X F E) (i : Nat) {x : Str} {px apos cpos : Pos} (ha : SX X F E Γ a ia) (hi : X.N[i]? = some x := by rfl) (hv : Vis X.env.scope x := by first | exact Or.inl rfl | exact Or.inr (Or.inl rfl) | exact Or.inr (Or.inr rfl)) (hd : (x == ("__debug__" : Str)) = false := by decide) (hcd : (x == ("__classdict__" : Str)) = false := by decide)
    (hbase : attributeBase (.Name x px) "remove" X.env (eval (.Name x px) X.env) = eval (.Name x px) X.env := by rfl)
    (hfew : ((backTo cpos (starEach [a] X.env)).all (fun x => !x.1) && (backToKw cpos (keywordEach [] X.env)).all (fun x => x.1.isSome)
      && decide (([a] : List Expr).length + ([] : List Keyword).length + (if ([] : List Keyword).isEmpty then 0 else 1) < 30)) = true := by rfl)
    (hline : (apos.endLine == cpos.line) = true := by rfl) (hs : starEach [a] X.env = (false, eval a X.env) :: starEach [] X.env := by rfl) (hsw : swapsWith (.Call (.Attribute (.Name x px) "remove" apos) [a] [] cpos) none pos.line X.env = pure false := by rfl) :
    SSX X F E Γ (.Expr (.Call (.Attribute (.Name x px) "remove" apos) [a] [] cpos) pos) (.rem i ia) :=
  PSimp (ps_expr (pe_bm PySem.F.plainAttrs_list PySem.F.slot_list_remove PySem.F.type_list_remove mt_removeS (pe_var hi hv hd hcd) (pa_cons ha pa_nil hs) hbase hfew hline hs rfl) hsw) fun Dn σ H h => by
    obtain ⟨ow, s, n, R, w, he, ct⟩ := h
    subst he
    obtain ⟨ho, w⟩ := has_own (show qHas i s (fun _ s => bnd (toD (evP Γ ia).r) (qRem i) s (fun _ s1 => n.nx s1) n.ex) n.ex from w)
    obtain ⟨p, vs, xs, hp, hH, l, hk, mu⟩ := R.ownL ho
    refine ⟨.ref p, hp, .inl ⟨rfl, _, SqL.of hH⟩, F.Z0, ow, s, _, R, w, fun r s1 v1 H1 ow1 w1 rr e1 => ?_⟩
    obtain ⟨R1, z1⟩ := rr.fz' R
    have w1' : (match gt s1.sl i, r.d with
      | some (.own xs), .str x => (match asStrs xs with
        | some ys => x ∈ ys ∧ n.nx { s1 with sl := pt s1.sl i (some (.own ((ys.erase x).map D.str))) }
        | none => False)
      | _, _ => False) := w1
    cases q : gt s1.sl i with
    | none => rw [q] at w1'; exact w1'.elim
    | some q' => cases q' with
      | own xs1 =>
        rw [q] at w1'
        cases hd : r.d with
        | str k =>
          rw [hd] at w1' z1
          cases z1
          dsimp only at w1'
          cases hy : asStrs xs1 with
          | none => rw [hy] at w1'; exact w1'.elim
          | some ys =>
            rw [hy] at w1'
            obtain ⟨hin, w2⟩ := w1'
            obtain ⟨p1, vs1, xs2, hp1, hH1, l1, hk1, mu1⟩ := R1.ownL (.inl ⟨xs1, q⟩)
            rw [hp] at hp1; cases hp1
            have ex : xs2 = xs1 := by
              rcases hk1 with e | e <;> (rw [q] at e; cases e) <;> rfl
            subst ex
            rw [asStrs_eq hy] at l1
            rw [fzl_strs l1] at hH1
            obtain ⟨j, j1, j2, j3⟩ := first_atS hin
            refine ⟨p, ys, k, j, rfl, rfl, hH1, j1, j2, ?_⟩
            rw [j3]
            obtain ⟨R2, e2⟩ := mu1 ((ys.erase k).map V.str) ((ys.erase k).map D.str) (fzl_of_strs _) (.own ((ys.erase k).map D.str)) (fun _ => rfl) (fun z => by rw [q] at z; cases z)
            exact ct.nx _ _ _ _ w2 R2 (e1.trans e2) rfl
        | _ => rw [hd] at w1'; exact w1'.elim
      | _ => rw [q] at w1'; exact w1'.elim
end
end PP

set_option Elab.async false
set_option linter.all false
set_option maxRecDepth 100000
set_option maxHeartbeats 4000000
namespace L2
open PySem PySem.Spec PyProof.Rows
/-! ### sets of keys (ints, texts) -/
def kyOf (e : Int × Value) : Key := match e.2 with
  | .int k _ => .inl k
  | .str k _ => .inr k
  | _ => .inl 0
def GdE (P : Program) (w : World) (e : Int × Value) : Prop := ∃ k, RelV (kV k) e.2 ∧ e.1 = (mixKind P w).hash k
theorem kyOf_rel {k : Key} {e : Int × Value} (h : RelV (kV k) e.2) : kyOf e = k := by
  unfold kyOf
  cases k with
  | inl i => obtain ⟨t, q⟩ := (show ∃ t, e.2 = Value.int i t from h); rw [q]
  | inr i => obtain ⟨t, q⟩ := (show ∃ t, e.2 = Value.str i t from h); rw [q]
def hasK (ns : List Key) (j : Key) : Bool := ns.any fun k => decide (k = j)
theorem hasK_iff {ns : List Key} {j : Key} : hasK ns j = true ↔ j ∈ ns := by
  unfold hasK
  rw [List.any_eq_true]
  exact ⟨fun ⟨k, h, e⟩ => (of_decide_eq_true e) ▸ h, fun h => ⟨j, h, decide_eq_true rfl⟩⟩
/-- the set of keys at a -/
def SetM (P : Program) (w : World) (h : Heap) (a : Addr) (S : Key → Bool) (n : Nat) : Prop :=
  ∃ o es ep t, h.get? a = some o ∧ o.ExactSet ∧ o.data = .set es ep t ∧ (∀ e ∈ es.toList, GdE P w e) ∧ (es.toList.map kyOf).Nodup ∧ (∀ k, S k = true ↔ k ∈ es.toList.map kyOf) ∧
    es.size < scanBound ∧ t.fits es.size = true ∧ es.size = n ∧ Ris t.place.toList ∧ (w.params.followText "set-order" = true ∨ t.led = true)
section
variable {P : Program} {w : World} {h h' : Heap} {a : Addr} {S : Key → Bool} {n : Nat}
theorem SetM.at (R : SetM P w h a S n) (k : ∀ o, h.get? a = some o → h'.get? a = some o) : SetM P w h' a S n := by
  obtain ⟨o, es, ep, t, ho, r⟩ := R
  exact ⟨o, es, ep, t, k o ho, r⟩
theorem SetM.congr {S' : Key → Bool} (R : SetM P w h a S n) (e : ∀ k, S' k = S k) : SetM P w h a S' n := by
  have q : S' = S := funext e
  rw [q]; exact R
theorem gdm_elems {l : List (Int × Value)} (g : ∀ e ∈ l, GdE P w e) : ElemsOf (mixKind P w) l := fun e he => by
  obtain ⟨k, h1, h2⟩ := g e he
  exact ⟨⟨k, kV_is h1, h2⟩, key_scan h1⟩
theorem gdm_is {e : Int × Value} (g : GdE P w e) (k : Key) : (mixKind P w).is k e.2 = true ↔ kyOf e = k := by
  obtain ⟨k0, h1, _⟩ := g
  rw [kyOf_rel h1]
  exact ⟨fun z => (mixKind P w).inj _ _ _ (kV_is h1) z, fun z => z ▸ kV_is h1⟩
theorem gdm_mem {l : List (Int × Value)} (g : ∀ e ∈ l, GdE P w e) (k : Key) : k ∈ l.map kyOf ↔ ∃ e ∈ l, (mixKind P w).is k e.2 = true := by
  rw [List.mem_map]
  exact ⟨fun ⟨e, he, q⟩ => ⟨e, he, (gdm_is (g e he) k).2 q⟩, fun ⟨e, he, q⟩ => ⟨e, he, (gdm_is (g e he) k).1 q⟩⟩
end
section
variable {P : Program} {w : World} {A : Around} {E : Value → Shared → Prop} {s : Shared} {a : Addr} {S : Key → Bool} {n : Nat}
theorem setM_tail {g : Bool → Sem Unit} (hg : ∀ (b : Bool) (s₁ : Shared) (Q' : Unit → Shared → Prop), Q' () s₁ → wpAny (model P w) A (g b) Q' E s₁)
    {o : Obj} {es : Array (Int × Value)} {ep : Nat} {t : SetTable} (ho : s.heap.get? a = some o) (hex : o.ExactSet) (hd : o.data = .set es ep t)
    {es1 : Array (Int × Value)} {t2 : SetTable} {S' : Key → Bool} (g1 : ∀ e ∈ es1.toList, GdE P w e) (nd1 : (es1.toList.map kyOf).Nodup) (m1 : ∀ k, S' k = true ↔ k ∈ es1.toList.map kyOf)
    (hb1 : es1.size < scanBound) (hf2 : t2.fits es1.size = true) (hr : Ris t2.place.toList) (hl : w.params.followText "set-order" = true ∨ t2.led = true) {wasDummy : Bool} {R : Option Bool → Shared → Prop}
    (hR : ∀ h', Heap.SameBut a s.heap h' → SetM P w h' a S' es1.size → R (some true) { s with heap := h' }) :
    wpAny (model P w) A (do
        storeSet a es1 t2
        if (!wasDummy && t2.tooFull) = true then do
            g (relayAll t2 es1 (SetTable.grown es1.size)).2.2
            storeSet a (relayAll t2 es1 (SetTable.grown es1.size)).1 (relayAll t2 es1 (SetTable.grown es1.size)).2.1
            pure (some true)
          else pure (some true)) R E s := by
  refine wpAny_bind (wpAny_storeSet_of ho hd ?_ (fits_of_scanBound hb1))
  have ho1 := store_at (es' := es1) (t' := t2) ho hd
  have sb1 := Heap.SameBut.update s.heap a (Obj.putSet es1 t2)
  split
  · have pm := relayAll_perm t2 es1 (SetTable.grown es1.size)
    have hf3 := relayAll_fits t2 es1 (SetTable.grown es1.size)
    have hr3 := relayAll_ris t2 es1 (SetTable.grown es1.size)
    have hl3 := relayAll_led t2 es1 (SetTable.grown es1.size)
    generalize relayAll t2 es1 (SetTable.grown es1.size) = Z at pm hf3 hr3 hl3 ⊢
    obtain ⟨es2, t3, gave⟩ := Z
    dsimp only at pm hf3 hr3 hl3 ⊢
    have hsz : es2.size = es1.size := by rw [← Array.length_toList, pm.length_eq, Array.length_toList]
    have hb2 : es2.size < scanBound := by rw [hsz]; exact hb1
    refine wpAny_bind (hg _ _ _ ?_)
    refine wpAny_bind (wpAny_storeSet_of ho1 rfl ?_ (fits_of_scanBound hb2))
    have ho2 := store_at (es' := es2) (t' := t3) ho1 rfl
    refine wpAny_pure (hR _ (sb1.trans (Heap.SameBut.update _ a _)) ?_)
    exact ⟨_, es2, _, t3, ho2, hex, rfl, fun e he => g1 e (pm.mem_iff.mp he), (pm.map kyOf).nodup_iff.mpr nd1, fun k => (m1 k).trans (pm.map kyOf).mem_iff.symm, hb2, hf3, hsz, hr3,
      hl.imp id fun z => by rw [hl3]; exact z⟩
  · exact wpAny_pure (hR _ sb1 ⟨_, es1, _, t2, ho1, hex, rfl, g1, nd1, m1, hb1, hf2, rfl, hr, hl⟩)
theorem setM_add {k : Key} {u : Value} (ru : RelV (kV k) u) {Q : Bool → Shared → Prop} (R : SetM P w s.heap a S n) (room : n + 1 < scanBound)
    (hQ : ∀ h', Heap.SameBut a s.heap h' → SetM P w h' a (fun j => S j || decide (j = k)) (if S k = true then n else n + 1) → Q (!S k) { s with heap := h' }) :
    wpAny (model P w) A (setAddHashed a u ((mixKind P w).hash k)) Q E s := by
  obtain ⟨o, es, ep, t, ho, hex, hd, g, nd, hm, hb, hf, hn, hr, hl⟩ := R
  have hkey : (mixKind P w).is k u = true := kV_is ru
  have hsc : u.scannable = true := key_scan ru
  have hel : ElemsOf (mixKind P w) es.toList := gdm_elems g
  unfold setAddHashed setAddHashedIn
  refine wpAny_holding (wpAny_bind (wpAny_setState_of ho hd hf ?_))
  dsimp only
  rw [byScan_of hsc hb hel]
  simp only [↓reduceIte]
  unfold setAddByScan
  refine wpAny_bind ?_
  refine wpAny_bind (wpAny_rule ?_)
  refine wpAny_bind (wpAny_setScan_of hkey ho hd hf hel ?_)
  cases hfi : List.findIdx? (fun e => (mixKind P w).is k e.2) es.toList with
  | some j =>
    dsimp only
    obtain ⟨hj, pj, _⟩ := List.findIdx?_eq_some_iff_getElem.mp hfi
    have hSk : S k = true := (hm k).2 ((gdm_mem (P := P) (w := w) g k).2 ⟨es.toList[j], List.getElem_mem hj, pj⟩)
    refine wpAny_pure (wpAny_pure ?_)
    have q := hQ s.heap (Heap.SameBut.refl a s.heap) ⟨o, es, ep, t, ho, hex, hd, g, nd, fun i => by
      rw [Bool.or_eq_true, decide_eq_true_eq, ← hm i]
      exact ⟨fun z => z.elim id (fun e => e ▸ hSk), .inl⟩, hb, hf, by rw [if_pos hSk]; exact hn, hr, hl⟩
    rw [hSk] at q
    exact q
  | none =>
    dsimp only
    have hnk : k ∉ es.toList.map kyOf := fun z => by
      obtain ⟨e, he, q⟩ := (gdm_mem (P := P) (w := w) g k).1 z
      have c := List.findIdx?_eq_none_iff.mp hfi e he
      rw [q] at c
      cases c
    have hSk : S k = false := by
      cases q : S k with
      | false => rfl
      | true => exact absurd ((hm k).1 q) hnk
    have hgw : ∀ (b : Bool) {s₁ : Shared} {Q' : Unit → Shared → Prop}, Q' () s₁ → wpAny (model P w) A (match b with | true => rule "set.scan.the-table-gave-way" | false => pure ()) Q' E s₁ :=
      fun b s₁ Q' q => by cases b <;> first | exact wpAny_pure q | exact wpAny_rule q
    have pm := layNew_perm t es ((mixKind P w).hash k) u
    have hf1 := layNew_fits t es ((mixKind P w).hash k) u
    have hr1 := layNew_ris t es ((mixKind P w).hash k) u hr
    have hl1 := layNew_led t es ((mixKind P w).hash k) u
    generalize layNew t es ((mixKind P w).hash k) u = Z at pm hf1 hr1 hl1 ⊢
    obtain ⟨es1, t1, wasDummy, gave⟩ := Z
    dsimp only at pm hf1 hr1 hl1 ⊢
    rw [Array.toList_push] at pm
    have pc : es1.toList.Perm (((mixKind P w).hash k, u) :: es.toList) := pm.trans (List.perm_append_singleton _ _)
    have pk : (es1.toList.map kyOf).Perm (k :: es.toList.map kyOf) := by
      have q := pc.map kyOf
      rw [List.map_cons, kyOf_rel (e := ((mixKind P w).hash k, u)) ru] at q
      exact q
    have g1 : ∀ e ∈ es1.toList, GdE P w e := fun e he => by
      rcases List.mem_cons.mp (pc.mem_iff.mp he) with z | z
      · rw [z]; exact ⟨k, ru, rfl⟩
      · exact g e z
    have nd1 : (es1.toList.map kyOf).Nodup := pk.nodup_iff.mpr (List.nodup_cons.mpr ⟨hnk, nd⟩)
    have m1 : ∀ i, (S i || decide (i = k)) = true ↔ i ∈ es1.toList.map kyOf := fun i => by
      rw [Bool.or_eq_true, decide_eq_true_eq, hm i, pk.mem_iff, List.mem_cons]
      exact Or.comm
    have hsz : es1.size = n + 1 := by rw [← Array.length_toList, pc.length_eq, List.length_cons, Array.length_toList, hn]
    have hb1 : es1.size < scanBound := by rw [hsz]; exact room
    have hled : w.params.followText "set-order" = true ∨ t1.led = true := hl.imp id fun z => by rw [hl1]; exact z
    have fin : ∀ h', Heap.SameBut a s.heap h' → SetM P w h' a (fun j => S j || decide (j = k)) es1.size → Q true { s with heap := h' } := fun h' sb r => by
      have q := hQ h' sb
      rw [hSk] at q
      rw [hsz] at r
      exact q r
    refine wpAny_bind (hgw _ ?_)
    split
    · refine wpAny_bind ?_
      rw [hashByValue_scannable 8 hsc]
      refine wpAny_pure ?_
      refine setM_tail ?_ ho hex hd g1 nd1 m1 hb1 ?_ ?_ ?_ ?_
      · intro b s₁ Q' q; cases b <;> first | exact wpAny_pure q | exact wpAny_rule q
      · first | (split <;> first | exact hf1 | exact SetTable.fits_plain_off hf1) | exact hf1
      · first | (split <;> exact hr1) | exact hr1
      · first | (split <;> exact hled) | exact hled
      · intro h' sb r; dsimp only; exact wpAny_pure (fin h' sb r)
    · refine wpAny_bind (wpAny_pure ?_)
      simp only [↓reduceIte]
      refine setM_tail ?_ ho hex hd g1 nd1 m1 hb1 hf1 hr1 hled ?_
      · intro b s₁ Q' q; cases b <;> first | exact wpAny_pure q | exact wpAny_rule q
      · intro h' sb r; dsimp only; exact wpAny_pure (fin h' sb r)
end
theorem setM_new {P : Program} {w : World} {h : Heap} {a : Addr} {ns : List Key} (ho : h.get? a = some { cls := .type "set", dict := none, data := .set #[] 0 (.fresh 0 0 (!w.params.followText "set-order")) }) : SetM P w h a (fun j => hasK (ns.take 0) j) 0 :=
  ⟨_, #[], 0, _, ho, ⟨rfl, rfl, rfl⟩, rfl, (fun e he => by simp at he), (by simp), (fun k => by simp [hasK]), (by decide), (by rfl), rfl, List.Pairwise.nil, by
    show _ ∨ (!w.params.followText "set-order") = true
    cases w.params.followText "set-order"
    · exact .inr rfl
    · exact .inl rfl⟩
section
variable {P : Program} {w : World} {A : Around} {E : Value → Shared → Prop} {s : Shared}
theorem setM_update {I : Addr} {fp wr : List Addr} {G : Array GenState → Array GenState → Prop} {n : Nat} {Pv : Nat → Value → Prop} {St : Nat → Shared → Prop} {R : Result → Shared → Prop}
    (W : WalksS P w A.in1 I fp wr G n Pv St) (S : Addr) (hSf : S ∉ fp) (ns : List Key) (hn : n = ns.length) (hb : ns.length + 1 < scanBound) (hval : ∀ i v, Pv i v → ∃ k, ns[i]? = some k ∧ RelV (kV k) v) :
    ∀ (k i : Nat) (s : Shared), n - i = k → i ≤ n → St i s → (∃ c, c ≤ i ∧ SetM P w s.heap S (fun j => hasK (ns.take i) j) c) →
      (∀ s' c, Moved (S :: wr) G s s' → c ≤ n → SetM P w s'.heap S (fun j => hasK (ns) j) c → R (.ok (.ret .none)) s') →
      codeAny (model P w) A (.builtin "set.update.loop" ⟨[.ref S, .ref I], []⟩) R s := by
  have hSw : S ∉ wr := fun h => hSf (W.sub _ h)
  have hsub : ∀ b ∈ wr, b ∈ S :: wr := fun b hb => List.mem_cons_of_mem _ hb
  intro k
  induction k with
  | zero =>
    intro i s hk' hi hst ⟨c, hc, hS⟩ hR
    have hin : i = n := by omega
    subst hin
    refine codeAny_builtin F.entry_set_update_loop ?_
    rw [Around.under_plainId F.plain_set_update_loop _]
    show wpAny _ A.in1 (pyNext (.ref I) >>= _) _ _ s
    refine wpAny_bind (W.done s _ _ hst fun s' hm => ?_)
    show wpAny _ A.in1 (ret Value.none) _ _ s'
    have e : ns.take i = ns := List.take_of_length_le (by omega)
    rw [e] at hS
    exact wpAny_pure (hR s' c (hm.mono hsub) hc (hS.at fun o e => hm.heap S o hSw e))
  | succ k ih =>
    intro i s hk' hi hst ⟨c, hc, hS⟩ hR
    have hlt : i < n := by omega
    refine codeAny_builtin F.entry_set_update_loop ?_
    rw [Around.under_plainId F.plain_set_update_loop _]
    show wpAny _ A.in1 (pyNext (.ref I) >>= _) _ _ s
    refine wpAny_bind (W.item i s _ _ hlt hst fun v s' hP hst' hm => ?_)
    obtain ⟨z, hz, rv⟩ := hval i v hP
    have hS' : SetM P w s'.heap S (fun j => hasK (ns.take i) j) c := hS.at fun o e => hm.heap S o hSw e
    show wpAny _ A.in1 (holding [v] (setAdd S v) >>= _) _ _ s'
    refine wpAny_bind (wpAny_holding ?_)
    unfold setAdd
    refine wpAny_holding ?_
    refine wpAny_bind ((mixKind P w).pyHash (k := z) (kV_is rv) ?_)
    refine setM_add rv (s := { s' with toks := s'.toks + 1 }) hS' (by omega) fun h' hsb hS2 => ?_
    have hS3 : SetM P w h' S (fun j => hasK (ns.take (i + 1)) j) (if hasK (ns.take i) z = true then c else c + 1) := hS2.congr fun j => by
      rw [List.take_add_one, hz]
      simp [hasK, List.any_append]
      rw [decide_eq_decide.mpr (eq_comm (a := z) (b := j))]
    have hc3 : (if hasK (ns.take i) z = true then c else c + 1) ≤ i + 1 := by
      split <;> omega
    refine wpAny_pure ⟨plainId_quiet F.plain_set_update_loop _, ih (i + 1) _ (by omega) hlt (W.frame _ s' _ _ hst' (Nat.le_succ _) fun b hb o e => ?_) ⟨_, hc3, hS3⟩ fun s'' c2 hm'' hc'' hS'' => ?_⟩
    · rw [hsb.2 b (fun h : b = S => hSf (by rw [← h]; exact hb))]; exact e
    · refine hR s'' c2 (Moved.trans W.gtrans ((hm.mono hsub).then_heap (Nat.le_succ _) fun b o hb e => ?_) hm'') hc'' hS''
      rw [hsb.2 b (fun h : b = S => hb (by rw [h]; exact List.mem_cons_self))]; exact e

theorem vals_at : ∀ {xs : List V} {us : List Value} {i : Nat} {x : V} {u : Value}, Vals xs us → xs[i]? = some x → us[i]? = some u → RelV x u
  | _, _, _, _, _, .nil, h, _ => by simp at h
  | _, _, 0, _, _, .cons h _, h1, h2 => by simp at h1 h2; subst h1; subst h2; exact h
  | _, _, i + 1, _, _, .cons _ t, h1, h2 => vals_at t (by simpa using h1) (by simpa using h2)
set_option maxRecDepth 100000 in
set_option maxHeartbeats 3200000 in
theorem call_set_tupM {l : Addr} {items : Array Value} (ns : List Key) {Q : Value → Shared → Prop} (hh : A.handled = none) (hl : s.heap.IsTuple l items) (hit : Vals (ns.map kV) items.toList) (hb : ns.length + 1 < scanBound)
    (h : ∀ (h' : Heap) (tk c : Nat), SetM P w h' s.heap.objs.size (fun j => hasK (ns) j) c → c ≤ ns.length → (∀ b o, s.heap.get? b = some o → h'.get? b = some o) → Q (.ref s.heap.objs.size) { s with heap := h', toks := tk }) :
    wpAny (model P w) A (call (.type "set") [.ref l]) Q E s := by
  have hisz : items.size = ns.length := by
    have q : (ns.map kV).length = items.toList.length := hit.length
    rw [List.length_map] at q
    rw [q]; simp
  obtain ⟨c, tl, hmro⟩ := F.called_set.mro
  have hmade := F.called_set.made
  have hsub := F.called_set.sub
  refine wpAny_call (codeAny_of_tree ?_)
  show wpAny _ _ (callAny (.type "set") _) _ _ _
  refine wpAny_pure ⟨Code.quiet_builtin _ (by decide +kernel), codeAny_builtin F.entry_type_call ?_⟩
  rw [Around.under_plain (weight_type_call_type "set" [.ref l] []) rfl]
  have h1 := F.called_set.notType
  have h2 := F.called_set.canCreate
  have hct := F.typeCall_set_1 (.ref l)
  repeat (any_goals (first | assumption | wp_step))

  refine codeAny_mono (code_set_led1 (.ref l) (E := E) (Q₁ := fun obj s₁ => obj = .ref s.heap.objs.size ∧ s₁ = { s with heap := s.heap.push { cls := .type "set", dict := none, data := .set #[] 0 (.fresh 0 0 (!w.params.followText "set-order")) } }) ⟨rfl, rfl⟩) fun r s₁ hr => ?_
  cases r with
  | error e => exact hr
  | ok fl =>
    cases fl with
    | ret obj =>
      obtain ⟨rfl, rfl⟩ := hr
      have hS : (s.heap.push { cls := .type "set", dict := none, data := .set #[] 0 (.fresh 0 0 (!w.params.followText "set-order")) }).get? s.heap.objs.size = some { cls := .type "set", dict := none, data := .set #[] 0 (.fresh 0 0 (!w.params.followText "set-order")) } := Heap.get?_push_size _ rfl
      have hT : Shared.TypeIs { s with heap := s.heap.push { cls := .type "set", dict := none, data := .set #[] 0 (.fresh 0 0 (!w.params.followText "set-order")) } } (.ref s.heap.objs.size) "set" := ⟨_, hS, rfl⟩
      have hli := F.called_set.init.lookup
      have hbi := F.called_set.init.bind (.ref s.heap.objs.size)
      repeat (any_goals (first | assumption | wp_step))

      refine codeAny_mono (codeAny_call_builtin (R := wants (fun r s₂ => r = .none ∧ ∃ h' tk c, s₂ = { s with heap := h', toks := tk } ∧ SetM P w h' s.heap.objs.size (fun j => hasK (ns) j) c ∧ c ≤ ns.length ∧
          (∀ b o, s.heap.get? b = some o → h'.get? b = some o)) E) F.called_set.init.plain F.entry_set_init (check_set_init_1 hT ?_)) fun r₂ s₂ hr₂ => ?_
      · obtain ⟨ol, hol, hcl, nl, hdl⟩ := hl
        obtain ⟨ocls, odict, odata, oslots⟩ := ol
        simp only at hcl hdl
        subst hcl; subst hdl
        have hol' : (s.heap.push { cls := .type "set", dict := none, data := .set #[] 0 (.fresh 0 0 (!w.params.followText "set-order")) }).get? l = some { cls := .type "tuple", dict := odict, data := .seq items nl, slots := oslots } := Heap.get?_push_of_some _ hol
        have hsls := F.sub_tuple_set
        have hslf := F.sub_tuple_frozenset
        have hne : (Value.type "tuple" == Value.type "dict") = false := by decide
        have hl1 : (s.heap.push { cls := .type "set", dict := none, data := .set #[] 0 (.fresh 0 0 (!w.params.followText "set-order")) }).IsTuple l items := ⟨_, hol', rfl, nl, rfl⟩
        unfold Builtin.«set.__init__» noKeywords Builtin.Frozenset.updateFrom
        generalize hPI : pyIter = PI
        wp_walk
        subst hPI

        refine wpAny_pyIter_tuple hl1 ?_
        refine wpAny_bind (wpAny_runValue ?_)
        have hlS : l < s.heap.objs.size := Heap.lt_size hol
        have hh3 : A.in1.in1.in1.handled = none := by simp [hh]
        have hz1 : (s.heap.push { cls := .type "set", dict := none, data := .set #[] 0 (.fresh 0 0 (!w.params.followText "set-order")) }).objs.size = s.heap.objs.size + 1 := Heap.size_push ..
        have hneI : l ≠ (s.heap.push { cls := .type "set", dict := none, data := .set #[] 0 (.fresh 0 0 (!w.params.followText "set-order")) }).objs.size := by
          rw [Heap.size_push]; exact Nat.ne_of_lt (Nat.lt_succ_of_lt hlS)
        have hSf : s.heap.objs.size ∉ [(s.heap.push { cls := .type "set", dict := none, data := .set #[] 0 (.fresh 0 0 (!w.params.followText "set-order")) }).objs.size, l] := by
          rw [Heap.size_push]; simp only [List.mem_cons, List.mem_singleton, List.not_mem_nil, or_false, not_or]
          exact ⟨Nat.ne_of_lt (Nat.lt_succ_self _), Nat.ne_of_gt hlS⟩
        have hval : ∀ (i : Nat) (v : Value), items[i]? = some v → ∃ k, ns[i]? = some k ∧ RelV (kV k) v := fun i v hv => by
          have hi : i < ns.length := by rw [← hisz]; exact (Array.getElem?_eq_some_iff.mp hv).1
          refine ⟨ns[i], List.getElem?_eq_getElem hi, ?_⟩
          exact vals_at hit (by rw [List.getElem?_map, List.getElem?_eq_getElem hi]; rfl) (by rw [Array.getElem?_toList]; exact hv)
        refine setM_update ((Walks.tuple hh3 _ l hneI items).toS) s.heap.objs.size
          hSf ns hisz hb hval (items.size - 0) 0 _ (by omega) (Nat.zero_le _)
          ⟨⟨_, Heap.get?_push_size _ rfl, rfl, rfl⟩, (hl1.push _)⟩ ?hS0 ?hR
        case hS0 =>
          have hget : ((s.heap.push { cls := .type "set", dict := none, data := .set #[] 0 (.fresh 0 0 (!w.params.followText "set-order")) }).push { cls := .type "tuple_iterator", data := .fields #[.ref l, .int 0 0] }).get? s.heap.objs.size
              = some { cls := .type "set", dict := none, data := .set #[] 0 (.fresh 0 0 (!w.params.followText "set-order")) } := Heap.get?_push_of_some _ hS
          exact ⟨0, Nat.le_refl 0, setM_new hget⟩
        case hR =>
          intro s' c' hm hc' hS'
          obtain ⟨h', g2, d', tk', os'⟩ := s'
          have eg : g2 = s.gens := hm.gens
          have ed : d' = s.drawn := hm.drawn
          have eo : os' = s.os := hm.os
          subst eg; subst ed; subst eo
          show wpAny _ _ _ _ _ _
          refine wpAny_pure ?_
          show wpAny _ _ (ret Value.none) _ _ _
          rw [hisz] at hc'
          refine wpAny_pure ⟨rfl, h', tk', c', rfl, hS', hc', fun b o e => ?_⟩
          have hb0 : b < s.heap.objs.size := Heap.lt_size e
          have hb1 : b ≠ s.heap.objs.size := Nat.ne_of_lt hb0
          have hb2 : b ≠ (s.heap.push { cls := .type "set", dict := none, data := .set #[] 0 (.fresh 0 0 (!w.params.followText "set-order")) }).objs.size := by
            rw [Heap.size_push]; exact Nat.ne_of_lt (Nat.lt_succ_of_lt hb0)
          exact hm.heap b o (by simp only [List.mem_cons, List.mem_singleton, List.not_mem_nil, or_false, not_or]; exact ⟨hb1, hb2⟩) (Heap.get?_push_of_some _ (Heap.get?_push_of_some _ e))

      · cases r₂ with
        | error e => exact hr₂
        | ok fl₂ =>
          cases fl₂ with
          | ret r =>
            obtain ⟨rfl, h', tk, c', rfl, hS', hc', hk'⟩ := hr₂
            repeat (any_goals (first | assumption | wp_step))
            exact h _ _ _ hS' hc' hk'
          | _ => exact hr₂.elim
    | _ => exact hr.elim


set_option maxRecDepth 100000 in
set_option maxHeartbeats 3200000 in
theorem call_set_lstM {l : Addr} {items : Array Value} (ns : List Key) {Q : Value → Shared → Prop} (hh : A.handled = none) (hl : s.heap.IsList l items) (hit : Vals (ns.map kV) items.toList) (hb : ns.length + 1 < scanBound)
    (h : ∀ (h' : Heap) (tk c : Nat), SetM P w h' s.heap.objs.size (fun j => hasK (ns) j) c → c ≤ ns.length → (∀ b o, s.heap.get? b = some o → h'.get? b = some o) → Q (.ref s.heap.objs.size) { s with heap := h', toks := tk }) :
    wpAny (model P w) A (call (.type "set") [.ref l]) Q E s := by
  have hisz : items.size = ns.length := by
    have q : (ns.map kV).length = items.toList.length := hit.length
    rw [List.length_map] at q
    rw [q]; simp
  obtain ⟨c, tl, hmro⟩ := F.called_set.mro
  have hmade := F.called_set.made
  have hsub := F.called_set.sub
  refine wpAny_call (codeAny_of_tree ?_)
  show wpAny _ _ (callAny (.type "set") _) _ _ _
  refine wpAny_pure ⟨Code.quiet_builtin _ (by decide +kernel), codeAny_builtin F.entry_type_call ?_⟩
  rw [Around.under_plain (weight_type_call_type "set" [.ref l] []) rfl]
  have h1 := F.called_set.notType
  have h2 := F.called_set.canCreate
  have hct := F.typeCall_set_1 (.ref l)
  repeat (any_goals (first | assumption | wp_step))

  refine codeAny_mono (code_set_led1 (.ref l) (E := E) (Q₁ := fun obj s₁ => obj = .ref s.heap.objs.size ∧ s₁ = { s with heap := s.heap.push { cls := .type "set", dict := none, data := .set #[] 0 (.fresh 0 0 (!w.params.followText "set-order")) } }) ⟨rfl, rfl⟩) fun r s₁ hr => ?_
  cases r with
  | error e => exact hr
  | ok fl =>
    cases fl with
    | ret obj =>
      obtain ⟨rfl, rfl⟩ := hr
      have hS : (s.heap.push { cls := .type "set", dict := none, data := .set #[] 0 (.fresh 0 0 (!w.params.followText "set-order")) }).get? s.heap.objs.size = some { cls := .type "set", dict := none, data := .set #[] 0 (.fresh 0 0 (!w.params.followText "set-order")) } := Heap.get?_push_size _ rfl
      have hT : Shared.TypeIs { s with heap := s.heap.push { cls := .type "set", dict := none, data := .set #[] 0 (.fresh 0 0 (!w.params.followText "set-order")) } } (.ref s.heap.objs.size) "set" := ⟨_, hS, rfl⟩
      have hli := F.called_set.init.lookup
      have hbi := F.called_set.init.bind (.ref s.heap.objs.size)
      repeat (any_goals (first | assumption | wp_step))

      refine codeAny_mono (codeAny_call_builtin (R := wants (fun r s₂ => r = .none ∧ ∃ h' tk c, s₂ = { s with heap := h', toks := tk } ∧ SetM P w h' s.heap.objs.size (fun j => hasK (ns) j) c ∧ c ≤ ns.length ∧
          (∀ b o, s.heap.get? b = some o → h'.get? b = some o)) E) F.called_set.init.plain F.entry_set_init (check_set_init_1 hT ?_)) fun r₂ s₂ hr₂ => ?_
      · obtain ⟨ol, hol, hcl, nl, hdl⟩ := hl
        obtain ⟨ocls, odict, odata, oslots⟩ := ol
        simp only at hcl hdl
        subst hcl; subst hdl
        have hol' : (s.heap.push { cls := .type "set", dict := none, data := .set #[] 0 (.fresh 0 0 (!w.params.followText "set-order")) }).get? l = some { cls := .type "list", dict := odict, data := .seq items nl, slots := oslots } := Heap.get?_push_of_some _ hol
        have hsls := F.sub_list_set
        have hslf := F.sub_list_frozenset
        have hne : (Value.type "list" == Value.type "dict") = false := by decide
        have hl1 : (s.heap.push { cls := .type "set", dict := none, data := .set #[] 0 (.fresh 0 0 (!w.params.followText "set-order")) }).IsList l items := ⟨_, hol', rfl, nl, rfl⟩
        unfold Builtin.«set.__init__» noKeywords Builtin.Frozenset.updateFrom
        generalize hPI : pyIter = PI
        wp_walk
        subst hPI

        refine wpAny_pyIter_list hl1 ?_
        refine wpAny_bind (wpAny_runValue ?_)
        have hlS : l < s.heap.objs.size := Heap.lt_size hol
        have hh3 : A.in1.in1.in1.handled = none := by simp [hh]
        have hz1 : (s.heap.push { cls := .type "set", dict := none, data := .set #[] 0 (.fresh 0 0 (!w.params.followText "set-order")) }).objs.size = s.heap.objs.size + 1 := Heap.size_push ..
        have hneI : l ≠ (s.heap.push { cls := .type "set", dict := none, data := .set #[] 0 (.fresh 0 0 (!w.params.followText "set-order")) }).objs.size := by
          rw [Heap.size_push]; exact Nat.ne_of_lt (Nat.lt_succ_of_lt hlS)
        have hSf : s.heap.objs.size ∉ [(s.heap.push { cls := .type "set", dict := none, data := .set #[] 0 (.fresh 0 0 (!w.params.followText "set-order")) }).objs.size, l] := by
          rw [Heap.size_push]; simp only [List.mem_cons, List.mem_singleton, List.not_mem_nil, or_false, not_or]
          exact ⟨Nat.ne_of_lt (Nat.lt_succ_self _), Nat.ne_of_gt hlS⟩
        have hval : ∀ (i : Nat) (v : Value), items[i]? = some v → ∃ k, ns[i]? = some k ∧ RelV (kV k) v := fun i v hv => by
          have hi : i < ns.length := by rw [← hisz]; exact (Array.getElem?_eq_some_iff.mp hv).1
          refine ⟨ns[i], List.getElem?_eq_getElem hi, ?_⟩
          exact vals_at hit (by rw [List.getElem?_map, List.getElem?_eq_getElem hi]; rfl) (by rw [Array.getElem?_toList]; exact hv)
        refine setM_update ((Walks.list hh3 _ l hneI items).toS) s.heap.objs.size
          hSf ns hisz hb hval (items.size - 0) 0 _ (by omega) (Nat.zero_le _)
          ⟨⟨_, Heap.get?_push_size _ rfl, rfl, rfl⟩, (hl1.push _)⟩ ?hS0 ?hR
        case hS0 =>
          have hget : ((s.heap.push { cls := .type "set", dict := none, data := .set #[] 0 (.fresh 0 0 (!w.params.followText "set-order")) }).push { cls := .type "list_iterator", data := .fields #[.ref l, .int 0 0] }).get? s.heap.objs.size
              = some { cls := .type "set", dict := none, data := .set #[] 0 (.fresh 0 0 (!w.params.followText "set-order")) } := Heap.get?_push_of_some _ hS
          exact ⟨0, Nat.le_refl 0, setM_new hget⟩
        case hR =>
          intro s' c' hm hc' hS'
          obtain ⟨h', g2, d', tk', os'⟩ := s'
          have eg : g2 = s.gens := hm.gens
          have ed : d' = s.drawn := hm.drawn
          have eo : os' = s.os := hm.os
          subst eg; subst ed; subst eo
          show wpAny _ _ _ _ _ _
          refine wpAny_pure ?_
          show wpAny _ _ (ret Value.none) _ _ _
          rw [hisz] at hc'
          refine wpAny_pure ⟨rfl, h', tk', c', rfl, hS', hc', fun b o e => ?_⟩
          have hb0 : b < s.heap.objs.size := Heap.lt_size e
          have hb1 : b ≠ s.heap.objs.size := Nat.ne_of_lt hb0
          have hb2 : b ≠ (s.heap.push { cls := .type "set", dict := none, data := .set #[] 0 (.fresh 0 0 (!w.params.followText "set-order")) }).objs.size := by
            rw [Heap.size_push]; exact Nat.ne_of_lt (Nat.lt_succ_of_lt hb0)
          exact hm.heap b o (by simp only [List.mem_cons, List.mem_singleton, List.not_mem_nil, or_false, not_or]; exact ⟨hb1, hb2⟩) (Heap.get?_push_of_some _ (Heap.get?_push_of_some _ e))

      · cases r₂ with
        | error e => exact hr₂
        | ok fl₂ =>
          cases fl₂ with
          | ret r =>
            obtain ⟨rfl, h', tk, c', rfl, hS', hc', hk'⟩ := hr₂
            repeat (any_goals (first | assumption | wp_step))
            exact h _ _ _ hS' hc' hk'
          | _ => exact hr₂.elim
    | _ => exact hr.elim


end
end L2

set_option Elab.async false
set_option linter.all false
set_option maxRecDepth 100000
set_option maxHeartbeats 4000000
namespace L2
open PySem PySem.Spec PyProof.Rows
def SetMO (P : Program) (w : World) (a : Addr) (S : Key → Bool) (n : Nat) : HO := .ext fun h => SetM P w h a S n
def encK : Key → PyData
  | .inl i => .int i
  | .inr x => .str x
section
variable {X : Cx}
theorem setMO_new {w : World} {P : Program} {H : Hp} {h : Heap} {a : Addr} {S : Key → Bool} {n : Nat} (R : SetM P w h a S n) : ObjOk P w H h a (SetMO P w a S n) := by
  have ⟨o, _, _, _, ho, _⟩ := R
  exact ⟨R, ⟨o, ho⟩, fun h1 h2 p k => p.at k⟩
/-- set(xs), xs a list or a tuple of keys -/
def rSetM (K : PySem.W.Frag) (P : Program) (w : World) : List V → Hp → VK → Prop := fun xs H Q => ∃ (l : Addr) (ks : List Key), xs = [.ref l] ∧ (SqL K H l (ks.map kV) ∨ SqT K H l (ks.map kV)) ∧ ks.length + 1 < scanBound ∧
  ∀ p n, H p = none → n ≤ ks.length → Q (.ref p) (upd H p (SetMO P w p (hasK ks) n))
theorem cr_setM (hc : X.calm = true) : CallR X (.type "set") (rSetM X.K X.prog X.w) := by
  intro pins s σ H xs us Q I r h
  obtain ⟨l, ks, rfl, hs, hb, q⟩ := h
  rw [Vals.ref1 r]
  rcases hs with hs | hs
  · obtain ⟨its, rv, hl, hz⟩ := I.list hs
    exact call_set_lstM ks (I.ok.hd hc) hl.isList (by rw [List.toList_toArray]; exact rv) hb fun h' tk c R hcn k => ⟨.ref _, upd H s.heap.objs.size (SetMO X.prog X.w s.heap.objs.size (hasK ks) c), I.laid (t' := tk) k (Nat.le_refl _) (setMO_new R), rfl, q _ c (I.hok.fresh (Nat.le_refl _)) hcn⟩
  · obtain ⟨its, rv, hl, hz⟩ := I.tuple hs
    exact call_set_tupM (items := its.toArray) ks (I.ok.hd hc) hl (by rw [List.toList_toArray]; exact rv) hb fun h' tk c R hcn k => ⟨.ref _, upd H s.heap.objs.size (SetMO X.prog X.w s.heap.objs.size (hasK ks) c), I.laid (t' := tk) k (Nat.le_refl _) (setMO_new R), rfl, q _ c (I.hok.fresh (Nat.le_refl _)) hcn⟩
theorem kyV_rel {v : Value} {P : Program} {w : World} {es : List (Int × Value)} (g : ∀ e ∈ es, GdE P w e) (hv : v ∈ es.map (·.2)) : RelV (kV (kyOf (0, v))) v := by
  obtain ⟨e, he, rfl⟩ := List.mem_map.mp hv
  obtain ⟨k, h1, _⟩ := g e he
  have q : kyOf ((0 : Int), e.2) = k := kyOf_rel (e := ((0 : Int), e.2)) h1
  rw [q]; exact h1
theorem reads_key {h : Heap} {v : Value} {k : Key} (r : RelV (kV k) v) : ∃ as, Reads h v (encK k) as := by
  cases k with
  | inl i => obtain ⟨t, rfl⟩ := (show ∃ t, v = Value.int i t from r); exact ⟨_, .int i t⟩
  | inr x => obtain ⟨t, rfl⟩ := (show ∃ t, v = Value.str x t from r); exact ⟨_, .str x t⟩
theorem key_others {ks : List Key} : PySem.W.Sortable (ks.map encK) := PySem.W.Sortable.others fun k => by
  cases k <;> exact ⟨nofun, nofun⟩
theorem key_depth (k : Key) : (encK k).depth = 0 := by
  cases k <;> simp [encK, PyData.depth]
theorem key_reads0 {h : Heap} {v : Value} {k : Key} {as : List Addr} (r : Reads h v (encK k) as) : as = [] := by
  cases k with
  | inl i => cases r; rfl
  | inr x => cases r; rfl
theorem each_keysV {vs : List Value} (h : ∀ v ∈ vs, RelV (kV (kyOf (0, v))) v) : PySem.W.EachIs (fun v k => RelV (kV k) v) vs (vs.map fun v => kyOf (0, v)) := by
  induction vs with
  | nil => exact .nil
  | cons v vs ih => exact .cons (h v List.mem_cons_self) (ih fun u hu => h u (List.mem_cons_of_mem _ hu))
theorem keys_valsV : ∀ {vs : List Value} {ks : List Key}, PySem.W.EachIs (fun v k => RelV (kV k) v) vs ks → Vals (ks.map kV) vs
  | _, _, .nil => .nil
  | _, _, .cons h t => .cons h (keys_valsV t)
/-- sorted(s), s a set of keys of one kind -/
def rSortedM (P : Program) (w : World) : List V → Hp → VK → Prop := fun vs H Q => ∃ (a : Addr) (ks : List Key) (n : Nat), vs = [V.ref a] ∧ H a = some (SetMO P w a (hasK ks) n) ∧ PySem.W.AllAlike (ks.map encK) ∧
  ∀ (zs : List Key) (p : Addr), zs.Nodup → (∀ k : Key, k ∈ zs ↔ k ∈ ks) → H p = none → Q (.ref p) (upd H p (.lst ((zs.mergeSort (PySem.W.dataLe false encK)).map kV)))
theorem cr_sortedM (hc : X.calm = true) (hu : X.A.units + 64 < cLine) : CallR X (.builtin "sorted") (rSortedM X.prog X.w) := by
  intro pins s σ H vs us Q I r h
  obtain ⟨a, ks, n, rfl, ha, hal, q⟩ := h
  obtain ⟨o, es, ep, t, ho, hex, hd, g, nd, hm, hb, hf, hn, hr, hl⟩ := (I.hok a _ ha).1
  rw [Vals.ref1 r]
  refine Calls.call_function_entry kind_sorted plain_sorted entry_sorted (args_sorted1 _) ?_
  unfold Builtin.«sorted»
  refine wpAny_bind (m := checkCount "sorted" 1 1 _) (wpAny_pure ?_)
  refine wpAny_bind (collect_set (A := X.A.in1) (I.ok.hd hc) ⟨o, ho, hex.1, hd⟩ hf hb hr hl fun s1 vs k1 hz g1 o1 pm => ?_)
  let zs := vs.map fun v => kyOf (0, v)
  have hvl : vs.length = n := by rw [pm.length_eq, List.length_map, Array.length_toList]; exact hn
  have hrel : ∀ v ∈ vs, RelV (kV (kyOf (0, v))) v := fun v hv => kyV_rel g (pm.mem_iff.mp hv)
  have pz : zs.Perm (es.toList.map kyOf) := by
    have q := pm.map fun v => kyOf (0, v)
    rw [List.map_map] at q
    exact q
  have hmem : ∀ k, k ∈ zs ↔ k ∈ ks := fun k => by rw [pz.mem_iff, ← hm k, hasK_iff]
  have hlen : vs.length ≤ sizeLine := by rw [hvl, ← hn]; exact fits_of_scanBound hb
  refine wpAny_bind (wpAny_newList ?_ hlen)
  have hoL : (s1.heap.push (seqObj "list" vs.toArray 0)).get? s1.heap.objs.size = some (seqObj "list" vs.toArray 0) := Heap.get?_push_size _ rfl
  have hal2 : PySem.W.AllAlike (zs.map encK) := fun d hd d' hd' => by
    obtain ⟨k, hk, rfl⟩ := List.mem_map.mp hd
    obtain ⟨k', hk', rfl⟩ := List.mem_map.mp hd'
    exact hal _ (List.mem_map.mpr ⟨k, (hmem k).mp hk, rfl⟩) _ (List.mem_map.mpr ⟨k', (hmem k').mp hk', rfl⟩)
  have ev := each_keysV hrel
  have er : PySem.W.EachIs (fun v k => ∃ as, Reads (s1.heap.push (seqObj "list" vs.toArray 0)) v (encK k) as ∧ s1.heap.objs.size ∉ as) vs zs := ev.mono fun v k h => by
    obtain ⟨as, r⟩ := reads_key (h := s1.heap.push (seqObj "list" vs.toArray 0)) h
    exact ⟨as, r, by rw [key_reads0 r]; simp⟩
  refine wpAny_bind (wpAny_holding (PySem.W.list_sort_data (A := X.A.in1) (s := { s1 with heap := s1.heap.push (seqObj "list" vs.toArray 0) }) (R := fun v k => RelV (kV k) v) (enc := encK) (bs := zs) hoL ev er hal2 key_others (by rw [List.length_map]; exact hlen) (fun k _ => by rw [key_depth]; show X.A.units + 1 + 1 + 0 < cLine; omega) fun out hol hE => ?_))
  obtain ⟨c, hcc⟩ := sortedHeap_at (vs := vs) (out := out.toArray) hoL
  have hn2 : H s1.heap.objs.size = none := I.hok.fresh hz
  have hkeep : ∀ b u, s.heap.get? b = some u → (sortedHeap (s1.heap.push (seqObj "list" vs.toArray 0)) s1.heap.objs.size vs out.toArray).get? b = some u := fun b u e => by
    have q := k1 b u e
    have hlt := Heap.lt_size q
    rw [sortedHeap_old (Nat.ne_of_lt hlt) (by rw [size_push']; exact Nat.lt_succ_of_lt hlt)]
    exact Heap.get?_push_of_some _ q
  have hl2 : ((zs.mergeSort (PySem.W.dataLe false encK)).map kV).length ≤ sizeLine := by rw [List.length_map, List.length_mergeSort, List.length_map]; exact hlen
  have J : Inv X pins σ (upd H s1.heap.objs.size (.lst ((zs.mergeSort (PySem.W.dataLe false encK)).map kV))) { s with heap := sortedHeap (s1.heap.push (seqObj "list" vs.toArray 0)) s1.heap.objs.size vs out.toArray, gens := s1.gens, drawn := s1.drawn, toks := s1.toks } :=
    I.call (ch := []) (Un.laid hkeep hz hn2) (I.hok.laid hkeep hz ⟨hl2, out, c, keys_valsV hE, hcc⟩) (by rw [g1]; exact I.bare) (fun _ z => nomatch z)
  refine wpAny_pure ⟨_, rfl, ?_⟩
  have e : ({ s1 with heap := sortedHeap (s1.heap.push (seqObj "list" vs.toArray 0)) s1.heap.objs.size vs out.toArray } : Shared) = { s with heap := sortedHeap (s1.heap.push (seqObj "list" vs.toArray 0)) s1.heap.objs.size vs out.toArray, gens := s1.gens, drawn := s1.drawn, toks := s1.toks } := by
    cases s1
    cases s
    cases o1
    rfl
  refine ⟨.ref _, _, ?_, rfl, q zs _ (pz.nodup_iff.mpr nd) hmem hn2⟩
  exact e ▸ J
end
end L2

set_option Elab.async false
set_option linter.all false
set_option maxRecDepth 100000
set_option maxHeartbeats 2000000
namespace L2
open PySem PySem.Spec PyProof.Rows
/-! ### dict(pairs), the keys tuples of keys -/
def mergeT (kvs more : List (List Key × V)) : List (List Key × V) := more.foldl (fun acc kv => putK acc kv.1 kv.2) kvs
theorem KT.merge {H : Hp} : ∀ {more : List (List Key × V)} {rs : List (List Key × Addr × Value)} {kvs : List (List Key × V)} {vs : List (List Key × Addr × Value)}, KT H more rs → KT H kvs vs → KT H (mergeT kvs more) (storedAllH vs rs) := by
  intro more rs kvs vs r
  induction r generalizing kvs vs with
  | nil => exact fun h => h
  | @cons p q ps qs h t ih =>
    intro k
    obtain ⟨k1, b, u⟩ := q
    obtain ⟨h1, h2, h3⟩ := h
    have h1' : p.1 = k1 := h1
    subst h1'
    exact ih (k.put p.1 h2 h3)
theorem len_mergeT : ∀ (more kvs : List (List Key × V)), (mergeT kvs more).length ≤ kvs.length + more.length
  | [], kvs => Nat.le_refl _
  | p :: more, kvs => by
    have h := len_mergeT more (putK kvs p.1 p.2)
    have h2 : (putK kvs p.1 p.2).length ≤ kvs.length + 1 := by
      unfold putK
      split <;> simp
    show (mergeT (putK kvs p.1 p.2) more).length ≤ _
    rw [List.length_cons]
    omega
section
variable {X : Cx} {pins : List (Addr × Obj)} {σ : St} {H : Hp} {s : Shared}
/-- what a list of pairs (tuple of keys, value) is in the heap -/
theorem pairsT_of (I : Inv X pins σ H s) : ∀ {ps : List Addr} {kvs : List ((Addr × List Key) × V)}, Paired (fun p (kv : (Addr × List Key) × V) => SqT X.K H p [.ref kv.1.1, kv.2] ∧ H kv.1.1 = some (.tup (kv.1.2.map kV))) ps kvs →
    ∃ xs : List (List Key × Addr × Value), KT H (kvs.map fun kv => (kv.1.2, kv.2)) xs ∧ xs.length = ps.length ∧ ∀ (i : Nat) (x : List Key × Addr × Value), xs[i]? = some x → ∃ p, ps[i]? = some p ∧ IsTup s.heap p #[.ref x.2.1, x.2.2]
  | _, _, .nil => ⟨[], .nil, rfl, fun i x h => by simp at h⟩
  | _, _, .cons (a := p) (b := kv) ⟨h1, h2⟩ t => by
    obtain ⟨xs, r, hl, hx⟩ := pairsT_of I t
    obtain ⟨its, rv, hp, _⟩ := I.tuple h1
    cases rv with
    | cons r1 rv =>
      cases rv with
      | cons r2 rv =>
        cases rv
        cases r1
        refine ⟨(kv.1.2, kv.1.1, _) :: xs, .cons ⟨rfl, h2, r2⟩ r, by simp [hl], fun i x h => ?_⟩
        cases i with
        | zero => simp at h; subst h; exact ⟨p, rfl, hp⟩
        | succ i => simpa using hx i x (by simpa using h)
theorem KT.keys_is {P : Program} {w : World} {h : Heap} {H : Hp} (ok : ∀ b (ks : List Key), H b = some (.tup (ks.map kV)) → (tupleKind (mixKind P w)).is h ks b) : ∀ {l : List (List Key × V)} {m : List (List Key × Addr × Value)}, KT H l m → ∀ x ∈ m, (tupleKind (mixKind P w)).is h x.1 x.2.1
  | _, _, .nil, x, hx => by simp at hx
  | _, _, .cons h t, x, hx => by
    rcases List.mem_cons.mp hx with rfl | hx
    · exact ok _ _ (by rw [← h.1]; exact h.2.1)
    · exact KT.keys_is ok t x hx
def rDictT (K : PySem.W.Frag) : List V → Hp → VK → Prop := fun xs H Q => ∃ (a : Addr) (ps : List Addr) (kvs : List ((Addr × List Key) × V)), xs = [.ref a] ∧ SqL K H a (ps.map V.ref) ∧
  Paired (fun p (kv : (Addr × List Key) × V) => SqT K H p [.ref kv.1.1, kv.2] ∧ H kv.1.1 = some (.tup (kv.1.2.map kV))) ps kvs ∧ ∀ p, H p = none → Q (.ref p) (upd H p (.dT (mergeT [] (kvs.map fun kv => (kv.1.2, kv.2)))))
theorem cr_dictT (hc : X.calm = true) (hu : X.A.units + 64 < cLine) : CallR X (.type "dict") (rDictT X.K) := by
  intro pins s σ H xs us Q I r q
  obtain ⟨a, ps, kvs, rfl, hq, hp, q⟩ := q
  rw [Vals.ref1 r]
  obtain ⟨its, rv, pl, hz⟩ := I.list hq
  have ei := refs_at rv
  subst ei
  rw [List.length_map] at hz
  obtain ⟨ys, kt, hl, hx⟩ := pairsT_of I hp
  obtain ⟨o, n, ho, hcl, hd, hdat⟩ := pl
  have keyAt : ∀ h', (∀ b o, b ≠ s.heap.objs.size → s.heap.get? b = some o → h'.get? b = some o) → ∀ x ∈ ys, (tupleKind (mixKind X.prog X.w)).is h' x.1 x.2.1 := fun h' hk => KT.keys_is (fun b ks e => by
    obtain ⟨_, its, r, o, h1, h2, n, h3⟩ := (show ObjOk X.prog X.w H s.heap b (.tup (ks.map kV)) from I.hok b _ e)
    exact ⟨o, its.toArray, n, hk b o (Nat.ne_of_lt (Heap.lt_size h1)) h1, h2, h3, by simpa using items_are r⟩) kt
  refine call_dict_pairsH (knd := tupleKind (mixKind X.prog X.w)) (ps := ys) (PairArg.list a (ps.map Value.ref).toArray (fun j => ps.getD j 0) (ys.map fun x => (Value.ref x.2.1, x.2.2))) (I.ok.hd hc) (by show X.A.units + 1 + 1 < cLine; omega) ⟨⟨o, n, ho, hcl, hd, hdat⟩, ?_, fun j k v hj => ?_⟩ ⟨by simp, fun i key v hr => ?_⟩ (fun h' hk x hx => keyAt h' (fun b o h1 h2 => hk b o h1 (by simp) h2) x hx) (by rw [List.length_map, hl]; exact hz) fun h' tk hd' hk => ?_
  · simp [hl]
  · rw [List.getElem?_map] at hj
    cases e : ys[j]? with
    | none => rw [e] at hj; cases hj
    | some x =>
      rw [e] at hj
      cases hj
      obtain ⟨p, hp1, hp2⟩ := hx j x e
      refine ⟨by simp [hp1], .inl ?_⟩
      show s.heap.IsTuple (ps.getD j 0) _
      rw [List.getD_eq_getElem?_getD, hp1]
      exact hp2
  · have hr' : (ys.map fun x => (Value.ref x.2.1, x.2.2))[i]? = some (key, v) := hr
    rw [List.getElem?_map] at hr'
    cases e : ys[i]? with
    | none => rw [e] at hr'; cases hr'
    | some x =>
      rw [e] at hr'
      cases hr'
      exact ⟨x.1, x.2.1, rfl, rfl⟩
  · have hk' : ∀ b o, s.heap.get? b = some o → h'.get? b = some o := fun b o e => hk b o (by simp) e
    have hm : (s.heap.objs.size == sysModules) = false := beq_eq_false_iff_ne.mpr (Nat.ne_of_gt I.big)
    have hlen : (mergeT [] (kvs.map fun kv => (kv.1.2, kv.2))).length ≤ sizeLine := by
      refine Nat.le_trans (len_mergeT _ _) ?_
      have e1 : kvs.length = ys.length := by
        have := kt.length
        simpa using this
      rw [List.length_nil, Nat.zero_add, List.length_map, e1, hl]
      exact hz
    obtain ⟨o', es, ep, e1, e2, e3, e4, _, e5⟩ := hd'
    have kt2 : KT (upd H s.heap.objs.size (.dT (mergeT [] (kvs.map fun kv => (kv.1.2, kv.2))))) (mergeT [] (kvs.map fun kv => (kv.1.2, kv.2))) (storedAllH [] ys) :=
      (KT.merge kt .nil).keeps fun b zs e => by
        rw [upd_ne fun q => by rw [q, I.hok.fresh (Nat.le_refl _)] at e; cases e]
        exact e
    exact ⟨.ref s.heap.objs.size, upd H s.heap.objs.size (.dT (mergeT [] (kvs.map fun kv => (kv.1.2, kv.2)))), I.laid (t' := tk) hk' (Nat.le_refl _) (show ObjOk X.prog X.w _ _ _ (.dT _) from ⟨hlen, hm, _, kt2, o', es, ep, e1, e2, e3, e4, e5⟩), rfl, q _ (I.hok.fresh (Nat.le_refl _))⟩
end
end L2

set_option Elab.async false
set_option linter.all false
set_option maxRecDepth 100000
set_option maxHeartbeats 2000000
namespace PP
open PySem L2
section
variable {G : Gc} {A : AS} {H : Hp}
/-- the same keys, the values' data -/
structure Prl {κ : Type} (G : Gc) (A : AS) (H : Hp) (kvs : List (κ × V)) (ds : List (κ × D)) : Prop where
  k : kvs.map (·.1) = ds.map (·.1)
  v : FzL G A H (kvs.map (·.2)) (ds.map (·.2))
theorem Prl.nil {κ : Type} : Prl (κ := κ) G A H [] [] := ⟨rfl, .nil⟩
theorem Prl.cons {κ : Type} {k : κ} {v : V} {d : D} {kvs : List (κ × V)} {ds : List (κ × D)} (h : Fz G A H v d) (t : Prl G A H kvs ds) : Prl G A H ((k, v) :: kvs) ((k, d) :: ds) :=
  ⟨by rw [List.map_cons, List.map_cons, t.k], .cons h t.v⟩
theorem Prl.inv {κ : Type} : ∀ {kvs : List (κ × V)} {ds : List (κ × D)}, Prl G A H kvs ds → (kvs = [] ∧ ds = []) ∨ ∃ k v d kvs' ds', kvs = (k, v) :: kvs' ∧ ds = (k, d) :: ds' ∧ Fz G A H v d ∧ Prl G A H kvs' ds'
  | [], [], _ => .inl ⟨rfl, rfl⟩
  | [], _ :: _, h => nomatch h.k
  | _ :: _, [], h => nomatch h.k
  | (k, v) :: kvs, (k', d) :: ds, ⟨h1, h2⟩ => by
    rw [List.map_cons, List.map_cons, List.cons.injEq] at h1
    obtain ⟨e, h1⟩ := h1
    have e : k = k' := e
    subst e
    rw [List.map_cons, List.map_cons] at h2
    cases h2 with
    | cons a b => exact .inr ⟨_, _, _, _, _, rfl, rfl, a, h1, b⟩
theorem Prl.append {κ : Type} {kvs kvs' : List (κ × V)} {ds ds' : List (κ × D)} (a : Prl G A H kvs ds) (b : Prl G A H kvs' ds') : Prl G A H (kvs ++ kvs') (ds ++ ds') :=
  ⟨by rw [List.map_append, List.map_append, a.k, b.k], by rw [List.map_append, List.map_append]; exact a.v.append b.v⟩
theorem Prl.any {κ : Type} [DecidableEq κ] (k : κ) {kvs : List (κ × V)} {ds : List (κ × D)} (a : Prl G A H kvs ds) : (kvs.any fun kv => decide (kv.1 = k)) = ds.any fun kv => decide (kv.1 = k) := by
  have e : ∀ {α : Type} (l : List (κ × α)), (l.any fun kv => decide (kv.1 = k)) = (l.map (·.1)).any fun x => decide (x = k) := fun l => by rw [List.any_map]; rfl
  rw [e, e, a.k]
theorem Prl.set {κ : Type} [DecidableEq κ] (k : κ) {v : V} {d : D} (h : Fz G A H v d) : ∀ (kvs : List (κ × V)) (ds : List (κ × D)), Prl G A H kvs ds → Prl G A H (kvs.map fun kv => if kv.1 = k then (kv.1, v) else kv) (ds.map fun kv => if kv.1 = k then (kv.1, d) else kv)
  | kvs, ds, a => by
    induction kvs generalizing ds with
    | nil =>
      rcases a.inv with ⟨_, rfl⟩ | ⟨_, _, _, _, _, e, _⟩
      · exact .nil
      · cases e
    | cons p kvs ih =>
      rcases a.inv with ⟨e, _⟩ | ⟨k', v', d', kvs', ds', e, rfl, z, t⟩
      · cases e
      · cases e
        rw [List.map_cons, List.map_cons]
        by_cases q : k' = k
        · rw [if_pos q, if_pos q]; exact .cons h (ih _ t)
        · rw [if_neg q, if_neg q]; exact .cons z (ih _ t)
theorem Prl.put {κ : Type} [DecidableEq κ] (k : κ) {v : V} {d : D} {kvs : List (κ × V)} {ds : List (κ × D)} (h : Fz G A H v d) (a : Prl G A H kvs ds) : Prl G A H (putK kvs k v) (putD ds k d) := by
  unfold putK putD
  rw [a.any k]
  split
  · exact Prl.set k h _ _ a
  · exact a.append (.cons h .nil)
theorem Prl.merge {κ : Type} [DecidableEq κ] : ∀ (more : List (κ × V)) (mds : List (κ × D)) {kvs : List (κ × V)} {ds : List (κ × D)}, Prl G A H more mds → Prl G A H kvs ds → Prl G A H (more.foldl (fun acc kv => putK acc kv.1 kv.2) kvs) (mds.foldl (fun acc kv => putD acc kv.1 kv.2) ds) := by
  intro more
  induction more with
  | nil =>
    intro mds kvs ds m a
    rcases m.inv with ⟨_, rfl⟩ | ⟨_, _, _, _, _, e, _⟩
    · exact a
    · cases e
  | cons p more ih =>
    intro mds kvs ds m a
    rcases m.inv with ⟨e, _⟩ | ⟨k, v, d, more', mds', e, rfl, z, t⟩
    · cases e
    · cases e
      exact ih mds' t (a.put k z)
theorem keyOf_kV {v : V} {d : D} {k : Key} (h : Fz G A H v d) (e : keyOf d = some k) : v = kV k := by
  cases h <;> cases e <;> rfl
theorem keysOf_kV : ∀ {vs : List V} {ds : List D} {ks : List Key}, FzL G A H vs ds → keysOf ds = some ks → vs = ks.map kV
  | _, _, _, .nil, e => by cases e; rfl
  | _, d :: ds, ks, .cons h t, e => by
    rw [keysOf] at e
    cases e1 : keyOf d with
    | none => rw [e1] at e; cases e
    | some k =>
      cases e2 : keysOf ds with
      | none => rw [e1, e2] at e; cases e
      | some r =>
        rw [e1, e2] at e
        cases e
        rw [keyOf_kV h e1, keysOf_kV t e2]
        rfl
theorem pairK_of : ∀ {us : List V} {xs : List D} {ds : List (Key × D)}, FzL G A H us xs → asPairK xs = some ds → ∃ (ps : List Addr) (kvs : List (Key × V)), us = ps.map V.ref ∧ Paired (fun p kv => SqT G.K H p [kV kv.1, kv.2]) ps kvs ∧ Prl G A H kvs ds
  | _, [], _, .nil, e => by cases e; exact ⟨[], [], rfl, .nil, .nil⟩
  | _, x :: xs, ds, .cons h t, e => by
    cases x with
    | tup ys =>
      match ys, h, e with
      | [a, b], h, e =>
        rw [asPairK] at e
        cases e1 : keyOf a with
        | none => rw [e1] at e; cases e
        | some k =>
          cases e2 : asPairK xs with
          | none => rw [e1, e2] at e; cases e
          | some r =>
            rw [e1, e2] at e
            cases e
            obtain ⟨ps, kvs, rfl, hp, pr⟩ := pairK_of t e2
            cases h with
            | tup n q l =>
              rename_i p vs
              cases l with
              | cons la lb =>
                cases lb with
                | cons lb lc =>
                  cases lc
                  rw [keyOf_kV la e1] at q
                  exact ⟨p :: ps, (k, _) :: kvs, rfl, .cons (SqT.of q) hp, .cons lb pr⟩
      | [], h, e => cases e
      | [_], h, e => cases e
      | _ :: _ :: _ :: _, h, e => cases e
    | _ => cases e
theorem pairT_of : ∀ {us : List V} {xs : List D} {ds : List (List Key × D)}, FzL G A H us xs → asPairT xs = some ds → ∃ (ps : List Addr) (kvs : List ((Addr × List Key) × V)), us = ps.map V.ref ∧
    Paired (fun p (kv : (Addr × List Key) × V) => SqT G.K H p [.ref kv.1.1, kv.2] ∧ H kv.1.1 = some (.tup (kv.1.2.map kV))) ps kvs ∧ Prl G A H (kvs.map fun kv => (kv.1.2, kv.2)) ds
  | _, [], _, .nil, e => by cases e; exact ⟨[], [], rfl, .nil, .nil⟩
  | _, x :: xs, ds, .cons h t, e => by
    cases x with
    | tup ys =>
      match ys, h, e with
      | [.tup a, b], h, e =>
        rw [asPairT] at e
        cases e1 : keysOf a with
        | none => rw [e1] at e; cases e
        | some k =>
          cases e2 : asPairT xs with
          | none => rw [e1, e2] at e; cases e
          | some r =>
            rw [e1, e2] at e
            cases e
            obtain ⟨ps, kvs, rfl, hp, pr⟩ := pairT_of t e2
            cases h with
            | tup n q l =>
              rename_i p vs
              cases l with
              | cons la lb =>
                cases lb with
                | cons lb lc =>
                  cases lc
                  cases la with
                  | tup n2 q2 l2 =>
                    rw [keysOf_kV l2 e1] at q2
                    exact ⟨p :: ps, ((_, k), _) :: kvs, rfl, .cons ⟨SqT.of q, q2⟩ hp, .cons lb pr⟩
      | [], h, e => cases e
      | [x], h, e => cases x <;> cases e
      | x :: _ :: _ :: _, h, e => cases x <;> cases e
      | [.non, _], h, e => cases e
      | [.bl _, _], h, e => cases e
      | [.int _, _], h, e => cases e
      | [.str _, _], h, e => cases e
      | [.lst _, _], h, e => cases e
      | [.dct _, _], h, e => cases e
      | [.dctT _, _], h, e => cases e
      | [.obj _ _, _], h, e => cases e
      | [.kt _, _], h, e => cases e
    | _ => cases e
end
def rDictP (K : PySem.W.Frag) : List V → Hp → VK → Prop := fun xs H Q => ∃ (a : Addr) (ps : List Addr) (kvs : List (Key × V)), xs = [.ref a] ∧ SqL K H a (ps.map V.ref) ∧ Paired (fun p kv => SqT K H p [kV kv.1, kv.2]) ps kvs ∧ ∀ p, H p = none → Q (.ref p) (upd H p (.dK (mergeK [] kvs)))
def rDictA (K : PySem.W.Frag) : List V → Hp → VK → Prop := fun xs H Q => rDictP K xs H Q ∨ rDictT K xs H Q
section
variable {X : Cx} {F : Fm} {E : XC} {Γ : Env} {a b c : Expr} {ia ib ic : Ex} {pos : Pos}
theorem rr_newDT {Z : AS} {ow : Ow} {σ : L2.St} {H : Hp} {s : S} {p : Addr} {kvs : List (List Key × V)} {ds : List (List Key × D)} (R : Rep F Z ow σ H s) (h : H p = none) (l : Prl F.G (Av' Z ow) H kvs ds) : RR F Z H ow σ (upd H p (.dT kvs)) s (.ref p) (.fz (.dctT ds)) := by
  obtain ⟨nm, n0, nz⟩ := R.new0 h
  exact ⟨R.alloc0 h, .dctT nz (.inl upd_same) l.k (l.v.keep (Keep.new (Z := Z) h))⟩
theorem cs_dict : CallS F E (qBi .dict) (rDictA F.G.K) := by
  intro Z ow σ H s K xs vs Q R hx w k
  match xs, hx, w with
  | [.lst xs], hx, w =>
    obtain ⟨v, rfl, h⟩ := views1 hx
    obtain ⟨a, us, rfl, e, l⟩ := h
    have w' : (match asPairK xs with
      | some kvs => K (.nd (dictOf kvs)) s
      | none => (match asPairT xs with
        | some kvs => K (.fz (.dctT (dictOf kvs))) s
        | none => False)) := w
    cases q : asPairK xs with
    | some ds =>
      rw [q] at w'
      obtain ⟨ps, kvs, rfl, hp, pr⟩ := pairK_of l q
      have m := Prl.merge _ _ pr (Prl.nil (G := F.G) (A := Av' Z ow) (H := H))
      exact .inl ⟨a, ps, kvs, rfl, SqL.of e, hp, fun p hp => k _ _ _ _ _ w' (rr_newD R hp m.k m.v) (Eff.new hp)⟩
    | none =>
      rw [q] at w'
      cases q2 : asPairT xs with
      | none => rw [q2] at w'; exact w'.elim
      | some ds =>
        rw [q2] at w'
        obtain ⟨ps, kvs, rfl, hp, pr⟩ := pairT_of l q2
        have m := Prl.merge _ _ pr (Prl.nil (G := F.G) (A := Av' Z ow) (H := H))
        exact .inr ⟨a, ps, kvs, rfl, SqL.of e, hp, fun p hp => k _ _ _ _ _ w' (rr_newDT R hp m) (Eff.new hp)⟩
theorem sx_dict (g : Gd X F E) {p : Pos} (hm : X.mg "dict" = none) (ha : AVX X F E Γ [a] [ia]) (hg : Gl X "dict" := by rfl) (he : starEach [a] X.env = (false, eval a X.env) :: starEach [] X.env := by rfl) : SX X F E Γ (.Call (.Name "dict" p) [a] [] pos) (.bi .dict [ia]) :=
  sx_ty (r := rDictA F.G.K) (by rw [← g.hK]; exact (call_dictP g.calm).or (cr_dictT g.calm g.u)) cs_dict hm (by decide +kernel) ha hg (by decide) (by decide) he rfl
/-- e, as a statement -/
theorem ss_ex (ha : SX X F E Γ a ia) (hs : swapsWith a none pos.line X.env = pure false := by rfl) : SSX X F E Γ (.Expr a pos) (.ex ia) := PSimp (ps_expr ha hs) fun D σ H h => by
  obtain ⟨ow, s, n, R, w, he, c⟩ := h
  subst he
  refine ⟨F.Z0, ow, s, _, R, w, fun r s1 v1 H1 ow1 w1 rr e1 => ?_⟩
  exact c.nx s1 σ H1 ow1 w1 (rr.fz' R).1 e1 rfl
/-- sorted(set(e)) -/
theorem enc_key (k : Key) : encK k = pd (keyD k) := by cases k <;> rfl
theorem lst_keys {A : AS} {H : Hp} {v : V} {d : D} {ks : List Key} (h : View F A H v d) (e : (lstT d).bind keysOf = some ks) : ∃ l, v = .ref l ∧ (SqL F.G.K H l (ks.map kV) ∨ SqT F.G.K H l (ks.map kV)) := by
  cases d with
  | lst xs =>
    obtain ⟨a, us, rfl, e1, l⟩ := h
    rw [keysOf_kV l e] at e1
    exact ⟨a, rfl, .inl (SqL.of e1)⟩
  | tup xs =>
    obtain ⟨a, us, rfl, e1, l⟩ := view_tup h
    rw [keysOf_kV l e] at e1
    exact ⟨a, rfl, .inr e1⟩
  | _ => cases e
theorem sx_setsort (g : Gd X F E) {p p2 q : Pos} (hm : X.mg "sorted" = none) (hm2 : X.mg "set" = none) (ha : AVX X F E Γ [a] [ia]) (hg : Gl X "sorted" := by rfl) (hg2 : Gl X "set" := by rfl) (he : starEach [a] X.env = (false, eval a X.env) :: starEach [] X.env := by rfl)
    (he2 : starEach [Expr.Call (.Name "set" p2) [a] [] q] X.env = (false, eval (Expr.Call (.Name "set" p2) [a] [] q) X.env) :: starEach [] X.env := by rfl) : SX X F E Γ (.Call (.Name "sorted" p) [.Call (.Name "set" p2) [a] [] q] [] pos) (.bi .setsort [ia]) :=
  PEimp (pe_callB (cr_sortedM g.calm g.u) hg hm (by decide +kernel) (pa_cons (pe_callTy (cr_setM g.calm) hg2 hm2 (by decide +kernel) ha (by decide) (by decide) he rfl) pa_nil he2) (by decide) (by decide) he2 rfl) fun σ H Q h => by
    obtain ⟨Z, ow, s, K, R, hf, hq⟩ := h
    refine ⟨Z, ow, s, _, R, hf, fun xs s1 vs H1 ow1 k1 R1 o1 e1 => ?_⟩
    obtain ⟨ds, w1, hx⟩ := ress_ok R1 o1 k1
    match ds, hx, w1 with
    | [d], hx, w1 =>
      obtain ⟨v, rfl, h⟩ := views1 hx
      have w' : (match (lstT d).bind keysOf with
        | some ks => ks.length + 1 < 4096 ∧ PySem.W.AllAlike (ks.map fun k => pd (keyD k)) ∧ ∀ zs : List Key, zs.Nodup → (∀ x, x ∈ zs ↔ x ∈ ks) → K (.nl (srtD (zs.map keyD))) s1
        | none => False) := w1
      cases q : (lstT d).bind keysOf with
      | none => rw [q] at w'; exact w'.elim
      | some ks =>
        rw [q] at w'
        obtain ⟨l, rfl, hl⟩ := lst_keys h q
        refine ⟨l, ks, rfl, by rw [g.hK]; exact hl, w'.1, fun p n hp hn => ?_⟩
        have R2 := R1.alloc0 (o := SetMO X.prog X.w p (hasK ks) n) hp
        have e2 : Eff F Z ow1 H1 ow1 (upd H1 p (SetMO X.prog X.w p (hasK ks) n)) := Eff.new hp
        have hal : PySem.W.AllAlike (ks.map encK) := by
          have q : encK = fun k => pd (keyD k) := funext enc_key
          rw [q]; exact w'.2.1
        refine ⟨p, ks, n, rfl, upd_same, hal, fun zs q hz hm hq0 => ?_⟩
        have es : (zs.mergeSort (PySem.W.dataLe false encK)).map keyD = srtD (zs.map keyD) := PySem.W.sort_maps keyD fun k _ k' _ => by
          show PySem.W.dataLe false encK k k' = PySem.W.dataLe false (fun k => pd (keyD k)) k k'
          have q : encK = fun k => pd (keyD k) := funext enc_key
          rw [q]
        refine hq _ s1 _ _ ow1 (w'.2.2 zs hz hm) ?_ ((e1.trans e2).trans (Eff.new hq0))
        rw [← es]
        exact (rr_newL R2 hq0 (fzl_kds _)).back (e1.trans e2).dm
    | [], hx, w1 => exact w1.elim
    | _ :: _ :: _, hx, w1 => exact w1.elim
end
end PP

set_option Elab.async false
set_option linter.all false
set_option maxRecDepth 100000
set_option maxHeartbeats 4000000
namespace L2
open PySem PySem.Spec PyProof.Rows
/-- a law's end over a head by facts, with the script's bits -/
theorem walk_ofEB {l : PySem.W.OpenLaw} {n k : Nat} {q : Program} {loose : List Str} {XP : (Str → Option Value) → Heap → Prop} {YP : World → Heap → Prop} {d : DefRec} {CX : CXT} {x : Str}
    (hn : l.most = some n) (hz : n ≤ sizeLine) (hdf : d.params.defaults = []) (hr : RoomG k callerA)
    (F : ∀ (w : World) (mg : Str → Option Value) (fa : Addr) (h : Heap), YP w h → h.Ns mainGlobals mg → mg d.name = some (.ref fa) →
      ∃ (K : PySem.W.Frag) (fd : FuncData) (sp : Sp), K.In h ∧ (∀ (s : Shared) (u : Value), BindsTo s fd ⟨[u], []⟩ [(x, u)]) ∧
        (∀ (H : Hp) (a : Addr) (ns : List Int), ns.length ≤ n → (∀ z ∈ ns, Builtin.Int.intBits z ≤ 1048576) → Only H → SqL K H a (ns.map V.int) → sp [.ref a] H (fun v _ => v = .bl true) fun _ _ _ => False) ∧
        ∀ base : Heap, K.In base → base.Ns mainGlobals mg → FnOg l.prog w K mg base CX k fa fd [x] sp)
    (hCX : ∀ (H : Hp) (s : Shared) (e : Value) (s' : Shared), CX [] H s (fun _ _ _ => False) e s' → False) :
    PySem.W.WalkO q loose XP YP l.row.toRowW d [] (fun f vs => PySem.call f vs) := by
  refine Att.attach_callB hn hdf fun w s₀ s₁ mg mb fa o pm cd doc a vs ns G Y ho hd hcd hmg hobj hints hlen hbits hg => ?_
  obtain ⟨K, fd, sp, KX, hb, hsp, hF⟩ := F w mg fa _ Y G.T.g hmg
  exact law_callg KX G.T.g G.T.b G.T.builtins G.T.nolimit hg hobj hints (Nat.le_trans hlen hz) hr hF hb (fun H hO hS => hsp H a ns hlen hbits hO hS) fun H e s' => hCX H s₁ e s'
theorem PSs.ex {α : Type} {X : Cx} {st : List Stmt} {p : α → Prop} {t : α → TS} (h : ∀ a, p a → PSs X st (t a)) : PSs X st (fun D σ H => ∃ a, p a ∧ t a D σ H) :=
  ⟨fun pins s σ H D I ⟨a, ha, w⟩ => (h a ha).run pins s σ H D I w⟩
end L2
namespace PP
open PySem L2
/-- a law: whatever is drawn, it gives True -/
def LawOk (Γ : Env) (n : Nat) (code : List Sx) : Prop := ∀ c : Stm, c.c = 0 → exSs Γ code ⟨fun _ => False, fun r _ => r = .fz (.bl true), fun _ => False, fun _ => False, noX⟩ ⟨none :: some .stm :: List.replicate (n - 2) none, c⟩
/-- the law's promise -/
def spLaw (K : PySem.W.Frag) (tb : List (Addr × Str)) : Sp := fun vs H Q _ => ∃ (a : Addr) (ns : List Int), LamX.Tabs tb H ∧ vs = [.ref a] ∧ SqL K H a (ns.map V.int) ∧ ns.length ≤ 63 ∧ (∀ z ∈ ns, Builtin.Int.intBits z ≤ 1048576) ∧ ∀ H', Q (.bl true) H'
/-- the first statement: the stream is laid; then the rest, over some frame -/
def t_law (K : PySem.W.Frag) (G : Gc) (Γ : Env) (code : List Sx) : TS :=
  tSeq (tAsg (tLst (tCons (tCB (fun xs H Q => ∃ p ys, xs = [V.ref p] ∧ (SqL K H p ys ∨ SqT K H p ys) ∧ ∀ l, H l = none → Q (V.ref l) (upd H l (.lst ys))) (tCons (tVar 0) tNil)) (tCons (tC (.int 0)) (tCons (tC (.int 0)) (tCons (tC (.int 0)) tNil))))) (gName 1))
    (fun D σ H => ∃ Fm : Fm, (Fm.G = G ∧ Fm.T.tb = G.tb) ∧ LS Fm noX (exSs Γ code) D σ H)
theorem gt_none2 : ∀ (k i : Nat) {p : P}, gt (none :: some P.stm :: List.replicate k none) i = some p → i = 1 ∧ p = .stm
  | k, 0, p, h => by cases h
  | k, 1, p, h => by cases h; exact ⟨rfl, rfl⟩
  | k, i + 2, p, h => by
    have h' : gt (List.replicate k none) i = some p := h
    rw [gt_eq, List.getElem?_replicate] at h'
    split at h' <;> cases h'
section
variable {P : Program} {w : World} {K : PySem.W.Frag} {mg : Str → Option Value} {base : Heap} {params : Arguments} {body : List Stmt} {scope : Scope} {kws : List (Str × V)} {f : Addr} {fd : FuncData}
theorem law_pure {G : Gc} {Γ : Env} {N : List Str} {k : Nat} {code : List Sx} {x : Str} (F : FunD K "law" "law" params body scope [] kws f fd) (S : FnScope N [x] scope) (hN : 2 ≤ N.length) (hK : K = G.K)
    (hd : ∀ (cdv : Value) (A : Around) (outer : List PySem.Env) (s : Shared) (H : Hp) (E : XK), fd.code = cdv → RoomG k (A.deeper (PyProof.Rows.envOfC "law" scope s.heap.objs.size f cdv)) → (cxOf CX0 P w K mg base N "law" scope f cdv A outer s H E).nox.N.Nodup →
      PSs (cxOf CX0 P w K mg base N "law" scope f cdv A outer s H E).nox body (t_law K G Γ code))
    (hp : LawOk Γ N.length code) : FnOg P w K mg base CX0 (k + 1) f fd [x] (spLaw K G.tb) := by
  refine F.okgC S (fun vs H Q E h => ?_) fun cdv A outer s H vs Q E hcv hr h => ?_
  · obtain ⟨a, ns, _, rfl, _⟩ := h
    rfl
  obtain ⟨a, ns, hT, rfl, hS, h63, hbits, hQ⟩ := h
  refine ⟨_, PSs.nox (hd cdv A outer s H E hcv hr S.nd), ?_⟩
  refine ⟨.ref a, rfl, a, _, rfl, .inl hS, fun l hl => ⟨show 4 ≤ sizeLine by decide, fun p hp0 => ?_⟩⟩
  have hpl : p ≠ l := fun e => by rw [e, upd_same] at hp0; cases hp0
  let T : SA := ⟨p, l, G.tb⟩
  let H2 : Hp := upd (upd H l (.lst (ns.map V.int))) p (.lst [.ref l, .int 0, .int 0, .int 0])
  have es : H2 p = some (.lst [.ref l, .int 0, .int 0, .int 0]) := upd_same
  have el : H2 l = some (.lst (ns.map V.int)) := by show upd _ _ _ _ = _; rw [upd_ne hpl.symm, upd_same]
  have st : StrOk T H2 ⟨ns, 0, 0, 0⟩ := ⟨hpl, es, el, h63, hbits, Int.le_refl 0, show Builtin.Int.intBits 0 ≤ 1048576 by decide, Int.le_refl 0, show (0 : Int) < 2147483647 by decide, tabs_keep (tabs_keep hT (tbk_new hl)) (tbk_new hp0)⟩
  have sg : ((start N [V.ref a]).set 1 (some (.ref p)))[1]? = some (some (.ref p)) := by
    rw [List.getElem?_set_self]
    unfold L2.start
    simp; omega
  refine ⟨⟨G, T, H2, T.A, T.A⟩, ⟨rfl, rfl⟩, fun _ => none, ⟨none :: some .stm :: List.replicate (N.length - 2) none, ⟨ns, 0, 0, 0⟩⟩, _, ?_, hp ⟨ns, 0, 0, 0⟩ rfl, rfl, ⟨fun s' σ' H' ow' w _ _ _ => w.elim, fun _ _ _ _ w => w.elim, fun _ _ _ _ w => w.elim, fun r s' v σ' H' ow' w R e => ?_⟩⟩
  · refine ⟨Keep.refl _ _ _, st, fun _ z => z, fun _ z => z, fun a z => .inl z, fun a z => ?_, fun a z => .inl z, fun _ _ e => (by cases e), fun _ _ _ e => (by cases e), fun _ _ e => (by cases e), ?_, fun i q e => ?_⟩
    · exact st.it z
    · show (none :: some PP.P.stm :: List.replicate (N.length - 2) none).length = _
      unfold L2.start
      simp; omega
    · obtain ⟨rfl, rfl⟩ := gt_none2 _ i e
      exact ⟨_, sg, rfl, rfl⟩
  · have w : r = .fz (.bl true) := w
    subst w
    cases R.2
    exact hQ H'
/-! ### defs by their contracts -/
theorem fnE_of {G : Gc} {Γ : Env} {N ps : List Str} {k : Nat} {con : Con} {code : List Sx} {x : Str} (F : FunD K x x params body scope [] kws f fd) (S : FnScope N ps scope) (hN : ps.length ≤ N.length) (hK : K = G.K) (hm : mg x = some (.ref f)) (hb : Binds K fd ps [])
    (hd : ∀ (cdv : Value) (A : Around) (outer : List PySem.Env) (s : Shared) (H : Hp) (E : XK) (Fm : Fm), Fm.G = G → Gd (cxOf CX0 P w K mg base N x scope f cdv A outer s H E).nox Fm noX → RoomG k (A.deeper (PyProof.Rows.envOfC x scope s.heap.objs.size f cdv)) →
      SBX (cxOf CX0 P w K mg base N x scope f cdv A outer s H E).nox Fm noX Γ body code)
    (hp : Impl Γ N.length con code) (hI : NoErr con) (hl : ∀ as c K e, con as c K e → as.length = ps.length) (dfl : List D) : FnE P w K mg base G (k + 1) x con dfl 0 :=
  ⟨f, fd, ps, [], [], (fn_pure F S hN hK hd hp hI).cx, hm, F.kp, hb, .nil, hl, fun _ _ _ => by unfold dflTail; simp; exact .nil⟩
theorem fnE_dfl {G : Gc} {Γ : Env} {N ps : List Str} {k : Nat} {con : Con} {code : List Sx} {x : Str} {dvs : List V} (F : FunD K x x params body scope dvs kws f fd) (S : FnScope N ps scope) (hN : ps.length ≤ N.length) (hK : K = G.K) (hm : mg x = some (.ref f)) (hb : Binds K fd ps [])
    (hd : ∀ (cdv : Value) (A : Around) (outer : List PySem.Env) (s : Shared) (H : Hp) (E : XK) (Fm : Fm), Fm.G = G → Gd (cxOf CX0 P w K mg base N x scope f cdv A outer s H E).nox Fm noX → RoomG k (A.deeper (PyProof.Rows.envOfC x scope s.heap.objs.size f cdv)) →
      SBX (cxOf CX0 P w K mg base N x scope f cdv A outer s H E).nox Fm noX Γ body code)
    (hp : Impl Γ N.length con code) (hI : NoErr con) (hl : ∀ as c K e, con as c K e → as.length = ps.length) (dfl : List D) : FnE P w K mg base G (k + 1) x con dfl 0 :=
  ⟨f, fd, ps, [], [], (fn_pure F S hN hK hd hp hI).cx, hm, F.kp, hb, .nil, hl, fun _ _ _ => by unfold dflTail; simp; exact .nil⟩
theorem ioE_of {G : Gc} {Γ : Env} {N ps : List Str} {k ix : Nat} {con : ConIO} {code : List Sx} {x : Str} (F : FunD K x x params body scope [] kws f fd) (S : FnScope N ps scope) (hN : ps.length ≤ N.length) (hK : K = G.K) (hm : mg x = some (.ref f)) (hb : Binds K fd ps [])
    (hd : ∀ (cdv : Value) (A : Around) (outer : List PySem.Env) (s : Shared) (H : Hp) (E : XK) (Fm : Fm), Fm.G = G → Gd (cxOf CX0 P w K mg base N x scope f cdv A outer s H E).nox Fm noX → RoomG k (A.deeper (PyProof.Rows.envOfC x scope s.heap.objs.size f cdv)) →
      SBX (cxOf CX0 P w K mg base N x scope f cdv A outer s H E).nox Fm noX Γ body code)
    (hp : ImplIO Γ N.length ix con code) (hl : ∀ as xs c K, con as xs c K noXc → as.length = ps.length) : IoE P w K mg base G (k + 1) x ix con :=
  ⟨f, fd, ps, fn_pureIO F S hN hK hd hp, hm, F.kp, hb, hl⟩
theorem mtE_of {G : Gc} {Γ : Env} {N ps : List Str} {k : Nat} {con : Con} {code : List Sx} {c m qual : Str} {dvs : List V} (F : FunD K m qual params body scope dvs kws f fd) (S : FnScope N ps scope) (hN : ps.length ≤ N.length) (hK : K = G.K) (hc : Cls K (G.ga c)) (hm : Meth K (G.ga c) m f) (hb : Binds K fd ps [])
    (hd : ∀ (cdv : Value) (A : Around) (outer : List PySem.Env) (s : Shared) (H : Hp) (E : XK) (Fm : Fm), Fm.G = G → Gd (cxOf CX0 P w K mg base N qual scope f cdv A outer s H E).nox Fm noX → RoomG k (A.deeper (PyProof.Rows.envOfC qual scope s.heap.objs.size f cdv)) →
      SBX (cxOf CX0 P w K mg base N qual scope f cdv A outer s H E).nox Fm noX Γ body code)
    (hp : Impl Γ N.length con code) (hI : NoErr con) (hl : ∀ as c K e, con as c K e → as.length = ps.length) (dfl : List D) : MtE P w K mg base G (k + 1) c m con dfl 0 :=
  ⟨f, fd, ps, [], [], (fn_pure F S hN hK hd hp hI).cx, hc, hm, hb, .nil, hl, fun _ _ _ => by unfold dflTail; simp; exact .nil⟩
theorem liftSp_imp {G : Gc} {np : Nat} {con con' : Con} (h : ∀ as c K e, con' as c K e → con as c K e) {vs : List V} {H : Hp} {Q : VK} {E : XK} (z : liftSp G np con' vs H Q E) : liftSp G np con vs H Q E := by
  obtain ⟨h0, T, A, as, c, K, e, h1, h2, h3, h4, h5, h6, h7⟩ := z
  exact ⟨h0, T, A, as, c, K, e, h1, h2, h3, h4, h5, h _ _ _ _ h6, h7⟩
end
end PP

set_option Elab.async false
set_option linter.all false
set_option maxRecDepth 100000
set_option maxHeartbeats 4000000
namespace LamX
open PySem PySem.Spec PyProof.Rows L2
theorem law_callTg {P : Program} {w : World} {K : PySem.W.Frag} {mg mb : Str → Option Value} {CX : CXT} {k : Nat} {fa a : Addr} {cs : List (Addr × Addr)} {fd : FuncData} {x : Str} {sp : Sp} {s₁ : Shared} {vs : List Value} {ns : List Int}
    (KXX : K.In s₁.heap) (hns : s₁.heap.Ns mainGlobals mg) (hb : s₁.heap.Ns builtinsNs mb) (hbb : ∀ x : Str, x ≠ "__name__" → mb x = bootBuiltins x) (hlim : s₁.heap.NoLimit) (hg : s₁.gens = #[])
    (hTt : ∀ p ∈ cs, s₁.heap.get? p.2 = some { cls := .none, data := .fields #[] }) (nTt : ∀ p ∈ cs, K.lookup p.2 = none) (C : ∀ p ∈ cs, PySem.W.CodeHd s₁.heap p.1 p.2)
    (hbm : ∃ (bm : Addr) (ob : Obj), mg "__builtins__" = some (.ref bm) ∧ bm ≠ builtinsNs ∧ s₁.heap.get? bm = some ob ∧ ob.cls = .type "module" ∧ ob.dict = some builtinsNs ∧ ob.data = .plain)
    (ha : s₁.heap.get? a = some { cls := .type "list", data := .seq vs.toArray }) (hi : IntsAre vs ns) (hln : ns.length ≤ sizeLine) (hrm : RoomG k callerA)
    (F : ∀ base : Heap, K.In base → base.Ns mainGlobals mg → (∀ p ∈ cs, TabB base mg p.1 p.2) → FnOg P w K mg base CX k fa fd [x] sp) (hbind : ∀ (s : Shared) (u : Value), BindsTo s fd ⟨[u], []⟩ [(x, u)])
    (hsp : ∀ H : Hp, (∀ p ∈ cs, H p.2 = some (.tbl #[])) → SqL K H a (ns.map V.int) → sp [.ref a] H (fun v _ => v = .bl true) fun _ _ _ => False)
    (hCX : ∀ H e sz, CX [] H s₁ (fun _ _ _ => False) e sz → False) :
    codeAny (model P w) callerA (.call (.ref fa) ⟨[.ref a], []⟩) (fun r sz => r = .ok (.ret (.bool true)) ∧ OldK s₁.heap sz.heap ∧ sz.os = s₁.os ∧ AllBare sz.gens) s₁ := by
  have rvl := vals_ints hi
  have lenW := hi.length
  have isTb : ∀ b : Addr, b ∈ cs.map (·.2) → s₁.heap.get? b = some { cls := .none, data := .fields #[] } := fun b hb => by
    obtain ⟨p, hp, e⟩ := List.mem_map.mp hb
    rw [← e]
    exact hTt p hp
  have aTb : a ∉ cs.map (·.2) := fun z => by
    have qy := isTb a z
    rw [ha] at qy
    have z' : Data.seq vs.toArray _ = Data.fields #[] := congrArg Obj.data (Option.some.inj qy)
    cases z'
  have memTb : ∀ p ∈ cs, p.2 ∈ cs.map (·.2) := fun p hp => List.mem_map.mpr ⟨p, hp, rfl⟩
  have cor : ∀ H : Hp, (∀ p ∈ cs, H p.2 = some (.tbl #[])) → (∀ b, H b = none ∨ b ∈ cs.map (·.2) ∨ ∃ o xs, H b = some (.frz o (.lst xs))) → SqL K H a (ns.map V.int) → HOk P w H s₁.heap → (∀ b, H b ≠ none → b = a ∨ b ∈ cs.map (·.2)) → (H a ≠ none → K.lookup a = none) →
      codeAny (model P w) callerA (.call (.ref fa) ⟨[.ref a], []⟩) (fun r sz => r = .ok (.ret (.bool true)) ∧ OldK s₁.heap sz.heap ∧ sz.os = s₁.os ∧ AllBare sz.gens) s₁ := by
    intro H hH hOo hSs hokk hAa hK
    have baseOf : ∀ {b : Addr} {o : Obj}, s₁.heap.get? b = some o → H b = none → (hidT s₁.heap H).get? b = some o := fun e n => hidT_get e n
    have noDd : ∀ {b : Addr} {o : Obj}, s₁.heap.get? b = some o → (∀ vs n, o.data ≠ .seq vs n) → o.data ≠ .fields #[] → H b = none := fun {b o} e h1 h2 => by
      cases qy : H b with
      | none => rfl
      | some u =>
        rcases hAa b (by rw [qy]; simp) with ez' | ez'
        · rw [ez', ha] at e
          cases e
          exact (h1 _ _ rfl).elim
        · rw [isTb b ez'] at e
          cases e
          exact (h2 rfl).elim
    have noB : ∀ {b : Addr} {o : Obj} {es : Array DictEntry} {ep : Nat}, s₁.heap.get? b = some o → o.data = .dict es ep → H b = none := fun {b o es ep} e d => by
      refine noDd e (fun vs n z => ?_) fun z => ?_
      · rw [d] at z
        cases z
      · rw [d] at z
        cases z
    have nsL : ∀ {b : Addr} {m : Str → Option Value}, s₁.heap.Ns b m → (hidT s₁.heap H).Ns b m := fun {b m} ⟨o, es, ep, e, d, r⟩ => ⟨o, es, ep, baseOf e (noB e d), d, r⟩
    have hKbb : K.In (hidT s₁.heap H) := fun b o e => baseOf (KXX b o e) (by
      cases qy : H b with
      | none => rfl
      | some u =>
        rcases hAa b (by rw [qy]; simp) with ez' | ez'
        · rw [ez'] at e qy
          rw [hK (by rw [qy]; simp)] at e
          cases e
        · obtain ⟨p, hp, ep⟩ := List.mem_map.mp ez'
          rw [← ep, nTt p hp] at e
          cases e)
    have hMd : L2.Mod K mg (hidT s₁.heap H) := ⟨hKbb, nsL hns, ⟨mb, nsL hb, hbb⟩, let ⟨mc, h1, h2⟩ := hlim; ⟨mc, nsL h1, h2⟩⟩
    have TBs : ∀ p ∈ cs, TabB (hidT s₁.heap H) mg p.1 p.2 := fun p hp => by
      have hTp := hTt p hp
      refine ⟨?_, ?_, fun z => ?_⟩
      · obtain ⟨o, uz, file, tf, flags, tg, inF, text, tt, e1, r1, r2, r3, r4, r5, r6, r7, r8, hne⟩ := C p hp
        refine ⟨o, uz, file, tf, flags, tg, inF, text, tt, baseOf e1 (noDd e1 (fun vs n z => ?_) fun z => ?_), r1, r2, r3, r4, r5, r6, r7, r8, hne⟩
        · rw [r2] at z
          cases z
        · rw [r2] at z
          cases z
          simp at r3
      · obtain ⟨bm, ob, b1, b2, b3, b4, b5, b6⟩ := hbm
        have nG : bm ≠ mainGlobals := fun qy => by
          obtain ⟨o, es, ep, e, hd, _⟩ := hns
          rw [qy, e] at b3
          cases b3
          rw [hd] at b6
          cases b6
        have nP : bm ≠ p.2 := fun qy => by
          rw [qy, hTp] at b3
          cases b3
          cases b6
        refine ⟨bm, ob, b1, b2, nG, nP, baseOf b3 (noDd b3 (fun vs n z => ?_) fun z => ?_), b4, b5, b6⟩
        · rw [b6] at z
          cases z
        · rw [b6] at z
          cases z
      · obtain ⟨o, es, ep, e, hd, _⟩ := hns
        rw [z, hTp] at e
        cases e
        cases hd
    have ez : Env0 P w K mg (hidT s₁.heap H) callerA [] s₁ H := ⟨rfl, hMd, fun b o e => of_hidT e, Nat.le_of_eq (hidT_size _ _), trivial, fun b hb => absurd (show b ∈ ([] : List Addr) from hb) (by simp), hokk, .of_eq hg⟩
    refine codeAny_mono ((F _ hKbb (nsL hns) TBs).run callerA [] s₁ H ⟨[.ref a], []⟩ [.ref a] [.ref a] _ _ hrm ez (hbind s₁ (.ref a)) (.cons rfl .nil) (hsp H hH hSs)) fun r sz h => ?_
    cases r with
    | error e => exact (hCX H e sz h).elim
    | ok flw =>
      cases flw with
      | next => exact False.elim h
      | brk => exact False.elim h
      | cont => exact False.elim h
      | ret u =>
        obtain ⟨v, H', os, bare, unn, hokz, r', qy⟩ := h
        have q' : v = .bl true := qy
        subst q'
        obtain rfl : u = Value.bool true := r'
        have keyy : ∀ b o, b ∉ cs.map (·.2) → s₁.heap.get? b = some o → sz.heap.get? b = some o := fun b o nb e => by
          cases qy : H b with
          | none => exact unn.keep b o e qy (by intro z; exact absurd (show b ∈ ([] : List Addr) from z) (by simp)) (by simp)
          | some u =>
            rcases hOo b with z | z | ⟨ob, xs, z⟩
            · rw [qy] at z; cases z
            · exact absurd z nb
            · have zy := unn.frzs b ob _ z
              obtain ⟨e1, _⟩ := hokk b _ z
              obtain ⟨e2, _⟩ := hokz b _ zy
              rw [e] at e1; cases e1
              exact e2
        have grwn : ∀ p ∈ cs, ∃ more : Array Value, sz.heap.get? p.2 = some { cls := .none, data := .fields more } := fun p hp => by
          obtain ⟨more, z⟩ := unn.tbls p.2 #[] (hH p hp)
          exact ⟨_, hokz p.2 _ z⟩
        refine ⟨rfl, ⟨fun b o e => ?_, fun b o e => ?_⟩, os, bare⟩
        · by_cases hb : b ∈ cs.map (·.2)
          · obtain ⟨p, hp, ep⟩ := List.mem_map.mp hb
            obtain ⟨more, hm⟩ := grwn p hp
            rw [← ep] at e ⊢
            rw [hTt p hp] at e
            cases e
            exact .inr (.inl ⟨((C p hp).tab (hTt p hp)).isCodeTable, rfl, #[], more, rfl, by rw [Array.empty_append]; exact hm⟩)
          · exact .inl (keyy b o hb e)
        · by_cases hb : b ∈ cs.map (·.2)
          · obtain ⟨p, hp, ep⟩ := List.mem_map.mp hb
            obtain ⟨more, hm⟩ := grwn p hp
            rw [← ep]
            exact ⟨_, hm⟩
          · exact ⟨o, keyy b o hb e⟩
  cases hkk : K.lookup a with
  | some o =>
    have e := KXX a o hkk
    rw [ha] at e
    cases e
    refine cor (fun b => if b ∈ cs.map (·.2) then some (.tbl #[]) else none) (fun p hp => if_pos (memTb p hp)) (fun b => ?_) (.inr ⟨_, vs.toArray, _, hkk, rfl, rfl, rfl, by rw [List.size_toArray, lenW]; exact hln, by simpa using rvl⟩) (fun b u z => ?_) (fun b z => ?_) fun z => absurd (show (if a ∈ cs.map (·.2) then some (HO.tbl #[]) else none) = none from if_neg aTb) z
    · by_cases hb : b ∈ cs.map (·.2)
      · exact .inr (.inl hb)
      · exact .inl (if_neg hb)
    · by_cases hb : b ∈ cs.map (·.2)
      · have z' := (if_pos hb).symm.trans z
        cases z'
        exact isTb b hb
      · have z' := (if_neg hb).symm.trans z
        cases z'
    · by_cases hb : b ∈ cs.map (·.2)
      · exact .inr hb
      · exact absurd (if_neg hb) z
  | none =>
    refine cor (fun b => if b = a then some (.frz { cls := .type "list", data := .seq vs.toArray } (.lst (ns.map V.int))) else if b ∈ cs.map (·.2) then some (.tbl #[]) else none) (fun p hp => (if_neg (show ¬ p.2 = a from fun z => aTb (by rw [← z]; exact memTb p hp))).trans (if_pos (memTb p hp))) (fun b => ?_)
      (.inl (.inr ⟨{ cls := .type "list", data := .seq vs.toArray }, if_pos rfl⟩)) (fun b u z => ?_) (fun b z => ?_) fun _ => hkk
    · by_cases hb : b = a
      · exact .inr (.inr ⟨_, _, if_pos hb⟩)
      · by_cases hb2 : b ∈ cs.map (·.2)
        · exact .inr (.inl hb2)
        · exact .inl ((if_neg hb).trans (if_neg hb2))
    · by_cases hb : b = a
      · have z' := (if_pos hb).symm.trans z
        cases z'
        rw [hb]
        exact ⟨ha, by rw [List.length_map]; exact hln, vs, _, rvl, ha⟩
      · have z1 := (if_neg hb).symm.trans z
        by_cases hb2 : b ∈ cs.map (·.2)
        · have z' := (if_pos hb2).symm.trans z1
          cases z'
          exact isTb b hb2
        · have z' := (if_neg hb2).symm.trans z1
          cases z'
    · by_cases hb : b = a
      · exact .inl hb
      · by_cases hb2 : b ∈ cs.map (·.2)
        · exact .inr hb2
        · exact absurd ((if_neg hb).trans (if_neg hb2)) z
/-- a law's end over a head by facts, with the script's bits, with tables -/
theorem walk_ofET {l : PySem.W.OpenLaw} {n k : Nat} {q : Program} {loose : List Str} {XP : (Str → Option Value) → Heap → Prop} {YP : World → Heap → Prop} {d : DefRec} {CX : CXT} {x : Str}
    (hn : l.most = some n) (hz : n ≤ sizeLine) (hdf : d.params.defaults = []) (hr : RoomG k callerA)
    (F : ∀ (w : World) (mg : Str → Option Value) (fa : Addr) (h : Heap), YP w h → h.Ns mainGlobals mg → mg d.name = some (.ref fa) →
      ∃ (K : PySem.W.Frag) (fd : FuncData) (cs : List (Addr × Addr)) (sp : Sp), K.In h ∧ (∀ p ∈ cs, h.get? p.2 = some { cls := .none, data := .fields #[] }) ∧ (∀ p ∈ cs, K.lookup p.2 = none) ∧ (∀ p ∈ cs, PySem.W.CodeHd h p.1 p.2) ∧ (∀ (s : Shared) (u : Value), BindsTo s fd ⟨[u], []⟩ [(x, u)]) ∧
        (∀ (H : Hp) (a : Addr) (ns : List Int), ns.length ≤ n → (∀ z ∈ ns, Builtin.Int.intBits z ≤ 1048576) → (∀ p ∈ cs, H p.2 = some (.tbl #[])) → SqL K H a (ns.map V.int) → sp [.ref a] H (fun v _ => v = .bl true) fun _ _ _ => False) ∧
        ∀ base : Heap, K.In base → base.Ns mainGlobals mg → (∀ p ∈ cs, TabB base mg p.1 p.2) → FnOg l.prog w K mg base CX k fa fd [x] sp)
    (hCX : ∀ (H : Hp) (s : Shared) (e : Value) (s' : Shared), CX [] H s (fun _ _ _ => False) e s' → False) :
    PySem.W.WalkO q loose XP YP l.row.toRowW d [] (fun f vs => PySem.call f vs) := by
  refine Att.attach_callB hn hdf fun w sa sb mg mb fa o pm cd doc a vs ns G Y ho hd hcd hmg hobj hints hlen hbits hg => ?_
  obtain ⟨K, fd, cs, sp, KX, hT, nT, C, hb, hsp, hF⟩ := F w mg fa _ Y G.T.g hmg
  exact law_callTg KX G.T.g G.T.b G.T.builtins G.T.nolimit hg hT nT C G.T.bmain hobj hints (Nat.le_trans hlen hz) hr hF hb (fun H hH hS => hsp H a ns hlen hbits hH hS) fun H e s' => hCX H sb e s'
end LamX

set_option Elab.async false
set_option linter.all false
set_option maxRecDepth 100000
set_option maxHeartbeats 2000000
namespace PP
open PySem L2
def N_is_integer : List Str := ["thing"]
def c_is_integer : List Sx := [(.ret (.and (.isi (.var 0) [.b "int"]) (.not (.isi (.var 0) [.b "bool"]))))]
def N_is_list : List Str := ["thing"]
def c_is_list : List Sx := [(.ret (.isi (.var 0) [.b "list", .b "tuple"]))]
def N_is_mark : List Str := ["thing", "sign"]
def c_is_mark : List Sx := [(.ret (.and (.isi (.var 0) [.b "str"]) (.and (.cmp2 .le .le (.int 1) (.bi .len [(.var 0)]) (.cst "LONGEST")) (.bi .all [(.lc (.var 0) (.one 1) [] (.cmp .isin (.var 1) (.cst "LETTERS")))]))))]
def N_is_count : List Str := ["thing"]
def c_is_count : List Sx := [(.ret (.and (.call "is_integer" [(.var 0)] 0) (.cmp .gt (.var 0) (.int 0))))]
def N_deed_of : List Str := ["thing", "word"]
def c_deed_of : List Sx := [(.ite (.or (.not (.call "is_list" [(.var 0)] 0)) (.or (.cmp .eq (.bi .len [(.var 0)]) (.int 0)) (.not (.isi (.idx (.var 0) (.int 0)) [.b "str"])))) [(.ret .non)] []), (.asg 1 (.idx (.var 0) (.int 0))), (.ite (.and (.cmp .eq (.var 1) (.str "open")) (.and (.cmp .eq (.bi .len [(.var 0)]) (.int 3)) (.and (.call "is_mark" [(.idx (.var 0) (.int 1))] 0) (.call "is_count" [(.idx (.var 0) (.int 2))] 0)))) [(.ret (.bi .tuple [(.var 0)]))] []), (.ite (.and (.cmp .isin (.var 1) (.tup [(.str "days"), (.str "pause")])) (.and (.cmp .eq (.bi .len [(.var 0)]) (.int 2)) (.call "is_count" [(.idx (.var 0) (.int 1))] 0))) [(.ret (.bi .tuple [(.var 0)]))] []), (.ite (.and (.cmp .eq (.var 1) (.str "back")) (.and (.cmp .eq (.bi .len [(.var 0)]) (.int 2)) (.call "is_mark" [(.idx (.var 0) (.int 1))] 0))) [(.ret (.bi .tuple [(.var 0)]))] []), (.ret .non)]
def N_checked_row : List Str := ["row", "found", "opened", "counting", "index", "thing", "deed"]
def c_checked_row : List Sx := [(.ite (.not (.call "is_list" [(.var 0)] 0)) [.never] []), (.par [1, 2, 3] [(.lst []), (.lst []), (.lst [])]), (.for_ (.tup [(.one 4), (.one 5)]) (.bi .enum [(.var 0)]) [(.asg 6 (.call "deed_of" [(.var 5)] 0)), (.ite (.cmp .isn (.var 6) .non) [.never] []), (.ite (.cmp .eq (.idx (.var 6) (.int 0)) (.str "open")) [(.ite (.cmp .isin (.idx (.var 6) (.int 1)) (.var 2)) [.never] []), (.app 2 (.idx (.var 6) (.int 1))), (.app 3 (.idx (.var 6) (.int 1)))] []), (.ite (.cmp .eq (.idx (.var 6) (.int 0)) (.str "back")) [(.ite (.cmp .notin (.idx (.var 6) (.int 1)) (.var 3)) [.never] []), (.rem 3 (.idx (.var 6) (.int 1)))] []), (.app 1 (.var 6))]), (.ret (.var 1))]
def N__law_pick : List Str := ["_law_stream", "_law_things"]
def c__law_pick : List Sx := [(.ret (.idx (.var 1) (.call "_law_draw" [(.var 0), (.bi .len [(.var 1)])] 0)))]
def N__law_fresh : List Str := ["_law_stream", "_law_known", "_law_name", "_law_k", "_law_letters", "_law_words", "_law_spare"]
def c__law_fresh : List Sx := [(.asgT (.tup [(.one 4), (.one 5)]) (.tup [(.str "abcdefghijklmnopqrstuvwxyz"), (.lst [(.str "open"), (.str "days"), (.str "pause"), (.str "back"), (.str "most"), (.str "bar"), (.str "set")])])), (.asg 2 (.join (.str "") (.lc (.bi .range [(.idx (.lst [(.int 1), (.int 1), (.int 1), (.int 2), (.int 4), (.int 8)]) (.call "_law_draw" [(.var 0), (.int 6)] 0))]) (.one 3) [] (.idx (.var 4) (.call "_law_draw" [(.var 0), (.int 26)] 0))))), (.asg 2 (.ite (.cmp .eq (.call "_law_draw" [(.var 0), (.int 9)] 0) (.int 0)) (.call "_law_pick" [(.var 0), (.var 5)] 0) (.var 2))), (.for_ (.one 3) (.bi .range [(.bin .mul (.int 676) (.bi .int [(.cmp .isin (.var 2) (.var 1))]))]) [(.asg 6 (.bin .add (.bin .add (.str "q") (.idx (.var 4) (.bin .fdiv (.var 3) (.int 26)))) (.idx (.var 4) (.bin .mod (.var 3) (.int 26))))), (.ite (.cmp .notin (.var 6) (.var 1)) [(.ret (.var 6))] [])]), (.ret (.var 2))]
def N__law_pool : List Str := ["_law_stream", "_law_many", "_law_found", "_law_k"]
def c__law_pool : List Sx := [(.asg 2 (.lst [])), (.for_ (.one 3) (.bi .range [(.var 1)]) [(.app 2 (.call "_law_fresh" [(.var 0), (.var 2)] 0))]), (.ret (.var 2))]
def N__law_between : List Str := ["_law_stream", "_law_begun", "_law_wide", "_law_found", "_law_k", "_law_way"]
def c__law_between : List Sx := [(.asg 3 (.lst [])), (.for_ (.one 4) (.bi .range [(.call "_law_draw" [(.var 0), (.int 3)] 0)]) [(.asg 5 (.call "_law_draw" [(.var 0), (.int 10)] 0)), (.ite (.cmp .lt (.var 5) (.int 6)) [(.app 3 (.tup [(.str "days"), (.bin .add (.int 1) (.call "_law_draw" [(.var 0), (.var 2)] 0))]))] [(.ite (.cmp .lt (.var 5) (.int 8)) [(.app 3 (.tup [(.str "pause"), (.bin .add (.int 1) (.call "_law_draw" [(.var 0), (.int 9)] 0))]))] [(.ite (.and (.cmp .eq (.var 5) (.int 8)) (.cmp .ne (.var 1) (.lst []))) [(.app 3 (.tup [(.str "back"), (.pop 1 (some (.call "_law_draw" [(.var 0), (.bi .len [(.var 1)])] 0)))]))] [])])])]), (.ret (.var 3))]
def N__law_row : List Str := ["_law_stream", "_law_pool_here", "_law_wide", "_law_mark", "_law_row_here", "_law_begun"]
def c__law_row : List Sx := [(.par [4, 5] [(.lst []), (.lst [])]), (.for_ (.one 3) (.var 1) [(.ext 4 (.io "_law_between" [(.var 0), (.var 5), (.var 2)])), (.app 4 (.tup [(.str "open"), (.var 3), (.bin .add (.int 1) (.call "_law_draw" [(.var 0), (.var 2)] 0))])), (.app 5 (.var 3))]), (.ret (.bin .add (.var 4) (.io "_law_between" [(.var 0), (.var 5), (.var 2)])))]
def N_is_number_text : List Str := ["text", "sign"]
def c_is_number_text : List Sx := [(.ret (.and (.cmp .ne (.var 0) (.str "")) (.and (.cmp .ne (.idx (.var 0) (.int 0)) (.str "0")) (.bi .all [(.lc (.var 0) (.one 1) [] (.cmp .isin (.var 1) (.cst "DIGITS")))]))))]
def N_checked_lines : List Str := ["text", "lines"]
def c_checked_lines : List Sx := [(.asg 1 (.split (.var 0) (.str "\n"))), (.ite (.cmp .ne (.idx (.var 1) (.neg (.int 1))) (.str "")) [(.ret (.tup [(.var 1), (.bin .sub (.bi .len [(.var 1)]) (.int 1))]))] []), (.ret (.tup [(.sli (.var 1) none (some (.neg (.int 1)))), .non]))]
def N_deed_in : List Str := ["line", "words"]
def c_deed_in : List Sx := [(.asg 1 (.split (.var 0) (.str " "))), (.ite (.and (.cmp .eq (.bi .len [(.var 1)]) (.int 3)) (.and (.cmp .eq (.idx (.var 1) (.int 0)) (.str "open")) (.and (.call "is_mark" [(.idx (.var 1) (.int 1))] 0) (.call "is_number_text" [(.idx (.var 1) (.int 2))] 0)))) [(.ret (.tup [(.str "open"), (.idx (.var 1) (.int 1)), (.bi .int [(.idx (.var 1) (.int 2))])]))] []), (.ite (.and (.cmp .eq (.bi .len [(.var 1)]) (.int 2)) (.and (.cmp .isin (.idx (.var 1) (.int 0)) (.tup [(.str "days"), (.str "pause")])) (.call "is_number_text" [(.idx (.var 1) (.int 1))] 0))) [(.ret (.tup [(.idx (.var 1) (.int 0)), (.bi .int [(.idx (.var 1) (.int 1))])]))] []), (.ite (.and (.cmp .eq (.bi .len [(.var 1)]) (.int 2)) (.and (.cmp .eq (.idx (.var 1) (.int 0)) (.str "back")) (.call "is_mark" [(.idx (.var 1) (.int 1))] 0))) [(.ret (.tup [(.str "back"), (.idx (.var 1) (.int 1))]))] []), (.ret .non)]
def N_Account_marks : List Str := ["self"]
def c_Account_marks : List Sx := [(.ret (.bi .list [(.att "Account" (.var 0) "given")]))]
def N_Account_days : List Str := ["self", "mark"]
def c_Account_days : List Sx := [(.ex (.call "check_mark" [(.var 1), (.att "Account" (.var 0) "given")] 0)), (.ret (.idx (.att "Account" (.var 0) "given") (.var 1)))]
def N_Account_gone : List Str := ["self", "mark"]
def c_Account_gone : List Sx := [(.ex (.call "check_mark" [(.var 1), (.att "Account" (.var 0) "since")] 0)), (.ret (.idx (.att "Account" (.var 0) "since") (.var 1)))]
def N_check_mark : List Str := ["mark", "known"]
def c_check_mark : List Sx := [(.ite (.or (.not (.isi (.var 0) [.b "str"])) (.cmp .notin (.var 0) (.var 1))) [.never] [])]
def N_checked_marks : List Str := ["marks", "known", "found", "thing"]
def c_checked_marks : List Sx := [(.ite (.cmp .isn (.var 0) .non) [(.ret (.bi .list [(.var 1)]))] []), (.asg 2 (.lst [])), (.for_ (.one 3) (.var 0) [(.ex (.call "check_mark" [(.var 3), (.var 1)] 0)), (.ite (.cmp .isin (.var 3) (.var 2)) [.never] []), (.app 2 (.var 3))]), (.ret (.var 2))]
def N_left : List Str := ["account", "marks"]
def c_left : List Sx := [(.ret (.call "left_of" [(.var 0), (.call "checked_marks" [(.var 1), (.mth "Account" (.var 0) "marks" [] 0)] 0)] 0))]
def N__law_counting : List Str := ["_law_row_here", "_law_gone", "_law_deed"]
def c__law_counting : List Sx := [(.asg 1 (.lc (.var 0) (.one 2) [(.cmp .eq (.idx (.var 2) (.int 0)) (.str "back"))] (.idx (.var 2) (.int 1)))), (.ret (.lc (.var 0) (.one 2) [(.and (.cmp .eq (.idx (.var 2) (.int 0)) (.str "open")) (.cmp .notin (.idx (.var 2) (.int 1)) (.var 1)))] (.idx (.var 2) (.int 1))))]
def N__law_sets : List Str := ["_law_marks", "_law_found", "_law_mark", "_law_one"]
def c__law_sets : List Sx := [(.asg 1 (.lst [(.tup [])])), (.for_ (.one 2) (.bi .sorted [(.var 0)]) [(.asg 1 (.bin .add (.var 1) (.lc (.var 1) (.one 3) [] (.bin .add (.var 3) (.tup [(.var 2)])))))]), (.ret (.lc (.bi .sorted [(.lc (.var 1) (.one 3) [] (.bin .add (.lst [(.bi .len [(.var 3)])]) (.bi .list [(.var 3)])))]) (.one 3) [] (.bi .tuple [(.sli (.var 3) (some (.int 1)) none)])))]
def N_left_of : List Str := ["account", "some", "mark", "most", "total"]
def c_left_of : List Sx := [(.asgT (.tup [(.one 3), (.one 4)]) (.tup [(.int 0), (.int 0)])), (.for_ (.one 2) (.rev (.mth "Account" (.var 0) "marks" [] 0)) [(.ite (.cmp .isin (.var 2) (.var 1)) [(.asg 4 (.bin .add (.var 4) (.mth "Account" (.var 0) "days" [(.var 2)] 0))), (.asg 3 (.bi .max2 [(.var 3), (.bin .sub (.var 4) (.mth "Account" (.var 0) "gone" [(.var 2)] 0))]))] [])]), (.ret (.var 3))]
end PP

set_option Elab.async false
set_option linter.all false
set_option maxRecDepth 100000
set_option maxHeartbeats 2000000
namespace PP
open PySem L2
/-! ### the shared defs over plain data -/
def isIntD : D → Bool
  | .int _ => true
  | _ => false
def isListD : D → Bool
  | .lst _ => true
  | .tup _ => true
  | .kt _ => true
  | _ => false
def conIsInt : Con := fun as c K _ => ∃ d, as = [some d] ∧ bltTy (tyD d) = true ∧ K (.fz (.bl (isIntD d))) c
def conIsList : Con := fun as c K _ => ∃ d, as = [some d] ∧ bltTy (tyD d) = true ∧ K (.fz (.bl (isListD d))) c
theorem p_is_integer {Γ : Env} : Impl Γ 1 conIsInt c_is_integer := by
  intro as c K h
  obtain ⟨d, rfl, hd, hk⟩ := h
  have hb : bltTy (tyD d) = true ∧ [Ty.b "int"].all bltTy = true := ⟨hd, rfl⟩
  have hb2 : bltTy (tyD d) = true ∧ [Ty.b "bool"].all bltTy = true := ⟨hd, rfl⟩
  cases d with
  | int i => exact And.intro hb (And.intro hb2 (And.intro trivial hk))
  | bl b => exact And.intro hb (And.intro hb2 (And.intro trivial hk))
  | _ => first | exact And.intro hb hk | exact absurd hd (by decide)
theorem p_is_list {Γ : Env} : Impl Γ 1 conIsList c_is_list := by
  intro as c K h
  obtain ⟨d, rfl, hd, hk⟩ := h
  cases d with
  | obj c fs => cases hd
  | dctT _ => cases hd
  | _ => exact And.intro ⟨hd, rfl⟩ hk
end PP

set_option Elab.async false
set_option linter.all false
set_option maxRecDepth 100000
set_option maxHeartbeats 2000000
namespace PP
open PySem L2
/-! ### loops, by induction -/
theorem for_ind {tg : Tg} {body : QS} {n : En} (W : List D → S → Prop) (h0 : ∀ s, W [] s → n.nx s) (hs : ∀ x xs s, W (x :: xs) s → (∀ s', W xs s' → forGo tg body xs n s') → forGo tg body (x :: xs) n s) : ∀ xs s, W xs s → forGo tg body xs n s
  | [], s, h => h0 s h
  | x :: xs, s, h => hs x xs s h (for_ind W h0 hs xs)
theorem lc_ind {α : Type} {tg : Tg} {test : M Bool} {elt : M α} {k : List α → S → Prop} {e : XC} (W : List D → List α → S → Prop) (h0 : ∀ acc s, W [] acc s → k acc s)
    (hs : ∀ x xs acc s, W (x :: xs) acc s → (∀ acc' s', W xs acc' s' → lcGo tg test elt xs acc' s' k e) → lcGo tg test elt (x :: xs) acc s k e) : ∀ xs acc s, W xs acc s → lcGo tg test elt xs acc s k e
  | [], acc, s, h => h0 acc s h
  | x :: xs, acc, s, h => hs x xs acc s h (lc_ind W h0 hs xs)
/-! ### basics -/
def isCountD : D → Bool
  | .int i => decide (0 < i)
  | _ => false
def conIsCount : Con := fun as c K _ => ∃ d, as = [some d] ∧ bltTy (tyD d) = true ∧ K (.fz (.bl (isCountD d))) c
theorem p_is_count {Γ : Env} (h1 : Γ.fn "is_integer" = some (.pl conIsInt true [])) : Impl Γ 1 conIsCount c_is_count := by
  intro as c K h
  obtain ⟨d, rfl, hd, hk⟩ := h
  conv => whnf
  rw [h1]
  conv => whnf
  refine ⟨d, rfl, hd, fun _ => rfl, ?_⟩
  cases d with
  | int i => exact hk
  | _ => exact hk
def inLet (c : Nat) : Bool := decide (c ∈ letters.cps.toList)
def isMarkD : D → Bool
  | .str x => decide (1 ≤ x.length) && (decide (x.length ≤ 8) && x.cps.toList.all inLet)
  | _ => false
def conIsMark : Con := fun as c K _ => ∃ d, as = [some d] ∧ bltTy (tyD d) = true ∧ (∀ x, d = .str x → x.length ≤ sizeLine) ∧ K (.fz (.bl (isMarkD d))) c
theorem asBls_map : ∀ l : List Bool, asBls (l.map D.bl) = some l
  | [] => rfl
  | b :: l => by rw [List.map_cons, asBls, asBls_map l]; rfl
theorem p_is_mark {Γ : Env} (h1 : Γ.cst "LONGEST" = some (.int 8)) (h2 : Γ.cst "LETTERS" = some (.str letters)) : Impl Γ 2 conIsMark c_is_mark := by
  intro as c K h
  obtain ⟨d, rfl, hd, hl, hk⟩ := h
  cases d with
  | str x =>
    have hx := hl x rfl
    refine And.intro ⟨hd, rfl⟩ ?_
    conv => whnf
    refine And.intro hx ?_
    conv => whnf
    have e1 : decide ((1 : Int) ≤ (x.length : Int)) = decide (1 ≤ x.length) := decide_eq_decide.mpr (by omega)
    have e2 : decide ((x.length : Int) ≤ 8) = decide (x.length ≤ 8) := decide_eq_decide.mpr (by omega)
    rw [e1]
    cases q1 : decide (1 ≤ x.length) with
    | false => simp only [isMarkD, q1, Bool.false_and] at hk; exact hk
    | true =>
      conv => whnf
      rw [h1]
      conv => whnf
      rw [e2]
      cases q2 : decide (x.length ≤ 8) with
      | false => simp only [isMarkD, q1, q2, Bool.false_and, Bool.and_false] at hk; exact hk
      | true =>
        refine And.intro hx ?_
        simp only [isMarkD, q1, q2, Bool.true_and] at hk
        refine lc_ind (α := D) (W := fun xs acc s => ∃ (l1 l2 : List Nat) (o : Option P), xs = l2.map (fun c => D.str ⟨#[c]⟩) ∧ acc = (l1.map inLet).map D.bl ∧ l1 ++ l2 = x.cps.toList ∧ isIo o = false ∧ s = ⟨[some (.fz (.str x)), o], c⟩) (fun acc s h => ?_) (fun y xs acc s h ih => ?_) _ _ _ ⟨[], x.cps.toList, none, rfl, rfl, rfl, rfl, rfl⟩
        · obtain ⟨l1, l2, o, e, rfl, e3, ho, rfl⟩ := h
          cases l2 with
          | cons _ _ => cases e
          | nil =>
            rw [List.append_nil] at e3
            subst e3
            refine And.intro ?_ ?_
            · show (!isIo o && true) = true
              rw [ho]; rfl
            conv => whnf
            rw [asBls_map]
            conv => whnf
            have e4 : (x.cps.toList.map inLet).all id = x.cps.toList.all inLet := by rw [List.all_map]; rfl
            rw [e4]
            exact hk
        · obtain ⟨l1, l2, o, e, rfl, e3, ho, rfl⟩ := h
          cases l2 with
          | nil => cases e
          | cons z l2 =>
            cases e
            refine And.intro (show (!isIo o && true) = true by rw [ho]; rfl) ?_
            refine And.intro rfl ?_
            conv => whnf
            rw [h2]
            conv => whnf
            exact ih _ _ ⟨l1 ++ [z], l2, some (.fz (.str ⟨#[z]⟩)), rfl, by rw [List.map_append, List.map_append]; rfl, by rw [← e3]; simp, rfl, rfl⟩
  | obj c fs => cases hd
  | dctT _ => cases hd
  | _ => exact And.intro ⟨hd, rfl⟩ hk
end PP

set_option Elab.async false
set_option linter.all false
set_option maxRecDepth 100000
set_option maxHeartbeats 2000000
namespace PP
open PySem L2
/-! ### accounts' methods -/
def acOf (row : List Deed) : Ac := ac0.run row
def marksOf (row : List Deed) : List Str := (acOf row).given.map (·.1)
def conMarks : Con := fun as c K _ => ∃ row, as = [some (accD row)] ∧ K (.nl ((marksOf row).map D.str)) c
theorem dI_keys (l : List (Str × Int)) : (dI l).map (fun kv => keyD kv.1) = (l.map (·.1)).map D.str := by
  unfold dI
  rw [List.map_map, List.map_map]; rfl
theorem p_marks {Γ : Env} : Impl Γ 1 conMarks c_Account_marks := by
  intro as c K h
  obtain ⟨row, rfl, hk⟩ := h
  conv => whnf
  refine And.intro rfl ?_
  conv => whnf
  rw [dI_keys]
  exact hk
def lookI (l : List (Str × Int)) (m : Str) : Option Int := (l.find? fun p => decide (p.1 = m)).map (·.2)
theorem look_dI (l : List (Str × Int)) (m : Str) : look (dI l) (.inr m) = (lookI l m).map D.int := by
  unfold look lookI dI
  induction l with
  | nil => rfl
  | cons p l ih =>
    rw [List.map_cons]
    by_cases e : p.1 = m
    · subst e; simp
    · have e1 : ¬ (Sum.inr p.1 : Key) = Sum.inr m := fun q => e (Sum.inr.inj q)
      rw [List.find?_cons_of_neg (by simpa using e1), List.find?_cons_of_neg (by simpa using e)]
      exact ih
theorem lookI_some {l : List (Str × Int)} {m : Str} (h : m ∈ l.map (·.1)) : ∃ n, lookI l m = some n := by
  induction l with
  | nil => cases h
  | cons p l ih =>
    unfold lookI
    by_cases e : p.1 = m
    · exact ⟨p.2, by simp [e]⟩
    · obtain ⟨n, hn⟩ := ih (by rcases List.mem_cons.mp h with q | q; exact absurd q.symm e; exact q)
      exact ⟨n, by rw [List.find?_cons_of_neg (by simpa using e)]; exact hn⟩
/-- m stands in what is known -/
def hasM (m : Str) : D → Prop
  | .dct kvs => (look kvs (.inr m)).isSome = true
  | .lst xs => xs.all isScalar = true ∧ inD (.str m) xs = true
  | .tup xs => xs.all isScalar = true ∧ inD (.str m) xs = true
  | _ => False
def conCheckMark : Con := fun as c K _ => ∃ m known, as = [some (.str m), some known] ∧ hasM m known ∧ K (.fz .non) c
theorem p_check_mark {Γ : Env} : Impl Γ 2 conCheckMark c_check_mark := by
  intro as c K h
  obtain ⟨m, known, rfl, hm, hk⟩ := h
  refine And.intro ⟨rfl, rfl⟩ ?_
  refine And.intro trivial ?_
  cases known with
  | dct kvs =>
    conv => whnf
    refine And.intro trivial ?_
    conv => whnf
    rw [show (look kvs (.inr m)).isSome = true from hm]
    exact hk
  | lst xs =>
    conv => whnf
    refine And.intro ⟨rfl, hm.1⟩ ?_
    refine And.intro trivial ?_
    conv => whnf
    rw [hm.2]
    exact hk
  | tup xs =>
    conv => whnf
    refine And.intro ⟨rfl, hm.1⟩ ?_
    refine And.intro trivial ?_
    conv => whnf
    rw [hm.2]
    exact hk
  | _ => exact hm.elim
def conDays : Con := fun as c K _ => ∃ row m n, as = [some (accD row), some (.str m)] ∧ lookI (acOf row).given m = some n ∧ K (.fz (.int n)) c
def conGone : Con := fun as c K _ => ∃ row m n, as = [some (accD row), some (.str m)] ∧ lookI (acOf row).since m = some n ∧ K (.fz (.int n)) c
theorem p_days {Γ : Env} (h1 : Γ.fn "check_mark" = some (.pl conCheckMark true [])) : Impl Γ 2 conDays c_Account_days := by
  intro as c K h
  obtain ⟨row, m, n, rfl, hn, hk⟩ := h
  have hl : look (dI (acOf row).given) (.inr m) = some (.int n) := by rw [look_dI, hn]; rfl
  conv => whnf
  rw [h1]
  conv => whnf
  refine And.intro rfl ?_
  conv => whnf
  refine ⟨m, _, rfl, show (look (dI (acOf row).given) (.inr m)).isSome = true by rw [hl]; rfl, fun _ => rfl, ?_⟩
  conv => whnf
  refine And.intro rfl ?_
  conv => whnf
  rw [show look (dI (Ac.run ⟨[], []⟩ row).given) (.inr m) = some (.int n) from hl]
  exact hk
theorem p_gone {Γ : Env} (h1 : Γ.fn "check_mark" = some (.pl conCheckMark true [])) : Impl Γ 2 conGone c_Account_gone := by
  intro as c K h
  obtain ⟨row, m, n, rfl, hn, hk⟩ := h
  have hl : look (dI (acOf row).since) (.inr m) = some (.int n) := by rw [look_dI, hn]; rfl
  conv => whnf
  rw [h1]
  conv => whnf
  refine And.intro rfl ?_
  conv => whnf
  refine ⟨m, _, rfl, show (look (dI (acOf row).since) (.inr m)).isSome = true by rw [hl]; rfl, fun _ => rfl, ?_⟩
  conv => whnf
  refine And.intro rfl ?_
  conv => whnf
  rw [show look (dI (Ac.run ⟨[], []⟩ row).since) (.inr m) = some (.int n) from hl]
  exact hk
/-! ### marks that are checked -/
theorem inD_strs (m : Str) (ms : List Str) : inD (.str m) (ms.map D.str) = decide (m ∈ ms) := by
  unfold inD
  induction ms with
  | nil => rfl
  | cons x ms ih =>
    rw [List.map_cons, List.any_cons, ih]
    by_cases e : x = m
    · subst e
      have q : eqV (toV (.str x)) (toV (.str x)) = true := by simp [toV, eqV]
      rw [q]; simp
    · have q : eqV (toV (.str x)) (toV (.str m)) = false := by simp [toV, eqV, e]
      rw [q]
      simp
      exact fun h => absurd h.symm e
theorem strs_scal (ms : List Str) : (ms.map D.str).all isScalar = true := by
  rw [List.all_map, List.all_eq_true]
  intro x _; rfl
/-- marks: None, or a list or tuple of known ones, each once -/
def conCheckedMarks : Con := fun as c K _ => ∃ (ms known : List Str) (d : D), as = [some d, some (.lst (known.map D.str))] ∧ ((d = .non ∧ ms = known) ∨ ((d = .lst (ms.map D.str) ∨ d = .tup (ms.map D.str)) ∧ ms.Nodup ∧ (∀ m ∈ ms, m ∈ known))) ∧ ms.length ≤ 100000 ∧ ∀ r : R, r.d = .lst (ms.map D.str) → K r c
theorem p_checked_marks {Γ : Env} (h1 : Γ.fn "check_mark" = some (.pl conCheckMark true [])) : Impl Γ 4 conCheckedMarks c_checked_marks := by
  intro as c K h
  obtain ⟨ms, known, d, rfl, hd, hlen, hk⟩ := h
  rcases hd with ⟨rfl, rfl⟩ | ⟨hd, nd, hin⟩
  · exact And.intro trivial (hk (.nl (ms.map D.str)) rfl)
  · have go : ∀ (l1 l2 : List Str) (o : Option P) (n : En), (∀ o, n.nx ⟨[some (.fz d), some (.fz (.lst (known.map D.str))), some (.own (ms.map D.str)), o], c⟩) → l1 ++ l2 = ms → isIo o = false →
        forGo (.one 3) (exSs Γ [(.ex (.call "check_mark" [(.var 3), (.var 1)] 0)), (.ite (.cmp .isin (.var 3) (.var 2)) [.never] []), (.app 2 (.var 3))]) (l2.map D.str) n ⟨[some (.fz d), some (.fz (.lst (known.map D.str))), some (.own (l1.map D.str)), o], c⟩ := by
      intro l1 l2
      induction l2 generalizing l1 with
      | nil =>
        intro o n hn e3 ho
        rw [List.append_nil] at e3
        rw [e3]
        exact hn o
      | cons y l2 ih =>
        intro o n hn e3 ho
        have hy : y ∈ ms := by rw [← e3]; simp
        have hny : y ∉ l1 := fun q => by
          rw [← e3, List.nodup_append] at nd
          exact nd.2.2 y q y (by simp) rfl
        refine And.intro ho ?_
        conv => whnf
        rw [h1]
        conv => whnf
        refine ⟨y, _, rfl, ⟨strs_scal _, by rw [inD_strs]; exact decide_eq_true (hin y hy)⟩, fun _ => rfl, ?_⟩
        conv => whnf
        refine And.intro ⟨rfl, strs_scal _⟩ ?_
        refine And.intro trivial ?_
        conv => whnf
        rw [inD_strs, decide_eq_false hny]
        conv => whnf
        refine And.intro ?_ ?_
        · rw [List.length_map]
          have : l1.length < ms.length := by rw [← e3]; simp
          exact Nat.lt_of_lt_of_le this (Nat.le_trans hlen (by decide))
        have q := ih (l1 ++ [y]) (some (.fz (.str y))) n hn (by rw [← e3]; simp) rfl
        rw [List.map_append] at q
        exact q
    rcases hd with rfl | rfl
    · refine And.intro trivial ?_
      refine And.intro (by decide) ?_
      refine And.intro rfl ?_
      exact go [] ms none _ (fun o => hk (.fz (.lst (ms.map D.str))) rfl) rfl rfl
    · refine And.intro trivial ?_
      refine And.intro (by decide) ?_
      refine And.intro rfl ?_
      exact go [] ms none _ (fun o => hk (.fz (.lst (ms.map D.str))) rfl) rfl rfl
end PP

set_option Elab.async false
set_option linter.all false
set_option maxRecDepth 100000
set_option maxHeartbeats 2000000
namespace PP
open PySem L2
/-! ### what is left -/
/-- total and greatest, from the last opened one back -/
def lft (P : Str → Bool) : List (Str × Int × Int) → Int × Int
  | [] => (0, 0)
  | z :: zs => if P z.1 then ((lft P zs).1 + z.2.1, max (lft P zs).2 ((lft P zs).1 + z.2.1 - z.2.2)) else lft P zs
def Ac.zs (a : Ac) : List (Str × Int × Int) := List.zipWith (fun p q => (p.1, p.2, q.2)) a.given a.since
theorem zip_given : ∀ {g s : List (Str × Int)}, s.map (·.1) = g.map (·.1) → (List.zipWith (fun (p q : Str × Int) => (p.1, p.2, q.2)) g s).map (fun z => (z.1, z.2.1)) = g ∧ (List.zipWith (fun (p q : Str × Int) => (p.1, p.2, q.2)) g s).map (fun z => (z.1, z.2.2)) = s
  | [], [], _ => ⟨rfl, rfl⟩
  | [], _ :: _, h => nomatch h
  | _ :: _, [], h => nomatch h
  | p :: g, q :: s, h => by
    rw [List.map_cons, List.map_cons, List.cons.injEq] at h
    obtain ⟨a, b⟩ := zip_given h.2
    rw [List.zipWith_cons_cons, List.map_cons, List.map_cons, a, b]
    refine ⟨rfl, ?_⟩
    show (p.1, q.2) :: s = q :: s
    rw [← h.1]
theorem lookI_mem {l : List (Str × Int)} {m : Str} {n : Int} (nd : (l.map (·.1)).Nodup) (h : (m, n) ∈ l) : lookI l m = some n := by
  induction l with
  | nil => cases h
  | cons p l ih =>
    unfold lookI
    rw [List.map_cons, List.nodup_cons] at nd
    rcases List.mem_cons.mp h with e | h
    · subst e; simp
    · have e : ¬ p.1 = m := fun e => nd.1 (by rw [e]; exact List.mem_map.mpr ⟨_, h, rfl⟩)
      rw [List.find?_cons_of_neg (by simpa using e)]
      exact ih nd.2 h
def leftV (row : List Deed) (ms : List Str) : Int := (lft (fun m => decide (m ∈ ms)) (acOf row).zs).2
def conLeftOf : Con := fun as c K _ => ∃ row ms, as = [some (accD row), some (.lst (ms.map D.str))] ∧ (acOf row).good ∧ K (.fz (.int (leftV row ms))) c
theorem max2_eq (i j : Int) : (if j > i then j else i) = max i j := by omega
theorem p_left_of {Γ : Env} (h1 : Γ.mth "Account" "marks" = some (.pl conMarks false [])) (h2 : Γ.mth "Account" "days" = some (.pl conDays false [])) (h3 : Γ.mth "Account" "gone" = some (.pl conGone false [])) : Impl Γ 5 conLeftOf c_left_of := by
  intro as c K h
  obtain ⟨row, ms, rfl, gd, hk⟩ := h
  obtain ⟨eg, es⟩ := zip_given gd.keys
  have go : ∀ (rp post : List (Str × Int × Int)) (o : Option P) (n : En), (∀ o t, n.nx ⟨[some (.fz (accD row)), some (.fz (.lst (ms.map D.str))), o, some (.fz (.int (leftV row ms))), t], c⟩) → rp.reverse ++ post = (acOf row).zs → isIo o = false →
      forGo (.one 2) (exSs Γ [(.ite (.cmp .isin (.var 2) (.var 1)) [(.asg 4 (.bin .add (.var 4) (.mth "Account" (.var 0) "days" [(.var 2)] 0))), (.asg 3 (.bi .max2 [(.var 3), (.bin .sub (.var 4) (.mth "Account" (.var 0) "gone" [(.var 2)] 0))]))] [])]) (rp.map fun z => D.str z.1) n
        ⟨[some (.fz (accD row)), some (.fz (.lst (ms.map D.str))), o, some (.fz (.int (lft (fun m => decide (m ∈ ms)) post).2)), some (.fz (.int (lft (fun m => decide (m ∈ ms)) post).1))], c⟩ := by
    intro rp
    induction rp with
    | nil =>
      intro post o n hn e ho
      rw [List.reverse_nil, List.nil_append] at e
      subst e
      exact hn o _
    | cons z rp ih =>
      intro post o n hn e ho
      have hz : z ∈ (acOf row).zs := by rw [← e]; simp
      have hd : lookI (acOf row).given z.1 = some z.2.1 := lookI_mem gd.nodup (by
        show (z.1, z.2.1) ∈ (acOf row).given
        rw [← eg]; exact List.mem_map.mpr ⟨z, hz, rfl⟩)
      have hg : lookI (acOf row).since z.1 = some z.2.2 := lookI_mem (by rw [gd.keys]; exact gd.nodup) (by
        show (z.1, z.2.2) ∈ (acOf row).since
        rw [← es]; exact List.mem_map.mpr ⟨z, hz, rfl⟩)
      have e2 : rp.reverse ++ (z :: post) = (acOf row).zs := by rw [← e]; simp
      have q := ih (z :: post) (some (.fz (.str z.1))) n hn e2 rfl
      unfold lft at q
      refine And.intro ho ?_
      conv => whnf
      refine And.intro ⟨rfl, strs_scal _⟩ ?_
      refine And.intro trivial ?_
      conv => whnf
      rw [inD_strs]
      cases hm : decide (z.1 ∈ ms) with
      | false =>
        rw [hm] at q
        exact q
      | true =>
        rw [hm] at q
        conv => whnf
        refine And.intro ⟨rfl, rfl⟩ ?_
        conv => whnf
        rw [h2]
        conv => whnf
        refine ⟨row, z.1, z.2.1, rfl, hd, fun e => (by cases e), ?_⟩
        conv => whnf
        refine And.intro rfl ?_
        conv => whnf
        refine And.intro ⟨rfl, rfl⟩ ?_
        conv => whnf
        rw [h3]
        conv => whnf
        refine ⟨row, z.1, z.2.2, rfl, hg, fun e => (by cases e), ?_⟩
        conv => whnf
        refine And.intro rfl ?_
        conv => whnf
        rw [if_pos rfl] at q
        rw [max2_eq]
        exact q
  conv => whnf
  refine And.intro (by decide) ?_
  conv => whnf
  refine And.intro rfl ?_
  conv => whnf
  refine And.intro rfl ?_
  conv => whnf
  refine And.intro ⟨rfl, rfl⟩ ?_
  conv => whnf
  rw [h1]
  conv => whnf
  refine ⟨row, rfl, fun e => (by cases e), ?_⟩
  conv => whnf
  have er : ((marksOf row).map D.str).reverse = (acOf row).zs.reverse.map fun z => D.str z.1 := by
    unfold marksOf
    rw [← eg]
    show ((List.map _ (List.map _ (acOf row).zs)).map D.str).reverse = _
    rw [List.map_map, List.map_map, ← List.map_reverse]
    rfl
  rw [er]
  exact go _ [] none _ (fun o t => hk) (by simp) rfl
def conLeft : Con := fun as c K _ => ∃ row ms d, as = [some (accD row), some d] ∧ ((d = .non ∧ ms = marksOf row) ∨ ((d = .lst (ms.map D.str) ∨ d = .tup (ms.map D.str)) ∧ ms.Nodup ∧ ∀ m ∈ ms, m ∈ marksOf row)) ∧ ms.length ≤ 100000 ∧ (acOf row).good ∧ K (.fz (.int (leftV row ms))) c
theorem p_left {Γ : Env} (h1 : Γ.mth "Account" "marks" = some (.pl conMarks false [])) (h2 : Γ.fn "left_of" = some (.pl conLeftOf false [])) (h3 : Γ.fn "checked_marks" = some (.pl conCheckedMarks false [])) : Impl Γ 2 conLeft c_left := by
  intro as c K h
  obtain ⟨row, ms, d, rfl, hd, hl, gd, hk⟩ := h
  conv => whnf
  rw [h2]
  conv => whnf
  rw [h3]
  conv => whnf
  refine And.intro ⟨rfl, rfl⟩ ?_
  conv => whnf
  rw [h1]
  conv => whnf
  refine ⟨row, rfl, fun e => (by cases e), ?_⟩
  conv => whnf
  refine ⟨ms, marksOf row, d, rfl, hd, hl, fun r hr => ⟨fun e => (by cases e), ?_⟩⟩
  conv => whnf
  refine ⟨row, ms, ?_, gd, fun e => (by cases e), hk⟩
  show [some (accD row), some r.d] = _
  rw [hr]
end PP

set_option Elab.async false
set_option linter.all false
set_option maxRecDepth 100000
set_option maxHeartbeats 2000000
namespace PP
open PySem L2
/-! ### deeds, rows -/
theorem isMark_ok {m : Str} (h : MarkOk m) : isMarkD (.str m) = true := by
  obtain ⟨h1, h2, h3⟩ := h
  show (decide (1 ≤ m.length) && (decide (m.length ≤ 8) && m.cps.toList.all inLet)) = true
  rw [decide_eq_true h1, decide_eq_true h2, Bool.true_and, Bool.true_and, List.all_eq_true]
  exact fun c hc => decide_eq_true (h3 c hc)
theorem mark_size {m : Str} (h : MarkOk m) : m.length ≤ sizeLine := Nat.le_trans h.2.1 (by decide)
theorem isCount_ok {n : Int} (h : 0 < n) : isCountD (.int n) = true := decide_eq_true h
def conDeedOf : Con := fun as c K _ => ∃ x d, as = [some x] ∧ DeedIs x d ∧ okD d ∧ K (.fz d.d) c
theorem p_deed_of {Γ : Env} (h1 : Γ.fn "is_list" = some (.pl conIsList true [])) (h2 : Γ.fn "is_mark" = some (.pl conIsMark true [])) (h3 : Γ.fn "is_count" = some (.pl conIsCount true [])) : Impl Γ 2 conDeedOf c_deed_of := by
  intro as c K h
  obtain ⟨x, d, rfl, hx, ok, hk⟩ := h
  have hb : bltTy (tyD x) = true := by rcases hx with rfl | rfl <;> rfl
  have hl : isListD x = true := by rcases hx with rfl | rfl <;> rfl
  conv => whnf
  rw [h1]
  conv => whnf
  refine ⟨x, rfl, hb, fun _ => rfl, ?_⟩
  rw [hl]
  refine And.intro trivial ?_
  cases d with
  | op m n =>
    rcases hx with rfl | rfl
    all_goals
      conv => whnf
      refine And.intro trivial ?_
      conv => whnf
      refine And.intro ⟨rfl, rfl⟩ ?_
      refine And.intro trivial ?_
      conv => whnf
      refine And.intro rfl ?_
      conv => whnf
      refine And.intro trivial ?_
      conv => whnf
      refine And.intro trivial ?_
      conv => whnf
      rw [h2]
      conv => whnf
      refine ⟨.str m, rfl, rfl, fun x e => by cases e; exact mark_size ok.1, fun _ => rfl, ?_⟩
      rw [isMark_ok ok.1]
      refine And.intro trivial ?_
      conv => whnf
      rw [h3]
      conv => whnf
      refine ⟨.int n, rfl, rfl, fun _ => rfl, ?_⟩
      rw [isCount_ok ok.2]
      refine And.intro trivial ?_
      exact hk
  | days n =>
    rcases hx with rfl | rfl
    all_goals
      conv => whnf
      refine And.intro trivial ?_
      conv => whnf
      refine And.intro ⟨rfl, rfl⟩ ?_
      refine And.intro trivial ?_
      conv => whnf
      refine And.intro rfl ?_
      conv => whnf
      refine And.intro trivial ?_
      conv => whnf
      refine And.intro (by decide) ?_
      conv => whnf
      refine And.intro ⟨rfl, rfl⟩ ?_
      conv => whnf
      refine And.intro trivial ?_
      conv => whnf
      refine And.intro trivial ?_
      conv => whnf
      rw [h3]
      conv => whnf
      refine ⟨.int n, rfl, rfl, fun _ => rfl, ?_⟩
      rw [isCount_ok ok]
      refine And.intro trivial ?_
      exact hk
  | pause n =>
    rcases hx with rfl | rfl
    all_goals
      conv => whnf
      refine And.intro trivial ?_
      conv => whnf
      refine And.intro ⟨rfl, rfl⟩ ?_
      refine And.intro trivial ?_
      conv => whnf
      refine And.intro rfl ?_
      conv => whnf
      refine And.intro trivial ?_
      conv => whnf
      refine And.intro (by decide) ?_
      conv => whnf
      refine And.intro ⟨rfl, rfl⟩ ?_
      conv => whnf
      refine And.intro trivial ?_
      conv => whnf
      refine And.intro trivial ?_
      conv => whnf
      rw [h3]
      conv => whnf
      refine ⟨.int n, rfl, rfl, fun _ => rfl, ?_⟩
      rw [isCount_ok ok]
      refine And.intro trivial ?_
      exact hk
  | back m =>
    rcases hx with rfl | rfl
    all_goals
      conv => whnf
      refine And.intro trivial ?_
      conv => whnf
      refine And.intro ⟨rfl, rfl⟩ ?_
      refine And.intro trivial ?_
      conv => whnf
      refine And.intro rfl ?_
      conv => whnf
      refine And.intro trivial ?_
      conv => whnf
      refine And.intro (by decide) ?_
      conv => whnf
      refine And.intro ⟨rfl, rfl⟩ ?_
      conv => whnf
      refine And.intro trivial ?_
      conv => whnf
      refine And.intro trivial ?_
      conv => whnf
      refine And.intro trivial ?_
      conv => whnf
      rw [h2]
      conv => whnf
      refine ⟨.str m, rfl, rfl, fun x e => by cases e; exact mark_size ok, fun _ => rfl, ?_⟩
      rw [isMark_ok ok]
      refine And.intro trivial ?_
      exact hk
end PP

set_option Elab.async false
set_option linter.all false
set_option maxRecDepth 100000
set_option maxHeartbeats 4000000
namespace PP
open PySem L2
theorem asStrs_map : ∀ l : List Str, asStrs (l.map D.str) = some l
  | [] => rfl
  | b :: l => by rw [List.map_cons, asStrs, asStrs_map l]; rfl
theorem inD_strs' (m : Str) (ms : List Str) : inD (R.fz (D.str m)).d (ms.map D.str) = decide (m ∈ ms) := inD_strs m ms
theorem run_snoc (a : Ac) (r : List Deed) (d : Deed) : a.run (r ++ [d]) = (a.run r).step d := by
  induction r generalizing a with
  | nil => rfl
  | cons x r ih => exact ih (a.step x)
theorem run_good {a : Ac} (g : a.good) : ∀ {r : List Deed}, a.oks r → (a.run r).good
  | [], _ => g
  | d :: r, h => run_good (g.step h.1) h.2
theorem vd_app : ∀ {r1 r2 : List Deed} {op : List Str} {a : Ac}, vd op a (r1 ++ r2) → vd op a r1 ∧ vd (op ++ r1.flatMap opens) (a.run r1) r2
  | [], r2, op, a, h => ⟨trivial, by simpa [Ac.run] using h⟩
  | d :: r1, r2, op, a, h => by
    obtain ⟨h1, h2, h3⟩ := h
    obtain ⟨q1, q2⟩ := vd_app h3
    exact ⟨⟨h1, h2, q1⟩, by rw [List.flatMap_cons, ← List.append_assoc]; exact q2⟩
theorem opens_len : ∀ r : List Deed, (r.flatMap opens).length ≤ r.length
  | [] => Nat.le_refl _
  | d :: r => by
    rw [List.flatMap_cons, List.length_append, List.length_cons]
    have := opens_len r
    have h : (opens d).length ≤ 1 := by cases d <;> simp [opens]
    omega
theorem run_len (a : Ac) : ∀ r : List Deed, (a.run r).given.length ≤ a.given.length + r.length
  | [] => Nat.le_refl _
  | d :: r => by
    have h1 := a.step_len d
    have h2 := run_len (a.step d) r
    rw [List.length_cons]
    show ((a.step d).run r).given.length ≤ _
    omega
theorem ValidRow.good {row : List Deed} (h : ValidRow row) : (acOf row).good := run_good good0 (vd_oks h.vd)
def b_row : List Sx := [(.asg 6 (.call "deed_of" [(.var 5)] 0)), (.ite (.cmp .isn (.var 6) .non) [.never] []), (.ite (.cmp .eq (.idx (.var 6) (.int 0)) (.str "open")) [(.ite (.cmp .isin (.idx (.var 6) (.int 1)) (.var 2)) [.never] []), (.app 2 (.idx (.var 6) (.int 1))), (.app 3 (.idx (.var 6) (.int 1)))] []), (.ite (.cmp .eq (.idx (.var 6) (.int 0)) (.str "back")) [(.ite (.cmp .notin (.idx (.var 6) (.int 1)) (.var 3)) [.never] []), (.rem 3 (.idx (.var 6) (.int 1)))] []), (.app 1 (.var 6))]
theorem p_checked_row {Γ : Env} (h1 : Γ.fn "is_list" = some (.pl conIsList true [])) (h2 : Γ.fn "deed_of" = some (.pl conDeedOf false [])) : Impl Γ 7 conChecked c_checked_row := by
  intro as c K h
  obtain ⟨row, rowD, rfl, hrow, hv, hk⟩ := h
  have big : (100000 : Nat) < sizeLine := by decide
  have hz := hv.len
  have go : ∀ (r2 : List Deed) (xs2 : List D) (r1 : List Deed) (o4 o5 o6 : Option P) (k : Nat) (n : En), DsAre xs2 r2 → r1 ++ r2 = row → isIo o4 = false → isIo o5 = false → isIo o6 = false → (∀ op cn o4 o5 o6, n.nx ⟨[some (.fz rowD), some (.own (row.map Deed.d)), op, cn, o4, o5, o6], c⟩) →
      forGo (.tup [.one 4, .one 5]) (exSs Γ b_row) (enumD k xs2) n ⟨[some (.fz rowD), some (.own (r1.map Deed.d)), some (.own ((r1.flatMap opens).map D.str)), some (.own (((ac0.run r1).given.map (·.1)).map D.str)), o4, o5, o6], c⟩ := by
    intro r2
    induction r2 with
    | nil =>
      intro xs2 r1 o4 o5 o6 k n hd e i4 i5 i6 hn
      cases hd
      rw [List.append_nil] at e
      subst e
      exact hn _ _ _ _ _
    | cons d r2 ih =>
      intro xs2 r1 o4 o5 o6 k n hd e i4 i5 i6 hn
      cases hd with
      | cons hx hd =>
        rename_i x xs2
        have hvd := hv.vd
        rw [← e] at hvd
        obtain ⟨v1, hnew, hok, _⟩ := vd_app hvd
        have hln : r1.length < row.length := by rw [← e]; simp
        have hol : ((r1.flatMap opens).map D.str).length < sizeLine := by
          have := opens_len r1
          rw [List.length_map]; omega
        have hcl : (((ac0.run r1).given.map (·.1)).map D.str).length < sizeLine := by
          have q := run_len ac0 r1
          rw [List.length_map, List.length_map]
          have : ac0.given.length = 0 := rfl
          omega
        have hfl : (r1.map Deed.d).length < sizeLine := by rw [List.length_map]; omega
        have gd : (ac0.run r1).good := run_good good0 (vd_oks v1)
        have q := fun o4 o5 o6 (i4 : isIo o4 = false) (i5 : isIo o5 = false) (i6 : isIo o6 = false) => ih xs2 (r1 ++ [d]) o4 o5 o6 (k + 1) n hd (by rw [← e]; simp) i4 i5 i6 hn
        rw [List.map_append, List.flatMap_append, run_snoc] at q
        have okd : okD d := hv.ok d (by rw [← e]; simp)
        refine And.intro i4 ?_
        conv => whnf
        refine And.intro i5 ?_
        conv => whnf
        rw [h2]
        conv => whnf
        refine ⟨x, d, rfl, hx, okd, fun e => (by cases e), ?_⟩
        conv => whnf
        refine And.intro i6 ?_
        cases d with
        | op m a =>
          conv => whnf
          refine And.intro trivial ?_
          conv => whnf
          refine And.intro trivial ?_
          conv => whnf
          refine And.intro ⟨rfl, strs_scal _⟩ ?_
          conv => whnf
          refine And.intro trivial ?_
          conv => whnf
          rw [inD_strs', decide_eq_false (show m ∉ r1.flatMap opens from hnew)]
          conv => whnf
          refine And.intro hol ?_
          conv => whnf
          refine And.intro hcl ?_
          conv => whnf
          refine And.intro trivial ?_
          conv => whnf
          refine And.intro hfl ?_
          have := q (some (.fz (.int k))) (some (.fz x)) (some (.fz (Deed.op m a).d)) rfl rfl rfl
          simp only [Ac.step, List.map_append, List.flatMap_cons, List.flatMap_nil, opens, List.map_cons, List.map_nil, List.append_nil] at this
          exact this
        | back m =>
          conv => whnf
          refine And.intro trivial ?_
          conv => whnf
          refine And.intro trivial ?_
          conv => whnf
          refine And.intro trivial ?_
          conv => whnf
          refine And.intro ⟨rfl, strs_scal _⟩ ?_
          conv => whnf
          refine And.intro trivial ?_
          conv => whnf
          rw [inD_strs', decide_eq_true (show m ∈ (ac0.run r1).given.map (·.1) from hok)]
          conv => whnf
          rw [asStrs_map]
          refine And.intro hok ?_
          conv => whnf
          refine And.intro hfl ?_
          have := q (some (.fz (.int k))) (some (.fz x)) (some (.fz (Deed.back m).d)) rfl rfl rfl
          have ef : ((ac0.run r1).given.filter fun p => decide (p.1 ≠ m)).map (·.1) = ((ac0.run r1).given.map (·.1)).erase m := by
            rw [gd.nodup.erase_eq_filter, List.filter_map]
            congr 1
            apply List.filter_congr
            intro p _
            by_cases e : p.1 = m
            · simp [e]
            · simp [e]
          simp only [Ac.step, ef, List.flatMap_cons, List.flatMap_nil, opens, List.append_nil, List.map_cons, List.map_nil] at this
          exact this
        | days a =>
          conv => whnf
          refine And.intro trivial ?_
          conv => whnf
          refine And.intro trivial ?_
          conv => whnf
          refine And.intro trivial ?_
          conv => whnf
          refine And.intro hfl ?_
          have := q (some (.fz (.int k))) (some (.fz x)) (some (.fz (Deed.days a).d)) rfl rfl rfl
          simp only [Ac.step, List.flatMap_cons, List.flatMap_nil, opens, List.append_nil, List.map_cons, List.map_nil] at this
          exact this
        | pause a =>
          conv => whnf
          refine And.intro trivial ?_
          conv => whnf
          refine And.intro trivial ?_
          conv => whnf
          refine And.intro trivial ?_
          conv => whnf
          refine And.intro hfl ?_
          have := q (some (.fz (.int k))) (some (.fz x)) (some (.fz (Deed.pause a).d)) rfl rfl rfl
          simp only [Ac.step, List.flatMap_cons, List.flatMap_nil, opens, List.append_nil, List.map_cons, List.map_nil] at this
          exact this
  obtain ⟨xs, hxs, hds⟩ := hrow
  have hb : bltTy (tyD rowD) = true := by rcases hxs with rfl | rfl | rfl <;> rfl
  have hl : isListD rowD = true := by rcases hxs with rfl | rfl | rfl <;> rfl
  conv => whnf
  rw [h1]
  conv => whnf
  refine ⟨rowD, rfl, hb, fun _ => rfl, ?_⟩
  rw [hl]
  refine And.intro trivial ?_
  conv => whnf
  refine And.intro (by decide) ?_
  conv => whnf
  refine And.intro (by decide) ?_
  conv => whnf
  refine And.intro (by decide) ?_
  conv => whnf
  refine And.intro rfl ?_
  conv => whnf
  refine And.intro rfl ?_
  conv => whnf
  refine And.intro rfl ?_
  rcases hxs with rfl | rfl | rfl
  · exact go row xs [] none none none 0 _ hds rfl rfl rfl rfl (fun _ _ _ _ _ => hk)
  · exact go row xs [] none none none 0 _ hds rfl rfl rfl rfl (fun _ _ _ _ _ => hk)
  · exact go row xs [] none none none 0 _ hds rfl rfl rfl rfl (fun _ _ _ _ _ => hk)
end PP

set_option Elab.async false
set_option linter.all false
set_option maxRecDepth 100000
set_option maxHeartbeats 4000000
namespace PP
open PySem L2
/-! ### draws, marks -/
/-- a draw: some number below m -/
def conDrawN : Con := fun as c K _ => ∃ m : Int, as = [none, some (.int m)] ∧ 1 ≤ m ∧ m ≤ 10 ^ 100 ∧ c.c < 1000000 ∧ ∀ (i : Int) (c' : Stm), 0 ≤ i → i < m → c'.c = c.c + 1 → K (.fz (.int i)) c'
theorem drawN_imp {as : List (Option D)} {c : Stm} {K : R → Stm → Prop} {e : XCc} (h : conDrawN as c K e) : conDraw as c K e := by
  obtain ⟨m, h0, h1, h2, h3, h⟩ := h
  exact ⟨m, h0, h1, h2, h3, h _ _ (draw_lo c h1) (draw_hi c h1) (draw_c c m)⟩
theorem atI_ok {α : Type} {xs : List α} {i : Int} (h0 : 0 ≤ i) (h1 : i < xs.length) : ∃ x, atI xs i = some x ∧ x ∈ xs ∧ xs[i.toNat]? = some x := by
  have hl : i.toNat < xs.length := by omega
  refine ⟨xs[i.toNat], ?_, List.getElem_mem hl, List.getElem?_eq_getElem hl⟩
  have q := atI_nat (xs := xs) (j := i.toNat) (List.getElem?_eq_getElem hl)
  rwa [Int.toNat_of_nonneg h0] at q
def conPick : Con := fun as c K _ => ∃ xs, as = [none, some (.lst xs)] ∧ xs ≠ [] ∧ xs.length ≤ 1000000 ∧ c.c < 1000000 ∧ ∀ x c', x ∈ xs → c'.c = c.c + 1 → K (.fz x) c'
theorem p_pick {Γ : Env} (h1 : Γ.fn "_law_draw" = some (.pl conDrawN true [])) : Impl Γ 2 conPick c__law_pick := by
  intro as c K h
  obtain ⟨xs, rfl, hne, hl, hc, hk⟩ := h
  have hl1 : 1 ≤ xs.length := List.length_pos_iff.mpr hne
  conv => whnf
  rw [h1]
  conv => whnf
  refine ⟨(xs.length : Int), rfl, by omega, Int.le_trans (b := 1000000) (by omega) (by decide), hc, fun i c' h0 h2 hc' => ⟨fun _ => rfl, ?_⟩⟩
  obtain ⟨x, e, hx, _⟩ := atI_ok h0 h2
  conv => whnf
  rw [e]
  exact hk x c' hx hc'
theorem lets : letters.cps.toList = List.range' 97 26 := by decide +kernel
theorem let_mem {c : Nat} : c ∈ letters.cps.toList ↔ 97 ≤ c ∧ c < 123 := by
  rw [lets, List.mem_range'_1]
theorem let_at {i : Int} (h0 : 0 ≤ i) (h1 : i < 26) : atI letters.cps.toList i = some (97 + i.toNat) := by
  rw [lets]
  obtain ⟨x, e, _, q⟩ := atI_ok (xs := List.range' 97 26) h0 (by rw [List.length_range']; omega)
  rw [e, ← q, List.getElem?_range' (by omega)]
  simp
theorem let_len : letters.length = 26 := by decide +kernel
theorem join0 : ∀ l : List Nat, Txt.join ("" : Str) (l.map fun c => (⟨#[c]⟩ : Str)) = ⟨l.toArray⟩ := by
  intro l
  rw [TL.join_eq]
  induction l with
  | nil => rfl
  | cons c l ih =>
    cases l with
    | nil => rfl
    | cons d l =>
      rw [List.map_cons, List.map_cons, Str.join, ← List.map_cons (f := fun c => (⟨#[c]⟩ : Str)), ih]
      · show (⟨(#[c] ++ (Str.ofString "").cps) ++ (d :: l).toArray⟩ : Str) = _
        have e : (Str.ofString "").cps = #[] := by decide +kernel
        rw [e]
        simp
      · simp
def words7 : List Str := ["open", "days", "pause", "back", "most", "bar", "set"]
theorem words_ok : ∀ w ∈ words7, MarkOk w := by unfold MarkOk; decide +kernel
def cand (k : Nat) : Str := ⟨#[113, 97 + k / 26, 97 + k % 26]⟩
theorem cand_inj {j k : Nat} (h : cand j = cand k) : j = k := by
  unfold cand at h
  injection h with h
  simp at h
  omega
theorem cand_ok {k : Nat} (h : k < 676) : MarkOk (cand k) := by
  refine ⟨show 1 ≤ 3 by decide, show 3 ≤ 8 by decide, fun c hc => ?_⟩
  have hc' : c ∈ [113, 97 + k / 26, 97 + k % 26] := hc
  rw [let_mem]
  simp at hc'
  omega
theorem nodup_len {α : Type} [DecidableEq α] : ∀ (l m : List α), l.Nodup → (∀ x ∈ l, x ∈ m) → l.length ≤ m.length
  | [], _, _, _ => Nat.zero_le _
  | x :: l, m, nd, h => by
    rw [List.nodup_cons] at nd
    have hx : x ∈ m := h x List.mem_cons_self
    have q := nodup_len l (m.erase x) nd.2 fun y hy => by
      have hne : y ≠ x := fun e => nd.1 (e ▸ hy)
      exact (List.mem_erase_of_ne hne).mpr (h y (List.mem_cons_of_mem _ hy))
    rw [List.length_erase_of_mem hx] at q
    have : 0 < m.length := List.length_pos_of_mem hx
    rw [List.length_cons]; omega
theorem cand_all {known : List Str} (h : ∀ k, k < 676 → cand k ∈ known) : 676 ≤ known.length := by
  have nd : ((List.range 676).map cand).Nodup := (List.nodup_range).map (f := cand) fun a b hne e => hne (cand_inj e)
  have sub : ∀ x ∈ (List.range 676).map cand, x ∈ known := fun x hx => by
    obtain ⟨k, hk, rfl⟩ := List.mem_map.mp hx
    exact h k (List.mem_range.mp hk)
  have q := nodup_len _ _ nd sub
  simpa using q
/-- a new mark -/
def conFresh : Con := fun as c K _ => ∃ known : List Str, as = [none, some (.lst (known.map D.str))] ∧ known.length ≤ 600 ∧ c.c + 12 < 1000000 ∧ ∀ x c', MarkOk x → x ∉ known → c.c ≤ c'.c → c'.c ≤ c.c + 12 → K (.fz (.str x)) c'
def b_fresh : List Sx := [(.asg 6 (.bin .add (.bin .add (.str "q") (.idx (.var 4) (.bin .fdiv (.var 3) (.int 26)))) (.idx (.var 4) (.bin .mod (.var 3) (.int 26))))), (.ite (.cmp .notin (.var 6) (.var 1)) [(.ret (.var 6))] [])]
theorem fresh_loop {Γ : Env} {known : List Str} {c : Stm} {nm : P} {ws : P} : ∀ (j k : Nat) (o3 o6 : Option P) (n : En), k + j = 676 → (∀ i, i < k → cand i ∈ known) → known.length ≤ 600 → isIo o3 = false → isIo o6 = false → (∀ k s, k < 676 → cand k ∉ known → s.c = c → n.rt (.fz (.str (cand k))) s) →
    forGo (.one 3) (exSs Γ b_fresh) (rangeD (k : Int) j) n ⟨[some .stm, some (.fz (.lst (known.map D.str))), some nm, o3, some (.fz (.str letters)), some ws, o6], c⟩ := by
  intro j
  induction j with
  | zero =>
    intro k o3 o6 n e h hl i3 i6 hn
    have := cand_all (known := known) fun i hi => h i (by omega)
    omega
  | succ j ih =>
    intro k o3 o6 n e h hl i3 i6 hn
    have e1 : ((k : Int) / 26).toNat = k / 26 := by omega
    have e2 : ((k : Int) % 26).toNat = k % 26 := by omega
    have hz : letters.length ≤ sizeLine := by rw [let_len]; decide
    refine And.intro i3 ?_
    conv => whnf
    refine And.intro ⟨by decide, by decide⟩ ?_
    conv => whnf
    refine And.intro hz ?_
    rw [let_at (i := (k : Int) / 26) (by omega) (by omega), e1]
    conv => whnf
    refine And.intro (show 1 + 1 ≤ sizeLine by decide) ?_
    conv => whnf
    refine And.intro (by decide) ?_
    conv => whnf
    refine And.intro hz ?_
    rw [let_at (i := (k : Int) % 26) (by omega) (by omega), e2]
    conv => whnf
    refine And.intro (show 2 + 1 ≤ sizeLine by decide) ?_
    conv => whnf
    refine And.intro i6 ?_
    conv => whnf
    refine And.intro ⟨rfl, strs_scal _⟩ ?_
    refine And.intro trivial ?_
    have ec : ((Str.ofString "q" ++ (⟨#[97 + k / 26]⟩ : Str)) ++ (⟨#[97 + k % 26]⟩ : Str)) = cand k := by
      show (⟨((Str.ofString "q").cps ++ #[97 + k / 26]) ++ #[97 + k % 26]⟩ : Str) = _
      have e : (Str.ofString "q").cps = #[113] := by decide +kernel
      rw [e]; rfl
    show (match (!inD (D.str ((Str.ofString "q" ++ (⟨#[97 + k / 26]⟩ : Str)) ++ (⟨#[97 + k % 26]⟩ : Str))) (known.map D.str)) with
      | true => _
      | false => _)
    rw [ec, inD_strs]
    cases hd : decide (cand k ∈ known) with
    | false =>
      have q := hn k (S.mk [some .stm, some (.fz (.lst (known.map D.str))), some nm, some (.fz (.int k)), some (.fz (.str letters)), some ws, some (.fz (.str (cand k)))] c) (by omega) (of_decide_eq_false hd) rfl
      rw [← ec] at q
      exact q
    | true =>
      have q := ih (k + 1) (some (.fz (.int k))) (some (.fz (.str (cand k)))) n (by omega) (fun i hi => by
        by_cases e : i = k
        · subst e; exact of_decide_eq_true hd
        · exact h i (by omega)) hl rfl rfl hn
      rw [← ec] at q
      exact q
end PP

set_option Elab.async false
set_option linter.all false
set_option maxRecDepth 100000
set_option maxHeartbeats 4000000
namespace PP
open PySem L2
def sg (c : Nat) : D := .str ⟨#[c]⟩
theorem asStrs_sg : ∀ l : List Nat, asStrs (l.map sg) = some (l.map fun c => (⟨#[c]⟩ : Str))
  | [] => rfl
  | b :: l => by rw [List.map_cons, sg, asStrs, asStrs_sg l]; rfl
theorem fresh_lc {Γ : Env} (h1 : Γ.fn "_law_draw" = some (.pl conDrawN true [])) {kn ws : P} {o2 o6 : Option P} {Kc : List D → S → Prop} {e : XC} : ∀ (j : Nat) (k : Int) (l : List Nat) (c : Stm) (o3 : Option P), isIo o3 = false → (∀ x ∈ l, 97 ≤ x ∧ x < 123) → c.c + j < 1000000 →
    (∀ (l' : List Nat) (c' : Stm) (o3 : Option P), isIo o3 = false → l'.length = l.length + j → (∀ x ∈ l', 97 ≤ x ∧ x < 123) → c'.c = c.c + j → Kc (l'.map sg) ⟨[some .stm, some kn, o2, o3, some (.fz (.str letters)), some ws, o6], c'⟩) →
    lcGo (.one 3) (evTs Γ []) (toD (evP Γ (.idx (.var 4) (.call "_law_draw" [(.var 0), (.int 26)] 0))).r) (rangeD k j) (l.map sg) ⟨[some .stm, some kn, o2, o3, some (.fz (.str letters)), some ws, o6], c⟩ Kc e := by
  intro j
  induction j with
  | zero =>
    intro k l c o3 i3 hl hc hk
    exact hk l c o3 i3 rfl hl rfl
  | succ j ih =>
    intro k l c o3 i3 hl hc hk
    refine And.intro (show (!isIo o3 && true) = true by rw [i3]; rfl) ?_
    refine And.intro rfl ?_
    conv => whnf
    rw [h1]
    conv => whnf
    refine ⟨26, rfl, by decide, by decide, show c.c < 1000000 by omega, fun i c' h0 h2 hc' => ⟨fun _ => rfl, ?_⟩⟩
    conv => whnf
    refine And.intro (show letters.length ≤ sizeLine by rw [let_len]; decide) ?_
    rw [let_at h0 h2]
    conv => whnf
    have q := ih (k + 1) (l ++ [97 + i.toNat]) c' (some (.fz (.int k))) rfl (fun x hx => by
      rcases List.mem_append.mp hx with hx | hx
      · exact hl x hx
      · rw [List.mem_singleton.mp hx]; omega) (by have : c'.c = c.c + 1 := hc'; omega) (fun l' c'' o3 i3 e1 e2 e3 => hk l' c'' o3 i3 (by rw [e1, List.length_append, List.length_singleton]; omega) e2 (by have : c'.c = c.c + 1 := hc'; omega))
    rw [List.map_append] at q
    exact q
def wordsD : List D := [(.str "open"), (.str "days"), (.str "pause"), (.str "back"), (.str "most"), (.str "bar"), (.str "set")]
theorem words_mem {x : D} (h : x ∈ wordsD) : ∃ w, x = .str w ∧ MarkOk w := by
  have e : wordsD = words7.map D.str := rfl
  rw [e] at h
  obtain ⟨w, hw, rfl⟩ := List.mem_map.mp h
  exact ⟨w, rfl, words_ok w hw⟩
theorem sizes_mem {x : D} (h : x ∈ [D.int 1, .int 1, .int 1, .int 2, .int 4, .int 8]) : ∃ n : Nat, x = .int (n : Int) ∧ 1 ≤ n ∧ n ≤ 8 := by
  simp only [List.mem_cons, List.mem_nil_iff, or_false] at h
  rcases h with rfl | rfl | rfl | rfl | rfl | rfl
  · exact ⟨1, rfl, by decide, by decide⟩
  · exact ⟨1, rfl, by decide, by decide⟩
  · exact ⟨1, rfl, by decide, by decide⟩
  · exact ⟨2, rfl, by decide, by decide⟩
  · exact ⟨4, rfl, by decide, by decide⟩
  · exact ⟨8, rfl, by decide, by decide⟩
theorem decV (i j : Int) : decide (V.int i = V.int j) = decide (i = j) := by
  by_cases h : i = j
  · subst h; simp
  · rw [decide_eq_false h, decide_eq_false fun e => h (V.int.inj e)]
theorem fresh_end {Γ : Env} {known : List Str} {c : Stm} {nm : Str} {o3 o6 : Option P} {ws : P} {n : En} (i3 : isIo o3 = false) (i6 : isIo o6 = false) (hl : known.length ≤ 600) (hm : MarkOk nm) (hk : ∀ x s, MarkOk x → x ∉ known → s.c = c → n.rt (.fz (.str x)) s) :
    exSs Γ [(.for_ (.one 3) (.bi .range [(.bin .mul (.int 676) (.bi .int [(.cmp .isin (.var 2) (.var 1))]))]) b_fresh), (.ret (.var 2))] n ⟨[some .stm, some (.fz (.lst (known.map D.str))), some (.fz (.str nm)), o3, some (.fz (.str letters)), some ws, o6], c⟩ := by
  conv => whnf
  refine And.intro ⟨rfl, strs_scal _⟩ ?_
  have e : inD (D.str nm) (known.map D.str) = decide (nm ∈ known) := inD_strs nm known
  show (CMul 676 (if inD (D.str nm) (known.map D.str) = true then 1 else 0)) ∧ _
  cases hd : decide (nm ∈ known) with
  | false =>
    rw [hd] at e
    refine And.intro (.inl (by decide)) ?_
    conv => whnf
    rw [e]
    refine And.intro (by decide) ?_
    exact hk nm (S.mk _ c) hm (of_decide_eq_false hd) rfl
  | true =>
    rw [hd] at e
    refine And.intro (.inl (by decide)) ?_
    conv => whnf
    rw [e]
    refine And.intro (by decide) ?_
    exact fresh_loop (Γ := Γ) (known := known) (c := c) 676 0 o3 o6 _ rfl (fun i h => absurd h (Nat.not_lt_zero i)) hl i3 i6 fun k s h1 h2 h3 => hk (cand k) s (cand_ok h1) h2 h3
theorem p_fresh {Γ : Env} (h1 : Γ.fn "_law_draw" = some (.pl conDrawN true [])) (h2 : Γ.fn "_law_pick" = some (.pl conPick false [])) : Impl Γ 7 conFresh c__law_fresh := by
  intro as c K h
  obtain ⟨known, rfl, hl, hc, hk⟩ := h
  conv => whnf
  refine And.intro (by decide) ?_
  conv => whnf
  refine And.intro (by decide) ?_
  conv => whnf
  refine And.intro rfl ?_
  conv => whnf
  refine And.intro rfl ?_
  conv => whnf
  refine And.intro (by decide) ?_
  conv => whnf
  rw [h1]
  conv => whnf
  refine ⟨6, rfl, by decide, by decide, show c.c < 1000000 by omega, fun i c1 h0 h3 hc1 => ⟨fun _ => rfl, ?_⟩⟩
  have hc1 : c1.c = c.c + 1 := hc1
  obtain ⟨x, e, hx, _⟩ := atI_ok (xs := [D.int 1, .int 1, .int 1, .int 2, .int 4, .int 8]) h0 h3
  obtain ⟨n, rfl, n1, n8⟩ := sizes_mem hx
  conv => whnf
  have e' : atI [(R.fz (D.int 1)).d, (R.fz (D.int 1)).d, (R.fz (D.int 1)).d, (R.fz (D.int 2)).d, (R.fz (D.int 4)).d, (R.fz (D.int 8)).d] i = some (D.int (n : Int)) := e
  rw [e']
  conv => whnf
  refine And.intro (by omega) ?_
  rw [Int.toNat_natCast]
  refine fresh_lc h1 n 0 [] c1 none rfl (fun x h => by simp at h) (by omega) fun l c2 o3 i3 l1 l2 l3 => ?_
  refine And.intro (show (!isIo o3 && true) = true by rw [i3]; rfl) ?_
  conv => whnf
  rw [asStrs_sg]
  have hlen : l.length = n := by simpa using l1
  refine And.intro ?_ ?_
  · have : ∀ l : List Nat, ((l.map fun c => (⟨#[c]⟩ : Str)).map (·.length)).sum = l.length := fun l => by
      induction l with
      | nil => rfl
      | cons x l ih => rw [List.map_cons, List.map_cons, List.sum_cons, ih, List.length_cons]; show 1 + _ = _; omega
    rw [this, List.length_map, hlen]
    have e0 : (Str.ofString "").length = 0 := by decide +kernel
    rw [e0]
    omega
  rw [join0]
  have hm : MarkOk ⟨l.toArray⟩ := by
    refine ⟨?_, ?_, fun c hc => let_mem.mpr (l2 c (by simpa using hc))⟩
    · show 1 ≤ l.toArray.size
      simp; omega
    · show l.toArray.size ≤ 8
      simp; omega
  conv => whnf
  refine And.intro rfl ?_
  conv => whnf
  rw [h1]
  conv => whnf
  refine ⟨9, rfl, by decide, by decide, show c2.c < 1000000 by omega, fun i c3 g0 g1 hc3 => ⟨fun _ => rfl, ?_⟩⟩
  have hc3 : c3.c = c2.c + 1 := hc3
  refine And.intro trivial ?_
  rw [show decide (toV (R.fz (D.int i)).d = toV (R.fz (D.int 0)).d) = decide (i = 0) from decV i 0]
  cases hd : decide (i = 0) with
  | false =>
    conv => whnf
    refine And.intro rfl ?_
    exact fresh_end (c := c3) (n := ⟨fun s => K (.fz .non) s.c, fun r s => K r s.c, fun _ => False, fun _ => False, noX⟩) rfl rfl hl hm fun x s h1 h2 h3 => hk x s.c h1 h2 (by rw [h3]; omega) (by rw [h3]; omega)
  | true =>
    conv => whnf
    rw [h2]
    conv => whnf
    refine ⟨wordsD, rfl, by decide, by decide, show c3.c < 1000000 by omega, fun x c4 hx hc4 => ⟨fun e => (by cases e), ?_⟩⟩
    have hc4 : c4.c = c3.c + 1 := hc4
    obtain ⟨w, rfl, hw⟩ := words_mem hx
    conv => whnf
    refine And.intro rfl ?_
    exact fresh_end (c := c4) (n := ⟨fun s => K (.fz .non) s.c, fun r s => K r s.c, fun _ => False, fun _ => False, noX⟩) rfl rfl hl hw fun x s h1 h2 h3 => hk x s.c h1 h2 (by rw [h3]; omega) (by rw [h3]; omega)
end PP

set_option Elab.async false
set_option linter.all false
set_option maxRecDepth 100000
set_option maxHeartbeats 4000000
namespace PP
open PySem L2
/-! ### pools, rows that are drawn -/
def conPool : Con := fun as c K _ => ∃ m : Nat, as = [none, some (.int (m : Int))] ∧ m ≤ 500 ∧ c.c + 12 * m + 12 < 1000000 ∧ ∀ (ms : List Str) (c' : Stm), ms.length = m → ms.Nodup → (∀ x ∈ ms, MarkOk x) → c'.c ≤ c.c + 12 * m → K (.fz (.lst (ms.map D.str))) c'
theorem p_pool {Γ : Env} (h1 : Γ.fn "_law_fresh" = some (.pl conFresh true [])) : Impl Γ 4 conPool c__law_pool := by
  intro as c K h
  obtain ⟨m, rfl, hm, hc, hk⟩ := h
  have go : ∀ (j : Nat) (k : Int) (ms : List Str) (c1 : Stm) (o : Option P) (n : En), ms.length + j = m → ms.Nodup → (∀ x ∈ ms, MarkOk x) → c1.c ≤ c.c + 12 * ms.length → isIo o = false →
      (∀ (ms : List Str) (c' : Stm) (o : Option P), ms.length = m → ms.Nodup → (∀ x ∈ ms, MarkOk x) → c'.c ≤ c.c + 12 * m → n.nx ⟨[some .stm, some (.fz (.int (m : Int))), some (.own (ms.map D.str)), o], c'⟩) →
      forGo (.one 3) (exSs Γ [(.app 2 (.call "_law_fresh" [(.var 0), (.var 2)] 0))]) (rangeD k j) n ⟨[some .stm, some (.fz (.int (m : Int))), some (.own (ms.map D.str)), o], c1⟩ := by
    intro j
    induction j with
    | zero =>
      intro k ms c1 o n e nd ok hc1 i hn
      exact hn ms c1 o e nd ok (by rw [← e]; exact hc1)
    | succ j ih =>
      intro k ms c1 o n e nd ok hc1 i hn
      refine And.intro i ?_
      conv => whnf
      rw [h1]
      conv => whnf
      refine ⟨ms, rfl, by omega, show c1.c + 12 < 1000000 by omega, fun x c' hx hnx g1 g2 => ⟨fun _ => rfl, ?_⟩⟩
      have g2 : c'.c ≤ c1.c + 12 := g2
      conv => whnf
      refine And.intro ?_ ?_
      · rw [List.length_map]
        exact Nat.lt_of_le_of_lt (m := 500) (by omega) (by decide)
      have q := ih (k + 1) (ms ++ [x]) c' (some (.fz (.int k))) n (by rw [List.length_append, List.length_singleton]; omega) (by
        rw [List.nodup_append]
        exact ⟨nd, by simp, fun a ha b hb e => hnx (by rw [List.mem_singleton.mp hb] at e; rw [← e]; exact ha)⟩) (fun y hy => by
        rcases List.mem_append.mp hy with hy | hy
        · exact ok y hy
        · rw [List.mem_singleton.mp hy]; exact hx) (by rw [List.length_append, List.length_singleton]; omega) rfl hn
      rw [List.map_append] at q
      exact q
  conv => whnf
  refine And.intro (by decide) ?_
  conv => whnf
  refine And.intro rfl ?_
  conv => whnf
  refine And.intro (by omega) ?_
  rw [Int.toNat_natCast]
  exact go m 0 [] c none _ (by simp) List.nodup_nil (fun x h => by simp at h) (by simp) rfl fun ms c' o h1 h2 h3 h4 => hk ms c' h1 h2 h3 h4
/-- some deeds between two openings -/
inductive Btw (w : Int) (b : List Str) : List Deed → List Str → Prop
  | nil : Btw w b [] b
  | days {l : List Deed} {b' : List Str} {n : Int} : Btw w b l b' → 1 ≤ n → n ≤ w → Btw w b (l ++ [.days n]) b'
  | pause {l : List Deed} {b' : List Str} {n : Int} : Btw w b l b' → 1 ≤ n → n ≤ 9 → Btw w b (l ++ [.pause n]) b'
  | back {l : List Deed} {b' : List Str} {m : Str} {j : Nat} : Btw w b l b' → b'[j]? = some m → Btw w b (l ++ [.back m]) (b'.eraseIdx j)
theorem Btw.sub {w : Int} {b : List Str} {l : List Deed} {b' : List Str} (h : Btw w b l b') : ∀ m ∈ b', m ∈ b := by
  induction h with
  | nil => exact fun m h => h
  | days _ _ _ ih => exact ih
  | pause _ _ _ ih => exact ih
  | back _ _ ih => exact fun m hm => ih m (List.mem_of_mem_eraseIdx hm)
def conBetween : ConIO := fun as xs c K _ => ∃ (w : Int) (b : List Str), as = [none, none, some (.int w)] ∧ xs = b.map D.str ∧ 1 ≤ w ∧ w ≤ 10 ^ 100 ∧ c.c + 12 < 1000000 ∧ b.length ≤ 100000 ∧ (∀ m ∈ b, PyData.strOk m = true) ∧
  ∀ (l : List Deed) (b' : List Str) (c' : Stm), Btw w b l b' → l.length ≤ 2 → c'.c ≤ c.c + 8 → K (.fz (.lst (l.map Deed.d))) (b'.map D.str) c'
def b_btw : List Sx := [(.asg 5 (.call "_law_draw" [(.var 0), (.int 10)] 0)), (.ite (.cmp .lt (.var 5) (.int 6)) [(.app 3 (.tup [(.str "days"), (.bin .add (.int 1) (.call "_law_draw" [(.var 0), (.var 2)] 0))]))] [(.ite (.cmp .lt (.var 5) (.int 8)) [(.app 3 (.tup [(.str "pause"), (.bin .add (.int 1) (.call "_law_draw" [(.var 0), (.int 9)] 0))]))] [(.ite (.and (.cmp .eq (.var 5) (.int 8)) (.cmp .ne (.var 1) (.lst []))) [(.app 3 (.tup [(.str "back"), (.pop 1 (some (.call "_law_draw" [(.var 0), (.bi .len [(.var 1)])] 0)))]))] [])])])]
theorem erase_map {α β : Type} (f : α → β) : ∀ (l : List α) (i : Nat), (l.map f).eraseIdx i = (l.eraseIdx i).map f
  | [], _ => rfl
  | _ :: _, 0 => rfl
  | x :: l, i + 1 => by
    show f x :: (l.map f).eraseIdx i = f x :: (l.eraseIdx i).map f
    rw [erase_map f l i]
theorem mark_str {m : Str} (h : MarkOk m) : PyData.strOk m = true := by
  unfold PyData.strOk
  rw [Array.all_eq_true']
  intro c hc
  have := let_mem.mp (h.2.2 c (by simpa using hc))
  exact decide_eq_true (by omega)
theorem lay_strs : ∀ ns : List Str, (∀ n ∈ ns, PyData.strOk n = true) → PyData.canLayAll0 (pds (ns.map D.str)) = true
  | [], _ => rfl
  | n :: ns, h => by
    have := lay_strs ns fun m hm => h m (List.mem_cons_of_mem _ hm)
    have h0 := h n List.mem_cons_self
    simp only [List.map_cons, pds, pd, PyData.canLayAll0, PyData.canLay0, h0, this, Bool.and_self]
theorem dep_strs : ∀ ns : List Str, PyData.depthAll (pds (ns.map D.str)) ≤ 1
  | [] => by decide
  | n :: ns => by
    have := dep_strs ns
    simp only [List.map_cons, pds, pd, PyData.depthAll, PyData.depth]
    omega
theorem shp_strs (ns : List Str) (hs : ∀ n ∈ ns, PyData.strOk n = true) : SeqAt.shaped (pd (.lst (ns.map D.str))) = true := by
  unfold SeqAt.shaped
  rw [show (pd (.lst (ns.map D.str))).canLay0 = true from lay_strs ns hs]
  have h := dep_strs ns
  have : (pd (.lst (ns.map D.str))).depth ≤ 64 := by
    simp only [pd, PyData.depth]
    omega
  rw [decide_eq_true this]; rfl
theorem nil_eqS (ns : List Str) : eqD (.lst (ns.map D.str)) (.lst []) = ns.isEmpty := by
  cases ns with
  | nil => rfl
  | cons n ns => rfl
theorem popL_at {xs : List Str} {i : Int} (h0 : 0 ≤ i) (h1 : i < xs.length) : ∃ m, xs[i.toNat]? = some m ∧ popL (xs.map D.str) (some i) = some (.str m, (xs.eraseIdx i.toNat).map D.str) := by
  have hl : i.toNat < xs.length := by omega
  refine ⟨xs[i.toNat], List.getElem?_eq_getElem hl, ?_⟩
  have e : ixN (xs.map D.str).length i = some i.toNat := by
    unfold ixN
    rw [List.length_map, if_pos h0, if_pos h1]
  show (match ixN (xs.map D.str).length i with
    | some j => ((xs.map D.str)[j]?).map fun x => (x, (xs.map D.str).eraseIdx j)
    | none => none) = _
  rw [e]
  show ((xs.map D.str)[i.toNat]?).map (fun x => (x, (xs.map D.str).eraseIdx i.toNat)) = _
  rw [List.getElem?_map, List.getElem?_eq_getElem hl, erase_map]
  rfl
theorem p_between {Γ : Env} (h1 : Γ.fn "_law_draw" = some (.pl conDrawN true [])) : ImplIO Γ 6 1 conBetween c__law_between := by
  intro as xs c K h
  obtain ⟨w, b, rfl, rfl, w1, w2, hc, hb, hbs, hk⟩ := h
  have go : ∀ (j : Nat) (k : Int) (l : List Deed) (b' : List Str) (c1 : Stm) (o4 o5 : Option P) (n : En), l.length + j ≤ 2 → Btw w b l b' → b'.length ≤ 100000 → c1.c + 3 * j ≤ c.c + 8 → isIo o4 = false → isIo o5 = false →
      (∀ (l : List Deed) (b' : List Str) (c' : Stm) (o4 o5 : Option P), Btw w b l b' → l.length ≤ 2 → c'.c ≤ c.c + 8 → n.nx ⟨[some .stm, some (.io (b'.map D.str)), some (.fz (.int w)), some (.own (l.map Deed.d)), o4, o5], c'⟩) →
      forGo (.one 4) (exSs Γ b_btw) (rangeD k j) n ⟨[some .stm, some (.io (b'.map D.str)), some (.fz (.int w)), some (.own (l.map Deed.d)), o4, o5], c1⟩ := by
    intro j
    induction j with
    | zero =>
      intro k l b' c1 o4 o5 n e bt hb hc1 i4 i5 hn
      exact hn l b' c1 o4 o5 bt e (by omega)
    | succ j ih =>
      intro k l b' c1 o4 o5 n e bt hb hc1 i4 i5 hn
      have hll : (l.map Deed.d).length < sizeLine := by
        rw [List.length_map]
        exact Nat.lt_of_le_of_lt (m := 2) (by omega) (by decide)
      refine And.intro i4 ?_
      conv => whnf
      rw [h1]
      conv => whnf
      refine ⟨10, rfl, by decide, by decide, show c1.c < 1000000 by omega, fun i c2 g0 g1 hc2 => ⟨fun _ => rfl, ?_⟩⟩
      have hc2 : c2.c = c1.c + 1 := hc2
      conv => whnf
      refine And.intro i5 ?_
      refine And.intro trivial ?_
      conv => whnf
      cases hd : decide (i < 6) with
      | true =>
        conv => whnf
        rw [h1]
        conv => whnf
        refine ⟨w, rfl, w1, w2, show c2.c < 1000000 by omega, fun x c3 g2 g3 hc3 => ⟨fun _ => rfl, ?_⟩⟩
        have hc3 : c3.c = c2.c + 1 := hc3
        conv => whnf
        refine And.intro (show 2 ≤ sizeLine by decide) ?_
        conv => whnf
        refine And.intro hll ?_
        have q := ih (k + 1) (l ++ [.days (1 + x)]) b' c3 (some (.fz (.int k))) (some (.fz (.int i))) n (by rw [List.length_append, List.length_singleton]; omega) (.days bt (by omega) (by omega)) hb (by omega) rfl rfl hn
        rw [List.map_append] at q
        exact q
      | false =>
        refine And.intro trivial ?_
        conv => whnf
        cases hd2 : decide (i < 8) with
        | true =>
          conv => whnf
          rw [h1]
          conv => whnf
          refine ⟨9, rfl, by decide, by decide, show c2.c < 1000000 by omega, fun x c3 g2 g3 hc3 => ⟨fun _ => rfl, ?_⟩⟩
          have hc3 : c3.c = c2.c + 1 := hc3
          conv => whnf
          refine And.intro (show 2 ≤ sizeLine by decide) ?_
          conv => whnf
          refine And.intro hll ?_
          have q := ih (k + 1) (l ++ [.pause (1 + x)]) b' c3 (some (.fz (.int k))) (some (.fz (.int i))) n (by rw [List.length_append, List.length_singleton]; omega) (.pause bt (by omega) (by omega)) hb (by omega) rfl rfl hn
          rw [List.map_append] at q
          exact q
        | false =>
          conv => whnf
          refine And.intro trivial ?_
          rw [show decide (toV (D.int i) = toV (R.fz (D.int 8)).d) = decide (i = 8) from decV i 8]
          cases hd3 : decide (i = 8) with
          | false =>
            conv => whnf
            exact ih (k + 1) l b' c2 (some (.fz (.int k))) (some (.fz (.int i))) n (by omega) bt hb (by omega) rfl rfl hn
          | true =>
            conv => whnf
            refine And.intro (by decide) ?_
            conv => whnf
            refine And.intro ?_ ?_
            · show (SeqAt.shaped (pd (.lst (b'.map D.str))) && SeqAt.shaped (pd (.lst []))) = true
              rw [shp_strs b' fun m hm => hbs m (bt.sub m hm)]; rfl
            refine And.intro trivial ?_
            rw [show eqD (D.lst (b'.map D.str)) (R.nl []).d = b'.isEmpty from nil_eqS b']
            cases b' with
            | nil =>
              conv => whnf
              exact ih (k + 1) l [] c2 (some (.fz (.int k))) (some (.fz (.int i))) n (by omega) bt hb (by omega) rfl rfl hn
            | cons m0 b' =>
              conv => whnf
              rw [h1]
              conv => whnf
              refine ⟨((m0 :: b').length : Int), by rw [← List.length_map (f := D.str)]; rfl, by simp; omega, Int.le_trans (b := 100000) (by omega) (by decide), show c2.c < 1000000 by omega, fun x c3 g2 g3 hc3 => ⟨fun _ => rfl, ?_⟩⟩
              have hc3 : c3.c = c2.c + 1 := hc3
              obtain ⟨m, em, ep⟩ := popL_at (xs := m0 :: b') g2 g3
              conv => whnf
              refine And.intro (by omega) ?_
              conv => whnf
              rw [show popL (List.map D.str (m0 :: b')) (some x) = _ from ep]
              conv => whnf
              refine And.intro (show 2 ≤ sizeLine by decide) ?_
              conv => whnf
              refine And.intro hll ?_
              have q := ih (k + 1) (l ++ [.back m]) ((m0 :: b').eraseIdx x.toNat) c3 (some (.fz (.int k))) (some (.fz (.int i))) n (by rw [List.length_append, List.length_singleton]; omega) (.back bt em) (Nat.le_trans (List.length_eraseIdx_le _ _) hb) (by omega) rfl rfl hn
              rw [List.map_append] at q
              exact q
  conv => whnf
  refine And.intro (by decide) ?_
  conv => whnf
  refine And.intro rfl ?_
  conv => whnf
  rw [h1]
  conv => whnf
  refine ⟨3, rfl, by decide, by decide, show c.c < 1000000 by omega, fun i c2 g0 g1 hc2 => ⟨fun _ => rfl, ?_⟩⟩
  have hc2 : c2.c = c.c + 1 := hc2
  conv => whnf
  refine And.intro (by omega) ?_
  exact go i.toNat 0 [] b c2 none none _ (by simp; omega) .nil hb (by omega) rfl rfl fun l b' c' o4 o5 bt hl hc' => hk l b' c' bt hl hc'
end PP

set_option Elab.async false
set_option linter.all false
set_option maxRecDepth 100000
set_option maxHeartbeats 4000000
namespace PP
open PySem L2
theorem Btw.len {w : Int} {b : List Str} {l : List Deed} {b' : List Str} (h : Btw w b l b') : b'.length ≤ b.length := by
  induction h with
  | nil => exact Nat.le_refl _
  | days _ _ _ ih => exact ih
  | pause _ _ _ ih => exact ih
  | back _ _ ih => exact Nat.le_trans (List.length_eraseIdx_le _ _) ih
/-- a row under way: the marks opened, the deeds, the marks begun -/
inductive RowR (w : Int) : List Str → List Deed → List Str → Prop
  | nil : RowR w [] [] []
  | step {ps : List Str} {row l : List Deed} {b b' : List Str} {m : Str} {n : Int} : RowR w ps row b → Btw w b l b' → 1 ≤ n → n ≤ w → RowR w (ps ++ [m]) (row ++ l ++ [.op m n]) (b' ++ [m])
def RowF (w : Int) (ps : List Str) (row : List Deed) : Prop := ∃ row0 b l b', RowR w ps row0 b ∧ Btw w b l b' ∧ row = row0 ++ l
theorem RowR.sub {w : Int} {ps : List Str} {row : List Deed} {b : List Str} (h : RowR w ps row b) : (∀ m ∈ b, m ∈ ps) ∧ b.length ≤ ps.length := by
  induction h with
  | nil => exact ⟨fun m h => h, Nat.le_refl _⟩
  | @step ps row l b b' m n _ bt _ _ ih =>
    have hl : b'.length ≤ b.length := bt.len
    refine ⟨fun x hx => ?_, by rw [List.length_append, List.length_append]; have := ih.2; simp; omega⟩
    rcases List.mem_append.mp hx with hx | hx
    · exact List.mem_append_left _ (ih.1 x (bt.sub x hx))
    · exact List.mem_append_right _ hx
def conRow : Con := fun as c K _ => ∃ (pool : List Str) (w : Int), as = [none, some (.lst (pool.map D.str)), some (.int w)] ∧ 1 ≤ w ∧ w ≤ 10 ^ 100 ∧ pool.length ≤ 1000 ∧ (∀ m ∈ pool, MarkOk m) ∧ c.c + 12 * (pool.length + 2) < 1000000 ∧
  ∀ (row : List Deed) (c' : Stm), RowF w pool row → row.length ≤ 3 * pool.length + 2 → c'.c ≤ c.c + 10 * (pool.length + 1) → K (.nl (row.map Deed.d)) c'
def b_lrow : List Sx := [(.ext 4 (.io "_law_between" [(.var 0), (.var 5), (.var 2)])), (.app 4 (.tup [(.str "open"), (.var 3), (.bin .add (.int 1) (.call "_law_draw" [(.var 0), (.var 2)] 0))])), (.app 5 (.var 3))]
theorem p_row {Γ : Env} (h1 : Γ.fn "_law_draw" = some (.pl conDrawN true [])) (h2 : Γ.fn "_law_between" = some (.io 1 conBetween)) : Impl Γ 6 conRow c__law_row := by
  intro as c K h
  obtain ⟨pool, w, rfl, w1, w2, hp, hm, hc, hk⟩ := h
  have hio : ioIx Γ "_law_between" = 1 := by unfold ioIx; rw [h2]
  have big : ∀ n, n ≤ 100000 → n < sizeLine := fun n h => Nat.lt_of_le_of_lt h (by decide)
  have bigs : ∀ n, n ≤ 100000 → n ≤ sizeLine := fun n h => Nat.le_of_lt (big n h)
  have go : ∀ (p2 p1 : List Str) (row : List Deed) (b : List Str) (c1 : Stm) (o3 : Option P) (n : En), p1 ++ p2 = pool → RowR w p1 row b → row.length ≤ 3 * p1.length → c1.c ≤ c.c + 10 * p1.length → isIo o3 = false →
      (∀ (row : List Deed) (b : List Str) (c' : Stm) (o3 : Option P), RowR w pool row b → row.length ≤ 3 * pool.length → c'.c ≤ c.c + 10 * pool.length → n.nx ⟨[some .stm, some (.fz (.lst (pool.map D.str))), some (.fz (.int w)), o3, some (.own (row.map Deed.d)), some (.own (b.map D.str))], c'⟩) →
      forGo (.one 3) (exSs Γ b_lrow) (p2.map D.str) n ⟨[some .stm, some (.fz (.lst (pool.map D.str))), some (.fz (.int w)), o3, some (.own (row.map Deed.d)), some (.own (b.map D.str))], c1⟩ := by
    intro p2
    induction p2 with
    | nil =>
      intro p1 row b c1 o3 n e rr hl hc1 i3 hn
      rw [List.append_nil] at e
      subst e
      exact hn row b c1 o3 rr hl hc1
    | cons m p2 ih =>
      intro p1 row b c1 o3 n e rr hl hc1 i3 hn
      have hpl : p1.length < pool.length := by rw [← e]; simp
      have hb := rr.sub
      refine And.intro i3 ?_
      conv => whnf
      rw [h2]
      conv => whnf
      rw [hio]
      conv => whnf
      refine ⟨w, b, rfl, rfl, w1, w2, show c1.c + 12 < 1000000 by omega, by omega, fun m hmm => mark_str (hm m (by rw [← e]; exact List.mem_append_left _ (hb.1 m hmm))), fun l b' c2 bt hll hc2 => ?_⟩
      have hc2 : c2.c ≤ c1.c + 8 := hc2
      conv => whnf
      refine And.intro ?_ ?_
      · rw [List.length_map, List.length_map]; exact bigs _ (by omega)
      conv => whnf
      rw [h1]
      conv => whnf
      refine ⟨w, rfl, w1, w2, show c2.c < 1000000 by omega, fun x c3 g2 g3 hc3 => ⟨fun _ => rfl, ?_⟩⟩
      have hc3 : c3.c = c2.c + 1 := hc3
      conv => whnf
      refine And.intro (show 3 ≤ sizeLine by decide) ?_
      conv => whnf
      refine And.intro ?_ ?_
      · rw [List.length_append, List.length_map, List.length_map]; exact big _ (by omega)
      conv => whnf
      have bl : b'.length ≤ b.length := bt.len
      refine And.intro ?_ ?_
      · rw [List.length_map]; exact big _ (by omega)
      have q := ih (p1 ++ [m]) (row ++ l ++ [.op m (1 + x)]) (b' ++ [m]) c3 (some (.fz (.str m))) n (by rw [← e]; simp) (.step rr bt (by omega) (by omega)) (by simp; omega) (by simp; omega) rfl hn
      rw [List.map_append, List.map_append, List.map_append] at q
      exact q
  conv => whnf
  refine And.intro (by decide) ?_
  conv => whnf
  refine And.intro (by decide) ?_
  conv => whnf
  refine And.intro rfl ?_
  conv => whnf
  refine And.intro rfl ?_
  refine go pool [] [] [] c none _ rfl .nil (by simp) (by simp) rfl fun row b c1 o3 rr hl hc1 => ?_
  conv => whnf
  rw [h2]
  conv => whnf
  rw [hio]
  conv => whnf
  have hb := rr.sub
  refine ⟨w, b, rfl, rfl, w1, w2, show c1.c + 12 < 1000000 by omega, by omega, fun m hmm => mark_str (hm m (hb.1 m hmm)), fun l b' c2 bt hll hc2 => ?_⟩
  have hc2 : c2.c ≤ c1.c + 8 := hc2
  conv => whnf
  refine And.intro ?_ ?_
  · rw [List.length_map, List.length_map]; exact bigs _ (by omega)
  have q := hk (row ++ l) c2 ⟨row, b, l, b', rr, bt, rfl⟩ (by rw [List.length_append]; omega) (by omega)
  rw [List.map_append] at q
  exact q
end PP

set_option Elab.async false
set_option linter.all false
set_option maxRecDepth 100000
set_option maxHeartbeats 4000000
namespace PP
open PySem L2
/-! ### drawn rows are rows -/
theorem vd_snoc {d : Deed} : ∀ {l : List Deed} {op : List Str} {a : Ac}, vd op a l → newOp (op ++ l.flatMap opens) d → (a.run l).ok d → vd op a (l ++ [d])
  | [], op, a, _, h1, h2 => ⟨by simpa using h1, h2, trivial⟩
  | x :: l, op, a, h, h1, h2 => ⟨h.1, h.2.1, vd_snoc h.2.2 (by rw [List.flatMap_cons, ← List.append_assoc] at h1; exact h1) h2⟩
theorem vd_append {r : List Deed} : ∀ {l : List Deed} {op : List Str} {a : Ac}, vd op a l → vd (op ++ l.flatMap opens) (a.run l) r → vd op a (l ++ r)
  | [], op, a, _, h => by simpa [Ac.run] using h
  | x :: l, op, a, h, h1 => ⟨h.1, h.2.1, vd_append h.2.2 (by rw [List.flatMap_cons, ← List.append_assoc] at h1; exact h1)⟩
theorem run_append (a : Ac) : ∀ (l r : List Deed), a.run (l ++ r) = (a.run l).run r
  | [], _ => rfl
  | x :: l, r => run_append (a.step x) l r
theorem step_keys (a : Ac) (d : Deed) : ∀ m ∈ (a.step d).given.map (·.1), m ∈ a.given.map (·.1) ∨ m ∈ opens d := by
  intro m hm
  cases d with
  | op x n =>
    simp only [Ac.step, List.map_append, List.map_cons, List.map_nil, List.mem_append, List.mem_singleton] at hm
    exact hm.imp id fun e => by simp [opens, e]
  | days n => exact .inl hm
  | pause n => exact .inl hm
  | back x =>
    simp only [Ac.step] at hm
    obtain ⟨p, hp, rfl⟩ := List.mem_map.mp hm
    exact .inl (List.mem_map.mpr ⟨p, (List.mem_filter.mp hp).1, rfl⟩)
theorem run_keys (a : Ac) : ∀ (r : List Deed), ∀ m ∈ (a.run r).given.map (·.1), m ∈ a.given.map (·.1) ∨ m ∈ r.flatMap opens
  | [], m, h => .inl h
  | d :: r, m, h => by
    rcases run_keys (a.step d) r m h with q | q
    · rcases step_keys a d m q with q | q
      · exact .inl q
      · exact .inr (by rw [List.flatMap_cons]; exact List.mem_append_left _ q)
    · exact .inr (by rw [List.flatMap_cons]; exact List.mem_append_right _ q)
theorem btw_ok {w : Int} {b : List Str} {l : List Deed} {b' : List Str} (h : Btw w b l b') {op : List Str} {a : Ac} (hb : ∀ m ∈ b, m ∈ a.given.map (·.1)) (nd : b.Nodup) (mk : ∀ m ∈ b, MarkOk m) :
    vd op a l ∧ (∀ m ∈ b', m ∈ (a.run l).given.map (·.1)) ∧ b'.Nodup ∧ l.flatMap opens = [] ∧ ∀ d ∈ l, okD d := by
  induction h with
  | nil => exact ⟨trivial, hb, nd, rfl, fun d h => by simp at h⟩
  | @days l b' n bt h1 h2 ih =>
    obtain ⟨i1, i2, i3, i4, i5⟩ := ih
    refine ⟨vd_snoc i1 trivial trivial, by rw [run_snoc]; exact i2, i3, by rw [List.flatMap_append, i4]; rfl, fun d hd => ?_⟩
    rcases List.mem_append.mp hd with hd | hd
    · exact i5 d hd
    · rw [List.mem_singleton.mp hd]; show 0 < n; omega
  | @pause l b' n bt h1 h2 ih =>
    obtain ⟨i1, i2, i3, i4, i5⟩ := ih
    refine ⟨vd_snoc i1 trivial trivial, by rw [run_snoc]; exact i2, i3, by rw [List.flatMap_append, i4]; rfl, fun d hd => ?_⟩
    rcases List.mem_append.mp hd with hd | hd
    · exact i5 d hd
    · rw [List.mem_singleton.mp hd]; show 0 < n; omega
  | @back l b' m j bt hj ih =>
    obtain ⟨i1, i2, i3, i4, i5⟩ := ih
    have hm : m ∈ b' := List.mem_of_getElem? hj
    have ndj : ∀ x ∈ b'.eraseIdx j, x ≠ m := fun x hx e => by
      obtain ⟨i, hi1, hi2⟩ := List.mem_eraseIdx_iff_getElem?.mp hx
      subst e
      exact hi1 ((List.getElem?_inj (List.getElem?_eq_some_iff.mp hi2).1 i3).mp (by rw [hi2, hj]))
    refine ⟨vd_snoc i1 trivial (i2 m hm), fun x hx => ?_, i3.eraseIdx j, by rw [List.flatMap_append, i4]; rfl, fun d hd => ?_⟩
    · rw [run_snoc]
      have q := i2 x (List.mem_of_mem_eraseIdx hx)
      obtain ⟨p, hp, rfl⟩ := List.mem_map.mp q
      exact List.mem_map.mpr ⟨p, List.mem_filter.mpr ⟨hp, decide_eq_true (ndj _ hx)⟩, rfl⟩
    · rcases List.mem_append.mp hd with hd | hd
      · exact i5 d hd
      · rw [List.mem_singleton.mp hd]; exact mk m (bt.sub m hm)
theorem rowR_ok {w : Int} {ps : List Str} {row : List Deed} {b : List Str} (h : RowR w ps row b) (nd : ps.Nodup) (mk : ∀ m ∈ ps, MarkOk m) :
    vd [] ac0 row ∧ (∀ m ∈ b, m ∈ (ac0.run row).given.map (·.1)) ∧ b.Nodup ∧ row.flatMap opens = ps ∧ ∀ d ∈ row, okD d := by
  induction h with
  | nil => exact ⟨trivial, fun m h => by simp at h, List.nodup_nil, rfl, fun d h => by simp at h⟩
  | @step ps row l b b' m n rr bt h1 h2 ih =>
    have nd0 := nd
    rw [List.nodup_append] at nd
    obtain ⟨i1, i2, i3, i4, i5⟩ := ih nd.1 fun x hx => mk x (List.mem_append_left _ hx)
    obtain ⟨j1, j2, j3, j4, j5⟩ := btw_ok bt (op := [] ++ row.flatMap opens) i2 i3 fun x hx => mk x (List.mem_append_left _ (rr.sub.1 x hx))
    have hmn : m ∉ ps := fun q => nd.2.2 m q m (by simp) rfl
    have e1 : (row ++ l).flatMap opens = ps := by rw [List.flatMap_append, i4, j4, List.append_nil]
    have v1 : vd [] ac0 (row ++ l) := vd_append i1 j1
    have hk : m ∉ (ac0.run (row ++ l)).given.map (·.1) := fun q => by
      rcases run_keys ac0 _ m q with q | q
      · simp [ac0] at q
      · rw [e1] at q; exact hmn q
    refine ⟨vd_snoc v1 ?_ hk, fun x hx => ?_, ?_, by rw [List.flatMap_append, e1]; rfl, fun d hd => ?_⟩
    · show m ∉ [] ++ (row ++ l).flatMap opens
      rw [e1]; simpa using hmn
    · rw [run_snoc]
      show x ∈ ((ac0.run (row ++ l)).given ++ [(m, n)]).map (·.1)
      rw [List.map_append, run_append]
      rcases List.mem_append.mp hx with hx | hx
      · exact List.mem_append_left _ (j2 x hx)
      · exact List.mem_append_right _ hx
    · rw [List.nodup_append]
      refine ⟨j3, by simp, fun x hx y hy e => hmn ?_⟩
      rw [List.mem_singleton.mp hy] at e
      rw [← e]; exact rr.sub.1 x (bt.sub x hx)
    · rcases List.mem_append.mp hd with hd | hd
      · rcases List.mem_append.mp hd with hd | hd
        · exact i5 d hd
        · exact j5 d hd
      · rw [List.mem_singleton.mp hd]; exact ⟨mk m (by simp), by omega⟩
theorem rowF_ok {w : Int} {ps : List Str} {row : List Deed} (h : RowF w ps row) (nd : ps.Nodup) (mk : ∀ m ∈ ps, MarkOk m) (hl : row.length ≤ 100000) : ValidRow row ∧ row.flatMap opens = ps := by
  obtain ⟨row0, b, l, b', rr, bt, rfl⟩ := h
  obtain ⟨i1, i2, i3, i4, i5⟩ := rowR_ok rr nd mk
  obtain ⟨j1, j2, j3, j4, j5⟩ := btw_ok bt (op := [] ++ row0.flatMap opens) i2 i3 fun x hx => mk x (rr.sub.1 x hx)
  refine ⟨⟨fun d hd => ?_, hl, vd_append i1 j1⟩, by rw [List.flatMap_append, i4, j4, List.append_nil]⟩
  rcases List.mem_append.mp hd with hd | hd
  · exact i5 d hd
  · exact j5 d hd
/-! ### which marks count -/
def backs : Deed → List Str
  | .back m => [m]
  | _ => []
theorem snoc_ind {α : Type} {C : List α → Prop} (h0 : C []) (hs : ∀ l x, C l → C (l ++ [x])) (l : List α) : C l := by
  have : ∀ r : List α, C r.reverse := fun r => by
    induction r with
    | nil => exact h0
    | cons x r ih => rw [List.reverse_cons]; exact hs _ _ ih
  rw [← List.reverse_reverse l]; exact this _
theorem count_marks : ∀ row : List Deed, vd [] ac0 row → marksOf row = (row.flatMap opens).filter (fun m => decide (m ∉ row.flatMap backs)) ∧ ∀ m ∈ row.flatMap backs, m ∈ row.flatMap opens := by
  refine snoc_ind (fun _ => ⟨rfl, fun m h => by simp at h⟩) fun l d ih h => ?_
  obtain ⟨v1, hnew, hok, _⟩ := vd_app h
  obtain ⟨e, hb⟩ := ih v1
  have ek : marksOf (l ++ [d]) = ((ac0.run l).step d).given.map (·.1) := by unfold marksOf acOf; rw [run_snoc]
  rw [ek, List.flatMap_append, List.flatMap_append]
  cases d with
  | op m n =>
    have hnew : m ∉ l.flatMap opens := by simpa [newOp] using hnew
    refine ⟨?_, fun x hx => List.mem_append_left _ (hb x (by simpa [backs] using hx))⟩
    show ((ac0.run l).given ++ [(m, n)]).map (·.1) = _
    rw [List.map_append, show (ac0.run l).given.map (·.1) = marksOf l from rfl, e]
    have hmb : m ∉ l.flatMap backs := fun q => hnew (hb m q)
    have e2 : ([Deed.op m n].flatMap backs) = [] := rfl
    have e3 : ([Deed.op m n].flatMap opens) = [m] := rfl
    rw [e2, e3, List.append_nil, List.filter_append, List.filter_cons_of_pos (by simpa using hmb)]
    rfl
  | days n =>
    have e2 : ([Deed.days n].flatMap backs) = [] := rfl
    have e3 : ([Deed.days n].flatMap opens) = [] := rfl
    rw [e2, e3, List.append_nil, List.append_nil]
    exact ⟨e, hb⟩
  | pause n =>
    have e2 : ([Deed.pause n].flatMap backs) = [] := rfl
    have e3 : ([Deed.pause n].flatMap opens) = [] := rfl
    rw [e2, e3, List.append_nil, List.append_nil]
    exact ⟨e, hb⟩
  | back m =>
    have e2 : ([Deed.back m].flatMap backs) = [m] := rfl
    have e3 : ([Deed.back m].flatMap opens) = [] := rfl
    rw [e2, e3, List.append_nil]
    have hmo : m ∈ l.flatMap opens := by
      rcases run_keys ac0 l m hok with q | q
      · simp [ac0] at q
      · exact q
    refine ⟨?_, fun x hx => ?_⟩
    · show ((ac0.run l).given.filter fun p => decide (p.1 ≠ m)).map (·.1) = _
      have e4 : ((ac0.run l).given.filter fun p => decide (p.1 ≠ m)).map (·.1) = (marksOf l).filter fun x => decide (x ≠ m) := by
        show _ = ((ac0.run l).given.map (·.1)).filter _
        rw [List.filter_map]; rfl
      rw [e4, e, List.filter_filter]
      apply List.filter_congr
      intro x _
      simp [Bool.and_comm]
    · rcases List.mem_append.mp hx with hx | hx
      · exact hb x hx
      · rw [List.mem_singleton.mp hx]; exact hmo
end PP

set_option Elab.async false
set_option linter.all false
set_option maxRecDepth 100000
set_option maxHeartbeats 4000000
namespace PP
open PySem L2
def conCounting : Con := fun as c K _ => ∃ row, as = [some (.lst (row.map Deed.d))] ∧ ValidRow row ∧ K (.nl ((marksOf row).map D.str)) c
theorem cnt_lc1 {Γ : Env} {d0 : P} {o1 : Option P} {c : Stm} {Kc : List D → S → Prop} {e : XC} : ∀ (r : List Deed) (acc : List D) (o : Option P), isIo o = false → (∀ o, isIo o = false → Kc (acc ++ (r.flatMap backs).map D.str) ⟨[some d0, o1, o], c⟩) →
    lcGo (.one 2) (evTs Γ [(.cmp .eq (.idx (.var 2) (.int 0)) (.str "back"))]) (toD (evP Γ (.idx (.var 2) (.int 1))).r) (r.map Deed.d) acc ⟨[some d0, o1, o], c⟩ Kc e := by
  intro r
  induction r with
  | nil =>
    intro acc o i hk
    have q := hk o i
    rw [List.flatMap_nil, List.map_nil, List.append_nil] at q
    exact q
  | cons d r ih =>
    intro acc o i hk
    refine And.intro (show (!isIo o && true) = true by rw [i]; rfl) ?_
    refine And.intro rfl ?_
    cases d with
    | back m =>
      refine And.intro trivial ?_
      refine ih (acc ++ [.str m]) (some (.fz (Deed.back m).d)) rfl fun o i => ?_
      have q := hk o i
      rw [List.flatMap_cons, List.map_append] at q
      rw [List.append_assoc]
      exact q
    | op m n => exact And.intro trivial (ih acc (some (.fz (Deed.op m n).d)) rfl hk)
    | days n => exact And.intro trivial (ih acc (some (.fz (Deed.days n).d)) rfl hk)
    | pause n => exact And.intro trivial (ih acc (some (.fz (Deed.pause n).d)) rfl hk)
theorem cnt_lc2 {Γ : Env} {d0 : P} {bs : List Str} {c : Stm} {Kc : List D → S → Prop} {e : XC} : ∀ (r : List Deed) (acc : List D) (o : Option P), isIo o = false → (∀ o, isIo o = false → Kc (acc ++ (((r.flatMap opens).filter fun m => decide (m ∉ bs))).map D.str) ⟨[some d0, some (.own (bs.map D.str)), o], c⟩) →
    lcGo (.one 2) (evTs Γ [(.and (.cmp .eq (.idx (.var 2) (.int 0)) (.str "open")) (.cmp .notin (.idx (.var 2) (.int 1)) (.var 1)))]) (toD (evP Γ (.idx (.var 2) (.int 1))).r) (r.map Deed.d) acc ⟨[some d0, some (.own (bs.map D.str)), o], c⟩ Kc e := by
  intro r
  induction r with
  | nil =>
    intro acc o i hk
    have q := hk o i
    rw [List.flatMap_nil, List.filter_nil, List.map_nil, List.append_nil] at q
    exact q
  | cons d r ih =>
    intro acc o i hk
    refine And.intro (show (!isIo o && true) = true by rw [i]; rfl) ?_
    refine And.intro rfl ?_
    cases d with
    | op m n =>
      refine And.intro trivial ?_
      refine And.intro ⟨rfl, strs_scal _⟩ ?_
      refine And.intro trivial ?_
      conv => whnf
      rw [inD_strs']
      cases hd : decide (m ∈ bs) with
      | false =>
        refine ih (acc ++ [.str m]) (some (.fz (Deed.op m n).d)) rfl fun o i => ?_
        have q := hk o i
        rw [List.flatMap_cons, show opens (Deed.op m n) = [m] from rfl, List.filter_append, List.filter_cons_of_pos (by simpa using of_decide_eq_false hd), List.map_append] at q
        rw [List.append_assoc]
        exact q
      | true =>
        refine ih acc (some (.fz (Deed.op m n).d)) rfl fun o i => ?_
        have q := hk o i
        rw [List.flatMap_cons, show opens (Deed.op m n) = [m] from rfl, List.filter_append, List.filter_cons_of_neg (by simpa using of_decide_eq_true hd)] at q
        exact q
    | back m => exact And.intro trivial (ih acc (some (.fz (Deed.back m).d)) rfl hk)
    | days n => exact And.intro trivial (ih acc (some (.fz (Deed.days n).d)) rfl hk)
    | pause n => exact And.intro trivial (ih acc (some (.fz (Deed.pause n).d)) rfl hk)
theorem p_counting {Γ : Env} : Impl Γ 3 conCounting c__law_counting := by
  intro as c K h
  obtain ⟨row, rfl, hv, hk⟩ := h
  rw [(count_marks row hv.vd).1] at hk
  conv => whnf
  refine cnt_lc1 row [] none rfl fun o i => ?_
  refine And.intro (show (!isIo o && true) = true by rw [i]; rfl) ?_
  refine And.intro rfl ?_
  conv => whnf
  refine cnt_lc2 row [] none rfl fun o i => ?_
  refine And.intro (show (!isIo o && true) = true by rw [i]; rfl) ?_
  exact hk
/-! ### all sets -/
def leS (a b : Str) : Bool := decide (a.cps.toList ≤ b.cps.toList)
def sortS (ms : List Str) : List Str := ms.mergeSort leS
theorem srt_strs (ms : List Str) : srtD (ms.map D.str) = (sortS ms).map D.str := by
  unfold srtD sortS
  refine (PySem.W.sort_maps D.str fun a _ b _ => ?_).symm
  show leS a b = PySem.W.dataLe false (fun x : Str => PyData.str x) a b
  rw [PySem.W.dataLe_str]; rfl
theorem alike_strs : ∀ a b : List Str, PySem.W.alikeAll (pds (a.map D.str)) (pds (b.map D.str)) = true
  | [], _ => by simp [pds, PySem.W.alikeAll]
  | _ :: _, [] => by simp [pds, PySem.W.alikeAll]
  | x :: a, y :: b => by
    have := alike_strs a b
    simp only [List.map_cons, pds, pd, PySem.W.alikeAll, PySem.W.alike, this, Bool.and_self]
theorem srtOk_strs {ms : List Str} (h : ∀ m ∈ ms, PyData.strOk m = true) : srtOk (ms.map D.str) := by
  refine ⟨?_, ?_, fun d hd => ?_⟩
  · rw [List.map_map]
    exact PySem.W.AllAlike.of fun a b => by simp [pd, PySem.W.alike]
  · rw [List.map_map]
    exact PySem.W.Sortable.others fun a => ⟨nofun, nofun⟩
  · obtain ⟨m, hm, rfl⟩ := List.mem_map.mp hd
    exact ⟨h m hm, by simp [pd, PyData.depth]⟩
def grow (acc : List (List Str)) (m : Str) : List (List Str) := acc ++ acc.map (· ++ [m])
def subs (ms : List Str) : List (List Str) := ms.foldl grow [[]]
def tD (s : List Str) : D := .tup (s.map D.str)
def rD (s : List Str) : D := .lst (.int s.length :: s.map D.str)
def setsOf (ms : List Str) : List (List Str) := (subs (sortS ms)).mergeSort fun a b => PySem.W.dataLe false pd (rD a) (rD b)
theorem srt_rows (l : List (List Str)) : srtD (l.map rD) = (l.mergeSort fun a b => PySem.W.dataLe false pd (rD a) (rD b)).map rD := (PySem.W.sort_maps rD fun _ _ _ _ => rfl).symm
theorem srtOk_rows {l : List (List Str)} (h : ∀ s ∈ l, ∀ m ∈ s, PyData.strOk m = true) : srtOk (l.map rD) := by
  refine ⟨?_, ?_, fun d hd => ?_⟩
  · rw [List.map_map]
    exact PySem.W.AllAlike.of fun a b => by
      show PySem.W.alike (.list (.int _ :: pds (a.map D.str))) (.list (.int _ :: pds (b.map D.str))) = true
      simp only [PySem.W.alike, PySem.W.alikeAll, alike_strs, Bool.and_self]
  · rw [List.map_map]
    exact PySem.W.Sortable.others fun a => ⟨nofun, nofun⟩
  · obtain ⟨s, hs, rfl⟩ := List.mem_map.mp hd
    constructor
    · show PyData.canLay0 (.list (.int _ :: pds (s.map D.str))) = true
      have := lay_strs s (h s hs)
      simp only [PyData.canLay0, PyData.canLayAll0, this, Bool.and_self]
    · show PyData.depth (.list (.int _ :: pds (s.map D.str))) ≤ 60
      have := dep_strs s
      simp only [PyData.depth, PyData.depthAll]
      omega
theorem grow_len (acc : List (List Str)) (m : Str) : (grow acc m).length = 2 * acc.length := by
  unfold grow
  rw [List.length_append, List.length_map]; omega
theorem cut_tail (n : D) (xs : List D) : cutD (n :: xs) (some 1) none = xs := by
  unfold cutD HT.sIx
  simp
def conSets : Con := fun as c K _ => ∃ ms : List Str, as = [some (.lst (ms.map D.str))] ∧ ms.length ≤ 16 ∧ (∀ m ∈ ms, PyData.strOk m = true) ∧ K (.nl ((setsOf ms).map tD)) c
theorem sets_lc1 {Γ : Env} {d0 : P} {o1 : Option P} {m : Str} {c : Stm} {Kc : List D → S → Prop} {e : XC} : ∀ (l : List (List Str)) (acc : List D) (o : Option P), isIo o = false → (∀ s ∈ l, s.length ≤ 1000) → (∀ o, isIo o = false → Kc (acc ++ (l.map (· ++ [m])).map tD) ⟨[some d0, o1, some (.fz (.str m)), o], c⟩) →
    lcGo (.one 3) (evTs Γ []) (toD (evP Γ (.bin .add (.var 3) (.tup [(.var 2)]))).r) (l.map tD) acc ⟨[some d0, o1, some (.fz (.str m)), o], c⟩ Kc e := by
  intro l
  induction l with
  | nil =>
    intro acc o i hl hk
    have q := hk o i
    rw [List.map_nil, List.map_nil, List.append_nil] at q
    exact q
  | cons s l ih =>
    intro acc o i hl hk
    refine And.intro (show (!isIo o && true) = true by rw [i]; rfl) ?_
    refine And.intro rfl ?_
    refine And.intro (show 1 ≤ sizeLine by decide) ?_
    refine And.intro ?_ ?_
    · show (s.map D.str).length + 1 ≤ sizeLine
      rw [List.length_map]
      exact Nat.le_trans (Nat.add_le_add_right (hl s List.mem_cons_self) 1) (by decide)
    have q := ih (acc ++ [tD (s ++ [m])]) (some (.fz (tD s))) rfl (fun x hx => hl x (List.mem_cons_of_mem _ hx)) (fun o i => by
      have q := hk o i
      rw [List.map_cons, List.map_cons] at q
      rw [List.append_assoc]
      exact q)
    have e : tD (s ++ [m]) = .tup (s.map D.str ++ [.str m]) := by unfold tD; rw [List.map_append]; rfl
    rw [e] at q
    exact q
theorem sets_lc2 {Γ : Env} {d0 : P} {o1 o2 : Option P} {c : Stm} {Kc : List D → S → Prop} {e : XC} : ∀ (l : List (List Str)) (acc : List D) (o : Option P), isIo o = false → (∀ s ∈ l, s.length ≤ 1000) → (∀ o, isIo o = false → Kc (acc ++ l.map rD) ⟨[some d0, o1, o2, o], c⟩) →
    lcGo (.one 3) (evTs Γ []) (toD (evP Γ (.bin .add (.lst [(.bi .len [(.var 3)])]) (.bi .list [(.var 3)]))).r) (l.map tD) acc ⟨[some d0, o1, o2, o], c⟩ Kc e := by
  intro l
  induction l with
  | nil =>
    intro acc o i hl hk
    have q := hk o i
    rw [List.map_nil, List.append_nil] at q
    exact q
  | cons s l ih =>
    intro acc o i hl hk
    refine And.intro (show (!isIo o && true) = true by rw [i]; rfl) ?_
    refine And.intro rfl ?_
    refine And.intro (show 1 ≤ sizeLine by decide) ?_
    refine And.intro ?_ ?_
    · show 1 + (s.map D.str).length ≤ sizeLine
      rw [List.length_map, Nat.add_comm]
      exact Nat.le_trans (Nat.add_le_add_right (hl s List.mem_cons_self) 1) (by decide)
    have q := ih (acc ++ [rD s]) (some (.fz (tD s))) rfl (fun x hx => hl x (List.mem_cons_of_mem _ hx)) (fun o i => by
      have q := hk o i
      rw [List.map_cons] at q
      rw [List.append_assoc]
      exact q)
    have e : rD s = .lst ([.int ((s.map D.str).length : Int)] ++ s.map D.str) := by unfold rD; rw [List.length_map]; rfl
    rw [e] at q
    exact q
theorem sets_lc3 {Γ : Env} {d0 : P} {o1 o2 : Option P} {c : Stm} {Kc : List D → S → Prop} {e : XC} : ∀ (l : List (List Str)) (acc : List D) (o : Option P), isIo o = false → (∀ o, isIo o = false → Kc (acc ++ l.map tD) ⟨[some d0, o1, o2, o], c⟩) →
    lcGo (.one 3) (evTs Γ []) (toD (evP Γ (.bi .tuple [(.sli (.var 3) (some (.int 1)) none)])).r) (l.map rD) acc ⟨[some d0, o1, o2, o], c⟩ Kc e := by
  intro l
  induction l with
  | nil =>
    intro acc o i hk
    have q := hk o i
    rw [List.map_nil, List.append_nil] at q
    exact q
  | cons s l ih =>
    intro acc o i hk
    refine And.intro (show (!isIo o && true) = true by rw [i]; rfl) ?_
    refine And.intro rfl ?_
    have q := ih (acc ++ [tD s]) (some (.fz (rD s))) rfl (fun o i => by
      have q := hk o i
      rw [List.map_cons] at q
      rw [List.append_assoc]
      exact q)
    have e : tD s = .tup (cutD (.int (s.length : Int) :: s.map D.str) (some 1) none) := by rw [cut_tail]; rfl
    rw [e] at q
    exact q
theorem subs_all {acc : List (List Str)} {m : Str} {C : Str → Prop} (h : ∀ s ∈ acc, ∀ x ∈ s, C x) (hm : C m) : ∀ s ∈ grow acc m, ∀ x ∈ s, C x := by
  intro s hs x hx
  rcases List.mem_append.mp hs with hs | hs
  · exact h s hs x hx
  · obtain ⟨t, ht, rfl⟩ := List.mem_map.mp hs
    rcases List.mem_append.mp hx with hx | hx
    · exact h t ht x hx
    · rw [List.mem_singleton.mp hx]; exact hm
theorem subs_len {acc : List (List Str)} {m : Str} {n : Nat} (h : ∀ s ∈ acc, s.length ≤ n) : ∀ s ∈ grow acc m, s.length ≤ n + 1 := by
  intro s hs
  rcases List.mem_append.mp hs with hs | hs
  · exact Nat.le_succ_of_le (h s hs)
  · obtain ⟨t, ht, rfl⟩ := List.mem_map.mp hs
    rw [List.length_append, List.length_singleton]
    exact Nat.succ_le_succ (h t ht)
theorem p_sets {Γ : Env} : Impl Γ 4 conSets c__law_sets := by
  intro as c K h
  obtain ⟨ms, rfl, hl, hs, hk⟩ := h
  have go : ∀ (p2 p1 : List Str) (acc : List (List Str)) (o2 o3 : Option P) (n : En), p1 ++ p2 = sortS ms → acc = p1.foldl grow [[]] → acc.length ≤ 2 ^ p1.length → (∀ s ∈ acc, s.length ≤ p1.length) → isIo o2 = false → isIo o3 = false →
      (∀ o2 o3, isIo o2 = false → isIo o3 = false → (∀ s ∈ subs (sortS ms), s.length ≤ 1000) → n.nx ⟨[some (.fz (.lst (ms.map D.str))), some (.own ((subs (sortS ms)).map tD)), o2, o3], c⟩) →
      forGo (.one 2) (exSs Γ [(.asg 1 (.bin .add (.var 1) (.lc (.var 1) (.one 3) [] (.bin .add (.var 3) (.tup [(.var 2)])))))]) (p2.map D.str) n ⟨[some (.fz (.lst (ms.map D.str))), some (.own (acc.map tD)), o2, o3], c⟩ := by
    have hsl : (sortS ms).length = ms.length := List.length_mergeSort _
    intro p2
    induction p2 with
    | nil =>
      intro p1 acc o2 o3 n e ea hal hsl' i2 i3 hn
      rw [List.append_nil] at e
      subst e
      subst ea
      exact hn o2 o3 i2 i3 fun s hs => Nat.le_trans (hsl' s hs) (by omega)
    | cons m p2 ih =>
      intro p1 acc o2 o3 n e ea hal hsl' i2 i3 hn
      have hp : p1.length < 16 := by
        have : p1.length < (sortS ms).length := by rw [← e]; simp
        omega
      have hpow : 2 ^ p1.length ≤ 2 ^ 15 := Nat.pow_le_pow_right (by decide) (by omega)
      refine And.intro i2 ?_
      conv => whnf
      refine sets_lc1 acc [] o3 i3 (fun s hs => Nat.le_trans (hsl' s hs) (by omega)) fun o3 i3 => ?_
      refine And.intro (show (!isIo o3 && true) = true by rw [i3]; rfl) ?_
      conv => whnf
      refine And.intro ?_ ?_
      · show (acc.map tD).length + (([] : List D) ++ (acc.map (· ++ [m])).map tD).length ≤ sizeLine
        rw [List.nil_append, List.length_map, List.length_map, List.length_map]
        exact Nat.le_trans (m := 65536) (by omega) (by decide)
      conv => whnf
      refine And.intro rfl ?_
      have q := ih (p1 ++ [m]) (grow acc m) (some (.fz (.str m))) none n (by rw [← e]; simp) (by rw [List.foldl_append, ← ea]; rfl) (by rw [grow_len, List.length_append, List.length_singleton, Nat.pow_succ]; omega) (by
        rw [List.length_append, List.length_singleton]
        exact subs_len hsl') rfl rfl hn
      unfold grow at q
      rw [List.map_append] at q
      exact q
  conv => whnf
  refine And.intro (by decide) ?_
  conv => whnf
  refine And.intro (by decide) ?_
  conv => whnf
  refine And.intro rfl ?_
  conv => whnf
  refine And.intro (srtOk_strs hs) ?_
  conv => whnf
  rw [srt_strs]
  refine go (sortS ms) [] [[]] none none _ rfl rfl (by decide) (by simp) rfl rfl fun o2 o3 i2 i3 hsl => ?_
  conv => whnf
  refine sets_lc2 (subs (sortS ms)) [] o3 i3 hsl fun o3 i3 => ?_
  refine And.intro (show (!isIo o3 && true) = true by rw [i3]; rfl) ?_
  conv => whnf
  have hall : ∀ s ∈ subs (sortS ms), ∀ m ∈ s, PyData.strOk m = true := by
    have : ∀ (l : List Str) (acc : List (List Str)), (∀ m ∈ l, PyData.strOk m = true) → (∀ s ∈ acc, ∀ m ∈ s, PyData.strOk m = true) → ∀ s ∈ l.foldl grow acc, ∀ m ∈ s, PyData.strOk m = true := fun l => by
      induction l with
      | nil => exact fun acc _ h => h
      | cons x l ih => exact fun acc h1 h2 => ih (grow acc x) (fun m hm => h1 m (List.mem_cons_of_mem _ hm)) (subs_all h2 (h1 x List.mem_cons_self))
    exact this _ _ (fun m hm => hs m (List.mem_mergeSort.mp hm)) (by simp)
  refine And.intro (srtOk_rows hall) ?_
  conv => whnf
  rw [show srtD ([] ++ (subs (sortS ms)).map rD) = (setsOf ms).map rD from srt_rows _]
  refine sets_lc3 (setsOf ms) [] none rfl fun o3 i3 => ?_
  refine And.intro (show (!isIo o3 && true) = true by rw [i3]; rfl) ?_
  exact hk
end PP

set_option Elab.async false
set_option linter.all false
set_option maxRecDepth 100000
set_option maxHeartbeats 4000000
namespace PP
open PySem L2
/-! ### the plain law: what is left is convex -/
def Falls (zs : List (Str × Int × Int)) : Prop := zs.Pairwise (fun p q => q.2.2 ≤ p.2.2) ∧ ∀ z ∈ zs, 0 ≤ z.2.2 ∧ 0 < z.2.1
theorem Falls.tail {z : Str × Int × Int} {zs : List (Str × Int × Int)} (h : Falls (z :: zs)) : Falls zs ∧ (∀ y ∈ zs, y.2.2 ≤ z.2.2) ∧ 0 ≤ z.2.2 ∧ 0 < z.2.1 :=
  ⟨⟨(List.pairwise_cons.mp h.1).2, fun y hy => h.2 y (List.mem_cons_of_mem _ hy)⟩, (List.pairwise_cons.mp h.1).1, h.2 z List.mem_cons_self⟩
theorem lft_lo (P : Str → Bool) : ∀ (zs : List (Str × Int × Int)) (g : Int), (∀ z ∈ zs, z.2.2 ≤ g) → 0 ≤ g → (lft P zs).1 - g ≤ (lft P zs).2 ∧ 0 ≤ (lft P zs).2
  | [], g, _, h => by unfold lft; exact ⟨by omega, Int.le_refl 0⟩
  | z :: zs, g, hz, h => by
    have ih := lft_lo P zs g (fun y hy => hz y (List.mem_cons_of_mem _ hy)) h
    have := hz z List.mem_cons_self
    unfold lft
    split
    · dsimp only
      omega
    · exact ih
theorem lft_anti {P R : Str → Bool} (hs : ∀ m, R m = true → P m = true) : ∀ (zs : List (Str × Int × Int)), Falls zs → (lft P zs).2 - (lft P zs).1 ≤ (lft R zs).2 - (lft R zs).1
  | [], _ => by unfold lft; exact Int.le_refl _
  | z :: zs, h => by
    obtain ⟨h1, h2, h3, h4⟩ := h.tail
    have ih := lft_anti hs zs h1
    have lo := lft_lo R zs z.2.2 h2 h3
    unfold lft
    cases hR : R z.1 with
    | true =>
      rw [hs _ hR]
      simp only [if_true]
      omega
    | false =>
      cases hP : P z.1 with
      | true =>
        simp only [if_true, Bool.false_eq_true, if_false]
        omega
      | false =>
        simp only [Bool.false_eq_true, if_false]
        exact ih
theorem lft_sum (P Q : Str → Bool) : ∀ zs : List (Str × Int × Int), (lft P zs).1 + (lft Q zs).1 = (lft (fun m => P m || Q m) zs).1 + (lft (fun m => P m && Q m) zs).1
  | [] => rfl
  | z :: zs => by
    have ih := lft_sum P Q zs
    unfold lft
    cases hP : P z.1 <;> cases hQ : Q z.1 <;> simp only [Bool.or_true, Bool.or_false, Bool.and_true, Bool.and_false, if_true, Bool.false_eq_true, if_false] <;> omega
theorem lft_convex (P Q : Str → Bool) : ∀ zs : List (Str × Int × Int), Falls zs → (lft P zs).2 + (lft Q zs).2 ≤ (lft (fun m => P m || Q m) zs).2 + (lft (fun m => P m && Q m) zs).2
  | [], _ => Int.le_refl _
  | z :: zs, h => by
    obtain ⟨h1, h2, h3, h4⟩ := h.tail
    have ih := lft_convex P Q zs h1
    have sm := lft_sum P Q zs
    have a1 := lft_anti (P := P) (R := fun m => P m && Q m) (fun m h => (Bool.and_eq_true_iff.mp h).1) zs h1
    have a2 := lft_anti (P := Q) (R := fun m => P m && Q m) (fun m h => (Bool.and_eq_true_iff.mp h).2) zs h1
    have a3 := lft_anti (P := fun m => P m || Q m) (R := P) (fun m h => by rw [h]; rfl) zs h1
    have a4 := lft_anti (P := fun m => P m || Q m) (R := Q) (fun m h => by rw [h]; exact Bool.or_true _) zs h1
    unfold lft
    cases hP : P z.1 <;> cases hQ : Q z.1 <;> simp only [Bool.or_true, Bool.or_false, Bool.and_true, Bool.and_false, if_true, Bool.false_eq_true, if_false] <;> omega
theorem lft_congr {P Q : Str → Bool} (h : ∀ m, P m = Q m) (zs : List (Str × Int × Int)) : lft P zs = lft Q zs := by
  have : P = Q := funext h
  rw [this]
theorem lft_none : ∀ zs : List (Str × Int × Int), lft (fun m => decide (m ∈ ([] : List Str))) zs = (0, 0)
  | [] => rfl
  | z :: zs => by
    unfold lft
    rw [if_neg (by simp)]
    exact lft_none zs
theorem left_none (row : List Deed) : leftV row [] = 0 := by unfold leftV; rw [lft_none]
/-- since falls in the order of opening -/
def GivenOk (a : Ac) : Prop := ∀ p ∈ a.given, 0 < p.2
theorem GivenOk.step {a : Ac} (h : GivenOk a) {d : Deed} (ok : okD d) : GivenOk (a.step d) := by
  intro p hp
  cases d with
  | op m n =>
    rcases List.mem_append.mp hp with hp | hp
    · exact h p hp
    · rw [List.mem_singleton.mp hp]; exact ok.2
  | days n => exact h p hp
  | pause n => exact h p hp
  | back m => exact h p (List.mem_filter.mp hp).1
theorem given_run {a : Ac} (h : GivenOk a) : ∀ {r : List Deed}, (∀ d ∈ r, okD d) → GivenOk (a.run r)
  | [], _ => h
  | d :: r, ok => given_run (h.step (ok d List.mem_cons_self)) fun x hx => ok x (List.mem_cons_of_mem _ hx)
def SinceOk (a : Ac) : Prop := a.since.Pairwise (fun p q => q.2 ≤ p.2) ∧ ∀ p ∈ a.since, 0 ≤ p.2
theorem SinceOk.step {a : Ac} (h : SinceOk a) {d : Deed} (ok : okD d) : SinceOk (a.step d) := by
  cases d with
  | op m n =>
    refine ⟨?_, fun p hp => ?_⟩
    · show (a.since ++ [(m, 0)]).Pairwise _
      rw [List.pairwise_append]
      refine ⟨h.1, by simp, fun p hp q hq => ?_⟩
      rw [List.mem_singleton.mp hq]; exact h.2 p hp
    · rcases List.mem_append.mp hp with hp | hp
      · exact h.2 p hp
      · rw [List.mem_singleton.mp hp]; exact Int.le_refl 0
  | days n =>
    have hn : 0 < n := ok
    refine ⟨?_, fun p hp => ?_⟩
    · show (a.since.map fun p => (p.1, p.2 + n)).Pairwise _
      rw [List.pairwise_map]
      exact h.1.imp fun hpq => by dsimp only; omega
    · obtain ⟨q, hq, rfl⟩ := List.mem_map.mp hp
      have := h.2 q hq
      dsimp only
      omega
  | pause n => exact h
  | back m => exact ⟨h.1.sublist List.filter_sublist, fun p hp => h.2 p (List.mem_filter.mp hp).1⟩
theorem since_run {a : Ac} (h : SinceOk a) : ∀ {r : List Deed}, (∀ d ∈ r, okD d) → SinceOk (a.run r)
  | [], _ => h
  | d :: r, ok => since_run (h.step (ok d List.mem_cons_self)) fun x hx => ok x (List.mem_cons_of_mem _ hx)
theorem ValidRow.falls {row : List Deed} (h : ValidRow row) : Falls (acOf row).zs := by
  have s : SinceOk (acOf row) := since_run (a := ac0) ⟨List.Pairwise.nil, fun p hp => by simp [ac0] at hp⟩ h.ok
  have gv : GivenOk (acOf row) := given_run (a := ac0) (fun p hp => by simp [ac0] at hp) h.ok
  obtain ⟨e0, e⟩ := zip_given h.good.keys
  have e0 : (acOf row).zs.map (fun z => (z.1, z.2.1)) = (acOf row).given := e0
  have e : (acOf row).zs.map (fun z => (z.1, z.2.2)) = (acOf row).since := e
  unfold SinceOk at s
  rw [← e, List.pairwise_map] at s
  exact ⟨s.1, fun z hz => ⟨s.2 (z.1, z.2.2) (List.mem_map.mpr ⟨z, hz, rfl⟩), gv (z.1, z.2.1) (by rw [← e0]; exact List.mem_map.mpr ⟨z, hz, rfl⟩)⟩⟩
theorem left_convex {row : List Deed} (h : ValidRow row) {a b u n : List Str} (hu : ∀ m, m ∈ u ↔ m ∈ a ∨ m ∈ b) (hn : ∀ m, m ∈ n ↔ m ∈ a ∧ m ∈ b) : leftV row a + leftV row b ≤ leftV row u + leftV row n := by
  have q := lft_convex (fun m => decide (m ∈ a)) (fun m => decide (m ∈ b)) _ h.falls
  unfold leftV
  rw [lft_congr (P := fun m => decide (m ∈ u)) (Q := fun m => decide (m ∈ a) || decide (m ∈ b)) (fun m => by simp [hu m]), lft_congr (P := fun m => decide (m ∈ n)) (Q := fun m => decide (m ∈ a) && decide (m ∈ b)) (fun m => by simp [hn m])]
  exact q
/-! ### all sets are the parts of the sorted marks -/
theorem subs_snoc (l : List Str) (m : Str) : subs (l ++ [m]) = grow (subs l) m := by
  unfold subs
  rw [List.foldl_append]; rfl
theorem subs_mem : ∀ (l x : List Str), x ∈ subs l ↔ x.Sublist l := by
  refine snoc_ind (fun x => ?_) fun l m ih x => ?_
  · simp [subs]
  · rw [subs_snoc]
    unfold grow
    rw [List.mem_append, List.mem_map, List.sublist_append_iff]
    constructor
    · rintro (h | ⟨y, hy, rfl⟩)
      · exact ⟨x, [], by simp, (ih x).mp h, List.nil_sublist _⟩
      · exact ⟨y, [m], rfl, (ih y).mp hy, List.Sublist.refl _⟩
    · rintro ⟨x1, x2, rfl, h1, h2⟩
      have h2 : x2 = [] ∨ x2 = [m] := by
        cases h2 with
        | cons _ h => exact .inl (List.sublist_nil.mp h)
        | cons_cons _ h => rw [List.sublist_nil.mp h]; exact .inr rfl
      rcases h2 with rfl | rfl
      · rw [List.append_nil]; exact .inl ((ih x1).mpr h1)
      · exact .inr ⟨x1, (ih x1).mpr h1, rfl⟩
theorem subs_nodup : ∀ l : List Str, l.Nodup → (subs l).Nodup := by
  refine snoc_ind (fun _ => by simp [subs]) fun l m ih nd => ?_
  rw [List.nodup_append] at nd
  rw [subs_snoc]
  unfold grow
  rw [List.nodup_append]
  refine ⟨ih nd.1, (ih nd.1).map (f := (· ++ [m])) fun a b hne e => hne (List.append_cancel_right e), fun x hx y hy e => ?_⟩
  obtain ⟨z, _, rfl⟩ := List.mem_map.mp hy
  subst e
  have := ((subs_mem l _).mp hx).subset (show m ∈ z ++ [m] by simp)
  exact nd.2.2 m this m (by simp) rfl
theorem sets_mem {ms x : List Str} : x ∈ setsOf ms ↔ x.Sublist (sortS ms) := by
  unfold setsOf
  rw [List.mem_mergeSort, subs_mem]
theorem sortS_perm (ms : List Str) : (sortS ms).Perm ms := List.mergeSort_perm _ _
theorem sortS_nodup {ms : List Str} (h : ms.Nodup) : (sortS ms).Nodup := (sortS_perm ms).nodup_iff.mpr h
theorem sets_nodup {ms : List Str} (h : ms.Nodup) : (setsOf ms).Nodup := (List.mergeSort_perm _ _).nodup_iff.mpr (subs_nodup _ (sortS_nodup h))
def ltS (a b : Str) : Prop := a.cps.toList < b.cps.toList
theorem str_ext {a b : Str} (h : a.cps.toList = b.cps.toList) : a = b := PySem.W.str_of_cps h
theorem leS_lt {a b : Str} (h : leS a b = true) (ne : a ≠ b) : ltS a b := by
  have h : a.cps.toList ≤ b.cps.toList := of_decide_eq_true h
  rcases List.le_iff_lt_or_eq.mp h with h | h
  · exact h
  · exact absurd (str_ext h) ne
theorem ltS_irrefl (a : Str) : ¬ ltS a a := List.lt_irrefl _
theorem ltS_trans {a b c : Str} (h : ltS a b) (k : ltS b c) : ltS a c := List.lt_trans h k
theorem sortS_le (ms : List Str) : (sortS ms).Pairwise (fun a b => leS a b = true) :=
  List.pairwise_mergeSort (le := leS) (fun a b c h1 h2 => decide_eq_true (List.le_trans (of_decide_eq_true h1) (of_decide_eq_true h2))) (fun a b => by
    rcases List.le_total a.cps.toList b.cps.toList with h | h
    · simp [leS, h]
    · simp [leS, h]) ms
theorem sortS_lt {ms : List Str} (h : ms.Nodup) : (sortS ms).Pairwise ltS := by
  have nd := sortS_nodup h
  exact ((sortS_le ms).and nd).imp fun ⟨h1, h2⟩ => leS_lt h1 h2
theorem sub_sorted : ∀ {l2 l1 : List Str}, l1.Pairwise ltS → l2.Pairwise ltS → (∀ x ∈ l1, x ∈ l2) → l1.Sublist l2
  | [], [], _, _, _ => .slnil
  | [], x :: l1, _, _, h => by have := h x List.mem_cons_self; simp at this
  | y :: l2, [], _, _, _ => List.nil_sublist _
  | y :: l2, x :: l1, h1, h2, h => by
    rw [List.pairwise_cons] at h1 h2
    by_cases e : x = y
    · subst e
      refine .cons_cons x (sub_sorted h1.2 h2.2 fun z hz => ?_)
      rcases List.mem_cons.mp (h z (List.mem_cons_of_mem _ hz)) with q | q
      · exact absurd (h1.1 z hz) (by rw [q]; exact ltS_irrefl _)
      · exact q
    · refine .cons y (sub_sorted (List.pairwise_cons.mpr h1) h2.2 fun z hz => ?_)
      have hx : x ∈ l2 := (List.mem_cons.mp (h x List.mem_cons_self)).resolve_left e
      have hyx : ltS y x := h2.1 x hx
      rcases List.mem_cons.mp (h z hz) with q | q
      · exfalso
        rcases List.mem_cons.mp hz with r | r
        · exact e (r ▸ q)
        · exact ltS_irrefl _ (ltS_trans hyx (q ▸ h1.1 z r))
      · exact q
theorem sort_sub {ys ms : List Str} (hy : ys.Nodup) (hm : ms.Nodup) (h : ∀ y ∈ ys, y ∈ ms) : (sortS ys).Sublist (sortS ms) :=
  sub_sorted (sortS_lt hy) (sortS_lt hm) fun x hx => (sortS_perm ms).mem_iff.mpr (h x ((sortS_perm ys).mem_iff.mp hx))
end PP

set_option Elab.async false
set_option linter.all false
set_option maxRecDepth 100000
set_option maxHeartbeats 4000000
namespace PP
open PySem L2
/-! ### tables -/
theorem dict_nodup {κ : Type} [DecidableEq κ] : ∀ (kvs acc : List (κ × D)), ((acc ++ kvs).map (·.1)).Nodup → kvs.foldl (fun acc kv => putD acc kv.1 kv.2) acc = acc ++ kvs
  | [], acc, _ => by simp
  | kv :: kvs, acc, nd => by
    have hn : (acc.any fun x => decide (x.1 = kv.1)) = false := by
      rw [List.any_eq_false]
      intro x hx e
      rw [List.map_append, List.nodup_append] at nd
      exact nd.2.2 x.1 (List.mem_map.mpr ⟨x, hx, rfl⟩) kv.1 (by simp) (of_decide_eq_true e)
    have e : putD acc kv.1 kv.2 = acc ++ [kv] := by
      unfold putD
      rw [hn]; rfl
    rw [List.foldl_cons, e, dict_nodup kvs (acc ++ [kv]) (by rw [List.append_assoc]; exact nd), List.append_assoc]
    rfl
theorem dictOf_nodup {κ : Type} [DecidableEq κ] {kvs : List (κ × D)} (nd : (kvs.map (·.1)).Nodup) : dictOf kvs = kvs := by
  unfold dictOf
  rw [dict_nodup kvs [] (by simpa using nd)]; rfl
theorem look_mem {κ : Type} [DecidableEq κ] {kvs : List (κ × D)} {k : κ} {v : D} (nd : (kvs.map (·.1)).Nodup) (h : (k, v) ∈ kvs) : look kvs k = some v := by
  unfold look
  induction kvs with
  | nil => cases h
  | cons p l ih =>
    rw [List.map_cons, List.nodup_cons] at nd
    rcases List.mem_cons.mp h with e | h
    · subst e; simp
    · have e : ¬ p.1 = k := fun e => nd.1 (by rw [e]; exact List.mem_map.mpr ⟨_, h, rfl⟩)
      rw [List.find?_cons_of_neg (by simpa using e)]
      exact ih nd.2 h
def ky (s : List Str) : List Key := s.map Sum.inr
theorem keys_strs : ∀ s : List Str, keysOf (s.map D.str) = some (ky s)
  | [] => rfl
  | x :: s => by
    rw [List.map_cons]
    show (match keyOf (D.str x), keysOf (s.map D.str) with
      | some k, some ks => some (k :: ks)
      | _, _ => none) = _
    rw [keys_strs s]; rfl
theorem ky_inj {a b : List Str} (h : ky a = ky b) : a = b := by
  have := congrArg (List.map fun k : Key => match k with | .inr x => x | .inl _ => Str.empty) h
  simpa [ky, List.map_map, Function.comp_def] using this
theorem kys_D (s : List Str) : (ky s).map keyD = s.map D.str := by
  unfold ky
  rw [List.map_map]; rfl
theorem kys_of : ∀ {zs : List Key}, (∀ z ∈ zs, ∃ x, z = .inr x) → ∃ ys, zs = ky ys
  | [], _ => ⟨[], rfl⟩
  | z :: zs, h => by
    obtain ⟨x, rfl⟩ := h z List.mem_cons_self
    obtain ⟨ys, rfl⟩ := kys_of fun y hy => h y (List.mem_cons_of_mem _ hy)
    exact ⟨x :: ys, rfl⟩
def tabOf (f : List Str → Int) (l : List (List Str)) : List (List Key × D) := l.map fun s => (ky s, .int (f s))
def pairD (f : List Str → Int) (s : List Str) : D := .tup [tD s, .int (f s)]
theorem pairs_tab (f : List Str → Int) : ∀ l : List (List Str), asPairT (l.map (pairD f)) = some (tabOf f l)
  | [] => rfl
  | s :: l => by
    rw [List.map_cons, pairD, tD, asPairT, keys_strs, pairs_tab f l]; rfl
theorem pairs_noK (f : List Str → Int) {l : List (List Str)} (h : l ≠ []) : asPairK (l.map (pairD f)) = none := by
  cases l with
  | nil => exact absurd rfl h
  | cons s l => rfl
theorem tab_nodup {f : List Str → Int} {l : List (List Str)} (h : l.Nodup) : ((tabOf f l).map (·.1)).Nodup := by
  unfold tabOf
  rw [List.map_map]
  exact h.map (f := ky) fun a b hne e => hne (ky_inj e)
theorem tab_look {f : List Str → Int} {l : List (List Str)} (h : l.Nodup) {s : List Str} (hs : s ∈ l) : look (tabOf f l) (ky s) = some (.int (f s)) :=
  look_mem (tab_nodup h) (List.mem_map.mpr ⟨s, hs, rfl⟩)
theorem tab_seq (f : List Str → Int) (l : List (List Str)) : (tabOf f l).map (fun kv => D.tup (kv.1.map keyD)) = l.map tD := by
  unfold tabOf
  rw [List.map_map]
  apply List.map_congr_left
  intro s _
  show D.tup ((ky s).map keyD) = tD s
  rw [kys_D]; rfl
theorem tab_idx {f : List Str → Int} {l : List (List Str)} (h : l.Nodup) {s : List Str} (hs : s ∈ l) {st : S} {k : R → S → Prop} {e : XC} (hk : k (.fz (.int (f s))) st) : qIdx (.dctT (tabOf f l)) (tD s) st k e := by
  show (match keysOf (s.map D.str) with
    | some ks => (match look (tabOf f l) ks with
      | some x => k (.fz x) st
      | none => False)
    | none => False)
  rw [keys_strs]
  show (match look (tabOf f l) (ky s) with
      | some x => k (.fz x) st
      | none => False)
  rw [tab_look h hs]
  exact hk

theorem sub_facts {ms a : List Str} (hm : ms.Nodup) (ha : a ∈ setsOf ms) : a.Nodup ∧ (∀ x ∈ a, x ∈ ms) ∧ a.length ≤ ms.length := by
  have h := sets_mem.mp ha
  refine ⟨h.nodup (sortS_nodup hm), fun x hx => (sortS_perm ms).mem_iff.mp (h.subset hx), ?_⟩
  have := h.length_le
  rwa [(sortS_perm ms).length_eq] at this
theorem ky_mem {x : Key} {s : List Str} : x ∈ ky s ↔ ∃ y ∈ s, x = .inr y := by
  unfold ky
  rw [List.mem_map]
  exact ⟨fun ⟨y, h, e⟩ => ⟨y, h, e.symm⟩, fun ⟨y, h, e⟩ => ⟨y, h, e.symm⟩⟩
theorem ky_nodup {s : List Str} (h : (ky s).Nodup) : s.Nodup := List.Pairwise.of_map _ (fun a b hne e => hne (by rw [e])) h
end PP

set_option Elab.async false
set_option linter.all false
set_option maxRecDepth 100000
set_option maxHeartbeats 2000000
namespace PP
open PySem L2
/-! ### repr -/
section
variable {X : Cx} {pins : List (Addr × Obj)} {σ : L2.St} {H : Hp} {s : Shared} {G : Gc} {A : AS}
theorem kv_reads (P : Program) (w : World) (h : Heap) : ∀ {es : List DictEntry} {vs : List (Key × Value)}, Pairs (mixKind P w) es vs → ReadsAll h (es.map (·.key)) (vs.map fun kv => kyP kv.1) [] 
  | _, _, .nil => .nil
  | e :: es, kv :: kvs, .cons hk hv t => by
    have r := kv_reads P w h t
    rw [List.map_cons, List.map_cons]
    have h1 : Reads h e.key (kyP kv.1) [] := by
      rcases keyIs_shape (show keyIs kv.1 e.key = true from hk) with ⟨i, tk, e1, e2⟩ | ⟨x, tk, e1, e2⟩
      · rw [e1, e2]; exact .int i tk
      · rw [e1, e2]; exact .str x tk
    exact ReadsAll.cons (as := []) (bs := []) h1 r
theorem pairs_vals {P : Program} {w : World} : ∀ {es : List DictEntry} {vs : List (Key × Value)}, Pairs (mixKind P w) es vs → es.map (·.val) = vs.map (·.2)
  | _, _, .nil => rfl
  | e :: es, kv :: kvs, .cons hk hv t => by rw [List.map_cons, List.map_cons, pairs_vals t, hv]
theorem kv_vals : ∀ {kvs : List (Key × V)} {vs : List (Key × Value)}, KV kvs vs → Vals (kvs.map (·.2)) (vs.map (·.2)) ∧ kvs.map (·.1) = vs.map (·.1)
  | _, _, .nil => ⟨.nil, rfl⟩
  | _, _, .cons h t => by
    obtain ⟨r, e⟩ := kv_vals t
    refine ⟨.cons h.2 r, ?_⟩
    rw [List.map_cons, List.map_cons, e, h.1]
theorem psK_fst : ∀ kvs : List (Key × D), (psK kvs).map (·.1) = (kvs.map (·.1)).map kyP
  | [] => rfl
  | (k, d) :: r => by simp [psK, psK_fst r]
theorem psK_snd : ∀ kvs : List (Key × D), (psK kvs).map (·.2) = pss (kvs.map (·.2))
  | [] => rfl
  | (k, d) :: r => by simp [psK, pss, psK_snd r]
theorem psOkK_eq : ∀ kvs : List (Key × D), psOkK kvs = psOks (kvs.map (·.2))
  | [] => rfl
  | (k, d) :: r => by simp [psOkK, psOks, psOkK_eq r]
theorem noLK_eq : ∀ kvs : List (Key × D), noLK kvs = noLs (kvs.map (·.2))
  | [] => rfl
  | (k, d) :: r => by simp [noLK, noLs, noLK_eq r]
mutual
theorem Fz.rds (hK : X.K = G.K) (I : Inv X pins σ H s) : ∀ {v : V} {d : D} {u : Value}, psOk d = true → Fz G A H v d → RelV v u → ∃ as, Reads s.heap u (ps d) as ∧ (noL d = true → sysModules ∉ as)
  | _, _, _, _, .non, r => by cases r; exact ⟨[], .none, fun _ => by simp⟩
  | _, _, _, _, .bl b, r => by cases r; exact ⟨[], .bool b, fun _ => by simp⟩
  | _, _, _, _, .int i, r => by obtain ⟨t, rfl⟩ := r; exact ⟨[], .int i t, fun _ => by simp⟩
  | _, _, _, _, .str x, r => by obtain ⟨t, rfl⟩ := r; exact ⟨[], .str x t, fun _ => by simp⟩
  | _, _, _, hp, .lst n e l, r => by
    cases r
    obtain ⟨its, rv, ⟨o, m, ho, hc, _, hd⟩, _⟩ := I.list (SqL.of (K := X.K) e)
    obtain ⟨as, hr, ns⟩ := FzL.rds hK I hp l rv
    exact ⟨_, .list ho hc hd hr, fun z => by cases z⟩
  | _, _, _, hp, .tup n e l, r => by
    cases r
    obtain ⟨its, rv, ⟨o, ho, hc, m, hd⟩, _⟩ := I.tuple (SqT.of (K := X.K) e)
    obtain ⟨as, hr, ns⟩ := FzL.rds hK I hp l rv
    exact ⟨_, .tuple ho hc hd hr, ns⟩
  | _, _, _, hp, .kt e l, r => by
    cases r
    obtain ⟨o, its, m, hl, hc, hd, _, rv⟩ := e
    obtain ⟨as, hr, ns⟩ := FzL.rds hK I hp l rv
    exact ⟨_, .tuple (I.kIn _ _ (by rw [hK]; exact hl)) hc hd hr, ns⟩
  | _, .dct ds, _, hp, .dct n e q l, r => by
    cases r
    obtain ⟨z, lo, vs, rk, o, es, ep, ho, hc, hd, _, hpr, _⟩ := dk_rd I.hok e
    obtain ⟨rv, ek⟩ := kv_vals rk
    obtain ⟨as, hr, ns⟩ := FzL.rds hK I (show psOks _ = true by rw [← psOkK_eq]; exact hp) l rv
    have r1 : ReadsAll s.heap (es.toList.map (·.key)) ((psK ds).map (·.1)) [] := by
      have := kv_reads X.prog X.w s.heap hpr
      rw [psK_fst, ← q, ek, List.map_map]
      exact this
    have r2 : ReadsAll s.heap (es.toList.map (·.val)) ((psK ds).map (·.2)) as := by
      rw [psK_snd, pairs_vals hpr]; exact hr
    refine ⟨_, .dict ho hc.1 hd r1 r2, fun z q => ?_⟩
    rw [List.mem_append, List.mem_cons] at q
    rcases q with (q | q) | q
    · rw [← q] at lo; simp at lo
    · cases q
    · exact ns (by rw [← noLK_eq]; exact z) q
  | _, _, _, hp, .dctT _ _ _ _, _ => by cases hp
  | _, _, _, hp, .obj _ _ _ _, _ => by cases hp
theorem FzL.rds (hK : X.K = G.K) (I : Inv X pins σ H s) : ∀ {v : List V} {d : List D} {u : List Value}, psOks d = true → FzL G A H v d → Vals v u → ∃ as, ReadsAll s.heap u (pss d) as ∧ (noLs d = true → sysModules ∉ as)
  | _, _, _, _, .nil, r => by cases r; exact ⟨[], .nil, fun _ => by simp⟩
  | _, _, _, hp, .cons a b, r => by
    rw [psOks, Bool.and_eq_true] at hp
    cases r with
    | cons r1 r2 =>
      obtain ⟨as, q1, n1⟩ := Fz.rds hK I hp.1 a r1
      obtain ⟨bs, q2, n2⟩ := FzL.rds hK I hp.2 b r2
      exact ⟨as ++ bs, .cons q1 q2, fun z => by
        rw [noLs, Bool.and_eq_true] at z
        rw [List.mem_append]; rintro (q | q)
        · exact n1 z.1 q
        · exact n2 z.2 q⟩
end
end
theorem View.rds {X : Cx} {pins : List (Addr × Obj)} {σ : L2.St} {H : Hp} {s : Shared} {F : Fm} {A : AS} (hK : X.K = F.G.K) (I : Inv X pins σ H s) {v : V} {d : D} {u : Value} (hp : psOk d = true) (h : View F A H v d) (r : RelV v u) : ∃ as, Reads s.heap u (ps d) as ∧ (noL d = true → sysModules ∉ as) := by
  cases d with
  | lst xs =>
    obtain ⟨a, vs, rfl, e, l⟩ := h
    exact Fz.rds (A := fun _ => False) hK I hp (.lst (A := fun _ => False) (fun z => z) e (l.mono fun _ z => z.elim)) r
  | dct ds =>
    obtain ⟨a, vs, rfl, e, ek, l⟩ := h
    exact Fz.rds (A := fun _ => False) hK I hp (.dct (A := fun _ => False) (fun z => z) e ek (l.mono fun _ z => z.elim)) r
  | _ => exact Fz.rds hK I hp h r
def rRepr (F : Fm) : List V → Hp → VK → Prop := fun xs H Q => ∃ A v d, xs = [v] ∧ View F A H v d ∧ reprOk d = true ∧ (ps d).shown.length ≤ sizeLine ∧ Q (.str (ps d).shown) H
theorem cr_repr {X : Cx} {F : Fm} (g : Gd X F E) : CallR X (.builtin "repr") (rRepr F) := by
  intro pins s σ H xs us Q I r h
  obtain ⟨A, v, d, rfl, hz, hok, hl, q⟩ := h
  obtain ⟨u, rfl, ru⟩ := vals1 r
  unfold reprOk at hok
  simp only [Bool.and_eq_true, decide_eq_true_eq] at hok
  obtain ⟨⟨h1, h2⟩, h3, h4⟩ := hok
  obtain ⟨as, rd, ns⟩ := hz.rds g.hK I h1 ru
  have hsm : (ps d).hasDict = true → sysModules ∉ as := fun z => ns (by rw [z] at h2; simpa using h2)
  have hu := g.u
  have fin : ∀ tk, EP X pins σ Q (.str (ps d).shown s.toks) { s with toks := tk } := fun tk => ⟨.str _, H, I.tok _, ⟨_, rfl⟩, q⟩
  cases d with
  | non => cases rd; exact PySem.P.repr_of_none (fin _)
  | bl b =>
    cases rd
    refine PySem.P.repr_of_bool ?_
    have := fin (s.toks + 1)
    cases b <;> exact this
  | int i =>
    cases rd
    exact PySem.P.repr_of_int (by simpa [ps, PyData.showable] using h3) (fin _)
  | str x =>
    cases rd
    exact PySem.P.repr_of_str (fin _) hl
  | dctT _ => cases h1
  | obj _ _ => cases h1
  | _ =>
    cases ru' : u with
    | ref a =>
      rw [ru'] at rd
      exact repr_of_reads' rd h3 hsm g.gs (by omega) (fun _ _ e => e) (fun h' u' tk hk => ⟨.str _, H, I.kept hk, ⟨_, rfl⟩, q⟩) hl
    | _ => rw [ru'] at rd; cases rd
theorem cs_repr {F : Fm} {E : XC} : CallS F E (qBi .repr) (rRepr F) := by
  intro Z ow σ H s K xs vs Q R hx w k
  match xs, hx, w with
  | [d], hx, w =>
    obtain ⟨v, rfl, h⟩ := views1 hx
    obtain ⟨⟨w1, w2⟩, w3⟩ := (show (reprOk d = true ∧ (ps d).shown.length ≤ sizeLine) ∧ K (.fz (.str (ps d).shown)) s from w)
    exact ⟨_, v, d, rfl, h, w1, w2, k _ _ _ _ _ w3 (rr_sc R (.str _) rfl) (Eff.refl _ _ _ _)⟩
section
variable {X : Cx} {F : Fm} {E : XC} {Γ : Env} {a b c : Expr} {ia ib ic : Ex} {pos : Pos}
theorem sx_repr (g : Gd X F E) {p : Pos} (hm : X.mg "repr" = none) (ha : AVX X F E Γ [a] [ia]) (hg : Gl X "repr" := by rfl) (he : starEach [a] X.env = (false, eval a X.env) :: starEach [] X.env := by rfl) : SX X F E Γ (.Call (.Name "repr" p) [a] [] pos) (.bi .repr [ia]) :=
  sx_bi (r := rRepr F) (cr_repr g) cs_repr hm (by decide +kernel) ha hg (by decide) (by decide) he rfl
end
end PP

set_option Elab.async false
set_option linter.all false
set_option maxRecDepth 100000
set_option maxHeartbeats 2000000
namespace PP
open PySem L2
/-! ### == by an own __eq__ -/
structure OEq (K : PySem.W.Frag) (C f : Addr) : Prop where
  eq : PySem.W.findIn K (.ref C) "__eq__" = some (some (.ref f))
  fn : PySem.W.isFn K (.ref f) = true
  ne : PySem.W.findIn K (.ref C) "__ne__" = some (some (.builtin "object.__ne__"))
  ob : PySem.W.mroIn K C (.type "object") = some true
structure SubG (X : Cx) (n : Nat) (A : Around) : Prop where
  room : RoomG n A
  fr : A.frames = X.A.frames
theorem SubG.in1 {X : Cx} {n : Nat} {A : Around} (s : SubG X (n + 1) A) : SubG X n A.in1 := ⟨⟨s.room.r.in1, s.room.g⟩, s.fr⟩
/-- a def runs, called from below the running body -/
theorem run_below {X : Cx} {CX : CXT} {k : Nat} {f : Addr} {fd : FuncData} {ps : List Str} {sp : Sp} {E : XK} {A : Around} {pins : List (Addr × Obj)} {s : Shared} {σ : L2.St} {H : Hp} {vs : List V} {us : List Value} {Q : VK}
    (F : FnOg X.prog X.w X.K X.mg X.base CX k f fd ps sp) (sb : SubG X k A) (hb : Binds X.K fd ps []) (hx : Passes CX X E) (I : Inv X pins σ H s) (r : Vals vs us) (h : sp vs H Q E) :
    wpAny (model X.prog X.w) A (call (.ref f) us) (EP X pins σ Q) X.xe s := by
  have e0 : Env0 X.prog X.w X.K X.mg X.base A X.stack s H := by
    have e := I.env0
    exact ⟨by rw [sb.fr]; exact e.frames, e.mod, e.bs, e.bsz, e.funs, e.frf, e.hok, e.bare⟩
  have hl := F.len _ _ _ _ h
  have hl' : us.length = ps.length := by rw [← r.length]; exact hl
  refine wpAny_call (codeAny_mono (F.run A X.stack s H ⟨us, []⟩ us vs _ E sb.room e0 (by
    have := hb s us I.kIn (by simpa using hl')
    simpa using this) r h) fun r s' hq => ?_)
  cases r with
  | error e => exact hx pins σ H s e s' I hq
  | ok fl =>
    cases fl with
    | ret w => exact I.after hq
    | next => exact False.elim hq
    | brk => exact False.elim hq
    | cont => exact False.elim hq
def rOeq (C : Addr) (sp : Sp) (E : XK) (neg : Bool) : R2 := fun x y H Q => ∃ a b dx dy fs gs, x = .ref a ∧ y = .ref b ∧ H a = some (.ins C dx fs) ∧ H b = some (.ins C dy gs) ∧
  sp [.ref a, .ref b] H (fun v H' => ∃ r, v = .bl r ∧ Q (.bl (if neg then !r else r)) H') E
section
variable {X : Cx} {CX : CXT} {k : Nat} {C f : Addr} {fd : FuncData} {ps : List Str} {sp : Sp} {E : XK}
theorem op_oeq (F : FnOg X.prog X.w X.K X.mg X.base CX k f fd ps sp) (hs : OEq X.K C f) (hb : Binds X.K fd ps []) (hx : Passes CX X E) (hr : RoomG k X.A) : OpR X (compareOp .Eq) (rOeq C sp E false) := by
  intro pins s σ H x y v u Q I rx ry h
  obtain ⟨a, b, dx, dy, fs, gs, rfl, rfl, ha, hb', hsp⟩ := h
  cases rx
  cases ry
  obtain ⟨mA, J, _⟩ := ins_get I.hok ha
  obtain ⟨mB, J', _⟩ := ins_get I.hok hb'
  obtain ⟨od, J, _⟩ := J.look
  obtain ⟨od', J', _⟩ := J'.look
  obtain ⟨m, hF⟩ := I.fr
  refine PySem.W.cmp_K (op := .Eq) (tb := .ref C) hr.r.units0 hF I.ok.mod.kin J J'.type (by simp [PySem.W.notFirst]) hs.eq hs.fn ?_
  refine thn (run_below F ⟨hr, rfl⟩ hb hx I (show Vals [V.ref a, V.ref b] [Value.ref a, Value.ref b] from .cons rfl (.cons rfl .nil)) hsp) fun w s' ⟨z, H', I', rz, r, ez, q⟩ => ?_
  subst ez
  cases rz
  exact ⟨.bl r, H', I', rfl, q⟩
theorem ne_check {M : Model} {A : Around} {E : Value → Shared → Prop} {K : PySem.W.Frag} {s : Shared} {x : Addr} {y : Value} {ox : Obj} {od : Option Obj} {Q : Unit → Shared → Prop} (hK : K.In s.heap) (J : PySem.W.InstAt s.heap x ox C od) (hs : OEq K C f) (hq : Q () s) :
    wpAny M A (checkBuiltinCall "object.__ne__" ⟨[.ref x, y], []⟩) Q E s := by
  have ha := PySem.F.cmpArgs_ne (.ref x) y
  simp only [checkBuiltinCall, PySem.F.cmpKind_ne, PySem.F.cmpSplit_ne]
  refine wpAny_bind ?_
  unfold isInstance
  refine wpAny_bind (J.type.here ((PySem.W.looks_subIn (t := .ref C) (base := .type "object") hK hs.ob).here ?_))
  refine PySem.W.KFB.if_not rfl ?_
  cases hsig : Manifest.signature? "object.__ne__" with
  | none => exact wpAny_pure hq
  | some sig =>
    simp only [argsOk, hsig] at ha
    have h2 : Bind.checkArgs "object.__ne__" sig ⟨[.ref x, y], []⟩ = pure () := ha
    show wpAny M A (Bind.checkArgs "object.__ne__" sig ⟨[.ref x, y], []⟩) Q E _
    rw [h2]; exact wpAny_pure hq
theorem ne_entry {prog : Program} {w : World} {A : Around} {E : Value → Shared → Prop} {K : PySem.W.Frag} {s : Shared} {x y : Addr} {ox : Obj} {od : Option Obj} {Q : Fin → Shared → Prop} (hK : K.In s.heap) (J : PySem.W.InstAt s.heap x ox C od) (hs : OEq K C f) (hu : A.units < cLine)
    (hcall : wpAny (model prog w) A (call (.ref f) [.ref x, .ref y]) (fun v s' => ∃ b, v = .bool b ∧ Q (.done (.ret (.bool (!b)))) s') E s) : wpAny (model prog w) A (Builtin.«object.__ne__» ⟨[.ref x, .ref y], []⟩) Q E s := by
  unfold Builtin.«object.__ne__»
  repeat (first
    | with_reducible refine wpAny_cRoomFor hu ?_
    | (refine wpAny_bind (m := callSpecialIfBound? (.ref x) (Str.ofString "__eq__") [.ref y])
        (PySem.W.ifBound_K hK J hs.eq hs.fn (wpAny_mono hcall (fun r s' hr => by
          obtain ⟨b, rfl, hq⟩ := hr
          repeat (first | exact hq | exact wpAny_pure hq | exact wpAny_truthy_bool hq | (refine wpAny_bind (m := truthy (.bool _)) (wpAny_truthy_bool ?_)) | wp_step)) fun _ _ e => e)))
    | wp_step)
theorem ne_try {prog : Program} {w : World} {A : Around} {E : Value → Shared → Prop} {K : PySem.W.Frag} {s : Shared} {x y : Addr} {ox : Obj} {od : Option Obj} {Q : Option Value → Shared → Prop} (hK : K.In s.heap) (J : PySem.W.InstAt s.heap x ox C od) (hs : OEq K C f) (hu : A.units + 1 < cLine)
    (hcall : wpAny (model prog w) A.in1 (call (.ref f) [.ref x, .ref y]) (fun v s' => ∃ b, v = .bool b ∧ Q (some (.bool (!b))) s') E s) : wpAny (model prog w) A (tryCompare (.ref x) "__ne__" (.ref y)) Q E s := by
  simp only [tryCompare]
  refine wpAny_bind ?_
  simp only [callSpecialIfBound?, bindSpecialIfBound?]
  refine wpAny_holding (wpAny_bind (wpAny_bind (wpAny_bind (J.type.here ((PySem.W.looks_findIn hK hs.ne).here ?_)))))
  simp only [PySem.F.cmp_object.ne.bind]
  refine wpAny_bind (wpAny_askSetting (wpAny_ite ?_))
  have fin : wpAny (model prog w) A (call (.builtin "object.__ne__") ([.ref x] ++ [.ref y]) >>= fun v => pure (some v)) (fun r s' => wpAny (model prog w) A (match r with | some .notImplemented | none => pure none | some v => pure (some v)) Q E s') E s := by
    refine wpAny_bind ?_
    refine wpAny_call (codeAny_call_builtin PySem.F.cmp_object.ne.plain PySem.F.cmpEntry_ne (ne_check hK J hs (ne_entry (A := A.in1) hK J hs hu (wpAny_mono hcall (fun v s' hv => ?_) fun _ _ e => e))))
    obtain ⟨b, rfl, hq⟩ := hv
    exact ⟨b, rfl, wpAny_pure (wpAny_pure hq)⟩
  split
  · exact wpAny_bind (wpAny_pure (wpAny_pure fin))
  · exact wpAny_tryCatch (wpAny_bind (wpAny_pure (wpAny_pure fin)))
theorem op_one (F : FnOg X.prog X.w X.K X.mg X.base CX k f fd ps sp) (hs : OEq X.K C f) (hb : Binds X.K fd ps []) (hx : Passes CX X E) (hr : RoomG (k + 1) X.A) (hu : X.A.units + 1 < cLine) : OpR X (compareOp .NotEq) (rOeq C sp E true) := by
  intro pins s σ H x y v u Q I rx ry h
  obtain ⟨a, b, dx, dy, fs, gs, rfl, rfl, ha, hb', hsp⟩ := h
  cases rx
  cases ry
  obtain ⟨mA, J, _⟩ := ins_get I.hok ha
  obtain ⟨mB, J', _⟩ := ins_get I.hok hb'
  obtain ⟨od, J, _⟩ := J.look
  obtain ⟨od', J', _⟩ := J'.look
  show wpAny (model X.prog X.w) X.A (richCompare .NotEq (.ref a) (.ref b)) (EP X pins σ Q) X.xe s
  unfold richCompare
  simp only [oneThing_ref]
  refine wpAny_holding (wpAny_bind (wpAny_cRoomFor (Nat.lt_of_succ_lt hu) ?_))
  refine wpAny_bind (J.type.here (wpAny_bind (J'.type.here ?_)))
  rw [show (Value.ref C != Value.ref C) = false from by simp]
  simp only [Bool.false_eq_true, if_false]
  refine wpAny_bind (wpAny_pure ?_)
  simp only [Bool.false_eq_true, if_false]
  refine wpAny_bind (ne_try I.kIn J hs hu ?_)
  refine thn (run_below F (SubG.in1 ⟨hr, rfl⟩) hb hx I (show Vals [V.ref a, V.ref b] [Value.ref a, Value.ref b] from .cons rfl (.cons rfl .nil)) hsp) fun w s' ⟨z, H', I', rz, r, ez, q⟩ => ?_
  subst ez
  cases rz
  exact ⟨r, rfl, wpAny_pure ⟨.bl (!r), H', I', rfl, q⟩⟩
end
end PP

set_option Elab.async false
set_option linter.all false
set_option maxRecDepth 100000
set_option maxHeartbeats 2000000
namespace PP
open PySem L2
/-! ### an own __iter__ that gives the iterator of a field that is a tuple -/
abbrev itTup (t : Addr) : Obj := { cls := .type "tuple_iterator", data := .fields #[.ref t, .int 0 0] }
def ItT (t it : Addr) : HO := .ext fun h => h.get? it = some (itTup t)
theorem itT_ok {P : Program} {w : World} {H : Hp} {h : Heap} {t it : Addr} (e : h.get? it = some (itTup t)) : ObjOk P w H h it (ItT t it) := ⟨e, ⟨_, e⟩, fun h1 h2 q k => k _ q⟩
def rIterT (K : PySem.W.Frag) (n : Nat) : List V → Hp → VK → Prop := fun xs H Q => ∃ (t : Addr) (zs : List V), xs = [.ref t] ∧ SqT K H t zs ∧ ∀ it, H it = none → n ≤ it → Q (.ref it) (upd H it (ItT t it))
theorem call_iterT {X : Cx} : CallR X (.builtin "iter") (rIterT X.K X.s_0.heap.objs.size) := by
  intro pins s σ H xs us Q I r h
  obtain ⟨t, zs, rfl, hq, q⟩ := h
  obtain ⟨u, rfl, ru⟩ := vals1 r
  cases ru
  obtain ⟨its, rv, pl, hz⟩ := I.tuple hq
  refine Calls.call_function_entry (by decide +kernel) (by decide +kernel) PySem.W.kdk_entry_iter (PySem.W.kdk_args_iter _) ?_
  unfold Builtin.«iter»
  refine wpAny_bind (m := someArgs "iter" 1 2 _) (wpAny_of_eq (a := [Value.ref t]) (by first | rfl | kernel_rfl!) ?_)
  show wpAny _ _ (pyIter (.ref t) >>= _) _ _ _
  refine wpAny_bind (wpAny_pyIter_tuple (show s.heap.IsTuple t its.toArray from pl) ?_)
  refine wpAny_pure ⟨_, rfl, ?_⟩
  exact ⟨.ref s.heap.objs.size, _, I.laid (t' := s.toks) (fun b u e => Heap.get?_push_of_some _ e) (Nat.le_refl _) (itT_ok (Heap.get?_push_size _ rfl)), rfl, q _ (I.hok.fresh (Nat.le_refl _)) I.sz⟩
structure ItE (P : Program) (w : World) (K : PySem.W.Frag) (mg : Str → Option Value) (base : Heap) (G : Gc) (k : Nat) (c fl : Str) : Prop where
  ok : ∃ f fd ps, ps.length = 1 ∧ Meth K (G.ga c) "__iter__" f ∧ Binds K fd ps [] ∧
    ∀ (A : Around) (outer : List PySem.Env) (s : Shared) (H : Hp) (args : Args) (us : List Value) (a dx : Addr) (fs : List (Str × V)) (t : Addr) (xs : List V), RoomG k A → Env0 P w K mg base A outer s H → BindsTo s fd args (ps.zip us) → Vals [.ref a] us →
      H a = some (.ins (G.ga c) dx fs) → fs.lookup fl = some (.ref t) → SqT K H t xs →
      codeAny (model P w) A (.call (.ref f) args) (CR CX0 outer P w H s (fun v H' => ∃ it, v = .ref it ∧ s.heap.objs.size ≤ it ∧ H it = none ∧ H' = upd H it (ItT t it)) E0) s
section
variable {X : Cx} {F : Fm} {E : XC} {Γ : Env} {a tg : Expr} {ia : Ex} {pos : Pos}
theorem owit_tup {M : Model} {A : Around} {Q : Value → Shared → Prop} {E : Value → Shared → Prop} {s : Shared} {it t : Addr} (e : s.heap.get? it = some (itTup t)) (h : Q (.ref it) s) : PySem.W.OwitIt M A Q E (.ref it) s := by
  unfold PySem.W.OwitIt
  have hl : typeLookup (.type "tuple_iterator") "__next__" = pure (some (.builtin "tuple_iterator.__next__")) := by rw [typeLookup_type, builtinLookup_eq_fast]; kernel_rfl
  exact wpAny_specialOf (s := s) (T := "tuple_iterator") ⟨_, e, rfl⟩ hl h
theorem ix_itO (g : Gd X F E) {k : Nat} {c f : Str} (e : ItE X.prog X.w X.K X.mg X.base F.G k c f) (hr : RoomG k X.A) (ha : SX X F E Γ a ia) : IX X F E Γ tg a (.itO c f ia) := by
  refine ⟨fun pins s σ H R I h => ?_⟩
  obtain ⟨Z, ow, s0, K, Rp, hf, hq⟩ := h
  obtain ⟨fa, fd, ps, hps, hm, hb, run⟩ := e.ok
  refine thn (ha.run pins s σ H (fun v H1 => ∃ a dx fs t xs, v = .ref a ∧ H1 a = some (.ins (F.G.ga c) dx fs) ∧ fs.lookup f = some (.ref t) ∧ SqT X.K H1 t xs ∧ (xs.length ≤ sizeLine → R (Itt X.K t) H1)) I
    ⟨Z, ow, s0, _, Rp, hf, fun r s1 v1 H1 ow1 k1 rr e1 => ?_⟩) fun v s1 ⟨x, H1, I1, r1, a1, dx, fs, t, xs, ex, h1, h2, h3, h4⟩ => ?_
  · obtain ⟨R1, z⟩ := rr.fz' Rp
    cases hd : r.d with
    | obj c' ds =>
      rw [hd] at k1 z
      obtain ⟨rfl, k1'⟩ := (show c' = c ∧ (match fld ds f with
        | some (.tup xs) => K xs s1
        | _ => False) from k1)
      obtain ⟨p, dx, fs, rfl, np, e, ek, l⟩ := fz_obj z
      rcases fld_lookup f ek l with ⟨_, q⟩ | ⟨v, d, q1, q2, z2⟩
      · rw [q] at k1'; exact k1'.elim
      · rw [q2] at k1'
        cases z2 with
        | tup n e2 l2 => exact ⟨p, dx, fs, _, _, rfl, e, q1, SqT.of e2, fun hz => hq _ s1 _ H1 ow1 k1' R1 e1 (by rw [g.hK]; exact src_tup R1 n e2 l2 hz)⟩
        | _ => exact k1'.elim
    | _ => rw [hd] at k1; exact k1.elim
  · subst ex
    cases r1
    obtain ⟨mA, J, _⟩ := ins_get I1.hok h1
    obtain ⟨od, J, _⟩ := J.look
    obtain ⟨m, hF⟩ := I1.fr
    obtain ⟨its, _, _, hz⟩ := I1.tuple h3
    refine PySem.W.owit_iter hF I1.ok.mod.kin J hm.at_ hm.fn ?_
    refine wpAny_call (codeAny_mono (run X.A X.stack s1 H1 ⟨[.ref a1], []⟩ [.ref a1] a1 dx fs t xs hr I1.env0 (by
      have := hb s1 [.ref a1] I1.kIn (by simp [hps])
      simpa using this) (.cons rfl .nil) h1 h2 h3) fun r s' hq' => ?_)
    cases r with
    | error e => exact hq'.elim
    | ok fl =>
      cases fl with
      | next => exact False.elim hq'
      | brk => exact False.elim hq'
      | cont => exact False.elim hq'
      | ret u =>
        obtain ⟨v, H', I', rv, it, ev, hsz, hn, eH⟩ := I1.after hq'
        subst ev
        cases rv
        rw [eH] at I'
        have eo : s'.heap.get? it = some (itTup t) := (I'.hok it _ upd_same).1
        refine owit_tup eo ?_
        have Id := ItX.inv_drop I' (a := it) upd_same
        have fp := ItX.inv_fp I' (a := it) upd_same (Nat.le_trans I1.sz hsz)
        rw [ItX.dropH_upd hn] at Id fp
        refine ⟨it, [it], _, _, H1, rfl, Id, turn_tuple t it, ⟨_, eo, rfl, rfl⟩, fun b hb => ?_, h4 hz⟩
        have e : b = it := by simpa using hb
        rw [e]
        exact fp
/-! isinstance of an own class, == of objects -/
theorem cs_isO {c : Str} {w : V} {C : Addr} (hw : F.G.ga c = C) : ∀ (Z : AS) (ow : Ow) (σ : L2.St) (H : Hp) (s : S) (K : R → S → Prop) (x : D) (vx : V) (Q : VK), Rep F Z ow σ H s → View F (Av' Z ow) H vx x → qIsO c x s K E →
    (∀ r s' v H' ow', K r s' → RR F Z H ow' σ H' s' v r → Eff F Z ow H ow' H' → Q v H') → ∃ a dx fs, vx = .ref a ∧ H a = some (.ins C dx fs) ∧ Q (.bl true) H := by
  intro Z ow σ H s K x vx Q R hx w k
  cases x with
  | obj c' ds =>
    obtain ⟨e1, w2⟩ := (show c' = c ∧ K (.fz (.bl true)) s from w)
    obtain ⟨a, dx, fs, rfl, na, e, _, _⟩ := fz_obj (show Fz F.G (Av' Z ow) H vx (.obj c' ds) from hx)
    rw [e1, hw] at e
    exact ⟨a, dx, fs, rfl, e, k _ _ _ _ _ w2 (rr_sc R (.bl true) rfl) (Eff.refl _ _ _ _)⟩
  | _ => exact w.elim
theorem sx_isO (g : Gd X F E) {c : Str} {p pc : Pos} (hm : X.mg "isinstance" = none) (hmc : X.mg c = some (.ref (F.G.ga c))) (hc : C8.InsC X.K (F.G.ga c)) (ha : VX X F E Γ a ia) (hg : Gl X "isinstance" := by rfl) (hgc : Gl X c := by rfl) (hd : (c == ("__debug__" : Str)) = false := by decide)
    (he : starEach [a, .Name c pc] X.env = (false, eval a X.env) :: starEach [.Name c pc] X.env := by rfl) (he2 : starEach [.Name c pc] X.env = (false, eval (.Name c pc) X.env) :: starEach [] X.env := by rfl) (hpl : (backTo pos (starEach [.Name c pc] X.env)).any (·.1) = false := by rfl) :
    SX X F E Γ (.Call (.Name "isinstance" p) [a, .Name c pc] [] pos) (.isO ia c) :=
  PEimp (pe_callB (C8.call_isC hc) hg hm (by decide +kernel) (pa_cons ha (pa_cons (pe_glob (v := .ref (F.G.ga c)) hgc hmc rfl hd) pa_nil he2) he) (by decide) (by decide) he hpl) fun σ H Q h => by
    obtain ⟨Z, ow, s, K, R, hf, hq⟩ := h
    refine ⟨Z, ow, s, _, R, hf, fun x s1 v1 H1 ow1 k1 R1 o1 e1 => ?_⟩
    obtain ⟨dx, w1, hx⟩ := res_ok R1 o1 k1
    obtain ⟨a1, dx1, fs, rfl, e, q⟩ := cs_isO (w := .non) rfl Z ow1 σ H1 s1 K dx v1 Q R1 hx w1 fun r s' v H' ow' k rr e => hq r s' v H' ow' k (rr.back e1.dm) (e1.trans e)
    exact ⟨a1, dx1, fs, rfl, e, q⟩
theorem args_nil {G : Gc} {T : SA} {A : AS} {H : Hp} {vs : List V} (h : ArgsOk G T A H vs []) : vs = [] := by cases h; rfl
theorem liftSp_ex {G : Gc} {np : Nat} {con : Con} {vs : List V} {H : Hp} {Q : VK} {Ex Ex' : XK} (h : ∀ cls d H, Ex cls d H → Ex' cls d H) (z : liftSp G np con vs H Q Ex) : liftSp G np con vs H Q Ex' := by
  obtain ⟨h0, T, A, as, c, K, e, h1, h2, h3, h4, h5, h6, h7, h8⟩ := z
  exact ⟨h0, T, A, as, c, K, e, h1, h2, h3, h4, h5, h6, h7, fun xn c' cls d H' a b c d => h _ _ _ (h8 xn c' cls _ H' a b c d)⟩
theorem passE0 {X : Cx} : Passes (L2.CX X.prog X.w) X E0 := fun _ _ _ _ _ _ _ ⟨_, _, _, _, _, _, _, _, _, _, _, _, h⟩ => h.elim
theorem lr_oeq (hT : F.T.tb = F.G.tb) {c : Str} {neg : Bool} {con : Con} {dfl : List D} {sc : Bool} {np : Nat} {fa fb : M R} {σ : L2.St} {H : Hp} {Q : VK} (hΓ : Γ.mth c "__eq__" = some (.pl con sc dfl)) (hn : ∀ as c K e, con as c K e → as.length = np)
    (h : LR F E (bnd (toD fa) fun x => bnd (toD fb) fun y => qOeq Γ c neg x y) σ H Q) : tOp (rOeq (F.G.ga c) (liftSp F.G np con) E0 neg) (LR F E fa) (LR F E fb) σ H Q := by
  obtain ⟨Z, ow, s, K, R, hf, hq⟩ := h
  refine ⟨Z, ow, s, _, R, hf, fun r1 s1 v1 H1 ow1 k1 rr1 e1 => ?_⟩
  obtain ⟨R1, z1⟩ := rr1.fz' R
  refine ⟨Z, ow1, s1, _, R1, k1, fun r2 s2 v2 H2 ow2 k2 rr2 e2 => ?_⟩
  obtain ⟨R2, z2⟩ := rr2.fz' R1
  have z1 := R1.fz e2 z1
  cases hd1 : r1.d with
  | obj c1 ds1 =>
    cases hd2 : r2.d with
    | obj c2 ds2 =>
      rw [hd1, hd2] at k2
      rw [hd1] at z1
      rw [hd2] at z2
      obtain ⟨⟨e1', e2'⟩, k3⟩ := k2
      subst e1'
      rw [e2'] at z2
      rw [hΓ] at k3
      obtain ⟨a, dx, fs, rfl, na, ea, eka, la⟩ := fz_obj z1
      obtain ⟨b, dy, gs, rfl, nb, eb, ekb, lb⟩ := fz_obj z2
      refine ⟨a, b, dx, dy, fs, gs, rfl, rfl, ea, eb, ?_⟩
      refine liftSp_ex (Ex := WE (wx F noX) σ) (fun cls d H ⟨_, _, _, _, _, _, w⟩ => w.elim) ?_
      refine lift_of hT (E := noX) (K := fun r s' => notB neg r s' K noX) (scal := false) R2 (lent0 _ _) (.inl rfl) ((ArgsOk.d z1 (.d z2 .nil)).mono fun _ z => lentA0 z) hn k3 fun r s' v H' ow' k rr e => ?_
      cases r with
      | fz d =>
        cases d with
        | bl bb =>
          obtain ⟨R', z⟩ := rr
          cases z
          exact ⟨bb, rfl, hq _ s' _ H' ow' k ⟨R', .bl _⟩ ((e1.trans e2).trans e)⟩
        | _ => exact k.elim
      | _ => exact k.elim
    | _ => rw [hd1, hd2] at k2; exact k2.elim
  | _ => rw [hd1] at k2; exact k2.elim
theorem sx_oeq (g : Gd X F E) {b : Expr} {ib : Ex} {c : Str} {k : Nat} {con : Con} {dfl : List D} {sc : Bool} (e : MtE X.prog X.w X.K X.mg X.base F.G k c "__eq__" con dfl 0) (hΓ : Γ.mth c "__eq__" = some (.pl con sc dfl)) (hob : PySem.W.findIn X.K (.ref (F.G.ga c)) "__ne__" = some (some (.builtin "object.__ne__")) ∧ PySem.W.mroIn X.K (F.G.ga c) (.type "object") = some true) (hr : RoomG k X.A)
    (ha : SX X F E Γ a ia) (hb : SX X F E Γ b ib) (hm : behindInMarks .Eq b = false := by first | exact nomark _ | rfl) : SX X F E Γ (.Compare a [.Eq] [b] pos) (.oeq c false ia ib) := by
  obtain ⟨f, fd, ps, dvs, ds, ok, hcl, hmt, hbi, hd, hlen, hdf⟩ := e.ok
  have h0 : dvs = [] := args_nil (show ArgsOk F.G F.T (fun _ => False) (fun _ => none) dvs [] by
    have z := hdf F.T (fun _ => False) (fun _ => none)
    rw [show dflTail dfl 0 = [] by simp [dflTail]] at z
    exact z)
  subst h0
  cases hd
  exact PEimp (pe_cmpR (op_oeq ok ⟨hmt.at_, hmt.fn, hob.1, hob.2⟩ hbi passE0 hr) ha hb hm) fun _ _ _ h => lr_oeq g.tb hΓ hlen h
theorem sx_one_ (g : Gd X F E) {b : Expr} {ib : Ex} {c : Str} {k : Nat} {con : Con} {dfl : List D} {sc : Bool} (e : MtE X.prog X.w X.K X.mg X.base F.G k c "__eq__" con dfl 0) (hΓ : Γ.mth c "__eq__" = some (.pl con sc dfl)) (hob : PySem.W.findIn X.K (.ref (F.G.ga c)) "__ne__" = some (some (.builtin "object.__ne__")) ∧ PySem.W.mroIn X.K (F.G.ga c) (.type "object") = some true) (hr : RoomG (k + 1) X.A)
    (ha : SX X F E Γ a ia) (hb : SX X F E Γ b ib) (hm : behindInMarks .NotEq b = false := by first | exact nomark _ | rfl) : SX X F E Γ (.Compare a [.NotEq] [b] pos) (.oeq c true ia ib) := by
  obtain ⟨f, fd, ps, dvs, ds, ok, hcl, hmt, hbi, hd, hlen, hdf⟩ := e.ok
  have h0 : dvs = [] := args_nil (show ArgsOk F.G F.T (fun _ => False) (fun _ => none) dvs [] by
    have z := hdf F.T (fun _ => False) (fun _ => none)
    rw [show dflTail dfl 0 = [] by simp [dflTail]] at z
    exact z)
  subst h0
  cases hd
  exact PEimp (pe_cmpR (op_one ok ⟨hmt.at_, hmt.fn, hob.1, hob.2⟩ hbi passE0 hr g.u1) ha hb hm) fun _ _ _ h => lr_oeq g.tb hΓ hlen h
end
/-- the __iter__ of a class -/
theorem it_ok {P : Program} {w : World} {K : PySem.W.Frag} {mg : Str → Option Value} {base : Heap} {G : Gc} {k : Nat} {c fl : Str} {x qual : Str} {params : Arguments} {body : List Stmt} {scope : Scope} {dvs : List V} {kws : List (Str × V)} {f : Addr} {fd : FuncData} {N ps : List Str}
    (F : FunD K x qual params body scope dvs kws f fd) (S : FnScope N ps scope) (hps : ps.length = 1) (hN : 0 < N.length) (hm : Meth K (G.ga c) "__iter__" f) (hb : Binds K fd ps []) (hc : Cls K (G.ga c)) (hn : NoAttr K (G.ga c) fl)
    (hbody : ∀ (cdv : Value) (A : Around) (outer : List PySem.Env) (s : Shared) (H : Hp), PSs (cxOf CX0 P w K mg base N qual scope f cdv A outer s H E0) body (tRet (tCB (rIterT K s.heap.objs.size) (tCons (tFld K (tVar 0) fl) tNil)))) :
    ItE P w K mg base G (k + 1) c fl := by
  refine ⟨f, fd, ps, hps, hm, hb, ?_⟩
  obtain ⟨oc, od, dV, kV, doc, pm, an, cdv, ct, osl, rfl, lk, hcd, _, _⟩ := F.ex
  intro A outer s H args uz a dx fs t xs hr e0 hb r ha hl ht
  have hln : [V.ref a].length = ps.length := by rw [hps]; rfl
  have KXX : K.In s.heap := e0.mod.kin.keeps fun b o e => (e0.bs b o e).1
  have limi : s.heap.NoLimit := e0.mod.nolimit.keeps fun b o e => (e0.bs b o e).1
  have hkind : ∀ y ∈ ps.zip uz, scope.names.lookup y.1 = some .local ∨ (scope.names.lookup y.1 = some .cell ∧ ((cellsFrom (s.heap.objs.size + 1) scope.names []).lookup y.1).isSome = true) := fun ⟨n, v⟩ hy => by
    rcases S.par n (List.of_mem_zip hy).1 with q | q
    · exact .inl q
    · exact .inr ⟨q, PySem.W.cellsFrom_some _ _ _ (.inl q)⟩
  refine codeAny_call_function hr.depth (KXX _ _ lk) rfl S.co S.gen rfl (PySem.W.codeRec_of KXX hcd) (hb _ _ _ _ ?_)
  refine wpAny_newFunctionEnv_cells S.kind hkind fun env he sy x => ?_
  subst he
  refine ⟨limi.keeps x.toInCall.keep, codeAny_func ?_⟩
  have ht' := hbody cdv A outer s H
  have I : Inv (cxOf CX0 P w K mg base N qual scope f cdv A outer s H E0) [] (start N [.ref a]) H sy := inv_start S hr.hd e0 hln r x
  have hqq : (tRet (tCB (rIterT K s.heap.objs.size) (tCons (tFld K (tVar 0) fl) tNil))) { nx := fun _ _ => False, rt := fun v H' => ∃ it, v = .ref it ∧ s.heap.objs.size ≤ it ∧ H it = none ∧ H' = upd H it (ItT t it) } (start N [.ref a]) H := by
    refine ⟨.ref a, by simp [L2.start], a, _, dx, fs, _, rfl, ha, hc, hn, hl, t, xs, rfl, ht, fun it h1 h2 => ⟨it, rfl, h2, h1, rfl⟩⟩
  refine wpAny_mono (ht'.run [] sy (start N [.ref a]) H _ I hqq) (fun flw sz hs => ?_) fun e sz hs => hs
  cases flw with
  | ret u =>
    obtain ⟨v, σ', H', J, rvl, q⟩ := hs
    exact ⟨v, H', J.os, J.bare, J.base, J.hok, rvl, q⟩
  | next =>
    obtain ⟨σ', H', J, q⟩ := hs
    exact False.elim q
  | brk =>
    obtain ⟨_, _, _, q⟩ := hs
    exact False.elim q
  | cont =>
    obtain ⟨_, _, _, q⟩ := hs
    exact False.elim q
end PP

set_option Elab.async false
set_option linter.all false
set_option maxRecDepth 100000
set_option maxHeartbeats 2000000
namespace PP
open PySem L2
/-! ### more facts of the top -/
def exCls (c : Str) (K : PySem.W.Frag) : Bool :=
  He.eqO (PySem.W.findIn K (.ref (He.ga K c)) "__class__") (some (some (.builtin "object.__class__"))) &&
  (decide (PySem.W.specialIn K (.builtin "object.__class__") "__get__" = some (some (.builtin "getset_descriptor.__get__"))) &&
  (decide (PySem.W.takesIn K (.builtin "object.__class__") = some true) &&
  (decide (PySem.W.mroIn K (He.ga K c) (.type "object") = some true) &&
  (decide (PySem.W.kitOne K (.ref (He.ga K c)) (.ref (He.ga K c)) = some true) &&
  He.eqO (PySem.W.findIn K (.ref (He.ga K c)) "__ne__") (some (some (.builtin "object.__ne__")))))))
theorem exCls_ok {c : Str} {K : PySem.W.Frag} (h : exCls c K = true) (hc : Cls K (He.ga K c)) : C8.InsC K (He.ga K c) ∧ (PySem.W.findIn K (.ref (He.ga K c)) "__ne__" = some (some (.builtin "object.__ne__")) ∧ PySem.W.mroIn K (He.ga K c) (.type "object") = some true) := by
  obtain ⟨h1, h⟩ := He.ba h
  obtain ⟨h2, h⟩ := He.ba h
  obtain ⟨h3, h⟩ := He.ba h
  obtain ⟨h4, h⟩ := He.ba h
  obtain ⟨h5, h6⟩ := He.ba h
  exact ⟨⟨hc, He.eqO_ok h1, of_decide_eq_true h2, of_decide_eq_true h3, of_decide_eq_true h4, of_decide_eq_true h5⟩, He.eqO_ok h6, of_decide_eq_true h4⟩
/-- the empty tuple that is written as a default -/
def exKt (p : PySem.W.Frag → Addr) (K : PySem.W.Frag) : Bool := match K.lookup (p K) with
  | some ⟨.type c, _, .seq its _, _⟩ => decide (c = "tuple") && decide (its.size = 0)
  | _ => false
theorem exKt_ok {p : PySem.W.Frag → Addr} {K : PySem.W.Frag} (h : exKt p K = true) : KTup K (p K) [] := by
  unfold exKt at h
  split at h
  · rename_i c dd its n sl e
    obtain ⟨h1, h2⟩ := He.ba h
    have h1 := of_decide_eq_true h1
    have h2 := of_decide_eq_true h2
    refine ⟨_, its, n, e, by rw [h1], rfl, by rw [h2]; exact Nat.zero_le _, ?_⟩
    have : its.toList = [] := by
      have := Array.length_toList (xs := its)
      rw [h2] at this
      exact List.eq_nil_of_length_eq_zero this
    rw [this]
    exact .nil
  · cases h
section
variable {P : Program} {w : World} {K : PySem.W.Frag} {mg : Str → Option Value} {base : Heap} {f : Addr} {fd : FuncData}
theorem mk_ok1 {G : Gc} {k : Nat} {t : Addr} (hKG : K = G.K) (ok : FnOg P w K mg base CX0 k f fd ["self", "row"] (spInit G)) (hm : Mk K (G.ga "Account") f) (hg : mg "Account" = some (.ref (G.ga "Account"))) (ht : KTup K t []) (hb : Binds K fd ["self", "row"] [.ref t]) : MkE P w K mg base G k "Account" conMk [.kt []] 1 := by
  refine ⟨f, fd, _, _, [.ref t], [.ref t], ok.cx, hm, hg, hb, .cons rfl .nil, fun vs H Q Ex h x dx hx hdx hne => ?_⟩
  obtain ⟨T, A, as, n, K', _, hs, h1, h2, hA, ha, ⟨row, rowD, e, hrow, hv, hk⟩, kq, _⟩ := h
  have e' : as ++ [some (.kt [])] = [some rowD] := e
  cases ha with
  | nil =>
    cases e'
    exact ⟨x, dx, H, T, A, row, _, n, _, rfl, rfl, hx, hdx, hne, hs, h1, h2, hA, .kt (by rw [← hKG]; exact ht) .nil, hrow, hv, fun H' kp st fz => ⟨rfl, kq _ _ _ H' hk kp st fz⟩⟩
  | st ha => cases ha <;> cases e'
  | d z ha => cases ha <;> cases e'
end
section
variable {X : Cx} {F : Fm} {E : XC} {Γ : Env} {pos : Pos}
/-- C() -/
theorem sx_mk0 (g : Gd X F E) {k : Nat} {x : Str} {con : Con} {dfl : List D} {nd : Nat} {p : Pos} (e : MkE X.prog X.w X.K X.mg X.base F.G k x con dfl nd) (hr : RoomG (k + 1) X.A) (hΓ : Γ.fn x = some (.pl con false dfl))
    (hpe : ∀ {f fd ps spI dvs ds} (M : Mk X.K (F.G.ga x) f) (ok : FnOg X.prog X.w X.K X.mg X.base (L2.CX X.prog X.w) k f fd ps spI) (hm : X.mg x = some (.ref (F.G.ga x))) (hb : Binds X.K fd ps ds) (hd : Vals dvs ds), PE X (.Call (.Name x p) [] [] pos) (tMakex (F.G.ga x) spI dvs (WE (wx F E)) tNil)) :
    SX X F E Γ (.Call (.Name x p) [] [] pos) (.call x [] nd) := by
  obtain ⟨f, fd, ps, spI, dvs, ds, ok, M, hm, hb, hd, imp⟩ := e.ok
  refine PEimp (hpe M ok hm hb hd) fun σ H Q h => ?_
  obtain ⟨Z, ow, s, K, R, hf, hq⟩ := h
  have hf : (callE (Γ.fn x) [] (evA Γ []) (evB Γ []) nd) s K E := hf
  rw [hΓ] at hf
  refine imp [] H Q _ ⟨F.T, lentA Z ow [], [], s.c, _, _, R.strm, fun a z => ⟨.inl (R.zs a z), fun ⟨_, h, _⟩ => (by cases h)⟩, g.tb, fun a z => R.avT z.1, .nil, hf, fun r c' v H' k kp st rr => ?_, fun xn c' cls d H' k kp st xi => err_called R (lent0 _ _) (.inl rfl) k kp st xi⟩
  exact hq r _ v H' ow k.2 (rr_called R (lent0 _ _) kp st rr (.inl rfl)) (Eff.called R (lent0 _ _) kp st)
end
end PP

set_option Elab.async false
set_option linter.all false
set_option maxRecDepth 100000
set_option maxHeartbeats 2000000
namespace PP
open PySem L2
/-! ### a comprehension over a list of one's own -/
section
variable {X : Cx} {F : Fm} {E : XC} {Γ : Env} {pos : Pos}
theorem lcJ {t : Tg} {g : TG} {tests : M Bool} {elt : M R} {σ : L2.St} {H1 : Hp} {Q : VK} {Z : AS} {ow1 : Ow} {s1 : S} {J : It} {xs : List PP.D} {K : R → S → Prop} (hn : ∀ i ∈ t.ix, i < σ.length) (ht : TgS F t g)
    (R1 : Rep F Z ow1 σ H1 s1) (src : Src F Z ow1 H1 J xs) (k1 : (bnd (lcGo t tests (toD elt) xs []) fun ys => wiped t.ix (.nl ys)) s1 K E) (hq : ∀ r s' v H' ow', K r s' → RR F Z H1 ow' σ H' s' v r → Eff F Z ow1 H1 ow' H' → Q v H') :
    ∀ D, H1 D = none → ∃ W : Nat → Nat → Hp → Prop, (∃ m, W 0 m (upd H1 D (.lst []))) ∧ ∀ i m H, W i m H →
      (J.stop i H ∧ Q (.ref D) H) ∨ (J.go i H ∧ ∃ Nx : Hp → Prop, (∀ H', Nx H' → ∃ m', m' < m ∧ W (i + 1) m' H') ∧ ∀ x H', J.yld i H x H' → g x (L2.wipe σ t.ix) H' fun σ2 H2 => L2.wipe σ2 t.ix = L2.wipe σ t.ix ∧ (LT F noX tests) σ2 H2 fun b H3 =>
        if b = true then (LR F noX elt) σ2 H3 fun y H4 => ∃ acc, H4 D = some (.lst acc) ∧ acc.length < sizeLine ∧ Nx (upd H4 D (.lst (acc ++ [y]))) else Nx H3) := by
  intro D hD
  obtain ⟨nmD, n0D, nzD⟩ := R1.new0 hD
  have RD := R1.alloc (o := .lst []) hD
  have zD : add Z D D := .inr rfl
  have nsD : D ≠ F.T.s := fun e => nmD (e ▸ R1.mds _ (.inl rfl))
  have nlD : D ≠ F.T.l := fun e => nmD (e ▸ R1.mds _ (.inr (.inl rfl)))
  let Kw : List PP.D → S → Prop := fun ys s2 => wiped t.ix (.nl ys) s2 K E
  let W0 : Nat → Hp → Prop := fun i H' => i ≤ xs.length ∧ ∃ σ2 ow2 s2 vs acc, σ2.length = σ.length ∧ (∀ j, j ∉ t.ix → σ2[j]? = σ[j]?) ∧ Rep F (add Z D) ow2 σ2 H' s2 ∧ Eff F Z ow1 H1 ow2 H' ∧ H' D = some (.lst vs) ∧ FzL F.G (Av' (add Z D) ow2) H' vs acc ∧ acc.length ≤ i ∧ lcGo t tests (toD elt) (xs.drop i) acc s2 Kw E
  refine ⟨fun i m H' => m = xs.length - i ∧ W0 i H', ⟨xs.length, by simp, Nat.zero_le _, σ, ow1, s1, [], [], rfl, fun _ _ => rfl, RD, Eff.new hD, upd_same, .nil, Nat.zero_le _, k1⟩, ?_⟩
  rintro i m H' ⟨rfl, hi, σ2, ow2, s2, vs, acc, hl2, ho2, R2, e2, hDv, lacc, hacc, w⟩
  by_cases hlt : i < xs.length
  · rw [drop_get hlt] at w
    obtain ⟨nio, w⟩ := w
    have Rw := R2.wipe (σ' := L2.wipe σ t.ix) nio (by rw [L2.wipe_length, hl2]) (fun j hj => by rw [L2.wipe_out hj, ho2 j hj])
    refine .inr ⟨src.go i ow2 H' hlt e2, W0 (i + 1), fun H'' p' => ⟨xs.length - (i + 1), by omega, rfl, p'⟩, fun x H3 hy => ?_⟩
    obtain ⟨R3, e3, z3⟩ := src.yld i xs[i] (add Z D) _ _ (wipeO t.ix ow2) H' x H3 (by simp [hlt]) e2.wipe (fun a z => z.imp id fun q => by rw [q]; exact hD) Rw hy
    refine ht (add Z D) _ _ H3 _ noX x _ _ _ (fun j hj => by rw [L2.wipe_length]; exact hn j hj) R3 z3 w fun s4 σ4 ow4 w4 R4 e4 l4 o4 => ?_
    have hl4 : σ4.length = σ.length := by rw [l4, L2.wipe_length]
    have ho4 : ∀ j, j ∉ t.ix → σ4[j]? = σ[j]? := fun j hj => by rw [o4 j hj, L2.wipe_out hj]
    refine ⟨wipe_eq (by rw [hl4]) ho4, ⟨add Z D, ow4, s4, _, R4, w4, fun b s5 H5 ow5 w5 R5 e5 => ?_⟩⟩
    have eZ : ∀ {a b : Ow} {h1 h2 : Hp}, Eff F (add Z D) a h1 b h2 → Eff F Z a h1 b h2 := fun e => e.mono fun _ z => .inl z
    have hD3 : H3 D = some (.lst vs) := Rw.atZ e3 zD nmD hDv
    have hD5 : H5 D = some (.lst vs) := R4.atZ e5 zD nmD hD3
    have eall : Eff F Z ow1 H1 ow5 H5 := ((e2.wipe.trans (eZ e3)).trans (eZ e4)).trans (eZ e5)
    have l2 : FzL F.G (Av' (add Z D) (wipeO t.ix ow2)) H' vs acc := lacc.mono fun a z => .inl (z.imp id fun ⟨j, q⟩ => ⟨j, (wipeO_sub q).2⟩)
    have l5 : FzL F.G (Av' (add Z D) ow5) H5 vs acc := R4.fzl e5 (R3.fzl e4 (Rw.fzl e3 l2))
    cases b with
    | false =>
      refine iteF ?_
      exact ⟨hlt, σ4, ow5, s5, vs, acc, hl4, ho4, R5, eall, hD5, l5, Nat.le_succ_of_le hacc, w5⟩
    | true =>
      refine iteT ?_
      refine ⟨add Z D, ow5, s5, _, R5, w5, fun r s6 v6 H6 ow6 w6 rr6 e6 => ?_⟩
      obtain ⟨R6, z6⟩ := rr6.fz' R5
      have hD6 : H6 D = some (.lst vs) := R5.atZ e6 zD nmD hD5
      have l6 := R5.fzl e6 l5
      have kup : Keep (Av' (add Z D) ow6) (add Z D) H6 (upd H6 D (.lst (vs ++ [v6]))) := fun b u e n => ⟨u, (upd_ne (fun q => n (.inl (by rw [q]; exact zD)))).trans e, .refl u, fun _ => rfl⟩
      refine ⟨vs, hD6, ?_, hlt, σ4, ow6, s6, vs ++ [v6], acc ++ [r.d], hl4, ho4, R6.updZ zD nmD n0D nsD nlD (fun u e => by rw [hD6] at e; cases e; exact nt_lst), ?_, upd_same, (l6.append (.one z6)).keep kup, by rw [List.length_append]; exact Nat.succ_le_succ hacc, w6⟩
      · rw [l6.length]
        exact Nat.lt_of_le_of_lt hacc (Nat.lt_of_lt_of_le hlt src.len)
      · have e61 := eall.trans (eZ e6)
        exact ⟨e61.k.upd (.inr hD), e61.o, fun p hp => dm_upd p (e61.dm p hp)⟩
  · have ei : i = xs.length := by omega
    subst ei
    rw [List.drop_length] at w
    obtain ⟨nio, w⟩ := (show noIo t.ix s2.sl = true ∧ K (.nl acc) { s2 with sl := wipeS t.ix s2.sl } from w)
    have Rw := R2.wipe (σ' := σ) nio hl2.symm (fun j hj => (ho2 j hj).symm)
    refine .inl ⟨src.stop ow2 H' e2, ?_⟩
    exact hq (.nl acc) _ _ H' (wipeO t.ix ow2) w ⟨D, vs, rfl, hD, fun z => nzD (.inl z), nmD, n0D, Rw, hDv, lacc.mono fun a z => .inl (z.imp id fun ⟨j, q⟩ => ⟨j, (wipeO_sub q).2⟩)⟩ e2.wipe
end
section
variable {F : Fm} {E : XC} {Z : AS} {ow ow1 : Ow} {σ : L2.St} {H H1 : Hp} {s s1 : S}
theorem gt_none : ∀ {l : List (Option P)} {i j : Nat} {p : P}, gt (pt l i none) j = some p → j ≠ i
  | [], _, _, _, h => by cases h
  | _ :: _, 0, 0, _, h => by cases h
  | _ :: _, 0, _ + 1, _, h => by simp
  | _ :: _, _ + 1, 0, _, h => by simp
  | _ :: l, i + 1, j + 1, p, h => fun e => gt_none (l := l) (i := i) (j := j) (p := p) h (by omega)
theorem Rep.lock1 {i : Nat} {xs : List D} (R : Rep F Z ow σ H s) (hg : gt s.sl i = some (.own xs)) : ∃ a vs, σ[i]? = some (some (.ref a)) ∧ H a = some (.lst vs) ∧ FzL F.G (Av' Z ow) H vs xs ∧ ow i = some a ∧ ¬ F.md a ∧ F.H0 a = none ∧ ¬ Z a ∧
    Rep F (add Z a) (dropO ow i) σ H { s with sl := pt s.sl i none } := by
  obtain ⟨v, hv, a, vs, rfl, ho, nm, h0, e, l⟩ := R.sl i _ hg
  refine ⟨a, vs, hv, e, l, ho, nm, h0, R.oz i a ho, R.keep, R.strm, R.mds, fun a z => .inl (R.zs a z), fun b z => (R.z0 b z).imp .inl id, fun b z => ?_, fun b z => ?_, fun j p q z => ?_, fun j k p q1 q2 => R.od j k p (dropO_sub q1).2 (dropO_sub q2).2, fun j p q => ?_, ?_, fun j p q => ?_⟩
  · rcases z with z | rfl
    · exact R.zin b z
    · exact .of e nofun
  · rcases R.mdz b z with q | ⟨j, q⟩
    · exact .inl (.inl q)
    · by_cases hj : j = i
      · subst hj
        rw [ho] at q
        cases q
        exact absurd z nm
      · exact .inr ⟨j, by unfold dropO; rw [if_neg hj]; exact q⟩
  · obtain ⟨hj, q⟩ := dropO_sub q
    rcases z with z | z
    · exact R.oz j p q z
    · exact hj (R.od j i p q (by rw [ho, z]))
  · obtain ⟨hj, q⟩ := dropO_sub q
    obtain ⟨p', hp, hn⟩ := R.oin j p q
    exact ⟨p', by show gt (pt s.sl i none) j = _; rw [gt_pt_ne hj]; exact hp, hn⟩
  · show (pt s.sl i none).length = _
    rw [pt_len]; exact R.len
  · have hj := gt_none q
    have q' : gt s.sl j = some p := by rw [← gt_pt_ne hj]; exact q
    obtain ⟨w, hw, ok⟩ := R.sl j p q'
    refine ⟨w, hw, ?_⟩
    rw [show dropO ow i j = ow j by unfold dropO; rw [if_neg hj]]
    exact ok.tr (Keep.refl (Av' Z ow) Z H) (fun b z => .inl (by
      rcases z with (z | rfl) | ⟨k, z⟩
      · exact .inl z
      · exact .inr ⟨i, ho⟩
      · exact .inr ⟨k, (dropO_sub z).2⟩)) fun _ _ => rfl
theorem src_lock {a : Addr} {vs : List V} {xs : List D} (R : Rep F Z ow σ H s) (z : Z a) (nm : ¬ F.md a) (h : H a = some (.lst vs)) (l : FzL F.G (Av' Z ow) H vs xs) (hz : vs.length ≤ sizeLine) : Src F Z ow H (Itl F.G.K a) xs := by
  refine ⟨by rw [← l.length]; exact hz, fun i ow1 H1 hi e => ?_, fun ow1 H1 e => ?_, fun i d Y σ1 s1 ow1 H1 v H2 hd e hY R1 hy => ?_⟩
  · exact ⟨vs, vs[i]'(by rw [l.length]; exact hi), SqL.of (R.atZ e z nm h), by simp [l.length, hi]⟩
  · exact ⟨vs, SqL.of (R.atZ e z nm h), by rw [l.length]; exact Nat.le_refl _⟩
  · obtain ⟨rfl, hv⟩ := hy
    obtain ⟨v', hv', z'⟩ := (R.fzlZ e hY l).getD hd
    have := hv vs (SqL.of (R.atZ e z nm h))
    rw [hv'] at this
    cases this
    exact ⟨R1, Eff.refl _ _ _ _, z'⟩
/-- the list is one's own again -/
theorem unlock {i : Nat} {a : Addr} {vs : List V} {xs ys : List D} {v : V} (R : Rep F Z ow σ H s) (hs : σ[i]? = some (some (.ref a))) (ho : ow i = some a) (nm : ¬ F.md a) (h0 : F.H0 a = none) (nz : ¬ Z a) (ha : H a = some (.lst vs)) (l : FzL F.G (Av' Z ow) H vs xs)
    (RL : Rep F (add Z a) (dropO ow i) σ H { s with sl := pt s.sl i none }) (rr : RR F (add Z a) H ow1 σ H1 s1 v (.nl ys)) (e : Eff F (add Z a) (dropO ow i) H ow1 H1) (hg : gt s1.sl i = none) :
    RR F Z H (setO ow1 i a) σ H1 { s1 with sl := pt s1.sl i (some (.own xs)) } v (.nl ys) ∧ Eff F Z ow H (setO ow1 i a) H1 := by
  obtain ⟨p, ws, rfl, hp, np, nmp, h0p, R1, e1, l1⟩ := rr
  have ha1 : H1 a = some (.lst vs) := RL.atZ e (.inr rfl) nm ha
  have l0 : FzL F.G (Av' (add Z a) (dropO ow i)) H vs xs := l.mono fun b z => .inl (by
    rcases z with (z | rfl) | ⟨k, z⟩
    · exact .inl z
    · exact .inr ⟨i, ho⟩
    · exact .inr ⟨k, (dropO_sub z).2⟩)
  have l2 : FzL F.G (Av' (add Z a) ow1) H1 vs xs := RL.fzl e l0
  have apn : a ≠ p := fun q => np (.inr q.symm)
  have R1' : Rep F (add (add Z p) a) ow1 σ H1 s1 := R1.less (fun b z => by
      rcases z with (z | z) | z
      · exact .inl (.inl z)
      · exact .inr z
      · exact .inl (.inr z)) (fun a z => .inl (.inl (R.zs a z))) (fun b z => (R.z0 b z).imp (fun z => .inl (.inl z)) id) fun b z => by
    rcases R1.mdz b z with ((q | q) | q) | q
    · exact .inl (.inl (.inl q))
    · exact .inl (.inr q)
    · exact .inl (.inl (.inr q))
    · exact .inr q
  have R0 : Rep F (add Z p) ow1 σ H1 s1 := R1'.unadd (fun a z => .inl (R.zs a z)) (fun b z => (R.z0 b z).imp .inl id) nm
  have hlt : i < s1.sl.length := by
    rw [R1.len]
    exact (List.getElem?_eq_some_iff.mp hs).1
  have sub : ∀ b, Av' (add Z p) (setO ow1 i a) b → Av' (add (add Z a) p) ow1 b := fun b z => by
    rcases z with (z | z) | ⟨k, z⟩
    · exact .inl (.inl (.inl z))
    · exact .inl (.inr z)
    · rcases setO_sub z with ⟨_, z⟩ | ⟨_, z⟩
      · exact .inl (.inl (.inr z))
      · exact .inr ⟨k, z⟩
  refine ⟨⟨p, ws, rfl, hp, fun z => np (.inl z), nmp, h0p, R1'.storeN R0 (fun z => z.elim nz apn) (by rw [hg]; rfl) rfl hs (fun _ _ => rfl) nm (by intro d; exact nofun) (fun A hA => ⟨a, vs, rfl, rfl, nm, h0, ha1, ?_⟩) hlt, e1, l1.mono fun b z => .inl (sub b z)⟩, ?_⟩
  · have l3 : FzL F.G (Av' (add (add Z p) a) ow1) H1 vs xs := RL.fzlZ e (fun b z => by
      rcases z with (z | z) | z
      · exact .inl (.inl z)
      · exact .inr (by rw [z]; exact hp)
      · exact .inl (.inr z)) l0
    exact l3.mono fun b z => .inl (hA b z)
  · refine ⟨e.k.mono (fun b z => z.imp id fun ⟨k, z⟩ => ⟨k, (dropO_sub z).2⟩) fun b z => .inl z, fun j q h => ?_, e.dm⟩
    rcases setO_sub h with ⟨_, rfl⟩ | ⟨_, h⟩
    · exact .inl ⟨i, ho⟩
    · exact (e.o j q h).imp (fun ⟨k, z⟩ => ⟨k, (dropO_sub z).2⟩) id
end
section
variable {X : Cx} {F : Fm} {E : XC} {Γ : Env} {pos : Pos}
theorem lr_lcv {i : Nat} {t : Tg} {g : TG} {tests : M Bool} {elt : M R} {σ : L2.St} {H : Hp} {Q : VK} (hK : X.K = F.G.K) (hsz : SizeOk X.K H) (hn : ∀ i ∈ t.ix, i < σ.length) (ht : TgS F t g)
    (h : LR F E (lockL i fun xs => bnd (lcGo t tests (toD elt) xs []) fun ys => wiped t.ix (.nl ys)) σ H Q) : tLc (iAny X.K (tVar i)) g (LT F noX tests) (LR F noX elt) t.ix σ H Q := by
  obtain ⟨Z, ow, s, K, R, hf, hq⟩ := h
  cases hg : gt s.sl i with
  | none => unfold lockL at hf; rw [hg] at hf; exact hf.elim
  | some q =>
    cases q with
    | own xs =>
      unfold lockL at hf
      rw [hg] at hf
      obtain ⟨a, vs, hs, ha, l, ho, nm, h0, nz, RL⟩ := R.lock1 hg
      have l0 : FzL F.G (Av' (add Z a) (dropO ow i)) H vs xs := l.mono fun b z => .inl (by
        rcases z with (z | rfl) | ⟨k, z⟩
        · exact .inl z
        · exact .inr ⟨i, ho⟩
        · exact .inr ⟨k, (dropO_sub z).2⟩)
      have hz : vs.length ≤ sizeLine := hsz.l a vs (SqL.of ha)
      refine ⟨.ref a, hs, .inl ⟨a, vs, rfl, SqL.of ha, ?_⟩⟩
      rw [hK]
      refine lcJ hn ht RL (src_lock RL (.inr rfl) nm ha l0 hz) hf fun r s' v H' ow' k rr e => ?_
      cases r with
      | nl ys =>
        obtain ⟨k1, k2⟩ := k
        obtain ⟨rr', e'⟩ := unlock R hs ho nm h0 nz ha l RL rr e k1
        exact hq _ _ _ _ _ k2 rr' e'
      | _ => exact k.elim
    | _ => unfold lockL at hf; rw [hg] at hf; exact hf.elim
theorem pe_sz {X : Cx} {e : Expr} {t : TE} (h : PE X e t) : PE X e (fun σ H Q => SizeOk X.K H → t σ H Q) := ⟨fun p s σ H Q I w => h.run p s σ H Q I (w (sizeOk I))⟩
theorem sx_lcv (g : Gd X F E) (i : Nat) {x : Str} {pv : Pos} {elt tg : Expr} {ifs : List Expr} {scope : Scope} {own : List (Str × Nat)} {ielt : Ex} {iifs : List Ex} {t : Tg} {gr : TG} (ok : BlkOk X.N X.env.scope scope own) (ho : own.map (·.2) = t.ix) (hs : TgS F t gr)
    (hg : ∀ (s : Shared) (H : Hp) (C : Addr) (cl : List (Str × Addr)) (fp : List Addr), PG (X.blk s H scope (compEnvC scope cl C X.env) fp) tg gr)
    (ht : ∀ (s : Shared) (H : Hp) (C : Addr) (cl : List (Str × Addr)) (fp : List Addr), PTs (X.blk s H scope (compEnvC scope cl C X.env) fp) ifs (LT F noX (evTs Γ iifs)))
    (he : ∀ (s : Shared) (H : Hp) (C : Addr) (cl : List (Str × Addr)) (fp : List Addr), SX (X.blk s H scope (compEnvC scope cl C X.env) fp) F noX Γ elt ielt)
    (hN : X.N[i]? = some x := by rfl) (hv : Vis X.env.scope x := by first | exact Or.inl rfl | exact Or.inr (Or.inl rfl) | exact Or.inr (Or.inr rfl)) (hd : (x == ("__debug__" : Str)) = false := by decide) (hcd : (x == ("__classdict__" : Str)) = false := by decide)
    (hf : ∀ y, foldedSetIterable (.Name x pv) X.env y = pure y := by intro _; rfl) :
    SX X F E Γ (.ListComp elt [⟨tg, .Name x pv, ifs, 0⟩] scope pos) (.lcv i t iifs ielt) :=
  PEimp (pe_sz (pe_len (pe_lc g.calm g.nd (pi_any (pe_var (i := i) hN hv hd hcd)) ok hg ht he hf))) fun σ H Q h hsz hl => by
    rw [ho]
    exact lr_lcv g.hK hsz (fun i hi => by rw [hl]; exact ix_lt ok ho i hi) hs h
end
end PP

set_option Elab.async false
set_option linter.all false
set_option maxRecDepth 100000
set_option maxHeartbeats 2000000
namespace PP
open PySem L2
section
variable {X : Cx} {F : Fm} {E : XC} {Γ : Env} {a b : Expr} {ia ib : Ex} {pos : Pos}
theorem notB_bl {neg : Bool} {r : R} {s : S} {K : R → S → Prop} {e : XC} : notB neg r s (fun r s' => K r s' ∧ ∃ b, r = .fz (.bl b)) e = notB neg r s K e := by
  cases r with
  | fz d =>
    cases d with
    | bl b => exact propext ⟨fun h => h.1, fun h => ⟨h, _, rfl⟩⟩
    | _ => rfl
  | _ => rfl
theorem qOeq_bl {c : Str} {neg : Bool} {x y : D} {s : S} {K : R → S → Prop} {e : XC} (w : qOeq Γ c neg x y s K e) : qOeq Γ c neg x y s (fun r s' => K r s' ∧ ∃ b, r = .fz (.bl b)) e := by
  cases x with
  | obj c1 fs =>
    cases y with
    | obj c2 gs =>
      obtain ⟨w1, w2⟩ := w
      refine ⟨w1, ?_⟩
      cases hm : Γ.mth c "__eq__" with
      | none => rw [hm] at w2; exact w2.elim
      | some fe =>
        rw [hm] at w2
        cases fe with
        | pl con sc dfl =>
          have e1 : (bnd (callC con false [some (.obj c fs), some (.obj c gs)]) (notB neg)) s (fun r s' => K r s' ∧ ∃ b, r = .fz (.bl b)) noX = (bnd (callC con false [some (.obj c fs), some (.obj c gs)]) (notB neg)) s K noX := by
            unfold bnd
            congr 1
            funext r s'
            exact notB_bl
          exact e1.mpr w2
        | io _ _ => exact w2.elim
    | _ => exact w.elim
  | _ => cases y <;> exact w.elim
theorem lt_oeq (hT : F.T.tb = F.G.tb) {c : Str} {neg : Bool} {con : Con} {dfl : List D} {sc : Bool} {np : Nat} {fa fb : M R} {σ : L2.St} {H : Hp} {Q : Bool → Hp → Prop} (hΓ : Γ.mth c "__eq__" = some (.pl con sc dfl)) (hn : ∀ as c K e, con as c K e → as.length = np)
    (h : LT F E (dfT .non (bnd (toD fa) fun x => bnd (toD fb) fun y => qOeq Γ c neg x y)) σ H Q) : tOp (rOeq (F.G.ga c) (liftSp F.G np con) E0 neg) (LR F E fa) (LR F E fb) σ H (fun v H' => ∃ b, v = .bl b ∧ Q b H') := by
  obtain ⟨Z, ow, s, K, R, hf, hq⟩ := h
  refine lr_oeq hT hΓ hn ⟨Z, ow, s, fun r s' => qTru r.d s' K E ∧ ∃ b, r = .fz (.bl b), R, ?_, fun r s' v H' ow' k rr e => ?_⟩
  · have e1 : (bnd (toD fa) fun x => bnd (toD fb) fun y => qOeq Γ c neg x y) s (fun r s' => qTru r.d s' K E ∧ ∃ b, r = .fz (.bl b)) E = (bnd (toD fa) fun x => bnd (toD fb) fun y => qOeq Γ c neg x y) s (fun r s' => qTru r.d s' K E) E := by
      show fa s (fun r1 s1 => fb s1 (fun r2 s2 => qOeq Γ c neg r1.d r2.d s2 (fun r s' => qTru r.d s' K E ∧ ∃ b, r = .fz (.bl b)) E) E) E = fa s (fun r1 s1 => fb s1 (fun r2 s2 => qOeq Γ c neg r1.d r2.d s2 (fun r s' => qTru r.d s' K E) E) E) E
      congr 1
      funext r1 s1
      congr 1
      funext r2 s2
      exact propext ⟨fun w => by
        cases hx : r1.d with
        | obj c1 fs =>
          cases hy : r2.d with
          | obj c2 gs =>
            rw [hx, hy] at w
            obtain ⟨w1, w2⟩ := w
            refine ⟨w1, ?_⟩
            rw [hΓ] at w2 ⊢
            have e1 : (bnd (callC con false [some (.obj c fs), some (.obj c gs)]) (notB neg)) s2 (fun r s' => qTru r.d s' K E ∧ ∃ b, r = .fz (.bl b)) noX = (bnd (callC con false [some (.obj c fs), some (.obj c gs)]) (notB neg)) s2 (fun r s' => qTru r.d s' K E) noX := by
              unfold bnd
              congr 1
              funext r s'
              exact notB_bl
            exact e1.mp w2
          | _ => rw [hx, hy] at w; exact w.elim
        | _ => rw [hx] at w; cases hy : r2.d <;> (rw [hy] at w; exact w.elim), qOeq_bl⟩
    exact e1.mpr hf
  · obtain ⟨k, b, rfl⟩ := k
    obtain ⟨R', z⟩ := rr
    cases z
    exact ⟨b, rfl, hq b s' H' ow' k.2 R' e⟩
theorem tx_oeq (g : Gd X F E) {c : Str} {k : Nat} {con : Con} {dfl : List D} {sc : Bool} (e : MtE X.prog X.w X.K X.mg X.base F.G k c "__eq__" con dfl 0) (hΓ : Γ.mth c "__eq__" = some (.pl con sc dfl)) (hob : PySem.W.findIn X.K (.ref (F.G.ga c)) "__ne__" = some (some (.builtin "object.__ne__")) ∧ PySem.W.mroIn X.K (F.G.ga c) (.type "object") = some true) (hr : RoomG k X.A)
    (ha : SX X F E Γ a ia) (hb : SX X F E Γ b ib) (hm : behindInMarks .Eq b = false := by first | exact nomark _ | rfl) : TX X F E Γ (.Compare a [.Eq] [b] pos) (.oeq c false ia ib) := by
  obtain ⟨f, fd, ps, dvs, ds, ok, hcl, hmt, hbi, hd, hlen, hdf⟩ := e.ok
  have h0 : dvs = [] := args_nil (show ArgsOk F.G F.T (fun _ => False) (fun _ => none) dvs [] by
    have z := hdf F.T (fun _ => False) (fun _ => none)
    rw [show dflTail dfl 0 = [] by simp [dflTail]] at z
    exact z)
  subst h0
  cases hd
  exact PTimp (pt_cmpR (op_oeq ok ⟨hmt.at_, hmt.fn, hob.1, hob.2⟩ hbi passE0 hr) ha hb hm) fun _ _ _ h => lt_oeq g.tb hΓ hlen h
theorem tx_one_ (g : Gd X F E) {c : Str} {k : Nat} {con : Con} {dfl : List D} {sc : Bool} (e : MtE X.prog X.w X.K X.mg X.base F.G k c "__eq__" con dfl 0) (hΓ : Γ.mth c "__eq__" = some (.pl con sc dfl)) (hob : PySem.W.findIn X.K (.ref (F.G.ga c)) "__ne__" = some (some (.builtin "object.__ne__")) ∧ PySem.W.mroIn X.K (F.G.ga c) (.type "object") = some true) (hr : RoomG (k + 1) X.A)
    (ha : SX X F E Γ a ia) (hb : SX X F E Γ b ib) (hm : behindInMarks .NotEq b = false := by first | exact nomark _ | rfl) : TX X F E Γ (.Compare a [.NotEq] [b] pos) (.oeq c true ia ib) := by
  obtain ⟨f, fd, ps, dvs, ds, ok, hcl, hmt, hbi, hd, hlen, hdf⟩ := e.ok
  have h0 : dvs = [] := args_nil (show ArgsOk F.G F.T (fun _ => False) (fun _ => none) dvs [] by
    have z := hdf F.T (fun _ => False) (fun _ => none)
    rw [show dflTail dfl 0 = [] by simp [dflTail]] at z
    exact z)
  subst h0
  cases hd
  exact PTimp (pt_cmpR (op_one ok ⟨hmt.at_, hmt.fn, hob.1, hob.2⟩ hbi passE0 hr g.u1) ha hb hm) fun _ _ _ h => lt_oeq g.tb hΓ hlen h
end
end PP

set_option Elab.async false
set_option linter.all false
set_option maxRecDepth 100000
set_option maxHeartbeats 4000000
namespace PP
open PySem PySem.W PySem.Calls PyProof.Rows
/-! ### an error whose __init__ says super().__init__(x), self.x = x -/
abbrev erBody (nm : Str) (p1 p2 p3 p4 p5 p6 p7 p8 p9 p10 : Pos) : List Stmt :=
  [.Expr (.Call (.Attribute (.Call (.Name "super" p1) [] [] p2) "__init__" p3) [.Name nm p4] [] p5) p6, .Assign [.Attribute (.Name "self" p7) nm p8] (.Name nm p9) p10]
structure ErrS (sc : Scope) (nm : Str) : Prop where
  kind : sc.kind = .function
  co : sc.isCoroutine = false
  gen : sc.isGenerator = false
  cell : ∀ x ∈ sc.names, x.2 ≠ .cell
  su : sc.names.lookup ("super" : Str) = some .globalImplicit
  cl : sc.names.lookup ("__class__" : Str) = some .free
  self : sc.names.lookup ("self" : Str) = some .local
  nm : sc.names.lookup nm = some .local
def BndNm (nm : Str) : Prop := ∀ (name qual : Str) (an1 an2 : Option PySem.Expr) (q1 q2 : Pos) (body : List Stmt) (sc : Scope) (kV doc pm : Value) (an : Option Addr) (cd ct : Value) (cc : Addr) (x y : Value),
  bindArgs (ksFn name qual ⟨[], [⟨"self", an1, q1⟩, ⟨nm, an2, q2⟩], none, [], [], none, []⟩ body sc .none kV doc pm an cd ct cc) ⟨[x, y], []⟩ = pure [(("self" : Str), x), (nm, y)]
theorem bnd_index : BndNm "index" := by intro _ _ _ _ _ _ _ _ _ _ _ _ _ _ _ _ _; rfl
theorem bnd_mark : BndNm "mark" := by intro _ _ _ _ _ _ _ _ _ _ _ _ _ _ _ _ _; rfl
theorem bnd_word : BndNm "word" := by intro _ _ _ _ _ _ _ _ _ _ _ _ _ _ _ _ _; rfl
theorem bnd_n : BndNm "n" := by intro _ _ _ _ _ _ _ _ _ _ _ _ _ _ _ _ _; rfl
/-- what the top says of it -/
structure ErrI (prog : Program) (K : Frag) (C f : Addr) (nm : Str) : Prop where
  fn : ∃ (oc : Value) (od : Option Addr) (osl : Array (Option Value)) (name qual : Str) (an1 an2 : Option PySem.Expr) (q1 q2 : Pos) (sc : Scope) (kV doc pm : Value) (an : Option Addr) (ct : Value) (cda cc : Addr) (p1 p2 p3 p4 p5 p6 p7 p8 p9 p10 : Pos),
    K.lookup f = some ⟨oc, od, .func (ksFn name qual ⟨[], [⟨"self", an1, q1⟩, ⟨nm, an2, q2⟩], none, [], [], none, []⟩ (erBody nm p1 p2 p3 p4 p5 p6 p7 p8 p9 p10) sc .none kV doc pm an (.ref cda) ct cc), osl⟩ ∧
      codeIn K (.ref cda) qual = true ∧ (p3.endLine == p5.line) = true ∧ ErrS sc nm ∧ (∃ cl cld csl, K.lookup cc = some ⟨cl, cld, .cell (some (.ref C)), csl⟩) ∧ ∃ ccl cdd vs ccs file tf, K.lookup cda = some ⟨ccl, cdd, .fields vs, ccs⟩ ∧ vs[2]? = some (.str file tf) ∧ ((prog.main.file : Str) == file) = true
  top : (prog.main.scope.names.lookup ("super" : Str)).isSome = false
  ne : nm ≠ "self"
  bnd : BndNm nm
  dbg : (nm == ("__debug__" : Str)) = false
  oex : L2.OexC K C
  no : findIn K (.ref C) nm = some none
  mro : mroIn K C (.ref C) = some true
  sub : subIn K (.ref C) (.type "ValueError") = some true
  opq : nsIn K cStatics "thirdparty.any" = some none
  sup : ks_superIn K C C "__init__" = some (some (.builtin "ValueError.__init__"))
theorem mc_super (env : PySem.Env) (nm : Str) (p1 p2 p3 p4 p5 : Pos) (h : (p3.endLine == p5.line) = true) : ∃ pl, eval (.Call (.Attribute (.Call (.Name "super" p1) [] [] p2) "__init__" p3) [.Name nm p4] [] p5) env = (do
      let ov ← attributeBase (.Call (.Name "super" p1) [] [] p2) "__init__" env (eval (.Call (.Name "super" p1) [] [] p2) env)
      standAt p3.atName
      let (f, first) ← holding [ov] (getMethod ov "__init__" pl)
      callWith p5 f first (backTo p5 (starEach [.Name nm p4] env)) []) := by
  refine ⟨(do return (← importBound (.Call (.Name "super" p1) [] [] p2) env).getD true), ?_⟩
  have e : methodCallPos true (.Call (.Name "super" p1) [] [] p2) env p3 p5 = pure p5 := by
    unfold methodCallPos
    rw [h]
    rfl
  show (do
      let ov ← attributeBase (.Call (.Name "super" p1) [] [] p2) "__init__" env (eval (.Call (.Name "super" p1) [] [] p2) env)
      standAt p3.atName
      let (f, first) ← holding [ov] (getMethod ov "__init__" (do return (← importBound (.Call (.Name "super" p1) [] [] p2) env).getD true))
      let cp ← methodCallPos true (.Call (.Name "super" p1) [] [] p2) env p3 p5
      callWith cp f first (backTo p5 (starEach [.Name nm p4] env)) []) = _
  rw [e]
  simp only [pure_bind]
section
variable {prog : Program} {w : World} {A : Around} {s : Shared} {K : Frag} {mg mb : Str → Option Value} {C f a t0 : Addr} {nm : Str} {u : Value}
theorem ldn {M : Model} {A : Around} {E : Value → Shared → Prop} {env : PySem.Env} {m : Str → Option Value} {x : Str} {pos : Pos} {v : Value} {s : Shared} {Q : Value → Shared → Prop} (hk : env.scope.kind = .function) (hl : env.kindOf x = some .local) (hn : s.heap.Ns env.locals m) (hv : m x = some v) (hd : (x == ("__debug__" : Str)) = false) (h : Q v s) :
    wpAny M A (eval (.Name x pos) env) Q E s := wpAny_Name (wpAny_loadName_local hk hl hn hv h) hd
theorem err_code {R : Result → Shared → Prop} (I : ErrI prog K C f nm) (X : K.In s.heap) (hlim : s.heap.NoLimit) (hroom : A.depth < recursionLimit) (hg : s.heap.Ns mainGlobals mg) (hgs : mg "super" = none) (hb : s.heap.Ns builtinsNs mb) (hbb : ∀ x : Str, x ≠ "__name__" → mb x = bootBuiltins x)
    (he : s.heap.get? a = some (HandSPX.excO C t0)) (hKa : ∀ o, K.lookup a ≠ some o)
    (h : ∀ h' tk' dx t1, (∀ b o, b ≠ a → s.heap.get? b = some o → h'.get? b = some o) → s.heap.get? dx = none → dx ≠ a → h'.get? a = some { cls := .ref C, dict := some dx, data := .fields #[.ref t1, .none, .none, .none, .bool false, .none] } →
      h'.Ns1 dx (fun y => if y = nm then some u else none) → R (.ok (.ret .none)) { s with heap := h', toks := tk' }) :
    codeAny (model prog w) A (.call (.ref f) ⟨[.ref a, u], []⟩) R s := by
  obtain ⟨oc, od, osl, name, qual, an1, an2, q1, q2, sc, kV, doc, pm, an, ct, cda, cc, p1, p2, p3, p4, p5, p6, p7, p8, p9, p10, lk, hcd, hpos, S, ⟨cl, cld, csl, hcell⟩, ccl, cdd, vs, ccs, file, tf, hcode, hvs, hfile⟩ := I.fn
  obtain ⟨kd, nms, ig, ic, mo⟩ := sc
  obtain rfl : kd = .function := S.kind
  obtain ⟨nmC, qC, N, bs, bm, sn, sub, ab, col, dd, k0, k1, k2, k3, k5, hC, hbm⟩ := I.oex.cls
  refine ks_codeAny_call_defAt (fd := ksFn name qual ⟨[], [⟨"self", an1, q1⟩, ⟨nm, an2, q2⟩], none, [], [], none, []⟩ (erBody nm p1 p2 p3 p4 p5 p6 p7 p8 p9 p10) ⟨.function, nms, ig, ic, mo⟩ .none kV doc pm an (.ref cda) ct cc) (body := erBody nm p1 p2 p3 p4 p5 p6 p7 p8 p9 p10) (binds := [("self", .ref a), (nm, u)])
    hroom (X _ _ lk) rfl hlim (codeRec_of X hcd) rfl (BindsTo.of_eq (I.bnd _ _ _ _ _ _ _ _ _ _ _ _ _ _ _ _ _)) S.cell ?_ (fun h₀ hns kp => ?_) S.co S.gen S.kind
  · intro x hx
    rcases List.mem_cons.mp hx with rfl | hx
    · exact S.self
    · rcases List.mem_cons.mp hx with rfl | hx
      · exact S.nm
      · cases hx
  have vself : (fun x : Str => ([(("self" : Str), Value.ref a), (nm, u)] : List (Str × Value)).reverse.lookup x) "self" = some (.ref a) := by
    have e : (("self" : Str) == nm) = false := by
      have := I.ne
      simp only [beq_eq_false_iff_ne, ne_eq]
      exact fun q => this q.symm
    simp [List.lookup, e]
  have vnm : (fun x : Str => ([(("self" : Str), Value.ref a), (nm, u)] : List (Str × Value)).reverse.lookup x) nm = some u := by
    simp [List.lookup]
  have X0 : K.In h₀ := X.keeps kp
  have he0 := kp _ _ he
  have hD1 := X0 _ _ hC
  have hD2 : (excClassObj nmC qC C N bs bm true sn sub ab col dd k0 k1 k2 k3 k5 "ValueError.__new__").data = .cls { name := nmC, bases := bs, mro := .ref C :: bm, ns := N, qualname := qC, hasDict := true, slotNames := sn, subclasses := sub, abstract := ab, collection := col, hasDel := false } := rfl
  have hcl : clsIn K C = some { name := nmC, bases := bs, mro := .ref C :: bm, ns := N, qualname := qC, hasDict := true, slotNames := sn, subclasses := sub, abstract := ab, collection := col, hasDel := false } := by unfold clsIn; rw [hC] <;> rfl
  have nLa : s.heap.objs.size ≠ a := Nat.ne_of_gt (Heap.lt_size he)
  obtain ⟨hp, g, d, tk, os⟩ := s
  obtain ⟨pl, hpl⟩ := mc_super (callEnv (ksFn name qual ⟨[], [⟨"self", an1, q1⟩, ⟨nm, an2, q2⟩], none, [], [], none, []⟩ (erBody nm p1 p2 p3 p4 p5 p6 p7 p8 p9 p10) ⟨.function, nms, ig, ic, mo⟩ .none kV doc pm an (.ref cda) ct cc) hp.objs.size f) nm p1 p2 p3 p4 p5 hpos
  refine ks_wpAt_execs_cons (ks_wpAt_Expr_any (ks_wpAt_MethodCall (pl := pl) ?_ hpl))
  refine ks_wpAt_super_base (ar := ⟨"self", an1, q1⟩) S.su S.cl (by decide) rfl (X0 _ _ lk) rfl rfl rfl (X0 _ _ hcode) rfl hvs hfile I.top ?_
  refine ks_loadName_global S.kind S.su (loadGlobal_builtin (hg.keeps kp) hgs (hb.keeps kp) ((hbb _ (by decide +kernel)).trans (by decide +kernel)) ⟨rfl, ?_⟩)
  refine wpAny_loadName_free S.kind S.cl rfl ⟨_, X0 _ _ hcell, rfl⟩ ?_
  refine wpAny_loadName_local S.kind S.self hns vself ?_
  refine ks_wpAny_isType_cls hD1 hD2 ⟨rfl, ?_⟩
  refine ks_wpAny_call_super hD1 hD2 he0 rfl (fun c e => by cases e) (looks_mroIn X0 I.mro) fun h1 hso kp1 => ?_
  have X1 : K.In h1 := X0.keeps kp1
  have he1 := kp1 _ _ he0
  have hI1 : Looks (model prog w) h1 (isInstance (.ref a) (.type "ValueError")) true := (InstAt.type (od := none) ⟨he1, rfl, rfl, trivial⟩).andThen (looks_subIn X1 I.sub)
  have haC : a ≠ C := fun e => by
    have := X0 _ _ hC
    rw [← e, he0] at this
    cases this
  have hsup := I.sup
  unfold ks_superIn at hsup
  rw [hcl] at hsup
  refine kxs_getMethod kxs_ValueError hso (looks_opaque X1 I.opq) (l₀ := .ref C :: bm) (fun A Q E s k q => wpAny_bind ((looks_clsIn X1 hcl) A _ E s k (wpAny_pure q))) rfl X1 hsup hI1 haC (by decide) ?_
  have kp2 : ∀ b o, h1.get? b = some o → (h1.push (kxs_mw "ValueError.__init__" a)).get? b = some o := fun b o e => Heap.get?_push_of_some _ e
  have he2 := kp2 _ _ he1
  have hmw : (h1.push (kxs_mw "ValueError.__init__" a)).get? h1.objs.size = some (kxs_mw "ValueError.__init__" a) := Heap.get?_push_at rfl rfl
  refine kxs_callWith (i := "ValueError.__init__") (x := a) rfl (evalArgs_plain ?_)
  show wpAny _ _ (spliced ((false, eval (.Name nm p4) _) :: backTo p5 (starEach [] _))) _ _ _
  refine Calls.spliced_cons (ldn S.kind S.nm ((hns.keeps kp1).keeps kp2) vnm I.dbg ?_)
  refine Calls.spliced_nil ⟨hmw, ?_⟩
  show wpAny _ _ (call (.ref h1.objs.size) [u]) _ _ _
  refine wpAny_call (codeAny_of_tree ?_)
  show wpAny _ _ (callAny (.ref h1.objs.size) ⟨[u], []⟩) _ _ _
  simp only [callAny]
  refine wpAny_bind (wpAny_load hmw ?_)
  simp only [kxs_mw, show (Value.type "method-wrapper" == Value.type "method" || Value.type "method-wrapper" == Value.type "builtin_function_or_method" || Value.type "method-wrapper" == Value.type "method-wrapper") = true by decide, if_true]
  refine KFB.if_so (by decide) ?_
  refine wpAny_bind (check_bound_init PySem.F.excBase_ValueError.toExcCallFacts (kp2 _ _ (kp1 _ _ hD1)) he2 rfl ?_)
  refine wpAny_bind (wpAny_pure (wpAny_pure ?_))
  refine ⟨plainId_quiet PySem.F.excBase_ValueError.init.plain _, codeAny_builtin PySem.F.excBase_ValueError.initEntry ?_⟩
  refine exc_init_tree (cls := .ref C) (t0 := t0) (dv := none) (c2 := .none) (c3 := .none) (b4 := .bool false) he2 (by show 1 ≤ sizeLine; decide) fun h3 k3 he3 _ => ?_
  have kk : ∀ b o, b ≠ a → hp.get? b = some o → h3.get? b = some o := fun b o n e => k3 b o n (kp2 _ _ (kp1 _ _ (kp _ _ e)))
  have X3 : K.In h3 := fun b o e => by
    exact k3 b o (fun q => hKa o (by rw [← q]; exact e)) (kp2 _ _ (kp1 _ _ (X0 _ _ e)))
  have hns3 : h3.Ns hp.objs.size (fun x => ([(("self" : Str), Value.ref a), (nm, u)] : List (Str × Value)).reverse.lookup x) := ((hns.keeps kp1).keeps kp2).at fun o q => k3 _ _ nLa q
  refine ks_wpAt_execs_cons (ks_wpAt_Assign_Attr (wpAt_of_wpAny (ldn rfl S.nm hns3 vnm I.dbg (ldn rfl S.self hns3 vself (by decide) ?_))))
  refine set_plain X3 (ox := { cls := .ref C, dict := none, data := .fields #[.ref _, .none, .none, .none, .bool false, .none] }) (od := none) ⟨he3, rfl, rfl, trivial⟩ I.oex.sa ?_
  refine HandSPX.exc_osa X3 he3 hcl (show HandSPX.refsVE (.ref C :: bm) = true from hbm) rfl I.no (fun h4 tk4 dx k4 dn dne hx hn => ?_)
  refine wpAt_of_wpAny (wpAny_pure ?_)
  refine h h4 tk4 dx _ (fun b o n e => k4 b o n (kk b o n e)) ?_ dne hx hn
  cases e : hp.get? dx with
  | none => rfl
  | some o => exact absurd (Heap.lt_size (kk dx o dne e)) (Nat.not_lt.mpr dn)
end
end PP
namespace L2
open PySem PySem.Spec PyProof.Rows
section
variable {X : Cx} {e : Expr} {te : TE} {p pos : Pos} {x nm : Str} {C fI : Addr}
/-- C(e): an error with its field -/
theorem pmk_err (I : PP.ErrI X.prog X.K C fI nm) (iC : PySem.W.findIn X.K (.ref C) "__init__" = some (some (.ref fI))) (tI : PySem.W.typeIn X.K (.ref fI) = some (.type "function")) (hsu : X.mg "super" = none) (hdp : X.A.depth + 1 < recursionLimit) (hg : Gl X x) (hm : X.mg x = some (.ref C)) (he : PE X e te)
    (hs : starEach [e] X.env = (false, eval e X.env) :: starEach [] X.env := by rfl) (hdb : (x == ("__debug__" : Str)) = false := by decide) :
    PMk X (.Call (.Name x p) [e] [] pos) (fun σ H Q => te σ H fun v H1 => ∀ d, H1 d = none → Q (.ref C) (some d) (upd H1 d (.xd [(nm, v)]))) := by
  intro pins s σ H Q I0 h
  obtain ⟨nmC, q, N, bs, bm, sn, sub, ab, col, dd, k0, k1, k2, k3, k5, hC, hbm⟩ := I.oex.cls
  refine wpAny_Call_Name_kw (ld_glob I0 hg hm ?_ hdb)
  refine PySem.W.callWith_K (h₀ := X.base) I0.ok.mod.kin I.oex.kC ?_ hs (by rfl)
  rw [hs]
  show wpAny _ _ (spliced ((false, eval e X.env) :: backTo pos (starEach [] X.env))) _ _ s
  refine Calls.spliced_cons (thn (he.run pins s σ H _ I0 h) fun u s1 ⟨v, H1, I1, r1, q1⟩ => ?_)
  refine Calls.spliced_nil ⟨I1.kIn, ?_⟩
  show wpAny _ _ (call (.ref C) [u]) _ _ _
  obtain ⟨hp, g, dr, tk, os⟩ := s1
  have kk : ∀ b o, hp.get? b = some o → ((hp.push (PySem.W.kdv_tup [u])).push (PySem.HandSPX.excO C hp.objs.size)).get? b = some o := fun b o e => Heap.get?_push_of_some _ (Heap.get?_push_of_some _ e)
  have hget : ((hp.push (PySem.W.kdv_tup [u])).push (PySem.HandSPX.excO C hp.objs.size)).get? (hp.objs.size + 1) = some (PySem.HandSPX.excO C hp.objs.size) := by heap_get
  have ha : hp.objs.size ≤ hp.objs.size + 1 := Nat.le_succ _
  have hn : H1 (hp.objs.size + 1) = none := I1.hok.fresh ha
  have nha : ∀ {b : Addr} {o : Obj}, hp.get? b = some o → b ≠ hp.objs.size + 1 := fun {b o} z => Nat.ne_of_lt (Nat.lt_of_lt_of_le (Heap.lt_size z) ha)
  obtain ⟨mb, hbl, hbb⟩ := I1.ok.mod.blt
  refine wpAny_call (PySem.HandSPX.call_own F.excBase_ValueError (fun Y => PySem.HandSPX.refsVE_contains Y bm hbm) (I1.kIn _ _ hC) (PySem.W.looks_findIn I1.kIn iC) (fun self => PySem.W.bind_fn I1.kIn self tI) (by show 1 ≤ sizeLine; decide) ?_)
  refine PP.err_code (mb := mb) I (PySem.W.Frag.In.keeps I1.kIn kk) (I1.nolimit.keeps kk) (by rw [make_depth]; exact hdp) ((I1.mod.glob.keeps I1.bk).keeps kk) hsu ((hbl.keeps I1.bk).keeps kk) hbb hget (fun o e => nha (I1.kIn _ _ e) rfl) (fun h2 tk2 dx t1 k hdx dne hx hn2 => ?_)
  have hdx0 : hp.get? dx = none := by
    cases q : hp.get? dx with
    | none => rfl
    | some o => rw [kk _ _ q] at hdx; cases hdx
  have hd1 : H1 dx = none := I1.hok.gone hdx0
  obtain ⟨G, g1', g2'⟩ := restrict h2 fun b => decide (b ≠ hp.objs.size + 1)
  have gk : ∀ b, b ≠ hp.objs.size + 1 → G.get? b = h2.get? b := fun b hb => g1' b (decide_eq_true hb)
  have ge : G.get? (hp.objs.size + 1) = none := g2' _ (by simp)
  have kG : ∀ b o, hp.get? b = some o → G.get? b = some o := fun b o z => by rw [gk b (nha z)]; exact k b o (nha z) (kk b o z)
  have nd : ∀ {b : Addr} {o : Obj}, hp.get? b = some o → b ≠ dx := fun {b o} z e => by rw [e, hdx0] at z; cases z
  have U : Un (frs X.stack) [] H1 (upd H1 dx (.xd [(nm, v)])) hp G := {
    keep := fun b o z _ _ _ => kG b o z
    slot := fun b o z _ _ _ => ⟨o.slots, kG b o z⟩
    free := fun b o z n _ => by rw [upd_ne (nd z)]; exact n
    there := fun b o z _ => ⟨o, kG b o z⟩
    tups := fun b xs z => by rw [upd_ne (ne_of_none z hd1)]; exact z
    frzs := fun b o v z => by rw [upd_ne (ne_of_none z hd1)]; exact z
    tbls := fun b ps z => ⟨#[], by rw [upd_ne (ne_of_none z hd1), z]; simp⟩ }
  have hok3 : HOk X.prog X.w (upd H1 dx (.xd [(nm, v)])) G := fun b o z => by
    by_cases hbd : b = dx
    · subst hbd
      rw [upd_same] at z
      cases z
      exact ⟨_, hn2.at fun o y => (gk b dne).trans y, relO_put (fs := []) r1 fun g => True.intro⟩
    · rw [upd_ne hbd] at z
      exact (I1.hok b o z).stay (fun c v _ y => kG c v y) (fun c hc => by rw [upd_ne (ne_of_none hc hd1)]; exact hc) (fun c xs hc => by rw [upd_ne (ne_of_none hc hd1)]; exact hc)
  have J : Inv X pins σ (upd H1 dx (.xd [(nm, v)])) ⟨G, g, dr, tk2, os⟩ := I1.call' (ch := []) rfl U hok3 I1.bare (fun b z => absurd z (by simp))
  exact ⟨rfl, hp.objs.size + 1, _, _, ⟨G, g, dr, tk2, os⟩, _, .ref C, some dx, rfl, J, fun b o z => (by
    by_cases hb : b = hp.objs.size + 1
    · rw [hb, ge] at z; cases z
    · exact (gk b hb).symm.trans z), ge, hx, ⟨rfl, rfl⟩, rfl, rfl, by rw [upd_ne (Ne.symm dne)]; exact hn, rfl, I1.bare, raises_own I.oex.exC I.oex.tyC, q1 dx hd1⟩
end
end L2

set_option Elab.async false
set_option linter.all false
set_option maxRecDepth 100000
set_option maxHeartbeats 4000000
namespace L2
open PySem PySem.Spec PyProof.Rows
/-- C(): a class without an own __init__ -/
theorem pmk_own0 {X : Cx} {C : Addr} {bmB : List Value} {B newId initId : String} {x : Str} {p pos : Pos} (F : ExcBaseFacts B newId initId bmB) (hq : PySem.W.excIn X.K C bmB newId = true) (gC : X.mg x = some (.ref C)) (kC : PySem.W.keepIn X.K (.ref C) = true) (hr : Raises X (.ref C)) (hg : Gl X x)
    (hdb : (x == ("__debug__" : Str)) = false := by decide) : PMk X (.Call (.Name x p) [] [] pos) (fun _ H Q => Q (.ref C) none H) := by
  intro pinz s σ H Q I0 h
  refine wpAny_Call_Name_kw (ld_glob I0 hg gC ?_ hdb)
  refine PySem.W.callWith_K0 I0.kIn kC ?_
  show wpAny _ _ (call (.ref C) []) _ _ _
  obtain ⟨bm, N, nm, qn, bs, hdct, sn, sub, ab, col, dd, k0, k1, k2, k3, k5, mN, hC, hN, hni, T⟩ := exc_obj I0.kIn hq
  refine wpAny_call_exc_subT F T hC hN hni (fun h' e hm => ?_) (by show 0 ≤ sizeLine; exact Nat.zero_le _)
  exact mk_of I0 hm hr h (I0.hok.gone hm.new)
end L2
namespace PP
open PySem L2
/-- an error class with one field -/
structure ErrE (P : Program) (K : PySem.W.Frag) (mg : Str → Option Value) (G : Gc) (c f : Str) : Prop where
  i : ∃ fI, ErrI P K (G.ga c) fI f ∧ PySem.W.findIn K (.ref (G.ga c)) "__init__" = some (some (.ref fI)) ∧ PySem.W.typeIn K (.ref fI) = some (.type "function")
  su : mg "super" = none
  m : mg c = some (.ref (G.ga c))
/-- .. without any -/
structure ErrE0 (K : PySem.W.Frag) (mg : Str → Option Value) (G : Gc) (c : Str) : Prop where
  q : PySem.W.excIn K (G.ga c) He.veBase "ValueError.__new__" = true
  kp : PySem.W.keepIn K (.ref (G.ga c)) = true
  s : PySem.W.subIn K (.ref (G.ga c)) (.type "BaseException") = some true
  t : PySem.W.typeIn K (.ref (G.ga c)) = some (.type "type")
  m : mg c = some (.ref (G.ga c))
section
variable {X : Cx} {F : Fm} {E : XC} {Γ : Env} {a : Expr} {ia : Ex} {pos cpos p : Pos} {c f : Str}
/-- raise C(e) -/
theorem ss_raise (g : Gd X F E) {k : Nat} (er : ErrE X.prog X.K X.mg F.G c f) (hr : RoomG k X.A) (ha : SX X F E Γ a ia) (hg : Gl X c := by rfl) (hs : starEach [a] X.env = (false, eval a X.env) :: starEach [] X.env := by rfl) (hdb : (c == ("__debug__" : Str)) = false := by decide) :
    SSX X F E Γ (.Raise (some (.Call (.Name c p) [a] [] cpos)) none pos) (.raise c [f] [ia]) := by
  obtain ⟨fI, hI, h1, h2⟩ := er.i
  refine PSimp (ps_raise g.calm g.tk (pmk_err hI h1 h2 er.su (by have := hr.r.dp; omega) hg er.m ha hs hdb)) fun D σ H h => ?_
  obtain ⟨ow, s, n, R, w, he, ct⟩ := h
  subst he
  have w' : (evP Γ ia).r s (fun r s1 => n.ex (c, [(f, r.d)]) s1) n.ex := w
  refine ⟨F.Z0, ow, s, _, R, w', fun r s1 v1 H1 ow1 w1 rr e1 => fun d hd => ?_⟩
  obtain ⟨R1, z1⟩ := rr.fz' R
  obtain ⟨nm, n0, nz⟩ := R1.new0 hd
  refine ⟨F.Z0, ow1, s1, (c, [(f, r.d)]), R1.alloc0 hd, ⟨rfl, .inr ⟨d, [(f, v1)], rfl, nz, upd_same, rfl, ?_⟩⟩, w1⟩
  exact FzL.one (z1.keep (Keep.new (Z := F.Z0) hd))
/-- raise C() -/
theorem ss_raise0 (g : Gd X F E) (er : ErrE0 X.K X.mg F.G c) (hg : Gl X c := by rfl) (hdb : (c == ("__debug__" : Str)) = false := by decide) :
    SSX X F E Γ (.Raise (some (.Call (.Name c p) [] [] cpos)) none pos) (.raise c [] []) := by
  refine PSimp (ps_raise g.calm g.tk (pmk_own0 PySem.F.excBase_ValueError er.q er.m er.kp (raises_own er.s er.t) hg hdb)) fun D σ H h => ?_
  obtain ⟨ow, s, n, R, w, he, ct⟩ := h
  subst he
  exact ⟨F.Z0, ow, s, (c, []), R, ⟨rfl, .inl ⟨rfl, rfl⟩⟩, w⟩
end
end PP

set_option Elab.async false
set_option linter.all false
set_option maxRecDepth 100000
set_option maxHeartbeats 4000000
namespace PP
open PySem L2
/-! ### f(lambda: e): a def that calls what it got and tells what came of it -/
def ExtH (H H' : Hp) : Prop := ∀ b o, H b = some o → H' b = some o
theorem ExtH.refl (H : Hp) : ExtH H H := fun _ _ e => e
theorem ExtH.new {H : Hp} {p : Addr} {o : HO} (h : H p = none) : ExtH H (upd H p o) := fun b u e => by rw [upd_ne (ne_of_none e h)]; exact e
section
variable {F : Fm} {E : XC} {Z : AS} {ow ow1 : Ow} {σ : L2.St} {H H1 H' : Hp} {s : S} {v : V}
theorem Keep.ext {A Y : AS} (e : ExtH H H1) : Keep A Y H H1 := fun a o h _ => ⟨o, e a o h, .refl o, fun _ => rfl⟩
theorem ext_eq (e : ExtH H H1) {a : Addr} (h : H a ≠ none) : H1 a = H a := by
  cases q : H a with
  | none => exact absurd q h
  | some o => exact e a o q
theorem Rep.ext (R : Rep F Z ow σ H s) (e : ExtH H H1) : Rep F Z ow σ H1 s := by
  refine ⟨R.keep.trans (Keep.ext e), R.strm.keep (ext_eq e R.strm.is) (ext_eq e R.strm.il) (fun b o h _ => e b o h), R.mds, R.zs, R.z0, fun a z => ?_, R.mdz, R.oz, R.od, R.oin, R.len, fun i p h => ?_⟩
  · rw [ext_eq e (R.zin a z).1]; exact R.zin a z
  · obtain ⟨v, hv, ok⟩ := R.sl i p h
    exact ⟨v, hv, ok.tr (Keep.ext (A := Av' Z ow) (Y := Z) e) (fun a z => .inl z) fun a q => ext_eq e (R.ojn q)⟩
theorem Eff.ext (e : Eff F Z ow H ow1 H1) (x : ExtH H1 H') : Eff F Z ow H ow1 H' :=
  e.trans ⟨Keep.ext x, fun i p h => .inl ⟨i, h⟩, fun p h q => h (by rw [ext_eq x h] at q; exact q)⟩
/-- a table is written -/
theorem Rep.extP {P : Addr} (R : Rep F Z ow σ H s) (hP : ∃ q, (P, q) ∈ F.T.tb) (e : LamX.ExtP P H H1) (ht : LamX.Tabs F.T.tb H1) : Rep F Z ow σ H1 s ∧ Eff F Z ow H ow H1 := by
  have hA : F.T.A P := .inr (.inr hP)
  have hz : Z P := R.zs P hA
  have hm : F.md P := R.mds P hA
  obtain ⟨q0, hq0⟩ := hP
  obtain ⟨ps, hps, _⟩ := R.strm.tabs _ hq0
  obtain ⟨ps1, hps1, _⟩ := ht _ hq0
  have hps : H P = some (.tbl ps) := hps
  have hps1 : H1 P = some (.tbl ps1) := hps1
  obtain ⟨h1, h2, h3, h4, h5, h6, h7, h8, h9, h10⟩ := R.strm
  have ns : F.T.s ≠ P := fun z => by rw [z, hps] at h2; cases h2
  have nl : F.T.l ≠ P := fun z => by rw [z, hps] at h3; cases h3
  have k : ∀ {A : AS}, A P → Keep A Z H H1 := fun {A} ha a o q n => ⟨o, e a o q fun z => n (by rw [z]; exact ha), .refl o, fun _ => rfl⟩
  refine ⟨⟨R.keep.trans fun a o q n => ⟨o, e a o q fun z => n (by rw [z]; exact hm), .refl o, fun _ => rfl⟩, ⟨h1, e _ _ h2 ns, e _ _ h3 nl, h4, h5, h6, h7, h8, h9, ht⟩, R.mds, R.zs, R.z0, fun a z => ?_, R.mdz, R.oz, R.od, R.oin, R.len, fun i p h => ?_⟩, ⟨k (.inl hm), fun i p h => .inl ⟨i, h⟩, fun p h => ?_⟩⟩
  · by_cases ha : a = P
    · subst ha; exact .of hps1 nofun
    · have := R.zin a z
      cases q : H a with
      | none => exact absurd q this.1
      | some o => rw [e a o q ha, ← q]; exact this
  · obtain ⟨v, hv, ok⟩ := R.sl i p h
    refine ⟨v, hv, ok.tr (k (A := Av' Z ow) (.inl hz)) (fun a z => .inl z) fun a q => ?_⟩
    cases x : H a with
    | none => exact absurd x (R.ojn q)
    | some o => exact e a o x fun z => R.oz i a q (by rw [z]; exact hz)
  · by_cases ha : p = P
    · subst ha; rw [hps1]; exact nofun
    · cases x : H p with
      | none => exact absurd x h
      | some o => rw [e p o x ha]; exact nofun
theorem pt_gt : ∀ (l : List (Option PP.P)) (i : Nat), pt l i (gt l i) = l
  | [], _ => rfl
  | _ :: _, 0 => rfl
  | x :: l, i + 1 => by show x :: pt l i (gt l i) = _; rw [pt_gt l i]
theorem Rep.frz1 (R : Rep F Z ow σ H s) (i : Nat) : ∃ ow', Rep F Z ow' σ H { s with sl := pt s.sl i (frzP (gt s.sl i)) } ∧ ∀ j p, ow' j = some p → ow j = some p := by
  have id' : frzP (gt s.sl i) = gt s.sl i → ∃ ow', Rep F Z ow' σ H { s with sl := pt s.sl i (frzP (gt s.sl i)) } ∧ ∀ j p, ow' j = some p → ow j = some p := fun q => ⟨ow, by rw [q, pt_gt]; exact R, fun _ _ h => h⟩
  cases h : gt s.sl i with
  | none => rw [h] at id'; exact id' rfl
  | some q =>
    cases q with
    | fz d => rw [h] at id'; exact id' rfl
    | io d => rw [h] at id'; exact id' rfl
    | stm => rw [h] at id'; exact id' rfl
    | own xs =>
      obtain ⟨v, hv, a, vs, rfl, ho, nm, h0, e, l⟩ := R.sl i _ h
      refine ⟨dropO ow i, R.store (by rw [h]; rfl) rfl hv (fun _ _ => rfl) (.lst (fun z => ?_) e (l.mono fun a z => .inl (z.imp id fun ⟨j, q⟩ => ⟨j, (dropO_sub q).2⟩))), fun j p q => (dropO_sub q).2⟩
      rcases z with z | ⟨j, q⟩
      · exact R.oz i a ho z
      · exact (dropO_sub q).1 (R.od j i a (dropO_sub q).2 ho)
    | ownd xs =>
      obtain ⟨v, hv, a, vs, rfl, ho, nm, h0, e, ek, l⟩ := R.sl i _ h
      refine ⟨dropO ow i, R.store (by rw [h]; rfl) rfl hv (fun _ _ => rfl) (.dct (fun z => ?_) (.inl e) ek (l.mono fun a z => .inl (z.imp id fun ⟨j, q⟩ => ⟨j, (dropO_sub q).2⟩))), fun j p q => (dropO_sub q).2⟩
      rcases z with z | ⟨j, q⟩
      · exact R.oz i a ho z
      · exact (dropO_sub q).1 (R.od j i a (dropO_sub q).2 ho)
theorem Rep.frz : ∀ (caps : List Nat) {ow : Ow} {s : S}, Rep F Z ow σ H s → ∃ ow', Rep F Z ow' σ H { s with sl := frzS caps s.sl } ∧ ∀ j p, ow' j = some p → ow j = some p
  | [], ow, s, R => ⟨ow, R, fun _ _ h => h⟩
  | i :: is, ow, s, R => by
    obtain ⟨ow1, R1, h1⟩ := R.frz1 i
    obtain ⟨ow2, R2, h2⟩ := Rep.frz is R1
    exact ⟨ow2, R2, fun j p q => h1 j p (h2 j p q)⟩
theorem gt_hide : ∀ {l : List (Option PP.P)} {i : Nat} {p : PP.P}, gt (l.map hideP) i = some p → gt l i = some p ∧ ((∃ d, p = .fz d) ∨ p = .stm)
  | [], _, _, h => by cases h
  | x :: _, 0, p, h => by
    have h : hideP x = some p := h
    cases x with
    | none => cases h
    | some q => cases q <;> first | (cases h; exact ⟨rfl, .inl ⟨_, rfl⟩⟩) | (cases h; exact ⟨rfl, .inr rfl⟩) | cases h
  | _ :: l, i + 1, p, h => gt_hide (l := l) (i := i) h
/-- the slots as a lambda has them -/
theorem Rep.hide (R : Rep F Z ow σ H s) : Rep ⟨F.G, F.T, H, F.T.A, Av' Z ow⟩ (Av' Z ow) (fun _ => none) σ H ⟨s.sl.map hideP, s.c⟩ := by
  have sub : ∀ a, Av' (Av' Z ow) (fun _ => none) a → Av' Z ow a ∨ H a = none := fun a z => by
    rcases z with z | ⟨_, z⟩
    · exact .inl z
    · cases z
  refine ⟨Keep.refl _ _ _, R.strm, fun _ z => z, fun a z => .inl (R.zs a z), fun a z => .inl z, fun a z => R.avT z, fun a z => .inl (.inl (R.zs a z)), fun _ _ e => (by cases e), fun _ _ _ e => (by cases e), fun _ _ e => (by cases e), by show (s.sl.map hideP).length = _; rw [List.length_map]; exact R.len, fun i p h => ?_⟩
  obtain ⟨h1, h2⟩ := gt_hide h
  obtain ⟨v, hv, ok⟩ := R.sl i p h1
  rcases h2 with ⟨d, rfl⟩ | rfl
  · exact ⟨v, hv, ok.1.mono sub, rfl⟩
  · exact ⟨v, hv, ok.1, rfl⟩
end
/-- an error, a value that came, of which the def tells -/
def TdE (G : Gc) (a : Ask) (A : AS) (Q : VK) (cls : Value) (d : Option Addr) (H' : Hp) : Prop := ∃ xn dd, XcIs G A H' cls d xn ∧ a.err xn = some dd ∧ (∀ a, A a → H' a ≠ none) ∧ ∀ v H'', ExtH H' H'' → Fz G A H'' v dd → Q v H''
def TdV (G : Gc) (a : Ask) (A : AS) (Q : VK) (v : V) (H' : Hp) : Prop := ∃ dv dd, Fz G A H' v dv ∧ a.val dv = some dd ∧ (∀ a, A a → H' a ≠ none) ∧ ∀ v' H'', ExtH H' H'' → Fz G A H'' v' dd → Q v' H''
/-- what the def makes of the lambda's reading -/
def TTs (G : Gc) (a : Ask) (tl : XK → Hp → VK → Prop) (H : Hp) (Q : VK) : Prop := ∃ A : AS, ∀ (Ech : XK) (Qch : VK), (∀ cls d H', TdE G a A Q cls d H' → Ech cls d H') → (∀ v H', TdV G a A Q v H' → Qch v H') → tl Ech H Qch
/-- such a def -/
structure AskE (P : Program) (w : World) (K : PySem.W.Frag) (mg : Str → Option Value) (base : Heap) (G : Gc) (x : Str) (a : Ask) : Prop where
  ok : ∃ (g : Addr) (y : Str) (N : List Str) (pg : Arguments) (bg : List Stmt) (sg : Scope) (dV kV doc pm cdv ct oc : Value) (an od : Option Addr) (osl : Array (Option Value)), mg x = some (.ref g) ∧ PySem.W.keepIn K (.ref g) = true ∧
    K.lookup g = some ⟨oc, od, .func (PySem.W.fnOf x x pg bg sg dV kV doc pm an cdv ct), osl⟩ ∧ PySem.W.codeIn K cdv x = true ∧ L2.Binds K (PySem.W.fnOf x x pg bg sg dV kV doc pm an cdv ct) [y] [] ∧ FnScope N [y] sg ∧ N[0]? = some y ∧ Vis sg y ∧ (y == ("__debug__" : Str)) = false ∧ (y == ("__classdict__" : Str)) = false ∧
    ∀ (X : Cx) (q : Str), X.prog = P → X.w = w → X.K = K → X.mg = mg → X.base = base → LamX.GivesTog X N x sg g cdv bg y q (TTs G a)
theorem PE.exi {α : Type} {X : Cx} {e : Expr} {p : α → Prop} {t : α → TE} (h : ∀ i, p i → PE X e (t i)) : PE X e (fun σ H Q => ∃ i, p i ∧ t i σ H Q) := ⟨fun pins s σ H Q I ⟨i, hi, w⟩ => (h i hi).run pins s σ H Q I w⟩
section
variable {X : Cx} {F : Fm} {E : XC} {Γ : Env}
/-- the table in which the lambdas of this def are kept -/
structure TabE (X : Cx) (F : Fm) : Prop where
  ok : ∃ c P, LamX.TabB X.base X.mg c P ∧ X.env.code = .ref c ∧ (P, X.env.qual ++ "<lambda>") ∈ F.G.tb ∧ ∀ p ∈ F.G.tb, p.1 = P → p.2 = X.env.qual ++ "<lambda>"
theorem sx_lam (g : Gd X F E) {k : Nat} {x : Str} {a : Ask} {caps : List Nat} {params : Arguments} {body : Expr} {scope : Scope} {ib : Ex} {p lpos pos : Pos} (ak : AskE X.prog X.w X.K X.mg X.base F.G x a) (hΓ : Γ.ask x = some a) (TB : TabE X F) (hr : RoomG (k + 2) X.A)
    (L : LamX.LamS X.env.scope scope) (hdef : defaultsOf params X.env = ([], []))
    (hbind : ∀ (q : Str) (cl : List (Str × Addr)) (pm cv ctv : Value), bindArgs (PySem.W.kla_fn "<lambda>" q params body scope cl pm cv ctv) ⟨[], []⟩ = pure [])
    (hb : ∀ (A : Around) (outer : List PySem.Env) (s : Shared) (H : Hp) (E' : XK) (f c' : Addr) (T' : SA) (h0 : Hp) (md z0 : AS) (Ex : XC), Gd (LamX.lamCx X A outer s H E' scope f c') ⟨F.G, T', h0, md, z0⟩ Ex → RoomG k (A.deeper (LamX.lamEnv X scope s.heap.objs.size f c')) → SX (LamX.lamCx X A outer s H E' scope f c') ⟨F.G, T', h0, md, z0⟩ Ex Γ body ib)
    (hg : Gl X x := by rfl) (hdb : (x == ("__debug__" : Str)) = false := by decide) : SX X F E Γ (.Call (.Name x p) [.Lambda params body scope lpos] [] pos) (.lam x caps ib) := by
  obtain ⟨ga, y, N, pg, bg, sg, dV, kV, doc, pm, cdv, ct, oc, an, od, osl, hm, hk, lk, hcg, hbi, Sg, hN, hv, hd1, hd2, hG⟩ := ak.ok
  obtain ⟨c, P, tb, hcode, hmT, hu⟩ := TB.ok
  refine PEimp (LamX.pe_lamcallg (T := F.G.tb) (TT := TTs F.G a) (t := fun E' σ H Q => ∃ i : Fm × XC, (i.1.G = F.G ∧ i.1.T.tb = i.1.G.tb ∧ ∀ cls d σ' H', wx i.1 i.2 cls d σ' H' → E' cls d H') ∧ LR i.1 i.2 (evP Γ ib).r σ H Q) hg hm hk lk hcg hbi Sg hN hv (hG X _ rfl rfl rfl rfl rfl) tb hcode hmT hu hr L hdef hbind
    (fun A outer s H E' f c' hr2 => PE.exi fun i hi => by
      obtain ⟨⟨G', T', h0, md, z0⟩, Ex⟩ := i
      obtain ⟨hi1, hi2, hi3⟩ := hi
      obtain rfl : G' = F.G := hi1
      exact hb A outer s H E' f c' T' h0 md z0 Ex ⟨g.hK, rfl, g.nd, hr2.units, hr2.g, Takes.imp (takes_of (X := LamX.lamCx X A outer s H E' scope f c') (E := E') rfl rfl rfl rfl) hi3, hi2⟩ hr2) hdb hd1 hd2) fun σ H Q h => ?_
  obtain ⟨Z, ow, s, K, R, hf, hq⟩ := h
  have hf : askE (Γ.ask x) caps (evP Γ ib).r s K E := hf
  rw [hΓ] at hf
  have hf : (evP Γ ib).r ⟨(frzS caps s.sl).map hideP, s.c⟩ (fun r s' => tell (a.val r.d) { s with sl := frzS caps s.sl } s'.c K) (fun xn s' => tell (a.err xn) { s with sl := frzS caps s.sl } s'.c K) := hf
  have gtb := g.tb
  refine ⟨by rw [← gtb]; exact R.strm.tabs, fun H1 eP t1 => ?_⟩
  obtain ⟨ow1, R1, sub1⟩ := R.frz caps
  rw [← gtb] at t1 hmT
  obtain ⟨R2, e2⟩ := R1.extP ⟨_, hmT⟩ eP t1
  have e1 : Eff F Z ow H ow1 H1 := ⟨e2.k.mono (fun a z => z.imp id fun ⟨i, q⟩ => ⟨i, sub1 i a q⟩) fun _ z => z, fun i p q => .inl ⟨i, sub1 i p q⟩, e2.dm⟩
  let F' : Fm := ⟨F.G, F.T, H1, F.T.A, Av' Z ow1⟩
  let s0 : S := { s with sl := frzS caps s.sl }
  have R3 : Rep F' (Av' Z ow1) (fun _ => none) σ H1 ⟨s0.sl.map hideP, s0.c⟩ := R2.hide
  have fin : ∀ {H' : Hp} {c' : Stm} {dd : D} {Y : AS} {ow' : Ow} {σ' : L2.St} {s' : S}, Rep F' Y ow' σ' H' s' → tell (some dd) s0 s'.c K → ∀ v H'', ExtH H' H'' → Fz F.G (Av' Z ow1) H'' v dd → Q v H'' := fun {H' c' dd Y ow' σ' s'} R' w v H'' x z => by
    have kp : Keep F.T.A (lentA Z ow1 []) H1 H' := R'.keep.mono (fun _ h => h) fun a h => h.1
    have Rc := R2.called (lent0 _ _) kp R'.strm (fun _ z => z) fun _ z => .inl z
    exact hq (.fz dd) _ v H'' ow1 w ⟨Rc.ext x, z⟩ (e1.trans ((Eff.called R2 (lent0 _ _) kp R'.strm).ext x))
  refine ⟨Av' Z ow1, fun Ech Qch hE hQ => ⟨⟨F', fun xn s' => tell (a.err xn) s0 s'.c K⟩, ⟨rfl, g.tb, fun cls d σ' H' hx => hE cls d H' ?_⟩, Av' Z ow1, fun _ => none, _, _, R3, hf, fun r s' v H' ow' w rr ee => hQ v H' ?_⟩⟩
  · obtain ⟨Y, ow', s', xn, R', xi, w⟩ := hx
    have sb : ∀ b, Av' Z ow1 b → Av' Y ow' b := fun b z => by
      rcases R'.z0 b z with q | q
      · exact .inl q
      · exact R'.mdz b q
    have w : tell (a.err xn) s0 s'.c K := w
    cases hE : a.err xn with
    | none => rw [hE] at w; exact w.elim
    | some dd =>
      rw [hE] at w
      exact ⟨xn, dd, xi.mono sb, hE, fun b q => R'.avin (sb b q), fun v H'' x z => fin (c' := s'.c) R' w v H'' x z⟩
  · obtain ⟨R', z⟩ := rr.fz' R3
    have w : tell (a.val r.d) s0 s'.c K := w
    cases hE : a.val r.d with
    | none => rw [hE] at w; exact w.elim
    | some dd =>
      rw [hE] at w
      exact ⟨r.d, dd, z.mono fun b q => .inl (.inl q), hE, fun b q => R'.avin (.inl q), fun v' H'' x z => fin (c' := s'.c) R' w v' H'' x z⟩
end
end PP

set_option Elab.async false
set_option linter.all false
set_option maxRecDepth 100000
set_option maxHeartbeats 4000000
namespace PP
open PySem L2
/-! ### defs that tell of errors -/
/-- what is read of an error caught -/
structure ErrF (K : PySem.W.Frag) (mg : Str → Option Value) (G : Gc) (c f : Str) : Prop where
  x : XfC K (G.ga c)
  no : PySem.W.findIn K (.ref (G.ga c)) f = some none
  ex : PySem.W.exmOne K (.ref (G.ga c)) (.ref (G.ga c)) = some true
  m : mg c = some (.ref (G.ga c))
structure ErrC (K : PySem.W.Frag) (mg : Str → Option Value) (G : Gc) (c : Str) : Prop where
  ex : PySem.W.exmOne K (.ref (G.ga c)) (.ref (G.ga c)) = some true
  m : mg c = some (.ref (G.ga c))
def askA (c f : Str) : Ask := ⟨fun _ => some (.tup []), fun xn => if xn.1 = c then (fld xn.2 f).map fun d => .tup [d] else none⟩
def askB (c f : Str) : Ask := ⟨fun _ => some .non, fun xn => if xn.1 = c then fld xn.2 f else none⟩
def askC (c : Str) : Ask := ⟨fun _ => some (.bl false), fun xn => if xn.1 = c then some (.bl true) else none⟩
section
variable {K : PySem.W.Frag} {mg : Str → Option Value} {G : Gc} {c f : Str} {A : AS} {H : Hp} {cls : Value} {d : Option Addr} {xn : Xn}
theorem xc_fld {dd : D} (h : XcIs G A H cls d xn) (e : fld xn.2 f = some dd) : ∃ (dx : Addr) (fs : List (Str × V)) (v : V), d = some dx ∧ H dx = some (.xd fs) ∧ fs.lookup f = some v ∧ Fz G A H v dd := by
  obtain ⟨_, h⟩ := h
  rcases h with ⟨_, q⟩ | ⟨dx, fs, e1, n, e2, ek, l⟩
  · rw [q] at e; cases e
  · rcases fld_lookup f ek l with ⟨_, q⟩ | ⟨v, d', q1, q2, z⟩
    · rw [q] at e; cases e
    · rw [q2] at e; cases e
      exact ⟨dx, fs, v, e1, e2, q1, z⟩
theorem askA_inv {dd : D} (h : (askA c f).err xn = some dd) : xn.1 = c ∧ ∃ d, fld xn.2 f = some d ∧ dd = .tup [d] := by
  have h : (if xn.1 = c then (fld xn.2 f).map fun d => D.tup [d] else none) = some dd := h
  by_cases e : xn.1 = c
  · rw [if_pos e] at h
    cases q : fld xn.2 f with
    | none => rw [q] at h; cases h
    | some d => rw [q] at h; cases h; exact ⟨e, d, rfl, rfl⟩
  · rw [if_neg e] at h; cases h
theorem askB_inv {dd : D} (h : (askB c f).err xn = some dd) : xn.1 = c ∧ fld xn.2 f = some dd := by
  have h : (if xn.1 = c then fld xn.2 f else none) = some dd := h
  by_cases e : xn.1 = c
  · rw [if_pos e] at h; exact ⟨e, h⟩
  · rw [if_neg e] at h; cases h
theorem askC_inv {dd : D} (h : (askC c).err xn = some dd) : xn.1 = c ∧ dd = .bl true := by
  have h : (if xn.1 = c then some (D.bl true) else none) = some dd := h
  by_cases e : xn.1 = c
  · rw [if_pos e] at h; cases h; exact ⟨e, rfl⟩
  · rw [if_neg e] at h; cases h
end
section
variable {P : Program} {w : World} {K : PySem.W.Frag} {mg : Str → Option Value} {base : Heap} {G : Gc} {x y n c f : Str} {params : Arguments} {scope : Scope} {kws : List (Str × V)} {ad : Addr} {fd : FuncData} {p1 p2 p3 p4 p5 p6 p7 p8 p9 p10 p11 p12 : Pos} {k1 k2 : Nat}
/-- try: a() / except c as n: return (n.f,) / return () -/
theorem ask_A (F : FunD K x x params [.Try [.Expr (.Call (.Name y p1) [] [] p2) p3] [.ExceptHandler (some (.Name c p4)) (some n) [.Return (some (.Tuple [.Attribute (.Name n p5) f p6] k1 p7)) p8] p9] [] [] p10, .Return (some (.Tuple [] k2 p11)) p12] scope [] kws ad fd)
    (S : FnScope [y, n] [y] scope) (hm : mg x = some (.ref ad)) (hb : Binds K fd [y] []) (er : ErrF K mg G c f) (hy : Vis scope y) (hn : scope.names.lookup n = some .local) (hc : scope.names.lookup c = some .globalImplicit) (hd1 : (y == ("__debug__" : Str)) = false) (hd2 : (y == ("__classdict__" : Str)) = false) (hd3 : (c == ("__debug__" : Str)) = false) (hd4 : (n == ("__debug__" : Str)) = false) (hd5 : (n == ("__classdict__" : Str)) = false) :
    AskE P w K mg base G x (askA c f) := by
  obtain ⟨oc, od, dV, kV, doc, pm, an, cdv, ct, osl, rfl, lk, hcd, _, _⟩ := F.ex
  refine ⟨ad, y, [y, n], params, _, scope, dV, kV, doc, pm, cdv, ct, oc, an, od, osl, hm, F.kp, lk, hcd, hb, S, rfl, hy, hd1, hd2, ?_⟩
  rintro X q rfl rfl rfl rfl rfl f' c' s H Q tl act hco ⟨A, h⟩
  refine ⟨_, pss_cons (ps_try_as (X := (cxOf C8.CX0 X.prog X.w X.K X.mg X.base [y, n] x scope ad cdv X.A X.stack s H C8.E0).nox) (i := 1) (c := .ref (G.ga c))
      (tb := fun W D σ H => ∃ Ech : XK, (∀ cls d H', Ech cls d H' → W cls d σ H') ∧ σ[0]? = some (some (.ref f')) ∧ H c' = some (LamX.CodeO c' q) ∧ tl Ech H (fun _ H1 => D.nx σ H1))
      rfl rfl S.nd rfl hn ⟨hc, hd3, .inl er.m⟩ LamX.takes0 (fun W pn xe tk _ => ?_) (fun a oe cls d pn hz hf => pss_one (ps_ret (pe_tup (pa_cons (pe_xf er.x er.no hz hf (pe_var (i := 1) rfl (.inl hn) hd4 hd5)) pa_nil)))))
    (pss_one (ps_ret (pe_tup pa_nil))), ?_⟩
  · refine ⟨fun pins s' σ H' D I h' => ?_⟩
    obtain ⟨Ech, hW, h1, h2, h3⟩ := h'
    exact (pss_one (ps_expr (pos := p3) (act W pn xe Ech p1 p2 tk))).run pins s' σ H' D I ⟨h1, h2, hW, h3⟩
  · refine ⟨_, fun cls d H' q => q, rfl, hco, h _ _ (fun cls d H' q => ?_) (fun v H' q => ?_)⟩
    · obtain ⟨xn, dd, xi, he, ha, k⟩ := q
      obtain ⟨e1, d0, e2, rfl⟩ := askA_inv he
      obtain ⟨dx, fs, v, e3, e4, e5, z⟩ := xc_fld xi e2
      have ec : cls = .ref (G.ga c) := by rw [← e1]; exact xi.1
      subst ec
      refine ⟨true, er.ex, fun _ a hna => ⟨.ref a, rfl, rfl, rfl, dx, fs, v, e3, e4, e5, show 1 ≤ sizeLine by decide, fun p hp => ?_⟩, fun e => by cases e⟩
      exact k _ _ (ExtH.new hp) (.tup (fun q => ha p q hp) upd_same (.one (z.keep (Keep.new (Z := A) hp))))
    · obtain ⟨dv, dd, z, he, ha, k⟩ := q
      cases he
      exact ⟨Nat.zero_le _, fun p hp => k _ _ (ExtH.new hp) (.tup (fun q => ha p q hp) upd_same .nil)⟩
/-- try: a() / except c as n: return n.f / return None -/
theorem ask_B (F : FunD K x x params [.Try [.Expr (.Call (.Name y p1) [] [] p2) p3] [.ExceptHandler (some (.Name c p4)) (some n) [.Return (some (.Attribute (.Name n p5) f p6)) p8] p9] [] [] p10, .Return (some (.Constant .none k2 p11)) p12] scope [] kws ad fd)
    (S : FnScope [y, n] [y] scope) (hm : mg x = some (.ref ad)) (hb : Binds K fd [y] []) (er : ErrF K mg G c f) (hy : Vis scope y) (hn : scope.names.lookup n = some .local) (hc : scope.names.lookup c = some .globalImplicit) (hd1 : (y == ("__debug__" : Str)) = false) (hd2 : (y == ("__classdict__" : Str)) = false) (hd3 : (c == ("__debug__" : Str)) = false) (hd4 : (n == ("__debug__" : Str)) = false) (hd5 : (n == ("__classdict__" : Str)) = false) :
    AskE P w K mg base G x (askB c f) := by
  obtain ⟨oc, od, dV, kV, doc, pm, an, cdv, ct, osl, rfl, lk, hcd, _, _⟩ := F.ex
  refine ⟨ad, y, [y, n], params, _, scope, dV, kV, doc, pm, cdv, ct, oc, an, od, osl, hm, F.kp, lk, hcd, hb, S, rfl, hy, hd1, hd2, ?_⟩
  rintro X q rfl rfl rfl rfl rfl f' c' s H Q tl act hco ⟨A, h⟩
  refine ⟨_, pss_cons (ps_try_as (X := (cxOf C8.CX0 X.prog X.w X.K X.mg X.base [y, n] x scope ad cdv X.A X.stack s H C8.E0).nox) (i := 1) (c := .ref (G.ga c))
      (tb := fun W D σ H => ∃ Ech : XK, (∀ cls d H', Ech cls d H' → W cls d σ H') ∧ σ[0]? = some (some (.ref f')) ∧ H c' = some (LamX.CodeO c' q) ∧ tl Ech H (fun _ H1 => D.nx σ H1))
      rfl rfl S.nd rfl hn ⟨hc, hd3, .inl er.m⟩ LamX.takes0 (fun W pn xe tk _ => ?_) (fun a oe cls d pn hz hf => pss_one (ps_ret (pe_xf er.x er.no hz hf (pe_var (i := 1) rfl (.inl hn) hd4 hd5)))))
    (pss_one (ps_ret pe_non)), ?_⟩
  · refine ⟨fun pins s' σ H' D I h' => ?_⟩
    obtain ⟨Ech, hW, h1, h2, h3⟩ := h'
    exact (pss_one (ps_expr (pos := p3) (act W pn xe Ech p1 p2 tk))).run pins s' σ H' D I ⟨h1, h2, hW, h3⟩
  · refine ⟨_, fun cls d H' q => q, rfl, hco, h _ _ (fun cls d H' q => ?_) (fun v H' q => ?_)⟩
    · obtain ⟨xn, dd, xi, he, ha, k⟩ := q
      obtain ⟨e1, e2⟩ := askB_inv he
      obtain ⟨dx, fs, v, e3, e4, e5, z⟩ := xc_fld xi e2
      have ec : cls = .ref (G.ga c) := by rw [← e1]; exact xi.1
      subst ec
      exact ⟨true, er.ex, fun _ a hna => ⟨.ref a, rfl, rfl, rfl, dx, fs, v, e3, e4, e5, k _ _ (ExtH.refl _) z⟩, fun e => by cases e⟩
    · obtain ⟨dv, dd, z, he, ha, k⟩ := q
      cases he
      exact k _ _ (ExtH.refl _) .non
/-- try: a() / except c: return True / return False -/
theorem ask_C (F : FunD K x x params [.Try [.Expr (.Call (.Name y p1) [] [] p2) p3] [.ExceptHandler (some (.Name c p4)) none [.Return (some (.Constant (.bool true) k1 p6)) p8] p9] [] [] p10, .Return (some (.Constant (.bool false) k2 p11)) p12] scope [] kws ad fd)
    (S : FnScope [y] [y] scope) (hm : mg x = some (.ref ad)) (hb : Binds K fd [y] []) (er : ErrC K mg G c) (hy : Vis scope y) (hc : scope.names.lookup c = some .globalImplicit) (hd1 : (y == ("__debug__" : Str)) = false) (hd2 : (y == ("__classdict__" : Str)) = false) (hd3 : (c == ("__debug__" : Str)) = false) :
    AskE P w K mg base G x (askC c) := by
  obtain ⟨oc, od, dV, kV, doc, pm, an, cdv, ct, osl, rfl, lk, hcd, _, _⟩ := F.ex
  refine ⟨ad, y, [y], params, _, scope, dV, kV, doc, pm, cdv, ct, oc, an, od, osl, hm, F.kp, lk, hcd, hb, S, rfl, hy, hd1, hd2, ?_⟩
  rintro X q rfl rfl rfl rfl rfl f' c' s H Q tl act hco ⟨A, h⟩
  refine ⟨_, pss_cons (ps_try_only (X := (cxOf C8.CX0 X.prog X.w X.K X.mg X.base [y] x scope ad cdv X.A X.stack s H C8.E0).nox) (c := .ref (G.ga c))
      (tb := fun W D σ H => ∃ Ech : XK, (∀ cls d H', Ech cls d H' → W cls d σ H') ∧ σ[0]? = some (some (.ref f')) ∧ H c' = some (LamX.CodeO c' q) ∧ tl Ech H (fun _ H1 => D.nx σ H1))
      rfl rfl ⟨hc, hd3, .inl er.m⟩ LamX.takes0 (fun W pn xe tk _ => ?_) (fun a oe cls d pn hz hf => pss_one (ps_ret pe_bl)))
    (pss_one (ps_ret pe_bl)), ?_⟩
  · refine ⟨fun pins s' σ H' D I h' => ?_⟩
    obtain ⟨Ech, hW, h1, h2, h3⟩ := h'
    exact (pss_one (ps_expr (pos := p3) (act W pn xe Ech p1 p2 tk))).run pins s' σ H' D I ⟨h1, h2, hW, h3⟩
  · refine ⟨_, fun cls d H' q => q, rfl, hco, h _ _ (fun cls d H' q => ?_) (fun v H' q => ?_)⟩
    · obtain ⟨xn, dd, xi, he, ha, k⟩ := q
      obtain ⟨e1, rfl⟩ := askC_inv he
      have ec : cls = .ref (G.ga c) := by rw [← e1]; exact xi.1
      subst ec
      exact ⟨true, er.ex, fun _ a hna => k _ _ (ExtH.refl _) (.bl true), fun e => by cases e⟩
    · obtain ⟨dv, dd, z, he, ha, k⟩ := q
      cases he
      exact k _ _ (ExtH.refl _) (.bl false)
end
end PP

set_option Elab.async false
set_option linter.all false
set_option maxRecDepth 100000
set_option maxHeartbeats 4000000
namespace PP
open PySem L2
/-! ### what the top says of an error class -/
def oexB (K : PySem.W.Frag) (C : Addr) : Bool := match K.lookup C with
  | some ⟨.type t, dd, .cls cd, sl⟩ => (match cd.mro, sl.toList with
    | .ref D :: bm, [k0, k1, k2, k3, some (.builtin n), k5] => decide (t = "type") && (decide (D = C) && (decide (n = "ValueError.__new__") && (!cd.hasDel && (cd.hasDict && HandSPX.refsVE bm))))
    | _, _ => false)
  | _ => false
theorem oexB_ok {K : PySem.W.Frag} {C : Addr} (h : oexB K C = true) : ∃ nm q N bs bm sn sub ab col dd k0 k1 k2 k3 k5, K.lookup C = some (excClassObj nm q C N bs bm true sn sub ab col dd k0 k1 k2 k3 k5 "ValueError.__new__") ∧ HandSPX.refsVE bm = true := by
  unfold oexB at h
  split at h
  · rename_i t dd cd sl ho
    split at h
    · rename_i D bm k0 k1 k2 k3 n k5 hm hs
      obtain ⟨h1, h⟩ := He.ba h
      obtain ⟨h2, h⟩ := He.ba h
      obtain ⟨h3, h⟩ := He.ba h
      obtain ⟨h4, h⟩ := He.ba h
      obtain ⟨h5, h6⟩ := He.ba h
      have e1 := of_decide_eq_true h1
      have e2 := of_decide_eq_true h2
      have e3 := of_decide_eq_true h3
      clear h1 h2 h3
      subst e1 e2 e3
      obtain ⟨nm, bs, mro, ns, qn, hd, sn, sub, ab, col, del⟩ := cd
      dsimp only at hm h4 h5
      subst hm h5
      have h4 : del = false := by cases del; rfl; cases h4
      subst h4
      obtain ⟨l⟩ := sl
      dsimp only at hs
      subst hs
      exact ⟨nm, qn, ns, bs, bm, sn, sub, ab, col, dd, k0, k1, k2, k3, k5, ho, h6⟩
    · cases h
  · cases h
def erScB (sc : Scope) (nm : Str) : Bool := decide (sc.kind = .function) && (!sc.isCoroutine && (!sc.isGenerator && ((sc.names.all fun x => !decide (x.2 = .cell)) && (decide (sc.names.lookup ("super" : Str) = some .globalImplicit) && (decide (sc.names.lookup ("__class__" : Str) = some .free) &&
  (decide (sc.names.lookup ("self" : Str) = some .local) && decide (sc.names.lookup nm = some .local)))))))
theorem erScB_ok {sc : Scope} {nm : Str} (h : erScB sc nm = true) : ErrS sc nm := by
  obtain ⟨h1, h⟩ := He.ba h
  obtain ⟨h2, h⟩ := He.ba h
  obtain ⟨h3, h⟩ := He.ba h
  obtain ⟨h4, h⟩ := He.ba h
  obtain ⟨h5, h⟩ := He.ba h
  obtain ⟨h6, h⟩ := He.ba h
  obtain ⟨h7, h8⟩ := He.ba h
  exact ⟨of_decide_eq_true h1, by simpa using h2, by simpa using h3, fun x hx e => (by
    have := List.all_eq_true.mp h4 x hx
    rw [decide_eq_true e] at this
    cases this), of_decide_eq_true h5, of_decide_eq_true h6, of_decide_eq_true h7, of_decide_eq_true h8⟩
def erBodyB (nm : Str) : FuncBody → Bool
  | .stmts [.Expr (.Call (.Attribute (.Call (.Name s1 _) [] [] _) s2 p3) [.Name s3 _] [] p5) _, .Assign [.Attribute (.Name s4 _) s5 _] (.Name s6 _) _] =>
    decide (s1 = "super") && (decide (s2 = "__init__") && (decide (s3 = nm) && (decide (s4 = "self") && (decide (s5 = nm) && (decide (s6 = nm) && (p3.endLine == p5.line))))))
  | _ => false
theorem erBodyB_ok {nm : Str} {b : FuncBody} (h : erBodyB nm b = true) : ∃ p1 p2 p3 p4 p5 p6 p7 p8 p9 p10, b = .stmts (erBody nm p1 p2 p3 p4 p5 p6 p7 p8 p9 p10) ∧ (p3.endLine == p5.line) = true := by
  unfold erBodyB at h
  split at h
  · obtain ⟨h1, h⟩ := He.ba h
    obtain ⟨h2, h⟩ := He.ba h
    obtain ⟨h3, h⟩ := He.ba h
    obtain ⟨h4, h⟩ := He.ba h
    obtain ⟨h5, h⟩ := He.ba h
    obtain ⟨h6, h7⟩ := He.ba h
    rw [of_decide_eq_true h1, of_decide_eq_true h2, of_decide_eq_true h3, of_decide_eq_true h4, of_decide_eq_true h5, of_decide_eq_true h6]
    exact ⟨_, _, _, _, _, _, _, _, _, _, rfl, h7⟩
  · cases h
def erParB (nm : Str) : Arguments → Bool
  | ⟨[], [⟨a, _, _⟩, ⟨b, _, _⟩], none, [], [], none, []⟩ => decide (a = "self") && decide (b = nm)
  | _ => false
theorem erParB_ok {nm : Str} {p : Arguments} (h : erParB nm p = true) : ∃ an1 an2 q1 q2, p = ⟨[], [⟨"self", an1, q1⟩, ⟨nm, an2, q2⟩], none, [], [], none, []⟩ := by
  unfold erParB at h
  split at h
  · obtain ⟨h1, h2⟩ := He.ba h
    rw [of_decide_eq_true h1, of_decide_eq_true h2]
    exact ⟨_, _, _, _, rfl⟩
  · cases h
def isNone : Value → Bool
  | .none => true
  | _ => false
theorem isNone_ok {v : Value} (h : isNone v = true) : v = .none := by cases v <;> first | rfl | cases h
def cellB (K : PySem.W.Frag) (cc C : Addr) : Bool := match K.lookup cc with
  | some ⟨_, _, .cell (some (.ref D)), _⟩ => decide (D = C)
  | _ => false
theorem cellB_ok {K : PySem.W.Frag} {cc C : Addr} (h : cellB K cc C = true) : ∃ cl cld csl, K.lookup cc = some ⟨cl, cld, .cell (some (.ref C)), csl⟩ := by
  unfold cellB at h
  split at h
  · rename_i a b D c e
    rw [of_decide_eq_true h] at e
    exact ⟨a, b, c, e⟩
  · cases h
def fileB (K : PySem.W.Frag) (cda : Addr) (file : Str) : Bool := match K.lookup cda with
  | some ⟨_, _, .fields vs, _⟩ => (match (vs[2]? : Option Value) with
    | some (.str g _) => file == g
    | _ => false)
  | _ => false
theorem fileB_ok {K : PySem.W.Frag} {cda : Addr} {file : Str} (h : fileB K cda file = true) : ∃ ccl cdd vs ccs g tf, K.lookup cda = some ⟨ccl, cdd, .fields vs, ccs⟩ ∧ vs[2]? = some (.str g tf) ∧ (file == g) = true := by
  unfold fileB at h
  split at h
  · rename_i a b vs c e
    split at h
    · rename_i g t e2
      exact ⟨a, b, vs, c, g, t, e, e2, h⟩
    · cases h
  · cases h
def erFnB (file : Str) (K : PySem.W.Frag) (C f : Addr) (nm : Str) : Bool := match K.lookup f with
  | some ⟨_, _, .func fd, _⟩ => (match fd.closure, fd.code with
    | [(cn, cc)], .ref cda => decide (cn = "__class__") && (cellB K cc C && (fileB K cda file && (PySem.W.codeIn K (.ref cda) fd.qualname && (erParB nm fd.params && (erBodyB nm fd.body && (erScB fd.scope nm && (decide (fd.globals = mainGlobals) && (decide (fd.builtins = builtinsNs) && isNone fd.defaults))))))))
    | _, _ => false)
  | _ => false
/-- an error class with a field -/
def exErr (file c nm : Str) (K : PySem.W.Frag) : Bool :=
  erFnB file K (He.ga K c) (He.ma K (He.ga K c) "__init__") nm && (oexB K (He.ga K c) && (He.eqO (PySem.W.findIn K (.ref (He.ga K c)) "__init__") (some (some (.ref (He.ma K (He.ga K c) "__init__")))) && (decide (PySem.W.typeIn K (.ref (He.ma K (He.ga K c) "__init__")) = some (.type "function")) &&
  (He.eqO (PySem.W.findIn K (.ref (He.ga K c)) "__setattr__") (some (some (.builtin "object.__setattr__"))) && (decide (PySem.W.subIn K (.ref (He.ga K c)) (.type "BaseException") = some true) && (decide (PySem.W.typeIn K (.ref (He.ga K c)) = some (.type "type")) && (PySem.W.keepIn K (.ref (He.ga K c)) &&
  (He.eqO (PySem.W.findIn K (.ref (He.ga K c)) nm) (some none) && (decide (PySem.W.mroIn K (He.ga K c) (.ref (He.ga K c)) = some true) && (decide (PySem.W.subIn K (.ref (He.ga K c)) (.type "ValueError") = some true) && (He.eqO (PySem.W.nsIn K cStatics "thirdparty.any") (some none) &&
  (He.eqO (PySem.W.ks_superIn K (He.ga K c) (He.ga K c) "__init__") (some (some (.builtin "ValueError.__init__"))) && (xfB K (He.ga K c) && decide (PySem.W.exmOne K (.ref (He.ga K c)) (.ref (He.ga K c)) = some true))))))))))))))
theorem exErr_ok {P : Program} {c nm : Str} {K : PySem.W.Frag} {mg : Str → Option Value} {G : Gc} (hG : G.ga = fun x => He.ga K x) (h : exErr P.main.file c nm K = true) (top : (P.main.scope.names.lookup ("super" : Str)).isSome = false) (ne : nm ≠ "self") (bnd : BndNm nm) (dbg : (nm == ("__debug__" : Str)) = false)
    (su : mg "super" = none) (m : mg c = some (.ref (He.ga K c))) : ErrE P K mg G c nm ∧ ErrF K mg G c nm := by
  have eg : G.ga c = He.ga K c := by rw [hG]
  obtain ⟨h1, h⟩ := He.ba h
  obtain ⟨h2, h⟩ := He.ba h
  obtain ⟨h3, h⟩ := He.ba h
  obtain ⟨h4, h⟩ := He.ba h
  obtain ⟨h5, h⟩ := He.ba h
  obtain ⟨h6, h⟩ := He.ba h
  obtain ⟨h7, h⟩ := He.ba h
  obtain ⟨h8, h⟩ := He.ba h
  obtain ⟨h9, h⟩ := He.ba h
  obtain ⟨h10, h⟩ := He.ba h
  obtain ⟨h11, h⟩ := He.ba h
  obtain ⟨h12, h⟩ := He.ba h
  obtain ⟨h13, h⟩ := He.ba h
  obtain ⟨h14, h15⟩ := He.ba h
  have m' : mg c = some (.ref (G.ga c)) := by rw [eg]; exact m
  refine ⟨⟨⟨He.ma K (He.ga K c) "__init__", ⟨?_, top, ne, bnd, dbg, ⟨?_, ?_, ?_, ?_, ?_⟩, ?_, ?_, ?_, He.eqO_ok h12, ?_⟩, ?_, ?_⟩, su, m'⟩, ⟨?_, ?_, ?_, m'⟩⟩
  all_goals try rw [eg]
  rotate_right
  · exact of_decide_eq_true h15
  all_goals first
    | exact oexB_ok h2 | exact He.eqO_ok h5 | exact of_decide_eq_true h6 | exact of_decide_eq_true h7 | exact h8 | exact He.eqO_ok h9 | exact of_decide_eq_true h10 | exact of_decide_eq_true h11 | exact He.eqO_ok h13 | exact He.eqO_ok h3 | exact of_decide_eq_true h4 | exact xfB_ok h14 | skip
  unfold erFnB at h1
  split at h1
  · rename_i oc od fd osl lk
    split at h1
    · rename_i cn cc cda hcl hco
      obtain ⟨g1, h1⟩ := He.ba h1
      obtain ⟨g2, h1⟩ := He.ba h1
      obtain ⟨g3, h1⟩ := He.ba h1
      obtain ⟨g4, h1⟩ := He.ba h1
      obtain ⟨g5, h1⟩ := He.ba h1
      obtain ⟨g6, h1⟩ := He.ba h1
      obtain ⟨g7, h1⟩ := He.ba h1
      obtain ⟨g8, h1⟩ := He.ba h1
      obtain ⟨g9, g10⟩ := He.ba h1
      obtain ⟨an1, an2, q1, q2, e5⟩ := erParB_ok g5
      obtain ⟨p1, p2, p3, p4, p5, p6, p7, p8, p9, p10, e6, hpos⟩ := erBodyB_ok g6
      obtain ⟨ccl, cdd, vs, ccs, gf, tf, k1, k2, k3⟩ := fileB_ok g3
      obtain ⟨n1, n2, n3, n4, n5, n6, n7, n8, n9, n10, n11, n12, n13, n14, n15⟩ := fd
      dsimp only at hcl hco e5 e6 g4 g7 g8 g9 g10
      have e1 := of_decide_eq_true g1
      have e8 := of_decide_eq_true g8
      have e9 := of_decide_eq_true g9
      have e10 := isNone_ok g10
      clear g1 g8 g9 g10
      subst hcl hco e5 e6 e1 e8 e9 e10
      exact ⟨oc, od, osl, n1, n2, an1, an2, q1, q2, n5, n9, n10, n11, n12, n14, cda, cc, p1, p2, p3, p4, p5, p6, p7, p8, p9, p10, lk, g4, hpos, erScB_ok g7, cellB_ok g2, ccl, cdd, vs, ccs, gf, tf, k1, k2, k3⟩
    · cases h1
  · cases h1
/-- an error class without one -/
theorem exc0_ok {K : PySem.W.Frag} {mg : Str → Option Value} {G : Gc} {c : Str} (hG : G.ga = fun x => He.ga K x) (h : (He.Fa.exc c).ok K = true) (m : mg c = some (.ref (He.ga K c))) : ErrE0 K mg G c := by
  obtain ⟨h1, h2, h3, h4⟩ := He.exc_ok h
  refine ⟨?_, ?_, ?_, ?_, ?_⟩ <;> rw [show G.ga c = He.ga K c by rw [hG]] <;> assumption
theorem exmC_ok {K : PySem.W.Frag} {mg : Str → Option Value} {G : Gc} {c : Str} (hG : G.ga = fun x => He.ga K x) (h : (He.Fa.exm c c true).ok K = true) (m : mg c = some (.ref (He.ga K c))) : ErrC K mg G c := by
  have h := He.exm_ok h
  refine ⟨?_, ?_⟩ <;> rw [show G.ga c = He.ga K c by rw [hG]] <;> assumption
/-- the law's table -/
theorem _root_.L2.FunD.codeC {K : PySem.W.Frag} {x qual : Str} {params : Arguments} {body : List Stmt} {scope : Scope} {dvs : List V} {kws : List (Str × V)} {p : Str × Option Str} {fd : FuncData} (F : FunD K x qual params body scope dvs kws (He.fAd K p) fd) : fd.code = .ref (He.cT K p).1 := by
  obtain ⟨oc, od, dV, kV, doc, pm, an, cdv, ct, osl, rfl, lk, hcd, _, _⟩ := F.ex
  obtain ⟨c, rfl⟩ := He.codeIn_ref hcd
  have e := He.codeOf_eq lk rfl
  show Value.ref c = .ref (He.codeOf K p)
  rw [e]
end PP
namespace PP
open PySem L2
/-! ### the hook: what the module's names reach, and the statics -/
def asY (g : Addr → Option Obj) (n : Nat) : List Addr := cStatics :: He.asD g n
def frY (g : Addr → Option Obj) (n : Nat) : PySem.W.Frag := He.frT g (asY g n)
def obsY (n : Nat) (fa : List He.Fa) (fn : List He.DefD) (tf : List He.Defn) (ex : PySem.W.Frag → Bool) (g : Addr → Option Obj) : He.AlD × Bool := (He.obsD fa fn (frY g n), ex (frY g n) && He.tabsB g tf (frY g n))
def valY (fn : List He.DefD) : He.AlD × Bool := (He.valD fn, true)
structure SaysY (fa : List He.Fa) (fn : List He.DefD) (tf : List He.Defn) (ex : PySem.W.Frag → Bool) (h : Heap) (K : PySem.W.Frag) : Prop where
  d : He.SaysD fa fn K
  more : ex K = true
  hd : ∀ p ∈ tf, PySem.W.codeHdIn K (He.cT K p).1 (He.cT K p).2 = true
  out : ∀ p ∈ tf, K.lookup (He.cT K p).2 = none
  empty : ∀ p ∈ tf, h.get? (He.cT K p).2 = some { cls := .none, data := .fields #[] }
theorem saysY_of {n : Nat} {fa : List He.Fa} {fn : List He.DefD} {tf : List He.Defn} {ex : PySem.W.Frag → Bool} {h : Heap} (e : obsY n fa fn tf ex h.get? = valY fn) : SaysY fa fn tf ex h (frY h.get? n) := by
  have ea : He.obsD fa fn (frY h.get? n) = He.valD fn := congrArg Prod.fst e
  have eb : (ex (frY h.get? n) && He.tabsB h.get? tf (frY h.get? n)) = true := congrArg Prod.snd e
  obtain ⟨ha, hb⟩ := He.ba eb
  have at_ : ∀ p ∈ tf, PySem.W.codeHdIn (frY h.get? n) (He.cT (frY h.get? n) p).1 (He.cT (frY h.get? n) p).2 = true ∧ ∃ o, h.get? (He.cT (frY h.get? n) p).2 = some o ∧ He.emptyTab o = true := fun p hp => by
    obtain ⟨hc, hd⟩ := He.ba (List.all_eq_true.mp hb p hp)
    refine ⟨hc, ?_⟩
    cases z : h.get? (He.cT (frY h.get? n) p).2 with
    | none => rw [z] at hd; cases hd
    | some o => rw [z] at hd; exact ⟨o, rfl, hd⟩
  refine ⟨ea, ha, fun p hp => (at_ p hp).1, fun p hp => ?_, fun p hp => ?_⟩
  · obtain ⟨_, o, z, y⟩ := at_ p hp
    exact He.frT_none z y
  · obtain ⟨_, o, z, y⟩ := at_ p hp
    rw [z, He.emptyTab_eq y]
def hookY (n : Nat) (fa : List He.Fa) (fn : List He.DefD) (tf : List He.Defn) (ex : PySem.W.Frag → Bool) : PySem.W.Hook where
  α := He.AlD × Bool
  obs := fun s => obsY n fa fn tf ex s.heap.get?
  val := fun _ => valY fn
  says := fun _ h => ∃ K : PySem.W.Frag, K.In h ∧ SaysY fa fn tf ex h K
  of := fun _ _ e => ⟨_, He.frT_in, saysY_of e⟩
  keeps := fun _ _ _ ⟨K, hK, c⟩ k => ⟨K, PySem.W.Frag.In.keeps hK k, ⟨c.d, c.more, c.hd, c.out, fun p hp => k _ _ (c.empty p hp)⟩⟩
theorem obsY_eq {n : Nat} {fa : List He.Fa} {fn : List He.DefD} {tf : List He.Defn} {ex : PySem.W.Frag → Bool} {g : Addr → Option Obj} {s : Shared} (h : ∀ a, g a = s.heap.get? a) : obsY n fa fn tf ex g = (hookY n fa fn tf ex).obs s := by
  rw [show g = s.heap.get? from funext h]; rfl
theorem codeHd_all {K : PySem.W.Frag} {h : Heap} {tf : List He.Defn} (X : K.In h) (c : ∀ p ∈ tf, PySem.W.codeHdIn K (He.cT K p).1 (He.cT K p).2 = true) : ∀ p ∈ tf.map (He.cT K), PySem.W.CodeHd h p.1 p.2 := fun p hp => by
  obtain ⟨q, hq, rfl⟩ := List.mem_map.mp hp
  exact PySem.W.codeHd_of_K X (c q hq)
end PP

set_option Elab.async false
set_option linter.all false
set_option maxRecDepth 100000
set_option maxHeartbeats 4000000
namespace PySem.SeqAt
open MeetsSeq
/-! ### a text and a dict are not equal -/
theorem dict_declines (l : Addr) (o : Obj) (b : Str) (u : Tok) : Meets (Builtin.«dict.__eq__» ⟨[.ref l, .str b u], []⟩) (fun _ R s => s.heap.get? l = some o ∧ (o.cls = .type "dict" ∧ ∃ es n, o.data = .dict es n) ∧ R (.ok (.ret .notImplemented)) s) :=
  .of_wp fun prog w A R s h => by
    obtain ⟨hp, g, d, tk, os⟩ := s
    obtain ⟨hl, hc, h⟩ := h
    obtain ⟨cls, dd, data, sl⟩ := o
    obtain ⟨hc, es, n, hd⟩ := hc
    dsimp only at hc hd
    subst hc hd
    have f1 := F.sub_str_dict
    wp_walk using wpAny_loadPart' hl, wpAny_load hl
    exact ⟨_, rfl, h⟩
theorem str_declines_dict (b : Str) (u : Tok) (l : Addr) (o : Obj) : Meets (Builtin.«str.__eq__» ⟨[.str b u, .ref l], []⟩) (fun _ R s => s.heap.get? l = some o ∧ (o.cls = .type "dict" ∧ ∃ es n, o.data = .dict es n) ∧ R (.ok (.ret .notImplemented)) s) :=
  .of_wp fun prog w A R s h => by
    obtain ⟨hp, g, d, tk, os⟩ := s
    obtain ⟨hl, hc, h⟩ := h
    obtain ⟨cls, dd, data, sl⟩ := o
    obtain ⟨hc, es, n, hd⟩ := hc
    dsimp only at hc hd
    subst hc hd
    have f1 := F.sub_dict_str
    wp_walk using wpAny_loadPart' hl, wpAny_load hl
    exact ⟨_, rfl, h⟩
theorem EqAt.str_dict {A : Around} {s : Shared} {l : Addr} {o : Obj} (b : Str) (u : Tok) (ho : s.heap.get? l = some o) (hc : o.cls = .type "dict" ∧ ∃ es n, o.data = .dict es n) (hu : A.units < cLine) : EqAt A s (.str b u) (.ref l) false := fun prog w E Q h => by
  unfold eqBool
  refine wpAny_holding ?_
  refine wpAny_ite_split (fun hab => absurd (eq_of_beq hab) nofun) (fun _ => ?_)
  refine wpAny_bind (rc_eq_decline_or (k := false) (typeIs_str s b u) ⟨_, ho, hc.1⟩ (by decide) F.sub_dict_str F.slot_str_eq F.slot_dict_eq_refl ?_ ?_ (fun _ hq => wpAny_of_eq (rfl : isSame (.str b u) (.ref l) = pure false) hq) (.inr hu) (wpAny_truthy_bool h))
  · exact fun _ hq => call_meets F.slot_str_eq (typeIs_str s b u) F.entry_str_eq (F.args_str_eq_2 _ _) (str_declines_dict b u l o) ⟨ho, hc, hq⟩
  · exact fun _ hq => call_meets F.slot_dict_eq_refl ⟨_, ho, hc.1⟩ F.entry_dict_eq (F.args_dict_eq_2 _ _) (dict_declines l o b u) ⟨ho, hc, hq⟩
end PySem.SeqAt

namespace PP
open PySem L2
section
variable {X : Cx} {F : Fm} {E : XC} {Γ : Env} {pos : Pos}
theorem vals_mem : ∀ {vs : List V} {us : List Value} {u : Value}, Vals vs us → u ∈ us → ∃ v, v ∈ vs ∧ RelV v u
  | _, _, _, .nil, h => by cases h
  | _, _, _, .cons r t, h => by
    rcases List.mem_cons.mp h with rfl | h
    · exact ⟨_, List.mem_cons_self .., r⟩
    · obtain ⟨v, h1, h2⟩ := vals_mem t h
      exact ⟨v, List.mem_cons_of_mem _ h1, h2⟩
def rInDk (K : PySem.W.Frag) (neg : Bool) : R2 := fun x y H Q => ∃ (a p : Addr) (kvs : List (Key × V)) (zs : List Str), x = .ref a ∧ y = .ref p ∧ Rd H a (.dK kvs) ∧ SqL K H p (zs.map V.str) ∧ Q (.bl neg) H
def rInDp (K : PySem.W.Frag) (neg : Bool) : R2 := fun x y H Q => ∃ d ds, Dp K H x d ∧ Dp K H y (.list ds) ∧ SeqAt.shaped d = true ∧ SeqAt.shaped (.list ds) = true ∧ Q (.bl (if neg then !ds.any fun z => PyData.eqv z d else ds.any fun z => PyData.eqv z d)) H
def rInDd (K : PySem.W.Frag) (neg : Bool) : R2 := fun x y H Q => rInDk K neg x y H Q ∨ rInDp K neg x y H Q
theorem dict_obj {P : Program} {w : World} {H : Hp} {h : Heap} {a : Addr} {kvs : List (Key × V)} (hok : HOk P w H h) (e : Rd H a (.dK kvs)) : ∃ o, h.get? a = some o ∧ o.cls = .type "dict" ∧ ∃ es n, o.data = .dict es n := by
  have x : ObjOk P w H h a (.dK kvs) := by
    rcases e with e | ⟨ob, e⟩
    · exact hok a _ e
    · exact (hok a _ e).2
  obtain ⟨_, _, vs, _, o, es, ep, e1, e2, e3, _⟩ := x
  exact ⟨o, e1, e2.1, es, ep, e3⟩
theorem op_inDd (hu : X.A.units + 65 < cLine) : OpR X (compareOp .In) (rInDd X.K false) := by
  intro pinz s σ H x y v u Q I rx ry h
  rcases h with ⟨a, p, kvs, zs, rfl, rfl, e, l, q⟩ | ⟨d, ds, hd, he, sd, se, q⟩
  · cases rx
    cases ry
    obtain ⟨o, h1, h2⟩ := dict_obj I.hok e
    obtain ⟨its, rv, ⟨ob, n, e1, c, dd, q1⟩, hz⟩ := I.list l
    refine SeqAt.in_listAt (fun _ => false) ⟨ob, e1, c, n, q1⟩ (fun z hm => ?_) ?_
    · obtain ⟨w, hw, r⟩ := vals_mem rv (by simpa using hm)
      obtain ⟨b, _, rfl⟩ := List.mem_map.mp hw
      obtain ⟨t, rfl⟩ := r
      exact SeqAt.EqAt.str_dict b t h1 h2 (by show X.A.units + 1 < cLine; omega)
    · have : (its.toArray.any fun _ => false) = false := by simp
      rw [this]
      exact ⟨.bl _, H, I, rfl, q⟩
  · obtain ⟨as, r1⟩ := Dp.reads I d x v hd rx
    obtain ⟨bs, r2⟩ := Dp.reads I (.list ds) y u he ry
    exact SeqAt.in_list_reads r2 r1 (SeqAt.canLay_of_shaped se) (SeqAt.canLay_of_shaped sd) (PyProof.Rows.room_in_shaped sd hu) ⟨.bl _, H, I, rfl, q⟩
theorem op_notInDd (hu : X.A.units + 65 < cLine) : OpR X (compareOp .NotIn) (rInDd X.K true) := by
  intro pinz s σ H x y v u Q I rx ry h
  rcases h with ⟨a, p, kvs, zs, rfl, rfl, e, l, q⟩ | ⟨d, ds, hd, he, sd, se, q⟩
  · cases rx
    cases ry
    obtain ⟨o, h1, h2⟩ := dict_obj I.hok e
    obtain ⟨its, rv, ⟨ob, n, e1, c, dd, q1⟩, hz⟩ := I.list l
    refine SeqAt.notIn_listAt (fun _ => false) ⟨ob, e1, c, n, q1⟩ (fun z hm => ?_) ?_
    · obtain ⟨w, hw, r⟩ := vals_mem rv (by simpa using hm)
      obtain ⟨b, _, rfl⟩ := List.mem_map.mp hw
      obtain ⟨t, rfl⟩ := r
      exact SeqAt.EqAt.str_dict b t h1 h2 (by show X.A.units + 1 < cLine; omega)
    · have : (its.toArray.any fun _ => false) = false := by simp
      rw [this]
      exact ⟨.bl _, H, I, rfl, q⟩
  · obtain ⟨as, r1⟩ := Dp.reads I d x v hd rx
    obtain ⟨bs, r2⟩ := Dp.reads I (.list ds) y u he ry
    exact SeqAt.notIn_list_reads r2 r1 (SeqAt.canLay_of_shaped se) (SeqAt.canLay_of_shaped sd) (PyProof.Rows.room_in_shaped sd hu) ⟨.bl _, H, I, rfl, q⟩
theorem all_str : ∀ {xs : List D}, xs.all isStr = true → ∃ zs : List Str, xs = zs.map D.str
  | [], _ => ⟨[], rfl⟩
  | x :: xs, h => by
    rw [List.all_cons, Bool.and_eq_true] at h
    obtain ⟨zs, rfl⟩ := all_str h.2
    cases x with
    | str z => exact ⟨z :: zs, rfl⟩
    | _ => exact absurd h.1 (by simp [isStr])
theorem pds_any (f : PyData → Bool) : ∀ xs : List D, (pds xs).any f = xs.any fun y => f (pd y)
  | [] => rfl
  | x :: xs => by
    show (pd x :: pds xs).any f = _
    rw [List.any_cons, List.any_cons, pds_any f xs]
theorem ops_inDd (neg : Bool) : OpS F E (qInD neg) (rInDd F.G.K neg) := fun Z ow σ H s K x y vx vy Q R hx hy w k => by
  cases y with
  | lst ys =>
    obtain ⟨w1, w2⟩ := w
    have fin : K (.fz (.bl (if neg then !inAnyD x ys else inAnyD x ys))) s → Q (.bl (if neg then !inAnyD x ys else inAnyD x ys)) H := fun w => k _ _ _ _ _ w (rr_sc R (.bl _) rfl) (Eff.refl _ _ _ _)
    have deep : (SeqAt.shaped (pd x) && SeqAt.shaped (pd (.lst ys))) = true → inAnyD x ys = (ys.any fun y => eqD y x) → rInDd F.G.K neg vx vy H Q := fun h1 h2 => by
      obtain ⟨h3, h4⟩ := Bool.and_eq_true_iff.mp h1
      refine .inr ⟨pd x, pds ys, hx.dp (SeqAt.canLay_of_shaped h3), hy.dp (SeqAt.canLay_of_shaped h4), h3, h4, ?_⟩
      have e : ((pds ys).any fun z => PyData.eqv z (pd x)) = inAnyD x ys := by rw [h2, pds_any]; rfl
      rw [e]
      exact fin w2
    cases x with
    | dct kvs =>
      obtain ⟨zs, rfl⟩ := all_str w1
      obtain ⟨a, kv, rfl, e, ek, l⟩ := hx
      obtain ⟨p, vs, rfl, e2, l2⟩ := hy
      have ev := fzl_strs l2
      subst ev
      refine .inl ⟨a, p, kv, zs, rfl, rfl, e, SqL.of e2, ?_⟩
      have := fin w2
      cases neg <;> exact this
    | _ => exact deep w1 rfl
  | _ => exact w.elim
theorem c_inD (g : Gd X F E) {k : Nat} (hr : RoomG k X.A) : CmpOk X F E .In .isinD (rInDd F.G.K false) := ⟨by rw [← g.hK]; exact op_inDd (by have := hr.r.un; omega), ops_inDd false⟩
theorem c_ninD (g : Gd X F E) {k : Nat} (hr : RoomG k X.A) : CmpOk X F E .NotIn .notinD (rInDd F.G.K true) := ⟨by rw [← g.hK]; exact op_notInDd (by have := hr.r.un; omega), ops_inDd true⟩
theorem FzL.rep {G : Gc} {A : AS} {H : Hp} {vs : List V} {ds : List D} (h : FzL G A H vs ds) : ∀ n, FzL G A H (List.replicate n vs).flatten (List.replicate n ds).flatten
  | 0 => .nil
  | n + 1 => by
    rw [List.replicate_succ, List.replicate_succ, List.flatten_cons, List.flatten_cons]
    exact h.append (FzL.rep h n)
theorem ops_rep : OpS F E (qBin .rep) rRep := fun Z ow σ H s K x y vx vy Q R hx hy w k => by
  cases x <;> try exact w.elim
  cases y <;> try exact w.elim
  rename_i xs j
  obtain ⟨⟨h1, h2, h3⟩, w⟩ := w
  obtain ⟨a, vs, rfl, e, l⟩ := hx
  cases view_int hy
  refine ⟨a, j, vs, rfl, rfl, e, h1, h2, by rw [l.length]; exact h3, fun p hp => ?_⟩
  exact k _ _ _ _ _ w (rr_newL R hp (l.rep _)) (Eff.new hp)
/-- [..] * n -/
theorem sx_rep (g : Gd X F E) {a b : Expr} {ia ib : Ex} (ha : VX X F E Γ a ia) (hb : VX X F E Γ b ib) : SX X F E Γ (.BinOp a .Mult b pos) (.bin .rep ia ib) := PEimp (pe_op op_rep ha hb) fun _ _ _ h => lr_bin ops_rep h
/-- {} -/
theorem sx_dct0 : SX X F E Γ (.Dict [] [] pos) (.dct [] []) := PEimp pe_dnewK fun σ H Q h => by
  obtain ⟨Z, ow, s, K, R, hf, hq⟩ := h
  intro p hp
  obtain ⟨nm, n0, nz⟩ := R.new0 hp
  exact hq (.nd []) s _ _ ow hf ⟨p, [], rfl, hp, fun z => nz (.inl z), nm, n0, R.alloc hp, upd_same, rfl, .nil⟩ (Eff.new hp)
end
end PP

set_option Elab.async false
set_option linter.all false
set_option maxRecDepth 100000
set_option maxHeartbeats 4000000
namespace PP
open PySem L2
abbrev N_drawZ (z : Str) : List Str := ["_law_stream", "_law_many", "_law_digit", z]
/-- the text of a draw, whatever its last own name -/
theorem draw_okZ {P : Program} {w : World} {K : PySem.W.Frag} {mg : Str → Option Value} {base : Heap} {params : Arguments} {body : List Stmt} {scope : Scope} {kws : List (Str × V)} {f : Addr} {fd : FuncData} {G : Gc} {z : Str}
    (F : FunD K "_law_draw" "_law_draw" params body scope [] kws f fd) (S : FnScope (N_drawZ z) ["_law_stream", "_law_many"] scope)
    (hd : ∀ (cdv : Value) (A : Around) (outer : List PySem.Env) (s : Shared) (H : Hp) (E : XK), RoomG 0 (A.deeper (PyProof.Rows.envOfC "_law_draw" scope s.heap.objs.size f cdv)) → PSs (cxOf CX0 P w K mg base (N_drawZ z) "_law_draw" scope f cdv A outer s H E).nox body (t_draw K)) :
    FnOg P w K mg base CX0 1 f fd ["_law_stream", "_law_many"] (liftSp G 2 conDraw) := by
  refine F.okg S (fun vs H Q E h => h.1) fun cdv A outer s H vs Q E hr h => ?_
  obtain ⟨hl, T, A', as, c, K', _, hs, h1, h2, hA, ha, ⟨m, rfl, m1, m2, hc, hk⟩, kq, _⟩ := h
  refine ⟨_, PSs.nox (hd cdv A outer s H E hr), ?_⟩
  cases ha with
  | st ha =>
    cases ha with
    | d z ha =>
      cases ha
      cases z
      exact draw_run (A := A') hs m1 m2 hc fun H' kp st => kq _ _ _ H' hk kp st (.int _)
end PP

set_option Elab.async false
set_option linter.all false
set_option maxRecDepth 100000
set_option maxHeartbeats 4000000
namespace PP
open PySem L2
/-! ### a law's end, with errors and lambdas -/
def lamQ (x : Str) : Str := x ++ ".<locals>." ++ "<lambda>"
def tbOf (tf : List He.Defn) (K : PySem.W.Frag) : List (Addr × Str) := tf.map fun p => ((He.cT K p).2, lamQ p.1)
section
variable {P : Program} {w : World} {K : PySem.W.Frag} {mg : Str → Option Value} {base : Heap} {params : Arguments} {body : List Stmt} {scope : Scope} {kws : List (Str × V)} {f : Addr} {fd : FuncData}
theorem tabE_law {N : List Str} {cdv : Value} {A : Around} {outer : List PySem.Env} {s : Shared} {H : Hp} {E : XK} {F : Fm} {G : Gc} (hG : F.G = G) (hT : G.tb = tbOf [("law", none)] K)
    (hc : cdv = .ref (He.cT K ("law", none)).1) (tb : ∀ p ∈ [(("law" : Str), (none : Option Str))].map (He.cT K), LamX.TabB base mg p.1 p.2) : TabE (cxOf CX0 P w K mg base N "law" scope f cdv A outer s H E).nox F := by
  refine ⟨(He.cT K ("law", none)).1, (He.cT K ("law", none)).2, tb _ (by simp), hc, ?_, ?_⟩
  · rw [hG, hT]; exact List.mem_singleton.mpr rfl
  · rw [hG, hT]
    intro p hp _
    rw [List.mem_singleton.mp hp]; rfl
theorem tabs0 {tf : List He.Defn} {H : Hp} (h : ∀ p ∈ tf.map (He.cT K), H p.2 = some (.tbl #[])) : LamX.Tabs (tbOf tf K) H := fun p hp => by
  obtain ⟨q, hq, rfl⟩ := List.mem_map.mp hp
  exact LamX.TabS.nil (h _ (List.mem_map.mpr ⟨q, hq, rfl⟩))
theorem fnO_X {G : Gc} {Γ : Env} {N ps : List Str} {k : Nat} {con : Con} {code : List Sx} {x qual : Str} {dvs : List V} (F : FunD K x qual params body scope dvs kws f fd) (S : FnScope N ps scope) (hN : ps.length ≤ N.length) (hK : K = G.K)
    (hd : ∀ (cdv : Value) (A : Around) (outer : List PySem.Env) (s : Shared) (H : Hp) (E : XK) (Fm : Fm) (Ex : XC), Fm.G = G → Gd (cxOf (L2.CX P w) P w K mg base N qual scope f cdv A outer s H E) Fm Ex → RoomG k (A.deeper (PyProof.Rows.envOfC qual scope s.heap.objs.size f cdv)) →
      SBX (cxOf (L2.CX P w) P w K mg base N qual scope f cdv A outer s H E) Fm Ex Γ body code)
    (hp : ImplX Γ N.length con code) : FnOg P w K mg base (L2.CX P w) (k + 1) f fd ps (liftSp G ps.length con) := fn_pureX F S hN hK hd hp
theorem fnO_P {G : Gc} {Γ : Env} {N ps : List Str} {k : Nat} {con : Con} {code : List Sx} {x qual : Str} {dvs : List V} (F : FunD K x qual params body scope dvs kws f fd) (S : FnScope N ps scope) (hN : ps.length ≤ N.length) (hK : K = G.K)
    (hd : ∀ (cdv : Value) (A : Around) (outer : List PySem.Env) (s : Shared) (H : Hp) (E : XK) (Fm : Fm), Fm.G = G → Gd (cxOf CX0 P w K mg base N qual scope f cdv A outer s H E).nox Fm noX → RoomG k (A.deeper (PyProof.Rows.envOfC qual scope s.heap.objs.size f cdv)) →
      SBX (cxOf CX0 P w K mg base N qual scope f cdv A outer s H E).nox Fm noX Γ body code)
    (hp : Impl Γ N.length con code) (hI : NoErr con) : FnOg P w K mg base (L2.CX P w) (k + 1) f fd ps (liftSp G ps.length con) := (fn_pure F S hN hK hd hp hI).cx
theorem fnE_0 {G : Gc} {ps : List Str} {k : Nat} {con : Con} {x qual : Str} {dvs : List V} (F : FunD K x qual params body scope dvs kws f fd) (O : FnOg P w K mg base (L2.CX P w) k f fd ps (liftSp G ps.length con)) (hm : mg x = some (.ref f)) (hb : Binds K fd ps [])
    (hl : ∀ as c K e, con as c K e → as.length = ps.length) (dfl : List D) : FnE P w K mg base G k x con dfl 0 :=
  ⟨f, fd, ps, [], [], O, hm, F.kp, hb, .nil, hl, fun _ _ _ => by unfold dflTail; simp; exact .nil⟩
theorem mtE_0 {G : Gc} {ps : List Str} {k : Nat} {con : Con} {c m qual : Str} {dvs : List V} (F : FunD K m qual params body scope dvs kws f fd) (O : FnOg P w K mg base (L2.CX P w) k f fd ps (liftSp G ps.length con)) (hc : Cls K (G.ga c)) (hm : Meth K (G.ga c) m f) (hb : Binds K fd ps [])
    (hl : ∀ as c K e, con as c K e → as.length = ps.length) (dfl : List D) : MtE P w K mg base G k c m con dfl 0 :=
  ⟨f, fd, ps, [], [], O, hc, hm, hb, .nil, hl, fun _ _ _ => by unfold dflTail; simp; exact .nil⟩
/-- its last argument left out, which is None -/
theorem fnE_1n {G : Gc} {ps : List Str} {k : Nat} {con : Con} {x qual : Str} {dvs : List V} {ds : List Value} (F : FunD K x qual params body scope dvs kws f fd) (O : FnOg P w K mg base (L2.CX P w) k f fd ps (liftSp G ps.length con)) (hm : mg x = some (.ref f)) (hb : Binds K fd ps ds) (hv : Vals [.non] ds)
    (hl : ∀ as c K e, con as c K e → as.length = ps.length) : FnE P w K mg base G k x con [.non] 1 :=
  ⟨f, fd, ps, [.non], ds, O, hm, F.kp, hb, hv, hl, fun _ _ _ => .d .non .nil⟩
end
end PP

set_option Elab.async false
set_option linter.all false
set_option maxRecDepth 100000
namespace PP
open PySem L2
def N__law_same : List Str := ["_law_found", "_law_due"]
def c__law_same : List Sx := [(.ret (.cmp .eq (.bi .repr [(.var 0)]) (.bi .repr [(.var 1)])))]
def N_Account___eq__ : List Str := ["self", "other"]
def c_Account___eq__ : List Sx := [(.ret (.and (.isO (.var 1) "Account") (.cmp .eq (.att "Account" (.var 0) "deeds") (.att "Account" (.var 1) "deeds"))))]
def N_Account_row : List Str := ["self"]
def c_Account_row : List Sx := [(.ret (.bi .list [(.att "Account" (.var 0) "deeds")]))]
def N_write_row : List Str := ["account", "deed", "thing"]
def c_write_row : List Sx := [(.ret (.join (.str "") (.lc (.itO "Account" "deeds" (.var 0)) (.one 1) [] (.bin .add (.join (.str " ") (.lc (.var 1) (.one 2) [] (.bi .str [(.var 2)]))) (.str "\n")))))]
def N_read_row : List Str := ["text", "row", "lines", "open_end", "index", "line", "deed"]
def c_read_row : List Sx := [(.asgT (.tup [(.one 2), (.one 3)]) (.call "checked_lines" [(.var 0)] 0)), (.asg 1 (.lst [])), (.for_ (.tup [(.one 4), (.one 5)]) (.bi .enum [(.var 2)]) [(.asg 6 (.call "deed_in" [(.var 5)] 0)), (.ite (.or (.cmp .isn (.var 6) .non) (.cmp .eq (.var 4) (.var 3))) [.never] []), (.app 1 (.var 6))]), (.ret (.call "Account" [(.var 1)] 0))]
end PP

set_option Elab.async false
set_option linter.all false
set_option maxRecDepth 100000
set_option maxHeartbeats 4000000
namespace PP
open PySem L2 TL
/-! ### texts of rows, plainly -/
def numS (n : Int) : Str := Str.ofString (toString n)
def words : Deed → List Str
  | .op m n => ["open", m, numS n]
  | .days n => ["days", numS n]
  | .pause n => ["pause", numS n]
  | .back m => ["back", m]
def lineOf (d : Deed) : Str := Txt.join " " (words d)
def textOf (row : List Deed) : Str := Txt.join "" (row.map fun d => lineOf d ++ "\n")
def small : Deed → Prop
  | .op _ n => n < 10 ^ 100
  | .days n => n < 10 ^ 100
  | .pause n => n < 10 ^ 100
  | .back _ => True
theorem str_tl {x y : Str} (h : tl x = tl y) : x = y := by
  have := map_tl_inj (l := [x]) (m := [y]) (by simp [h])
  simpa using this
theorem numS_tl {n : Int} (h : 0 < n) : tl (numS n) = numL n.toNat := by
  have e : n = ((n.toNat : Nat) : Int) := by omega
  unfold numS
  rw [e]
  exact tl_num _
theorem numS_len {n : Int} (h : 0 < n) (h2 : n < 10 ^ 100) : (numS n).length ≤ 100 := by
  rw [len_tl, numS_tl h]
  refine numL_len (by decide) ?_
  have : ((n.toNat : Nat) : Int) < ((10 ^ 100 : Nat) : Int) := by
    have e : ((n.toNat : Nat) : Int) = n := by omega
    rw [e]
    exact h2
  exact Int.ofNat_lt.mp this
theorem numS_int {n : Int} (h : 0 < n) (h2 : n < 10 ^ 100) : intText? (numS n) = some n := by
  have l := numS_len h h2
  rw [len_tl, numS_tl h] at l
  have e : n = ((n.toNat : Nat) : Int) := by omega
  have q := int_num (n := n.toNat) (Nat.le_trans l (by decide))
  rw [← e] at q
  exact q
theorem markOk_let {m : Str} (h : MarkOk m) : ∀ c ∈ tl m, 97 ≤ c ∧ c ≤ 122 := by
  intro c hc
  have := h.2.2 c hc
  have e : ∀ c ∈ letters.cps.toList, 97 ≤ c ∧ c ≤ 122 := by decide +kernel
  exact e c this
theorem words_free {d : Deed} (h : okD d) : ∀ p ∈ words d, 32 ∉ tl p ∧ 10 ∉ tl p := by
  have hm : ∀ {m : Str}, MarkOk m → 32 ∉ tl m ∧ 10 ∉ tl m := fun h => ⟨fun q => by have := markOk_let h _ q; omega, fun q => by have := markOk_let h _ q; omega⟩
  have hn : ∀ {n : Int}, 0 < n → 32 ∉ tl (numS n) ∧ 10 ∉ tl (numS n) := fun h => by
    rw [numS_tl h]
    exact ⟨numL_free (.inl (by decide)), numL_free (.inl (by decide))⟩
  have hw : ∀ w : Str, w ∈ (["open", "days", "pause", "back"] : List Str) → 32 ∉ tl w ∧ 10 ∉ tl w := by decide +kernel
  intro p hp
  cases d with
  | op m n =>
    simp only [words, List.mem_cons, List.not_mem_nil, or_false] at hp
    rcases hp with rfl | rfl | rfl
    · exact hw _ (by simp)
    · exact hm h.1
    · exact hn h.2
  | days n =>
    simp only [words, List.mem_cons, List.not_mem_nil, or_false] at hp
    rcases hp with rfl | rfl
    · exact hw _ (by simp)
    · exact hn h
  | pause n =>
    simp only [words, List.mem_cons, List.not_mem_nil, or_false] at hp
    rcases hp with rfl | rfl
    · exact hw _ (by simp)
    · exact hn h
  | back m =>
    simp only [words, List.mem_cons, List.not_mem_nil, or_false] at hp
    rcases hp with rfl | rfl
    · exact hw _ (by simp)
    · exact hm h
theorem split_line {d : Deed} (h : okD d) : Txt.split (lineOf d) " " = words d :=
  split_join (y := " ") (s := 32) (S := []) rfl (by decide +kernel) (by cases d <;> simp [words]) fun p hp => (words_free h p hp).1
theorem joinL_mem {S : List Nat} {c : Nat} : ∀ {ps : List (List Nat)}, c ∈ joinL S ps → c ∈ S ∨ ∃ p ∈ ps, c ∈ p
  | [], h => by cases h
  | [p], h => .inr ⟨p, List.mem_singleton.mpr rfl, h⟩
  | p :: q :: r, h => by
    have h' : c ∈ p ++ (S ++ joinL S (q :: r)) := h
    rw [List.mem_append, List.mem_append] at h'
    rcases h' with h' | h' | h'
    · exact .inr ⟨p, List.mem_cons_self, h'⟩
    · exact .inl h'
    · rcases joinL_mem h' with h' | ⟨x, hx, hc⟩
      · exact .inl h'
      · exact .inr ⟨x, List.mem_cons_of_mem _ hx, hc⟩
theorem line_tl (d : Deed) : tl (lineOf d) = joinL [32] ((words d).map tl) := by
  unfold lineOf
  rw [join_eq, tl_join]
  rfl
theorem line_free {d : Deed} (h : okD d) : 10 ∉ tl (lineOf d) := fun q => by
  rw [line_tl] at q
  rcases joinL_mem q with q | ⟨p, hp, hc⟩
  · simp at q
  · obtain ⟨x, hx, rfl⟩ := List.mem_map.mp hp
    exact (words_free h x hx).2 hc
theorem joinL_lines : ∀ ls : List (List Nat), joinL [] (ls.map (· ++ [10])) = joinL [10] (ls ++ [[]])
  | [] => rfl
  | [p] => by simp [joinL]
  | p :: q :: r => by
    have ih := joinL_lines (q :: r)
    show (p ++ [10]) ++ ([] ++ joinL [] ((q :: r).map (· ++ [10]))) = joinL [10] (p :: q :: (r ++ [[]]))
    rw [ih, List.nil_append, List.append_assoc]
    rfl
theorem text_lines (row : List Deed) : textOf row = Txt.join "\n" (row.map lineOf ++ [("" : Str)]) := by
  refine str_tl ?_
  unfold textOf
  rw [join_eq, join_eq, tl_join, tl_join, List.map_map, List.map_append, List.map_map]
  have e := joinL_lines (row.map fun d => tl (lineOf d))
  rw [List.map_map] at e
  have e2 : (row.map (tl ∘ fun d => lineOf d ++ "\n")) = row.map ((fun x => x ++ [10]) ∘ fun d => tl (lineOf d)) := by
    apply List.map_congr_left
    intro d _
    show tl (lineOf d ++ "\n") = _
    rw [tl_append]
    rfl
  rw [e2]
  exact e
theorem split_text {row : List Deed} (h : ∀ d ∈ row, okD d) : Txt.split (textOf row) "\n" = row.map lineOf ++ [("" : Str)] := by
  rw [text_lines]
  refine split_join (y := "\n") (s := 10) (S := []) rfl (by decide +kernel) (by simp) fun p hp => ?_
  rcases List.mem_append.mp hp with hp | hp
  · obtain ⟨d, hd, rfl⟩ := List.mem_map.mp hp
    exact line_free (h d hd)
  · simp at hp
    subst hp
    decide +kernel
/-- two rows with one text are one row -/
theorem words_inj {d e : Deed} (hd : okD d) (he : okD e) (h : words d = words e) : d = e := by
  have hn : ∀ {m n : Int}, 0 < m → 0 < n → numS m = numS n → m = n := fun h1 h2 q => by
    have := congrArg tl q
    rw [numS_tl h1, numS_tl h2] at this
    have := numL_inj this
    omega
  cases d <;> cases e <;> simp only [words, List.cons.injEq, and_true] at h
  all_goals first
    | (obtain ⟨_, rfl, h⟩ := h; rw [hn hd.2 he.2 h]; done)
    | (obtain ⟨_, h⟩ := h; rw [hn hd he h]; done)
    | (obtain ⟨_, h⟩ := h; rw [h]; done)
    | (exact absurd h.1 (by decide))
    | (exact absurd h.2.2 (by simp))
    | skip
theorem map_inj_on {α β : Type} {f : α → β} : ∀ {l m : List α}, (∀ a ∈ l, ∀ b ∈ m, f a = f b → a = b) → l.map f = m.map f → l = m
  | [], [], _, _ => rfl
  | [], _ :: _, _, h => by cases h
  | _ :: _, [], _, h => by cases h
  | a :: l, b :: m, hi, h => by
    rw [List.map_cons, List.map_cons, List.cons.injEq] at h
    rw [hi a List.mem_cons_self b List.mem_cons_self h.1, map_inj_on (fun a ha b hb => hi a (List.mem_cons_of_mem _ ha) b (List.mem_cons_of_mem _ hb)) h.2]
theorem text_inj {r q : List Deed} (hr : ∀ d ∈ r, okD d) (hq : ∀ d ∈ q, okD d) (h : textOf r = textOf q) : r = q := by
  have e := split_text hr
  rw [h, split_text hq] at e
  have e2 : q.map lineOf = r.map lineOf := List.append_cancel_right e
  refine map_inj_on (f := lineOf) (fun a ha b hb z => ?_) e2.symm
  refine words_inj (hr a ha) (hq b hb) ?_
  rw [← split_line (hr a ha), ← split_line (hq b hb), z]
theorem line_len {d : Deed} (h : okD d) (hs : small d) : (lineOf d).length ≤ 130 := by
  rw [len_tl, line_tl]
  have hm : ∀ {m : Str}, MarkOk m → (tl m).length ≤ 8 := fun h => by have := h.2.1; rw [len_tl] at this; exact this
  have hn : ∀ {n : Int}, 0 < n → n < 10 ^ 100 → (tl (numS n)).length ≤ 100 := fun h1 h2 => by have := numS_len h1 h2; rw [len_tl] at this; exact this
  have w1 : (tl ("open" : Str)).length = 4 := by decide +kernel
  have w2 : (tl ("days" : Str)).length = 4 := by decide +kernel
  have w3 : (tl ("pause" : Str)).length = 5 := by decide +kernel
  have w4 : (tl ("back" : Str)).length = 4 := by decide +kernel
  cases d with
  | op m n =>
    have := hm h.1; have := hn h.2 hs
    simp only [words, List.map_cons, List.map_nil, joinL, List.length_append, w1, List.length_singleton]
    omega
  | days n =>
    have := hn h hs
    simp only [words, List.map_cons, List.map_nil, joinL, List.length_append, w2, List.length_singleton]
    omega
  | pause n =>
    have := hn h hs
    simp only [words, List.map_cons, List.map_nil, joinL, List.length_append, w3, List.length_singleton]
    omega
  | back m =>
    have := hm h
    simp only [words, List.map_cons, List.map_nil, joinL, List.length_append, w4, List.length_singleton]
    omega
theorem lines_sum : ∀ {row : List Deed}, (∀ d ∈ row, okD d ∧ small d) → ((row.map fun d => lineOf d ++ "\n").map (·.length)).sum ≤ 131 * row.length
  | [], _ => Nat.le_refl _
  | d :: r, h => by
    have ih := lines_sum (row := r) fun d hd => h d (List.mem_cons_of_mem _ hd)
    have := line_len (h d List.mem_cons_self).1 (h d List.mem_cons_self).2
    have e : (lineOf d ++ "\n").length = (lineOf d).length + 1 := by
      rw [len_tl, len_tl, tl_append, List.length_append]; rfl
    simp only [List.map_cons, List.sum_cons, List.length_cons, e]
    omega
theorem joinL_nil_len : ∀ ps : List (List Nat), (joinL [] ps).length = (ps.map (·.length)).sum
  | [] => rfl
  | [p] => by simp [joinL]
  | p :: q :: r => by
    show (p ++ ([] ++ joinL [] (q :: r))).length = _
    rw [List.length_append, List.nil_append, joinL_nil_len (q :: r)]
    simp
theorem text_len {row : List Deed} (h : ∀ d ∈ row, okD d ∧ small d) : (textOf row).length ≤ 131 * row.length := by
  have := lines_sum h
  unfold textOf
  rw [len_tl, join_eq, tl_join]
  have e : tl ("" : Str) = [] := rfl
  rw [e, joinL_nil_len, List.map_map]
  refine Nat.le_trans (Nat.le_of_eq ?_) this
  congr 1
end PP

set_option Elab.async false
set_option linter.all false
set_option maxRecDepth 100000
set_option maxHeartbeats 4000000
namespace PP
open PySem L2 TL
/-! ### == of rows, repr of rows -/
theorem strOk_mark {m : Str} (h : MarkOk m) : PyData.strOk m = true := by
  unfold PyData.strOk
  rw [Array.all_eq_true']
  intro c hc
  have := markOk_let h c (Array.mem_toList_iff.mpr hc)
  simp; omega
theorem deed_lay {d : Deed} (h : okD d) : (pd d.d).canLay0 = true ∧ (pd d.d).depth = 1 := by
  have w1 : PyData.strOk ("open" : Str) = true := by decide +kernel
  have w2 : PyData.strOk ("days" : Str) = true := by decide +kernel
  have w3 : PyData.strOk ("pause" : Str) = true := by decide +kernel
  have w4 : PyData.strOk ("back" : Str) = true := by decide +kernel
  cases d with
  | op m n => simp [Deed.d, pd, pds, PyData.canLay0, PyData.canLayAll0, PyData.depth, PyData.depthAll, w1, strOk_mark h.1]
  | days n => simp [Deed.d, pd, pds, PyData.canLay0, PyData.canLayAll0, PyData.depth, PyData.depthAll, w2]
  | pause n => simp [Deed.d, pd, pds, PyData.canLay0, PyData.canLayAll0, PyData.depth, PyData.depthAll, w3]
  | back m => simp [Deed.d, pd, pds, PyData.canLay0, PyData.canLayAll0, PyData.depth, PyData.depthAll, w4, strOk_mark (show MarkOk m from h)]
theorem deeds_lay : ∀ {row : List Deed}, (∀ d ∈ row, okD d) → PyData.canLayAll0 (pds (row.map Deed.d)) = true ∧ PyData.depthAll (pds (row.map Deed.d)) ≤ 1
  | [], _ => ⟨rfl, Nat.zero_le _⟩
  | d :: r, h => by
    obtain ⟨h1, h2⟩ := deeds_lay (row := r) fun d hd => h d (List.mem_cons_of_mem _ hd)
    obtain ⟨h3, h4⟩ := deed_lay (h d List.mem_cons_self)
    refine ⟨?_, ?_⟩
    · simp only [List.map_cons, pds, PyData.canLayAll0, h3, h1, Bool.and_self]
    · simp only [List.map_cons, pds, PyData.depthAll, h4]
      omega
theorem deeds_shaped {row : List Deed} (h : ∀ d ∈ row, okD d) : SeqAt.shaped (pd (.tup (row.map Deed.d))) = true := by
  obtain ⟨h1, h2⟩ := deeds_lay h
  unfold SeqAt.shaped
  rw [Bool.and_eq_true]
  refine ⟨h1, decide_eq_true ?_⟩
  show PyData.depthAll (pds (row.map Deed.d)) + 1 ≤ 64
  omega
theorem deed_eqv (d e : Deed) : PyData.eqv (pd d.d) (pd e.d) = decide (d = e) := by
  cases d <;> cases e <;> simp [Deed.d, pd, pds, PyData.eqv, PyData.eqvAll]
  all_goals first
    | decide +kernel
    | (rename_i a b c f; by_cases h1 : a = c <;> by_cases h2 : b = f <;> simp [h1, h2])
    | (rename_i a b; by_cases h1 : a = b <;> simp [h1] <;> decide +kernel)
    | (rename_i a b; by_cases h1 : a = b <;> simp [h1])
    | skip
theorem deeds_eqv : ∀ r q : List Deed, PyData.eqvAll (pds (r.map Deed.d)) (pds (q.map Deed.d)) = decide (r = q)
  | [], [] => rfl
  | [], _ :: _ => rfl
  | _ :: _, [] => rfl
  | d :: r, e :: q => by
    simp only [List.map_cons, pds, PyData.eqvAll, deed_eqv, deeds_eqv r q]
    by_cases h1 : d = e <;> by_cases h2 : r = q <;> simp [h1, h2]
def conEq : Con := fun as c K _ => ∃ r q, as = [some (accD r), some (accD q)] ∧ ValidRow r ∧ ValidRow q ∧ K (.fz (.bl (decide (r = q)))) c
theorem p_eq {Γ : Env} : Impl Γ 2 conEq c_Account___eq__ := by
  intro as c K h
  obtain ⟨r, q, rfl, hr, hq, hk⟩ := h
  rw [← deeds_eqv] at hk
  conv => whnf
  refine And.intro rfl ?_
  conv => whnf
  refine And.intro rfl ?_
  conv => whnf
  refine And.intro rfl ?_
  conv => whnf
  refine And.intro ?_ hk
  show (SeqAt.shaped (pd (.tup (r.map Deed.d))) && SeqAt.shaped (pd (.tup (q.map Deed.d)))) = true
  rw [deeds_shaped hr.ok, deeds_shaped hq.ok]
  rfl
def conRowOf : Con := fun as c K _ => ∃ r, as = [some (accD r)] ∧ K (.nl (r.map Deed.d)) c
theorem p_rowOf {Γ : Env} : Impl Γ 1 conRowOf c_Account_row := by
  intro as c K h
  obtain ⟨r, rfl, hk⟩ := h
  conv => whnf
  refine And.intro rfl ?_
  conv => whnf
  exact hk
def conSame : Con := fun as c K _ => ∃ d e, as = [some d, some e] ∧ (reprOk d = true ∧ (ps d).shown.length ≤ sizeLine) ∧ (reprOk e = true ∧ (ps e).shown.length ≤ sizeLine) ∧ K (.fz (.bl (decide (V.str (ps d).shown = V.str (ps e).shown)))) c
theorem p_same {Γ : Env} : Impl Γ 2 conSame c__law_same := by
  intro as c K h
  obtain ⟨d, e, rfl, hd, he, hk⟩ := h
  conv => whnf
  refine And.intro hd ?_
  conv => whnf
  refine And.intro he ?_
  conv => whnf
  exact hk
/-! ### repr of rows, of texts -/
theorem deeds_show : ∀ {row : List Deed}, (∀ d ∈ row, okD d ∧ small d) → psOks (row.map Deed.d) = true ∧ PyData.showableAll (pss (row.map Deed.d)) = true ∧ PyData.depthAll (pss (row.map Deed.d)) ≤ 1 ∧ PyData.hasDictAll (pss (row.map Deed.d)) = false
  | [], _ => ⟨rfl, rfl, Nat.zero_le _, rfl⟩
  | d :: r, h => by
    obtain ⟨h1, h2, h3, h4⟩ := deeds_show (row := r) fun d hd => h d (List.mem_cons_of_mem _ hd)
    obtain ⟨ho, hs⟩ := h d List.mem_cons_self
    have hn : ∀ {n : Int}, 0 < n → n < 10 ^ 100 → n.natAbs.log2 < 1920 := fun {n} p q => by
      have e : n.natAbs < 2 ^ 1920 := by
        have e1 : n.natAbs < 10 ^ 100 := by
          have : ((n.natAbs : Nat) : Int) < ((10 ^ 100 : Nat) : Int) := by
            have e : ((n.natAbs : Nat) : Int) = n := by omega
            rw [e]; exact q
          exact Int.ofNat_lt.mp this
        exact Nat.lt_trans e1 (by decide +kernel)
      have ne : n.natAbs ≠ 0 := by omega
      exact (Nat.log2_lt ne).mpr e
    have key : psOk d.d = true ∧ (ps d.d).showable = true ∧ (ps d.d).depth = 1 ∧ (ps d.d).hasDict = false := by
      cases d with
      | op m n => simp [Deed.d, psOk, psOks, ps, pss, PyData.showable, PyData.showableAll, PyData.depth, PyData.depthAll, PyData.hasDict, PyData.hasDictAll, hn ho.2 hs]
      | days n => simp [Deed.d, psOk, psOks, ps, pss, PyData.showable, PyData.showableAll, PyData.depth, PyData.depthAll, PyData.hasDict, PyData.hasDictAll, hn ho hs]
      | pause n => simp [Deed.d, psOk, psOks, ps, pss, PyData.showable, PyData.showableAll, PyData.depth, PyData.depthAll, PyData.hasDict, PyData.hasDictAll, hn ho hs]
      | back n => simp [Deed.d, psOk, psOks, ps, pss, PyData.showable, PyData.showableAll, PyData.depth, PyData.depthAll, PyData.hasDict, PyData.hasDictAll]
    obtain ⟨k1, k2, k3, k4⟩ := key
    simp only [List.map_cons, psOks, pss, PyData.showableAll, PyData.depthAll, PyData.hasDictAll, k1, k2, k3, k4, h1, h2, h4]
    refine ⟨rfl, rfl, ?_, rfl⟩
    omega
end PP

set_option Elab.async false
set_option linter.all false
set_option maxRecDepth 100000
set_option maxHeartbeats 4000000
namespace PP
open PySem L2 TL
theorem sizeLine_big : 16000000 ≤ sizeLine := by decide
theorem num_shown {n : Int} (h : 0 < n) (h2 : n < 10 ^ 100) : (PyData.shown (.int n)).length ≤ 100 := numS_len h h2
theorem deeds_bulk : ∀ {row : List Deed}, (∀ d ∈ row, okD d ∧ small d) → PyData.leavesShortAll 110 (pss (row.map Deed.d)) = true ∧ PyData.bulkAll (pss (row.map Deed.d)) ≤ 20 * row.length
  | [], _ => ⟨rfl, Nat.le_refl _⟩
  | d :: r, h => by
    obtain ⟨h1, h2⟩ := deeds_bulk (row := r) fun d hd => h d (List.mem_cons_of_mem _ hd)
    obtain ⟨ho, hs⟩ := h d List.mem_cons_self
    have hw : ∀ w : Str, w ∈ (["open", "days", "pause", "back"] : List Str) → (w.cps.toList.all fun c => decide (c < 16 ^ 8)) = true ∧ w.cps.size ≤ 5 := by decide +kernel
    have hm : ∀ {m : Str}, MarkOk m → (m.cps.toList.all fun c => decide (c < 16 ^ 8)) = true ∧ m.cps.size ≤ 8 := fun h => by
      refine ⟨?_, h.2.1⟩
      rw [List.all_eq_true]
      intro c hc
      have := markOk_let h c hc
      exact decide_eq_true (by omega)
    have hn : ∀ {n : Int}, 0 < n → n < 10 ^ 100 → (PyData.shown (.int n)).length ≤ 110 := fun p q => Nat.le_trans (num_shown p q) (by decide)
    have key : (ps d.d).leavesShort 110 = true ∧ (ps d.d).bulk ≤ 18 := by
      cases d with
      | op m n =>
        have := hw "open" (by simp)
        have := hm ho.1
        simp only [Deed.d, ps, pss, PyData.leavesShort, PyData.leavesShortAll, PyData.bulk, PyData.bulkAll, hn ho.2 hs, (hm ho.1).1, (hw "open" (by simp)).1, decide_true, Bool.and_self, true_and]
        omega
      | days n =>
        have := hw "days" (by simp)
        simp only [Deed.d, ps, pss, PyData.leavesShort, PyData.leavesShortAll, PyData.bulk, PyData.bulkAll, hn ho hs, (hw "days" (by simp)).1, decide_true, Bool.and_self, true_and]
        omega
      | pause n =>
        have := hw "pause" (by simp)
        simp only [Deed.d, ps, pss, PyData.leavesShort, PyData.leavesShortAll, PyData.bulk, PyData.bulkAll, hn ho hs, (hw "pause" (by simp)).1, decide_true, Bool.and_self, true_and]
        omega
      | back m =>
        have := hw "back" (by simp)
        have := hm (show MarkOk m from ho)
        simp only [Deed.d, ps, pss, PyData.leavesShort, PyData.leavesShortAll, PyData.bulk, PyData.bulkAll, (hm (show MarkOk m from ho)).1, (hw "back" (by simp)).1, decide_true, Bool.and_self, true_and]
        omega
    obtain ⟨k1, k2⟩ := key
    simp only [List.map_cons, pss, PyData.leavesShortAll, PyData.bulkAll, k1, h1, List.length_cons]
    refine ⟨rfl, ?_⟩
    omega
theorem row_repr {row : List Deed} (h : ∀ d ∈ row, okD d ∧ small d) (hl : row.length ≤ 1000) : reprOk (.lst (row.map Deed.d)) = true ∧ (ps (.lst (row.map Deed.d))).shown.length ≤ sizeLine := by
  obtain ⟨a1, a2, a3, a4⟩ := deeds_show h
  obtain ⟨b1, b2⟩ := deeds_bulk h
  refine ⟨?_, ?_⟩
  · unfold reprOk
    simp only [psOk, ps, PyData.hasDict, PyData.showable, PyData.depth, a1, a2, a4, Bool.true_and, Bool.not_false, Bool.true_or, decide_eq_true_eq]
    omega
  · have q := PyData.shown_le_bulk 110 (by decide) (ps (.lst (row.map Deed.d))) b1
    have e : (ps (.lst (row.map Deed.d))).bulk = PyData.bulkAll (pss (row.map Deed.d)) := rfl
    rw [e] at q
    have := sizeLine_big
    omega
theorem text_repr {x : Str} (h : x.length ≤ 1000000) (hc : ∀ c ∈ x.cps.toList, c < 16 ^ 8) : reprOk (.str x) = true ∧ (ps (.str x)).shown.length ≤ sizeLine := by
  refine ⟨rfl, ?_⟩
  have := StrLaws.reprText_len x hc
  have := sizeLine_big
  show (reprText x).length ≤ sizeLine
  omega
theorem text_small {row : List Deed} (h : ∀ d ∈ row, okD d) : ∀ c ∈ (textOf row).cps.toList, c < 16 ^ 8 := by
  intro c hc
  have e : (16 : Nat) ^ 8 = 4294967296 := by decide
  have hc' : c ∈ joinL (tl ("\n" : Str)) ((row.map lineOf ++ [("" : Str)]).map tl) := by
    rw [← tl_join, ← join_eq, ← text_lines]; exact hc
  rcases joinL_mem hc' with q | ⟨p, hp, q⟩
  · have : c = 10 := by simpa using (show c ∈ [10] from q)
    omega
  · obtain ⟨x, hx, rfl⟩ := List.mem_map.mp hp
    rcases List.mem_append.mp hx with hx | hx
    · obtain ⟨d, hd, rfl⟩ := List.mem_map.mp hx
      rw [line_tl] at q
      rcases joinL_mem q with q' | ⟨p, hp, q'⟩
      · have : c = 32 := by simpa using q'
        omega
      · clear q
        have q := q'
        clear q'
        obtain ⟨w, hw, rfl⟩ := List.mem_map.mp hp
        have hwd : ∀ w : Str, w ∈ (["open", "days", "pause", "back"] : List Str) → ∀ c ∈ tl w, c < 200 := by decide +kernel
        have hm : ∀ {m : Str}, MarkOk m → c ∈ tl m → c < 4294967296 := fun h q => by have := markOk_let h c q; omega
        have hn : ∀ {n : Int}, 0 < n → c ∈ tl (numS n) → c < 4294967296 := fun h q => by
          rw [numS_tl h] at q
          have := numL_digits _ c q
          omega
        rw [e]
        have ho := h d hd
        cases d with
        | op m n =>
          simp only [words, List.mem_cons, List.not_mem_nil, or_false] at hw
          rcases hw with rfl | rfl | rfl
          · have := hwd "open" (by simp) c q; omega
          · exact hm ho.1 q
          · exact hn ho.2 q
        | days n =>
          simp only [words, List.mem_cons, List.not_mem_nil, or_false] at hw
          rcases hw with rfl | rfl
          · have := hwd "days" (by simp) c q; omega
          · exact hn ho q
        | pause n =>
          simp only [words, List.mem_cons, List.not_mem_nil, or_false] at hw
          rcases hw with rfl | rfl
          · have := hwd "pause" (by simp) c q; omega
          · exact hn ho q
        | back m =>
          simp only [words, List.mem_cons, List.not_mem_nil, or_false] at hw
          rcases hw with rfl | rfl
          · have := hwd "back" (by simp) c q; omega
          · exact hm ho q
    · have hx : x = "" := by simpa using hx
      subst hx
      cases q
/-! ### write_row -/
theorem num_log {n : Int} (p : 0 < n) (q : n < 10 ^ 100) : n.natAbs.log2 < 1920 := by
  have e : n.natAbs < 2 ^ 1920 := by
    have e1 : n.natAbs < 10 ^ 100 := by
      have : ((n.natAbs : Nat) : Int) < ((10 ^ 100 : Nat) : Int) := by
        have e : ((n.natAbs : Nat) : Int) = n := by omega
        rw [e]; exact q
      exact Int.ofNat_lt.mp this
    exact Nat.lt_trans e1 (by decide +kernel)
  have ne : n.natAbs ≠ 0 := by omega
  exact (Nat.log2_lt ne).mpr e
theorem join_fits {ys : List Str} (h : ∀ y ∈ ys, y.length ≤ 1000) (hl : ys.length ≤ 1000) : (ys.map (·.length)).sum + ys.length * (" " : Str).length ≤ 16777216 := by
  have e : (" " : Str).length = 1 := by decide
  have : ∀ {l : List Str}, (∀ y ∈ l, y.length ≤ 1000) → (l.map (·.length)).sum ≤ 1000 * l.length := by
    intro l
    induction l with
    | nil => intro _; exact Nat.le_refl _
    | cons a l ih =>
      intro h
      have := ih fun y hy => h y (List.mem_cons_of_mem _ hy)
      have := h a List.mem_cons_self
      simp only [List.map_cons, List.sum_cons, List.length_cons]
      omega
  have := this h
  rw [e]
  omega
theorem words_len {d : Deed} (h : okD d) (hs : small d) : ∀ y ∈ words d, y.length ≤ 1000 := by
  have hw : ∀ w : Str, w ∈ (["open", "days", "pause", "back"] : List Str) → w.length ≤ 1000 := by decide +kernel
  have hm : ∀ {m : Str}, MarkOk m → m.length ≤ 1000 := fun h => Nat.le_trans h.2.1 (by decide)
  have hn : ∀ {n : Int}, 0 < n → n < 10 ^ 100 → (numS n).length ≤ 1000 := fun p q => Nat.le_trans (numS_len p q) (by decide)
  intro y hy
  cases d with
  | op m n =>
    simp only [words, List.mem_cons, List.not_mem_nil, or_false] at hy
    rcases hy with rfl | rfl | rfl
    · exact hw _ (by simp)
    · exact hm h.1
    · exact hn h.2 hs
  | days n =>
    simp only [words, List.mem_cons, List.not_mem_nil, or_false] at hy
    rcases hy with rfl | rfl
    · exact hw _ (by simp)
    · exact hn h hs
  | pause n =>
    simp only [words, List.mem_cons, List.not_mem_nil, or_false] at hy
    rcases hy with rfl | rfl
    · exact hw _ (by simp)
    · exact hn h hs
  | back m =>
    simp only [words, List.mem_cons, List.not_mem_nil, or_false] at hy
    rcases hy with rfl | rfl
    · exact hw _ (by simp)
    · exact hm h
theorem add_fits {x : Str} (h : x.length ≤ 130) : x.length + ("\n" : Str).length ≤ sizeLine := by
  have e : ("\n" : Str).length = 1 := by decide
  have := sizeLine_big
  omega
theorem wr_lc {Γ : Env} {o0 : Option P} {c : Stm} {Kc : List D → S → Prop} {e : XC} : ∀ (l : List Deed) (acc : List D) (o1 o2 : Option P), isIo o1 = false → isIo o2 = false → (∀ d ∈ l, okD d ∧ small d) → (∀ o1 o2, isIo o1 = false → isIo o2 = false → Kc (acc ++ l.map (fun d => D.str (lineOf d ++ "\n"))) ⟨[o0, o1, o2], c⟩) →
    lcGo (.one 1) (evTs Γ []) (toD (evP Γ (.bin .add (.join (.str " ") (.lc (.var 1) (.one 2) [] (.bi .str [(.var 2)]))) (.str "\n"))).r) (l.map Deed.d) acc ⟨[o0, o1, o2], c⟩ Kc e := by
  intro l
  induction l with
  | nil =>
    intro acc o1 o2 i1 i2 _ hk
    have q := hk o1 o2 i1 i2
    rw [List.map_nil, List.append_nil] at q
    exact q
  | cons d l ih =>
    intro acc o1 o2 i1 i2 hd hk
    obtain ⟨ho, hs⟩ := hd d List.mem_cons_self
    have ll := line_len ho hs
    have sb := sizeLine_big
    have fin : ∀ o1 o2, isIo o1 = false → isIo o2 = false → lcGo (.one 1) (evTs Γ []) (toD (evP Γ (.bin .add (.join (.str " ") (.lc (.var 1) (.one 2) [] (.bi .str [(.var 2)]))) (.str "\n"))).r) (l.map Deed.d) (acc ++ [D.str (lineOf d ++ "\n")]) ⟨[o0, o1, o2], c⟩ Kc e := fun o1 o2 i1 i2 => by
      refine ih _ o1 o2 i1 i2 (fun d h => hd d (List.mem_cons_of_mem _ h)) fun o1 o2 i1 i2 => ?_
      rw [List.append_assoc]
      exact hk o1 o2 i1 i2
    refine And.intro (show (!isIo o1 && true) = true by rw [i1]; rfl) ?_
    conv => whnf
    refine And.intro rfl ?_
    cases d with
    | op m n =>
      conv => whnf
      refine And.intro (show (!isIo o2 && true) = true by rw [i2]; rfl) ?_
      conv => whnf
      refine And.intro rfl ?_
      conv => whnf
      refine And.intro rfl ?_
      conv => whnf
      refine And.intro rfl ?_
      conv => whnf
      refine And.intro rfl ?_
      conv => whnf
      refine And.intro rfl ?_
      conv => whnf
      refine And.intro (num_log ho.2 hs) ?_
      conv => whnf
      refine And.intro rfl ?_
      conv => whnf
      refine And.intro (show _ from join_fits (ys := words (Deed.op m n)) (words_len ho hs) (by simp [words])) ?_
      conv => whnf
      refine And.intro (add_fits ll) ?_
      exact fin _ _ rfl rfl
    | days n =>
      conv => whnf
      refine And.intro (show (!isIo o2 && true) = true by rw [i2]; rfl) ?_
      conv => whnf
      refine And.intro rfl ?_
      conv => whnf
      refine And.intro rfl ?_
      conv => whnf
      refine And.intro rfl ?_
      conv => whnf
      refine And.intro (num_log ho hs) ?_
      conv => whnf
      refine And.intro rfl ?_
      conv => whnf
      refine And.intro (show _ from join_fits (ys := words (Deed.days n)) (words_len ho hs) (by simp [words])) ?_
      conv => whnf
      refine And.intro (add_fits ll) ?_
      exact fin _ _ rfl rfl
    | pause n =>
      conv => whnf
      refine And.intro (show (!isIo o2 && true) = true by rw [i2]; rfl) ?_
      conv => whnf
      refine And.intro rfl ?_
      conv => whnf
      refine And.intro rfl ?_
      conv => whnf
      refine And.intro rfl ?_
      conv => whnf
      refine And.intro (num_log ho hs) ?_
      conv => whnf
      refine And.intro rfl ?_
      conv => whnf
      refine And.intro (show _ from join_fits (ys := words (Deed.pause n)) (words_len ho hs) (by simp [words])) ?_
      conv => whnf
      refine And.intro (add_fits ll) ?_
      exact fin _ _ rfl rfl
    | back m =>
      conv => whnf
      refine And.intro (show (!isIo o2 && true) = true by rw [i2]; rfl) ?_
      conv => whnf
      refine And.intro rfl ?_
      conv => whnf
      refine And.intro rfl ?_
      conv => whnf
      refine And.intro rfl ?_
      conv => whnf
      refine And.intro rfl ?_
      conv => whnf
      refine And.intro (show _ from join_fits (ys := words (Deed.back m)) (words_len ho hs) (by simp [words])) ?_
      conv => whnf
      refine And.intro (add_fits ll) ?_
      exact fin _ _ rfl rfl
def conWrite : Con := fun as c K _ => ∃ row, as = [some (accD row)] ∧ (∀ d ∈ row, okD d ∧ small d) ∧ row.length ≤ 1000 ∧ K (.fz (.str (textOf row))) c
theorem p_write {Γ : Env} : Impl Γ 3 conWrite c_write_row := by
  intro as c K h
  obtain ⟨row, rfl, hr, hl, hk⟩ := h
  conv => whnf
  refine And.intro rfl ?_
  conv => whnf
  refine wr_lc row [] none none rfl rfl hr fun o1 o2 i1 i2 => ?_
  rw [List.nil_append]
  refine And.intro (show (!isIo o1 && true) = true by rw [i1]; rfl) ?_
  conv => whnf
  have e : (row.map fun d => D.str (lineOf d ++ "\n")) = (row.map fun d => lineOf d ++ "\n").map D.str := by rw [List.map_map]; rfl
  rw [e, asStrs_map]
  refine And.intro ?_ hk
  have := lines_sum hr
  have e0 : ("" : Str).length = 0 := by decide
  rw [e0]
  omega
end PP

set_option Elab.async false
set_option linter.all false
set_option maxRecDepth 100000
set_option maxHeartbeats 4000000
namespace PP
open PySem L2 TL
/-! ### is_number_text, checked_lines -/
def digits : Str := "0123456789"
def inDig (c : Nat) : Bool := decide (c ∈ digits.cps.toList)
def numT (x : Str) : Bool := match x.cps.toList with
  | [] => false
  | c :: r => !decide (c = 48) && (c :: r).all inDig
theorem at0 {α : Type} (a : α) (l : List α) : atI (a :: l) 0 = some a := by
  simp [atI, ixN]
def conNumT : Con := fun as c K _ => ∃ x, as = [some (.str x)] ∧ x.length ≤ sizeLine ∧ K (.fz (.bl (numT x))) c
theorem p_numT {Γ : Env} (h2 : Γ.cst "DIGITS" = some (.str digits)) : Impl Γ 2 conNumT c_is_number_text := by
  intro as c K h
  obtain ⟨x, rfl, hx, hk⟩ := h
  obtain ⟨⟨l⟩⟩ := x
  cases l with
  | nil =>
    conv => whnf
    exact hk
  | cons a l =>
    conv => whnf
    refine And.intro hx ?_
    rw [at0 a l]
    conv => whnf
    have e1 : decide (V.str ⟨#[a]⟩ = V.str (Str.ofString "0")) = decide (a = 48) := by
      have e : Str.ofString "0" = ⟨#[48]⟩ := by decide +kernel
      rw [e]
      by_cases h : a = 48
      · subst h; simp
      · rw [decide_eq_false h, decide_eq_false]
        intro q
        injection q with q
        injection q with q
        injection q with q
        injection q with q q2
        exact h q
    have e1' : (if true = true then !decide (toV (R.fz (D.str ⟨#[a]⟩)).d = toV (R.fz (D.str (Str.ofString "0"))).d) else decide (toV (R.fz (D.str ⟨#[a]⟩)).d = toV (R.fz (D.str (Str.ofString "0"))).d)) = !decide (a = 48) := by
      rw [if_pos rfl]
      exact congrArg not e1
    rw [e1']
    have hk' : K (R.fz (D.bl (!decide (a = 48) && (a :: l).all inDig))) c := hk
    cases q1 : decide (a = 48) with
    | true => rw [q1] at hk'; exact hk'
    | false =>
      rw [q1, Bool.not_false, Bool.true_and] at hk'
      conv => whnf
      refine And.intro hx ?_
      refine lc_ind (α := D) (W := fun xs acc s => ∃ (l1 l2 : List Nat) (o : Option P), xs = l2.map (fun c => D.str ⟨#[c]⟩) ∧ acc = (l1.map inDig).map D.bl ∧ l1 ++ l2 = a :: l ∧ isIo o = false ∧ s = ⟨[some (.fz (.str ⟨⟨a :: l⟩⟩)), o], c⟩) (fun acc s h => ?_) (fun y xs acc s h ih => ?_) _ _ _ ⟨[], a :: l, none, rfl, rfl, rfl, rfl, rfl⟩
      · obtain ⟨l1, l2, o, e, rfl, e3, ho, rfl⟩ := h
        cases l2 with
        | cons _ _ => cases e
        | nil =>
          rw [List.append_nil] at e3
          subst e3
          refine And.intro ?_ ?_
          · show (!isIo o && true) = true
            rw [ho]; rfl
          conv => whnf
          rw [asBls_map]
          conv => whnf
          have e4 : ((a :: l).map inDig).all id = (a :: l).all inDig := by rw [List.all_map]; rfl
          rw [e4]
          exact hk'
      · obtain ⟨l1, l2, o, e, rfl, e3, ho, rfl⟩ := h
        cases l2 with
        | nil => cases e
        | cons z l2 =>
          cases e
          refine And.intro (show (!isIo o && true) = true by rw [ho]; rfl) ?_
          refine And.intro rfl ?_
          conv => whnf
          rw [h2]
          conv => whnf
          refine ih _ _ ⟨l1 ++ [z], l2, some (.fz (.str ⟨#[z]⟩)), rfl, ?_, by rw [← e3]; simp, rfl, rfl⟩
          rw [List.map_append, List.map_append]
          rfl
end PP

set_option Elab.async false
set_option linter.all false
set_option maxRecDepth 100000
set_option maxHeartbeats 4000000
namespace PP
open PySem L2 TL
theorem cut_last (l : List D) (x : D) : cutD (l ++ [x]) none (some (-1)) = l := by
  unfold cutD
  have e1 : HT.sIx (l ++ [x]).length 0 none = 0 := rfl
  have e2 : HT.sIx (l ++ [x]).length (l ++ [x]).length (some (-1)) = l.length := by
    unfold HT.sIx
    simp
    omega
  rw [e1, e2, List.drop_zero, Nat.sub_zero, List.take_append_of_le_length (Nat.le_refl _), List.take_length]
def conLines : Con := fun as c K _ => ∃ (x : Str) (ls : List Str), as = [some (.str x)] ∧ x.length + 2 ≤ sizeLine ∧ Txt.split x "\n" = ls ++ [("" : Str)] ∧ K (.fz (.tup [.lst (ls.map D.str), .non])) c
theorem p_lines {Γ : Env} : Impl Γ 2 conLines c_checked_lines := by
  intro as c K h
  obtain ⟨x, ls, rfl, hx, hs, hk⟩ := h
  have e : (Txt.split x (Str.ofString "\n")).map D.str = ls.map D.str ++ [D.str (Str.ofString "")] := by rw [hs, List.map_append]; rfl
  conv => whnf
  refine And.intro ⟨rfl, hx⟩ ?_
  conv => whnf
  refine And.intro rfl ?_
  conv => whnf
  rw [e, atI_last]
  conv => whnf
  refine And.intro trivial ?_
  conv => whnf
  rw [cut_last]
  exact And.intro (show 2 ≤ sizeLine by decide) hk
theorem mark_true {m : Str} (h : MarkOk m) : isMarkD (.str m) = true := by
  show (decide (1 ≤ m.length) && (decide (m.length ≤ 8) && m.cps.toList.all inLet)) = true
  rw [decide_eq_true h.1, decide_eq_true h.2.1, Bool.true_and, Bool.true_and, List.all_eq_true]
  intro c hc
  unfold inLet
  exact decide_eq_true (h.2.2 c hc)
theorem numL_head {k : Nat} (h : 0 < k) : ∃ c r, numL k = c :: r ∧ c ≠ 48 := by
  induction k using Nat.strongRecOn with
  | _ k ih =>
    by_cases h10 : k < 10
    · exact ⟨48 + k, [], numL_lt h10, by omega⟩
    · obtain ⟨c, r, e, ne⟩ := ih (k / 10) (by omega) (by omega)
      exact ⟨c, r ++ [48 + k % 10], by rw [numL_step (by omega), e]; rfl, ne⟩
theorem numT_num {n : Int} (h : 0 < n) : numT (numS n) = true := by
  have e : (numS n).cps.toList = numL n.toNat := numS_tl h
  obtain ⟨c, r, e2, ne⟩ := numL_head (k := n.toNat) (by omega)
  have al : ∀ x ∈ numL n.toNat, inDig x = true := fun x hx => by
    have q := numL_digits _ x hx
    have : ∀ x : Nat, x < 58 → 48 ≤ x → inDig x = true := by decide +kernel
    exact this x (by omega) q.1
  unfold numT
  rw [e, e2]
  rw [e2] at al
  show (!decide (c = 48) && (c :: r).all inDig) = true
  rw [decide_eq_false ne, List.all_eq_true.mpr al]
  rfl
def conDeedIn : Con := fun as c K _ => ∃ d : Deed, as = [some (.str (lineOf d))] ∧ okD d ∧ small d ∧ K (.fz d.d) c
theorem p_deed_in {Γ : Env} (h1 : Γ.fn "is_mark" = some (.pl conIsMark true [])) (h2 : Γ.fn "is_number_text" = some (.pl conNumT true [])) : Impl Γ 2 conDeedIn c_deed_in := by
  intro as c K h
  obtain ⟨d, rfl, ho, hs, hk⟩ := h
  have ll := line_len ho hs
  have sb := sizeLine_big
  conv => whnf
  refine And.intro ⟨rfl, by show (lineOf d).length + 2 ≤ sizeLine; omega⟩ ?_
  conv => whnf
  refine And.intro rfl ?_
  conv => whnf
  rw [show Txt.split (lineOf d) (Str.ofString " ") = words d from split_line ho]
  cases d with
  | op m n =>
    have hl : (numS n).length ≤ sizeLine := Nat.le_trans (numS_len ho.2 hs) (by omega)
    conv => whnf
    refine And.intro trivial ?_
    conv => whnf
    refine And.intro trivial ?_
    conv => whnf
    rw [h1]
    conv => whnf
    refine ⟨.str m, rfl, rfl, (fun x e => by cases e; exact Nat.le_trans ho.1.2.1 (by omega)), fun _ => rfl, ?_⟩
    rw [mark_true ho.1]
    conv => whnf
    refine And.intro trivial ?_
    conv => whnf
    rw [h2]
    conv => whnf
    refine ⟨numS n, rfl, hl, fun _ => rfl, ?_⟩
    rw [numT_num ho.2]
    conv => whnf
    refine And.intro trivial ?_
    conv => whnf
    rw [numS_int ho.2 hs]
    refine And.intro (Nat.le_trans (numS_len ho.2 hs) (by decide)) ?_
    exact And.intro (show 3 ≤ sizeLine by decide) hk
  | days n =>
    have hl : (numS n).length ≤ sizeLine := Nat.le_trans (numS_len ho hs) (by omega)
    conv => whnf
    refine And.intro trivial ?_
    conv => whnf
    refine And.intro trivial ?_
    conv => whnf
    refine And.intro (show 2 ≤ sizeLine by decide) ?_
    conv => whnf
    refine And.intro ⟨rfl, rfl⟩ ?_
    conv => whnf
    refine And.intro trivial ?_
    conv => whnf
    rw [h2]
    conv => whnf
    refine ⟨numS n, rfl, hl, fun _ => rfl, ?_⟩
    rw [numT_num ho]
    conv => whnf
    refine And.intro trivial ?_
    conv => whnf
    rw [numS_int ho hs]
    refine And.intro (Nat.le_trans (numS_len ho hs) (by decide)) ?_
    exact And.intro (show 2 ≤ sizeLine by decide) hk
  | pause n =>
    have hl : (numS n).length ≤ sizeLine := Nat.le_trans (numS_len ho hs) (by omega)
    conv => whnf
    refine And.intro trivial ?_
    conv => whnf
    refine And.intro trivial ?_
    conv => whnf
    refine And.intro (show 2 ≤ sizeLine by decide) ?_
    conv => whnf
    refine And.intro ⟨rfl, rfl⟩ ?_
    conv => whnf
    refine And.intro trivial ?_
    conv => whnf
    rw [h2]
    conv => whnf
    refine ⟨numS n, rfl, hl, fun _ => rfl, ?_⟩
    rw [numT_num ho]
    conv => whnf
    refine And.intro trivial ?_
    conv => whnf
    rw [numS_int ho hs]
    refine And.intro (Nat.le_trans (numS_len ho hs) (by decide)) ?_
    exact And.intro (show 2 ≤ sizeLine by decide) hk
  | back m =>
    have ho' : MarkOk m := ho
    conv => whnf
    refine And.intro trivial ?_
    conv => whnf
    refine And.intro trivial ?_
    conv => whnf
    refine And.intro (show 2 ≤ sizeLine by decide) ?_
    conv => whnf
    refine And.intro ⟨rfl, rfl⟩ ?_
    conv => whnf
    refine And.intro trivial ?_
    conv => whnf
    refine And.intro trivial ?_
    conv => whnf
    refine And.intro trivial ?_
    conv => whnf
    rw [h1]
    conv => whnf
    refine ⟨.str m, rfl, rfl, (fun x e => by cases e; exact Nat.le_trans ho'.2.1 (by omega)), fun _ => rfl, ?_⟩
    rw [mark_true ho']
    conv => whnf
    refine And.intro trivial ?_
    conv => whnf
    exact And.intro (show 2 ≤ sizeLine by decide) hk
def b_read : List Sx := [(.asg 6 (.call "deed_in" [(.var 5)] 0)), (.ite (.or (.cmp .isn (.var 6) .non) (.cmp .eq (.var 4) (.var 3))) [.never] []), (.app 1 (.var 6))]
def conRead : Con := fun as c K _ => ∃ row, as = [some (.str (textOf row))] ∧ ValidRow row ∧ (∀ d ∈ row, small d) ∧ row.length ≤ 1000 ∧ K (.fz (accD row)) c
theorem dsAre_self : ∀ row : List Deed, DsAre (row.map Deed.d) row
  | [] => .nil
  | d :: r => .cons (.inl (by cases d <;> rfl)) (dsAre_self r)
theorem p_read {Γ : Env} (h1 : Γ.fn "checked_lines" = some (.pl conLines false [])) (h2 : Γ.fn "deed_in" = some (.pl conDeedIn false [])) (h3 : Γ.fn "Account" = some (.pl conMk false [.kt []])) : Impl Γ 7 conRead c_read_row := by
  intro as c K h
  obtain ⟨row, rfl, hv, hs, hl, hk⟩ := h
  have sb := sizeLine_big
  have go : ∀ (r2 r1 : List Deed) (k : Nat) (o4 o5 o6 : Option P) (n : En), r1 ++ r2 = row → isIo o4 = false → isIo o5 = false → isIo o6 = false →
      (∀ o4 o5 o6, n.nx ⟨[some (.fz (.str (textOf row))), some (.own (row.map Deed.d)), some (.fz (.lst ((row.map lineOf).map D.str))), some (.fz .non), o4, o5, o6], c⟩) →
      forGo (.tup [.one 4, .one 5]) (exSs Γ b_read) (enumD k ((r2.map lineOf).map D.str)) n ⟨[some (.fz (.str (textOf row))), some (.own (r1.map Deed.d)), some (.fz (.lst ((row.map lineOf).map D.str))), some (.fz .non), o4, o5, o6], c⟩ := by
    intro r2
    induction r2 with
    | nil =>
      intro r1 k o4 o5 o6 n e i4 i5 i6 hn
      rw [List.append_nil] at e
      subst e
      exact hn _ _ _
    | cons d r2 ih =>
      intro r1 k o4 o5 o6 n e i4 i5 i6 hn
      have hd : d ∈ row := by rw [← e]; simp
      have hln : (r1.map Deed.d).length < sizeLine := by
        have : r1.length < row.length := by rw [← e]; simp
        rw [List.length_map]; omega
      have q := fun o4 o5 o6 (i4 : isIo o4 = false) (i5 : isIo o5 = false) (i6 : isIo o6 = false) => ih (r1 ++ [d]) (k + 1) o4 o5 o6 n (by rw [← e]; simp) i4 i5 i6 hn
      rw [List.map_append] at q
      refine And.intro i4 ?_
      conv => whnf
      refine And.intro i5 ?_
      conv => whnf
      rw [h2]
      conv => whnf
      refine ⟨d, rfl, hv.ok d hd, hs d hd, (fun e => by cases e), ?_⟩
      conv => whnf
      refine And.intro i6 ?_
      cases d with
      | op m a =>
        conv => whnf
        refine And.intro trivial ?_
        conv => whnf
        refine And.intro trivial ?_
        conv => whnf
        refine And.intro hln ?_
        exact q _ _ _ rfl rfl rfl
      | days a =>
        conv => whnf
        refine And.intro trivial ?_
        conv => whnf
        refine And.intro trivial ?_
        conv => whnf
        refine And.intro hln ?_
        exact q _ _ _ rfl rfl rfl
      | pause a =>
        conv => whnf
        refine And.intro trivial ?_
        conv => whnf
        refine And.intro trivial ?_
        conv => whnf
        refine And.intro hln ?_
        exact q _ _ _ rfl rfl rfl
      | back a =>
        conv => whnf
        refine And.intro trivial ?_
        conv => whnf
        refine And.intro trivial ?_
        conv => whnf
        refine And.intro hln ?_
        exact q _ _ _ rfl rfl rfl
  have tl := text_len (row := row) fun d hd => ⟨hv.ok d hd, hs d hd⟩
  conv => whnf
  rw [h1]
  conv => whnf
  refine ⟨textOf row, row.map lineOf, rfl, by omega, split_text hv.ok, (fun e => by cases e), ?_⟩
  conv => whnf
  refine And.intro rfl ?_
  conv => whnf
  refine And.intro rfl ?_
  conv => whnf
  refine And.intro (Nat.zero_le _) ?_
  conv => whnf
  refine And.intro rfl ?_
  conv => whnf
  refine go row [] 0 none none none _ rfl rfl rfl rfl fun o4 o5 o6 => ?_
  conv => whnf
  rw [h3]
  conv => whnf
  exact ⟨row, _, rfl, ⟨_, .inl rfl, dsAre_self row⟩, hv, (fun e => by cases e), hk⟩
end PP

set_option Elab.async false
set_option linter.all false
set_option maxRecDepth 100000
namespace PP
open PySem L2
/-! ### codes (third registry), steps -/
def N_check_markX : List Str := ["mark", "known"]
def c_check_markX : List Sx := [(.ite (.or (.not (.isi (.var 0) [.b "str"])) (.cmp .notin (.var 0) (.var 1))) [(.raise "NoMark" ["mark"] [(.var 0)])] [])]
def N_checked_marksX : List Str := ["marks", "known", "found", "thing"]
def c_checked_marksX : List Sx := [(.ite (.cmp .isn (.var 0) .non) [(.ret (.bi .list [(.var 1)]))] []), (.asg 2 (.lst [])), (.for_ (.one 3) (.var 0) [(.ex (.call "check_mark" [(.var 3), (.var 1)] 0)), (.ite (.cmp .isin (.var 3) (.var 2)) [(.raise "NoMark" ["mark"] [(.var 3)])] []), (.app 2 (.var 3))]), (.ret (.var 2))]
def N_leftX : List Str := ["account", "marks"]
def c_leftX : List Sx := [(.ret (.call "left_of" [(.var 0), (.call "checked_marks" [(.var 1), (.mth "Account" (.var 0) "marks" [] 0)] 0)] 0))]
def N__law_mixed : List Str := ["_law_stream", "_law_things", "_law_rest", "_law_k"]
def c__law_mixed : List Sx := [(.asg 2 (.bi .list [(.var 1)])), (.ret (.lc (.bi .range [(.bi .len [(.var 2)])]) (.one 3) [] (.pop 2 (some (.call "_law_draw" [(.var 0), (.bi .len [(.var 2)])] 0)))))]
def N__law_left : List Str := ["_law_row_here", "_law_some", "_law_number", "_law_deed"]
def c__law_left : List Sx := [(.asg 2 (.int 0)), (.for_ (.one 3) (.var 0) [(.ite (.and (.cmp .eq (.idx (.var 3) (.int 0)) (.str "open")) (.cmp .isin (.idx (.var 3) (.int 1)) (.var 1))) [(.asg 2 (.bin .add (.var 2) (.idx (.var 3) (.int 2))))] []), (.ite (.cmp .eq (.idx (.var 3) (.int 0)) (.str "days")) [(.asg 2 (.bi .max2 [(.int 0), (.bin .sub (.var 2) (.idx (.var 3) (.int 1)))]))] [])]), (.ret (.var 2))]
def N__law_fact : List Str := ["_law_row_here", "_law_some", "_law_most", "_law_mark", "_law_at", "_law_given", "_law_deed", "_law_k"]
def c__law_fact : List Sx := [(.asg 2 (.int 0)), (.for_ (.one 3) (.var 1) [(.asg 4 (.idx (.lc (.bi .enum [(.var 0)]) (.tup [(.one 7), (.one 6)]) [(.and (.cmp .eq (.idx (.var 6) (.int 0)) (.str "open")) (.cmp .eq (.idx (.var 6) (.int 1)) (.var 3)))] (.var 7)) (.int 0))), (.asg 5 (.bi .sum [(.lc (.sli (.var 0) (some (.var 4)) none) (.one 6) [(.and (.cmp .eq (.idx (.var 6) (.int 0)) (.str "open")) (.cmp .isin (.idx (.var 6) (.int 1)) (.var 1)))] (.idx (.var 6) (.int 2)))])), (.asg 2 (.bi .max2 [(.var 2), (.bin .sub (.var 5) (.bi .sum [(.lc (.sli (.var 0) (some (.var 4)) none) (.one 6) [(.cmp .eq (.idx (.var 6) (.int 0)) (.str "days"))] (.idx (.var 6) (.int 1)))]))]))]), (.ret (.var 2))]
end PP

set_option Elab.async false
set_option linter.all false
set_option maxRecDepth 100000
set_option maxHeartbeats 4000000
namespace PP
open PySem L2
/-! ### marks that are checked, with errors -/
def KnownIs (known : D) (ks : List Str) : Prop := known = .lst (ks.map D.str) ∨ ∃ l : List (Str × D), known = .dct (l.map fun p => (Sum.inr p.1, p.2)) ∧ ks = l.map (·.1)
theorem look_str (l : List (Str × D)) (m : Str) : (look (l.map fun p => ((Sum.inr p.1 : Key), p.2)) (.inr m)).isSome = decide (m ∈ l.map (·.1)) := by
  induction l with
  | nil => rfl
  | cons p l ih =>
    unfold look at ih ⊢
    by_cases e : p.1 = m
    · subst e; simp
    · have e1 : ¬ (Sum.inr p.1 : Key) = Sum.inr m := fun q => e (Sum.inr.inj q)
      rw [List.map_cons, List.find?_cons_of_neg (by simpa using e1), ih]
      simp [Ne.symm e]
def isMk (ks ms : List Str) : D → Prop
  | .str m => m ∈ ks ∧ m ∉ ms
  | _ => False
def conCheckMarkX : Con := fun as c K e => ∃ d known ks, as = [some d, some known] ∧ KnownIs known ks ∧ bltTy (tyD d) = true ∧ ((isMk ks [] d ∧ K (.fz .non) c) ∨ (¬ isMk ks [] d ∧ e ("NoMark", [("mark", d)]) c))
theorem known_in {known : D} {ks : List Str} (h : KnownIs known ks) (m : Str) {s : S} {k : R → S → Prop} {e : XC} {neg : Bool} (w : k (.fz (.bl (if neg then !decide (m ∈ ks) else decide (m ∈ ks)))) s) : qIn neg (.str m) known s k e := by
  rcases h with rfl | ⟨l, rfl, rfl⟩
  · refine And.intro ⟨rfl, strs_scal _⟩ ?_
    rw [inD_strs]; exact w
  · rw [← look_str] at w; exact w
theorem p_check_markX {Γ : Env} : ImplX Γ 2 conCheckMarkX c_check_markX := by
  intro as c K e h
  obtain ⟨d, known, ks, rfl, hk, hb, h⟩ := h
  have fin : ¬ isMk ks [] d → e ("NoMark", [("mark", d)]) c := fun n => h.elim (fun q => absurd q.1 n) fun q => q.2
  cases d with
  | str m =>
    ((repeat ((conv => whnf); refine And.intro (by first | exact rfl | exact trivial | exact ⟨rfl, rfl⟩ | exact ⟨rfl, strs_scal _⟩ | exact ⟨trivial, trivial⟩ | assumption | decide | omega) ?_)); try (conv => whnf))
    refine known_in hk m ?_
    ((repeat ((conv => whnf); refine And.intro (by first | exact rfl | exact trivial | exact ⟨rfl, rfl⟩ | exact ⟨rfl, strs_scal _⟩ | exact ⟨trivial, trivial⟩ | assumption | decide | omega) ?_)); try (conv => whnf))
    by_cases hm : m ∈ ks
    · rw [decide_eq_true hm]
      exact h.elim (fun q => q.2) fun q => absurd ⟨hm, by simp⟩ q.1
    · rw [decide_eq_false hm]
      exact fin fun q => hm q.1
  | obj _ _ => cases hb
  | dctT _ => cases hb
  | _ => ((repeat ((conv => whnf); refine And.intro (by first | exact rfl | exact trivial | exact ⟨rfl, rfl⟩ | exact ⟨rfl, strs_scal _⟩ | exact ⟨trivial, trivial⟩ | assumption | decide | omega) ?_)); try (conv => whnf)); exact fin fun q => q
end PP

set_option Elab.async false
set_option linter.all false
set_option maxRecDepth 100000
set_option maxHeartbeats 4000000
namespace PP
open PySem L2
theorem lookI_in {l : List (Str × Int)} {m : Str} {n : Int} (h : lookI l m = some n) : m ∈ l.map (·.1) := by
  unfold lookI at h
  cases q : l.find? fun p => decide (p.1 = m) with
  | none => rw [q] at h; cases h
  | some p =>
    have h1 := List.mem_of_find?_eq_some q
    have h2 := List.find?_some q
    exact List.mem_map.mpr ⟨p, h1, of_decide_eq_true h2⟩
theorem known_dI (l : List (Str × Int)) : KnownIs (.dct (dI l)) (l.map (·.1)) := .inr ⟨l.map fun p => (p.1, D.int p.2), by simp [dI, List.map_map], by simp [List.map_map]⟩
theorem p_daysX {Γ : Env} (h1 : Γ.fn "check_mark" = some (.pl conCheckMarkX false [])) : Impl Γ 2 conDays c_Account_days := by
  intro as c K h
  obtain ⟨row, m, n, rfl, hn, hk⟩ := h
  ((repeat (first | ((conv => whnf); refine And.intro (by first | exact rfl | exact trivial | exact ⟨rfl, rfl⟩ | exact ⟨rfl, strs_scal _⟩ | exact ⟨trivial, trivial⟩ | assumption | decide | omega) ?_) | ((conv => whnf); first | rw [h1]))); try (conv => whnf))
  refine ⟨_, _, _, rfl, known_dI _, rfl, .inl ⟨⟨lookI_in hn, by simp⟩, fun e => (by cases e), ?_⟩⟩
  ((repeat ((conv => whnf); refine And.intro (by first | exact rfl | exact trivial | exact ⟨rfl, rfl⟩ | exact ⟨rfl, strs_scal _⟩ | exact ⟨trivial, trivial⟩ | assumption | decide | omega) ?_)); try (conv => whnf))
  rw [show look (dI (Ac.run ⟨[], []⟩ row).given) (.inr m) = some (.int n) by rw [look_dI]; exact congrArg (Option.map D.int) hn]
  exact hk
theorem p_goneX {Γ : Env} (h1 : Γ.fn "check_mark" = some (.pl conCheckMarkX false [])) : Impl Γ 2 conGone c_Account_gone := by
  intro as c K h
  obtain ⟨row, m, n, rfl, hn, hk⟩ := h
  ((repeat (first | ((conv => whnf); refine And.intro (by first | exact rfl | exact trivial | exact ⟨rfl, rfl⟩ | exact ⟨rfl, strs_scal _⟩ | exact ⟨trivial, trivial⟩ | assumption | decide | omega) ?_) | ((conv => whnf); first | rw [h1]))); try (conv => whnf))
  refine ⟨_, _, _, rfl, known_dI _, rfl, .inl ⟨⟨lookI_in hn, by simp⟩, fun e => (by cases e), ?_⟩⟩
  ((repeat ((conv => whnf); refine And.intro (by first | exact rfl | exact trivial | exact ⟨rfl, rfl⟩ | exact ⟨rfl, strs_scal _⟩ | exact ⟨trivial, trivial⟩ | assumption | decide | omega) ?_)); try (conv => whnf))
  rw [show look (dI (Ac.run ⟨[], []⟩ row).since) (.inr m) = some (.int n) by rw [look_dI]; exact congrArg (Option.map D.int) hn]
  exact hk
theorem isMk_inv {ks ms : List Str} {x : D} (h : isMk ks ms x) : ∃ m, x = .str m ∧ m ∈ ks ∧ m ∉ ms := by
  cases x with
  | str m => exact ⟨m, rfl, h.1, h.2⟩
  | _ => exact h.elim
/-- what a list of things is read as: marks that are known and new, up to the first thing that is none -/
def MksIs (ks : List Str) (xs : List D) (ms : List Str) (bad : Option D) : Prop := ms.Nodup ∧ (∀ m ∈ ms, m ∈ ks) ∧ match bad with
  | none => xs = ms.map D.str
  | some x => ¬ isMk ks ms x ∧ bltTy (tyD x) = true ∧ ∃ rest, xs = ms.map D.str ++ x :: rest
def badHead (ys : List D) : Option D → Prop
  | none => ys = []
  | some x => ∃ rest, ys = x :: rest
def conCheckedMarksX : Con := fun as c K e => ∃ (d known : D) (ks : List Str), as = [some d, some known] ∧ KnownIs known ks ∧ ks.length ≤ 100000 ∧
  ((d = .non ∧ ∀ r : R, r.d = .lst (ks.map D.str) → K r c) ∨ ∃ xs ms bad, (d = .lst xs ∨ d = .tup xs) ∧ MksIs ks xs ms bad ∧ (bad = none → ∀ r : R, r.d = .lst (ms.map D.str) → K r c) ∧ ∀ x, bad = some x → e ("NoMark", [("mark", x)]) c)
theorem known_list {known : D} {ks : List Str} (h : KnownIs known ks) {s : S} {k : R → S → Prop} {e : XC} (w : ∀ r : R, r.d = .lst (ks.map D.str) → k r s) : qBi .list [known] s k e := by
  rcases h with rfl | ⟨l, rfl, rfl⟩
  · exact w _ rfl
  · refine w (.nl _) ?_
    show D.lst _ = _
    congr 1
    simp [List.map_map]
    intro a b _; rfl
theorem res_kn {known : D} {s : S} {k : D → S → Prop} {e : XC} (w : k known s) : res (.d known) s k e := w
theorem p_checked_marksX {Γ : Env} (h1 : Γ.fn "check_mark" = some (.pl conCheckMarkX false [])) : ImplX Γ 4 conCheckedMarksX c_checked_marksX := by
  intro as c K e h
  obtain ⟨d, known, ks, rfl, hk, hlen, h⟩ := h
  rcases h with ⟨rfl, h⟩ | ⟨xs, ms, bad, hd, ⟨nd, hin, hb⟩, hK, hE⟩
  · ((repeat ((conv => whnf); refine And.intro (by first | exact rfl | exact trivial | exact ⟨rfl, rfl⟩ | exact ⟨rfl, strs_scal _⟩ | exact ⟨trivial, trivial⟩ | assumption | decide | omega) ?_)); try (conv => whnf))
    exact known_list hk h
  · have go : ∀ (l2 l1 : List Str) (ys : List D) (o : Option P) (n : En), (bad = none → ∀ o, n.nx ⟨[some (.fz d), some (.fz known), some (.own (ms.map D.str)), o], c⟩) → (∀ x s, bad = some x → s.c = c → n.ex ("NoMark", [("mark", x)]) s) → l1 ++ l2 = ms →
        badHead ys bad → isIo o = false →
        forGo (.one 3) (exSs Γ [(.ex (.call "check_mark" [(.var 3), (.var 1)] 0)), (.ite (.cmp .isin (.var 3) (.var 2)) [(.raise "NoMark" ["mark"] [(.var 3)])] []), (.app 2 (.var 3))]) (l2.map D.str ++ ys) n ⟨[some (.fz d), some (.fz known), some (.own (l1.map D.str)), o], c⟩ := by
      intro l2
      induction l2 with
      | nil =>
        intro l1 ys o n hn he e3 hy ho
        rw [List.append_nil] at e3
        subst e3
        cases bad with
        | none => rw [show ys = [] from hy]; exact hn rfl o
        | some x =>
          obtain ⟨rest, rfl⟩ := hy
          obtain ⟨hx, hbt, _⟩ := hb
          refine And.intro ho ?_
          ((repeat (first | ((conv => whnf); refine And.intro (by first | exact rfl | exact trivial | exact ⟨rfl, rfl⟩ | exact ⟨rfl, strs_scal _⟩ | exact ⟨trivial, trivial⟩ | assumption | decide | omega) ?_) | ((conv => whnf); first | rw [h1]))); try (conv => whnf))
          refine ⟨x, known, ks, rfl, hk, hbt, ?_⟩
          by_cases hm : isMk ks [] x
          · obtain ⟨m, rfl, m1, _⟩ := isMk_inv hm
            refine .inl ⟨hm, fun e => (by cases e), ?_⟩
            ((repeat ((conv => whnf); refine And.intro (by first | exact rfl | exact trivial | exact ⟨rfl, rfl⟩ | exact ⟨rfl, strs_scal _⟩ | exact ⟨trivial, trivial⟩ | assumption | decide | omega) ?_)); try (conv => whnf))
            rw [inD_strs, decide_eq_true (show m ∈ l1 from Decidable.byContradiction fun q => hx ⟨m1, q⟩)]
            exact he _ _ rfl rfl
          · exact .inr ⟨hm, fun e => (by cases e), he x _ rfl rfl⟩
      | cons y l2 ih =>
        intro l1 ys o n hn he e3 hy ho
        have hy1 : y ∈ ms := by rw [← e3]; simp
        have hny : y ∉ l1 := fun q => by
          rw [← e3, List.nodup_append] at nd
          exact nd.2.2 y q y (by simp) rfl
        have hlt : l1.length < sizeLine := by
          have h2 := nodup_len ms ks nd hin
          have : l1.length < ms.length := by rw [← e3]; simp
          exact Nat.lt_of_lt_of_le this (Nat.le_trans h2 (Nat.le_trans hlen (by decide)))
        refine And.intro ho ?_
        ((repeat (first | ((conv => whnf); refine And.intro (by first | exact rfl | exact trivial | exact ⟨rfl, rfl⟩ | exact ⟨rfl, strs_scal _⟩ | exact ⟨trivial, trivial⟩ | assumption | decide | omega) ?_) | ((conv => whnf); first | rw [h1]))); try (conv => whnf))
        refine ⟨.str y, known, ks, rfl, hk, rfl, .inl ⟨⟨hin y hy1, by simp⟩, fun e => (by cases e), ?_⟩⟩
        ((repeat ((conv => whnf); refine And.intro (by first | exact rfl | exact trivial | exact ⟨rfl, rfl⟩ | exact ⟨rfl, strs_scal _⟩ | exact ⟨trivial, trivial⟩ | assumption | decide | omega) ?_)); try (conv => whnf))
        rw [inD_strs, decide_eq_false hny]
        (conv => whnf)
        refine And.intro (by rw [List.length_map]; exact hlt) ?_
        have q := ih (l1 ++ [y]) ys (some (.fz (.str y))) n hn he (by rw [← e3]; simp) hy rfl
        rw [List.map_append] at q
        exact q
    have hxs : ∃ ys, xs = ms.map D.str ++ ys ∧ badHead ys bad := by
      cases bad with
      | none => exact ⟨[], by rw [List.append_nil]; exact hb, rfl⟩
      | some x => obtain ⟨_, _, rest, q⟩ := hb; exact ⟨_, q, rest, rfl⟩
    obtain ⟨ys, rfl, hys⟩ := hxs
    rcases hd with rfl | rfl
    · ((repeat ((conv => whnf); refine And.intro (by first | exact rfl | exact trivial | exact ⟨rfl, rfl⟩ | exact ⟨rfl, strs_scal _⟩ | exact ⟨trivial, trivial⟩ | assumption | decide | omega) ?_)); try (conv => whnf))
      exact go ms [] ys none _ (fun q o => hK q (.fz (.lst (ms.map D.str))) rfl) (fun x s q hs => by show e _ s.c; rw [hs]; exact hE x q) rfl hys rfl
    · ((repeat ((conv => whnf); refine And.intro (by first | exact rfl | exact trivial | exact ⟨rfl, rfl⟩ | exact ⟨rfl, strs_scal _⟩ | exact ⟨trivial, trivial⟩ | assumption | decide | omega) ?_)); try (conv => whnf))
      exact go ms [] ys none _ (fun q o => hK q (.fz (.lst (ms.map D.str))) rfl) (fun x s q hs => by show e _ s.c; rw [hs]; exact hE x q) rfl hys rfl
end PP

set_option Elab.async false
set_option linter.all false
set_option maxRecDepth 100000
set_option maxHeartbeats 4000000
namespace PP
open PySem L2
def conLeftX : Con := fun as c K e => ∃ row d, as = [some (accD row), some d] ∧ (acOf row).good ∧ (marksOf row).length ≤ 100000 ∧
  ((d = .non ∧ K (.fz (.int (leftV row (marksOf row)))) c) ∨ ∃ xs ms bad, (d = .lst xs ∨ d = .tup xs) ∧ MksIs (marksOf row) xs ms bad ∧ (bad = none → K (.fz (.int (leftV row ms))) c) ∧ ∀ x, bad = some x → e ("NoMark", [("mark", x)]) c)
theorem p_leftX {Γ : Env} (h1 : Γ.mth "Account" "marks" = some (.pl conMarks false [])) (h2 : Γ.fn "left_of" = some (.pl conLeftOf false [])) (h3 : Γ.fn "checked_marks" = some (.pl conCheckedMarksX false [])) : ImplX Γ 2 conLeftX c_leftX := by
  intro as c K e h
  obtain ⟨row, d, rfl, gd, hl, h⟩ := h
  ((repeat (first | ((conv => whnf); refine And.intro (by first | exact rfl | exact trivial | exact ⟨rfl, rfl⟩ | exact ⟨rfl, strs_scal _⟩ | exact ⟨trivial, trivial⟩ | assumption | decide | omega) ?_) | ((conv => whnf); first | rw [h2] | rw [h3] | rw [h1]))); try (conv => whnf))
  refine ⟨row, rfl, fun e => (by cases e), ?_⟩
  ((repeat ((conv => whnf); refine And.intro (by first | exact rfl | exact trivial | exact ⟨rfl, rfl⟩ | exact ⟨rfl, strs_scal _⟩ | exact ⟨trivial, trivial⟩ | assumption | decide | omega) ?_)); try (conv => whnf))
  refine ⟨d, _, marksOf row, rfl, .inl rfl, hl, ?_⟩
  rcases h with ⟨rfl, h⟩ | ⟨xs, ms, bad, hd, hm, hK, hE⟩
  · refine .inl ⟨rfl, fun r hr => ⟨fun e => (by cases e), ?_⟩⟩
    ((repeat ((conv => whnf); refine And.intro (by first | exact rfl | exact trivial | exact ⟨rfl, rfl⟩ | exact ⟨rfl, strs_scal _⟩ | exact ⟨trivial, trivial⟩ | assumption | decide | omega) ?_)); try (conv => whnf))
    exact ⟨row, marksOf row, by rw [← hr]; rfl, gd, fun e => (by cases e), h⟩
  · refine .inr ⟨xs, ms, bad, hd, hm, fun q r hr => ⟨fun e => (by cases e), ?_⟩, fun x q => ⟨fun e => (by cases e), hE x q⟩⟩
    ((repeat ((conv => whnf); refine And.intro (by first | exact rfl | exact trivial | exact ⟨rfl, rfl⟩ | exact ⟨rfl, strs_scal _⟩ | exact ⟨trivial, trivial⟩ | assumption | decide | omega) ?_)); try (conv => whnf))
    exact ⟨row, ms, by rw [← hr]; rfl, gd, fun e => (by cases e), hK q⟩
/-! ### things in a drawn order -/
def conMixed : Con := fun as c K _ => ∃ xs d, as = [none, some d] ∧ (d = .lst xs ∨ d = .tup xs) ∧ xs.length ≤ 10000 ∧ c.c + xs.length < 1000000 ∧ ∀ ys c', ys.Perm xs → c'.c = c.c + xs.length → K (.nl ys) c'
theorem popD_at {xs : List D} {i : Int} (h0 : 0 ≤ i) (h1 : i < xs.length) : ∃ x, x ∈ xs ∧ popL xs (some i) = some (x, xs.eraseIdx i.toNat) ∧ (x :: xs.eraseIdx i.toNat).Perm xs := by
  obtain ⟨k, rfl⟩ := Int.eq_ofNat_of_zero_le h0
  have hk : k < xs.length := by omega
  refine ⟨xs[k], List.getElem_mem hk, ?_, ?_⟩
  · unfold popL
    have e : ixN xs.length (k : Int) = some k := by
      unfold ixN
      simp; omega
    show (match ixN xs.length (k : Int) with
      | some j => Option.map (fun x => (x, xs.eraseIdx j)) xs[j]?
      | none => none) = _
    rw [e]
    simp [hk]
  · show (xs[k] :: xs.eraseIdx k).Perm xs
    have h2 : xs.eraseIdx k = xs.take k ++ xs.drop (k + 1) := List.eraseIdx_eq_take_drop_succ ..
    rw [h2]
    have h3 : xs = xs.take k ++ xs[k] :: xs.drop (k + 1) := by
      rw [← List.drop_eq_getElem_cons hk, List.take_append_drop]
    exact (List.perm_middle.symm).trans (by rw [← h3])
theorem noIo1 {o : Option P} (h : isIo o = false) : (!isIo o && true) = true := by rw [h]; rfl
theorem p_mixed {Γ : Env} (h1 : Γ.fn "_law_draw" = some (.pl conDrawN true [])) : Impl Γ 4 conMixed c__law_mixed := by
  intro as c K h
  obtain ⟨xs, d, rfl, hd, hl, hc, hk⟩ := h
  have go : ∀ (j : Nat) (k : Int) (acc rest : List D) (c : Stm) (o : Option P) (Kc : List D → S → Prop) (e : XC), rest.length = j → j ≤ 10000 → c.c + j < 1000000 → isIo o = false →
      (∀ (ys : List D) (o : Option P) (c' : Stm), isIo o = false → ys.Perm rest → c'.c = c.c + j → Kc (acc ++ ys) ⟨[some .stm, some (.fz d), some (.own []), o], c'⟩) →
      lcGo (.one 3) (evTs Γ []) (toD (evP Γ (.pop 2 (some (.call "_law_draw" [(.var 0), (.bi .len [(.var 2)])] 0)))).r) (rangeD k j) acc ⟨[some .stm, some (.fz d), some (.own rest), o], c⟩ Kc e := by
    intro j
    induction j with
    | zero =>
      intro k acc rest c o Kc e hr hj hc ho h
      obtain rfl := List.eq_nil_of_length_eq_zero hr
      have := h [] o c ho (List.Perm.refl _) rfl
      rw [List.append_nil] at this
      exact this
    | succ j ih =>
      intro k acc rest c o Kc e hr hj hc ho h
      refine And.intro (noIo1 ho) ?_
      ((repeat (first | ((conv => whnf); refine And.intro (by first | exact rfl | exact trivial | exact ⟨rfl, rfl⟩ | exact ⟨rfl, strs_scal _⟩ | exact ⟨trivial, trivial⟩ | assumption | decide | omega) ?_) | ((conv => whnf); first | rw [h1]))); try (conv => whnf))
      refine ⟨_, rfl, by rw [hr]; omega, by rw [hr]; exact Int.le_trans (b := 10000) (by omega) (by decide), show c.c < 1000000 by omega, fun i c' i0 i1 hc' => ⟨fun _ => rfl, ?_⟩⟩
      have hc' : c'.c = c.c + 1 := hc'
      obtain ⟨x, hx, ep, pm⟩ := popD_at i0 i1
      (conv => whnf)
      refine And.intro ⟨by omega, by omega⟩ ?_
      (conv => whnf)
      rw [ep]
      refine ih (k + 1) (acc ++ [x]) (rest.eraseIdx i.toNat) c' (some (.fz (.int k))) Kc e (by rw [List.length_eraseIdx]; split <;> omega) (by omega) (by omega) rfl fun ys o2 c2 ho2 hp hc2 => ?_
      have := h (x :: ys) o2 c2 ho2 ((hp.cons x).trans pm) (by omega)
      rw [List.append_cons] at this
      exact this
  have fin : forall (Kc : List D → S → Prop) (e : XC), (∀ (ys : List D) (o : Option P) (c' : Stm), isIo o = false → ys.Perm xs → c'.c = c.c + xs.length → Kc ys ⟨[some .stm, some (.fz d), some (.own []), o], c'⟩) → lcGo (.one 3) (evTs Γ []) (toD (evP Γ (.pop 2 (some (.call "_law_draw" [(.var 0), (.bi .len [(.var 2)])] 0)))).r) (rangeD 0 xs.length) [] ⟨[some .stm, some (.fz d), some (.own xs), none], c⟩ Kc e := fun Kc e h => go xs.length 0 [] xs c none Kc e rfl hl (by omega) rfl fun ys o c' ho hp hc' => h ys o c' ho hp hc'
  rcases hd with rfl | rfl
  · ((repeat ((conv => whnf); refine And.intro (by first | exact rfl | exact trivial | exact ⟨rfl, rfl⟩ | exact ⟨rfl, strs_scal _⟩ | exact ⟨trivial, trivial⟩ | assumption | decide | omega) ?_)); try (conv => whnf))
    refine fin _ _ fun ys o c' ho hp hc' => ⟨noIo1 ho, ?_⟩
    exact hk ys c' hp hc'
  · ((repeat ((conv => whnf); refine And.intro (by first | exact rfl | exact trivial | exact ⟨rfl, rfl⟩ | exact ⟨rfl, strs_scal _⟩ | exact ⟨trivial, trivial⟩ | assumption | decide | omega) ?_)); try (conv => whnf))
    refine fin _ _ fun ys o c' ho hp hc' => ⟨noIo1 ho, ?_⟩
    exact hk ys c' hp hc'
end PP

set_option Elab.async false
set_option linter.all false
set_option maxRecDepth 100000
set_option maxHeartbeats 4000000
namespace PP
open PySem L2
/-! ### the law's own going through the row -/
def glS (P : Str → Bool) (x : Int) : Deed → Int
  | .op m n => if P m then x + n else x
  | .days n => max 0 (x - n)
  | _ => x
def gl (P : Str → Bool) : Int → List Deed → Int
  | x, [] => x
  | x, d :: r => gl P (glS P x d) r
/-- marks in a list or a tuple -/
def MsD (d : D) (ms : List Str) : Prop := d = .lst (ms.map D.str) ∨ d = .tup (ms.map D.str)
def inP (ms : List Str) : Str → Bool := fun m => decide (m ∈ ms)
def conLLeft : Con := fun as c K _ => ∃ row d ms, as = [some (.lst (row.map Deed.d)), some d] ∧ MsD d ms ∧ K (.fz (.int (gl (inP ms) 0 row))) c
def b_lleft : List Sx := [(.ite (.and (.cmp .eq (.idx (.var 3) (.int 0)) (.str "open")) (.cmp .isin (.idx (.var 3) (.int 1)) (.var 1))) [(.asg 2 (.bin .add (.var 2) (.idx (.var 3) (.int 2))))] []), (.ite (.cmp .eq (.idx (.var 3) (.int 0)) (.str "days")) [(.asg 2 (.bi .max2 [(.int 0), (.bin .sub (.var 2) (.idx (.var 3) (.int 1)))]))] [])]
theorem msd_in {d : D} {ms : List Str} (h : MsD d ms) (m : Str) {s : S} {k : R → S → Prop} {e : XC} {neg : Bool} (w : k (.fz (.bl (if neg then !decide (m ∈ ms) else decide (m ∈ ms)))) s) : qIn neg (.str m) d s k e := by
  rcases h with rfl | rfl <;> (refine And.intro ⟨rfl, strs_scal _⟩ ?_; rw [inD_strs]; exact w)
theorem p_lleft {Γ : Env} : Impl Γ 4 conLLeft c__law_left := by
  intro as c K h
  obtain ⟨row, d, ms, rfl, hd, hk⟩ := h
  have go : ∀ (r : List Deed) (x : Int) (o : Option P) (n : En), isIo o = false → (∀ o, isIo o = false → n.nx ⟨[some (.fz (.lst (row.map Deed.d))), some (.fz d), some (.fz (.int (gl (inP ms) x r))), o], c⟩) →
      forGo (.one 3) (exSs Γ b_lleft) (r.map Deed.d) n ⟨[some (.fz (.lst (row.map Deed.d))), some (.fz d), some (.fz (.int x)), o], c⟩ := by
    intro r
    induction r with
    | nil => intro x o n ho h; exact h o ho
    | cons y r ih =>
      intro x o n ho h
      refine And.intro ho ?_
      cases y with
      | op m k =>
        ((repeat ((conv => whnf); refine And.intro (by first | exact rfl | exact trivial | exact ⟨rfl, rfl⟩ | exact ⟨rfl, strs_scal _⟩ | exact ⟨trivial, trivial⟩ | assumption | decide | omega) ?_)); try (conv => whnf))
        refine msd_in hd m ?_
        ((repeat ((conv => whnf); refine And.intro (by first | exact rfl | exact trivial | exact ⟨rfl, rfl⟩ | exact ⟨rfl, strs_scal _⟩ | exact ⟨trivial, trivial⟩ | assumption | decide | omega) ?_)); try (conv => whnf))
        cases hm : decide (m ∈ ms) with
        | true =>
          ((repeat ((conv => whnf); refine And.intro (by first | exact rfl | exact trivial | exact ⟨rfl, rfl⟩ | exact ⟨rfl, strs_scal _⟩ | exact ⟨trivial, trivial⟩ | assumption | decide | omega) ?_)); try (conv => whnf))
          refine ih _ _ n rfl fun o ho => ?_
          have q := h o ho
          simp only [gl, glS, inP, hm] at q
          exact q
        | false =>
          ((repeat ((conv => whnf); refine And.intro (by first | exact rfl | exact trivial | exact ⟨rfl, rfl⟩ | exact ⟨rfl, strs_scal _⟩ | exact ⟨trivial, trivial⟩ | assumption | decide | omega) ?_)); try (conv => whnf))
          refine ih _ _ n rfl fun o ho => ?_
          have q := h o ho
          simp only [gl, glS, inP, hm] at q
          exact q
      | days k =>
        ((repeat ((conv => whnf); refine And.intro (by first | exact rfl | exact trivial | exact ⟨rfl, rfl⟩ | exact ⟨rfl, strs_scal _⟩ | exact ⟨trivial, trivial⟩ | assumption | decide | omega) ?_)); try (conv => whnf))
        rw [max2_eq]
        exact ih _ _ n rfl h
      | pause k =>
        ((repeat ((conv => whnf); refine And.intro (by first | exact rfl | exact trivial | exact ⟨rfl, rfl⟩ | exact ⟨rfl, strs_scal _⟩ | exact ⟨trivial, trivial⟩ | assumption | decide | omega) ?_)); try (conv => whnf))
        exact ih _ _ n rfl h
      | back m =>
        ((repeat ((conv => whnf); refine And.intro (by first | exact rfl | exact trivial | exact ⟨rfl, rfl⟩ | exact ⟨rfl, strs_scal _⟩ | exact ⟨trivial, trivial⟩ | assumption | decide | omega) ?_)); try (conv => whnf))
        exact ih _ _ n rfl h
  ((repeat ((conv => whnf); refine And.intro (by first | exact rfl | exact trivial | exact ⟨rfl, rfl⟩ | exact ⟨rfl, strs_scal _⟩ | exact ⟨trivial, trivial⟩ | assumption | decide | omega) ?_)); try (conv => whnf))
  exact go row 0 none _ rfl fun o ho => hk
end PP

set_option Elab.async false
set_option linter.all false
set_option maxRecDepth 100000
set_option maxHeartbeats 4000000
namespace PP
open PySem L2
theorem cut_from (xs : List D) {a : Nat} (h : a ≤ xs.length) : cutD xs (some (a : Int)) none = xs.drop a := by
  have e1 : HT.sIx xs.length 0 (some (a : Int)) = a := by
    rw [HT.sIx_nat]; omega
  have e2 : HT.sIx xs.length xs.length none = xs.length := rfl
  unfold cutD
  rw [e1, e2]
  exact List.take_of_length_le (by simp)
theorem cut_to (xs : List D) {a : Nat} (h : a ≤ xs.length) : cutD xs none (some (a : Int)) = xs.take a := by
  have e1 : HT.sIx xs.length 0 none = 0 := rfl
  have e2 : HT.sIx xs.length xs.length (some (a : Int)) = a := by
    rw [HT.sIx_nat]; omega
  unfold cutD
  rw [e1, e2]
  simp
theorem asInts_map : ∀ l : List Int, asInts (l.map D.int) = some l
  | [] => rfl
  | x :: l => by simp [asInts, asInts_map l]
/-- where m is opened -/
def hits (m : Str) : Nat → List Deed → List Int
  | _, [] => []
  | i, .op k _ :: r => if k = m then (i : Int) :: hits m (i + 1) r else hits m (i + 1) r
  | i, _ :: r => hits m (i + 1) r
def sufO (P : Str → Bool) : List Deed → Int
  | [] => 0
  | .op m n :: r => (if P m then n else 0) + sufO P r
  | _ :: r => sufO P r
def sufD : List Deed → Int
  | [] => 0
  | .days n :: r => n + sufD r
  | _ :: r => sufD r
def opsOf (P : Str → Bool) : List Deed → List Int
  | [] => []
  | .op m n :: r => if P m then n :: opsOf P r else opsOf P r
  | _ :: r => opsOf P r
def daysOf : List Deed → List Int
  | [] => []
  | .days n :: r => n :: daysOf r
  | _ :: r => daysOf r
theorem opsOf_sum (P : Str → Bool) : ∀ r : List Deed, (opsOf P r).sum = sufO P r
  | [] => rfl
  | .op m n :: r => by
    unfold opsOf sufO
    rw [← opsOf_sum P r]
    split
    · rw [List.sum_cons]
    · rw [Int.zero_add]
  | .days _ :: r => opsOf_sum P r
  | .pause _ :: r => opsOf_sum P r
  | .back _ :: r => opsOf_sum P r
theorem daysOf_sum : ∀ r : List Deed, (daysOf r).sum = sufD r
  | [] => rfl
  | .days n :: r => by unfold daysOf sufD; rw [List.sum_cons, daysOf_sum r]
  | .op _ _ :: r => daysOf_sum r
  | .pause _ :: r => daysOf_sum r
  | .back _ :: r => daysOf_sum r
theorem noIo2 {o p : Option P} (h : isIo o = false) (k : isIo p = false) : (!isIo o && (!isIo p && true)) = true := by rw [h, k]; rfl
section
variable {Γ : Env} {d0 d1 p2 p5 : Option P} {c : Stm} {Kc : List D → S → Prop} {e : XC}
theorem fact_lc1 {m : Str} {p4 : Option P} : ∀ (r : List Deed) (i : Nat) (acc : List D) (o6 o7 : Option P), isIo o6 = false → isIo o7 = false →
    (∀ o6 o7, isIo o6 = false → isIo o7 = false → Kc (acc ++ (hits m i r).map D.int) ⟨[d0, d1, p2, some (.fz (.str m)), p4, p5, o6, o7], c⟩) →
    lcGo (.tup [(.one 7), (.one 6)]) (evTs Γ [(.and (.cmp .eq (.idx (.var 6) (.int 0)) (.str "open")) (.cmp .eq (.idx (.var 6) (.int 1)) (.var 3)))]) (toD (evP Γ (.var 7)).r) (enumD i (r.map Deed.d)) acc ⟨[d0, d1, p2, some (.fz (.str m)), p4, p5, o6, o7], c⟩ Kc e := by
  intro r
  induction r with
  | nil =>
    intro i acc o6 o7 h6 h7 h
    have := h o6 o7 h6 h7
    rw [show hits m i [] = [] from rfl, List.map_nil, List.append_nil] at this
    exact this
  | cons y r ih =>
    intro i acc o6 o7 h6 h7 h
    refine And.intro (noIo2 h7 h6) ?_
    cases y with
    | op k n =>
      ((repeat ((conv => whnf); refine And.intro (by first | exact rfl | exact trivial | exact ⟨rfl, rfl⟩ | exact ⟨rfl, strs_scal _⟩ | exact ⟨trivial, trivial⟩ | assumption | decide | omega) ?_)); try (conv => whnf))
      have e0 : decide (toV (R.fz (D.str k)).d = toV (D.str m)) = decide (k = m) := decide_eq_decide.mpr ⟨fun h => V.str.inj h, fun h => congrArg V.str h⟩
      rw [e0]
      by_cases hk : k = m
      · rw [decide_eq_true hk]
        (conv => whnf)
        have q := ih (i + 1) (acc ++ [.int i]) (some (.fz (Deed.op k n).d)) (some (.fz (.int i))) rfl rfl fun o6 o7 h6 h7 => (by
          have := h o6 o7 h6 h7
          rw [show hits m i (.op k n :: r) = (i : Int) :: hits m (i + 1) r from if_pos hk, List.map_cons, List.append_cons] at this
          exact this)
        exact q
      · rw [decide_eq_false hk]
        (conv => whnf)
        have q := ih (i + 1) acc (some (.fz (Deed.op k n).d)) (some (.fz (.int i))) rfl rfl fun o6 o7 h6 h7 => (by
          have := h o6 o7 h6 h7
          rw [show hits m i (.op k n :: r) = hits m (i + 1) r from if_neg hk] at this
          exact this)
        exact q
    | days k => ((repeat ((conv => whnf); refine And.intro (by first | exact rfl | exact trivial | exact ⟨rfl, rfl⟩ | exact ⟨rfl, strs_scal _⟩ | exact ⟨trivial, trivial⟩ | assumption | decide | omega) ?_)); try (conv => whnf)); exact ih (i + 1) acc _ _ rfl rfl h
    | pause k => ((repeat ((conv => whnf); refine And.intro (by first | exact rfl | exact trivial | exact ⟨rfl, rfl⟩ | exact ⟨rfl, strs_scal _⟩ | exact ⟨trivial, trivial⟩ | assumption | decide | omega) ?_)); try (conv => whnf)); exact ih (i + 1) acc _ _ rfl rfl h
    | back k => ((repeat ((conv => whnf); refine And.intro (by first | exact rfl | exact trivial | exact ⟨rfl, rfl⟩ | exact ⟨rfl, strs_scal _⟩ | exact ⟨trivial, trivial⟩ | assumption | decide | omega) ?_)); try (conv => whnf)); exact ih (i + 1) acc _ _ rfl rfl h
theorem fact_lc2 {p3 p4 o7 : Option P} {d : D} {ms : List Str} (hd : MsD d ms) : ∀ (r : List Deed) (acc : List D) (o6 : Option P), isIo o6 = false →
    (∀ o6, isIo o6 = false → Kc (acc ++ (opsOf (inP ms) r).map D.int) ⟨[d0, some (.fz d), p2, p3, p4, p5, o6, o7], c⟩) →
    lcGo (.one 6) (evTs Γ [(.and (.cmp .eq (.idx (.var 6) (.int 0)) (.str "open")) (.cmp .isin (.idx (.var 6) (.int 1)) (.var 1)))]) (toD (evP Γ (.idx (.var 6) (.int 2))).r) (r.map Deed.d) acc ⟨[d0, some (.fz d), p2, p3, p4, p5, o6, o7], c⟩ Kc e := by
  intro r
  induction r with
  | nil =>
    intro acc o6 h6 h
    have := h o6 h6
    rw [show opsOf (inP ms) [] = [] from rfl, List.map_nil, List.append_nil] at this
    exact this
  | cons y r ih =>
    intro acc o6 h6 h
    refine And.intro (noIo1 h6) ?_
    cases y with
    | op k n =>
      ((repeat ((conv => whnf); refine And.intro (by first | exact rfl | exact trivial | exact ⟨rfl, rfl⟩ | exact ⟨rfl, strs_scal _⟩ | exact ⟨trivial, trivial⟩ | assumption | decide | omega) ?_)); try (conv => whnf))
      refine msd_in hd k ?_
      ((repeat ((conv => whnf); refine And.intro (by first | exact rfl | exact trivial | exact ⟨rfl, rfl⟩ | exact ⟨rfl, strs_scal _⟩ | exact ⟨trivial, trivial⟩ | assumption | decide | omega) ?_)); try (conv => whnf))
      by_cases hk : k ∈ ms
      · rw [decide_eq_true hk]
        (conv => whnf)
        exact ih (acc ++ [.int n]) (some (.fz (Deed.op k n).d)) rfl fun o6 h6 => (by
          have := h o6 h6
          rw [show opsOf (inP ms) (.op k n :: r) = n :: opsOf (inP ms) r from if_pos (decide_eq_true hk), List.map_cons, List.append_cons] at this
          exact this)
      · rw [decide_eq_false hk]
        (conv => whnf)
        exact ih acc (some (.fz (Deed.op k n).d)) rfl fun o6 h6 => (by
          have := h o6 h6
          rw [show opsOf (inP ms) (.op k n :: r) = opsOf (inP ms) r from if_neg (by unfold inP; rw [decide_eq_false hk]; decide)] at this
          exact this)
    | days k => ((repeat ((conv => whnf); refine And.intro (by first | exact rfl | exact trivial | exact ⟨rfl, rfl⟩ | exact ⟨rfl, strs_scal _⟩ | exact ⟨trivial, trivial⟩ | assumption | decide | omega) ?_)); try (conv => whnf)); exact ih acc _ rfl h
    | pause k => ((repeat ((conv => whnf); refine And.intro (by first | exact rfl | exact trivial | exact ⟨rfl, rfl⟩ | exact ⟨rfl, strs_scal _⟩ | exact ⟨trivial, trivial⟩ | assumption | decide | omega) ?_)); try (conv => whnf)); exact ih acc _ rfl h
    | back k => ((repeat ((conv => whnf); refine And.intro (by first | exact rfl | exact trivial | exact ⟨rfl, rfl⟩ | exact ⟨rfl, strs_scal _⟩ | exact ⟨trivial, trivial⟩ | assumption | decide | omega) ?_)); try (conv => whnf)); exact ih acc _ rfl h
theorem fact_lc3 {d1 p3 p4 o7 : Option P} : ∀ (r : List Deed) (acc : List D) (o6 : Option P), isIo o6 = false →
    (∀ o6, isIo o6 = false → Kc (acc ++ (daysOf r).map D.int) ⟨[d0, d1, p2, p3, p4, p5, o6, o7], c⟩) →
    lcGo (.one 6) (evTs Γ [(.cmp .eq (.idx (.var 6) (.int 0)) (.str "days"))]) (toD (evP Γ (.idx (.var 6) (.int 1))).r) (r.map Deed.d) acc ⟨[d0, d1, p2, p3, p4, p5, o6, o7], c⟩ Kc e := by
  intro r
  induction r with
  | nil =>
    intro acc o6 h6 h
    have := h o6 h6
    rw [show daysOf [] = [] from rfl, List.map_nil, List.append_nil] at this
    exact this
  | cons y r ih =>
    intro acc o6 h6 h
    refine And.intro (noIo1 h6) ?_
    cases y with
    | days k =>
      ((repeat ((conv => whnf); refine And.intro (by first | exact rfl | exact trivial | exact ⟨rfl, rfl⟩ | exact ⟨rfl, strs_scal _⟩ | exact ⟨trivial, trivial⟩ | assumption | decide | omega) ?_)); try (conv => whnf))
      exact ih (acc ++ [.int k]) (some (.fz (Deed.days k).d)) rfl fun o6 h6 => (by
        have := h o6 h6
        rw [show daysOf (.days k :: r) = k :: daysOf r from rfl, List.map_cons, List.append_cons] at this
        exact this)
    | op k n => ((repeat ((conv => whnf); refine And.intro (by first | exact rfl | exact trivial | exact ⟨rfl, rfl⟩ | exact ⟨rfl, strs_scal _⟩ | exact ⟨trivial, trivial⟩ | assumption | decide | omega) ?_)); try (conv => whnf)); exact ih acc _ rfl h
    | pause k => ((repeat ((conv => whnf); refine And.intro (by first | exact rfl | exact trivial | exact ⟨rfl, rfl⟩ | exact ⟨rfl, strs_scal _⟩ | exact ⟨trivial, trivial⟩ | assumption | decide | omega) ?_)); try (conv => whnf)); exact ih acc _ rfl h
    | back k => ((repeat ((conv => whnf); refine And.intro (by first | exact rfl | exact trivial | exact ⟨rfl, rfl⟩ | exact ⟨rfl, strs_scal _⟩ | exact ⟨trivial, trivial⟩ | assumption | decide | omega) ?_)); try (conv => whnf)); exact ih acc _ rfl h
end
def candF (ms : List Str) (row : List Deed) (a : Nat) : Int := sufO (inP ms) (row.drop a) - sufD (row.drop a)
/-- the greatest of 0 and the candidates at some places -/
def factV (ms : List Str) (row : List Deed) : Int → List Nat → Int
  | x, [] => x
  | x, a :: l => factV ms row (max x (candF ms row a)) l
def conFact : Con := fun as c K _ => ∃ row d ms at_, as = [some (.lst (row.map Deed.d)), some d] ∧ MsD d ms ∧ (∀ m ∈ ms, ∃ a : Nat, a < row.length ∧ hits m 0 row = [(a : Int)] ∧ at_ m = a) ∧ K (.fz (.int (factV ms row 0 (ms.map at_)))) c
def b_fact : List Sx := [(.asg 4 (.idx (.lc (.bi .enum [(.var 0)]) (.tup [(.one 7), (.one 6)]) [(.and (.cmp .eq (.idx (.var 6) (.int 0)) (.str "open")) (.cmp .eq (.idx (.var 6) (.int 1)) (.var 3)))] (.var 7)) (.int 0))), (.asg 5 (.bi .sum [(.lc (.sli (.var 0) (some (.var 4)) none) (.one 6) [(.and (.cmp .eq (.idx (.var 6) (.int 0)) (.str "open")) (.cmp .isin (.idx (.var 6) (.int 1)) (.var 1)))] (.idx (.var 6) (.int 2)))])), (.asg 2 (.bi .max2 [(.var 2), (.bin .sub (.var 5) (.bi .sum [(.lc (.sli (.var 0) (some (.var 4)) none) (.one 6) [(.cmp .eq (.idx (.var 6) (.int 0)) (.str "days"))] (.idx (.var 6) (.int 1)))]))]))]
theorem p_fact {Γ : Env} : Impl Γ 8 conFact c__law_fact := by
  intro as c K h
  obtain ⟨row, d, ms, at_, rfl, hd, hh, hk⟩ := h
  have go : ∀ (l : List Str) (x : Int) (o3 o4 o5 o6 o7 : Option P) (n : En), (∀ m ∈ l, m ∈ ms) → isIo o3 = false → isIo o4 = false → isIo o5 = false → isIo o6 = false → isIo o7 = false →
      (∀ o3 o4 o5 o6 o7, n.nx ⟨[some (.fz (.lst (row.map Deed.d))), some (.fz d), some (.fz (.int (factV ms row x (l.map at_)))), o3, o4, o5, o6, o7], c⟩) →
      forGo (.one 3) (exSs Γ b_fact) (l.map D.str) n ⟨[some (.fz (.lst (row.map Deed.d))), some (.fz d), some (.fz (.int x)), o3, o4, o5, o6, o7], c⟩ := by
    intro l
    induction l with
    | nil => intro x o3 o4 o5 o6 o7 n hl h3 h4 h5 h6 h7 h; exact h _ _ _ _ _
    | cons m l ih =>
      intro x o3 o4 o5 o6 o7 n hl h3 h4 h5 h6 h7 h
      obtain ⟨a, ha, e1, e2⟩ := hh m (hl m (by simp))
      have ec : cutD (row.map Deed.d) (some (a : Int)) none = (row.drop a).map Deed.d := by
        rw [cut_from _ (by simp; omega), List.map_drop]
      refine And.intro h3 ?_
      ((repeat ((conv => whnf); refine And.intro (by first | exact rfl | exact trivial | exact ⟨rfl, rfl⟩ | exact ⟨rfl, strs_scal _⟩ | exact ⟨trivial, trivial⟩ | assumption | decide | omega) ?_)); try (conv => whnf))
      refine fact_lc1 (m := m) row 0 [] o6 o7 h6 h7 fun o6 o7 h6 h7 => ?_
      rw [e1]
      (conv => whnf)
      refine And.intro (noIo2 h7 h6) ?_
      ((repeat ((conv => whnf); refine And.intro (by first | exact rfl | exact trivial | exact ⟨rfl, rfl⟩ | exact ⟨rfl, strs_scal _⟩ | exact ⟨trivial, trivial⟩ | assumption | decide | omega) ?_)); try (conv => whnf))
      rw [ec]
      refine fact_lc2 hd (row.drop a) [] none rfl fun o6 h6 => ?_
      (conv => whnf)
      refine And.intro (noIo1 h6) ?_
      (conv => whnf)
      rw [List.nil_append, asInts_map]
      ((repeat ((conv => whnf); refine And.intro (by first | exact rfl | exact trivial | exact ⟨rfl, rfl⟩ | exact ⟨rfl, strs_scal _⟩ | exact ⟨trivial, trivial⟩ | assumption | decide | omega) ?_)); try (conv => whnf))
      rw [ec]
      refine fact_lc3 (row.drop a) [] none rfl fun o6 h6 => ?_
      (conv => whnf)
      refine And.intro (noIo1 h6) ?_
      (conv => whnf)
      rw [List.nil_append, asInts_map]
      ((repeat ((conv => whnf); refine And.intro (by first | exact rfl | exact trivial | exact ⟨rfl, rfl⟩ | exact ⟨rfl, strs_scal _⟩ | exact ⟨trivial, trivial⟩ | assumption | decide | omega) ?_)); try (conv => whnf))
      rw [max2_eq]
      refine ih _ _ _ _ _ _ n (fun m hm => hl m (by simp [hm])) rfl rfl rfl rfl rfl fun o3 o4 o5 o6 o7 => ?_
      have := h o3 o4 o5 o6 o7
      rw [List.map_cons, e2] at this
      unfold factV candF at this
      rw [← opsOf_sum, ← daysOf_sum] at this
      exact this
  rcases hd with rfl | rfl
  · ((repeat ((conv => whnf); refine And.intro (by first | exact rfl | exact trivial | exact ⟨rfl, rfl⟩ | exact ⟨rfl, strs_scal _⟩ | exact ⟨trivial, trivial⟩ | assumption | decide | omega) ?_)); try (conv => whnf))
    exact go ms 0 none none none none none _ (fun m hm => hm) rfl rfl rfl rfl rfl fun _ _ _ _ _ => hk
  · ((repeat ((conv => whnf); refine And.intro (by first | exact rfl | exact trivial | exact ⟨rfl, rfl⟩ | exact ⟨rfl, strs_scal _⟩ | exact ⟨trivial, trivial⟩ | assumption | decide | omega) ?_)); try (conv => whnf))
    exact go ms 0 none none none none none _ (fun m hm => hm) rfl rfl rfl rfl rfl fun _ _ _ _ _ => hk
end PP

set_option Elab.async false
set_option linter.all false
set_option maxRecDepth 100000
set_option maxHeartbeats 4000000
namespace PP
open PySem L2
/-! ### the law's own going is what is left -/
abbrev Z3 := Str × Int × Int
theorem zz {α β γ δ : Type} (f : β → γ → δ) (g : α → β) (h : α → γ) : ∀ l : List α, List.zipWith f (l.map g) (l.map h) = l.map fun z => f (g z) (h z)
  | [] => rfl
  | x :: l => by simp [zz f g h l]
theorem zs_of {a : Ac} (l : List Z3) (h1 : a.given = l.map fun z => (z.1, z.2.1)) (h2 : a.since = l.map fun z => (z.1, z.2.2)) : a.zs = l := by
  unfold Ac.zs
  rw [h1, h2, zz]
  simp
theorem lft_snoc (P : Str → Bool) (m : Str) {n : Int} (hn : 0 ≤ n) : ∀ zs : List Z3, lft P (zs ++ [(m, n, 0)]) = if P m then ((lft P zs).1 + n, (lft P zs).2 + n) else lft P zs
  | [] => by
    simp only [List.nil_append, lft]
    split
    · simp; omega
    · rfl
  | z :: zs => by
    have ih := lft_snoc P m hn zs
    simp only [List.cons_append, lft, ih]
    by_cases hm : P m = true
    · simp only [hm, if_true]
      by_cases hz : P z.1 = true
      · simp only [hz, if_true]
        refine Prod.ext ?_ ?_
        · show (lft P zs).1 + n + z.2.1 = (lft P zs).1 + z.2.1 + n; omega
        · show max ((lft P zs).2 + n) ((lft P zs).1 + n + z.2.1 - z.2.2) = max (lft P zs).2 ((lft P zs).1 + z.2.1 - z.2.2) + n; omega
      · simp only [hz]; rfl
    · simp only [hm]; rfl
theorem lft_days (P : Str → Bool) {n : Int} (hn : 0 ≤ n) : ∀ zs : List Z3, lft P (zs.map fun z => (z.1, z.2.1, z.2.2 + n)) = ((lft P zs).1, max 0 ((lft P zs).2 - n))
  | [] => by simp only [List.map_nil, lft]; refine Prod.ext rfl ?_; show (0 : Int) = max 0 (0 - n); omega
  | z :: zs => by
    have ih := lft_days P hn zs
    simp only [List.map_cons, lft, ih]
    by_cases hz : P z.1 = true
    · simp only [hz, if_true]
      refine Prod.ext rfl ?_
      show max (max 0 ((lft P zs).2 - n)) ((lft P zs).1 + z.2.1 - (z.2.2 + n)) = max 0 (max (lft P zs).2 ((lft P zs).1 + z.2.1 - z.2.2) - n)
      omega
    · simp only [hz]; rfl
theorem lft_filter (P : Str → Bool) {m : Str} (hm : P m = false) : ∀ zs : List Z3, lft P (zs.filter fun z => decide (z.1 ≠ m)) = lft P zs
  | [] => rfl
  | z :: zs => by
    have ih := lft_filter P hm zs
    by_cases e : z.1 = m
    · rw [List.filter_cons_of_neg (by simp [e]), ih]
      simp only [lft, e, hm]; rfl
    · rw [List.filter_cons_of_pos (by simp [e])]
      simp only [lft, ih]
theorem step_lft {P : Str → Bool} {a : Ac} (g : a.good) {d : Deed} (ok : okD d) (ha : a.ok d) (hb : ∀ m, d = .back m → P m = false) : (lft P (a.step d).zs).2 = glS P (lft P a.zs).2 d ∧ (a.step d).good := by
  refine ⟨?_, g.step ha⟩
  obtain ⟨eg, es⟩ := zip_given g.keys
  have eg : a.given = a.zs.map fun z => (z.1, z.2.1) := eg.symm
  have es : a.since = a.zs.map fun z => (z.1, z.2.2) := es.symm
  cases d with
  | op m n =>
    have hz : (a.step (.op m n)).zs = a.zs ++ [(m, n, 0)] := zs_of _ (by simp [Ac.step, eg]) (by simp [Ac.step, es])
    rw [hz, lft_snoc P m (by have := ok.2; omega)]
    show _ = (if P m = true then (lft P a.zs).2 + n else (lft P a.zs).2)
    split <;> rfl
  | days n =>
    have hz : (a.step (.days n)).zs = a.zs.map fun z => (z.1, z.2.1, z.2.2 + n) := zs_of _ (by simp [Ac.step, eg, List.map_map]) (by simp [Ac.step, es, List.map_map])
    rw [hz, lft_days P (by have : 0 < n := ok; omega)]
    rfl
  | pause n => rfl
  | back m =>
    have hz : (a.step (.back m)).zs = a.zs.filter fun z => decide (z.1 ≠ m) := zs_of _ (by simp only [Ac.step]; rw [eg, List.filter_map]; rfl) (by simp only [Ac.step]; rw [es, List.filter_map]; rfl)
    rw [hz, lft_filter P (hb m rfl)]
    rfl
theorem gl_run {P : Str → Bool} : ∀ (r : List Deed) (a : Ac), a.good → (∀ d ∈ r, okD d) → a.oks r → (∀ m ∈ r.flatMap backs, P m = false) → gl P (lft P a.zs).2 r = (lft P (a.run r).zs).2
  | [], a, _, _, _, _ => rfl
  | d :: r, a, g, ok, ha, hb => by
    obtain ⟨h1, h2⟩ := step_lft (P := P) g (ok d (by simp)) ha.1 (fun m e => hb m (by rw [e]; simp [backs]))
    show gl P (glS P (lft P a.zs).2 d) r = _
    rw [← h1]
    exact gl_run r (a.step d) h2 (fun x hx => ok x (by simp [hx])) ha.2 (fun m hm => hb m (by simp [hm]))
theorem gl_left {row : List Deed} (hv : ValidRow row) {ms : List Str} (hm : ∀ m ∈ ms, m ∈ marksOf row) : gl (inP ms) 0 row = leftV row ms := by
  have h := gl_run (P := inP ms) row ac0 good0 hv.ok (vd_oks hv.vd) fun m hb => by
    unfold inP
    rw [decide_eq_false_iff_not]
    intro hin
    have q := hm m hin
    rw [(count_marks row hv.vd).1, List.mem_filter] at q
    exact (of_decide_eq_true q.2) hb
  exact h
/-! ### .. and the greatest of the candidates -/
theorem sufO_pos {P : Str → Bool} : ∀ {r : List Deed} (x : Int), (∀ d ∈ r, okD d) → x + sufO P r - sufD r ≤ gl P x r
  | [], x, _ => by show x + 0 - 0 ≤ x; omega
  | d :: r, x, ok => by
    have ih := fun y => sufO_pos (P := P) (r := r) y fun e he => ok e (by simp [he])
    show x + sufO P (d :: r) - sufD (d :: r) ≤ gl P (glS P x d) r
    have h := ih (glS P x d)
    cases d with
    | op m n =>
      have h : (if P m = true then x + n else x) + sufO P r - sufD r ≤ gl P (glS P x (.op m n)) r := h
      show x + ((if P m = true then n else 0) + sufO P r) - sufD r ≤ _
      split at h <;> split <;> first | omega | contradiction
    | days n =>
      have h : max 0 (x - n) + sufO P r - sufD r ≤ gl P (glS P x (.days n)) r := h
      show x + sufO P r - (n + sufD r) ≤ _
      omega
    | pause n => exact h
    | back m => exact h
theorem gl_nonneg {P : Str → Bool} : ∀ (r : List Deed) (x : Int), (∀ d ∈ r, okD d) → 0 ≤ x → 0 ≤ gl P x r
  | [], x, _, h => h
  | d :: r, x, ok, h => by
    refine gl_nonneg r _ (fun e he => ok e (by simp [he])) ?_
    cases d with
    | op m n =>
      have : 0 < n := (ok _ (by simp) : okD (.op m n)).2
      show 0 ≤ (if P m = true then x + n else x)
      split <;> omega
    | days n => show 0 ≤ max 0 (x - n); omega
    | pause n => exact h
    | back m => exact h
theorem gl_app (P : Str → Bool) : ∀ (r1 r2 : List Deed) (x : Int), gl P x (r1 ++ r2) = gl P (gl P x r1) r2
  | [], _, _ => rfl
  | d :: r1, r2, x => gl_app P r1 r2 (glS P x d)
/-- what gl is made of: nothing, or the candidate of an opening -/
def Cand (P : Str → Bool) (r : List Deed) (v : Int) : Prop := v = 0 ∨ ∃ r1 m n r2, r = r1 ++ .op m n :: r2 ∧ P m = true ∧ v = sufO P (.op m n :: r2) - sufD (.op m n :: r2)
theorem Cand.cons {P : Str → Bool} {r : List Deed} {v : Int} (d : Deed) (h : Cand P r v) : Cand P (d :: r) v :=
  h.imp id fun ⟨r1, m, n, r2, e, hp, hv⟩ => ⟨d :: r1, m, n, r2, by rw [e]; rfl, hp, hv⟩
theorem gl_cand {P : Str → Bool} : ∀ (r : List Deed), (∀ d ∈ r, okD d) → (∀ x, 0 ≤ x → gl P x r = x + sufO P r - sufD r ∨ Cand P r (gl P x r)) ∧ Cand P r (gl P 0 r)
  | [], _ => ⟨fun x _ => .inl (by show x = x + 0 - 0; omega), .inl rfl⟩
  | d :: r, ok => by
    have okr : ∀ e ∈ r, okD e := fun e he => ok e (by simp [he])
    have okd := ok d (by simp)
    obtain ⟨h1, h2⟩ := gl_cand r okr
    have key : ∀ x, 0 ≤ x → gl P x (d :: r) = x + sufO P (d :: r) - sufD (d :: r) ∨ Cand P (d :: r) (gl P x (d :: r)) := fun x hx => by
      show gl P (glS P x d) r = _ ∨ Cand P (d :: r) (gl P (glS P x d) r)
      cases d with
      | op m n =>
        have hn : 0 < n := okd.2
        by_cases hp : P m = true
        · have e : glS P x (.op m n) = x + n := if_pos hp
          have e2 : sufO P (.op m n :: r) = n + sufO P r := by show (if P m = true then n else 0) + _ = _; rw [if_pos hp]
          have e3 : sufD (.op m n :: r) = sufD r := rfl
          rw [e, e2, e3]
          rcases h1 (x + n) (by omega) with q | q
          · exact .inl (by rw [q]; omega)
          · exact .inr (q.cons _)
        · have e : glS P x (.op m n) = x := if_neg hp
          have e2 : sufO P (.op m n :: r) = sufO P r := by show (if P m = true then n else 0) + _ = _; rw [if_neg hp]; omega
          have e3 : sufD (.op m n :: r) = sufD r := rfl
          rw [e, e2, e3]
          exact (h1 x hx).imp id (·.cons _)
      | days n =>
        have hn : 0 < n := okd
        have e3 : sufD (.days n :: r) = n + sufD r := rfl
        have e2 : sufO P (.days n :: r) = sufO P r := rfl
        rw [e3, e2]
        by_cases hxn : n ≤ x
        · have e : glS P x (.days n) = x - n := by show max 0 (x - n) = _; omega
          rw [e]
          rcases h1 (x - n) (by omega) with q | q
          · exact .inl (by rw [q]; omega)
          · exact .inr (q.cons _)
        · have e : glS P x (.days n) = 0 := by show max 0 (x - n) = _; omega
          rw [e]
          exact .inr (h2.cons _)
      | pause n => exact (h1 x hx).imp id (·.cons _)
      | back m => exact (h1 x hx).imp id (·.cons _)
    refine ⟨key, ?_⟩
    cases d with
    | op m n =>
      have hn : 0 < n := okd.2
      by_cases hp : P m = true
      · show Cand P _ (gl P (glS P 0 (.op m n)) r)
        have e : glS P 0 (.op m n) = n := by show (if P m = true then 0 + n else 0) = n; rw [if_pos hp]; omega
        rw [e]
        rcases h1 n (by omega) with q | q
        · refine .inr ⟨[], m, n, r, rfl, hp, ?_⟩
          rw [q]
          show n + sufO P r - sufD r = ((if P m = true then n else 0) + sufO P r) - sufD r
          rw [if_pos hp]
        · exact q.cons _
      · show Cand P _ (gl P (glS P 0 (.op m n)) r)
        rw [show glS P 0 (.op m n) = 0 from if_neg hp]
        exact h2.cons _
    | days n =>
      have hn : 0 < n := okd
      show Cand P _ (gl P (glS P 0 (.days n)) r)
      rw [show glS P 0 (.days n) = 0 by show max 0 (0 - n) = 0; omega]
      exact h2.cons _
    | pause n => exact h2.cons _
    | back m => exact h2.cons _
theorem hits_app (m : Str) : ∀ (r1 r2 : List Deed) (i : Nat), hits m i (r1 ++ r2) = hits m i r1 ++ hits m (i + r1.length) r2
  | [], _, _ => by simp [hits]
  | d :: r1, r2, i => by
    have ih := hits_app m r1 r2 (i + 1)
    have e : i + (d :: r1).length = i + 1 + r1.length := by simp; omega
    rw [e]
    cases d with
    | op k n =>
      simp only [List.cons_append, hits]
      split
      · rw [ih]; rfl
      · rw [ih]
    | days n => exact ih
    | pause n => exact ih
    | back n => exact ih
theorem hits_none {m : Str} : ∀ {r : List Deed} {i : Nat}, m ∉ r.flatMap opens → hits m i r = []
  | [], _, _ => rfl
  | d :: r, i, h => by
    have h2 : m ∉ r.flatMap opens := fun q => h (by simp; exact .inr (by simpa using q))
    cases d with
    | op k n =>
      have : ¬ k = m := fun e => h (by simp [opens, e])
      show (if k = m then _ else hits m (i + 1) r) = []
      rw [if_neg this]
      exact hits_none h2
    | days n => exact hits_none (i := i + 1) h2
    | pause n => exact hits_none (i := i + 1) h2
    | back n => exact hits_none (i := i + 1) h2
theorem split_op {m : Str} : ∀ {r : List Deed}, m ∈ r.flatMap opens → ∃ r1 n r2, r = r1 ++ .op m n :: r2
  | d :: r, h => by
    rw [List.flatMap_cons, List.mem_append] at h
    rcases h with h | h
    · cases d with
      | op k n =>
        have : m = k := by simpa [opens] using h
        subst this
        exact ⟨[], n, r, rfl⟩
      | _ => cases h
    · obtain ⟨r1, n, r2, e⟩ := split_op h
      exact ⟨d :: r1, n, r2, by rw [e]; rfl⟩
theorem hits_one {row : List Deed} (nd : (row.flatMap opens).Nodup) {r1 r2 : List Deed} {m : Str} {n : Int} (e : row = r1 ++ .op m n :: r2) : hits m 0 row = [(r1.length : Int)] ∧ r1.length < row.length ∧ row.drop r1.length = .op m n :: r2 := by
  subst e
  rw [List.flatMap_append, List.flatMap_cons, List.nodup_append] at nd
  obtain ⟨_, nd2, nd3⟩ := nd
  have n1 : m ∉ r1.flatMap opens := fun q => nd3 m q m (by simp [opens]) rfl
  have n2 : m ∉ r2.flatMap opens := by
    rw [List.nodup_append] at nd2
    exact fun q => nd2.2.2 m (by simp [opens]) m q rfl
  refine ⟨?_, by simp, by simp⟩
  rw [hits_app, hits_none n1]
  show [] ++ (if m = m then ((0 + r1.length : Nat) : Int) :: hits m (0 + r1.length + 1) r2 else _) = _
  rw [if_pos rfl, hits_none n2]
  simp
theorem factV_ge (ms : List Str) (row : List Deed) : ∀ (l : List Nat) (x : Int), x ≤ factV ms row x l ∧ ∀ a ∈ l, candF ms row a ≤ factV ms row x l
  | [], x => ⟨Int.le_refl x, fun _ h => by cases h⟩
  | b :: l, x => by
    obtain ⟨h1, h2⟩ := factV_ge ms row l (max x (candF ms row b))
    refine ⟨?_, fun a ha => ?_⟩
    · show x ≤ factV ms row (max x (candF ms row b)) l; omega
    · show _ ≤ factV ms row (max x (candF ms row b)) l
      rcases List.mem_cons.mp ha with rfl | ha
      · omega
      · exact h2 a ha
theorem factV_le (ms : List Str) (row : List Deed) {y : Int} : ∀ (l : List Nat) (x : Int), x ≤ y → (∀ a ∈ l, candF ms row a ≤ y) → factV ms row x l ≤ y
  | [], x, h, _ => h
  | b :: l, x, h, k => factV_le ms row l _ (by have := k b (by simp); omega) fun a ha => k a (by simp [ha])
theorem fact_gl {row : List Deed} (ok : ∀ d ∈ row, okD d) (nd : (row.flatMap opens).Nodup) {ms : List Str} {at_ : Str → Nat} (hm : ∀ m ∈ ms, m ∈ row.flatMap opens) (ha : ∀ m ∈ ms, hits m 0 row = [(at_ m : Int)]) : factV ms row 0 (ms.map at_) = gl (inP ms) 0 row := by
  have cand : ∀ r1 m n r2, row = r1 ++ .op m n :: r2 → m ∈ ms → candF ms row (at_ m) = sufO (inP ms) (.op m n :: r2) - sufD (.op m n :: r2) := fun r1 m n r2 e h => by
    obtain ⟨h1, _, h3⟩ := hits_one nd e
    have h4 := ha m h
    rw [h1] at h4
    have h5 : r1.length = at_ m := by
      have := (List.cons.inj h4).1
      omega
    unfold candF
    rw [← h5, h3]
  refine Int.le_antisymm (factV_le ms row _ 0 (gl_nonneg row 0 ok (Int.le_refl 0)) fun a h => ?_) ?_
  · obtain ⟨m, h1, rfl⟩ := List.mem_map.mp h
    obtain ⟨r1, n, r2, e⟩ := split_op (hm m h1)
    rw [cand r1 m n r2 e h1]
    have okr : ∀ d ∈ Deed.op m n :: r2, okD d := fun d hd => ok d (by rw [e]; simp at hd ⊢; exact .inr hd)
    have h6 := sufO_pos (P := inP ms) (gl (inP ms) 0 r1) okr
    have h7 := gl_nonneg (P := inP ms) r1 0 (fun d hd => ok d (by rw [e]; simp [hd])) (Int.le_refl 0)
    have h8 : gl (inP ms) 0 row = gl (inP ms) (gl (inP ms) 0 r1) (.op m n :: r2) := by rw [e, gl_app]
    omega
  · obtain ⟨g1, g2⟩ := factV_ge ms row (ms.map at_) 0
    rcases (gl_cand (P := inP ms) row ok).2 with q | ⟨r1, m, n, r2, e, hp, q⟩
    · omega
    · have hmm : m ∈ ms := of_decide_eq_true hp
      have := g2 (at_ m) (List.mem_map.mpr ⟨m, hmm, rfl⟩)
      rw [cand r1 m n r2 e hmm] at this
      omega
end PP

set_option Elab.async false
set_option linter.all false
set_option maxRecDepth 100000
set_option maxHeartbeats 4000000
namespace PP
open PySem L2 TL
/-! ### small rows, shown things -/
theorem btw_small {w : Int} {b : List Str} {l : List Deed} {b' : List Str} (h : Btw w b l b') (hw : w < 10 ^ 100) : ∀ d ∈ l, small d := by
  induction h with
  | nil => intro d h; cases h
  | days _ _ h2 ih =>
    intro d h
    rcases List.mem_append.mp h with h | h
    · exact ih d h
    · rw [List.mem_singleton.mp h]
      exact Int.lt_of_le_of_lt h2 hw
  | pause _ _ h2 ih =>
    intro d h
    rcases List.mem_append.mp h with h | h
    · exact ih d h
    · rw [List.mem_singleton.mp h]
      exact Int.lt_of_le_of_lt h2 (by decide)
  | back _ _ ih =>
    intro d h
    rcases List.mem_append.mp h with h | h
    · exact ih d h
    · rw [List.mem_singleton.mp h]
      exact trivial
theorem rowR_small {w : Int} {ps : List Str} {row : List Deed} {b : List Str} (h : RowR w ps row b) (hw : w < 10 ^ 100) : ∀ d ∈ row, small d := by
  induction h with
  | nil => intro d h; cases h
  | step _ bt _ h2 ih =>
    intro d h
    rcases List.mem_append.mp h with h | h
    · rcases List.mem_append.mp h with h | h
      · exact ih d h
      · exact btw_small bt hw d h
    · rw [List.mem_singleton.mp h]
      exact Int.lt_of_le_of_lt h2 hw
theorem rowF_small {w : Int} {ps : List Str} {row : List Deed} (h : RowF w ps row) (hw : w < 10 ^ 100) : ∀ d ∈ row, small d := by
  obtain ⟨row0, b, l, b', rr, bt, rfl⟩ := h
  intro d hd
  rcases List.mem_append.mp hd with hd | hd
  · exact rowR_small rr hw d hd
  · exact btw_small bt hw d hd
structure OkR (r : List Deed) : Prop where
  v : ValidRow r
  s : ∀ d ∈ r, small d
  l : r.length ≤ 1000
theorem OkR.b {r : List Deed} (h : OkR r) : ∀ d ∈ r, okD d ∧ small d := fun d hd => ⟨h.v.ok d hd, h.s d hd⟩
theorem OkR.text {r : List Deed} (h : OkR r) : reprOk (.str (textOf r)) = true ∧ (ps (.str (textOf r))).shown.length ≤ sizeLine :=
  text_repr (by have := text_len h.b; have := h.l; omega) (text_small h.v.ok)

theorem gl_bound {P : Str → Bool} : ∀ (r : List Deed) (x : Int), (∀ d ∈ r, okD d ∧ small d) → 0 ≤ x → gl P x r ≤ x + r.length * 10 ^ 100
  | [], x, _, h => by show x ≤ x + (0 : Nat) * 10 ^ 100; omega
  | d :: r, x, ok, h => by
    have okd := ok d (by simp)
    have h0 : 0 ≤ glS P x d := gl_nonneg [d] x (fun e he => by rw [List.mem_singleton.mp he]; exact okd.1) h
    have ih := gl_bound (P := P) r (glS P x d) (fun e he => ok e (by simp [he])) h0
    have h1 : glS P x d ≤ x + 10 ^ 100 := by
      cases d with
      | op m n =>
        have : n < 10 ^ 100 := okd.2
        have : 0 < n := okd.1.2
        show (if P m = true then x + n else x) ≤ _
        split <;> omega
      | days n =>
        have : 0 < n := okd.1
        show max 0 (x - n) ≤ _; omega
      | pause n => show x ≤ _; omega
      | back m => show x ≤ _; omega
    show gl P (glS P x d) r ≤ x + ((r.length + 1 : Nat) : Int) * 10 ^ 100
    have e : ((r.length + 1 : Nat) : Int) * 10 ^ 100 = r.length * 10 ^ 100 + 10 ^ 100 := by rw [Int.natCast_add, Int.add_mul]; rfl
    omega
theorem int_shown {n : Int} (h0 : 0 ≤ n) (h2 : n < 10 ^ 110) : (PyData.shown (.int n)).length ≤ 110 := by
  have e : n = ((n.toNat : Nat) : Int) := by omega
  show (Str.ofString (toString n)).length ≤ 110
  rw [len_tl, e, tl_num]
  refine numL_len (by decide) ?_
  have : ((n.toNat : Nat) : Int) < ((10 ^ 110 : Nat) : Int) := by rw [← e]; exact h2
  exact Int.ofNat_lt.mp this
theorem int_log {n : Int} (h0 : 0 ≤ n) (h2 : n < 10 ^ 110) : n.natAbs.log2 < 1920 := by
  by_cases e : n.natAbs = 0
  · rw [e]; decide
  · refine (Nat.log2_lt e).mpr ?_
    have h : n.natAbs < 10 ^ 110 := by
      have : ((n.natAbs : Nat) : Int) < ((10 ^ 110 : Nat) : Int) := by rw [Int.natAbs_of_nonneg h0]; exact h2
      exact Int.ofNat_lt.mp this
    exact Nat.lt_of_lt_of_le h (by decide +kernel)
theorem int_repr {n : Int} (h0 : 0 ≤ n) (h2 : n < 10 ^ 110) : reprOk (.int n) = true ∧ (ps (.int n)).shown.length ≤ sizeLine :=
  ⟨by simp [reprOk, psOk, ps, PyData.hasDict, PyData.showable, PyData.depth, int_log h0 h2], Nat.le_trans (int_shown h0 h2) (by decide)⟩
theorem ints_repr {n m : Int} (h0 : 0 ≤ n) (h2 : n < 10 ^ 110) (k0 : 0 ≤ m) (k2 : m < 10 ^ 110) : reprOk (.lst [.int n, .int m]) = true ∧ (ps (.lst [.int n, .int m])).shown.length ≤ sizeLine := by
  refine ⟨by simp [reprOk, psOk, psOks, ps, pss, PyData.hasDict, PyData.hasDictAll, PyData.showable, PyData.showableAll, PyData.depth, PyData.depthAll, int_log h0 h2, int_log k0 k2], ?_⟩
  have q := PyData.shown_le_bulk 110 (by decide) (ps (.lst [.int n, .int m])) (by
    simp only [ps, pss, PyData.leavesShort, PyData.leavesShortAll, int_shown h0 h2, int_shown k0 k2, decide_true, Bool.and_self])
  have e : (ps (.lst [.int n, .int m])).bulk = (ps (.lst [.int 0, .int 0])).bulk := rfl
  rw [e] at q
  exact Nat.le_trans q (by decide)
theorem OkR.left {r : List Deed} (h : OkR r) {ms : List Str} (hm : ∀ m ∈ ms, m ∈ marksOf r) : 0 ≤ leftV r ms ∧ leftV r ms < 10 ^ 110 := by
  rw [← gl_left h.v hm]
  refine ⟨gl_nonneg r 0 h.v.ok (Int.le_refl 0), ?_⟩
  have q := gl_bound (P := inP ms) r 0 h.b (Int.le_refl 0)
  have e : (r.length : Int) * 10 ^ 100 ≤ 1000 * 10 ^ 100 := Int.mul_le_mul_of_nonneg_right (by have := h.l; omega) (by decide)
  have e2 : (1000 : Int) * 10 ^ 100 < 10 ^ 110 := by decide
  omega
/-! ### one odd thing -/
def odds : List D := [.non, .int 5, .str "", .str "A", .tup [.str "a"], .lst [.str "a"], .dct [], .bl true]
def Odd (x : D) : Prop := x ∈ odds ∨ ∃ m, x = .str m ∧ MarkOk m
def isS (ms : List Str) : D → Bool
  | .str m => decide (m ∈ ms)
  | _ => false
theorem any_str (ms : List Str) (m : Str) : ((ms.map D.str).any fun y => eqD y (.str m)) = decide (m ∈ ms) := by
  induction ms with
  | nil => rfl
  | cons x ms ih =>
    rw [List.map_cons, List.any_cons, ih]
    have e : eqD (.str x) (.str m) = decide (x = m) := by
      simp only [eqD, pd, PyData.eqv]
      by_cases q : x = m
      · simp [q]
      · simp [q]
    rw [e]
    by_cases q : x = m
    · simp [q]
    · simp [q, Ne.symm q]
theorem any_none (ms : List Str) {x : D} (h : ∀ m, eqD (.str m) x = false) : ((ms.map D.str).any fun y => eqD y x) = false := by
  rw [List.any_eq_false]
  intro y hy
  obtain ⟨m, _, rfl⟩ := List.mem_map.mp hy
  rw [h m]; exact Bool.false_ne_true
theorem and_sh {a b : Bool} (h : b = true) (k : a = true) : (a && b) = true := by rw [h, k]; rfl
theorem odd_in {x : D} (h : Odd x) {ms : List Str} (hs : ∀ m ∈ ms, PyData.strOk m = true) : inOkD x (ms.map D.str) = true ∧ inAnyD x (ms.map D.str) = isS ms x := by
  have sh := shp_strs ms hs
  rcases h with h | ⟨m, rfl, hm⟩
  · simp only [odds, List.mem_cons, List.not_mem_nil, or_false] at h
    rcases h with rfl | rfl | rfl | rfl | rfl | rfl | rfl | rfl
    · exact ⟨and_sh (a := SeqAt.shaped (pd D.non)) sh (by decide +kernel), any_none ms fun m => rfl⟩
    · exact ⟨and_sh (a := SeqAt.shaped (pd (.int 5))) sh (by decide +kernel), any_none ms fun m => rfl⟩
    · exact ⟨and_sh (a := SeqAt.shaped (pd _)) sh (by decide +kernel), any_str ms _⟩
    · exact ⟨and_sh (a := SeqAt.shaped (pd _)) sh (by decide +kernel), any_str ms _⟩
    · exact ⟨and_sh (a := SeqAt.shaped (pd _)) sh (by decide +kernel), any_none ms fun m => rfl⟩
    · exact ⟨and_sh (a := SeqAt.shaped (pd _)) sh (by decide +kernel), any_none ms fun m => rfl⟩
    · refine ⟨?_, rfl⟩
      show ((ms.map D.str).all isStr) = true
      rw [List.all_eq_true]
      intro y hy
      obtain ⟨m, _, rfl⟩ := List.mem_map.mp hy
      rfl
    · exact ⟨and_sh (a := SeqAt.shaped (pd (.bl true))) sh (by decide +kernel), any_none ms fun m => rfl⟩
  · refine ⟨?_, any_str ms m⟩
    have : PyData.strOk m = true := mark_str hm
    exact and_sh sh (by simp [SeqAt.shaped, pd, PyData.canLay0, PyData.depth, this])
theorem odd_blt {x : D} (h : Odd x) : bltTy (tyD x) = true := by
  rcases h with h | ⟨m, rfl, hm⟩
  · simp only [odds, List.mem_cons, List.not_mem_nil, or_false] at h
    rcases h with rfl | rfl | rfl | rfl | rfl | rfl | rfl | rfl <;> rfl
  · rfl
theorem odd_repr {x : D} (h : Odd x) : reprOk (.tup [x]) = true ∧ (ps (.tup [x])).shown.length ≤ sizeLine := by
  rcases h with h | ⟨m, rfl, hm⟩
  · simp only [odds, List.mem_cons, List.not_mem_nil, or_false] at h
    rcases h with rfl | rfl | rfl | rfl | rfl | rfl | rfl | rfl <;> exact ⟨by decide +kernel, by decide +kernel⟩
  · refine ⟨rfl, ?_⟩
    have q := PyData.shown_le_bulk 110 (by decide) (ps (.tup [.str m])) (by
      simp only [ps, pss, PyData.leavesShort, PyData.leavesShortAll, Bool.and_true]
      rw [List.all_eq_true]
      intro c hc
      have := markOk_let hm c hc
      exact decide_eq_true (by omega))
    have e : (ps (.tup [.str m])).bulk ≤ 20 := by
      simp only [ps, pss, PyData.bulk, PyData.bulkAll]
      have : m.cps.size ≤ 8 := hm.2.1
      omega
    have := sizeLine_big
    omega
theorem nil_repr : reprOk (.tup []) = true ∧ (ps (.tup [])).shown.length ≤ sizeLine := ⟨by decide +kernel, by decide +kernel⟩
theorem isMk_isS {ks ms : List Str} {x : D} : isMk ks ms x ↔ (isS ks x = true ∧ isS ms x = false) := by
  cases x <;> simp [isMk, isS]
theorem strs_of {ys : List D} {l : List Str} (h : ys.Perm (l.map D.str)) : ∃ zs : List Str, ys = zs.map D.str ∧ zs.Perm l := by
  have key : ∀ ys : List D, (∀ y ∈ ys, ∃ m, y = D.str m) → ∃ zs : List Str, ys = zs.map D.str := fun ys => by
    induction ys with
    | nil => exact fun _ => ⟨[], rfl⟩
    | cons y ys ih =>
      intro q
      obtain ⟨zs, e⟩ := ih fun y hy => q y (List.mem_cons_of_mem _ hy)
      obtain ⟨m, rfl⟩ := q y List.mem_cons_self
      exact ⟨m :: zs, by rw [e]; rfl⟩
  obtain ⟨zs, rfl⟩ := key ys fun y hy => by
    obtain ⟨m, _, e⟩ := List.mem_map.mp (h.mem_iff.mp hy)
    exact ⟨m, e.symm⟩
  refine ⟨zs, rfl, ?_⟩
  have f : ∀ l : List Str, (l.map D.str).map (fun d => match d with | .str m => m | _ => ("" : Str)) = l := fun l => by
    rw [List.map_map]; exact (List.map_congr_left fun x _ => rfl).trans (List.map_id l)
  have := h.map (fun d => match d with | .str m => m | _ => ("" : Str))
  rw [f, f] at this
  exact this
theorem leftV_perm {row : List Deed} {a b : List Str} (h : a.Perm b) : leftV row a = leftV row b := by
  unfold leftV
  rw [lft_congr fun m => ?_]
  exact decide_eq_decide.mpr h.mem_iff
end PP

set_option Elab.async false
set_option linter.all false
set_option maxRecDepth 100000
set_option maxHeartbeats 4000000
namespace PP
open PySem L2 TL
def N_law : List Str := ["_law_script", "_law_stream", "_law_turn", "_law_pool_here", "_law_row_here", "_law_some", "_law_odd", "_law_bad", "_law_due", "_law_account", "_law_marks", "_law_passed", "_law_found"]
def c_law : List Sx := [(.for_ (.one 2) (.bi .range [(.int 6)]) [(.asg 3 (.call "_law_pool" [(.var 1), (.call "_law_draw" [(.var 1), (.int 7)] 0)] 0)), (.asg 4 (.call "_law_row" [(.var 1), (.var 3), (.call "_law_pick" [(.var 1), (.lst [(.int 4), (.int 12), (.int 60), (.bin .pow (.int 10) (.int 29))])] 0)] 0)), (.asgT (.tup [(.one 9), (.one 10)]) (.tup [(.call "Account" [(.var 4)] 0), (.call "_law_counting" [(.var 4)] 0)])), (.for_ (.one 5) (.call "_law_sets" [(.var 10)] 0) [(.asg 11 (.call "_law_mixed" [(.var 1), (.var 5)] 0)), (.asg 11 (.call "_law_pick" [(.var 1), (.lst [(.var 11), (.bi .tuple [(.var 11)])])] 0)), (.asg 12 (.call "left" [(.var 9), (.var 11)] 0)), (.ite (.or (.not (.call "_law_same" [(.var 12), (.call "_law_left" [(.var 4), (.var 5)] 0)] 0)) (.cmp .ne (.var 12) (.call "_law_fact" [(.var 4), (.var 5)] 0))) [(.ret (.bl false))] [])]), (.ite (.not (.call "_law_same" [(.lst [(.call "left" [(.var 9)] 1), (.call "left" [(.var 9), .non] 0)]), (.bin .rep (.lst [(.call "_law_left" [(.var 4), (.var 10)] 0)]) (.int 2))] 0)) [(.ret (.bl false))] []), (.asg 6 (.call "_law_pick" [(.var 1), (.bin .add (.bin .add (.lst [.non, (.int 5), (.str ""), (.str "A"), (.tup [(.str "a")]), (.lst [(.str "a")]), (.dct [] []), (.bl true)]) (.var 10)) (.var 3))] 0)), (.asg 7 (.sli (.call "_law_mixed" [(.var 1), (.var 10)] 0) none (some (.call "_law_draw" [(.var 1), (.bin .add (.bi .len [(.var 10)]) (.int 1))] 0)))), (.asg 8 (.ite (.or (.cmp .notinD (.var 6) (.var 10)) (.cmp .isinD (.var 6) (.var 7))) (.tup [(.var 6)]) (.tup []))), (.ite (.or (.not (.call "_law_same" [(.lam "_law_refused" [6, 7, 9] (.call "left" [(.var 9), (.bin .add (.var 7) (.lst [(.var 6)]))] 0)), (.var 8)] 0)) (.oeq "Account" true (.var 9) (.call "Account" [(.var 4)] 0))) [(.ret (.bl false))] [])]), (.ret (.and (.cmp .eq (.call "left" [(.call "Account" [] 1)] 1) (.int 0)) (.cmp .eq (.call "left" [(.call "Account" [(.lst [(.tup [(.str "days"), (.int 3)])])] 0), (.lst [])] 0) (.int 0))))]
def b_in : List Sx := [(.asg 11 (.call "_law_mixed" [(.var 1), (.var 5)] 0)), (.asg 11 (.call "_law_pick" [(.var 1), (.lst [(.var 11), (.bi .tuple [(.var 11)])])] 0)), (.asg 12 (.call "left" [(.var 9), (.var 11)] 0)), (.ite (.or (.not (.call "_law_same" [(.var 12), (.call "_law_left" [(.var 4), (.var 5)] 0)] 0)) (.cmp .ne (.var 12) (.call "_law_fact" [(.var 4), (.var 5)] 0))) [(.ret (.bl false))] [])]
def b_last : Sx := (.ite (.or (.not (.call "_law_same" [(.lam "_law_refused" [6, 7, 9] (.call "left" [(.var 9), (.bin .add (.var 7) (.lst [(.var 6)]))] 0)), (.var 8)] 0)) (.oeq "Account" true (.var 9) (.call "Account" [(.var 4)] 0))) [(.ret (.bl false))] [])
def b_turn : List Sx := [(.asg 3 (.call "_law_pool" [(.var 1), (.call "_law_draw" [(.var 1), (.int 7)] 0)] 0)), (.asg 4 (.call "_law_row" [(.var 1), (.var 3), (.call "_law_pick" [(.var 1), (.lst [(.int 4), (.int 12), (.int 60), (.bin .pow (.int 10) (.int 29))])] 0)] 0)), (.asgT (.tup [(.one 9), (.one 10)]) (.tup [(.call "Account" [(.var 4)] 0), (.call "_law_counting" [(.var 4)] 0)])), (.for_ (.one 5) (.call "_law_sets" [(.var 10)] 0) b_in), (.ite (.not (.call "_law_same" [(.lst [(.call "left" [(.var 9)] 1), (.call "left" [(.var 9), .non] 0)]), (.bin .rep (.lst [(.call "_law_left" [(.var 4), (.var 10)] 0)]) (.int 2))] 0)) [(.ret (.bl false))] []), (.asg 6 (.call "_law_pick" [(.var 1), (.bin .add (.bin .add (.lst [.non, (.int 5), (.str ""), (.str "A"), (.tup [(.str "a")]), (.lst [(.str "a")]), (.dct [] []), (.bl true)]) (.var 10)) (.var 3))] 0)), (.asg 7 (.sli (.call "_law_mixed" [(.var 1), (.var 10)] 0) none (some (.call "_law_draw" [(.var 1), (.bin .add (.bi .len [(.var 10)]) (.int 1))] 0)))), (.asg 8 (.ite (.or (.cmp .notinD (.var 6) (.var 10)) (.cmp .isinD (.var 6) (.var 7))) (.tup [(.var 6)]) (.tup []))), (.ite (.or (.not (.call "_law_same" [(.lam "_law_refused" [6, 7, 9] (.call "left" [(.var 9), (.bin .add (.var 7) (.lst [(.var 6)]))] 0)), (.var 8)] 0)) (.oeq "Account" true (.var 9) (.call "Account" [(.var 4)] 0))) [(.ret (.bl false))] [])]
theorem grow_length (acc : List (List Str)) (m : Str) : (grow acc m).length = 2 * acc.length := by
  unfold grow; simp; omega
theorem foldl_grow : ∀ (ms : List Str) (acc : List (List Str)), (ms.foldl grow acc).length = 2 ^ ms.length * acc.length
  | [], acc => by simp
  | m :: ms, acc => by
    rw [List.foldl_cons, foldl_grow ms, grow_length, List.length_cons, Nat.pow_succ, Nat.mul_assoc]
theorem sets_length (ms : List Str) : (setsOf ms).length = 2 ^ ms.length := by
  unfold setsOf
  rw [List.length_mergeSort]
  unfold subs
  rw [foldl_grow, (sortS_perm ms).length_eq]
  simp
theorem wides4 {x : D} (h : x ∈ [D.int 4, .int 12, .int 60, .int (10 ^ (29 : Int).toNat)]) : ∃ w : Int, x = .int w ∧ 1 ≤ w ∧ w ≤ 10 ^ 100 ∧ w < 10 ^ 100 := by
  simp only [List.mem_cons, List.not_mem_nil, or_false] at h
  rcases h with rfl | rfl | rfl | rfl
  · exact ⟨_, rfl, by decide, by decide, by decide⟩
  · exact ⟨_, rfl, by decide, by decide, by decide⟩
  · exact ⟨_, rfl, by decide, by decide, by decide⟩
  · exact ⟨_, rfl, by decide, by decide, by decide⟩
theorem law_in {Γ : Env} (h1 : Γ.fn "_law_mixed" = some (.pl conMixed false [])) (h2 : Γ.fn "_law_pick" = some (.pl conPick false [])) (h3 : Γ.fn "left" = some (.pl conLeftX false [.non])) (h4 : Γ.fn "_law_same" = some (.pl conSame true [])) (h5 : Γ.fn "_law_left" = some (.pl conLLeft false [])) (h6 : Γ.fn "_law_fact" = some (.pl conFact false []))
    {row : List Deed} (ok : OkR row) (hml : (marksOf row).length ≤ 6) (nd : (row.flatMap opens).Nodup) (mo : ∀ m ∈ marksOf row, m ∈ row.flatMap opens) {o2 o3 o6 o7 o8 o10 : Option P} : ∀ (l : List (List Str)) (c : Stm) (o5 o11 o12 : Option P) (n : En), (∀ s ∈ l, s.Nodup ∧ (∀ m ∈ s, m ∈ marksOf row) ∧ s.length ≤ 6) → isIo o5 = false → isIo o11 = false → isIo o12 = false → c.c + 7 * l.length ≤ 10000 →
    (∀ o5 o11 o12 c', isIo o5 = false → isIo o11 = false → isIo o12 = false → c'.c ≤ c.c + 7 * l.length → n.nx ⟨[none, some .stm, o2, o3, some (.fz (.lst (row.map Deed.d))), o5, o6, o7, o8, some (.fz (accD row)), o10, o11, o12], c'⟩) →
    forGo (.one 5) (exSs Γ b_in) (l.map tD) n ⟨[none, some .stm, o2, o3, some (.fz (.lst (row.map Deed.d))), o5, o6, o7, o8, some (.fz (accD row)), o10, o11, o12], c⟩ := by
  intro l
  induction l with
  | nil => exact fun c o5 o11 o12 n _ i5 i11 i12 _ hn => hn o5 o11 o12 c i5 i11 i12 (Nat.le_refl _)
  | cons s l ih =>
    intro c o5 o11 o12 n hl i5 i11 i12 hc hn
    obtain ⟨s1, s2, s3⟩ := hl s List.mem_cons_self
    have lc : (s :: l).length = l.length + 1 := rfl
    refine And.intro i5 ?_
    ((repeat (first | ((conv => whnf); refine And.intro (by first | exact rfl | exact trivial | exact ⟨rfl, rfl⟩ | exact ⟨rfl, strs_scal _⟩ | exact ⟨trivial, trivial⟩ | assumption | decide | omega) ?_) | ((conv => whnf); first | rw [h1]))); try (conv => whnf))
    refine ⟨s.map D.str, _, rfl, .inr rfl, by rw [List.length_map]; omega, by rw [List.length_map]; show c.c + s.length < _; omega, fun ys c2 hp hc2 => ⟨fun e => (by cases e), ?_⟩⟩
    rw [List.length_map] at hc2
    have hc2 : c2.c = c.c + s.length := hc2
    obtain ⟨zs, rfl, zp⟩ := strs_of hp
    ((repeat (first | ((conv => whnf); refine And.intro (by first | exact rfl | exact trivial | exact ⟨rfl, rfl⟩ | exact ⟨rfl, strs_scal _⟩ | exact ⟨trivial, trivial⟩ | assumption | decide | omega) ?_) | ((conv => whnf); first | rw [h2]))); try (conv => whnf))
    refine And.intro (show 2 ≤ sizeLine by decide) ?_
    ((repeat ((conv => whnf); refine And.intro (by first | exact rfl | exact trivial | exact ⟨rfl, rfl⟩ | exact ⟨rfl, strs_scal _⟩ | exact ⟨trivial, trivial⟩ | assumption | decide | omega) ?_)); try (conv => whnf))
    refine ⟨[.lst (zs.map D.str), .tup (zs.map D.str)], rfl, by simp, show 2 ≤ 1000000 by decide, show c2.c < 1000000 by omega, fun x c3 hx hc3 => ⟨fun e => (by cases e), ?_⟩⟩
    have hc3 : c3.c = c2.c + 1 := hc3
    have hzx : x = .lst (zs.map D.str) ∨ x = .tup (zs.map D.str) := by simpa using hx
    have zn : zs.Nodup := zp.nodup_iff.mpr s1
    have zm : ∀ m ∈ zs, m ∈ marksOf row := fun m hm => s2 m (zp.mem_iff.mp hm)
    ((repeat (first | ((conv => whnf); refine And.intro (by first | exact rfl | exact trivial | exact ⟨rfl, rfl⟩ | exact ⟨rfl, strs_scal _⟩ | exact ⟨trivial, trivial⟩ | assumption | decide | omega) ?_) | ((conv => whnf); first | rw [h3]))); try (conv => whnf))
    refine ⟨row, x, rfl, ok.v.good, by omega, .inr ⟨zs.map D.str, zs, none, hzx, ⟨zn, zm, rfl⟩, fun _ => ⟨fun e => (by cases e), ?_⟩, fun x e => (by cases e)⟩⟩
    have lb := ok.left zm
    have lp : leftV row zs = leftV row s := leftV_perm zp
    rw [lp] at lb ⊢
    ((repeat (first | ((conv => whnf); refine And.intro (by first | exact rfl | exact trivial | exact ⟨rfl, rfl⟩ | exact ⟨rfl, strs_scal _⟩ | exact ⟨trivial, trivial⟩ | assumption | decide | omega) ?_) | ((conv => whnf); first | rw [h4] | rw [h5]))); try (conv => whnf))
    refine ⟨row, _, s, rfl, .inr rfl, fun e => (by cases e), ?_⟩
    rw [gl_left ok.v s2]
    ((repeat ((conv => whnf); refine And.intro (by first | exact rfl | exact trivial | exact ⟨rfl, rfl⟩ | exact ⟨rfl, strs_scal _⟩ | exact ⟨trivial, trivial⟩ | assumption | decide | omega) ?_)); try (conv => whnf))
    refine ⟨.int (leftV row s), .int (leftV row s), rfl, int_repr lb.1 lb.2, int_repr lb.1 lb.2, fun _ => rfl, ?_⟩
    rw [decide_eq_true rfl]
    ((repeat (first | ((conv => whnf); refine And.intro (by first | exact rfl | exact trivial | exact ⟨rfl, rfl⟩ | exact ⟨rfl, strs_scal _⟩ | exact ⟨trivial, trivial⟩ | assumption | decide | omega) ?_) | ((conv => whnf); first | rw [h6]))); try (conv => whnf))
    have so : ∀ m ∈ s, m ∈ row.flatMap opens := fun m hm => mo m (s2 m hm)
    have ha : ∀ m ∈ s, ∃ a : Nat, a < row.length ∧ hits m 0 row = [(a : Int)] := fun m hm => by
      obtain ⟨r1, n1, r2, e⟩ := split_op (so m hm)
      obtain ⟨q1, q2, _⟩ := hits_one nd e
      exact ⟨_, q2, q1⟩
    refine ⟨row, _, s, fun m => if h : ∃ a : Nat, a < row.length ∧ hits m 0 row = [(a : Int)] then h.choose else 0, rfl, .inr rfl, fun m hm => ⟨(ha m hm).choose, (ha m hm).choose_spec.1, (ha m hm).choose_spec.2, dif_pos (ha m hm)⟩, fun e => (by cases e), ?_⟩
    rw [fact_gl ok.v.ok nd so (fun m hm => by rw [dif_pos (ha m hm)]; exact (ha m hm).choose_spec.2), gl_left ok.v s2]
    ((repeat ((conv => whnf); refine And.intro (by first | exact rfl | exact trivial | exact ⟨rfl, rfl⟩ | exact ⟨rfl, strs_scal _⟩ | exact ⟨trivial, trivial⟩ | assumption | decide | omega) ?_)); try (conv => whnf))
    rw [show decide (toV (D.int (leftV row s)) = toV (R.fz (D.int (leftV row s))).d) = true from decide_eq_true rfl]
    · ((repeat ((conv => whnf); refine And.intro (by first | exact rfl | exact trivial | exact ⟨rfl, rfl⟩ | exact ⟨rfl, strs_scal _⟩ | exact ⟨trivial, trivial⟩ | assumption | decide | omega) ?_)); try (conv => whnf))
      refine ih c3 _ _ _ n (fun x hx => hl x (List.mem_cons_of_mem _ hx)) rfl rfl rfl (by omega) fun o5 o11 o12 c' i5 i11 i12 hc' => hn o5 o11 o12 c' i5 i11 i12 (by omega)
theorem p_law {Γ : Env} (h1 : Γ.fn "_law_draw" = some (.pl conDrawN true [])) (h2 : Γ.fn "_law_pick" = some (.pl conPick false [])) (h3 : Γ.fn "_law_pool" = some (.pl conPool false [])) (h4 : Γ.fn "_law_row" = some (.pl conRow false [])) (h5 : Γ.fn "Account" = some (.pl conMk false [.kt []]))
    (h6 : Γ.fn "_law_counting" = some (.pl conCounting false [])) (h7 : Γ.fn "_law_sets" = some (.pl conSets false [])) (h8 : Γ.fn "_law_mixed" = some (.pl conMixed false [])) (h9 : Γ.fn "left" = some (.pl conLeftX false [.non])) (h10 : Γ.fn "_law_same" = some (.pl conSame true [])) (h11 : Γ.fn "_law_left" = some (.pl conLLeft false [])) (h12 : Γ.fn "_law_fact" = some (.pl conFact false []))
    (h13 : Γ.mth "Account" "__eq__" = some (.pl conEq false [])) (h14 : Γ.ask "_law_refused" = some (askA "NoMark" "mark")) : LawOk Γ 13 c_law := by
  intro c hc
  have go : ∀ (j : Nat) (k : Int) (c1 : Stm) (o2 o3 o4 o5 o6 o7 o8 o9 o10 o11 o12 : Option P) (n : En), isIo o2 = false → isIo o3 = false → isIo o4 = false → isIo o5 = false → isIo o6 = false → isIo o7 = false → isIo o8 = false → isIo o9 = false → isIo o10 = false → isIo o11 = false → isIo o12 = false →
      c1.c + 1000 * j ≤ 8000 → (∀ s, n.nx s) → forGo (.one 2) (exSs Γ b_turn) (rangeD k j) n ⟨[none, some .stm, o2, o3, o4, o5, o6, o7, o8, o9, o10, o11, o12], c1⟩ := by
    intro j
    induction j with
    | zero => exact fun k c1 o2 o3 o4 o5 o6 o7 o8 o9 o10 o11 o12 n _ _ _ _ _ _ _ _ _ _ _ _ hn => hn _
    | succ j ih =>
      intro k c1 o2 o3 o4 o5 o6 o7 o8 o9 o10 o11 o12 n i2 i3 i4 i5 i6 i7 i8 i9 i10 i11 i12 hc1 hn
      have sb := sizeLine_big
      refine And.intro i2 ?_
      ((repeat (first | ((conv => whnf); refine And.intro (by first | exact rfl | exact trivial | exact ⟨rfl, rfl⟩ | exact ⟨rfl, strs_scal _⟩ | exact ⟨trivial, trivial⟩ | assumption | decide | omega) ?_) | ((conv => whnf); first | rw [h3] | rw [h1]))); try (conv => whnf))
      refine ⟨7, rfl, by decide, by decide, show c1.c < 1000000 by omega, fun i c2 g0 g1 hc2 => ⟨fun _ => rfl, ?_⟩⟩
      have hc2 : c2.c = c1.c + 1 := hc2
      obtain ⟨m, rfl⟩ : ∃ m : Nat, i = (m : Int) := ⟨i.toNat, by omega⟩
      ((repeat ((conv => whnf); refine And.intro (by first | exact rfl | exact trivial | exact ⟨rfl, rfl⟩ | exact ⟨rfl, strs_scal _⟩ | exact ⟨trivial, trivial⟩ | assumption | decide | omega) ?_)); try (conv => whnf))
      refine ⟨m, rfl, by omega, show c2.c + 12 * m + 12 < 1000000 by omega, fun pool c3 l1 l2 l3 l4 => ⟨fun e => (by cases e), ?_⟩⟩
      have l4 : c3.c ≤ c2.c + 12 * m := l4
      ((repeat (first | ((conv => whnf); refine And.intro (by first | exact rfl | exact trivial | exact ⟨rfl, rfl⟩ | exact ⟨rfl, strs_scal _⟩ | exact ⟨trivial, trivial⟩ | assumption | decide | omega) ?_) | ((conv => whnf); first | rw [h4] | rw [h2]))); try (conv => whnf))
      refine And.intro ⟨by decide, by decide, by decide⟩ ?_
      ((repeat ((conv => whnf); refine And.intro (by first | exact rfl | exact trivial | exact ⟨rfl, rfl⟩ | exact ⟨rfl, strs_scal _⟩ | exact ⟨trivial, trivial⟩ | assumption | decide | omega) ?_)); try (conv => whnf))
      refine ⟨[D.int 4, .int 12, .int 60, .int (10 ^ (29 : Int).toNat)], rfl, by simp, by decide, show c3.c < 1000000 by omega, fun x c4 hx hc4 => ⟨fun e => (by cases e), ?_⟩⟩
      have hc4 : c4.c = c3.c + 1 := hc4
      obtain ⟨w, rfl, w1, w2, w3⟩ := wides4 hx
      ((repeat ((conv => whnf); refine And.intro (by first | exact rfl | exact trivial | exact ⟨rfl, rfl⟩ | exact ⟨rfl, strs_scal _⟩ | exact ⟨trivial, trivial⟩ | assumption | decide | omega) ?_)); try (conv => whnf))
      refine ⟨pool, w, rfl, w1, w2, by omega, l3, show c4.c + 12 * (pool.length + 2) < 1000000 by omega, fun row c5 rf rl hc5 => ⟨fun e => (by cases e), ?_⟩⟩
      have hc5 : c5.c ≤ c4.c + 10 * (pool.length + 1) := hc5
      obtain ⟨hv, ho⟩ := rowF_ok rf l2 l3 (by omega)
      have ok : OkR row := ⟨hv, rowF_small rf w3, by omega⟩
      have hgd := hv.good
      have hmn : (marksOf row).Nodup := hgd.nodup
      have hmo : ∀ m ∈ marksOf row, m ∈ pool := fun m hm => by
        rcases run_keys ac0 row m hm with q | q
        · simp [ac0] at q
        · rw [ho] at q; exact q
      have hml : (marksOf row).length ≤ 6 := Nat.le_trans (nodup_len _ _ hmn hmo) (by omega)
      have hms : ∀ m ∈ marksOf row, PyData.strOk m = true := fun m hm => mark_str (l3 m (hmo m hm))
      ((repeat (first | ((conv => whnf); refine And.intro (by first | exact rfl | exact trivial | exact ⟨rfl, rfl⟩ | exact ⟨rfl, strs_scal _⟩ | exact ⟨trivial, trivial⟩ | assumption | decide | omega) ?_) | ((conv => whnf); first | rw [h5]))); try (conv => whnf))
      refine ⟨row, _, rfl, ⟨_, .inl rfl, DsAre.of row⟩, hv, fun e => (by cases e), ?_⟩
      ((repeat (first | ((conv => whnf); refine And.intro (by first | exact rfl | exact trivial | exact ⟨rfl, rfl⟩ | exact ⟨rfl, strs_scal _⟩ | exact ⟨trivial, trivial⟩ | assumption | decide | omega) ?_) | ((conv => whnf); first | rw [h6]))); try (conv => whnf))
      refine ⟨row, rfl, hv, fun e => (by cases e), ?_⟩
      ((repeat ((conv => whnf); refine And.intro (by first | exact rfl | exact trivial | exact ⟨rfl, rfl⟩ | exact ⟨rfl, strs_scal _⟩ | exact ⟨trivial, trivial⟩ | assumption | decide | omega) ?_)); try (conv => whnf))
      refine And.intro (show 2 ≤ sizeLine by decide) ?_
      ((repeat (first | ((conv => whnf); refine And.intro (by first | exact rfl | exact trivial | exact ⟨rfl, rfl⟩ | exact ⟨rfl, strs_scal _⟩ | exact ⟨trivial, trivial⟩ | assumption | decide | omega) ?_) | ((conv => whnf); first | rw [h7]))); try (conv => whnf))
      refine ⟨marksOf row, rfl, by omega, hms, fun e => (by cases e), ?_⟩
      ((repeat ((conv => whnf); refine And.intro (by first | exact rfl | exact trivial | exact ⟨rfl, rfl⟩ | exact ⟨rfl, strs_scal _⟩ | exact ⟨trivial, trivial⟩ | assumption | decide | omega) ?_)); try (conv => whnf))
      have hsl : (setsOf (marksOf row)).length ≤ 64 := by
        rw [sets_length]
        exact Nat.le_trans (Nat.pow_le_pow_right (by decide) hml) (by decide)
      refine law_in h8 h2 h9 h10 h11 h12 ok hml (by rw [ho]; exact l2) (fun m hm => by rw [ho]; exact hmo m hm) (setsOf (marksOf row)) c5 o5 o11 o12 _ (fun s hs => by
        obtain ⟨q1, q2, q3⟩ := sub_facts hmn hs
        exact ⟨q1, q2, by omega⟩) i5 i11 i12 (by omega) fun o5 o11 o12 c6 i5 i11 i12 hc6 => ?_
      have lm := ok.left (fun m hm => hm)
      ((repeat (first | ((conv => whnf); refine And.intro (by first | exact rfl | exact trivial | exact ⟨rfl, rfl⟩ | exact ⟨rfl, strs_scal _⟩ | exact ⟨trivial, trivial⟩ | assumption | decide | omega) ?_) | ((conv => whnf); first | rw [h10] | rw [h9]))); try (conv => whnf))
      refine ⟨row, .non, rfl, hgd, by omega, .inl ⟨rfl, fun e => (by cases e), ?_⟩⟩
      ((repeat (first | ((conv => whnf); refine And.intro (by first | exact rfl | exact trivial | exact ⟨rfl, rfl⟩ | exact ⟨rfl, strs_scal _⟩ | exact ⟨trivial, trivial⟩ | assumption | decide | omega) ?_) | ((conv => whnf); first | rw [h9]))); try (conv => whnf))
      refine ⟨row, .non, rfl, hgd, by omega, .inl ⟨rfl, fun e => (by cases e), ?_⟩⟩
      ((repeat ((conv => whnf); refine And.intro (by first | exact rfl | exact trivial | exact ⟨rfl, rfl⟩ | exact ⟨rfl, strs_scal _⟩ | exact ⟨trivial, trivial⟩ | assumption | decide | omega) ?_)); try (conv => whnf))
      refine And.intro (show 2 ≤ sizeLine by decide) ?_
      ((repeat (first | ((conv => whnf); refine And.intro (by first | exact rfl | exact trivial | exact ⟨rfl, rfl⟩ | exact ⟨rfl, strs_scal _⟩ | exact ⟨trivial, trivial⟩ | assumption | decide | omega) ?_) | ((conv => whnf); first | rw [h11]))); try (conv => whnf))
      refine ⟨row, _, marksOf row, rfl, .inl rfl, fun e => (by cases e), ?_⟩
      rw [gl_left hv fun m hm => hm]
      ((repeat ((conv => whnf); refine And.intro (by first | exact rfl | exact trivial | exact ⟨rfl, rfl⟩ | exact ⟨rfl, strs_scal _⟩ | exact ⟨trivial, trivial⟩ | assumption | decide | omega) ?_)); try (conv => whnf))
      refine And.intro (show 1 ≤ sizeLine by decide) ?_
      ((repeat ((conv => whnf); refine And.intro (by first | exact rfl | exact trivial | exact ⟨rfl, rfl⟩ | exact ⟨rfl, strs_scal _⟩ | exact ⟨trivial, trivial⟩ | assumption | decide | omega) ?_)); try (conv => whnf))
      refine And.intro ⟨by decide, by decide, show 1 * 2 ≤ sizeLine by decide⟩ ?_
      ((repeat ((conv => whnf); refine And.intro (by first | exact rfl | exact trivial | exact ⟨rfl, rfl⟩ | exact ⟨rfl, strs_scal _⟩ | exact ⟨trivial, trivial⟩ | assumption | decide | omega) ?_)); try (conv => whnf))
      refine ⟨.lst [.int (leftV row (marksOf row)), .int (leftV row (marksOf row))], .lst [.int (leftV row (marksOf row)), .int (leftV row (marksOf row))], rfl, ints_repr lm.1 lm.2 lm.1 lm.2, ints_repr lm.1 lm.2 lm.1 lm.2, fun _ => rfl, ?_⟩
      rw [decide_eq_true rfl]
      ((repeat (first | ((conv => whnf); refine And.intro (by first | exact rfl | exact trivial | exact ⟨rfl, rfl⟩ | exact ⟨rfl, strs_scal _⟩ | exact ⟨trivial, trivial⟩ | assumption | decide | omega) ?_) | ((conv => whnf); first | rw [h2]))); try (conv => whnf))
      refine And.intro (by rw [List.length_map]; show 8 + _ ≤ _; omega) ?_
      ((repeat ((conv => whnf); refine And.intro (by first | exact rfl | exact trivial | exact ⟨rfl, rfl⟩ | exact ⟨rfl, strs_scal _⟩ | exact ⟨trivial, trivial⟩ | assumption | decide | omega) ?_)); try (conv => whnf))
      refine And.intro (by rw [List.length_append, List.length_map, List.length_map]; show 8 + _ + _ ≤ _; omega) ?_
      ((repeat ((conv => whnf); refine And.intro (by first | exact rfl | exact trivial | exact ⟨rfl, rfl⟩ | exact ⟨rfl, strs_scal _⟩ | exact ⟨trivial, trivial⟩ | assumption | decide | omega) ?_)); try (conv => whnf))
      refine ⟨odds ++ (marksOf row).map D.str ++ pool.map D.str, rfl, by simp [odds], ?_, show c6.c < 1000000 by omega, fun odd c7 hodd hc7 => ⟨fun e => (by cases e), ?_⟩⟩
      · rw [List.length_append, List.length_append, List.length_map, List.length_map]; show 8 + _ + _ ≤ _; omega
      have hc7 : c7.c = c6.c + 1 := hc7
      have od : Odd odd := by
        rcases List.mem_append.mp hodd with q | q
        · rcases List.mem_append.mp q with q | q
          · exact .inl q
          · obtain ⟨m, hm, rfl⟩ := List.mem_map.mp q
            exact .inr ⟨m, rfl, l3 m (hmo m hm)⟩
        · obtain ⟨m, hm, rfl⟩ := List.mem_map.mp q
          exact .inr ⟨m, rfl, l3 m hm⟩
      clear hodd
      ((repeat (first | ((conv => whnf); refine And.intro (by first | exact rfl | exact trivial | exact ⟨rfl, rfl⟩ | exact ⟨rfl, strs_scal _⟩ | exact ⟨trivial, trivial⟩ | assumption | decide | omega) ?_) | ((conv => whnf); first | rw [h8]))); try (conv => whnf))
      refine ⟨(marksOf row).map D.str, _, rfl, .inl rfl, by rw [List.length_map]; omega, by rw [List.length_map]; show c7.c + _ < _; omega, fun ys c8 hp hc8 => ⟨fun e => (by cases e), ?_⟩⟩
      rw [List.length_map] at hc8
      have hc8 : c8.c = c7.c + (marksOf row).length := hc8
      obtain ⟨zs, rfl, zp⟩ := strs_of hp
      ((repeat (first | ((conv => whnf); refine And.intro (by first | exact rfl | exact trivial | exact ⟨rfl, rfl⟩ | exact ⟨rfl, strs_scal _⟩ | exact ⟨trivial, trivial⟩ | assumption | decide | omega) ?_) | ((conv => whnf); first | rw [h1]))); try (conv => whnf))
      refine ⟨_, rfl, by omega, ?_, show c8.c < 1000000 by omega, fun a c9 a0 a1 hc9 => ⟨fun _ => rfl, ?_⟩⟩
      · rw [List.length_map]
        exact Int.le_trans (b := 100) (by omega) (by decide)
      rw [List.length_map] at a1
      have hc9 : c9.c = c8.c + 1 := hc9
      obtain ⟨q, rfl⟩ : ∃ q : Nat, a = (q : Int) := ⟨a.toNat, by omega⟩
      have zl := zp.length_eq
      ((repeat ((conv => whnf); refine And.intro (by first | exact rfl | exact trivial | exact ⟨rfl, rfl⟩ | exact ⟨rfl, strs_scal _⟩ | exact ⟨trivial, trivial⟩ | assumption | decide | omega) ?_)); try (conv => whnf))
      rw [cut_to (zs.map D.str) (by rw [List.length_map]; omega), ← List.map_take]
      have bn : (zs.take q).Nodup := (List.take_sublist q zs).nodup (zp.nodup_iff.mpr hmn)
      have bm : ∀ m ∈ zs.take q, m ∈ marksOf row := fun m hm => zp.mem_iff.mp (List.mem_of_mem_take hm)
      have bl : (zs.take q).length ≤ 6 := Nat.le_trans (List.length_take_le' q zs) (by omega)
      revert bn bm bl
      generalize zs.take q = bad
      intro bn bm bl
      obtain ⟨u1, u2⟩ := odd_in od hms
      obtain ⟨v1, v2⟩ := odd_in od (ms := bad) fun m hm => hms m (bm m hm)
      have fin : ∀ due : D, (¬ isMk (marksOf row) bad odd ∧ due = .tup [odd]) ∨ (isMk (marksOf row) bad odd ∧ due = .tup []) → exSs Γ [b_last] ⟨forGo (.one 2) (exSs Γ b_turn) (rangeD (k + 1) j) n, n.rt, n.nx, forGo (.one 2) (exSs Γ b_turn) (rangeD (k + 1) j) n, n.ex⟩ ⟨[none, some .stm, some (.fz (.int k)), some (.fz (.lst (pool.map D.str))), some (.fz (.lst (row.map Deed.d))), o5, some (.fz odd), some (.own (bad.map D.str)), some (.fz due), some (.fz (accD row)), some (.fz (.lst ((marksOf row).map D.str))), o11, o12], c9⟩ := fun due hdue => by
        ((repeat (first | ((conv => whnf); refine And.intro (by first | exact rfl | exact trivial | exact ⟨rfl, rfl⟩ | exact ⟨rfl, strs_scal _⟩ | exact ⟨trivial, trivial⟩ | assumption | decide | omega) ?_) | ((conv => whnf); first | rw [h10] | rw [h14] | rw [h9]))); try (conv => whnf))
        refine And.intro (show 1 ≤ sizeLine by decide) ?_
        ((repeat ((conv => whnf); refine And.intro (by first | exact rfl | exact trivial | exact ⟨rfl, rfl⟩ | exact ⟨rfl, strs_scal _⟩ | exact ⟨trivial, trivial⟩ | assumption | decide | omega) ?_)); try (conv => whnf))
        refine And.intro (by rw [List.length_map]; show _ + 1 ≤ _; omega) ?_
        ((repeat ((conv => whnf); refine And.intro (by first | exact rfl | exact trivial | exact ⟨rfl, rfl⟩ | exact ⟨rfl, strs_scal _⟩ | exact ⟨trivial, trivial⟩ | assumption | decide | omega) ?_)); try (conv => whnf))
        by_cases hq : isMk (marksOf row) bad odd
        · obtain ⟨m, rfl, m1, m2⟩ := isMk_inv hq
          have edue : due = .tup [] := hdue.elim (fun q => absurd hq q.1) fun q => q.2
          subst edue
          refine ⟨row, .lst (bad.map D.str ++ [.str m]), rfl, hgd, by omega, .inr ⟨bad.map D.str ++ [.str m], bad ++ [m], none, .inl rfl, ⟨?_, ?_, ?_⟩, fun _ => ⟨fun e => (by cases e), ?_⟩, fun x e => (by cases e)⟩⟩
          · rw [List.nodup_append]
            exact ⟨bn, by simp, fun x hx y hy => by rw [List.mem_singleton.mp hy]; exact fun e => m2 (e ▸ hx)⟩
          · intro x hx
            rcases List.mem_append.mp hx with hx | hx
            · exact bm x hx
            · rw [List.mem_singleton.mp hx]; exact m1
          · rw [List.map_append]; rfl
          ((repeat ((conv => whnf); refine And.intro (by first | exact rfl | exact trivial | exact ⟨rfl, rfl⟩ | exact ⟨rfl, strs_scal _⟩ | exact ⟨trivial, trivial⟩ | assumption | decide | omega) ?_)); try (conv => whnf))
          refine ⟨.tup [], .tup [], rfl, nil_repr, nil_repr, fun _ => rfl, ?_⟩
          rw [decide_eq_true rfl]
          ((repeat (first | ((conv => whnf); refine And.intro (by first | exact rfl | exact trivial | exact ⟨rfl, rfl⟩ | exact ⟨rfl, strs_scal _⟩ | exact ⟨trivial, trivial⟩ | assumption | decide | omega) ?_) | ((conv => whnf); first | rw [h5]))); try (conv => whnf))
          refine ⟨row, _, rfl, ⟨_, .inl rfl, DsAre.of row⟩, hv, fun e => (by cases e), ?_⟩
          ((repeat (first | ((conv => whnf); refine And.intro (by first | exact rfl | exact trivial | exact ⟨rfl, rfl⟩ | exact ⟨rfl, strs_scal _⟩ | exact ⟨trivial, trivial⟩ | assumption | decide | omega) ?_) | ((conv => whnf); first | rw [h13]))); try (conv => whnf))
          refine ⟨row, row, rfl, hv, hv, fun e => (by cases e), ?_⟩
          rw [decide_eq_true rfl]
          ((repeat ((conv => whnf); refine And.intro (by first | exact rfl | exact trivial | exact ⟨rfl, rfl⟩ | exact ⟨rfl, strs_scal _⟩ | exact ⟨trivial, trivial⟩ | assumption | decide | omega) ?_)); try (conv => whnf))
          exact ih (k + 1) c9 _ _ _ _ _ _ _ _ _ _ _ n rfl rfl rfl i5 rfl rfl rfl rfl rfl i11 i12 (by omega) hn
        · have edue : due = .tup [odd] := hdue.elim (fun q => q.2) fun q => absurd q.1 hq
          subst edue
          refine ⟨row, .lst (bad.map D.str ++ [odd]), rfl, hgd, by omega, .inr ⟨bad.map D.str ++ [odd], bad, some odd, .inl rfl, ⟨bn, bm, hq, odd_blt od, [], rfl⟩, fun e => (by cases e), fun x e => ⟨fun e => (by cases e), ?_⟩⟩⟩
          obtain rfl := Option.some.inj e
          ((repeat ((conv => whnf); refine And.intro (by first | exact rfl | exact trivial | exact ⟨rfl, rfl⟩ | exact ⟨rfl, strs_scal _⟩ | exact ⟨trivial, trivial⟩ | assumption | decide | omega) ?_)); try (conv => whnf))
          refine ⟨.tup [odd], .tup [odd], rfl, odd_repr od, odd_repr od, fun _ => rfl, ?_⟩
          rw [decide_eq_true rfl]
          ((repeat (first | ((conv => whnf); refine And.intro (by first | exact rfl | exact trivial | exact ⟨rfl, rfl⟩ | exact ⟨rfl, strs_scal _⟩ | exact ⟨trivial, trivial⟩ | assumption | decide | omega) ?_) | ((conv => whnf); first | rw [h5]))); try (conv => whnf))
          refine ⟨row, _, rfl, ⟨_, .inl rfl, DsAre.of row⟩, hv, fun e => (by cases e), ?_⟩
          ((repeat (first | ((conv => whnf); refine And.intro (by first | exact rfl | exact trivial | exact ⟨rfl, rfl⟩ | exact ⟨rfl, strs_scal _⟩ | exact ⟨trivial, trivial⟩ | assumption | decide | omega) ?_) | ((conv => whnf); first | rw [h13]))); try (conv => whnf))
          refine ⟨row, row, rfl, hv, hv, fun e => (by cases e), ?_⟩
          rw [decide_eq_true rfl]
          ((repeat ((conv => whnf); refine And.intro (by first | exact rfl | exact trivial | exact ⟨rfl, rfl⟩ | exact ⟨rfl, strs_scal _⟩ | exact ⟨trivial, trivial⟩ | assumption | decide | omega) ?_)); try (conv => whnf))
          exact ih (k + 1) c9 _ _ _ _ _ _ _ _ _ _ _ n rfl rfl rfl i5 rfl rfl rfl rfl rfl i11 i12 (by omega) hn
      ((repeat ((conv => whnf); refine And.intro (by first | exact rfl | exact trivial | exact ⟨rfl, rfl⟩ | exact ⟨rfl, strs_scal _⟩ | exact ⟨trivial, trivial⟩ | assumption | decide | omega) ?_)); try (conv => whnf))
      rw [u2]
      cases hq : isS (marksOf row) odd with
      | false =>
        ((repeat ((conv => whnf); refine And.intro (by first | exact rfl | exact trivial | exact ⟨rfl, rfl⟩ | exact ⟨rfl, strs_scal _⟩ | exact ⟨trivial, trivial⟩ | assumption | decide | omega) ?_)); try (conv => whnf))
        refine And.intro (show 1 ≤ sizeLine by decide) ?_
        ((repeat ((conv => whnf); refine And.intro (by first | exact rfl | exact trivial | exact ⟨rfl, rfl⟩ | exact ⟨rfl, strs_scal _⟩ | exact ⟨trivial, trivial⟩ | assumption | decide | omega) ?_)); try (conv => whnf))
        exact fin _ (.inl ⟨fun q => by rw [isMk_isS, hq] at q; exact Bool.false_ne_true q.1, rfl⟩)
      | true =>
        ((repeat ((conv => whnf); refine And.intro (by first | exact rfl | exact trivial | exact ⟨rfl, rfl⟩ | exact ⟨rfl, strs_scal _⟩ | exact ⟨trivial, trivial⟩ | assumption | decide | omega) ?_)); try (conv => whnf))
        rw [v2]
        cases hq2 : isS bad odd with
        | false =>
          ((repeat ((conv => whnf); refine And.intro (by first | exact rfl | exact trivial | exact ⟨rfl, rfl⟩ | exact ⟨rfl, strs_scal _⟩ | exact ⟨trivial, trivial⟩ | assumption | decide | omega) ?_)); try (conv => whnf))
          exact fin _ (.inr ⟨isMk_isS.mpr ⟨hq, hq2⟩, rfl⟩)
        | true =>
          ((repeat ((conv => whnf); refine And.intro (by first | exact rfl | exact trivial | exact ⟨rfl, rfl⟩ | exact ⟨rfl, strs_scal _⟩ | exact ⟨trivial, trivial⟩ | assumption | decide | omega) ?_)); try (conv => whnf))
          refine And.intro (show 1 ≤ sizeLine by decide) ?_
          ((repeat ((conv => whnf); refine And.intro (by first | exact rfl | exact trivial | exact ⟨rfl, rfl⟩ | exact ⟨rfl, strs_scal _⟩ | exact ⟨trivial, trivial⟩ | assumption | decide | omega) ?_)); try (conv => whnf))
          exact fin _ (.inl ⟨fun q => by rw [isMk_isS, hq2] at q; exact Bool.false_ne_true q.2.symm, rfl⟩)
  (conv => whnf)
  refine And.intro (by decide) ?_
  refine go 6 0 c none none none none none none none none none none none _ rfl rfl rfl rfl rfl rfl rfl rfl rfl rfl rfl (by omega) fun s => ?_
  ((repeat (first | ((conv => whnf); refine And.intro (by first | exact rfl | exact trivial | exact ⟨rfl, rfl⟩ | exact ⟨rfl, strs_scal _⟩ | exact ⟨trivial, trivial⟩ | assumption | decide | omega) ?_) | ((conv => whnf); first | rw [h9] | rw [h5]))); try (conv => whnf))
  refine ⟨[], .kt [], rfl, ⟨[], .inr (.inr rfl), .nil⟩, ⟨fun d h => (by cases h), Nat.zero_le _, trivial⟩, fun e => (by cases e), ?_⟩
  ((repeat ((conv => whnf); refine And.intro (by first | exact rfl | exact trivial | exact ⟨rfl, rfl⟩ | exact ⟨rfl, strs_scal _⟩ | exact ⟨trivial, trivial⟩ | assumption | decide | omega) ?_)); try (conv => whnf))
  refine ⟨[], .non, rfl, good0, by decide, .inl ⟨rfl, fun e => (by cases e), ?_⟩⟩
  rw [show leftV [] (marksOf []) = 0 by decide +kernel]
  ((repeat (first | ((conv => whnf); refine And.intro (by first | exact rfl | exact trivial | exact ⟨rfl, rfl⟩ | exact ⟨rfl, strs_scal _⟩ | exact ⟨trivial, trivial⟩ | assumption | decide | omega) ?_) | ((conv => whnf); first | rw [h9] | rw [h5]))); try (conv => whnf))
  have v3 : ValidRow [.days 3] := ⟨fun d h => by rw [List.mem_singleton.mp h]; show (0 : Int) < 3; decide, by decide, ⟨trivial, trivial, trivial⟩⟩
  refine ⟨[.days 3], _, rfl, ⟨_, .inl rfl, DsAre.of [.days 3]⟩, v3, fun e => (by cases e), ?_⟩
  ((repeat ((conv => whnf); refine And.intro (by first | exact rfl | exact trivial | exact ⟨rfl, rfl⟩ | exact ⟨rfl, strs_scal _⟩ | exact ⟨trivial, trivial⟩ | assumption | decide | omega) ?_)); try (conv => whnf))
  refine ⟨[.days 3], .lst [], rfl, v3.good, by decide, .inr ⟨[], [], none, .inl rfl, ⟨List.nodup_nil, fun m h => (by cases h), rfl⟩, fun _ => ⟨fun e => (by cases e), ?_⟩, fun x e => (by cases e)⟩⟩
  rw [show leftV [.days 3] [] = 0 by decide +kernel]
  rfl
end PP

set_option Elab.async false
set_option linter.all false
set_option maxRecDepth 100000
set_option maxHeartbeats 0
namespace PP
open PySem L2
def top (i : Nat) : Stmt := PySem.Challenge.pw_giftbars_k04_whole_left.main.body.getD i (.Pass ⟨0, 0, 0, 0⟩)

theorem d_is_integer {P : Program} {w : World} {K : PySem.W.Frag} {mg : Str → Option Value} {base : Heap} {G : Gc} {Γ : Env} {f : Addr} (hf_bool : mg "bool" = none) (hf_int : mg "int" = none) (hf_isinstance : mg "isinstance" = none)
    (cdv : Value) (A : Around) (outer : List PySem.Env) (s : Shared) (H : Hp) (E : XK) (Fm : Fm) (hG : Fm.G = G) (g : Gd (cxOf CX0 P w K mg base N_is_integer "is_integer" (defScope (top 4)) f cdv A outer s H E).nox Fm noX) (hr : RoomG 0 (A.deeper (PyProof.Rows.envOfC "is_integer" (defScope (top 4)) s.heap.objs.size f cdv))) :
    SBX (cxOf CX0 P w K mg base N_is_integer "is_integer" (defScope (top 4)) f cdv A outer s H E).nox Fm noX Γ (defBody (top 4)) c_is_integer := by
  subst hG
  exact (sb_cons (ss_ret (sx_and (sx_isi1 (T := "int") g hf_isinstance hf_int (by decide +kernel) (by decide) (vx_var 0)) (sx_one (sx_not g (vx (sx_isi1 (T := "bool") g hf_isinstance hf_bool (by decide +kernel) (by decide) (vx_var 0)))))))
      sb_nil)
theorem d_is_count {P : Program} {w : World} {K : PySem.W.Frag} {mg : Str → Option Value} {base : Heap} {G : Gc} {Γ : Env} {f : Addr} {con_is_integer : Con} {dfl_is_integer : List D} (hg_is_integer : Γ.fn "is_integer" = some (.pl con_is_integer true dfl_is_integer)) (he_is_integer : FnE P w K mg base G 1 "is_integer" con_is_integer dfl_is_integer 0)
    (cdv : Value) (A : Around) (outer : List PySem.Env) (s : Shared) (H : Hp) (E : XK) (Fm : Fm) (hG : Fm.G = G) (g : Gd (cxOf CX0 P w K mg base N_is_count "is_count" (defScope (top 7)) f cdv A outer s H E).nox Fm noX) (hr : RoomG 1 (A.deeper (PyProof.Rows.envOfC "is_count" (defScope (top 7)) s.heap.objs.size f cdv))) :
    SBX (cxOf CX0 P w K mg base N_is_count "is_count" (defScope (top 7)) f cdv A outer s H E).nox Fm noX Γ (defBody (top 7)) c_is_count := by
  subst hG
  exact (sb_cons (ss_ret (sx_and (sx_callS g he_is_integer (hr.mono (by decide)) hg_is_integer (aax_cons (ax1_var 0) aax_nil)) (sx_one (sx_cmp (c_gt g) (vx_var 0) (vx sx_int)))))
      sb_nil)
theorem d_is_list {P : Program} {w : World} {K : PySem.W.Frag} {mg : Str → Option Value} {base : Heap} {G : Gc} {Γ : Env} {f : Addr} (hf_isinstance : mg "isinstance" = none) (hf_list : mg "list" = none) (hf_tuple : mg "tuple" = none)
    (cdv : Value) (A : Around) (outer : List PySem.Env) (s : Shared) (H : Hp) (E : XK) (Fm : Fm) (hG : Fm.G = G) (g : Gd (cxOf CX0 P w K mg base N_is_list "is_list" (defScope (top 5)) f cdv A outer s H E).nox Fm noX) (hr : RoomG 0 (A.deeper (PyProof.Rows.envOfC "is_list" (defScope (top 5)) s.heap.objs.size f cdv))) :
    SBX (cxOf CX0 P w K mg base N_is_list "is_list" (defScope (top 5)) f cdv A outer s H E).nox Fm noX Γ (defBody (top 5)) c_is_list := by
  subst hG
  exact (sb_cons (ss_ret (sx_isi2 (S := "list") (T := "tuple") g hf_isinstance hf_list (by decide +kernel) (by decide) hf_tuple (by decide +kernel) (by decide) (vx_var 0)))
      sb_nil)
theorem d_is_mark {P : Program} {w : World} {K : PySem.W.Frag} {mg : Str → Option Value} {base : Heap} {G : Gc} {Γ : Env} {f : Addr} (hf_all : mg "all" = none) (hf_isinstance : mg "isinstance" = none) (hf_len : mg "len" = none) (hf_str : mg "str" = none) {z_LETTERS : Str} {t_LETTERS : Tok} (hc_LETTERS : Γ.cst "LETTERS" = some (.str z_LETTERS)) (hm_LETTERS : mg "LETTERS" = some (.str z_LETTERS t_LETTERS)) {z_LONGEST : Int} {t_LONGEST : Tok} (hc_LONGEST : Γ.cst "LONGEST" = some (.int z_LONGEST)) (hm_LONGEST : mg "LONGEST" = some (.int z_LONGEST t_LONGEST))
    (cdv : Value) (A : Around) (outer : List PySem.Env) (s : Shared) (H : Hp) (E : XK) (Fm : Fm) (hG : Fm.G = G) (g : Gd (cxOf CX0 P w K mg base N_is_mark "is_mark" (defScope (top 6)) f cdv A outer s H E).nox Fm noX) (hr : RoomG 0 (A.deeper (PyProof.Rows.envOfC "is_mark" (defScope (top 6)) s.heap.objs.size f cdv))) :
    SBX (cxOf CX0 P w K mg base N_is_mark "is_mark" (defScope (top 6)) f cdv A outer s H E).nox Fm noX Γ (defBody (top 6)) c_is_mark := by
  subst hG
  exact (sb_cons (ss_ret (sx_and (sx_isi1 (T := "str") g hf_isinstance hf_str (by decide +kernel) (by decide) (vx_var 0)) (sx_and (sx_cmp2 (c_le g) (c_le g) sx_int (sx_len g hf_len (avx_cons (vx_var 0) avx_nil)) (sx_cstI hc_LONGEST hm_LONGEST)) (sx_one (sx_all g hf_all (avx_cons (vx (sx_lc (own := [("sign", 1)]) g (ix g (sx_var 0)) (blkOk_by (by kernel_rfl)) rfl (tgs_one 1) (fun _ _ _ _ _ => (pg_name (i := 1) (Gd.blk g).nd rfl (by first | exact Or.inl rfl | exact Or.inr rfl))) (fun _ _ _ _ _ => tsx_nil) (fun _ _ _ _ _ => (sx_cmp (c_in (Gd.blk g)) (vx_var 1) (vx (sx_cstS hc_LETTERS hm_LETTERS)))))) avx_nil))))))
      sb_nil)
theorem d_deed_of {P : Program} {w : World} {K : PySem.W.Frag} {mg : Str → Option Value} {base : Heap} {G : Gc} {Γ : Env} {f : Addr} (hf_isinstance : mg "isinstance" = none) (hf_len : mg "len" = none) (hf_str : mg "str" = none) (hf_tuple : mg "tuple" = none) {con_is_count : Con} {dfl_is_count : List D} (hg_is_count : Γ.fn "is_count" = some (.pl con_is_count true dfl_is_count)) (he_is_count : FnE P w K mg base G 2 "is_count" con_is_count dfl_is_count 0) {con_is_list : Con} {dfl_is_list : List D} (hg_is_list : Γ.fn "is_list" = some (.pl con_is_list true dfl_is_list)) (he_is_list : FnE P w K mg base G 1 "is_list" con_is_list dfl_is_list 0) {con_is_mark : Con} {dfl_is_mark : List D} (hg_is_mark : Γ.fn "is_mark" = some (.pl con_is_mark true dfl_is_mark)) (he_is_mark : FnE P w K mg base G 1 "is_mark" con_is_mark dfl_is_mark 0)
    (cdv : Value) (A : Around) (outer : List PySem.Env) (s : Shared) (H : Hp) (E : XK) (Fm : Fm) (hG : Fm.G = G) (g : Gd (cxOf CX0 P w K mg base N_deed_of "deed_of" (defScope (top 13)) f cdv A outer s H E).nox Fm noX) (hr : RoomG 2 (A.deeper (PyProof.Rows.envOfC "deed_of" (defScope (top 13)) s.heap.objs.size f cdv))) :
    SBX (cxOf CX0 P w K mg base N_deed_of "deed_of" (defScope (top 13)) f cdv A outer s H E).nox Fm noX Γ (defBody (top 13)) c_deed_of := by
  subst hG
  exact (sb_cons (ss_if (tx_w (tw_or (tx_not (tx g (vx (sx_callS g he_is_list (hr.mono (by decide)) hg_is_list (aax_cons (ax1_var 0) aax_nil))))) (tw_or (tx_cmp (c_eq g) (vx (sx_len g hf_len (avx_cons (vx_var 0) avx_nil))) (vx sx_int)) (tw_or1 (tx_not (tx g (vx (sx_isi1 (T := "str") g hf_isinstance hf_str (by decide +kernel) (by decide) (vx (sx_idx g (vx_var 0) (vx sx_int))))))))))) (sb_cons (ss_ret sx_non)
      sb_nil) sb_nil)
      (sb_cons (ss_asg g 1 (sx_idx g (vx_var 0) (vx sx_int)))
      (sb_cons (ss_if (tx_w (tw_and (tx_cmp (c_eq g) (vx_var 1) (vx sx_str)) (tw_and (tx_cmp (c_eq g) (vx (sx_len g hf_len (avx_cons (vx_var 0) avx_nil))) (vx sx_int)) (tw_and (tx g (vx (sx_callS g he_is_mark (hr.mono (by decide)) hg_is_mark (aax_cons (ax1 (sx_idx g (vx_var 0) (vx sx_int))) aax_nil)))) (tw_and1 (tx g (vx (sx_callS g he_is_count (hr.mono (by decide)) hg_is_count (aax_cons (ax1 (sx_idx g (vx_var 0) (vx sx_int))) aax_nil))))))))) (sb_cons (ss_ret (sx_tuple g hf_tuple (avx_cons (vx_var 0) avx_nil)))
      sb_nil) sb_nil)
      (sb_cons (ss_if (tx_w (tw_and (tx_cmp (c_in g) (vx_var 1) (vx (sx_tup (ax_cons sx_str (ax_cons sx_str ax_nil))))) (tw_and (tx_cmp (c_eq g) (vx (sx_len g hf_len (avx_cons (vx_var 0) avx_nil))) (vx sx_int)) (tw_and1 (tx g (vx (sx_callS g he_is_count (hr.mono (by decide)) hg_is_count (aax_cons (ax1 (sx_idx g (vx_var 0) (vx sx_int))) aax_nil)))))))) (sb_cons (ss_ret (sx_tuple g hf_tuple (avx_cons (vx_var 0) avx_nil)))
      sb_nil) sb_nil)
      (sb_cons (ss_if (tx_w (tw_and (tx_cmp (c_eq g) (vx_var 1) (vx sx_str)) (tw_and (tx_cmp (c_eq g) (vx (sx_len g hf_len (avx_cons (vx_var 0) avx_nil))) (vx sx_int)) (tw_and1 (tx g (vx (sx_callS g he_is_mark (hr.mono (by decide)) hg_is_mark (aax_cons (ax1 (sx_idx g (vx_var 0) (vx sx_int))) aax_nil)))))))) (sb_cons (ss_ret (sx_tuple g hf_tuple (avx_cons (vx_var 0) avx_nil)))
      sb_nil) sb_nil)
      (sb_cons (ss_ret sx_non)
      sb_nil))))))
theorem d_checked_row {P : Program} {w : World} {K : PySem.W.Frag} {mg : Str → Option Value} {base : Heap} {G : Gc} {Γ : Env} {f : Addr} (hf_enumerate : mg "enumerate" = none) {con_deed_of : Con} {dfl_deed_of : List D} (hg_deed_of : Γ.fn "deed_of" = some (.pl con_deed_of false dfl_deed_of)) (he_deed_of : FnE P w K mg base G 3 "deed_of" con_deed_of dfl_deed_of 0) {con_is_list : Con} {dfl_is_list : List D} (hg_is_list : Γ.fn "is_list" = some (.pl con_is_list true dfl_is_list)) (he_is_list : FnE P w K mg base G 1 "is_list" con_is_list dfl_is_list 0)
    (cdv : Value) (A : Around) (outer : List PySem.Env) (s : Shared) (H : Hp) (E : XK) (Fm : Fm) (hG : Fm.G = G) (g : Gd (cxOf CX0 P w K mg base N_checked_row "checked_row" (defScope (top 14)) f cdv A outer s H E).nox Fm noX) (hr : RoomG 3 (A.deeper (PyProof.Rows.envOfC "checked_row" (defScope (top 14)) s.heap.objs.size f cdv))) :
    SBX (cxOf CX0 P w K mg base N_checked_row "checked_row" (defScope (top 14)) f cdv A outer s H E).nox Fm noX Γ (defBody (top 14)) c_checked_row := by
  subst hG
  exact (sb_cons (ss_if (tx_not (tx g (vx (sx_callS g he_is_list (hr.mono (by decide)) hg_is_list (aax_cons (ax1_var 0) aax_nil))))) (sb_cons ss_never
      sb_nil) sb_nil)
      (sb_cons (ss_par3 g 1 2 3 (sx_lst ax_nil) (sx_lst ax_nil) (sx_lst ax_nil))
      (sb_cons (ss_for g PassesOwn.never (ix_enum g hf_enumerate (sx_var 0)) (tgs_tup g.hK (tgss_cons (tgs_one 4) (tgss_cons (tgs_one 5) tgss_nil)) rfl) (pg_tup rfl (pgs_cons (pg_name (i := 4) g.nd rfl (by first | exact Or.inl rfl | exact Or.inr rfl)) (pgs_cons (pg_name (i := 5) g.nd rfl (by first | exact Or.inl rfl | exact Or.inr rfl)) pgs_nil))) (sb_cons (ss_asg g 6 (sx_call g he_deed_of (hr.mono (by decide)) hg_deed_of (abx_cons (bx1_var 5) abx_nil)))
      (sb_cons (ss_if (tx_cmp (c_isn g) (vx_var 6) (vx sx_non)) (sb_cons ss_never
      sb_nil) sb_nil)
      (sb_cons (ss_if (tx_cmp (c_eq g) (vx (sx_idx g (vx_var 6) (vx sx_int))) (vx sx_str)) (sb_cons (ss_if (tx_cmp (c_in g) (vx (sx_idx g (vx_var 6) (vx sx_int))) (vx_var 2)) (sb_cons ss_never
      sb_nil) sb_nil)
      (sb_cons (ss_app g 2 (sx_idx g (vx_var 6) (vx sx_int)))
      (sb_cons (ss_app g 3 (sx_idx g (vx_var 6) (vx sx_int)))
      sb_nil))) sb_nil)
      (sb_cons (ss_if (tx_cmp (c_eq g) (vx (sx_idx g (vx_var 6) (vx sx_int))) (vx sx_str)) (sb_cons (ss_if (tx_cmp (c_nin g) (vx (sx_idx g (vx_var 6) (vx sx_int))) (vx_var 3)) (sb_cons ss_never
      sb_nil) sb_nil)
      (sb_cons (ss_rem g 3 (sx_idx g (vx_var 6) (vx sx_int)))
      sb_nil)) sb_nil)
      (sb_cons (ss_app g 1 (sx_var 6))
      sb_nil))))))
      (sb_cons (ss_ret (sx_var 1))
      sb_nil))))
theorem d_Account___init__ {P : Program} {w : World} {K : PySem.W.Frag} {mg : Str → Option Value} {base : Heap} {G : Gc} {Γ : Env} {f : Addr} (hf_tuple : mg "tuple" = none) {con : Con} (hg : Γ.fn "checked_row" = some (.pl con false [])) (he : FnE P w K mg base G 4 "checked_row" con [] 0)
    (cdv : Value) (A : Around) (outer : List PySem.Env) (s : Shared) (H : Hp) (E : XK) (Fm : Fm) (hG : Fm.G = G) (g : Gd (cxOf CX0 P w K mg base N_acInit "Account.__init__" (defScope (inClass (top 15) 0)) f cdv A outer s H E).nox Fm noX) (hr : RoomG 4 (A.deeper (PyProof.Rows.envOfC "Account.__init__" (defScope (inClass (top 15) 0)) s.heap.objs.size f cdv))) :
    PSs (cxOf CX0 P w K mg base N_acInit "Account.__init__" (defScope (inClass (top 15) 0)) f cdv A outer s H E).nox (defBody (inClass (top 15) 0)) (t_acInit K (LR Fm noX (evP Γ i_acDeeds).r)) := by
  subst hG
  exact pss_cons (ps_fld (pv 0) (sx_tuple g hf_tuple (avx_cons (vx (sx_call g he hr hg (abx_cons (bx1_var 1) abx_nil))) avx_nil)) rfl)
    (pss_cons (ps_fld (pv 0) pe_dnewK rfl) (pss_cons (ps_fld (pv 0) pe_dnewK rfl)
    (pss_cons (ps_for PassesOwn.never g.calm (pi_tup (pe_fld (pv 0) rfl)) (pg_name (i := 2) g.nd rfl (by first | exact Or.inl rfl | exact Or.inr rfl))
      (pss_cons (ps_if (pt_cmpR op_eq (pe_ix ix_seq (pv 2) pe_int fun _ _ => rfl) pe_str (by first | exact nomark _ | rfl)) (pss_cons (ps_dput g.u1 (pe_fld (pv 0) rfl) (pe_ix ix_seq (pv 2) pe_int fun _ _ => rfl) (pe_ix ix_seq (pv 2) pe_int fun _ _ => rfl) rfl) (pss_cons (ps_dput g.u1 (pe_fld (pv 0) rfl) (pe_ix ix_seq (pv 2) pe_int fun _ _ => rfl) pe_int rfl) pss_nil))
        (pss_cons (ps_if (pt_cmpR op_eq (pe_ix ix_seq (pv 2) pe_int fun _ _ => rfl) pe_str (by first | exact nomark _ | rfl)) (pss_cons (ps_expr (pe_dpop1 (pe_fld (pv 0) rfl) (pe_ix ix_seq (pv 2) pe_int fun _ _ => rfl) ⟨rfl, rfl, rfl, rfl⟩)) (pss_cons (ps_expr (pe_dpop1 (pe_fld (pv 0) rfl) (pe_ix ix_seq (pv 2) pe_int fun _ _ => rfl) ⟨rfl, rfl, rfl, rfl⟩)) pss_nil))
          (pss_cons (ps_if (pt_cmpR op_eq (pe_ix ix_seq (pv 2) pe_int fun _ _ => rfl) pe_str (by first | exact nomark _ | rfl)) (pss_cons (ps_fld (pv 0) (pe_dc (own := [("mark", 3)]) g.calm g.nd (pi_any (pe_fld (pv 0) rfl)) (blkOk_by (by kernel_rfl)) (fun _ _ _ _ _ => pg_name (i := 3) g.nd rfl (by first | exact Or.inl rfl | exact Or.inr rfl)) (fun _ _ _ _ _ => pts_nil) (fun _ _ _ _ _ => pe_var (i := 3) rfl (by first | exact Or.inl rfl | exact Or.inr (Or.inl rfl) | exact Or.inr (Or.inr rfl)) (by decide) (by decide)) (fun _ _ _ _ _ => pe_op op_add (pe_dget g.u1 (pe_fld (pe_var (i := 0) rfl (by first | exact Or.inl rfl | exact Or.inr (Or.inl rfl) | exact Or.inr (Or.inr rfl)) (by decide) (by decide)) rfl) (pe_var (i := 3) rfl (by first | exact Or.inl rfl | exact Or.inr (Or.inl rfl) | exact Or.inr (Or.inr rfl)) (by decide) (by decide)) fun _ _ => rfl) (pe_ix ix_seq (pe_var (i := 2) rfl (by first | exact Or.inl rfl | exact Or.inr (Or.inl rfl) | exact Or.inr (Or.inr rfl)) (by decide) (by decide)) pe_int fun _ _ => rfl))) rfl) pss_nil) pss_nil) pss_nil)) pss_nil)) pss_nil)) pss_nil)))
theorem d__law_counting {P : Program} {w : World} {K : PySem.W.Frag} {mg : Str → Option Value} {base : Heap} {G : Gc} {Γ : Env} {f : Addr} 
    (cdv : Value) (A : Around) (outer : List PySem.Env) (s : Shared) (H : Hp) (E : XK) (Fm : Fm) (hG : Fm.G = G) (g : Gd (cxOf CX0 P w K mg base N__law_counting "_law_counting" (defScope (top 30)) f cdv A outer s H E).nox Fm noX) (hr : RoomG 0 (A.deeper (PyProof.Rows.envOfC "_law_counting" (defScope (top 30)) s.heap.objs.size f cdv))) :
    SBX (cxOf CX0 P w K mg base N__law_counting "_law_counting" (defScope (top 30)) f cdv A outer s H E).nox Fm noX Γ (defBody (top 30)) c__law_counting := by
  subst hG
  exact (sb_cons (ss_asg g 1 (sx_lc (own := [("_law_deed", 2)]) g (ix g (sx_var 0)) (blkOk_by (by kernel_rfl)) rfl (tgs_one 2) (fun _ _ _ _ _ => (pg_name (i := 2) (Gd.blk g).nd rfl (by first | exact Or.inl rfl | exact Or.inr rfl))) (fun _ _ _ _ _ => (tsx_one (tx_cmp (c_eq (Gd.blk g)) (vx (sx_idx (Gd.blk g) (vx_var 2) (vx sx_int))) (vx sx_str)))) (fun _ _ _ _ _ => (sx_idx (Gd.blk g) (vx_var 2) (vx sx_int)))))
      (sb_cons (ss_ret (sx_lc (own := [("_law_deed", 2)]) g (ix g (sx_var 0)) (blkOk_by (by kernel_rfl)) rfl (tgs_one 2) (fun _ _ _ _ _ => (pg_name (i := 2) (Gd.blk g).nd rfl (by first | exact Or.inl rfl | exact Or.inr rfl))) (fun _ _ _ _ _ => (tsx_one (tx_w (tw_and (tx_cmp (c_eq (Gd.blk g)) (vx (sx_idx (Gd.blk g) (vx_var 2) (vx sx_int))) (vx sx_str)) (tw_and1 (tx_cmp (c_nin (Gd.blk g)) (vx (sx_idx (Gd.blk g) (vx_var 2) (vx sx_int))) (vx_var 1))))))) (fun _ _ _ _ _ => (sx_idx (Gd.blk g) (vx_var 2) (vx sx_int)))))
      sb_nil))
theorem d__law_draw {P : Program} {w : World} {K : PySem.W.Frag} {mg : Str → Option Value} {base : Heap} {f : Addr} (hf_int : mg "int" = none)
    (cdv : Value) (A : Around) (outer : List PySem.Env) (s : Shared) (H : Hp) (E : XK) (hr : RoomG 0 (A.deeper (PyProof.Rows.envOfC "_law_draw" (defScope (top 22)) s.heap.objs.size f cdv))) : PSs (cxOf CX0 P w K mg base (N_drawZ "_law_mixed_here") "_law_draw" (defScope (top 22)) f cdv A outer s H E).nox (defBody (top 22)) (t_draw K) :=
  pss_cons (ps_asg (pe_op op_add (pe_ix ix_seq (pv 0) pe_int fun _ _ => rfl) pe_int) (pg_sub (pv 0) pe_int set_list))
    (pss_cons (ps_if (PW.pt (pw_and (pt_cmpR op_eq (pe_ix ix_seq (pv 0) pe_int fun _ _ => rfl) pe_int (by first | exact nomark _ | rfl)) (pw_and1 (pt_cmpR (op_neA hr.units) (pe_ix ix_seq (pv 0) pe_int fun _ _ => rfl) (pe_lst pa_nil) (by first | exact nomark _ | rfl)))))
      (pss_cons (ps_asg (pe_bm PySem.F.plainAttrs_list PySem.F.slot_list_pop PySem.F.type_list_pop mt_popAt (pe_ix ix_seq (pv 0) pe_int fun _ _ => rfl) (pa_cons pe_int pa_nil) rfl rfl rfl rfl rfl) (pg_sub (pv 0) pe_int set_list))
        (pss_cons (ps_if (pt_cmpR op_lt (pe_ix ix_seq (pv 0) pe_int fun _ _ => rfl) (pe_op op_pow pe_int pe_int) (by first | exact nomark _ | rfl))
          (pss_cons (ps_asg (pe_op op_mod (pe_callTy call_int1 rfl hf_int (by decide +kernel) (pa_cons (pe_op op_add (pe_op op_add (pe_op op_mul (pe_ix ix_seq (pv 0) pe_int fun _ _ => rfl) pe_int) (pe_ix ix_seq (pv 0) pe_int fun _ _ => rfl)) pe_int) pa_nil) (by decide) (by decide) rfl rfl) pe_int) (pg_sub (pv 0) pe_int set_list)) (pss_cons (ps_asg pe_int (pg_sub (pv 0) pe_int set_list)) pss_nil)) pss_nil) pss_nil)) pss_nil)
    (pss_cons (ps_if (pt_cmpR op_gt (pe_ix ix_seq (pv 0) pe_int fun _ _ => rfl) pe_int (by first | exact nomark _ | rfl))
      (pss_cons (ps_asg (pe_op op_mod (pe_callTy call_int1 rfl hf_int (by decide +kernel) (pa_cons (pe_ix ix_seq (pv 0) pe_int fun _ _ => rfl) pa_nil) (by decide) (by decide) rfl rfl) (pv 1)) (pg_name (i := 2) (show (N_drawZ "_law_mixed_here").Nodup by decide +kernel) rfl (Or.inl rfl))) (pss_cons (ps_asg (pe_op op_fdivW (pe_ix ix_seq (pv 0) pe_int fun _ _ => rfl) (pv 1)) (pg_sub (pv 0) pe_int set_list)) (pss_cons (ps_ret (pv 2)) pss_nil))) pss_nil)
    (pss_cons (ps_asg (pe_op op_mod (pe_op op_pow (pe_op op_add (pe_op op_add (pe_ix ix_seq (pv 0) pe_int fun _ _ => rfl) (pe_op op_mul pe_int (pe_ix ix_seq (pv 0) pe_int fun _ _ => rfl))) pe_int) pe_int) pe_int) (pg_name (i := 3) (show (N_drawZ "_law_mixed_here").Nodup by decide +kernel) rfl (Or.inl rfl)))
    (pss_cons (ps_ret (pe_op op_mod (pe_op op_mod (pe_op op_pow (pe_op op_add (pe_op op_add (pe_op op_mul (pv 3) pe_int) (pe_op op_mul (pe_op op_mul pe_int (pe_ix ix_seq (pv 0) pe_int fun _ _ => rfl)) (pe_ix ix_seq (pv 0) pe_int fun _ _ => rfl))) pe_int) pe_int) pe_int) (pv 1))) pss_nil))))
theorem d__law_fact {P : Program} {w : World} {K : PySem.W.Frag} {mg : Str → Option Value} {base : Heap} {G : Gc} {Γ : Env} {f : Addr} (hf_enumerate : mg "enumerate" = none) (hf_max : mg "max" = none) (hf_sum : mg "sum" = none)
    (cdv : Value) (A : Around) (outer : List PySem.Env) (s : Shared) (H : Hp) (E : XK) (Fm : Fm) (hG : Fm.G = G) (g : Gd (cxOf CX0 P w K mg base N__law_fact "_law_fact" (defScope (top 33)) f cdv A outer s H E).nox Fm noX) (hr : RoomG 0 (A.deeper (PyProof.Rows.envOfC "_law_fact" (defScope (top 33)) s.heap.objs.size f cdv))) :
    SBX (cxOf CX0 P w K mg base N__law_fact "_law_fact" (defScope (top 33)) f cdv A outer s H E).nox Fm noX Γ (defBody (top 33)) c__law_fact := by
  subst hG
  exact (sb_cons (ss_asg g 2 sx_int)
      (sb_cons (ss_for g PassesOwn.never (ix g (sx_var 1)) (tgs_one 3) (pg_name (i := 3) g.nd rfl (by first | exact Or.inl rfl | exact Or.inr rfl)) (sb_cons (ss_asg g 4 (sx_idx g (vx (sx_lc (own := [("_law_k", 7), ("_law_deed", 6)]) g (ix_enum g hf_enumerate (sx_var 0)) (blkOk_by (by kernel_rfl)) rfl (tgs_tup g.hK (tgss_cons (tgs_one 7) (tgss_cons (tgs_one 6) tgss_nil)) rfl) (fun _ _ _ _ _ => (pg_tup rfl (pgs_cons (pg_name (i := 7) (Gd.blk g).nd rfl (by first | exact Or.inl rfl | exact Or.inr rfl)) (pgs_cons (pg_name (i := 6) (Gd.blk g).nd rfl (by first | exact Or.inl rfl | exact Or.inr rfl)) pgs_nil)))) (fun _ _ _ _ _ => (tsx_one (tx_w (tw_and (tx_cmp (c_eq (Gd.blk g)) (vx (sx_idx (Gd.blk g) (vx_var 6) (vx sx_int))) (vx sx_str)) (tw_and1 (tx_cmp (c_eq (Gd.blk g)) (vx (sx_idx (Gd.blk g) (vx_var 6) (vx sx_int))) (vx_var 3))))))) (fun _ _ _ _ _ => (sx_var 7)))) (vx sx_int)))
      (sb_cons (ss_asg g 5 (sx_sum g hf_sum (avx_cons (vx (sx_lc (own := [("_law_deed", 6)]) g (ix g (sx_sli g (vx_var 0) (ox_some (sx_var 4)) ox_none)) (blkOk_by (by kernel_rfl)) rfl (tgs_one 6) (fun _ _ _ _ _ => (pg_name (i := 6) (Gd.blk g).nd rfl (by first | exact Or.inl rfl | exact Or.inr rfl))) (fun _ _ _ _ _ => (tsx_one (tx_w (tw_and (tx_cmp (c_eq (Gd.blk g)) (vx (sx_idx (Gd.blk g) (vx_var 6) (vx sx_int))) (vx sx_str)) (tw_and1 (tx_cmp (c_in (Gd.blk g)) (vx (sx_idx (Gd.blk g) (vx_var 6) (vx sx_int))) (vx_var 1))))))) (fun _ _ _ _ _ => (sx_idx (Gd.blk g) (vx_var 6) (vx sx_int))))) avx_nil)))
      (sb_cons (ss_asg g 2 (sx_max2 g hf_max (avx_cons (vx_var 2) (avx_cons (vx (sx_sub g (vx_var 5) (vx (sx_sum g hf_sum (avx_cons (vx (sx_lc (own := [("_law_deed", 6)]) g (ix g (sx_sli g (vx_var 0) (ox_some (sx_var 4)) ox_none)) (blkOk_by (by kernel_rfl)) rfl (tgs_one 6) (fun _ _ _ _ _ => (pg_name (i := 6) (Gd.blk g).nd rfl (by first | exact Or.inl rfl | exact Or.inr rfl))) (fun _ _ _ _ _ => (tsx_one (tx_cmp (c_eq (Gd.blk g)) (vx (sx_idx (Gd.blk g) (vx_var 6) (vx sx_int))) (vx sx_str)))) (fun _ _ _ _ _ => (sx_idx (Gd.blk g) (vx_var 6) (vx sx_int))))) avx_nil))))) avx_nil))))
      sb_nil))))
      (sb_cons (ss_ret (sx_var 2))
      sb_nil)))
theorem d__law_left {P : Program} {w : World} {K : PySem.W.Frag} {mg : Str → Option Value} {base : Heap} {G : Gc} {Γ : Env} {f : Addr} (hf_max : mg "max" = none)
    (cdv : Value) (A : Around) (outer : List PySem.Env) (s : Shared) (H : Hp) (E : XK) (Fm : Fm) (hG : Fm.G = G) (g : Gd (cxOf CX0 P w K mg base N__law_left "_law_left" (defScope (top 31)) f cdv A outer s H E).nox Fm noX) (hr : RoomG 0 (A.deeper (PyProof.Rows.envOfC "_law_left" (defScope (top 31)) s.heap.objs.size f cdv))) :
    SBX (cxOf CX0 P w K mg base N__law_left "_law_left" (defScope (top 31)) f cdv A outer s H E).nox Fm noX Γ (defBody (top 31)) c__law_left := by
  subst hG
  exact (sb_cons (ss_asg g 2 sx_int)
      (sb_cons (ss_for g PassesOwn.never (ix g (sx_var 0)) (tgs_one 3) (pg_name (i := 3) g.nd rfl (by first | exact Or.inl rfl | exact Or.inr rfl)) (sb_cons (ss_if (tx_w (tw_and (tx_cmp (c_eq g) (vx (sx_idx g (vx_var 3) (vx sx_int))) (vx sx_str)) (tw_and1 (tx_cmp (c_in g) (vx (sx_idx g (vx_var 3) (vx sx_int))) (vx_var 1))))) (sb_cons (ss_asg g 2 (sx_add g (vx_var 2) (vx (sx_idx g (vx_var 3) (vx sx_int)))))
      sb_nil) sb_nil)
      (sb_cons (ss_if (tx_cmp (c_eq g) (vx (sx_idx g (vx_var 3) (vx sx_int))) (vx sx_str)) (sb_cons (ss_asg g 2 (sx_max2 g hf_max (avx_cons (vx sx_int) (avx_cons (vx (sx_sub g (vx_var 2) (vx (sx_idx g (vx_var 3) (vx sx_int))))) avx_nil))))
      sb_nil) sb_nil)
      sb_nil)))
      (sb_cons (ss_ret (sx_var 2))
      sb_nil)))
theorem d__law_mixed {P : Program} {w : World} {K : PySem.W.Frag} {mg : Str → Option Value} {base : Heap} {G : Gc} {Γ : Env} {f : Addr} (hf_len : mg "len" = none) (hf_list : mg "list" = none) (hf_range : mg "range" = none) {con__law_draw : Con} {dfl__law_draw : List D} (hg__law_draw : Γ.fn "_law_draw" = some (.pl con__law_draw true dfl__law_draw)) (he__law_draw : FnE P w K mg base G 1 "_law_draw" con__law_draw dfl__law_draw 0)
    (cdv : Value) (A : Around) (outer : List PySem.Env) (s : Shared) (H : Hp) (E : XK) (Fm : Fm) (hG : Fm.G = G) (g : Gd (cxOf CX0 P w K mg base N__law_mixed "_law_mixed" (defScope (top 24)) f cdv A outer s H E).nox Fm noX) (hr : RoomG 1 (A.deeper (PyProof.Rows.envOfC "_law_mixed" (defScope (top 24)) s.heap.objs.size f cdv))) :
    SBX (cxOf CX0 P w K mg base N__law_mixed "_law_mixed" (defScope (top 24)) f cdv A outer s H E).nox Fm noX Γ (defBody (top 24)) c__law_mixed := by
  subst hG
  exact (sb_cons (ss_asg g 2 (sx_list g hf_list (avx_cons (vx_var 1) avx_nil)))
      (sb_cons (ss_ret (sx_lc (own := [("_law_k", 3)]) g (ix_range1 g hf_range (sx_len g hf_len (avx_cons (vx_var 2) avx_nil))) (blkOk_by (by kernel_rfl)) rfl (tgs_one 3) (fun _ _ _ _ _ => (pg_name (i := 3) (Gd.blk g).nd rfl (by first | exact Or.inl rfl | exact Or.inr rfl))) (fun _ _ _ _ _ => tsx_nil) (fun _ _ _ _ _ => (sx_pop (Gd.blk g) 2 (sx_callS (Gd.blk g) he__law_draw (hr.mono (by decide)) hg__law_draw (aax_cons (ax1_var 0) (aax_cons (ax1 (sx_len (Gd.blk g) hf_len (avx_cons (vx_var 2) avx_nil))) aax_nil)))))))
      sb_nil))
theorem d__law_pick {P : Program} {w : World} {K : PySem.W.Frag} {mg : Str → Option Value} {base : Heap} {G : Gc} {Γ : Env} {f : Addr} (hf_len : mg "len" = none) {con__law_draw : Con} {dfl__law_draw : List D} (hg__law_draw : Γ.fn "_law_draw" = some (.pl con__law_draw true dfl__law_draw)) (he__law_draw : FnE P w K mg base G 1 "_law_draw" con__law_draw dfl__law_draw 0)
    (cdv : Value) (A : Around) (outer : List PySem.Env) (s : Shared) (H : Hp) (E : XK) (Fm : Fm) (hG : Fm.G = G) (g : Gd (cxOf CX0 P w K mg base N__law_pick "_law_pick" (defScope (top 23)) f cdv A outer s H E).nox Fm noX) (hr : RoomG 1 (A.deeper (PyProof.Rows.envOfC "_law_pick" (defScope (top 23)) s.heap.objs.size f cdv))) :
    SBX (cxOf CX0 P w K mg base N__law_pick "_law_pick" (defScope (top 23)) f cdv A outer s H E).nox Fm noX Γ (defBody (top 23)) c__law_pick := by
  subst hG
  exact (sb_cons (ss_ret (sx_idx g (vx_var 1) (vx (sx_callS g he__law_draw (hr.mono (by decide)) hg__law_draw (aax_cons (ax1_var 0) (aax_cons (ax1 (sx_len g hf_len (avx_cons (vx_var 1) avx_nil))) aax_nil))))))
      sb_nil)
theorem d__law_fresh {P : Program} {w : World} {K : PySem.W.Frag} {mg : Str → Option Value} {base : Heap} {G : Gc} {Γ : Env} {f : Addr} (hf_int : mg "int" = none) (hf_range : mg "range" = none) {con__law_draw : Con} {dfl__law_draw : List D} (hg__law_draw : Γ.fn "_law_draw" = some (.pl con__law_draw true dfl__law_draw)) (he__law_draw : FnE P w K mg base G 1 "_law_draw" con__law_draw dfl__law_draw 0) {con__law_pick : Con} {dfl__law_pick : List D} (hg__law_pick : Γ.fn "_law_pick" = some (.pl con__law_pick false dfl__law_pick)) (he__law_pick : FnE P w K mg base G 2 "_law_pick" con__law_pick dfl__law_pick 0)
    (cdv : Value) (A : Around) (outer : List PySem.Env) (s : Shared) (H : Hp) (E : XK) (Fm : Fm) (hG : Fm.G = G) (g : Gd (cxOf CX0 P w K mg base N__law_fresh "_law_fresh" (defScope (top 26)) f cdv A outer s H E).nox Fm noX) (hr : RoomG 2 (A.deeper (PyProof.Rows.envOfC "_law_fresh" (defScope (top 26)) s.heap.objs.size f cdv))) :
    SBX (cxOf CX0 P w K mg base N__law_fresh "_law_fresh" (defScope (top 26)) f cdv A outer s H E).nox Fm noX Γ (defBody (top 26)) c__law_fresh := by
  subst hG
  exact (sb_cons (ss_asgT g (sx_tup (ax_cons sx_str (ax_cons (sx_lst (ax_cons sx_str (ax_cons sx_str (ax_cons sx_str (ax_cons sx_str (ax_cons sx_str (ax_cons sx_str (ax_cons sx_str ax_nil)))))))) ax_nil))) (tgs_tup g.hK (tgss_cons (tgs_one 4) (tgss_cons (tgs_one 5) tgss_nil)) rfl) (pg_tup rfl (pgs_cons (pg_name (i := 4) g.nd rfl (by first | exact Or.inl rfl | exact Or.inr rfl)) (pgs_cons (pg_name (i := 5) g.nd rfl (by first | exact Or.inl rfl | exact Or.inr rfl)) pgs_nil))))
      (sb_cons (ss_asg g 2 (sx_join g (vx (sx_lc (own := [("_law_k", 3)]) g (ix_range1 g hf_range (sx_idx g (vx (sx_lst (ax_cons sx_int (ax_cons sx_int (ax_cons sx_int (ax_cons sx_int (ax_cons sx_int (ax_cons sx_int ax_nil)))))))) (vx (sx_callS g he__law_draw (hr.mono (by decide)) hg__law_draw (aax_cons (ax1_var 0) (aax_cons (ax1 sx_int) aax_nil)))))) (blkOk_by (by kernel_rfl)) rfl (tgs_one 3) (fun _ _ _ _ _ => (pg_name (i := 3) (Gd.blk g).nd rfl (by first | exact Or.inl rfl | exact Or.inr rfl))) (fun _ _ _ _ _ => tsx_nil) (fun _ _ _ _ _ => (sx_idx (Gd.blk g) (vx_var 4) (vx (sx_callS (Gd.blk g) he__law_draw (hr.mono (by decide)) hg__law_draw (aax_cons (ax1_var 0) (aax_cons (ax1 sx_int) aax_nil))))))))))
      (sb_cons (ss_asg g 2 (sx_ite (tx_cmp (c_eq g) (vx (sx_callS g he__law_draw (hr.mono (by decide)) hg__law_draw (aax_cons (ax1_var 0) (aax_cons (ax1 sx_int) aax_nil)))) (vx sx_int)) (sx_call g he__law_pick (hr.mono (by decide)) hg__law_pick (abx_cons (bx1_var 0) (abx_cons (bx1_var 5) abx_nil))) (sx_var 2)))
      (sb_cons (ss_for g PassesOwn.never (ix_range1 g hf_range (sx_mul g (vx sx_int) (vx (sx_toInt g hf_int (avx_cons (vx (sx_cmp (c_in g) (vx_var 2) (vx_var 1))) avx_nil))))) (tgs_one 3) (pg_name (i := 3) g.nd rfl (by first | exact Or.inl rfl | exact Or.inr rfl)) (sb_cons (ss_asg g 6 (sx_add g (vx (sx_add g (vx sx_str) (vx (sx_idx g (vx_var 4) (vx (sx_fdiv g (vx_var 3) (vx sx_int))))))) (vx (sx_idx g (vx_var 4) (vx (sx_mod g (vx_var 3) (vx sx_int)))))))
      (sb_cons (ss_if (tx_cmp (c_nin g) (vx_var 6) (vx_var 1)) (sb_cons (ss_ret (sx_var 6))
      sb_nil) sb_nil)
      sb_nil)))
      (sb_cons (ss_ret (sx_var 2))
      sb_nil)))))
theorem d__law_pool {P : Program} {w : World} {K : PySem.W.Frag} {mg : Str → Option Value} {base : Heap} {G : Gc} {Γ : Env} {f : Addr} (hf_range : mg "range" = none) {con__law_fresh : Con} {dfl__law_fresh : List D} (hg__law_fresh : Γ.fn "_law_fresh" = some (.pl con__law_fresh true dfl__law_fresh)) (he__law_fresh : FnE P w K mg base G 3 "_law_fresh" con__law_fresh dfl__law_fresh 0)
    (cdv : Value) (A : Around) (outer : List PySem.Env) (s : Shared) (H : Hp) (E : XK) (Fm : Fm) (hG : Fm.G = G) (g : Gd (cxOf CX0 P w K mg base N__law_pool "_law_pool" (defScope (top 27)) f cdv A outer s H E).nox Fm noX) (hr : RoomG 3 (A.deeper (PyProof.Rows.envOfC "_law_pool" (defScope (top 27)) s.heap.objs.size f cdv))) :
    SBX (cxOf CX0 P w K mg base N__law_pool "_law_pool" (defScope (top 27)) f cdv A outer s H E).nox Fm noX Γ (defBody (top 27)) c__law_pool := by
  subst hG
  exact (sb_cons (ss_asg g 2 (sx_lst ax_nil))
      (sb_cons (ss_for g PassesOwn.never (ix_range1 g hf_range (sx_var 1)) (tgs_one 3) (pg_name (i := 3) g.nd rfl (by first | exact Or.inl rfl | exact Or.inr rfl)) (sb_cons (ss_app g 2 (sx_callS g he__law_fresh (hr.mono (by decide)) hg__law_fresh (aax_cons (ax1_var 0) (aax_cons (ax1_var 2) aax_nil))))
      sb_nil))
      (sb_cons (ss_ret (sx_var 2))
      sb_nil)))
theorem d__law_between {P : Program} {w : World} {K : PySem.W.Frag} {mg : Str → Option Value} {base : Heap} {G : Gc} {Γ : Env} {f : Addr} (hf_len : mg "len" = none) (hf_range : mg "range" = none) {con__law_draw : Con} {dfl__law_draw : List D} (hg__law_draw : Γ.fn "_law_draw" = some (.pl con__law_draw true dfl__law_draw)) (he__law_draw : FnE P w K mg base G 1 "_law_draw" con__law_draw dfl__law_draw 0)
    (cdv : Value) (A : Around) (outer : List PySem.Env) (s : Shared) (H : Hp) (E : XK) (Fm : Fm) (hG : Fm.G = G) (g : Gd (cxOf CX0 P w K mg base N__law_between "_law_between" (defScope (top 28)) f cdv A outer s H E).nox Fm noX) (hr : RoomG 1 (A.deeper (PyProof.Rows.envOfC "_law_between" (defScope (top 28)) s.heap.objs.size f cdv))) :
    SBX (cxOf CX0 P w K mg base N__law_between "_law_between" (defScope (top 28)) f cdv A outer s H E).nox Fm noX Γ (defBody (top 28)) c__law_between := by
  subst hG
  exact (sb_cons (ss_asg g 3 (sx_lst ax_nil))
      (sb_cons (ss_for g PassesOwn.never (ix_range1 g hf_range (sx_callS g he__law_draw (hr.mono (by decide)) hg__law_draw (aax_cons (ax1_var 0) (aax_cons (ax1 sx_int) aax_nil)))) (tgs_one 4) (pg_name (i := 4) g.nd rfl (by first | exact Or.inl rfl | exact Or.inr rfl)) (sb_cons (ss_asg g 5 (sx_callS g he__law_draw (hr.mono (by decide)) hg__law_draw (aax_cons (ax1_var 0) (aax_cons (ax1 sx_int) aax_nil))))
      (sb_cons (ss_if (tx_cmp (c_lt g) (vx_var 5) (vx sx_int)) (sb_cons (ss_app g 3 (sx_tup (ax_cons sx_str (ax_cons (sx_add g (vx sx_int) (vx (sx_callS g he__law_draw (hr.mono (by decide)) hg__law_draw (aax_cons (ax1_var 0) (aax_cons (ax1_var 2) aax_nil))))) ax_nil))))
      sb_nil) (sb_cons (ss_if (tx_cmp (c_lt g) (vx_var 5) (vx sx_int)) (sb_cons (ss_app g 3 (sx_tup (ax_cons sx_str (ax_cons (sx_add g (vx sx_int) (vx (sx_callS g he__law_draw (hr.mono (by decide)) hg__law_draw (aax_cons (ax1_var 0) (aax_cons (ax1 sx_int) aax_nil))))) ax_nil))))
      sb_nil) (sb_cons (ss_if (tx_w (tw_and (tx_cmp (c_eq g) (vx_var 5) (vx sx_int)) (tw_and1 (tx_cmp (c_ne g) (vx_var 1) (vx (sx_lst ax_nil)))))) (sb_cons (ss_app g 3 (sx_tup (ax_cons sx_str (ax_cons (sx_pop g 1 (sx_callS g he__law_draw (hr.mono (by decide)) hg__law_draw (aax_cons (ax1_var 0) (aax_cons (ax1 (sx_len g hf_len (avx_cons (vx_var 1) avx_nil))) aax_nil)))) ax_nil))))
      sb_nil) sb_nil)
      sb_nil))
      sb_nil))
      sb_nil)))
      (sb_cons (ss_ret (sx_var 3))
      sb_nil)))
theorem d__law_row {P : Program} {w : World} {K : PySem.W.Frag} {mg : Str → Option Value} {base : Heap} {G : Gc} {Γ : Env} {f : Addr} {con__law_between : ConIO} (hg__law_between : Γ.fn "_law_between" = some (.io 1 con__law_between)) (he__law_between : IoE P w K mg base G 2 "_law_between" 1 con__law_between) {con__law_draw : Con} {dfl__law_draw : List D} (hg__law_draw : Γ.fn "_law_draw" = some (.pl con__law_draw true dfl__law_draw)) (he__law_draw : FnE P w K mg base G 1 "_law_draw" con__law_draw dfl__law_draw 0)
    (cdv : Value) (A : Around) (outer : List PySem.Env) (s : Shared) (H : Hp) (E : XK) (Fm : Fm) (hG : Fm.G = G) (g : Gd (cxOf CX0 P w K mg base N__law_row "_law_row" (defScope (top 29)) f cdv A outer s H E).nox Fm noX) (hr : RoomG 2 (A.deeper (PyProof.Rows.envOfC "_law_row" (defScope (top 29)) s.heap.objs.size f cdv))) :
    SBX (cxOf CX0 P w K mg base N__law_row "_law_row" (defScope (top 29)) f cdv A outer s H E).nox Fm noX Γ (defBody (top 29)) c__law_row := by
  subst hG
  exact (sb_cons (ss_par2 g 4 5 (sx_lst ax_nil) (sx_lst ax_nil))
      (sb_cons (ss_for g PassesOwn.never (ix g (sx_var 1)) (tgs_one 3) (pg_name (i := 3) g.nd rfl (by first | exact Or.inl rfl | exact Or.inr rfl)) (sb_cons (ss_ext g 4 (sx_io g he__law_between (hr.mono (by decide)) hg__law_between (aix_cons 5 (bx1_var 0) (aix_here 5 (abx_cons (bx1_var 2) abx_nil)))))
      (sb_cons (ss_app g 4 (sx_tup (ax_cons sx_str (ax_cons (sx_var 3) (ax_cons (sx_add g (vx sx_int) (vx (sx_callS g he__law_draw (hr.mono (by decide)) hg__law_draw (aax_cons (ax1_var 0) (aax_cons (ax1_var 2) aax_nil))))) ax_nil)))))
      (sb_cons (ss_app g 5 (sx_var 3))
      sb_nil))))
      (sb_cons (ss_ret (sx_add g (vx_var 4) (vx (sx_io g he__law_between (hr.mono (by decide)) hg__law_between (aix_cons 5 (bx1_var 0) (aix_here 5 (abx_cons (bx1_var 2) abx_nil)))))))
      sb_nil)))
theorem d__law_same {P : Program} {w : World} {K : PySem.W.Frag} {mg : Str → Option Value} {base : Heap} {G : Gc} {Γ : Env} {f : Addr} (hf_repr : mg "repr" = none)
    (cdv : Value) (A : Around) (outer : List PySem.Env) (s : Shared) (H : Hp) (E : XK) (Fm : Fm) (hG : Fm.G = G) (g : Gd (cxOf CX0 P w K mg base N__law_same "_law_same" (defScope (top 25)) f cdv A outer s H E).nox Fm noX) (hr : RoomG 0 (A.deeper (PyProof.Rows.envOfC "_law_same" (defScope (top 25)) s.heap.objs.size f cdv))) :
    SBX (cxOf CX0 P w K mg base N__law_same "_law_same" (defScope (top 25)) f cdv A outer s H E).nox Fm noX Γ (defBody (top 25)) c__law_same := by
  subst hG
  exact (sb_cons (ss_ret (sx_cmp (c_eq g) (vx (sx_repr g hf_repr (avx_cons (vx_var 0) avx_nil))) (vx (sx_repr g hf_repr (avx_cons (vx_var 1) avx_nil)))))
      sb_nil)
theorem d__law_sets {P : Program} {w : World} {K : PySem.W.Frag} {mg : Str → Option Value} {base : Heap} {G : Gc} {Γ : Env} {f : Addr} (hf_len : mg "len" = none) (hf_list : mg "list" = none) (hf_sorted : mg "sorted" = none) (hf_tuple : mg "tuple" = none)
    (cdv : Value) (A : Around) (outer : List PySem.Env) (s : Shared) (H : Hp) (E : XK) (Fm : Fm) (hG : Fm.G = G) (g : Gd (cxOf CX0 P w K mg base N__law_sets "_law_sets" (defScope (top 32)) f cdv A outer s H E).nox Fm noX) (hr : RoomG 0 (A.deeper (PyProof.Rows.envOfC "_law_sets" (defScope (top 32)) s.heap.objs.size f cdv))) :
    SBX (cxOf CX0 P w K mg base N__law_sets "_law_sets" (defScope (top 32)) f cdv A outer s H E).nox Fm noX Γ (defBody (top 32)) c__law_sets := by
  subst hG
  exact (sb_cons (ss_asg g 1 (sx_lst (ax_cons (sx_tup ax_nil) ax_nil)))
      (sb_cons (ss_for g PassesOwn.never (ix g (sx_sorted g hf_sorted (avx_cons (vx_var 0) avx_nil))) (tgs_one 2) (pg_name (i := 2) g.nd rfl (by first | exact Or.inl rfl | exact Or.inr rfl)) (sb_cons (ss_asg g 1 (sx_add g (vx_var 1) (vx (sx_lc (own := [("_law_one", 3)]) g (ix g (sx_var 1)) (blkOk_by (by kernel_rfl)) rfl (tgs_one 3) (fun _ _ _ _ _ => (pg_name (i := 3) (Gd.blk g).nd rfl (by first | exact Or.inl rfl | exact Or.inr rfl))) (fun _ _ _ _ _ => tsx_nil) (fun _ _ _ _ _ => (sx_add (Gd.blk g) (vx_var 3) (vx (sx_tup (ax_cons (sx_var 2) ax_nil)))))))))
      sb_nil))
      (sb_cons (ss_ret (sx_lc (own := [("_law_one", 3)]) g (ix g (sx_sorted g hf_sorted (avx_cons (vx (sx_lc (own := [("_law_one", 3)]) g (ix g (sx_var 1)) (blkOk_by (by kernel_rfl)) rfl (tgs_one 3) (fun _ _ _ _ _ => (pg_name (i := 3) (Gd.blk g).nd rfl (by first | exact Or.inl rfl | exact Or.inr rfl))) (fun _ _ _ _ _ => tsx_nil) (fun _ _ _ _ _ => (sx_add (Gd.blk g) (vx (sx_lst (ax_cons (sx_len (Gd.blk g) hf_len (avx_cons (vx_var 3) avx_nil)) ax_nil))) (vx (sx_list (Gd.blk g) hf_list (avx_cons (vx_var 3) avx_nil))))))) avx_nil))) (blkOk_by (by kernel_rfl)) rfl (tgs_one 3) (fun _ _ _ _ _ => (pg_name (i := 3) (Gd.blk g).nd rfl (by first | exact Or.inl rfl | exact Or.inr rfl))) (fun _ _ _ _ _ => tsx_nil) (fun _ _ _ _ _ => (sx_tuple (Gd.blk g) hf_tuple (avx_cons (vx (sx_sli (Gd.blk g) (vx_var 3) (ox_some sx_int) ox_none)) avx_nil)))))
      sb_nil)))
theorem d_check_markX {P : Program} {w : World} {K : PySem.W.Frag} {mg : Str → Option Value} {base : Heap} {G : Gc} {Γ : Env} {f : Addr} (hf_isinstance : mg "isinstance" = none) (hf_str : mg "str" = none) (her_NoMark : ErrE P K mg G "NoMark" "mark")
    (cdv : Value) (A : Around) (outer : List PySem.Env) (s : Shared) (H : Hp) (E : XK) (Fm : Fm) (Ex : XC) (hG : Fm.G = G) (g : Gd (cxOf (L2.CX P w) P w K mg base N_check_markX "check_mark" (defScope (top 16)) f cdv A outer s H E) Fm Ex) (hr : RoomG 0 (A.deeper (PyProof.Rows.envOfC "check_mark" (defScope (top 16)) s.heap.objs.size f cdv))) :
    SBX (cxOf (L2.CX P w) P w K mg base N_check_markX "check_mark" (defScope (top 16)) f cdv A outer s H E) Fm Ex Γ (defBody (top 16)) c_check_markX := by
  subst hG
  exact (sb_cons (ss_if (tx_w (tw_or (tx_not (tx g (vx (sx_isi1 (T := "str") g hf_isinstance hf_str (by decide +kernel) (by decide) (vx_var 0))))) (tw_or1 (tx_cmp (c_nin g) (vx_var 0) (vx_var 1))))) (sb_cons (ss_raise g her_NoMark hr (sx_var 0))
      sb_nil) sb_nil)
      sb_nil)
theorem d_checked_marksX {P : Program} {w : World} {K : PySem.W.Frag} {mg : Str → Option Value} {base : Heap} {G : Gc} {Γ : Env} {f : Addr} (hf_list : mg "list" = none) (her_NoMark : ErrE P K mg G "NoMark" "mark") {con_check_mark : Con} {dfl_check_mark : List D} (hg_check_mark : Γ.fn "check_mark" = some (.pl con_check_mark false dfl_check_mark)) (he_check_mark : FnE P w K mg base G 1 "check_mark" con_check_mark dfl_check_mark 0)
    (cdv : Value) (A : Around) (outer : List PySem.Env) (s : Shared) (H : Hp) (E : XK) (Fm : Fm) (Ex : XC) (hG : Fm.G = G) (g : Gd (cxOf (L2.CX P w) P w K mg base N_checked_marksX "checked_marks" (defScope (top 17)) f cdv A outer s H E) Fm Ex) (hr : RoomG 1 (A.deeper (PyProof.Rows.envOfC "checked_marks" (defScope (top 17)) s.heap.objs.size f cdv))) :
    SBX (cxOf (L2.CX P w) P w K mg base N_checked_marksX "checked_marks" (defScope (top 17)) f cdv A outer s H E) Fm Ex Γ (defBody (top 17)) c_checked_marksX := by
  subst hG
  exact (sb_cons (ss_if (tx_cmp (c_isn g) (vx_var 0) (vx sx_non)) (sb_cons (ss_ret (sx_list g hf_list (avx_cons (vx_var 1) avx_nil)))
      sb_nil) sb_nil)
      (sb_cons (ss_asg g 2 (sx_lst ax_nil))
      (sb_cons (ss_for g (passes_of rfl) (ix g (sx_var 0)) (tgs_one 3) (pg_name (i := 3) g.nd rfl (by first | exact Or.inl rfl | exact Or.inr rfl)) (sb_cons (ss_ex (sx_call g he_check_mark (hr.mono (by decide)) hg_check_mark (abx_cons (bx1_var 3) (abx_cons (bx1_var 1) abx_nil))))
      (sb_cons (ss_if (tx_cmp (c_in g) (vx_var 3) (vx_var 2)) (sb_cons (ss_raise g her_NoMark hr (sx_var 3))
      sb_nil) sb_nil)
      (sb_cons (ss_app g 2 (sx_var 3))
      sb_nil))))
      (sb_cons (ss_ret (sx_var 2))
      sb_nil))))
theorem d_Account_days {P : Program} {w : World} {K : PySem.W.Frag} {mg : Str → Option Value} {base : Heap} {G : Gc} {Γ : Env} {f : Addr} (hna_Account_given : NoAttr K (G.ga "Account") "given") (hcl_Account : Cls K (G.ga "Account")) {con_check_mark : Con} {dfl_check_mark : List D} (hg_check_mark : Γ.fn "check_mark" = some (.pl con_check_mark false dfl_check_mark)) (he_check_mark : FnE P w K mg base G 1 "check_mark" con_check_mark dfl_check_mark 0)
    (cdv : Value) (A : Around) (outer : List PySem.Env) (s : Shared) (H : Hp) (E : XK) (Fm : Fm) (hG : Fm.G = G) (g : Gd (cxOf CX0 P w K mg base N_Account_days "Account.days" (defScope (inClass (top 15) 7)) f cdv A outer s H E).nox Fm noX) (hr : RoomG 1 (A.deeper (PyProof.Rows.envOfC "Account.days" (defScope (inClass (top 15) 7)) s.heap.objs.size f cdv))) :
    SBX (cxOf CX0 P w K mg base N_Account_days "Account.days" (defScope (inClass (top 15) 7)) f cdv A outer s H E).nox Fm noX Γ (defBody (inClass (top 15) 7)) c_Account_days := by
  subst hG
  exact (sb_cons (ss_ex (sx_call g he_check_mark (hr.mono (by decide)) hg_check_mark (abx_cons (bx1_var 1) (abx_cons (bx1 (sx_att g "Account" hcl_Account hna_Account_given (sx_var 0))) abx_nil))))
      (sb_cons (ss_ret (sx_idx g (vx (sx_att g "Account" hcl_Account hna_Account_given (sx_var 0))) (vx_var 1)))
      sb_nil))
theorem d_Account_gone {P : Program} {w : World} {K : PySem.W.Frag} {mg : Str → Option Value} {base : Heap} {G : Gc} {Γ : Env} {f : Addr} (hna_Account_since : NoAttr K (G.ga "Account") "since") (hcl_Account : Cls K (G.ga "Account")) {con_check_mark : Con} {dfl_check_mark : List D} (hg_check_mark : Γ.fn "check_mark" = some (.pl con_check_mark false dfl_check_mark)) (he_check_mark : FnE P w K mg base G 1 "check_mark" con_check_mark dfl_check_mark 0)
    (cdv : Value) (A : Around) (outer : List PySem.Env) (s : Shared) (H : Hp) (E : XK) (Fm : Fm) (hG : Fm.G = G) (g : Gd (cxOf CX0 P w K mg base N_Account_gone "Account.gone" (defScope (inClass (top 15) 8)) f cdv A outer s H E).nox Fm noX) (hr : RoomG 1 (A.deeper (PyProof.Rows.envOfC "Account.gone" (defScope (inClass (top 15) 8)) s.heap.objs.size f cdv))) :
    SBX (cxOf CX0 P w K mg base N_Account_gone "Account.gone" (defScope (inClass (top 15) 8)) f cdv A outer s H E).nox Fm noX Γ (defBody (inClass (top 15) 8)) c_Account_gone := by
  subst hG
  exact (sb_cons (ss_ex (sx_call g he_check_mark (hr.mono (by decide)) hg_check_mark (abx_cons (bx1_var 1) (abx_cons (bx1 (sx_att g "Account" hcl_Account hna_Account_since (sx_var 0))) abx_nil))))
      (sb_cons (ss_ret (sx_idx g (vx (sx_att g "Account" hcl_Account hna_Account_since (sx_var 0))) (vx_var 1)))
      sb_nil))
theorem d_Account_marks {P : Program} {w : World} {K : PySem.W.Frag} {mg : Str → Option Value} {base : Heap} {G : Gc} {Γ : Env} {f : Addr} (hf_list : mg "list" = none) (hna_Account_given : NoAttr K (G.ga "Account") "given") (hcl_Account : Cls K (G.ga "Account"))
    (cdv : Value) (A : Around) (outer : List PySem.Env) (s : Shared) (H : Hp) (E : XK) (Fm : Fm) (hG : Fm.G = G) (g : Gd (cxOf CX0 P w K mg base N_Account_marks "Account.marks" (defScope (inClass (top 15) 6)) f cdv A outer s H E).nox Fm noX) (hr : RoomG 0 (A.deeper (PyProof.Rows.envOfC "Account.marks" (defScope (inClass (top 15) 6)) s.heap.objs.size f cdv))) :
    SBX (cxOf CX0 P w K mg base N_Account_marks "Account.marks" (defScope (inClass (top 15) 6)) f cdv A outer s H E).nox Fm noX Γ (defBody (inClass (top 15) 6)) c_Account_marks := by
  subst hG
  exact (sb_cons (ss_ret (sx_list g hf_list (avx_cons (vx (sx_att g "Account" hcl_Account hna_Account_given (sx_var 0))) avx_nil)))
      sb_nil)
theorem d_left_of {P : Program} {w : World} {K : PySem.W.Frag} {mg : Str → Option Value} {base : Heap} {G : Gc} {Γ : Env} {f : Addr} (hf_max : mg "max" = none) {con_Account_days : Con} {dfl_Account_days : List D} (hg_Account_days : Γ.mth "Account" "days" = some (.pl con_Account_days false dfl_Account_days)) (he_Account_days : MtE P w K mg base G 2 "Account" "days" con_Account_days dfl_Account_days 0) {con_Account_gone : Con} {dfl_Account_gone : List D} (hg_Account_gone : Γ.mth "Account" "gone" = some (.pl con_Account_gone false dfl_Account_gone)) (he_Account_gone : MtE P w K mg base G 2 "Account" "gone" con_Account_gone dfl_Account_gone 0) {con_Account_marks : Con} {dfl_Account_marks : List D} (hg_Account_marks : Γ.mth "Account" "marks" = some (.pl con_Account_marks false dfl_Account_marks)) (he_Account_marks : MtE P w K mg base G 1 "Account" "marks" con_Account_marks dfl_Account_marks 0)
    (cdv : Value) (A : Around) (outer : List PySem.Env) (s : Shared) (H : Hp) (E : XK) (Fm : Fm) (hG : Fm.G = G) (g : Gd (cxOf CX0 P w K mg base N_left_of "left_of" (defScope (top 19)) f cdv A outer s H E).nox Fm noX) (hr : RoomG 2 (A.deeper (PyProof.Rows.envOfC "left_of" (defScope (top 19)) s.heap.objs.size f cdv))) :
    SBX (cxOf CX0 P w K mg base N_left_of "left_of" (defScope (top 19)) f cdv A outer s H E).nox Fm noX Γ (defBody (top 19)) c_left_of := by
  subst hG
  exact (sb_cons (ss_asgT g (sx_tup (ax_cons sx_int (ax_cons sx_int ax_nil))) (tgs_tup g.hK (tgss_cons (tgs_one 3) (tgss_cons (tgs_one 4) tgss_nil)) rfl) (pg_tup rfl (pgs_cons (pg_name (i := 3) g.nd rfl (by first | exact Or.inl rfl | exact Or.inr rfl)) (pgs_cons (pg_name (i := 4) g.nd rfl (by first | exact Or.inl rfl | exact Or.inr rfl)) pgs_nil))))
      (sb_cons (ss_for g PassesOwn.never (ix g (sx_rev g (vx (sx_mth0 g "Account" he_Account_marks (hr.mono (by decide)) hg_Account_marks (sx_var 0) (fun c hm ok hb hd => pe_methx0 (sx_var 0) c hm ok (hr.mono (by decide)) hb hd (fun σ => passAt g.tk σ)))))) (tgs_one 2) (pg_name (i := 2) g.nd rfl (by first | exact Or.inl rfl | exact Or.inr rfl)) (sb_cons (ss_if (tx_cmp (c_in g) (vx_var 2) (vx_var 1)) (sb_cons (ss_asg g 4 (sx_add g (vx_var 4) (vx (sx_mth g "Account" he_Account_days (hr.mono (by decide)) hg_Account_days (sx_var 0) (abx_cons (bx1_var 2) abx_nil) (fun c hm ok hb hd => pe_methx (sx_var 0) c hm ok (hr.mono (by decide)) hb hd (fun σ => passAt g.tk σ) (abx_cons (bx1_var 2) abx_nil))))))
      (sb_cons (ss_asg g 3 (sx_max2 g hf_max (avx_cons (vx_var 3) (avx_cons (vx (sx_sub g (vx_var 4) (vx (sx_mth g "Account" he_Account_gone (hr.mono (by decide)) hg_Account_gone (sx_var 0) (abx_cons (bx1_var 2) abx_nil) (fun c hm ok hb hd => pe_methx (sx_var 0) c hm ok (hr.mono (by decide)) hb hd (fun σ => passAt g.tk σ) (abx_cons (bx1_var 2) abx_nil)))))) avx_nil))))
      sb_nil)) sb_nil)
      sb_nil))
      (sb_cons (ss_ret (sx_var 3))
      sb_nil)))
theorem d_leftX {P : Program} {w : World} {K : PySem.W.Frag} {mg : Str → Option Value} {base : Heap} {G : Gc} {Γ : Env} {f : Addr} {con_checked_marks : Con} {dfl_checked_marks : List D} (hg_checked_marks : Γ.fn "checked_marks" = some (.pl con_checked_marks false dfl_checked_marks)) (he_checked_marks : FnE P w K mg base G 2 "checked_marks" con_checked_marks dfl_checked_marks 0) {con_left_of : Con} {dfl_left_of : List D} (hg_left_of : Γ.fn "left_of" = some (.pl con_left_of false dfl_left_of)) (he_left_of : FnE P w K mg base G 3 "left_of" con_left_of dfl_left_of 0) {con_Account_marks : Con} {dfl_Account_marks : List D} (hg_Account_marks : Γ.mth "Account" "marks" = some (.pl con_Account_marks false dfl_Account_marks)) (he_Account_marks : MtE P w K mg base G 1 "Account" "marks" con_Account_marks dfl_Account_marks 0)
    (cdv : Value) (A : Around) (outer : List PySem.Env) (s : Shared) (H : Hp) (E : XK) (Fm : Fm) (Ex : XC) (hG : Fm.G = G) (g : Gd (cxOf (L2.CX P w) P w K mg base N_leftX "left" (defScope (top 20)) f cdv A outer s H E) Fm Ex) (hr : RoomG 3 (A.deeper (PyProof.Rows.envOfC "left" (defScope (top 20)) s.heap.objs.size f cdv))) :
    SBX (cxOf (L2.CX P w) P w K mg base N_leftX "left" (defScope (top 20)) f cdv A outer s H E) Fm Ex Γ (defBody (top 20)) c_leftX := by
  subst hG
  exact (sb_cons (ss_ret (sx_call g he_left_of (hr.mono (by decide)) hg_left_of (abx_cons (bx1_var 0) (abx_cons (bx1 (sx_call g he_checked_marks (hr.mono (by decide)) hg_checked_marks (abx_cons (bx1_var 1) (abx_cons (bx1 (sx_mth0 g "Account" he_Account_marks (hr.mono (by decide)) hg_Account_marks (sx_var 0) (fun c hm ok hb hd => pe_methx0 (sx_var 0) c hm ok (hr.mono (by decide)) hb hd (fun σ => passAt g.tk σ)))) abx_nil)))) abx_nil))))
      sb_nil)
theorem d_Account___eq__ {P : Program} {w : World} {K : PySem.W.Frag} {mg : Str → Option Value} {base : Heap} {G : Gc} {Γ : Env} {f : Addr} (hf_isinstance : mg "isinstance" = none) (hna_Account_deeds : NoAttr K (G.ga "Account") "deeds") (hcl_Account : Cls K (G.ga "Account")) (hmc_Account : mg "Account" = some (.ref (G.ga "Account"))) (hic_Account : C8.InsC K (G.ga "Account")) (hoe_Account : PySem.W.findIn K (.ref (G.ga "Account")) "__ne__" = some (some (.builtin "object.__ne__")) ∧ PySem.W.mroIn K (G.ga "Account") (.type "object") = some true)
    (cdv : Value) (A : Around) (outer : List PySem.Env) (s : Shared) (H : Hp) (E : XK) (Fm : Fm) (hG : Fm.G = G) (g : Gd (cxOf CX0 P w K mg base N_Account___eq__ "Account.__eq__" (defScope (inClass (top 15) 4)) f cdv A outer s H E).nox Fm noX) (hr : RoomG 0 (A.deeper (PyProof.Rows.envOfC "Account.__eq__" (defScope (inClass (top 15) 4)) s.heap.objs.size f cdv))) :
    SBX (cxOf CX0 P w K mg base N_Account___eq__ "Account.__eq__" (defScope (inClass (top 15) 4)) f cdv A outer s H E).nox Fm noX Γ (defBody (inClass (top 15) 4)) c_Account___eq__ := by
  subst hG
  exact (sb_cons (ss_ret (sx_and (sx_isO g hf_isinstance hmc_Account hic_Account (vx_var 1)) (sx_one (sx_cmp (c_eq g) (vx (sx_att g "Account" hcl_Account hna_Account_deeds (sx_var 0))) (vx (sx_att g "Account" hcl_Account hna_Account_deeds (sx_var 1)))))))
      sb_nil)
theorem d_law {P : Program} {w : World} {K : PySem.W.Frag} {mg : Str → Option Value} {base : Heap} {G : Gc} {Γ : Env} {f : Addr} (hf_len : mg "len" = none) (hf_range : mg "range" = none) (hf_tuple : mg "tuple" = none) (hmc_Account : mg "Account" = some (.ref (G.ga "Account"))) (hic_Account : C8.InsC K (G.ga "Account")) (hoe_Account : PySem.W.findIn K (.ref (G.ga "Account")) "__ne__" = some (some (.builtin "object.__ne__")) ∧ PySem.W.mroIn K (G.ga "Account") (.type "object") = some true) {ask__law_refused : Ask} (hga__law_refused : Γ.ask "_law_refused" = some ask__law_refused) (hak__law_refused : AskE P w K mg base G "_law_refused" ask__law_refused) {con_Account : Con} {dfl_Account : List D} (hg_Account : Γ.fn "Account" = some (.pl con_Account false dfl_Account)) (he_Account : MkE P w K mg base G 5 "Account" con_Account dfl_Account 0) (he_Account_1 : MkE P w K mg base G 5 "Account" con_Account dfl_Account 1) {con__law_counting : Con} {dfl__law_counting : List D} (hg__law_counting : Γ.fn "_law_counting" = some (.pl con__law_counting false dfl__law_counting)) (he__law_counting : FnE P w K mg base G 1 "_law_counting" con__law_counting dfl__law_counting 0) {con__law_draw : Con} {dfl__law_draw : List D} (hg__law_draw : Γ.fn "_law_draw" = some (.pl con__law_draw true dfl__law_draw)) (he__law_draw : FnE P w K mg base G 1 "_law_draw" con__law_draw dfl__law_draw 0) {con__law_fact : Con} {dfl__law_fact : List D} (hg__law_fact : Γ.fn "_law_fact" = some (.pl con__law_fact false dfl__law_fact)) (he__law_fact : FnE P w K mg base G 1 "_law_fact" con__law_fact dfl__law_fact 0) {con__law_left : Con} {dfl__law_left : List D} (hg__law_left : Γ.fn "_law_left" = some (.pl con__law_left false dfl__law_left)) (he__law_left : FnE P w K mg base G 1 "_law_left" con__law_left dfl__law_left 0) {con__law_mixed : Con} {dfl__law_mixed : List D} (hg__law_mixed : Γ.fn "_law_mixed" = some (.pl con__law_mixed false dfl__law_mixed)) (he__law_mixed : FnE P w K mg base G 2 "_law_mixed" con__law_mixed dfl__law_mixed 0) {con__law_pick : Con} {dfl__law_pick : List D} (hg__law_pick : Γ.fn "_law_pick" = some (.pl con__law_pick false dfl__law_pick)) (he__law_pick : FnE P w K mg base G 2 "_law_pick" con__law_pick dfl__law_pick 0) {con__law_pool : Con} {dfl__law_pool : List D} (hg__law_pool : Γ.fn "_law_pool" = some (.pl con__law_pool false dfl__law_pool)) (he__law_pool : FnE P w K mg base G 4 "_law_pool" con__law_pool dfl__law_pool 0) {con__law_row : Con} {dfl__law_row : List D} (hg__law_row : Γ.fn "_law_row" = some (.pl con__law_row false dfl__law_row)) (he__law_row : FnE P w K mg base G 3 "_law_row" con__law_row dfl__law_row 0) {con__law_same : Con} {dfl__law_same : List D} (hg__law_same : Γ.fn "_law_same" = some (.pl con__law_same true dfl__law_same)) (he__law_same : FnE P w K mg base G 1 "_law_same" con__law_same dfl__law_same 0) {con__law_sets : Con} {dfl__law_sets : List D} (hg__law_sets : Γ.fn "_law_sets" = some (.pl con__law_sets false dfl__law_sets)) (he__law_sets : FnE P w K mg base G 1 "_law_sets" con__law_sets dfl__law_sets 0) {con_left : Con} {dfl_left : List D} (hg_left : Γ.fn "left" = some (.pl con_left false dfl_left)) (he_left : FnE P w K mg base G 4 "left" con_left dfl_left 0) (he_left_1 : FnE P w K mg base G 4 "left" con_left dfl_left 1) {con_Account___eq__ : Con} {dfl_Account___eq__ : List D} (hg_Account___eq__ : Γ.mth "Account" "__eq__" = some (.pl con_Account___eq__ false dfl_Account___eq__)) (he_Account___eq__ : MtE P w K mg base G 1 "Account" "__eq__" con_Account___eq__ dfl_Account___eq__ 0)
    (cdv : Value) (A : Around) (outer : List PySem.Env) (s : Shared) (H : Hp) (E : XK) (Fm : Fm) (hG : Fm.G = G) (g : Gd (cxOf CX0 P w K mg base N_law "law" (defScope (top 35)) f cdv A outer s H E).nox Fm noX) (htb : TabE (cxOf CX0 P w K mg base N_law "law" (defScope (top 35)) f cdv A outer s H E).nox Fm) (hr : RoomG 8 (A.deeper (PyProof.Rows.envOfC "law" (defScope (top 35)) s.heap.objs.size f cdv))) :
    SBX (cxOf CX0 P w K mg base N_law "law" (defScope (top 35)) f cdv A outer s H E).nox Fm noX Γ ((defBody (top 35)).drop 1) c_law := by
  subst hG
  exact (sb_cons (ss_for g PassesOwn.never (ix_range1 g hf_range sx_int) (tgs_one 2) (pg_name (i := 2) g.nd rfl (by first | exact Or.inl rfl | exact Or.inr rfl)) (sb_cons (ss_asg g 3 (sx_call g he__law_pool (hr.mono (by decide)) hg__law_pool (abx_cons (bx1_var 1) (abx_cons (bx1 (sx_callS g he__law_draw (hr.mono (by decide)) hg__law_draw (aax_cons (ax1_var 1) (aax_cons (ax1 sx_int) aax_nil)))) abx_nil))))
      (sb_cons (ss_asg g 4 (sx_call g he__law_row (hr.mono (by decide)) hg__law_row (abx_cons (bx1_var 1) (abx_cons (bx1_var 3) (abx_cons (bx1 (sx_call g he__law_pick (hr.mono (by decide)) hg__law_pick (abx_cons (bx1_var 1) (abx_cons (bx1 (sx_lst (ax_cons sx_int (ax_cons sx_int (ax_cons sx_int (ax_cons (sx_pow g (vx sx_int) (vx sx_int)) ax_nil)))))) abx_nil)))) abx_nil)))))
      (sb_cons (ss_asgT g (sx_tup (ax_cons (sx_mk g he_Account (hr.mono (by decide)) hg_Account (abx_cons (bx1_var 4) abx_nil) (fun M ok hm hb hd => pe_makex M ok (hr.mono (by decide)) rfl hm hb hd (fun σ => passAt g.tk σ) (abx_cons (bx1_var 4) abx_nil))) (ax_cons (sx_call g he__law_counting (hr.mono (by decide)) hg__law_counting (abx_cons (bx1_var 4) abx_nil)) ax_nil))) (tgs_tup g.hK (tgss_cons (tgs_one 9) (tgss_cons (tgs_one 10) tgss_nil)) rfl) (pg_tup rfl (pgs_cons (pg_name (i := 9) g.nd rfl (by first | exact Or.inl rfl | exact Or.inr rfl)) (pgs_cons (pg_name (i := 10) g.nd rfl (by first | exact Or.inl rfl | exact Or.inr rfl)) pgs_nil))))
      (sb_cons (ss_for g PassesOwn.never (ix g (sx_call g he__law_sets (hr.mono (by decide)) hg__law_sets (abx_cons (bx1_var 10) abx_nil))) (tgs_one 5) (pg_name (i := 5) g.nd rfl (by first | exact Or.inl rfl | exact Or.inr rfl)) (sb_cons (ss_asg g 11 (sx_call g he__law_mixed (hr.mono (by decide)) hg__law_mixed (abx_cons (bx1_var 1) (abx_cons (bx1_var 5) abx_nil))))
      (sb_cons (ss_asg g 11 (sx_call g he__law_pick (hr.mono (by decide)) hg__law_pick (abx_cons (bx1_var 1) (abx_cons (bx1 (sx_lst (ax_cons (sx_var 11) (ax_cons (sx_tuple g hf_tuple (avx_cons (vx_var 11) avx_nil)) ax_nil)))) abx_nil))))
      (sb_cons (ss_asg g 12 (sx_call g he_left (hr.mono (by decide)) hg_left (abx_cons (bx1_var 9) (abx_cons (bx1_var 11) abx_nil))))
      (sb_cons (ss_if (tx_w (tw_or (tx_not (tx g (vx (sx_callS g he__law_same (hr.mono (by decide)) hg__law_same (aax_cons (ax1_var 12) (aax_cons (ax1 (sx_call g he__law_left (hr.mono (by decide)) hg__law_left (abx_cons (bx1_var 4) (abx_cons (bx1_var 5) abx_nil)))) aax_nil)))))) (tw_or1 (tx_cmp (c_ne g) (vx_var 12) (vx (sx_call g he__law_fact (hr.mono (by decide)) hg__law_fact (abx_cons (bx1_var 4) (abx_cons (bx1_var 5) abx_nil)))))))) (sb_cons (ss_ret sx_bl)
      sb_nil) sb_nil)
      sb_nil)))))
      (sb_cons (ss_if (tx_not (tx g (vx (sx_callS g he__law_same (hr.mono (by decide)) hg__law_same (aax_cons (ax1 (sx_lst (ax_cons (sx_call g he_left_1 (hr.mono (by decide)) hg_left (abx_cons (bx1_var 9) abx_nil)) (ax_cons (sx_call g he_left (hr.mono (by decide)) hg_left (abx_cons (bx1_var 9) (abx_cons (bx1 sx_non) abx_nil))) ax_nil)))) (aax_cons (ax1 (sx_rep g (vx (sx_lst (ax_cons (sx_call g he__law_left (hr.mono (by decide)) hg__law_left (abx_cons (bx1_var 4) (abx_cons (bx1_var 10) abx_nil))) ax_nil))) (vx sx_int))) aax_nil)))))) (sb_cons (ss_ret sx_bl)
      sb_nil) sb_nil)
      (sb_cons (ss_asg g 6 (sx_call g he__law_pick (hr.mono (by decide)) hg__law_pick (abx_cons (bx1_var 1) (abx_cons (bx1 (sx_add g (vx (sx_add g (vx (sx_lst (ax_cons sx_non (ax_cons sx_int (ax_cons sx_str (ax_cons sx_str (ax_cons (sx_tup (ax_cons sx_str ax_nil)) (ax_cons (sx_lst (ax_cons sx_str ax_nil)) (ax_cons sx_dct0 (ax_cons sx_bl ax_nil)))))))))) (vx_var 10))) (vx_var 3))) abx_nil))))
      (sb_cons (ss_asg g 7 (sx_sli g (vx (sx_call g he__law_mixed (hr.mono (by decide)) hg__law_mixed (abx_cons (bx1_var 1) (abx_cons (bx1_var 10) abx_nil)))) ox_none (ox_some (sx_callS g he__law_draw (hr.mono (by decide)) hg__law_draw (aax_cons (ax1_var 1) (aax_cons (ax1 (sx_add g (vx (sx_len g hf_len (avx_cons (vx_var 10) avx_nil))) (vx sx_int))) aax_nil))))))
      (sb_cons (ss_asg g 8 (sx_ite (tx_w (tw_or (tx_cmp (c_ninD g hr) (vx_var 6) (vx_var 10)) (tw_or1 (tx_cmp (c_inD g hr) (vx_var 6) (vx_var 7))))) (sx_tup (ax_cons (sx_var 6) ax_nil)) (sx_tup ax_nil)))
      (sb_cons (ss_if (tx_w (tw_or (tx_not (tx g (vx (sx_callS g he__law_same (hr.mono (by decide)) hg__law_same (aax_cons (ax1 (sx_lam (k := 6) (caps := [6, 7, 9]) g hak__law_refused hga__law_refused htb (hr.mono (by decide)) (LamX.lamS_by (by kernel_rfl)) rfl (fun _ _ _ _ _ => rfl) (fun _ _ _ _ _ _ _ _ _ _ _ _ g2 hr2 => (sx_call g2 he_left (hr2.mono (by decide)) hg_left (abx_cons (bx1_var 9) (abx_cons (bx1 (sx_add g2 (vx_var 7) (vx (sx_lst (ax_cons (sx_var 6) ax_nil))))) abx_nil)))))) (aax_cons (ax1_var 8) aax_nil)))))) (tw_or1 (tx_one_ g he_Account___eq__ hg_Account___eq__ hoe_Account (hr.mono (by decide)) (sx_var 9) (sx_mk g he_Account (hr.mono (by decide)) hg_Account (abx_cons (bx1_var 4) abx_nil) (fun M ok hm hb hd => pe_makex M ok (hr.mono (by decide)) rfl hm hb hd (fun σ => passAt g.tk σ) (abx_cons (bx1_var 4) abx_nil))))))) (sb_cons (ss_ret sx_bl)
      sb_nil) sb_nil)
      sb_nil))))))))))
      (sb_cons (ss_ret (sx_and (sx_cmp (c_eq g) (vx (sx_call g he_left_1 (hr.mono (by decide)) hg_left (abx_cons (bx1 (sx_mk0 g he_Account_1 (hr.mono (by decide)) hg_Account (fun M ok hm hb hd => pe_makex0 M ok (hr.mono (by decide)) rfl hm hb hd (fun σ => passAt g.tk σ)))) abx_nil))) (vx sx_int)) (sx_one (sx_cmp (c_eq g) (vx (sx_call g he_left (hr.mono (by decide)) hg_left (abx_cons (bx1 (sx_mk g he_Account (hr.mono (by decide)) hg_Account (abx_cons (bx1 (sx_lst (ax_cons (sx_tup (ax_cons sx_str (ax_cons sx_int ax_nil))) ax_nil))) abx_nil) (fun M ok hm hb hd => pe_makex M ok (hr.mono (by decide)) rfl hm hb hd (fun σ => passAt g.tk σ) (abx_cons (bx1 (sx_lst (ax_cons (sx_tup (ax_cons sx_str (ax_cons sx_int ax_nil))) ax_nil))) abx_nil)))) (abx_cons (bx1 (sx_lst ax_nil)) abx_nil)))) (vx sx_int)))))
      sb_nil))
end PP

set_option Elab.async false
set_option linter.all false
set_option maxRecDepth 100000
set_option maxHeartbeats 0
namespace PP
open PySem L2
abbrev Rw : PySem.W.OpenRow := PySem.W.OpenLaw.row PySem.Challenge.rw_giftbars_k04_whole_left
def df (x : Str) (i : Nat) (ds : List He.Dv := []) : He.DefD := ⟨(x, none), x, x, defArgs (top i), defBody (top i), defScope (top i), ds, []⟩
def dm (c m q : Str) (i j : Nat) (ds : List He.Dv := []) : He.DefD := ⟨(c, some m), m, q, defArgs (inClass (top i) j), defBody (inClass (top i) j), defScope (inClass (top i) j), ds, []⟩
def fn : List He.DefD := [df "is_integer" 4, df "is_count" 7, df "is_list" 5, df "is_mark" 6, df "deed_of" 13, df "checked_row" 14, dm "Account" "__init__" "Account.__init__" 15 0 [.adr (He.dflAt ("Account", some "__init__") 0)], df "_law_counting" 30, df "_law_draw" 22, df "_law_fact" 33, df "_law_left" 31, df "_law_mixed" 24, df "_law_pick" 23, df "_law_fresh" 26, df "_law_pool" 27, df "_law_between" 28, df "_law_row" 29, df "_law_same" 25, df "_law_sets" 32, df "check_mark" 16, df "checked_marks" 17, dm "Account" "days" "Account.days" 15 7, dm "Account" "gone" "Account.gone" 15 8, dm "Account" "marks" "Account.marks" 15 6, df "left_of" 19, df "left" 20 [.non], dm "Account" "__eq__" "Account.__eq__" 15 4, df "_law_refused" 34, df "law" 35]
def fa : List He.Fa := [.glo "is_integer", .glo "is_count", .glo "is_list", .glo "is_mark", .glo "deed_of", .glo "checked_row", .glo "_law_counting", .glo "_law_draw", .glo "_law_fact", .glo "_law_left", .glo "_law_mixed", .glo "_law_pick", .glo "_law_fresh", .glo "_law_pool", .glo "_law_between", .glo "_law_row", .glo "_law_same", .glo "_law_sets", .glo "check_mark", .glo "checked_marks", .glo "left_of", .glo "left", .glo "_law_refused", .glo "law", .glo "Account", .cls "Account", .noat "Account" "deeds", .noat "Account" "given", .noat "Account" "since", .mkr "Account", .free "tuple", .free "int", .free "list", .free "bool", .free "isinstance", .free "all", .free "len", .free "str", .str "LETTERS" "abcdefghijklmnopqrstuvwxyz", .int "LONGEST" 8, .free "enumerate", .free "max", .free "sum", .free "range", .free "repr", .free "sorted", .meth "Account" "days", .meth "Account" "gone", .meth "Account" "marks", .meth "Account" "__eq__", .free "super", .glo "NoMark"]
def exK (K : PySem.W.Frag) : Bool := exCls "Account" K && (exKt (He.dflAt ("Account", some "__init__") 0) K && (exErr PySem.Challenge.pw_giftbars_k04_whole_left.main.file "NoMark" "mark" K && (true)))
abbrev tf : List He.Defn := [("law", none)]
abbrev hk : PySem.W.Hook := hookY 5 fa fn tf exK
def ob (s : PySem.W.SharedT) : He.AlD × Bool := obsY 5 fa fn tf exK (HandSHeadRun.getT s)
theorem ob_eq (s : PySem.W.SharedT) : ob s = hk.obs s.abs := obsY_eq (HandSHeadRun.getT_eq s)
def loose0 : List Str := ["_wall", "__name__", "LETTERS", "LONGEST", "is_integer", "is_list", "is_mark", "is_count", "GiftError", "BadDeed", "NoMark", "deed_of", "checked_row", "Account", "check_mark", "checked_marks", "left_of", "left", "_law_draw", "_law_pick", "_law_mixed", "_law_same", "_law_fresh", "_law_pool", "_law_between", "_law_row", "_law_counting", "_law_left", "_law_sets", "_law_fact", "_law_refused"]
def loose : List Str := loose0
theorem run (w : World) : HandSHeadRun.RunEq Rw (PySem.W.view Rw.prog [35]) hk ob 4000 loose w := by
  intro os
  kernel_rfl
def fnT : List (Str × FE) := [(("is_integer" : Str), FE.pl conIsInt true []),
  (("is_count" : Str), FE.pl conIsCount true []),
  (("is_list" : Str), FE.pl conIsList true []),
  (("is_mark" : Str), FE.pl conIsMark true []),
  (("deed_of" : Str), FE.pl conDeedOf false []),
  (("checked_row" : Str), FE.pl conChecked false []),
  (("Account" : Str), FE.pl conMk false [.kt []]),
  (("_law_counting" : Str), FE.pl conCounting false []),
  (("_law_draw" : Str), FE.pl conDrawN true []),
  (("_law_fact" : Str), FE.pl conFact false []),
  (("_law_left" : Str), FE.pl conLLeft false []),
  (("_law_mixed" : Str), FE.pl conMixed false []),
  (("_law_pick" : Str), FE.pl conPick false []),
  (("_law_fresh" : Str), FE.pl conFresh true []),
  (("_law_pool" : Str), FE.pl conPool false []),
  (("_law_between" : Str), FE.io 1 conBetween),
  (("_law_row" : Str), FE.pl conRow false []),
  (("_law_same" : Str), FE.pl conSame true []),
  (("_law_sets" : Str), FE.pl conSets false []),
  (("check_mark" : Str), FE.pl conCheckMarkX false []),
  (("checked_marks" : Str), FE.pl conCheckedMarksX false []),
  (("left_of" : Str), FE.pl conLeftOf false []),
  (("left" : Str), FE.pl conLeftX false [.non])]
def mtT : List ((Str × Str) × FE) := [((("Account", "days") : Str × Str), FE.pl conDays false []),
  ((("Account", "gone") : Str × Str), FE.pl conGone false []),
  ((("Account", "marks") : Str × Str), FE.pl conMarks false []),
  ((("Account", "__eq__") : Str × Str), FE.pl conEq false [])]
def Gam : Env where
  fn := fun x => (fnT.find? fun p => decide (p.1 = x)).map (·.2)
  mth := fun c m => (mtT.find? fun p => decide (p.1.1 = c ∧ p.1.2 = m)).map (·.2)
  cst := fun x => if x = "LONGEST" then some (.int 8) else if x = "LETTERS" then some (.str letters) else if x = "DIGITS" then some (.str digits) else none
  ask := fun x => if x = "_law_refused" then some (askA "NoMark" "mark") else none
theorem ga__law_refused : Gam.ask "_law_refused" = some (askA "NoMark" "mark") := by kernel_rfl
theorem g_is_integer : Gam.fn "is_integer" = some (.pl conIsInt true []) := by kernel_rfl
theorem g_is_count : Gam.fn "is_count" = some (.pl conIsCount true []) := by kernel_rfl
theorem g_is_list : Gam.fn "is_list" = some (.pl conIsList true []) := by kernel_rfl
theorem g_is_mark : Gam.fn "is_mark" = some (.pl conIsMark true []) := by kernel_rfl
theorem g_deed_of : Gam.fn "deed_of" = some (.pl conDeedOf false []) := by kernel_rfl
theorem g_checked_row : Gam.fn "checked_row" = some (.pl conChecked false []) := by kernel_rfl
theorem g_Account : Gam.fn "Account" = some (.pl conMk false [.kt []]) := by kernel_rfl
theorem g__law_counting : Gam.fn "_law_counting" = some (.pl conCounting false []) := by kernel_rfl
theorem g__law_draw : Gam.fn "_law_draw" = some (.pl conDrawN true []) := by kernel_rfl
theorem g__law_fact : Gam.fn "_law_fact" = some (.pl conFact false []) := by kernel_rfl
theorem g__law_left : Gam.fn "_law_left" = some (.pl conLLeft false []) := by kernel_rfl
theorem g__law_mixed : Gam.fn "_law_mixed" = some (.pl conMixed false []) := by kernel_rfl
theorem g__law_pick : Gam.fn "_law_pick" = some (.pl conPick false []) := by kernel_rfl
theorem g__law_fresh : Gam.fn "_law_fresh" = some (.pl conFresh true []) := by kernel_rfl
theorem g__law_pool : Gam.fn "_law_pool" = some (.pl conPool false []) := by kernel_rfl
theorem g__law_between : Gam.fn "_law_between" = some (.io 1 conBetween) := by kernel_rfl
theorem g__law_row : Gam.fn "_law_row" = some (.pl conRow false []) := by kernel_rfl
theorem g__law_same : Gam.fn "_law_same" = some (.pl conSame true []) := by kernel_rfl
theorem g__law_sets : Gam.fn "_law_sets" = some (.pl conSets false []) := by kernel_rfl
theorem g_check_mark : Gam.fn "check_mark" = some (.pl conCheckMarkX false []) := by kernel_rfl
theorem g_checked_marks : Gam.fn "checked_marks" = some (.pl conCheckedMarksX false []) := by kernel_rfl
theorem g_Account_days : Gam.mth "Account" "days" = some (.pl conDays false []) := by kernel_rfl
theorem g_Account_gone : Gam.mth "Account" "gone" = some (.pl conGone false []) := by kernel_rfl
theorem g_Account_marks : Gam.mth "Account" "marks" = some (.pl conMarks false []) := by kernel_rfl
theorem g_left_of : Gam.fn "left_of" = some (.pl conLeftOf false []) := by kernel_rfl
theorem g_left : Gam.fn "left" = some (.pl conLeftX false [.non]) := by kernel_rfl
theorem g_Account___eq__ : Gam.mth "Account" "__eq__" = some (.pl conEq false []) := by kernel_rfl
theorem gc_LONGEST : Gam.cst "LONGEST" = some (.int 8) := by kernel_rfl
theorem gc_LETTERS : Gam.cst "LETTERS" = some (.str letters) := by kernel_rfl
theorem gc_DIGITS : Gam.cst "DIGITS" = some (.str digits) := by kernel_rfl
theorem facts {PG : Program} {w : World} {K : PySem.W.Frag} {h : Heap} {mg : Str → Option Value} {f : Addr} (X : K.In h) (Gn : h.Ns mainGlobals mg) (hfa : mg ("law" : Str) = some (.ref f)) (c : He.SaysD fa fn K) (cx : exK K = true) (hfile : PG.main.file = PySem.Challenge.pw_giftbars_k04_whole_left.main.file) (htop : (PG.main.scope.names.lookup ("super" : Str)).isSome = false) :
    ∃ fd : FuncData, (∀ (s : Shared) (v : Value), BindsTo s fd ⟨[v], []⟩ [("_law_script", v)]) ∧ ∀ base : Heap, K.In base → base.Ns mainGlobals mg → (∀ p ∈ tf.map (He.cT K), LamX.TabB base mg p.1 p.2) → FnOg PG w K mg base CX0 9 f fd ["_law_script"] (spLaw K (tbOf tf K)) := by
  let G : Gc := ⟨K, fun x => He.ga K x, tbOf tf K⟩
  have m_is_integer := He.glo_ok X Gn (c.fact 0 (f := .glo "is_integer") rfl)
  have m_is_count := He.glo_ok X Gn (c.fact 1 (f := .glo "is_count") rfl)
  have m_is_list := He.glo_ok X Gn (c.fact 2 (f := .glo "is_list") rfl)
  have m_is_mark := He.glo_ok X Gn (c.fact 3 (f := .glo "is_mark") rfl)
  have m_deed_of := He.glo_ok X Gn (c.fact 4 (f := .glo "deed_of") rfl)
  have m_checked_row := He.glo_ok X Gn (c.fact 5 (f := .glo "checked_row") rfl)
  have m__law_counting := He.glo_ok X Gn (c.fact 6 (f := .glo "_law_counting") rfl)
  have m__law_draw := He.glo_ok X Gn (c.fact 7 (f := .glo "_law_draw") rfl)
  have m__law_fact := He.glo_ok X Gn (c.fact 8 (f := .glo "_law_fact") rfl)
  have m__law_left := He.glo_ok X Gn (c.fact 9 (f := .glo "_law_left") rfl)
  have m__law_mixed := He.glo_ok X Gn (c.fact 10 (f := .glo "_law_mixed") rfl)
  have m__law_pick := He.glo_ok X Gn (c.fact 11 (f := .glo "_law_pick") rfl)
  have m__law_fresh := He.glo_ok X Gn (c.fact 12 (f := .glo "_law_fresh") rfl)
  have m__law_pool := He.glo_ok X Gn (c.fact 13 (f := .glo "_law_pool") rfl)
  have m__law_between := He.glo_ok X Gn (c.fact 14 (f := .glo "_law_between") rfl)
  have m__law_row := He.glo_ok X Gn (c.fact 15 (f := .glo "_law_row") rfl)
  have m__law_same := He.glo_ok X Gn (c.fact 16 (f := .glo "_law_same") rfl)
  have m__law_sets := He.glo_ok X Gn (c.fact 17 (f := .glo "_law_sets") rfl)
  have m_check_mark := He.glo_ok X Gn (c.fact 18 (f := .glo "check_mark") rfl)
  have m_checked_marks := He.glo_ok X Gn (c.fact 19 (f := .glo "checked_marks") rfl)
  have m_left_of := He.glo_ok X Gn (c.fact 20 (f := .glo "left_of") rfl)
  have m_left := He.glo_ok X Gn (c.fact 21 (f := .glo "left") rfl)
  have m__law_refused := He.glo_ok X Gn (c.fact 22 (f := .glo "_law_refused") rfl)
  have m_law := He.glo_ok X Gn (c.fact 23 (f := .glo "law") rfl)
  have m_Account := He.glo_ok X Gn (c.fact 24 (f := .glo "Account") rfl)
  have cl_Account : Cls K (G.ga "Account") := He.cls_ok (c.fact 25 (f := .cls "Account") rfl)
  have na_Account_deeds : NoAttr K (G.ga "Account") "deeds" := He.noat_ok (c.fact 26 (f := .noat "Account" "deeds") rfl)
  have na_Account_given : NoAttr K (G.ga "Account") "given" := He.noat_ok (c.fact 27 (f := .noat "Account" "given") rfl)
  have na_Account_since : NoAttr K (G.ga "Account") "since" := He.noat_ok (c.fact 28 (f := .noat "Account" "since") rfl)
  have mk_Account := He.mkr_ok (c.fact 29 (f := .mkr "Account") rfl)
  have f_tuple := He.free_ok X Gn (c.fact 30 (f := .free "tuple") rfl)
  have f_int := He.free_ok X Gn (c.fact 31 (f := .free "int") rfl)
  have f_list := He.free_ok X Gn (c.fact 32 (f := .free "list") rfl)
  have f_bool := He.free_ok X Gn (c.fact 33 (f := .free "bool") rfl)
  have f_isinstance := He.free_ok X Gn (c.fact 34 (f := .free "isinstance") rfl)
  have f_all := He.free_ok X Gn (c.fact 35 (f := .free "all") rfl)
  have f_len := He.free_ok X Gn (c.fact 36 (f := .free "len") rfl)
  have f_str := He.free_ok X Gn (c.fact 37 (f := .free "str") rfl)
  obtain ⟨tk_LETTERS, c_LETTERS⟩ := He.str_ok X Gn (c.fact 38 (f := .str "LETTERS" "abcdefghijklmnopqrstuvwxyz") rfl)
  obtain ⟨tk_LONGEST, c_LONGEST⟩ := He.int_ok X Gn (c.fact 39 (f := .int "LONGEST" 8) rfl)
  have f_enumerate := He.free_ok X Gn (c.fact 40 (f := .free "enumerate") rfl)
  have f_max := He.free_ok X Gn (c.fact 41 (f := .free "max") rfl)
  have f_sum := He.free_ok X Gn (c.fact 42 (f := .free "sum") rfl)
  have f_range := He.free_ok X Gn (c.fact 43 (f := .free "range") rfl)
  have f_repr := He.free_ok X Gn (c.fact 44 (f := .free "repr") rfl)
  have f_sorted := He.free_ok X Gn (c.fact 45 (f := .free "sorted") rfl)
  have mt_Account_days := He.meth_ok (c.fact 46 (f := .meth "Account" "days") rfl)
  have mt_Account_gone := He.meth_ok (c.fact 47 (f := .meth "Account" "gone") rfl)
  have mt_Account_marks := He.meth_ok (c.fact 48 (f := .meth "Account" "marks") rfl)
  have mt_Account___eq__ := He.meth_ok (c.fact 49 (f := .meth "Account" "__eq__") rfl)
  have f_super := He.free_ok X Gn (c.fact 50 (f := .free "super") rfl)
  have m_NoMark := He.glo_ok X Gn (c.fact 51 (f := .glo "NoMark") rfl)
  obtain ⟨cx1, cx⟩ := He.ba cx
  have ec_Account := exCls_ok cx1 cl_Account
  clear cx1
  obtain ⟨cx1, cx⟩ := He.ba cx
  have kt_Account := exKt_ok cx1
  clear cx1
  obtain ⟨cx1, cx⟩ := He.ba cx
  obtain ⟨er_NoMark, ef_NoMark⟩ := exErr_ok (P := PG) (mg := mg) (G := G) rfl (by rw [hfile]; exact cx1) htop (by decide) bnd_mark (by decide) f_super m_NoMark
  clear cx1
  obtain ⟨fd_is_integer, F_is_integer⟩ := c.def_ 0 rfl
  obtain ⟨fd_is_count, F_is_count⟩ := c.def_ 1 rfl
  obtain ⟨fd_is_list, F_is_list⟩ := c.def_ 2 rfl
  obtain ⟨fd_is_mark, F_is_mark⟩ := c.def_ 3 rfl
  obtain ⟨fd_deed_of, F_deed_of⟩ := c.def_ 4 rfl
  obtain ⟨fd_checked_row, F_checked_row⟩ := c.def_ 5 rfl
  obtain ⟨fd_Account___init__, F_Account___init__⟩ := c.def_ 6 rfl
  obtain ⟨fd__law_counting, F__law_counting⟩ := c.def_ 7 rfl
  obtain ⟨fd__law_draw, F__law_draw⟩ := c.def_ 8 rfl
  obtain ⟨fd__law_fact, F__law_fact⟩ := c.def_ 9 rfl
  obtain ⟨fd__law_left, F__law_left⟩ := c.def_ 10 rfl
  obtain ⟨fd__law_mixed, F__law_mixed⟩ := c.def_ 11 rfl
  obtain ⟨fd__law_pick, F__law_pick⟩ := c.def_ 12 rfl
  obtain ⟨fd__law_fresh, F__law_fresh⟩ := c.def_ 13 rfl
  obtain ⟨fd__law_pool, F__law_pool⟩ := c.def_ 14 rfl
  obtain ⟨fd__law_between, F__law_between⟩ := c.def_ 15 rfl
  obtain ⟨fd__law_row, F__law_row⟩ := c.def_ 16 rfl
  obtain ⟨fd__law_same, F__law_same⟩ := c.def_ 17 rfl
  obtain ⟨fd__law_sets, F__law_sets⟩ := c.def_ 18 rfl
  obtain ⟨fd_check_mark, F_check_mark⟩ := c.def_ 19 rfl
  obtain ⟨fd_checked_marks, F_checked_marks⟩ := c.def_ 20 rfl
  obtain ⟨fd_Account_days, F_Account_days⟩ := c.def_ 21 rfl
  obtain ⟨fd_Account_gone, F_Account_gone⟩ := c.def_ 22 rfl
  obtain ⟨fd_Account_marks, F_Account_marks⟩ := c.def_ 23 rfl
  obtain ⟨fd_left_of, F_left_of⟩ := c.def_ 24 rfl
  obtain ⟨fd_left, F_left⟩ := c.def_ 25 rfl
  obtain ⟨fd_Account___eq__, F_Account___eq__⟩ := c.def_ 26 rfl
  obtain ⟨fd__law_refused, F__law_refused⟩ := c.def_ 27 rfl
  obtain ⟨fd_law, F_law⟩ := c.def_ 28 rfl
  cases hfa.symm.trans m_law
  refine ⟨fd_law, fun s v => FunD.bindsA (ps := ["_law_script"]) F_law (fun _ _ _ _ _ _ us hl => match us, hl with | [_], _ => rfl) s [v] rfl, fun base _ _ htb => ?_⟩
  have O_is_integer := fnO_P (P := PG) (w := w) (mg := mg) (base := base) (Γ := Gam) (G := G) (con := conIsInt) (code := c_is_integer) (N := N_is_integer) (ps := ["thing"]) F_is_integer ⟨rfl, rfl, rfl, by decide +kernel, rfl, by decide +kernel, by decide +kernel⟩ (by decide) rfl (fun cdv A outer s H E Fm hG g hr => d_is_integer (hf_bool := f_bool) (hf_int := f_int) (hf_isinstance := f_isinstance) cdv A outer s H E Fm hG g hr) (p_is_integer ) (fun _ _ _ _ h => h)
  have E_is_integer : FnE PG w K mg base G 1 "is_integer" conIsInt [] 0 := fnE_0 (G := G) F_is_integer O_is_integer m_is_integer (FunD.bindsN F_is_integer fun _ _ _ _ _ _ us hl => match us, hl with | [_], _ => rfl) (fun as c K e h => by unfold conIsInt at h; repeat (first | (obtain ⟨rfl, _⟩ := h; rfl) | obtain ⟨_, h⟩ := h)) []
  have O_is_count := fnO_P (P := PG) (w := w) (mg := mg) (base := base) (Γ := Gam) (G := G) (con := conIsCount) (code := c_is_count) (N := N_is_count) (ps := ["thing"]) F_is_count ⟨rfl, rfl, rfl, by decide +kernel, rfl, by decide +kernel, by decide +kernel⟩ (by decide) rfl (fun cdv A outer s H E Fm hG g hr => d_is_count (hg_is_integer := g_is_integer) (he_is_integer := E_is_integer) cdv A outer s H E Fm hG g hr) (p_is_count g_is_integer) (fun _ _ _ _ h => h)
  have E_is_count : FnE PG w K mg base G 2 "is_count" conIsCount [] 0 := fnE_0 (G := G) F_is_count O_is_count m_is_count (FunD.bindsN F_is_count fun _ _ _ _ _ _ us hl => match us, hl with | [_], _ => rfl) (fun as c K e h => by unfold conIsCount at h; repeat (first | (obtain ⟨rfl, _⟩ := h; rfl) | obtain ⟨_, h⟩ := h)) []
  have O_is_list := fnO_P (P := PG) (w := w) (mg := mg) (base := base) (Γ := Gam) (G := G) (con := conIsList) (code := c_is_list) (N := N_is_list) (ps := ["thing"]) F_is_list ⟨rfl, rfl, rfl, by decide +kernel, rfl, by decide +kernel, by decide +kernel⟩ (by decide) rfl (fun cdv A outer s H E Fm hG g hr => d_is_list (hf_isinstance := f_isinstance) (hf_list := f_list) (hf_tuple := f_tuple) cdv A outer s H E Fm hG g hr) (p_is_list ) (fun _ _ _ _ h => h)
  have E_is_list : FnE PG w K mg base G 1 "is_list" conIsList [] 0 := fnE_0 (G := G) F_is_list O_is_list m_is_list (FunD.bindsN F_is_list fun _ _ _ _ _ _ us hl => match us, hl with | [_], _ => rfl) (fun as c K e h => by unfold conIsList at h; repeat (first | (obtain ⟨rfl, _⟩ := h; rfl) | obtain ⟨_, h⟩ := h)) []
  have O_is_mark := fnO_P (P := PG) (w := w) (mg := mg) (base := base) (Γ := Gam) (G := G) (con := conIsMark) (code := c_is_mark) (N := N_is_mark) (ps := ["thing"]) F_is_mark ⟨rfl, rfl, rfl, by decide +kernel, rfl, by decide +kernel, by decide +kernel⟩ (by decide) rfl (fun cdv A outer s H E Fm hG g hr => d_is_mark (hf_all := f_all) (hf_isinstance := f_isinstance) (hf_len := f_len) (hf_str := f_str) (hc_LETTERS := gc_LETTERS) (hm_LETTERS := c_LETTERS) (hc_LONGEST := gc_LONGEST) (hm_LONGEST := c_LONGEST) cdv A outer s H E Fm hG g hr) (p_is_mark gc_LONGEST gc_LETTERS) (fun _ _ _ _ h => h)
  have E_is_mark : FnE PG w K mg base G 1 "is_mark" conIsMark [] 0 := fnE_0 (G := G) F_is_mark O_is_mark m_is_mark (FunD.bindsN F_is_mark fun _ _ _ _ _ _ us hl => match us, hl with | [_], _ => rfl) (fun as c K e h => by unfold conIsMark at h; repeat (first | (obtain ⟨rfl, _⟩ := h; rfl) | obtain ⟨_, h⟩ := h)) []
  have O_deed_of := fnO_P (P := PG) (w := w) (mg := mg) (base := base) (Γ := Gam) (G := G) (con := conDeedOf) (code := c_deed_of) (N := N_deed_of) (ps := ["thing"]) F_deed_of ⟨rfl, rfl, rfl, by decide +kernel, rfl, by decide +kernel, by decide +kernel⟩ (by decide) rfl (fun cdv A outer s H E Fm hG g hr => d_deed_of (hf_isinstance := f_isinstance) (hf_len := f_len) (hf_str := f_str) (hf_tuple := f_tuple) (hg_is_count := g_is_count) (he_is_count := E_is_count) (hg_is_list := g_is_list) (he_is_list := E_is_list) (hg_is_mark := g_is_mark) (he_is_mark := E_is_mark) cdv A outer s H E Fm hG g hr) (p_deed_of g_is_list g_is_mark g_is_count) (fun _ _ _ _ h => h)
  have E_deed_of : FnE PG w K mg base G 3 "deed_of" conDeedOf [] 0 := fnE_0 (G := G) F_deed_of O_deed_of m_deed_of (FunD.bindsN F_deed_of fun _ _ _ _ _ _ us hl => match us, hl with | [_], _ => rfl) (fun as c K e h => by unfold conDeedOf at h; repeat (first | (obtain ⟨rfl, _⟩ := h; rfl) | obtain ⟨_, h⟩ := h)) []
  have O_checked_row := fnO_P (P := PG) (w := w) (mg := mg) (base := base) (Γ := Gam) (G := G) (con := conChecked) (code := c_checked_row) (N := N_checked_row) (ps := ["row"]) F_checked_row ⟨rfl, rfl, rfl, by decide +kernel, rfl, by decide +kernel, by decide +kernel⟩ (by decide) rfl (fun cdv A outer s H E Fm hG g hr => d_checked_row (hf_enumerate := f_enumerate) (hg_deed_of := g_deed_of) (he_deed_of := E_deed_of) (hg_is_list := g_is_list) (he_is_list := E_is_list) cdv A outer s H E Fm hG g hr) (p_checked_row g_is_list g_deed_of) (fun _ _ _ _ h => h)
  have E_checked_row : FnE PG w K mg base G 4 "checked_row" conChecked [] 0 := fnE_0 (G := G) F_checked_row O_checked_row m_checked_row (FunD.bindsN F_checked_row fun _ _ _ _ _ _ us hl => match us, hl with | [_], _ => rfl) (fun as c K e h => by unfold conChecked at h; repeat (first | (obtain ⟨rfl, _⟩ := h; rfl) | obtain ⟨_, h⟩ := h)) []
  have O_Account : FnOg PG w K mg base CX0 5 _ fd_Account___init__ ["self", "row"] (spInit G) := init_ok (Γ := Gam) F_Account___init__ ⟨rfl, rfl, rfl, by decide +kernel, rfl, by decide +kernel, by decide +kernel⟩ rfl g_checked_row ⟨cl_Account, na_Account_deeds, na_Account_given, na_Account_since⟩ (fun cdv A outer s H E Fm hG g hr => d_Account___init__ (hf_tuple := f_tuple) (hg := g_checked_row) (he := E_checked_row) cdv A outer s H E Fm hG g hr)
  have E_Account : MkE PG w K mg base G 5 "Account" conMk [.kt []] 0 := mk_ok (G := G) O_Account mk_Account m_Account (by obtain ⟨ds, hv, hb⟩ := FunD.binds1 (ps := ["self", "row"]) F_Account___init__ 2 1 (by simp [He.DefD.dvs, df, dm]) (by simp [He.DefD.dvs, df, dm]) (fun T kV doc pm an cdv ct us its h1 h2 => match us, its, h1, h2 with | [_, _], [_], _, _ => ⟨_, rfl, rfl⟩); simp [He.DefD.dvs, df, dm] at hv; cases hv; exact hb)
  have B_Account : Binds K fd_Account___init__ ["self", "row"] [.ref (He.dflAt ("Account", some "__init__") 0 K)] := by
    obtain ⟨ds, hv, hb⟩ := FunD.binds1 (ps := ["self", "row"]) F_Account___init__ 1 0 (by simp [He.DefD.dvs, df, dm]) (by simp [He.DefD.dvs, df, dm]) (fun T kV doc pm an cdv ct us its h1 h2 => match us, its, h1, h2 with | [_], [_], _, _ => ⟨_, rfl, rfl⟩)
    have hv' : Vals [V.ref (He.dflAt ("Account", some "__init__") 0 K)] ds := hv
    cases hv' with
    | cons h t => cases t; cases h; exact hb
  have E_Account_1 : MkE PG w K mg base G 5 "Account" conMk [.kt []] 1 := mk_ok1 (G := G) rfl O_Account mk_Account m_Account kt_Account B_Account
  have O__law_counting := fnO_P (P := PG) (w := w) (mg := mg) (base := base) (Γ := Gam) (G := G) (con := conCounting) (code := c__law_counting) (N := N__law_counting) (ps := ["_law_row_here"]) F__law_counting ⟨rfl, rfl, rfl, by decide +kernel, rfl, by decide +kernel, by decide +kernel⟩ (by decide) rfl (fun cdv A outer s H E Fm hG g hr => d__law_counting  cdv A outer s H E Fm hG g hr) (p_counting ) (fun _ _ _ _ h => h)
  have E__law_counting : FnE PG w K mg base G 1 "_law_counting" conCounting [] 0 := fnE_0 (G := G) F__law_counting O__law_counting m__law_counting (FunD.bindsN F__law_counting fun _ _ _ _ _ _ us hl => match us, hl with | [_], _ => rfl) (fun as c K e h => by unfold conCounting at h; repeat (first | (obtain ⟨rfl, _⟩ := h; rfl) | obtain ⟨_, h⟩ := h)) []
  have E__law_draw : FnE PG w K mg base G 1 "_law_draw" conDrawN [] 0 :=
    ⟨_, fd__law_draw, ["_law_stream", "_law_many"], [], [], ((draw_okZ (z := "_law_mixed_here") (G := G) F__law_draw ⟨rfl, rfl, rfl, by decide +kernel, rfl, by decide +kernel, by decide +kernel⟩ (fun cdv A outer s H E hr => d__law_draw f_int cdv A outer s H E hr)).imp (fun vs H Q E z => liftSp_imp (fun as c K e h => drawN_imp h) z)).cx, m__law_draw, F__law_draw.kp, (FunD.bindsN F__law_draw fun _ _ _ _ _ _ us hl => match us, hl with | [_, _], _ => rfl), .nil, (fun as c K e h => by obtain ⟨_, rfl, _⟩ := h; rfl), fun _ _ _ => .nil⟩
  have O__law_fact := fnO_P (P := PG) (w := w) (mg := mg) (base := base) (Γ := Gam) (G := G) (con := conFact) (code := c__law_fact) (N := N__law_fact) (ps := ["_law_row_here", "_law_some"]) F__law_fact ⟨rfl, rfl, rfl, by decide +kernel, rfl, by decide +kernel, by decide +kernel⟩ (by decide) rfl (fun cdv A outer s H E Fm hG g hr => d__law_fact (hf_enumerate := f_enumerate) (hf_max := f_max) (hf_sum := f_sum) cdv A outer s H E Fm hG g hr) (p_fact ) (fun _ _ _ _ h => h)
  have E__law_fact : FnE PG w K mg base G 1 "_law_fact" conFact [] 0 := fnE_0 (G := G) F__law_fact O__law_fact m__law_fact (FunD.bindsN F__law_fact fun _ _ _ _ _ _ us hl => match us, hl with | [_, _], _ => rfl) (fun as c K e h => by unfold conFact at h; repeat (first | (obtain ⟨rfl, _⟩ := h; rfl) | obtain ⟨_, h⟩ := h)) []
  have O__law_left := fnO_P (P := PG) (w := w) (mg := mg) (base := base) (Γ := Gam) (G := G) (con := conLLeft) (code := c__law_left) (N := N__law_left) (ps := ["_law_row_here", "_law_some"]) F__law_left ⟨rfl, rfl, rfl, by decide +kernel, rfl, by decide +kernel, by decide +kernel⟩ (by decide) rfl (fun cdv A outer s H E Fm hG g hr => d__law_left (hf_max := f_max) cdv A outer s H E Fm hG g hr) (p_lleft ) (fun _ _ _ _ h => h)
  have E__law_left : FnE PG w K mg base G 1 "_law_left" conLLeft [] 0 := fnE_0 (G := G) F__law_left O__law_left m__law_left (FunD.bindsN F__law_left fun _ _ _ _ _ _ us hl => match us, hl with | [_, _], _ => rfl) (fun as c K e h => by unfold conLLeft at h; repeat (first | (obtain ⟨rfl, _⟩ := h; rfl) | obtain ⟨_, h⟩ := h)) []
  have O__law_mixed := fnO_P (P := PG) (w := w) (mg := mg) (base := base) (Γ := Gam) (G := G) (con := conMixed) (code := c__law_mixed) (N := N__law_mixed) (ps := ["_law_stream", "_law_things"]) F__law_mixed ⟨rfl, rfl, rfl, by decide +kernel, rfl, by decide +kernel, by decide +kernel⟩ (by decide) rfl (fun cdv A outer s H E Fm hG g hr => d__law_mixed (hf_len := f_len) (hf_list := f_list) (hf_range := f_range) (hg__law_draw := g__law_draw) (he__law_draw := E__law_draw) cdv A outer s H E Fm hG g hr) (p_mixed g__law_draw) (fun _ _ _ _ h => h)
  have E__law_mixed : FnE PG w K mg base G 2 "_law_mixed" conMixed [] 0 := fnE_0 (G := G) F__law_mixed O__law_mixed m__law_mixed (FunD.bindsN F__law_mixed fun _ _ _ _ _ _ us hl => match us, hl with | [_, _], _ => rfl) (fun as c K e h => by unfold conMixed at h; repeat (first | (obtain ⟨rfl, _⟩ := h; rfl) | obtain ⟨_, h⟩ := h)) []
  have O__law_pick := fnO_P (P := PG) (w := w) (mg := mg) (base := base) (Γ := Gam) (G := G) (con := conPick) (code := c__law_pick) (N := N__law_pick) (ps := ["_law_stream", "_law_things"]) F__law_pick ⟨rfl, rfl, rfl, by decide +kernel, rfl, by decide +kernel, by decide +kernel⟩ (by decide) rfl (fun cdv A outer s H E Fm hG g hr => d__law_pick (hf_len := f_len) (hg__law_draw := g__law_draw) (he__law_draw := E__law_draw) cdv A outer s H E Fm hG g hr) (p_pick g__law_draw) (fun _ _ _ _ h => h)
  have E__law_pick : FnE PG w K mg base G 2 "_law_pick" conPick [] 0 := fnE_0 (G := G) F__law_pick O__law_pick m__law_pick (FunD.bindsN F__law_pick fun _ _ _ _ _ _ us hl => match us, hl with | [_, _], _ => rfl) (fun as c K e h => by unfold conPick at h; repeat (first | (obtain ⟨rfl, _⟩ := h; rfl) | obtain ⟨_, h⟩ := h)) []
  have O__law_fresh := fnO_P (P := PG) (w := w) (mg := mg) (base := base) (Γ := Gam) (G := G) (con := conFresh) (code := c__law_fresh) (N := N__law_fresh) (ps := ["_law_stream", "_law_known"]) F__law_fresh ⟨rfl, rfl, rfl, by decide +kernel, rfl, by decide +kernel, by decide +kernel⟩ (by decide) rfl (fun cdv A outer s H E Fm hG g hr => d__law_fresh (hf_int := f_int) (hf_range := f_range) (hg__law_draw := g__law_draw) (he__law_draw := E__law_draw) (hg__law_pick := g__law_pick) (he__law_pick := E__law_pick) cdv A outer s H E Fm hG g hr) (p_fresh g__law_draw g__law_pick) (fun _ _ _ _ h => h)
  have E__law_fresh : FnE PG w K mg base G 3 "_law_fresh" conFresh [] 0 := fnE_0 (G := G) F__law_fresh O__law_fresh m__law_fresh (FunD.bindsN F__law_fresh fun _ _ _ _ _ _ us hl => match us, hl with | [_, _], _ => rfl) (fun as c K e h => by unfold conFresh at h; repeat (first | (obtain ⟨rfl, _⟩ := h; rfl) | obtain ⟨_, h⟩ := h)) []
  have O__law_pool := fnO_P (P := PG) (w := w) (mg := mg) (base := base) (Γ := Gam) (G := G) (con := conPool) (code := c__law_pool) (N := N__law_pool) (ps := ["_law_stream", "_law_many"]) F__law_pool ⟨rfl, rfl, rfl, by decide +kernel, rfl, by decide +kernel, by decide +kernel⟩ (by decide) rfl (fun cdv A outer s H E Fm hG g hr => d__law_pool (hf_range := f_range) (hg__law_fresh := g__law_fresh) (he__law_fresh := E__law_fresh) cdv A outer s H E Fm hG g hr) (p_pool g__law_fresh) (fun _ _ _ _ h => h)
  have E__law_pool : FnE PG w K mg base G 4 "_law_pool" conPool [] 0 := fnE_0 (G := G) F__law_pool O__law_pool m__law_pool (FunD.bindsN F__law_pool fun _ _ _ _ _ _ us hl => match us, hl with | [_, _], _ => rfl) (fun as c K e h => by unfold conPool at h; repeat (first | (obtain ⟨rfl, _⟩ := h; rfl) | obtain ⟨_, h⟩ := h)) []
  have E__law_between : IoE PG w K mg base G 2 "_law_between" 1 conBetween := ioE_of (Γ := Gam) (N := N__law_between) (ps := ["_law_stream", "_law_begun", "_law_wide"]) F__law_between ⟨rfl, rfl, rfl, by decide +kernel, rfl, by decide +kernel, by decide +kernel⟩ (by decide) rfl m__law_between (FunD.bindsN F__law_between fun _ _ _ _ _ _ us hl => match us, hl with | [_, _, _], _ => rfl) (fun cdv A outer s H E Fm hG g hr => d__law_between (hf_len := f_len) (hf_range := f_range) (hg__law_draw := g__law_draw) (he__law_draw := E__law_draw) cdv A outer s H E Fm hG g hr) (p_between g__law_draw) (fun as xs c K h => by unfold conBetween at h; repeat (first | (obtain ⟨rfl, _⟩ := h; rfl) | obtain ⟨_, h⟩ := h))
  have O__law_row := fnO_P (P := PG) (w := w) (mg := mg) (base := base) (Γ := Gam) (G := G) (con := conRow) (code := c__law_row) (N := N__law_row) (ps := ["_law_stream", "_law_pool_here", "_law_wide"]) F__law_row ⟨rfl, rfl, rfl, by decide +kernel, rfl, by decide +kernel, by decide +kernel⟩ (by decide) rfl (fun cdv A outer s H E Fm hG g hr => d__law_row (hg__law_between := g__law_between) (he__law_between := E__law_between) (hg__law_draw := g__law_draw) (he__law_draw := E__law_draw) cdv A outer s H E Fm hG g hr) (p_row g__law_draw g__law_between) (fun _ _ _ _ h => h)
  have E__law_row : FnE PG w K mg base G 3 "_law_row" conRow [] 0 := fnE_0 (G := G) F__law_row O__law_row m__law_row (FunD.bindsN F__law_row fun _ _ _ _ _ _ us hl => match us, hl with | [_, _, _], _ => rfl) (fun as c K e h => by unfold conRow at h; repeat (first | (obtain ⟨rfl, _⟩ := h; rfl) | obtain ⟨_, h⟩ := h)) []
  have O__law_same := fnO_P (P := PG) (w := w) (mg := mg) (base := base) (Γ := Gam) (G := G) (con := conSame) (code := c__law_same) (N := N__law_same) (ps := ["_law_found", "_law_due"]) F__law_same ⟨rfl, rfl, rfl, by decide +kernel, rfl, by decide +kernel, by decide +kernel⟩ (by decide) rfl (fun cdv A outer s H E Fm hG g hr => d__law_same (hf_repr := f_repr) cdv A outer s H E Fm hG g hr) (p_same ) (fun _ _ _ _ h => h)
  have E__law_same : FnE PG w K mg base G 1 "_law_same" conSame [] 0 := fnE_0 (G := G) F__law_same O__law_same m__law_same (FunD.bindsN F__law_same fun _ _ _ _ _ _ us hl => match us, hl with | [_, _], _ => rfl) (fun as c K e h => by unfold conSame at h; repeat (first | (obtain ⟨rfl, _⟩ := h; rfl) | obtain ⟨_, h⟩ := h)) []
  have O__law_sets := fnO_P (P := PG) (w := w) (mg := mg) (base := base) (Γ := Gam) (G := G) (con := conSets) (code := c__law_sets) (N := N__law_sets) (ps := ["_law_marks"]) F__law_sets ⟨rfl, rfl, rfl, by decide +kernel, rfl, by decide +kernel, by decide +kernel⟩ (by decide) rfl (fun cdv A outer s H E Fm hG g hr => d__law_sets (hf_len := f_len) (hf_list := f_list) (hf_sorted := f_sorted) (hf_tuple := f_tuple) cdv A outer s H E Fm hG g hr) (p_sets ) (fun _ _ _ _ h => h)
  have E__law_sets : FnE PG w K mg base G 1 "_law_sets" conSets [] 0 := fnE_0 (G := G) F__law_sets O__law_sets m__law_sets (FunD.bindsN F__law_sets fun _ _ _ _ _ _ us hl => match us, hl with | [_], _ => rfl) (fun as c K e h => by unfold conSets at h; repeat (first | (obtain ⟨rfl, _⟩ := h; rfl) | obtain ⟨_, h⟩ := h)) []
  have O_check_mark := fnO_X (P := PG) (w := w) (mg := mg) (base := base) (Γ := Gam) (G := G) (con := conCheckMarkX) (code := c_check_markX) (N := N_check_markX) (ps := ["mark", "known"]) F_check_mark ⟨rfl, rfl, rfl, by decide +kernel, rfl, by decide +kernel, by decide +kernel⟩ (by decide) rfl (fun cdv A outer s H E Fm Ex hG g hr => d_check_markX (hf_isinstance := f_isinstance) (hf_str := f_str) (her_NoMark := er_NoMark) cdv A outer s H E Fm Ex hG g hr) (p_check_markX )
  have E_check_mark : FnE PG w K mg base G 1 "check_mark" conCheckMarkX [] 0 := fnE_0 (G := G) F_check_mark O_check_mark m_check_mark (FunD.bindsN F_check_mark fun _ _ _ _ _ _ us hl => match us, hl with | [_, _], _ => rfl) (fun as c K e h => by unfold conCheckMarkX at h; repeat (first | (obtain ⟨rfl, _⟩ := h; rfl) | obtain ⟨_, h⟩ := h)) []
  have O_checked_marks := fnO_X (P := PG) (w := w) (mg := mg) (base := base) (Γ := Gam) (G := G) (con := conCheckedMarksX) (code := c_checked_marksX) (N := N_checked_marksX) (ps := ["marks", "known"]) F_checked_marks ⟨rfl, rfl, rfl, by decide +kernel, rfl, by decide +kernel, by decide +kernel⟩ (by decide) rfl (fun cdv A outer s H E Fm Ex hG g hr => d_checked_marksX (hf_list := f_list) (hg_check_mark := g_check_mark) (he_check_mark := E_check_mark) (her_NoMark := er_NoMark) cdv A outer s H E Fm Ex hG g hr) (p_checked_marksX g_check_mark)
  have E_checked_marks : FnE PG w K mg base G 2 "checked_marks" conCheckedMarksX [] 0 := fnE_0 (G := G) F_checked_marks O_checked_marks m_checked_marks (FunD.bindsN F_checked_marks fun _ _ _ _ _ _ us hl => match us, hl with | [_, _], _ => rfl) (fun as c K e h => by unfold conCheckedMarksX at h; repeat (first | (obtain ⟨rfl, _⟩ := h; rfl) | obtain ⟨_, h⟩ := h)) []
  have O_Account_days := fnO_P (P := PG) (w := w) (mg := mg) (base := base) (Γ := Gam) (G := G) (con := conDays) (code := c_Account_days) (N := N_Account_days) (ps := ["self", "mark"]) F_Account_days ⟨rfl, rfl, rfl, by decide +kernel, rfl, by decide +kernel, by decide +kernel⟩ (by decide) rfl (fun cdv A outer s H E Fm hG g hr => d_Account_days (hna_Account_given := na_Account_given) (hcl_Account := cl_Account) (hg_check_mark := g_check_mark) (he_check_mark := E_check_mark) cdv A outer s H E Fm hG g hr) (p_daysX g_check_mark) (fun _ _ _ _ h => h)
  have E_Account_days : MtE PG w K mg base G 2 "Account" "days" conDays [] 0 := mtE_0 (G := G) F_Account_days O_Account_days cl_Account mt_Account_days (FunD.bindsN F_Account_days fun _ _ _ _ _ _ us hl => match us, hl with | [_, _], _ => rfl) (fun as c K e h => by unfold conDays at h; repeat (first | (obtain ⟨rfl, _⟩ := h; rfl) | obtain ⟨_, h⟩ := h)) []
  have O_Account_gone := fnO_P (P := PG) (w := w) (mg := mg) (base := base) (Γ := Gam) (G := G) (con := conGone) (code := c_Account_gone) (N := N_Account_gone) (ps := ["self", "mark"]) F_Account_gone ⟨rfl, rfl, rfl, by decide +kernel, rfl, by decide +kernel, by decide +kernel⟩ (by decide) rfl (fun cdv A outer s H E Fm hG g hr => d_Account_gone (hna_Account_since := na_Account_since) (hcl_Account := cl_Account) (hg_check_mark := g_check_mark) (he_check_mark := E_check_mark) cdv A outer s H E Fm hG g hr) (p_goneX g_check_mark) (fun _ _ _ _ h => h)
  have E_Account_gone : MtE PG w K mg base G 2 "Account" "gone" conGone [] 0 := mtE_0 (G := G) F_Account_gone O_Account_gone cl_Account mt_Account_gone (FunD.bindsN F_Account_gone fun _ _ _ _ _ _ us hl => match us, hl with | [_, _], _ => rfl) (fun as c K e h => by unfold conGone at h; repeat (first | (obtain ⟨rfl, _⟩ := h; rfl) | obtain ⟨_, h⟩ := h)) []
  have O_Account_marks := fnO_P (P := PG) (w := w) (mg := mg) (base := base) (Γ := Gam) (G := G) (con := conMarks) (code := c_Account_marks) (N := N_Account_marks) (ps := ["self"]) F_Account_marks ⟨rfl, rfl, rfl, by decide +kernel, rfl, by decide +kernel, by decide +kernel⟩ (by decide) rfl (fun cdv A outer s H E Fm hG g hr => d_Account_marks (hf_list := f_list) (hna_Account_given := na_Account_given) (hcl_Account := cl_Account) cdv A outer s H E Fm hG g hr) (p_marks ) (fun _ _ _ _ h => h)
  have E_Account_marks : MtE PG w K mg base G 1 "Account" "marks" conMarks [] 0 := mtE_0 (G := G) F_Account_marks O_Account_marks cl_Account mt_Account_marks (FunD.bindsN F_Account_marks fun _ _ _ _ _ _ us hl => match us, hl with | [_], _ => rfl) (fun as c K e h => by unfold conMarks at h; repeat (first | (obtain ⟨rfl, _⟩ := h; rfl) | obtain ⟨_, h⟩ := h)) []
  have O_left_of := fnO_P (P := PG) (w := w) (mg := mg) (base := base) (Γ := Gam) (G := G) (con := conLeftOf) (code := c_left_of) (N := N_left_of) (ps := ["account", "some"]) F_left_of ⟨rfl, rfl, rfl, by decide +kernel, rfl, by decide +kernel, by decide +kernel⟩ (by decide) rfl (fun cdv A outer s H E Fm hG g hr => d_left_of (hf_max := f_max) (hg_Account_days := g_Account_days) (he_Account_days := E_Account_days) (hg_Account_gone := g_Account_gone) (he_Account_gone := E_Account_gone) (hg_Account_marks := g_Account_marks) (he_Account_marks := E_Account_marks) cdv A outer s H E Fm hG g hr) (p_left_of g_Account_marks g_Account_days g_Account_gone) (fun _ _ _ _ h => h)
  have E_left_of : FnE PG w K mg base G 3 "left_of" conLeftOf [] 0 := fnE_0 (G := G) F_left_of O_left_of m_left_of (FunD.bindsN F_left_of fun _ _ _ _ _ _ us hl => match us, hl with | [_, _], _ => rfl) (fun as c K e h => by unfold conLeftOf at h; repeat (first | (obtain ⟨rfl, _⟩ := h; rfl) | obtain ⟨_, h⟩ := h)) []
  have O_left := fnO_X (P := PG) (w := w) (mg := mg) (base := base) (Γ := Gam) (G := G) (con := conLeftX) (code := c_leftX) (N := N_leftX) (ps := ["account", "marks"]) F_left ⟨rfl, rfl, rfl, by decide +kernel, rfl, by decide +kernel, by decide +kernel⟩ (by decide) rfl (fun cdv A outer s H E Fm Ex hG g hr => d_leftX (hg_checked_marks := g_checked_marks) (he_checked_marks := E_checked_marks) (hg_left_of := g_left_of) (he_left_of := E_left_of) (hg_Account_marks := g_Account_marks) (he_Account_marks := E_Account_marks) cdv A outer s H E Fm Ex hG g hr) (p_leftX g_Account_marks g_left_of g_checked_marks)
  have E_left : FnE PG w K mg base G 4 "left" conLeftX [.non] 0 := fnE_0 (G := G) F_left O_left m_left (by obtain ⟨ds, hv, hb⟩ := FunD.binds1 (ps := ["account", "marks"]) F_left 2 1 (by simp [He.DefD.dvs, df, dm]) (by simp [He.DefD.dvs, df, dm]) (fun T kV doc pm an cdv ct us its h1 h2 => match us, its, h1, h2 with | [_, _], [_], _, _ => ⟨_, rfl, rfl⟩); simp [He.DefD.dvs, df, dm] at hv; cases hv; exact hb) (fun as c K e h => by unfold conLeftX at h; repeat (first | (obtain ⟨rfl, _⟩ := h; rfl) | obtain ⟨_, h⟩ := h)) [.non]
  have E_left_1 : FnE PG w K mg base G 4 "left" conLeftX [.non] 1 := by
    obtain ⟨ds, hv, hb⟩ := FunD.binds1 (ps := ["account", "marks"]) F_left 1 0 (by simp [He.DefD.dvs, df, dm]) (by simp [He.DefD.dvs, df, dm]) (fun T kV doc pm an cdv ct us its h1 h2 => match us, its, h1, h2 with | [_], [_], _, _ => ⟨_, rfl, rfl⟩)
    exact fnE_1n (G := G) F_left O_left m_left hb hv (fun as c K e h => by unfold conLeftX at h; repeat (first | (obtain ⟨rfl, _⟩ := h; rfl) | obtain ⟨_, h⟩ := h))
  have O_Account___eq__ := fnO_P (P := PG) (w := w) (mg := mg) (base := base) (Γ := Gam) (G := G) (con := conEq) (code := c_Account___eq__) (N := N_Account___eq__) (ps := ["self", "other"]) F_Account___eq__ ⟨rfl, rfl, rfl, by decide +kernel, rfl, by decide +kernel, by decide +kernel⟩ (by decide) rfl (fun cdv A outer s H E Fm hG g hr => d_Account___eq__ (hf_isinstance := f_isinstance) (hna_Account_deeds := na_Account_deeds) (hcl_Account := cl_Account) (hmc_Account := m_Account) (hic_Account := ec_Account.1) (hoe_Account := ec_Account.2) cdv A outer s H E Fm hG g hr) (p_eq ) (fun _ _ _ _ h => h)
  have E_Account___eq__ : MtE PG w K mg base G 1 "Account" "__eq__" conEq [] 0 := mtE_0 (G := G) F_Account___eq__ O_Account___eq__ cl_Account mt_Account___eq__ (FunD.bindsN F_Account___eq__ fun _ _ _ _ _ _ us hl => match us, hl with | [_, _], _ => rfl) (fun as c K e h => by unfold conEq at h; repeat (first | (obtain ⟨rfl, _⟩ := h; rfl) | obtain ⟨_, h⟩ := h)) []
  have ak__law_refused : AskE PG w K mg base G "_law_refused" (askA "NoMark" "mark") := ask_A F__law_refused ⟨rfl, rfl, rfl, by decide +kernel, rfl, by decide +kernel, by decide +kernel⟩ m__law_refused (FunD.bindsN F__law_refused fun _ _ _ _ _ _ us hl => match us, hl with | [_], _ => rfl) ef_NoMark (.inl rfl) rfl rfl (by decide) (by decide) (by decide) (by decide) (by decide)
  exact law_pure (Γ := Gam) (G := G) (N := N_law) (code := c_law) F_law ⟨rfl, rfl, rfl, by decide +kernel, rfl, by decide +kernel, by decide +kernel⟩ (by decide) rfl (fun cdv A outer s H E hcv hr nd => pss_cons (ps_set (i := 1) nd rfl (Or.inl rfl) (pe_lst (pa_cons (pe_callTy call_list_of rfl f_list (by decide +kernel) (pa_cons (pv 0) pa_nil)) (pa_cons pe_int (pa_cons pe_int (pa_cons pe_int pa_nil))))))
    (PSs.ex (p := fun Fm : Fm => Fm.G = G ∧ Fm.T.tb = G.tb) fun Fm hG => d_law (hf_len := f_len) (hf_range := f_range) (hf_tuple := f_tuple) (hg_Account := g_Account) (he_Account := E_Account) (he_Account_1 := E_Account_1) (hg__law_counting := g__law_counting) (he__law_counting := E__law_counting) (hg__law_draw := g__law_draw) (he__law_draw := E__law_draw) (hg__law_fact := g__law_fact) (he__law_fact := E__law_fact) (hg__law_left := g__law_left) (he__law_left := E__law_left) (hg__law_mixed := g__law_mixed) (he__law_mixed := E__law_mixed) (hg__law_pick := g__law_pick) (he__law_pick := E__law_pick) (hg__law_pool := g__law_pool) (he__law_pool := E__law_pool) (hg__law_row := g__law_row) (he__law_row := E__law_row) (hg__law_same := g__law_same) (he__law_same := E__law_same) (hg__law_sets := g__law_sets) (he__law_sets := E__law_sets) (hg_left := g_left) (he_left := E_left) (he_left_1 := E_left_1) (hga__law_refused := ga__law_refused) (hak__law_refused := ak__law_refused) (hmc_Account := m_Account) (hic_Account := ec_Account.1) (hoe_Account := ec_Account.2) (hg_Account___eq__ := g_Account___eq__) (he_Account___eq__ := E_Account___eq__) cdv A outer s H E Fm hG.1 ⟨by rw [hG.1]; rfl, rfl, nd, hr.units, hr.g, takes_no, hG.2.trans (by rw [hG.1])⟩ (tabE_law hG.1 rfl (hcv.symm.trans F_law.codeC) htb) hr)) (p_law g__law_draw g__law_pick g__law_pool g__law_row g_Account g__law_counting g__law_sets g__law_mixed g_left g__law_same g__law_left g__law_fact g_Account___eq__ ga__law_refused)
end PP
open PySem PySem.W PySem.Calls PyProof.Rows
theorem PySem.Challenge.cw_giftbars_k04_whole_left_holds : PySem.Challenge.rw_giftbars_k04_whole_left.Holds := by
  w_on; o_law
  refine HandSHeadRun.head_any (r := OpenLaw.row PySem.Challenge.rw_giftbars_k04_whole_left) (q := view (OpenLaw.row PySem.Challenge.rw_giftbars_k04_whole_left).prog [35]) (H := PP.hk) (ob := PP.ob) (M := 4000) (loose := PP.loose) (d := HandSHeadRun.topDef (OpenLaw.row PySem.Challenge.rw_giftbars_k04_whole_left).prog 35) (kwd := []) PP.ob_eq
    (by kernel_rfl) (fun s => by kernel_rfl) PP.run (by kernel_rfl) (by kernel_rfl) (by kernel_rfl) (by rfl) (by first | assumption | decide +kernel) (by decide +kernel) ⟨rfl, rfl, rfl, rfl, rfl, by decide +kernel⟩ ?hw ?hc
  case hw => w_witness2
  case hc =>
    refine LamX.walk_ofET (l := PySem.Challenge.rw_giftbars_k04_whole_left) (n := 63) (k := 9) (x := "_law_script") (CX := L2.CX0) rfl (by decide) (by kernel_rfl) ⟨⟨rfl, by decide, by decide⟩, rfl⟩ ?F (fun _ _ _ _ z => z)
    intro w mg fa h Y G hmg0
    obtain ⟨K, KX, c⟩ := Y
    have hmg : mg ("law" : PySem.Str) = some (.ref fa) := by
      have e : (HandSHeadRun.topDef (OpenLaw.row PySem.Challenge.rw_giftbars_k04_whole_left).prog 35).name = ("law" : PySem.Str) := by kernel_rfl
      rw [← e]
      exact hmg0
    obtain ⟨fd, hb, hF⟩ := PP.facts (PG := (PySem.Challenge.rw_giftbars_k04_whole_left).prog) (w := w) KX G hmg c.d c.more rfl (by kernel_rfl)
    refine ⟨K, fd, PP.tf.map (He.cT K), PP.spLaw K (PP.tbOf PP.tf K), KX, fun p hp => ?_, fun p hp => ?_, PP.codeHd_all KX c.hd, hb, fun H a ns hl hbt hH hS => ⟨a, ns, PP.tabs0 hH, rfl, hS, hl, hbt, fun _ => rfl⟩, hF⟩
    · obtain ⟨q, hq, rfl⟩ := List.mem_map.mp hp
      exact c.empty q hq
    · obtain ⟨q, hq, rfl⟩ := List.mem_map.mp hp
      exact c.out q hq

